import PyProof.Rows.All
import Wide.All
import OpenK.AllK
import Wide.FinOn
import HandS.ForMost
import HandS.ForExc
import HandS.Lambda
import HandS.TupAny
import HandS.TupMul
import HandS.Deep
import HandS.IsInst
import HandS.Style
import HandS.Wide
import HandS.Zip
import HandS.Dict
import HandS.Text
import KE.KExcInit
import HandS.TryMany
import HandS.ExcIs
import KE.GoesEnum
import KE.KDictZip
import HandS.EndTab
import KE.KRevSl
import KE.KIndexOf
import HandS.More
import HandS.SortInts
import PyProof.AutoSeq1
import HandS.Replace
import HandS.ReplaceLit
import HandS.RaiseMore
import HandS.ReplaceList
import KE.IntTextLaws
import PySem.Challenge.RW_provenplay_k76_texts_of_circuits
set_option Elab.async false
set_option linter.all false
set_option maxRecDepth 100000
set_option maxHeartbeats 4000000
/-! Z1: data, the store, the relation between them and the abstract heap. -/
namespace Zv
open PySem PySem.Spec PyProof.Rows L2

abbrev D := PyData
/-- values of the mirror: data that stays; an object of the store; a new list that nobody else has -/
inductive Vl where
  | d (x : PyData)
  | ref (n : Nat)
  | own (xs : List PyData)
  /-- the script -/
  | scr (ns : List Int)
/-- the store's objects -/
inductive Ob where
  | lst (xs : List PyData)
  | dic (kvs : List (Key × Vl))
  /-- a dict whose keys are tuples -/
  | dit (kvs : List (List Key × Vl))
  /-- the table of code objects of a def that makes lambdas -/
  | tab (P : Addr) (q : Str)
abbrev Store := List Ob
/-- an exception: its class's name, what it carries -/
structure Exn where
  cls : Str
  fld : Option (Str × PyData)
abbrev Env := List (Option Vl)
/-- an outcome; an exception comes with the slots at its place -/
inductive Res (α : Type) where
  | ok (a : α) (st : Store)
  | exc (e : Exn) (ρ : Env) (st : Store)
  | stuck
abbrev M (α : Type) := Store → Res α
@[reducible] def M.pure {α : Type} (a : α) : M α := fun st => .ok a st
def M.bind {α β : Type} (x : M α) (f : α → M β) : M β := fun st => match x st with
  | .ok a st' => f a st'
  | .exc e ρ st' => .exc e ρ st'
  | .stuck => .stuck
instance : Monad M where
  pure := M.pure
  bind := M.bind
def M.stuck {α : Type} : M α := fun _ => .stuck
def M.ofOpt {α : Type} : Option α → M α
  | some a => fun st => .ok a st
  | none => fun _ => .stuck
abbrev G := Env → M Vl
abbrev GB := Env → M Bool
abbrev GA := Env → M (List Vl)

/-! ### data over a heap of things that stay -/
mutual
inductive Dn (K : PySem.W.Frag) (F : Hp) : V → PyData → Prop
  | non : Dn K F .non .none
  | bl (b : Bool) : Dn K F (.bl b) (.bool b)
  | int (i : Int) : Dn K F (.int i) (.int i)
  | str (x : Str) : Dn K F (.str x) (.str x)
  | lst {a : Addr} {xs : List V} {ds : List PyData} : F a = some (.lst xs) → DnAll K F xs ds → Dn K F (.ref a) (.list ds)
  | tup {a : Addr} {xs : List V} {ds : List PyData} : F a = some (.tup xs) → DnAll K F xs ds → Dn K F (.ref a) (.tuple ds)
inductive DnAll (K : PySem.W.Frag) (F : Hp) : List V → List PyData → Prop
  | nil : DnAll K F [] []
  | cons {v : V} {vs : List V} {d : PyData} {ds : List PyData} : Dn K F v d → DnAll K F vs ds → DnAll K F (v :: vs) (d :: ds)
end
variable {K : PySem.W.Frag} {F F' H H' H0 H1 H2 : Hp} {v : V} {vs ws : List V} {d : PyData} {ds es : List PyData} {a : Addr}
theorem sqT_mono (e : Same F F') {xs : List V} (h : SqT K F a xs) : SqT K F' a xs := by
  rcases h with (h | ⟨o, h⟩) | h
  · exact .inl (.inl (e _ _ h))
  · exact .inl (.inr ⟨o, e _ _ h⟩)
  · exact .inr h
mutual
theorem Dn.mono (e : Same F F') : ∀ (d : PyData) (v : V), Dn K F v d → Dn K F' v d
  | .none, _, h => by cases h; exact .non
  | .bool b, _, h => by cases h; exact .bl b
  | .int i, _, h => by cases h; exact .int i
  | .str x, _, h => by cases h; exact .str x
  | .list ds, _, h => by cases h with | lst q r => exact .lst (e _ _ q) (DnAll.mono e ds _ r)
  | .tuple ds, _, h => by cases h with | tup q r => exact .tup (e _ _ q) (DnAll.mono e ds _ r)
  | .dict _, _, h => by cases h
theorem DnAll.mono (e : Same F F') : ∀ (ds : List PyData) (vs : List V), DnAll K F vs ds → DnAll K F' vs ds
  | [], _, h => by cases h; exact .nil
  | d :: ds, _, h => by cases h with | cons q r => exact .cons (Dn.mono e d _ q) (DnAll.mono e ds _ r)
end
mutual
theorem Dn.dp : ∀ (d : PyData) (v : V), Dn K F v d → Dp K F v d
  | .none, _, h => by cases h; exact .non
  | .bool b, _, h => by cases h; exact .bl b
  | .int i, _, h => by cases h; exact .int i
  | .str x, _, h => by cases h; exact .str x
  | .list ds, _, h => by cases h with | lst q r => exact .lst (SqL.of q) (DnAll.dp ds _ r)
  | .tuple ds, _, h => by cases h with | tup q r => exact .tup (SqT.of q) (DnAll.dp ds _ r)
  | .dict _, _, h => by cases h
theorem DnAll.dp : ∀ (ds : List PyData) (vs : List V), DnAll K F vs ds → DpAll K F vs ds
  | [], _, h => by cases h; exact .nil
  | d :: ds, _, h => by cases h with | cons q r => exact .cons (Dn.dp d _ q) (DnAll.dp ds _ r)
end
theorem DnAll.len : ∀ {vs : List V} {ds : List PyData}, DnAll K F vs ds → vs.length = ds.length
  | _, _, .nil => rfl
  | _, _, .cons _ r => by rw [List.length_cons, List.length_cons, DnAll.len r]
theorem DnAll.get : ∀ {vs : List V} {ds : List PyData} {i : Nat} {d : PyData}, DnAll K F vs ds → ds[i]? = some d → ∃ v, vs[i]? = some v ∧ Dn K F v d
  | _, _, _, _, .nil, h => by simp at h
  | _, _, 0, _, .cons q _, h => ⟨_, rfl, by simp at h; subst h; exact q⟩
  | _, _, i + 1, _, .cons _ r, h => by
    obtain ⟨v, e, q⟩ := DnAll.get (i := i) r (by simpa using h)
    exact ⟨v, by simpa using e, q⟩
theorem DnAll.getV : ∀ {vs : List V} {ds : List PyData} {i : Nat} {v : V}, DnAll K F vs ds → vs[i]? = some v → ∃ d, ds[i]? = some d ∧ Dn K F v d
  | _, _, _, _, .nil, h => by simp at h
  | _, _, 0, _, .cons q _, h => ⟨_, rfl, by simp at h; subst h; exact q⟩
  | _, _, i + 1, _, .cons _ r, h => by
    obtain ⟨v, e, q⟩ := DnAll.getV (i := i) r (by simpa using h)
    exact ⟨v, by simpa using e, q⟩
theorem DnAll.append : ∀ {vs ws : List V} {ds es : List PyData}, DnAll K F vs ds → DnAll K F ws es → DnAll K F (vs ++ ws) (ds ++ es)
  | _, _, _, _, .nil, s => s
  | _, _, _, _, .cons q r, s => .cons q (DnAll.append r s)
theorem DnAll.take : ∀ {vs : List V} {ds : List PyData} (n : Nat), DnAll K F vs ds → DnAll K F (vs.take n) (ds.take n)
  | _, _, 0, _ => .nil
  | _, _, _ + 1, .nil => .nil
  | _, _, n + 1, .cons q r => .cons q (DnAll.take n r)
theorem DnAll.drop : ∀ {vs : List V} {ds : List PyData} (n : Nat), DnAll K F vs ds → DnAll K F (vs.drop n) (ds.drop n)
  | _, _, 0, r => r
  | _, _, _ + 1, .nil => .nil
  | _, _, n + 1, .cons _ r => DnAll.drop n r
theorem DnAll.rev : ∀ {vs : List V} {ds : List PyData}, DnAll K F vs ds → DnAll K F vs.reverse ds.reverse
  | _, _, .nil => .nil
  | _, _, .cons q r => by rw [List.reverse_cons, List.reverse_cons]; exact DnAll.append (DnAll.rev r) (.cons q .nil)
theorem DnAll.one (h : Dn K F v d) : DnAll K F [v] [d] := .cons h .nil

/-! ### values, objects, the store -/
abbrev Adr := List Addr
/-- neither a table of code objects nor a thing of another kind -/
def Od (o : HO) : Prop := (∀ ps, o ≠ .tbl ps) ∧ ∀ f, o ≠ .ext f
theorem Od.lst {xs : List V} : Od (.lst xs) := ⟨fun _ z => (by cases z), fun _ z => (by cases z)⟩
/-- nothing of the ordinary kind stands there -/
def Nw (H : Hp) (a : Addr) : Prop := ∀ o, H a = some o → ¬ Od o
theorem Nw.of {H : Hp} {a : Addr} (h : H a = none) : Nw H a := fun o e => by rw [h] at e; cases e
theorem Nw.no {H : Hp} {a : Addr} {o : HO} (h : Nw H a) (e : H a = some o) (n : Od o) : False := h o e n
/-- what a value of a frame, or of a dict of the store, is -/
def RelVl (K : PySem.W.Frag) (F : Hp) (ι : Adr) : V → Vl → Prop
  | v, .d x => Dn K F v x
  | v, .ref n => ∃ a, ι[n]? = some a ∧ v = .ref a
  | _, .own _ => False
  | v, .scr ns => ∃ a, v = .ref a ∧ SqL K F a (ns.map V.int)
/-- what an expression gives: H0 is the heap at its beginning -/
def RelR (K : PySem.W.Frag) (F : Hp) (ι : Adr) (H0 H : Hp) : V → Vl → Prop
  | v, .d x => Dn K F v x
  | v, .ref n => ∃ a, ι[n]? = some a ∧ v = .ref a
  | v, .own xs => ∃ l vs, v = .ref l ∧ H l = some (.lst vs) ∧ F l = none ∧ l ∉ ι ∧ Nw H0 l ∧ DnAll K F vs xs
  | v, .scr ns => ∃ a, v = .ref a ∧ SqL K F a (ns.map V.int)
def RelO (K : PySem.W.Frag) (F : Hp) (ι : Adr) (H : Hp) (a : Addr) : Ob → Prop
  | .lst xs => ∃ vs, H a = some (.lst vs) ∧ DnAll K F vs xs
  | .dic kvs => ∃ us, H a = some (.dK us) ∧ Paired (fun (p : Key × V) (q : Key × Vl) => p.1 = q.1 ∧ RelVl K F ι p.2 q.2) us kvs
  | .dit kvs => ∃ us, H a = some (.dT us) ∧ Paired (fun (p : List Key × V) (q : List Key × Vl) => p.1 = q.1 ∧ RelVl K F ι p.2 q.2) us kvs
  | .tab P q => a = P ∧ LamX.TabS H a q
/-- an object's references go to earlier ones -/
def Down : Nat → Ob → Prop
  | _, .lst _ => True
  | m, .dic kvs => ∀ p ∈ kvs, ∀ k, p.2 = Vl.ref k → k < m
  | m, .dit kvs => ∀ p ∈ kvs, ∀ k, p.2 = Vl.ref k → k < m
  | _, .tab _ _ => True
structure Rel (K : PySem.W.Frag) (F : Hp) (ι : Adr) (st : Store) (H : Hp) : Prop where
  sub : Same F H
  ntb : ∀ (a : Addr) (o : HO), F a = some o → ∀ ps, o ≠ .tbl ps
  down : ∀ (m : Nat) (o : Ob), st[m]? = some o → Down m o
  len : ι.length = st.length
  nodup : ι.Nodup
  apart : ∀ a, a ∈ ι → F a = none
  obj : ∀ (n : Nat) (a : Addr) (o : Ob), ι[n]? = some a → st[n]? = some o → RelO K F ι H a o
theorem tabS_upd {P : Addr} {q : Str} {H : Hp} {p : Addr} {o : HO} (h : LamX.TabS H P q) (n1 : ∀ ps, H p ≠ some (.tbl ps)) (n2 : ∀ f, H p ≠ some (.ext f)) : LamX.TabS (upd H p o) P q := by
  obtain ⟨ps, a1, a2, a3⟩ := h
  have ne : P ≠ p := fun z => by rw [z] at a1; exact n1 ps a1
  refine ⟨ps, by rw [upd_ne ne]; exact a1, a2, fun pos cv hc => ?_⟩
  obtain ⟨c, e1, e2⟩ := a3 pos cv hc
  have nc : c ≠ p := fun z => by rw [z] at e2; exact n2 _ e2
  exact ⟨c, e1, by rw [upd_ne nc]; exact e2⟩
structure Step (F : Hp) (ι : Adr) (H F' : Hp) (ι' : Adr) (H' : Hp) : Prop where
  grow : Same F F'
  new : ∀ a o, F' a = some o → F a = some o ∨ Nw H a
  iota : ∃ more, ι' = ι ++ more ∧ ∀ a ∈ more, Nw H a
  keep : ∀ a o, H a = some o → a ∉ ι → Od o → H' a = some o
  there : ∀ a, Nw H' a → Nw H a
def REnv (K : PySem.W.Frag) (F : Hp) (ι : Adr) (ρ : Env) (σ : L2.St) : Prop :=
  ρ.length = σ.length ∧ ∀ (i : Nat) (x : Vl), ρ[i]? = some (some x) → ∃ v, σ[i]? = some (some v) ∧ RelVl K F ι v x

variable {ι ι' ι1 ι2 : Adr} {st st' : Store}
theorem Step.refl (F : Hp) (ι : Adr) (H : Hp) : Step F ι H F ι H :=
  ⟨Same.refl F, fun _ _ h => .inl h, ⟨[], by simp, fun _ h => by cases h⟩, fun _ _ h _ _ => h, fun _ h => h⟩
variable {Fa Fb Fc Ha Hb Hc : Hp} {ιa ιb ιc : Adr}
theorem Step.trans (s : Step Fa ιa Ha Fb ιb Hb) (t : Step Fb ιb Hb Fc ιc Hc) : Step Fa ιa Ha Fc ιc Hc where
  grow := s.grow.trans t.grow
  new := fun a o h => by
    rcases t.new a o h with q | q
    · exact s.new a o q
    · exact .inr (s.there a q)
  iota := by
    obtain ⟨m1, e1, h1⟩ := s.iota
    obtain ⟨m2, e2, h2⟩ := t.iota
    refine ⟨m1 ++ m2, by rw [e2, e1, List.append_assoc], fun a ha => ?_⟩
    rcases List.mem_append.mp ha with q | q
    · exact h1 a q
    · exact s.there a (h2 a q)
  keep := fun a o h n nt => by
    obtain ⟨m1, e1, h1⟩ := s.iota
    refine t.keep a o (s.keep a o h n nt) (fun z => ?_) nt
    rw [e1] at z
    rcases List.mem_append.mp z with q | q
    · exact n q
    · exact (h1 a q).no h nt
  there := fun a h => s.there a (t.there a h)
theorem Step.iget (s : Step Fa ιa Ha Fb ιb Hb) {n : Nat} {a : Addr} (h : ιa[n]? = some a) : ιb[n]? = some a := by
  obtain ⟨m, e, _⟩ := s.iota
  rw [e, List.getElem?_append_left (List.getElem?_eq_some_iff.mp h).1]
  exact h
theorem Step.ni (s : Step Fa ιa Ha Fb ιb Hb) {o : HO} (h : Ha a = some o) (n : a ∉ ιa) (nt : Od o := by exact ⟨fun _ z => (by cases z), fun _ z => (by cases z)⟩) : a ∉ ιb := fun z => by
  obtain ⟨m, e, hm⟩ := s.iota
  rw [e] at z
  rcases List.mem_append.mp z with q | q
  · exact n q
  · exact (hm a q).no h nt
theorem Step.nf (s : Step Fa ιa Ha Fb ιb Hb) {o : HO} (h : Ha a = some o) (n : Fa a = none) (nt : Od o := by exact ⟨fun _ z => (by cases z), fun _ z => (by cases z)⟩) : Fb a = none := by
  cases e : Fb a with
  | none => rfl
  | some u =>
    rcases s.new a u e with q | q
    · rw [n] at q; cases q
    · exact (q.no h nt).elim
theorem RelVl.mono {x : Vl} (g : Same F F') (hi : ∀ (n : Nat) a, ι[n]? = some a → ι'[n]? = some a) (h : RelVl K F ι v x) : RelVl K F' ι' v x := by
  cases x with
  | d x => exact Dn.mono g x v h
  | ref n => obtain ⟨a, e, q⟩ := h; exact ⟨a, hi n a e, q⟩
  | own xs => exact h.elim
  | scr ns => obtain ⟨a, e, q⟩ := h; exact ⟨a, e, g.seq q⟩
theorem RelVl.step {x : Vl} (s : Step Fa ιa Ha Fb ιb Hb) (h : RelVl K Fa ιa v x) : RelVl K Fb ιb v x := h.mono s.grow fun _ _ e => s.iget e
theorem RelR.step {x : Vl} (s : Step Fa ιa Ha Fb ιb Hb) (h : RelR K Fa ιa H0 Ha v x) : RelR K Fb ιb H0 Hb v x := by
  cases x with
  | d x => exact Dn.mono s.grow x v h
  | ref n => obtain ⟨a, e, q⟩ := h; exact ⟨a, s.iget e, q⟩
  | own xs =>
    obtain ⟨l, vs, e, h1, h2, h3, h4, h5⟩ := h
    exact ⟨l, vs, e, s.keep l _ h1 h3 .lst, s.nf h1 h2, s.ni h1 h3, h4, DnAll.mono s.grow xs vs h5⟩
  | scr ns => obtain ⟨a, e, q⟩ := h; exact ⟨a, e, s.grow.seq q⟩
/-- seen from an earlier beginning -/
theorem RelR.back {x : Vl} (s : Step Fa ιa Ha Fb ιb Hb) (h : RelR K Fc ιc Hb Hc v x) : RelR K Fc ιc Ha Hc v x := by
  cases x with
  | d x => exact h
  | ref n => exact h
  | own xs =>
    obtain ⟨l, vs, e, h1, h2, h3, h4, h5⟩ := h
    exact ⟨l, vs, e, h1, h2, h3, s.there l h4, h5⟩
  | scr ns => exact h
theorem RelR.back' {x : Vl} (s : ∀ a, Nw H1 a → Nw H0 a) (h : RelR K Fc ιc H1 Hc v x) : RelR K Fc ιc H0 Hc v x := by
  cases x with
  | d x => exact h
  | ref n => exact h
  | own xs =>
    obtain ⟨l, vs, e, h1, h2, h3, h4, h5⟩ := h
    exact ⟨l, vs, e, h1, h2, h3, s l h4, h5⟩
  | scr ns => exact h
theorem RelVl.toR {x : Vl} (h : RelVl K F ι v x) : RelR K F ι H0 H v x := by
  cases x with
  | d x => exact h
  | ref n => exact h
  | own xs => exact h.elim
  | scr ns => exact h
theorem REnv.step {ρ : Env} {σ : L2.St} (s : Step Fa ιa Ha Fb ιb Hb) (h : REnv K Fa ιa ρ σ) : REnv K Fb ιb ρ σ :=
  ⟨h.1, fun i x e => let ⟨v, e', r⟩ := h.2 i x e; ⟨v, e', r.step s⟩⟩
theorem REnv.set {ρ : Env} {σ : L2.St} {x : Vl} (h : REnv K F ι ρ σ) (i : Nat) (r : RelVl K F ι v x) : REnv K F ι (ρ.set i (some x)) (σ.set i (some v)) := by
  refine ⟨by simpa using h.1, fun j y e => ?_⟩
  by_cases q : j = i
  · subst q
    have hl : j < ρ.length := by
      by_cases q : j < ρ.length
      · exact q
      · rw [List.getElem?_eq_none (by simp; omega)] at e; cases e
    rw [List.getElem?_set_self hl] at e
    cases e
    exact ⟨v, List.getElem?_set_self (by rw [← h.1]; exact hl), r⟩
  · rw [List.getElem?_set_ne (Ne.symm q)] at e
    rw [List.getElem?_set_ne (Ne.symm q)]
    exact h.2 j y e

theorem paired_mono {α β : Type} {P Q : α → β → Prop} (f : ∀ a b, P a b → Q a b) : ∀ {l : List α} {m : List β}, Paired P l m → Paired Q l m
  | _, _, .nil => .nil
  | _, _, .cons h t => .cons (f _ _ h) (paired_mono f t)

/-! ### steps of the state -/
/-- a new object that stays -/
theorem Rel.lay {p : Addr} {o : HO} (R : Rel K F ι st H) (hp : H p = none) (nt : ∀ ps, o ≠ .tbl ps := by intro _ z; cases z) : Rel K (upd F p o) ι st (upd H p o) ∧ Step F ι H (upd F p o) ι (upd H p o) := by
  have gF : Same F (upd F p o) := fun b x e => by
    by_cases q : b = p
    · subst q; rw [R.sub b x e] at hp; cases hp
    · rw [upd_ne q]; exact e
  have ni : p ∉ ι := fun z => by
    obtain ⟨n, hn, e⟩ := List.mem_iff_getElem.mp z
    have e1 : ι[n]? = some p := by rw [List.getElem?_eq_getElem hn, e]
    have hn' : n < st.length := by rw [← R.len]; exact hn
    have x := R.obj n p st[n] e1 (List.getElem?_eq_getElem hn')
    cases eo : st[n] with
    | lst xs => rw [eo] at x; obtain ⟨vs, q, _⟩ := x; rw [hp] at q; cases q
    | dic xs => rw [eo] at x; obtain ⟨vs, q, _⟩ := x; rw [hp] at q; cases q
    | dit xs => rw [eo] at x; obtain ⟨vs, q, _⟩ := x; rw [hp] at q; cases q
    | tab P q => rw [eo] at x; obtain ⟨rfl, ps, q, _⟩ := x; rw [hp] at q; cases q
  refine ⟨⟨fun b x e => ?_, fun b x e => ?_, R.down, R.len, R.nodup, fun b hb => ?_, fun n b ob e1 e2 => ?_⟩, ⟨gF, fun b x e => ?_, ⟨[], by simp, fun _ z => by cases z⟩, fun b x e _ _ => ?_, fun b e o' e' => ?_⟩⟩
  · by_cases q : b = p
    · subst q; rw [upd_same] at e ⊢; exact e
    · rw [upd_ne q] at e ⊢; exact R.sub b x e
  · by_cases q : b = p
    · subst q; rw [upd_same] at e; cases e; exact nt
    · rw [upd_ne q] at e; exact R.ntb b x e
  · have q : b ≠ p := fun z => ni (z ▸ hb)
    rw [upd_ne q]; exact R.apart b hb
  · have q : b ≠ p := fun z => ni (z ▸ List.mem_of_getElem? e1)
    have x := R.obj n b ob e1 e2
    cases ob with
    | lst xs => obtain ⟨vs, q1, q2⟩ := x; exact ⟨vs, by rw [upd_ne q]; exact q1, DnAll.mono gF xs vs q2⟩
    | dic kvs => obtain ⟨us, q1, q2⟩ := x; exact ⟨us, by rw [upd_ne q]; exact q1, paired_mono (fun a b ⟨h1, h2⟩ => ⟨h1, h2.mono gF fun _ _ e => e⟩) q2⟩
    | dit kvs => obtain ⟨us, q1, q2⟩ := x; exact ⟨us, by rw [upd_ne q]; exact q1, paired_mono (fun a b ⟨h1, h2⟩ => ⟨h1, h2.mono gF fun _ _ e => e⟩) q2⟩
    | tab P q => exact ⟨x.1, tabS_upd x.2 (fun _ z => by rw [hp] at z; cases z) (fun _ z => by rw [hp] at z; cases z)⟩
  · by_cases q : b = p
    · subst q; exact .inr (.of hp)
    · rw [upd_ne q] at e; exact .inl e
  · by_cases q : b = p
    · subst q; rw [hp] at e; cases e
    · rw [upd_ne q]; exact e
  · by_cases q : b = p
    · subst q; rw [hp] at e'; cases e'
    · exact e o' (by rw [upd_ne q]; exact e')
/-- every object of the store is there -/
theorem Rel.tracked (R : Rel K F ι st H) (h : a ∈ ι) : ∃ o, H a = some o := by
  obtain ⟨n, hn, e⟩ := List.mem_iff_getElem.mp h
  have e1 : ι[n]? = some a := by rw [List.getElem?_eq_getElem hn, e]
  have hn' : n < st.length := by rw [← R.len]; exact hn
  have x := R.obj n a st[n] e1 (List.getElem?_eq_getElem hn')
  cases eo : st[n] with
  | lst xs => rw [eo] at x; obtain ⟨vs, q, _⟩ := x; exact ⟨_, q⟩
  | dic xs => rw [eo] at x; obtain ⟨vs, q, _⟩ := x; exact ⟨_, q⟩
  | dit xs => rw [eo] at x; obtain ⟨vs, q, _⟩ := x; exact ⟨_, q⟩
  | tab P q => rw [eo] at x; obtain ⟨_, ps, q, _⟩ := x; exact ⟨_, q⟩
theorem Rel.ni (R : Rel K F ι st H) (h : H a = none) : a ∉ ι := fun z => by
  obtain ⟨o, e⟩ := R.tracked z
  rw [h] at e; cases e
theorem Rel.nf (R : Rel K F ι st H) (h : H a = none) : F a = none := by
  cases e : F a with
  | none => rfl
  | some o => rw [R.sub a o e] at h; cases h
/-- a new object that nobody knows yet -/
theorem Rel.put {p : Addr} {o : HO} (R : Rel K F ι st H) (hp : H p = none) : Rel K F ι st (upd H p o) ∧ Step F ι H F ι (upd H p o) := by
  have ni := R.ni hp
  refine ⟨⟨fun b x e => ?_, R.ntb, R.down, R.len, R.nodup, R.apart, fun n b ob e1 e2 => ?_⟩, ⟨Same.refl F, fun b x e => .inl e, ⟨[], by simp, fun _ z => by cases z⟩, fun b x e _ _ => ?_, fun b e o' e' => ?_⟩⟩
  · have q : b ≠ p := fun z => by rw [z, R.nf hp] at e; cases e
    rw [upd_ne q]; exact R.sub b x e
  · have q : b ≠ p := fun z => ni (z ▸ List.mem_of_getElem? e1)
    have x := R.obj n b ob e1 e2
    cases ob with
    | lst xs => obtain ⟨vs, q1, q2⟩ := x; exact ⟨vs, by rw [upd_ne q]; exact q1, q2⟩
    | dic kvs => obtain ⟨us, q1, q2⟩ := x; exact ⟨us, by rw [upd_ne q]; exact q1, q2⟩
    | dit kvs => obtain ⟨us, q1, q2⟩ := x; exact ⟨us, by rw [upd_ne q]; exact q1, q2⟩
    | tab P q => exact ⟨x.1, tabS_upd x.2 (fun _ z => by rw [hp] at z; cases z) (fun _ z => by rw [hp] at z; cases z)⟩
  · by_cases q : b = p
    · subst q; rw [hp] at e; cases e
    · rw [upd_ne q]; exact e
  · by_cases q : b = p
    · subst q; rw [hp] at e'; cases e'
    · exact e o' (by rw [upd_ne q]; exact e')
/-- an object that is nobody else's changes -/
theorem Rel.put' {p : Addr} {o : HO} (R : Rel K F ι st H) (hf : F p = none) (hi : p ∉ ι) (hk1 : ∀ ps, H p ≠ some (.tbl ps)) (hk2 : ∀ f, H p ≠ some (.ext f)) : Rel K F ι st (upd H p o) := by
  refine ⟨fun b x e => ?_, R.ntb, R.down, R.len, R.nodup, R.apart, fun n b ob e1 e2 => ?_⟩
  · have q : b ≠ p := fun z => by rw [z, hf] at e; cases e
    rw [upd_ne q]; exact R.sub b x e
  · have q : b ≠ p := fun z => hi (z ▸ List.mem_of_getElem? e1)
    have x := R.obj n b ob e1 e2
    cases ob with
    | lst xs => obtain ⟨vs, q1, q2⟩ := x; exact ⟨vs, by rw [upd_ne q]; exact q1, q2⟩
    | dic kvs => obtain ⟨us, q1, q2⟩ := x; exact ⟨us, by rw [upd_ne q]; exact q1, q2⟩
    | dit kvs => obtain ⟨us, q1, q2⟩ := x; exact ⟨us, by rw [upd_ne q]; exact q1, q2⟩
    | tab P q => exact ⟨x.1, tabS_upd x.2 hk1 hk2⟩
/-- an object that is nobody else's becomes one that stays -/
theorem Rel.freeze {p : Addr} {o : HO} (R : Rel K F ι st H) (hp : H p = some o) (hf : F p = none) (hi : p ∉ ι) (nt : ∀ ps, o ≠ .tbl ps := by intro _ z; cases z) : Rel K (upd F p o) ι st H ∧ Same F (upd F p o) := by
  have gF : Same F (upd F p o) := fun b x e => by
    have q : b ≠ p := fun z => by rw [z, hf] at e; cases e
    rw [upd_ne q]; exact e
  refine ⟨⟨fun b x e => ?_, fun b x e => ?_, R.down, R.len, R.nodup, fun b hb => ?_, fun n b ob e1 e2 => ?_⟩, gF⟩
  · by_cases q : b = p
    · subst q; rw [upd_same] at e; rw [hp]; exact e
    · rw [upd_ne q] at e; exact R.sub b x e
  · by_cases q : b = p
    · subst q; rw [upd_same] at e; cases e; exact nt
    · rw [upd_ne q] at e; exact R.ntb b x e
  · have q : b ≠ p := fun z => hi (z ▸ hb)
    rw [upd_ne q]; exact R.apart b hb
  · have x := R.obj n b ob e1 e2
    cases ob with
    | lst xs => obtain ⟨vs, q1, q2⟩ := x; exact ⟨vs, q1, DnAll.mono gF xs vs q2⟩
    | dic kvs => obtain ⟨us, q1, q2⟩ := x; exact ⟨us, q1, paired_mono (fun a b ⟨h1, h2⟩ => ⟨h1, h2.mono gF fun _ _ e => e⟩) q2⟩
    | dit kvs => obtain ⟨us, q1, q2⟩ := x; exact ⟨us, q1, paired_mono (fun a b ⟨h1, h2⟩ => ⟨h1, h2.mono gF fun _ _ e => e⟩) q2⟩
    | tab P q => exact x
theorem Step.freeze {p : Addr} {o : HO} (s : Step Fa ιa Ha Fb ιb Hb) (hp : Nw Ha p) (gF : Same Fb (upd Fb p o)) : Step Fa ιa Ha (upd Fb p o) ιb Hb :=
  ⟨s.grow.trans gF, fun b x e => by
    by_cases q : b = p
    · subst q; exact .inr hp
    · rw [upd_ne q] at e; exact s.new b x e, s.iota, s.keep, s.there⟩
/-- an object that is nobody else's enters the store -/
theorem Rel.enter {p : Addr} {ob : Ob} (R : Rel K F ι st H) (hf : F p = none) (hi : p ∉ ι) (ho : RelO K F (ι ++ [p]) H p ob) (hd : Down st.length ob) : Rel K F (ι ++ [p]) (st ++ [ob]) H := by
  have hl := R.len
  have hi' : ∀ (n : Nat) (a : Addr), ι[n]? = some a → (ι ++ [p])[n]? = some a := fun n a e => by
    rw [List.getElem?_append_left (List.getElem?_eq_some_iff.mp e).1]; exact e
  refine ⟨R.sub, R.ntb, fun m o e => ?_, by simp [hl], ?_, fun b hb => ?_, fun n b o e1 e2 => ?_⟩
  · by_cases q : m < st.length
    · rw [List.getElem?_append_left q] at e; exact R.down m o e
    · have hn : m < (st ++ [ob]).length := (List.getElem?_eq_some_iff.mp e).1
      have en : m = st.length := by simp at hn; omega
      subst en
      have e' : ob = o := by simpa using e
      subst e'; exact hd
  · refine List.nodup_append.mpr ⟨R.nodup, by simp, fun x hx y hy z => ?_⟩
    have : y = p := by simpa using hy
    subst this; subst z; exact hi hx
  · rcases List.mem_append.mp hb with q | q
    · exact R.apart b q
    · have : b = p := by simpa using q
      subst this; exact hf
  · by_cases q : n < ι.length
    · rw [List.getElem?_append_left q] at e1
      rw [List.getElem?_append_left (by rw [← hl]; exact q)] at e2
      have x := R.obj n b o e1 e2
      cases o with
      | lst xs => exact x
      | dic kvs => obtain ⟨us, q1, q2⟩ := x; exact ⟨us, q1, paired_mono (fun a b ⟨h1, h2⟩ => ⟨h1, h2.mono (Same.refl F) hi'⟩) q2⟩
      | dit kvs => obtain ⟨us, q1, q2⟩ := x; exact ⟨us, q1, paired_mono (fun a b ⟨h1, h2⟩ => ⟨h1, h2.mono (Same.refl F) hi'⟩) q2⟩
      | tab P q => exact x
    · have hn : n < (ι ++ [p]).length := (List.getElem?_eq_some_iff.mp e1).1
      have en : n = ι.length := by simp at hn; omega
      subst en
      have e1' : p = b := by simpa using e1
      rw [hl] at e2
      have e2' : ob = o := by simpa using e2
      subst e1'; subst e2'
      exact ho
theorem Step.enter {p : Addr} (s : Step Fa ιa Ha Fb ιb Hb) (hp : Nw Ha p) : Step Fa ιa Ha Fb (ιb ++ [p]) Hb :=
  ⟨s.grow, s.new, by
    obtain ⟨m, e, h⟩ := s.iota
    refine ⟨m ++ [p], by rw [e, List.append_assoc], fun a ha => ?_⟩
    rcases List.mem_append.mp ha with q | q
    · exact h a q
    · have : a = p := by simpa using q
      subst this; exact hp, s.keep, s.there⟩
/-- an object of the store changes -/
theorem Rel.write {n : Nat} {p : Addr} {ho : HO} {ob : Ob} (R : Rel K F ι st H) (hn : ι[n]? = some p) (hk1 : ∀ ps, H p ≠ some (.tbl ps)) (hk2 : ∀ f, H p ≠ some (.ext f)) (hob : RelO K F ι (upd H p ho) p ob) (hd : Down n ob) (hnt : Od ho := by exact ⟨fun _ z => (by cases z), fun _ z => (by cases z)⟩) :
    Rel K F ι (st.set n ob) (upd H p ho) ∧ Step F ι H F ι (upd H p ho) := by
  have hm : p ∈ ι := List.mem_of_getElem? hn
  have hl : n < st.length := by rw [← R.len]; exact (List.getElem?_eq_some_iff.mp hn).1
  obtain ⟨o0, ho0⟩ := R.tracked hm
  refine ⟨⟨fun b x e => ?_, R.ntb, fun m o e => ?_, by simpa using R.len, R.nodup, R.apart, fun m b o e1 e2 => ?_⟩, ⟨Same.refl F, fun b x e => .inl e, ⟨[], by simp, fun _ z => by cases z⟩, fun b x e hb _ => ?_, fun b e o' e' => ?_⟩⟩
  · have q : b ≠ p := fun z => by rw [z, R.apart p hm] at e; cases e
    rw [upd_ne q]; exact R.sub b x e
  · by_cases q : m = n
    · subst q
      rw [List.getElem?_set_self hl] at e
      cases e; exact hd
    · rw [List.getElem?_set_ne (Ne.symm q)] at e
      exact R.down m o e
  · by_cases q : m = n
    · subst q
      rw [List.getElem?_set_self hl] at e2
      rw [hn] at e1
      cases e1; cases e2
      exact hob
    · rw [List.getElem?_set_ne (Ne.symm q)] at e2
      have nb : b ≠ p := fun z => by
        subst z
        have h1 := List.getElem?_eq_some_iff.mp e1
        have h2 := List.getElem?_eq_some_iff.mp hn
        exact q ((List.getElem_inj R.nodup).mp (h1.2.trans h2.2.symm))
      have x := R.obj m b o e1 e2
      cases o with
      | lst xs => obtain ⟨vs, q1, q2⟩ := x; exact ⟨vs, by rw [upd_ne nb]; exact q1, q2⟩
      | dic kvs => obtain ⟨us, q1, q2⟩ := x; exact ⟨us, by rw [upd_ne nb]; exact q1, q2⟩
      | dit kvs => obtain ⟨us, q1, q2⟩ := x; exact ⟨us, by rw [upd_ne nb]; exact q1, q2⟩
      | tab P q => exact ⟨x.1, tabS_upd x.2 hk1 hk2⟩
  · have q : b ≠ p := fun z => hb (z ▸ hm)
    rw [upd_ne q]; exact e
  · by_cases q : b = p
    · subst q
      exact absurd hnt (e ho upd_same)
    · exact e o' (by rw [upd_ne q]; exact e')
/-- the end of the store is given up -/
theorem Rel.cut (R : Rel K F ι st H) (n : Nat) : Rel K F (ι.take n) (st.take n) H := by
  have at' : ∀ {α : Type} {l : List α} {m : Nat} {x : α}, (l.take n)[m]? = some x → m < n ∧ l[m]? = some x := fun {α l m x} e => by
    rw [List.getElem?_take] at e
    by_cases q : m < n
    · rw [if_pos q] at e; exact ⟨q, e⟩
    · rw [if_neg q] at e; cases e
  refine ⟨R.sub, R.ntb, fun m o e => R.down m o (at' e).2, by simp [R.len], R.nodup.sublist (List.take_sublist n ι), fun a ha => R.apart a (List.mem_of_mem_take ha), fun m b o f1 f2 => ?_⟩
  obtain ⟨hm, e1⟩ := at' f1
  have e2 := (at' f2).2
  have x := R.obj m b o e1 e2
  have hk := R.down m o e2
  cases o with
  | lst xs => exact x
  | tab P q => exact x
  | dic kvs =>
    obtain ⟨us, q1, q2⟩ := x
    refine ⟨us, q1, ?_⟩
    replace hk : ∀ p ∈ kvs, ∀ k, p.2 = Vl.ref k → k < n := fun p hp k e => Nat.lt_trans (hk p hp k e) hm
    clear e2 q1 f2
    induction q2 with
    | nil => exact .nil
    | cons h t ih =>
      refine .cons ⟨h.1, ?_⟩ (ih fun p hp => hk p (List.mem_cons_of_mem _ hp))
      rename_i p q _ _
      obtain ⟨h1, h2⟩ := h
      have hq := hk q List.mem_cons_self
      cases e : q.2 with
      | d x => rw [e] at h2; exact h2
      | own xs => rw [e] at h2; exact h2.elim
      | scr ns => rw [e] at h2; exact h2
      | ref k =>
        rw [e] at h2
        obtain ⟨a, e1, e2⟩ := h2
        exact ⟨a, by rw [List.getElem?_take, if_pos (hq k e)]; exact e1, e2⟩
  | dit kvs =>
    obtain ⟨us, q1, q2⟩ := x
    refine ⟨us, q1, ?_⟩
    replace hk : ∀ p ∈ kvs, ∀ k, p.2 = Vl.ref k → k < n := fun p hp k e => Nat.lt_trans (hk p hp k e) hm
    clear e2 q1 f2
    induction q2 with
    | nil => exact .nil
    | cons h t ih =>
      refine .cons ⟨h.1, ?_⟩ (ih fun p hp => hk p (List.mem_cons_of_mem _ hp))
      rename_i p q _ _
      obtain ⟨h1, h2⟩ := h
      have hq := hk q List.mem_cons_self
      cases e : q.2 with
      | d x => rw [e] at h2; exact h2
      | own xs => rw [e] at h2; exact h2.elim
      | scr ns => rw [e] at h2; exact h2
      | ref k =>
        rw [e] at h2
        obtain ⟨a, e1, e2⟩ := h2
        exact ⟨a, by rw [List.getElem?_take, if_pos (hq k e)]; exact e1, e2⟩
theorem Step.cut {n : Nat} (s : Step Fa ιa Ha Fb ιb Hb) (hn : n = ιa.length) : Step Fa ιa Ha Fb (ιb.take n) Hb :=
  ⟨s.grow, s.new, by
    obtain ⟨m, e, h⟩ := s.iota
    exact ⟨[], by rw [e, hn]; simp, fun _ z => by cases z⟩, s.keep, s.there⟩
end Zv
set_option Elab.async false
set_option linter.all false
set_option maxRecDepth 100000
set_option maxHeartbeats 4000000
/-! Z2: readings that the mirror tells; expressions. -/
namespace Zv
open PySem PySem.Spec PyProof.Rows L2

def ExRel (K : PySem.W.Frag) (mg : Str → Option Value) (F H0 H : Hp) (e : Exn) (c : Value) (dx : Option Addr) : Prop :=
  (∃ C, c = .ref C ∧ mg e.cls = some (.ref C)) ∧ match e.fld with
    | none => dx = none
    | some (f, x) => ∃ d v, dx = some d ∧ H d = some (.xd [(f, v)]) ∧ Dn K F v x ∧ Nw H0 d
abbrev RelT (α β : Type) := Hp → Adr → Hp → β → α → Prop
/-- what is wished of exceptions; what is known besides of what stays -/
structure EX where
  w : WX
  Γ : Hp → Adr → L2.St → Prop
  mono : ∀ F F' ι ι' σ, Same F F' → (∀ (n : Nat) a, ι[n]? = some a → ι'[n]? = some a) → Γ F ι σ → Γ F' ι' σ
/-- what is known besides does not hang on the slots -/
def EX.free (E : EX) : Prop := ∀ F ι σ σ', E.Γ F ι σ → E.Γ F ι σ'
/-- .. does not hang on the slots ws -/
def EX.frees (E : EX) (ws : List Nat) : Prop := ∀ F ι σ σ', (∀ j, j ∉ ws → σ'[j]? = σ[j]?) → E.Γ F ι σ → E.Γ F ι σ'
def RelEnv (E : EX) (K : PySem.W.Frag) (F : Hp) (ι : Adr) (ρ : Env) (σ : L2.St) : Prop := E.Γ F ι σ ∧ REnv K F ι ρ σ
theorem RelEnv.step {E : EX} {K : PySem.W.Frag} {Fa Fb Ha Hb : Hp} {ιa ιb : Adr} {ρ : Env} {σ : L2.St} (s : Step Fa ιa Ha Fb ιb Hb) (h : RelEnv E K Fa ιa ρ σ) : RelEnv E K Fb ιb ρ σ := ⟨E.mono _ _ _ _ _ s.grow (fun _ _ e => s.iget e) h.1, h.2.step s⟩
theorem RelEnv.set {E : EX} {K : PySem.W.Frag} {F : Hp} {ι : Adr} {ρ : Env} {σ : L2.St} {x : Vl} {v : V} (fr : E.free) (h : RelEnv E K F ι ρ σ) (i : Nat) (r : RelVl K F ι v x) : RelEnv E K F ι (ρ.set i (some x)) (σ.set i (some v)) := ⟨fr _ _ _ _ h.1, h.2.set i r⟩
/-- of a def -/
abbrev EX.fn (E : XK) : EX := ⟨fun c d _ H => E c d H, fun _ _ _ => True, fun _ _ _ _ _ _ _ _ => trivial⟩
theorem ExRel.back {K : PySem.W.Frag} {mg : Str → Option Value} {F H0 H1 H : Hp} {e : Exn} {c : Value} {dx : Option Addr} (th : ∀ a, Nw H1 a → Nw H0 a) (h : ExRel K mg F H1 H e c dx) : ExRel K mg F H0 H e c dx := by
  refine ⟨h.1, ?_⟩
  have h2 := h.2
  cases hf : e.fld with
  | none => rw [hf] at h2; exact h2
  | some p =>
    obtain ⟨f, x⟩ := p
    rw [hf] at h2
    obtain ⟨d, v, e1, e2, e3, e4⟩ := h2
    exact ⟨d, v, e1, e2, e3, th d e4⟩
def Out {α β : Type} (K : PySem.W.Frag) (mg : Str → Option Value) (E : EX) (F : Hp) (ι : Adr) (H : Hp) (rel : RelT α β) (r : Res α) (Q : β → Hp → Prop) : Prop :=
  match r with
  | .ok a st' => ∀ b F' ι' H', Step F ι H F' ι' H' → Rel K F' ι' st' H' → rel F' ι' H' b a → Q b H'
  | .exc e ρ' st' => ∀ c dx σ' F' ι' H', Step F ι H F' ι' H' → Rel K F' ι' st' H' → RelEnv E K F' ι' ρ' σ' → ExRel K mg F' H H' e c dx → E.w c dx σ' H'
  | .stuck => False
variable {K : PySem.W.Frag} {mg : Str → Option Value} {E : EX} {F F' F1 H H' H0 H1 : Hp} {ι ι' ι1 : Adr} {st st' st1 : Store}
theorem Out.later {α β : Type} {rel : RelT α β} {r : Res α} {Q : β → Hp → Prop} (o : Out K mg E F ι H rel r Q) (s : Step F ι H F1 ι1 H1) : Out K mg E F1 ι1 H1 rel r Q := by
  cases r with
  | ok a st' => exact fun b F' ι' H' s' R q => o b F' ι' H' (s.trans s') R q
  | exc e ρ' st' => exact fun c dx σ' F' ι' H' s' R re q => o c dx σ' F' ι' H' (s.trans s') R re (q.back s.there)
  | stuck => exact o
theorem Out.mono {α β : Type} {rel rel' : RelT α β} {r : Res α} {Q Q' : β → Hp → Prop} (o : Out K mg E F ι H rel r Q) (h1 : ∀ F' ι' H' b a, rel' F' ι' H' b a → rel F' ι' H' b a) (h2 : ∀ b H', Q b H' → Q' b H') : Out K mg E F ι H rel' r Q' := by
  cases r with
  | ok a st' => exact fun b F' ι' H' s' R q => h2 _ _ (o b F' ι' H' s' R (h1 _ _ _ _ _ q))
  | exc e ρ' st' => exact fun c dx σ' F' ι' H' s' R re q => o c dx σ' F' ι' H' s' R re q
  | stuck => exact o
/-- an exception, or nothing, passes on -/
theorem Out.bind {α β γ δ : Type} {rel : RelT β δ} {rel1 : RelT α γ} {x : M α} {f : α → M β} {Q : δ → Hp → Prop} {P : γ → Hp → Prop} (o : Out K mg E F ι H rel (M.bind x f st) Q)
    (h : ∀ b F1 ι1 H1 a st1, Step F ι H F1 ι1 H1 → Rel K F1 ι1 st1 H1 → rel1 F1 ι1 H1 b a → Out K mg E F ι H rel (f a st1) Q → P b H1) : Out K mg E F ι H rel1 (x st) P := by
  unfold M.bind at o
  cases e : x st with
  | ok a st' =>
    rw [e] at o
    exact fun b F' ι' H' s R q => h b F' ι' H' a st' s R q o
  | exc e' ρ' st' =>
    rw [e] at o
    exact o
  | stuck =>
    rw [e] at o
    exact o
abbrev relR (K : PySem.W.Frag) (H0 : Hp) : RelT Vl V := fun F ι H v r => RelR K F ι H0 H v r
abbrev relL (K : PySem.W.Frag) : RelT (List Vl) (List V) := fun F ι _ vs xs => Paired (RelVl K F ι) vs xs
abbrev relB : RelT Bool Bool := fun _ _ _ b c => b = c
def tev (K : PySem.W.Frag) (mg : Str → Option Value) (E : EX) (g : G) : TE := fun σ H Q => ∃ F ι ρ st, Rel K F ι st H ∧ RelEnv E K F ι ρ σ ∧ Out K mg E F ι H (relR K H) (g ρ st) Q
def tav (K : PySem.W.Frag) (mg : Str → Option Value) (E : EX) (g : GA) : TA := fun σ H Q => ∃ F ι ρ st, Rel K F ι st H ∧ RelEnv E K F ι ρ σ ∧ Out K mg E F ι H (relL K) (g ρ st) Q
def ttv (K : PySem.W.Frag) (mg : Str → Option Value) (E : EX) (g : GB) : TT := fun σ H Q => ∃ F ι ρ st, Rel K F ι st H ∧ RelEnv E K F ι ρ σ ∧ Out K mg E F ι H relB (g ρ st) Q
def PEv (X : Cx) (E : EX) (e : Expr) (g : G) : Prop := PE X e (tev X.K X.mg E g)
def PAv (X : Cx) (E : EX) (es : List Expr) (g : GA) : Prop := PA X es (tav X.K X.mg E g)
def PTv (X : Cx) (E : EX) (e : Expr) (g : GB) : Prop := PT X e (ttv X.K X.mg E g)
section
variable {X : Cx} {e : Expr} {g g' : G}
theorem pe_weak {t t' : TE} (h : PE X e t) (w : ∀ σ H Q, t' σ H Q → t σ H Q) : PE X e t' := ⟨fun pins s σ H Q I q => h.run pins s σ H Q I (w σ H Q q)⟩
theorem pt_weak {t t' : TT} (h : PT X e t) (w : ∀ σ H Q, t' σ H Q → t σ H Q) : PT X e t' := ⟨fun pins s σ H Q I q => h.run pins s σ H Q I (w σ H Q q)⟩
theorem pa_weak {es : List Expr} {t t' : TA} (h : PA X es t) (w : ∀ σ H Q, t' σ H Q → t σ H Q) : PA X es t' := ⟨fun pos pins s σ H Q I q => h.run pos pins s σ H Q I (w σ H Q q)⟩
theorem ps_weak {st : Stmt} {t t' : TS} (h : PS X st t) (w : ∀ D σ H, t' D σ H → t D σ H) : PS X st t' := ⟨fun pins s σ H D I q => h.run pins s σ H D I (w D σ H q)⟩
theorem pss_weak {st : List Stmt} {t t' : TS} (h : PSs X st t) (w : ∀ D σ H, t' D σ H → t D σ H) : PSs X st t' := ⟨fun pins s σ H D I q => h.run pins s σ H D I (w D σ H q)⟩
end

/-! ### the mirror's words -/
def gC (x : PyData) : G := fun _ => M.pure (.d x)
def gVar (i : Nat) : G := fun ρ => match ρ[i]? with
  | some (some v) => M.pure v
  | _ => M.stuck
abbrev Op2 := Vl → Vl → M Vl
def gBin (op : Op2) (a b : G) : G := fun ρ => M.bind (a ρ) fun x => M.bind (b ρ) fun y => op x y
def gUn (op : Vl → M Vl) (a : G) : G := fun ρ => M.bind (a ρ) op
def gIf (c : GB) (a b : G) : G := fun ρ => M.bind (c ρ) fun k => if k = true then a ρ else b ρ
def bOf (a : G) : GB := fun ρ => M.bind (a ρ) fun x => match x with
  | .d (.bool b) => M.pure b
  | _ => M.stuck
def bAnd (a b : GB) : GB := fun ρ => M.bind (a ρ) fun k => if k = true then b ρ else M.pure false
def bOr (a b : GB) : GB := fun ρ => M.bind (a ρ) fun k => if k = true then M.pure true else b ρ
def bNot (a : GB) : GB := fun ρ => M.bind (a ρ) fun k => M.pure (!k)
def gNot (a : G) : G := fun ρ => M.bind (bOf a ρ) fun k => M.pure (.d (.bool (!k)))
def gAnd (a b : G) : G := fun ρ => M.bind (bOf a ρ) fun k => if k = true then b ρ else M.pure (.d (.bool false))
def gOr (a b : G) : G := fun ρ => M.bind (bOf a ρ) fun k => if k = true then M.pure (.d (.bool true)) else b ρ
def gaNil : GA := fun _ => M.pure []
/-- what is handed on is nobody's own any more -/
def frz : Vl → Vl
  | .own xs => .d (.list xs)
  | x => x
def gaCons (a : G) (r : GA) : GA := fun ρ => M.bind (a ρ) fun x => M.bind (r ρ) fun xs => M.pure (frz x :: xs)
/-- a new list, or another value, enters the store -/
def enter : Vl → M Vl
  | .own xs => fun st => .ok (.ref st.length) (st ++ [.lst xs])
  | _ => M.stuck
def gaConsE (a : G) (r : GA) : GA := fun ρ => M.bind (M.bind (a ρ) enter) fun x => M.bind (r ρ) fun xs => M.pure (x :: xs)

/-! ### names, constants -/
section
variable {X : Cx} {pos : Pos}
theorem v_var {i : Nat} {x : Str} (hN : X.N[i]? = some x) (hv : Vis X.env.scope x) (hd : (x == ("__debug__" : Str)) = false := by decide) (hcd : (x == ("__classdict__" : Str)) = false := by decide) : PEv X E (.Name x pos) (gVar i) := by
  refine pe_weak (pe_var hN hv hd hcd) fun σ H Q h => ?_
  obtain ⟨F, ι, ρ, st, R, env, o⟩ := h
  unfold gVar at o
  cases q : ρ[i]? with
  | none => rw [q] at o; exact o.elim
  | some y =>
    cases y with
    | none => rw [q] at o; exact o.elim
    | some y =>
      rw [q] at o
      obtain ⟨v, e, r⟩ := env.2.2 i y q
      exact ⟨v, e, o v F ι H (Step.refl F ι H) R r.toR⟩
theorem v_const {e : Expr} {v : V} {x : PyData} (h : PE X e (tC v)) (hd : ∀ F, Dn X.K F v x) : PEv X E e (gC x) := by
  refine pe_weak h fun σ H Q h => ?_
  obtain ⟨F, ι, ρ, st, R, env, o⟩ := h
  exact o v F ι H (Step.refl F ι H) R (hd F)
theorem v_int {i : Int} {j} : PEv X E (.Constant (.int i) j pos) (gC (.int i)) := v_const pe_int fun _ => .int i
theorem v_bl {b j} : PEv X E (.Constant (.bool b) j pos) (gC (.bool b)) := v_const pe_bl fun _ => .bl b
theorem v_non {j} : PEv X E (.Constant .none j pos) (gC .none) := v_const pe_non fun _ => .non
theorem v_str {x : Str} {j} : PEv X E (.Constant (.str x) j pos) (gC (.str x)) := v_const pe_str fun _ => .str x
theorem v_glob {x : Str} {v : V} {u : Value} {d : PyData} (hg : Gl X x) (hm : X.mg x = some u) (r : RelV v u) (hd : ∀ F, Dn X.K F v d) (hdb : (x == ("__debug__" : Str)) = false := by decide) : PEv X E (.Name x pos) (gC d) := v_const (pe_glob hg hm r hdb) hd

/-! ### operations -/
def There (H0 H : Hp) : Prop := ∀ a, Nw H a → Nw H0 a
theorem Step.back (s : Step F ι H F' ι' H') : There H H' := s.there
/-- an operation's rule is met by the mirror's -/
def OpV (K : PySem.W.Frag) (mg : Str → Option Value) (E : EX) (op : Op2) (r : R2) : Prop :=
  ∀ (F : Hp) (ι : Adr) (st : Store) (H H0 : Hp) (x y : V) (a b : Vl) (Q : VK), Rel K F ι st H → There H0 H → RelR K F ι H0 H x a → RelR K F ι H0 H y b → Out K mg E F ι H (relR K H0) (op a b st) Q → r x y H Q
def UnV (K : PySem.W.Frag) (mg : Str → Option Value) (E : EX) (op : Vl → M Vl) (r : V → Hp → VK → Prop) : Prop :=
  ∀ (F : Hp) (ι : Adr) (st : Store) (H H0 : Hp) (x : V) (a : Vl) (Q : VK), Rel K F ι st H → There H0 H → RelR K F ι H0 H x a → Out K mg E F ι H (relR K H0) (op a st) Q → r x H Q
theorem tev_op {ga gb : G} {op : Op2} {r : R2} (hv : OpV K mg E op r) (σ : L2.St) (H : Hp) (Q : VK) (h : tev K mg E (gBin op ga gb) σ H Q) : tOp r (tev K mg E ga) (tev K mg E gb) σ H Q := by
  obtain ⟨F, ι, ρ, st, R, env, o⟩ := h
  refine ⟨F, ι, ρ, st, R, env, o.bind fun x F1 ι1 H1 a st1 s1 R1 r1 o1 => ?_⟩
  refine ⟨F1, ι1, ρ, st1, R1, env.step s1, (o1.later s1).bind fun y F2 ι2 H2 b st2 s2 R2 r2 o2 => ?_⟩
  exact hv F2 ι2 st2 H2 H x y a b Q R2 (fun p q => s1.there p (s2.there p q)) (r1.step s2) (r2.back s1) (o2.later s2)
theorem v_op {a b : Expr} {ga gb : G} {op : Operator} {f : Op2} {r : R2} (ho : OpR X (binaryOp op) r) (hv : OpV X.K X.mg E f r) (ha : PEv X E a ga) (hb : PEv X E b gb) : PEv X E (.BinOp a op b pos) (gBin f ga gb) :=
  pe_weak (pe_op ho ha hb) (tev_op hv)
theorem v_cmp {a b : Expr} {ga gb : G} {op : CmpOp} {f : Op2} {r : R2} (ho : OpR X (compareOp op) r) (hv : OpV X.K X.mg E f r) (ha : PEv X E a ga) (hb : PEv X E b gb) (hm : behindInMarks op b = false) : PEv X E (.Compare a [op] [b] pos) (gBin f ga gb) :=
  pe_weak (pe_cmpR ho ha hb hm) (tev_op hv)
theorem bOf_out {g : G} {Q : Bool → Hp → Prop} {ρ : Env} (o : Out K mg E F ι H relB (bOf g ρ st) Q) : Out K mg E F ι H (relR K H0) (g ρ st) (fun x H' => ∃ k, x = .bl k ∧ Q k H') := by
  unfold bOf at o
  refine o.bind fun x F1 ι1 H1 a st1 s1 R1 r1 o1 => ?_
  cases a with
  | d d =>
    cases d with
    | bool b => cases r1; exact ⟨b, rfl, o1 b F1 ι1 H1 s1 R1 rfl⟩
    | _ => exact o1.elim
  | _ => exact o1.elim
theorem ttv_test {g : G} (σ : L2.St) (H : Hp) (Q : Bool → Hp → Prop) (h : ttv K mg E (bOf g) σ H Q) : tTest (tev K mg E g) σ H Q := by
  obtain ⟨F, ι, ρ, st, R, env, o⟩ := h
  exact ⟨F, ι, ρ, st, R, env, bOf_out o⟩
theorem t_cmp {a b : Expr} {ga gb : G} {op : CmpOp} {f : Op2} {r : R2} (ho : OpR X (compareOp op) r) (hv : OpV X.K X.mg E f r) (ha : PEv X E a ga) (hb : PEv X E b gb) (hm : behindInMarks op b = false) : PTv X E (.Compare a [op] [b] pos) (bOf (gBin f ga gb)) := by
  refine pt_weak (pt_cmpR ho ha hb hm) fun σ H Q h => ?_
  obtain ⟨F, ι, ρ, st, R, env, o⟩ := ttv_test σ H Q h
  exact tev_op hv σ H _ ⟨F, ι, ρ, st, R, env, o⟩
/-- any expression whose value is a bool -/
theorem t_val {e : Expr} {g : G} (h : PEv X E e g) (he : ∀ whole, isTrue e X.env whole = (do let v ← whole; standAt e.pos; holding [v] (truthy v)) := by intro _; rfl) : PTv X E e (bOf g) :=
  pt_weak (pt_val h he) ttv_test
theorem t_not {a : Expr} {t : GB} (ha : PTv X E a t) : PTv X E (.UnaryOp .Not a pos) (bNot t) := by
  refine pt_weak (pt_not ha) fun σ H Q h => ?_
  obtain ⟨F, ι, ρ, st, R, env, o⟩ := h
  refine ⟨F, ι, ρ, st, R, env, o.bind fun b F1 ι1 H1 a st1 s1 R1 r1 o1 => ?_⟩
  cases r1
  exact o1 _ F1 ι1 H1 s1 R1 rfl
/-- a row of and, of or -/
structure PWv (X : Cx) (E : EX) (e : Expr) (g : GB) : Prop where
  w : PW X e (ttv X.K X.mg E g)
theorem PWv.t {e : Expr} {g : GB} (h : PWv X E e g) : PTv X E e g := h.w.pt
theorem w_and1 {a : Expr} {t : GB} (ha : PTv X E a t) : PWv X E (.BoolOp .And [a] pos) t := ⟨pw_and1 ha⟩
theorem w_or1 {a : Expr} {t : GB} (ha : PTv X E a t) : PWv X E (.BoolOp .Or [a] pos) t := ⟨pw_or1 ha⟩
theorem pw_weak {e : Expr} {t t' : TT} (h : PW X e t) (w : ∀ σ H Q, t' σ H Q → t σ H Q) : PW X e t' := ⟨fun wh pins s σ H Q I q => h.run wh pins s σ H Q I (w σ H Q q)⟩
theorem w_and {a b : Expr} {rest : List Expr} {t u : GB} (ha : PTv X E a t) (hb : PWv X E (.BoolOp .And (b :: rest) pos) u) : PWv X E (.BoolOp .And (a :: b :: rest) pos) (bAnd t u) := by
  refine ⟨pw_weak (pw_and ha hb.w) fun σ H Q h => ?_⟩
  obtain ⟨F, ι, ρ, st, R, env, o⟩ := h
  refine ⟨F, ι, ρ, st, R, env, o.bind fun k F1 ι1 H1 k' st1 s1 R1 r1 o1 => ?_⟩
  cases r1
  cases k with
  | true => exact ⟨F1, ι1, ρ, st1, R1, env.step s1, o1.later s1⟩
  | false => exact o1 _ F1 ι1 H1 s1 R1 rfl
theorem w_or {a b : Expr} {rest : List Expr} {t u : GB} (ha : PTv X E a t) (hb : PWv X E (.BoolOp .Or (b :: rest) pos) u) : PWv X E (.BoolOp .Or (a :: b :: rest) pos) (bOr t u) := by
  refine ⟨pw_weak (pw_or ha hb.w) fun σ H Q h => ?_⟩
  obtain ⟨F, ι, ρ, st, R, env, o⟩ := h
  refine ⟨F, ι, ρ, st, R, env, o.bind fun k F1 ι1 H1 k' st1 s1 R1 r1 o1 => ?_⟩
  cases r1
  cases k with
  | false => exact ⟨F1, ι1, ρ, st1, R1, env.step s1, o1.later s1⟩
  | true => exact o1 _ F1 ι1 H1 s1 R1 rfl
theorem v_not {a : Expr} {ga : G} (ha : PEv X E a ga) : PEv X E (.UnaryOp .Not a pos) (gNot ga) := by
  refine pe_weak (pe_not ha) fun σ H Q h => ?_
  obtain ⟨F, ι, ρ, st, R, env, o⟩ := h
  have o2 : Out X.K X.mg E F ι H relB (bOf ga ρ st) (fun k H' => Q (.bl (!k)) H') := by
    unfold gNot at o
    exact o.bind fun k F1 ι1 H1 k' st1 s1 R1 r1 o1 => by cases r1; exact o1 _ F1 ι1 H1 s1 R1 (.bl _)
  exact ⟨F, ι, ρ, st, R, env, bOf_out o2⟩
theorem v_one {op} {a : Expr} {ga : G} (h : PEv X E a ga) : PEv X E (.BoolOp op [a] pos) ga := pe_one h
theorem v_and {a b : Expr} {rest : List Expr} {ga gb : G} (ha : PEv X E a ga) (hb : PEv X E (.BoolOp .And (b :: rest) pos) gb) : PEv X E (.BoolOp .And (a :: b :: rest) pos) (gAnd ga gb) := by
  refine pe_weak (pe_and ha hb) fun σ H Q h => ?_
  obtain ⟨F, ι, ρ, st, R, env, o⟩ := h
  have o2 : Out X.K X.mg E F ι H relB (bOf ga ρ st) (fun k H' => if k = true then tev X.K X.mg E gb σ H' Q else Q (.bl false) H') := by
    unfold gAnd at o
    refine o.bind fun k F1 ι1 H1 k' st1 s1 R1 r1 o1 => ?_
    cases r1
    cases k with
    | true => exact ⟨F1, ι1, ρ, st1, R1, env.step s1, (o1.later s1).mono (fun _ _ _ _ _ q => q.back s1) fun _ _ q => q⟩
    | false => exact o1 _ F1 ι1 H1 s1 R1 (.bl _)
  exact ⟨F, ι, ρ, st, R, env, bOf_out o2⟩
theorem v_or {a b : Expr} {rest : List Expr} {ga gb : G} (ha : PEv X E a ga) (hb : PEv X E (.BoolOp .Or (b :: rest) pos) gb) : PEv X E (.BoolOp .Or (a :: b :: rest) pos) (gOr ga gb) := by
  refine pe_weak (pe_or ha hb) fun σ H Q h => ?_
  obtain ⟨F, ι, ρ, st, R, env, o⟩ := h
  have o2 : Out X.K X.mg E F ι H relB (bOf ga ρ st) (fun k H' => if k = true then Q (.bl true) H' else tev X.K X.mg E gb σ H' Q) := by
    unfold gOr at o
    refine o.bind fun k F1 ι1 H1 k' st1 s1 R1 r1 o1 => ?_
    cases r1
    cases k with
    | false => exact ⟨F1, ι1, ρ, st1, R1, env.step s1, (o1.later s1).mono (fun _ _ _ _ _ q => q.back s1) fun _ _ q => q⟩
    | true => exact o1 _ F1 ι1 H1 s1 R1 (.bl _)
  exact ⟨F, ι, ρ, st, R, env, bOf_out o2⟩
theorem v_ifExp {c a b : Expr} {t : GB} {ga gb : G} (hc : PTv X E c t) (ha : PEv X E a ga) (hb : PEv X E b gb) : PEv X E (.IfExp c a b pos) (gIf t ga gb) := by
  refine pe_weak (pe_ifExp hc ha hb) fun σ H Q h => ?_
  obtain ⟨F, ι, ρ, st, R, env, o⟩ := h
  refine ⟨F, ι, ρ, st, R, env, o.bind fun k F1 ι1 H1 k' st1 s1 R1 r1 o1 => ?_⟩
  cases r1
  cases k with
  | true => exact ⟨F1, ι1, ρ, st1, R1, env.step s1, (o1.later s1).mono (fun _ _ _ _ _ q => q.back s1) fun _ _ q => q⟩
  | false => exact ⟨F1, ι1, ρ, st1, R1, env.step s1, (o1.later s1).mono (fun _ _ _ _ _ q => q.back s1) fun _ _ q => q⟩

/-! ### arguments, displays -/
/-- what is handed on -/
theorem Rel.frz {v : V} {x : Vl} (R : Rel K F ι st H) (th : There H0 H) (s : Step F1 ι1 H0 F ι H) (r : RelR K F ι H0 H v x) : ∃ F', Rel K F' ι st H ∧ Step F1 ι1 H0 F' ι H ∧ Same F F' ∧ RelVl K F' ι v (frz x) := by
  cases x with
  | d x => exact ⟨F, R, s, Same.refl F, r⟩
  | ref n => exact ⟨F, R, s, Same.refl F, r⟩
  | scr n => exact ⟨F, R, s, Same.refl F, r⟩
  | own xs =>
    obtain ⟨l, vs, rfl, h1, h2, h3, h4, h5⟩ := r
    obtain ⟨R', g⟩ := R.freeze h1 h2 h3
    exact ⟨_, R', s.freeze h4 g, g, .lst upd_same (DnAll.mono g xs vs h5)⟩
theorem va_nil : PAv X E [] gaNil := by
  refine pa_weak pa_nil fun σ H Q h => ?_
  obtain ⟨F, ι, ρ, st, R, env, o⟩ := h
  exact o [] F ι H (Step.refl _ _ _) R .nil
theorem va_cons {e : Expr} {es : List Expr} {g : G} {gs : GA} (ha : PEv X E e g) (hr : PAv X E es gs) (hs : starEach (e :: es) X.env = (false, eval e X.env) :: starEach es X.env := by rfl) : PAv X E (e :: es) (gaCons g gs) := by
  refine pa_weak (pa_cons ha hr hs) fun σ H Q h => ?_
  obtain ⟨F, ι, ρ, st, R, env, o⟩ := h
  refine ⟨F, ι, ρ, st, R, env, o.bind fun x F1 ι1 H1 a st1 s1 R1 r1 o1 => ?_⟩
  obtain ⟨F2, R2, s2, g2, r2⟩ := R1.frz s1.there s1 r1
  refine ⟨F2, ι1, ρ, st1, R2, env.step s2, (o1.later s2).bind fun ys F3 ι3 H3 bs st3 s3 R3 r3 o3 => ?_⟩
  exact o3 (x :: ys) F3 ι3 H3 s3 R3 (.cons (r2.step s3) r3)
/-- the new list enters the store -/
theorem va_consE {e : Expr} {es : List Expr} {g : G} {gs : GA} (ha : PEv X E e g) (hr : PAv X E es gs) (hs : starEach (e :: es) X.env = (false, eval e X.env) :: starEach es X.env := by rfl) : PAv X E (e :: es) (gaConsE g gs) := by
  refine pa_weak (pa_cons ha hr hs) fun σ H Q h => ?_
  obtain ⟨F, ι, ρ, st, R, env, o⟩ := h
  have o' : Out X.K X.mg E F ι H (relL X.K) (M.bind (g ρ) (fun x => M.bind (enter x) fun x => M.bind (gs ρ) fun xs => M.pure (x :: xs)) st) Q := by
    have e0 : M.bind (g ρ) (fun x => M.bind (enter x) fun x => M.bind (gs ρ) fun xs => M.pure (x :: xs)) st = gaConsE g gs ρ st := by
      unfold gaConsE M.bind
      cases g ρ st <;> rfl
    rw [e0]; exact o
  refine ⟨F, ι, ρ, st, R, env, o'.bind fun x F1 ι1 H1 a st1 s1 R1 r1 o1 => ?_⟩
  cases a with
  | own xs =>
    obtain ⟨l, vs, rfl, h1, h2, h3, h4, h5⟩ := r1
    have R2 := R1.enter (ob := .lst xs) h2 h3 ⟨vs, h1, h5⟩ trivial
    have s2 := s1.enter h4
    have o2 : Out X.K X.mg E F ι H (relL X.K) (M.bind (gs ρ) (fun xs => M.pure (.ref st1.length :: xs)) (st1 ++ [.lst xs])) Q := o1
    refine ⟨F1, ι1 ++ [l], ρ, _, R2, env.step s2, (o2.later s2).bind fun ys F3 ι3 H3 bs st3 s3 R3 r3 o3 => ?_⟩
    refine o3 (.ref l :: ys) F3 ι3 H3 s3 R3 (.cons ⟨l, s3.iget ?_, rfl⟩ r3)
    rw [← R1.len]; simp
  | _ => exact o1.elim
end
end Zv
set_option Elab.async false
set_option linter.all false
set_option maxRecDepth 100000
set_option maxHeartbeats 4000000
/-! Z3: operations on the mirror's values. -/
namespace Zv
open PySem PySem.Spec PyProof.Rows L2
variable {K : PySem.W.Frag} {mg : Str → Option Value} {E : EX} {F F' F1 H H' H0 H1 : Hp} {ι ι' ι1 : Adr} {st st' st1 : Store} {v w : V} {a b : Vl}

/-! ### views -/
def lstAt (st : Store) (n : Nat) : Option (List PyData) := match st[n]? with
  | some (.lst xs) => some xs
  | _ => none
theorem lstAt_some {n : Nat} {xs : List PyData} (h : lstAt st n = some xs) : st[n]? = some (.lst xs) := by
  unfold lstAt at h
  split at h
  · rename_i e; cases h; exact e
  · cases h
theorem lstAt_of {n : Nat} {xs : List PyData} (h : st[n]? = some (.lst xs)) : lstAt st n = some xs := by
  unfold lstAt; rw [h]
def lstOf : Vl → Store → Option (List PyData)
  | .own xs, _ => some xs
  | .d (.list xs), _ => some xs
  | .ref n, st => lstAt st n
  | _, _ => none
def tupOf : Vl → Option (List PyData)
  | .d (.tuple xs) => some xs
  | _ => none
def datOf : Vl → Store → Option PyData
  | .d x, _ => some x
  | .own xs, _ => some (.list xs)
  | .ref n, st => (lstAt st n).map .list
  | _, _ => none
theorem lst_at {xs : List PyData} (R : Rel K F ι st H) (r : RelR K F ι H0 H v a) (e : lstOf a st = some xs) : ∃ l vs, v = .ref l ∧ H l = some (.lst vs) ∧ DnAll K F vs xs := by
  cases a with
  | own ys =>
    cases e
    obtain ⟨l, vs, rfl, h1, h2, h3, h4, h5⟩ := r
    exact ⟨l, vs, rfl, h1, h5⟩
  | d x =>
    cases x with
    | list ys =>
      cases e
      cases r with
      | lst q z => exact ⟨_, _, rfl, R.sub _ _ q, z⟩
    | _ => cases e
  | ref n =>
    obtain ⟨l, hl, rfl⟩ := r
    obtain ⟨vs, h1, h2⟩ := R.obj n l _ hl (lstAt_some e)
    exact ⟨l, vs, rfl, h1, h2⟩
  | scr ns => cases e
theorem tup_at {xs : List PyData} (R : Rel K F ι st H) (r : RelR K F ι H0 H v a) (e : tupOf a = some xs) : ∃ l vs, v = .ref l ∧ SqT K H l vs ∧ DnAll K F vs xs := by
  cases a with
  | d x =>
    cases x with
    | tuple ys =>
      cases e
      cases r with
      | tup q z => exact ⟨_, _, rfl, SqT.of (R.sub _ _ q), z⟩
    | _ => cases e
  | _ => cases e
theorem dat_at {x : PyData} (R : Rel K F ι st H) (r : RelR K F ι H0 H v a) (e : datOf a st = some x) : Dn K H v x := by
  cases a with
  | own ys =>
    cases e
    obtain ⟨l, vs, rfl, h1, h2, h3, h4, h5⟩ := r
    exact .lst h1 (DnAll.mono R.sub _ _ h5)
  | d x => cases e; exact Dn.mono R.sub _ _ r
  | ref n =>
    obtain ⟨l, hl, rfl⟩ := r
    obtain ⟨ys, e1, rfl⟩ := Option.map_eq_some_iff.mp (show (lstAt st n).map PyData.list = some x from e)
    obtain ⟨vs, h1, h2⟩ := R.obj n l _ hl (lstAt_some e1)
    exact .lst h1 (DnAll.mono R.sub _ _ h2)
  | scr ns => cases e
/-- an end: the state stays -/
theorem Out.here {α β : Type} {rel : RelT α β} {Q : β → Hp → Prop} {x : α} {y : β} (o : Out K mg E F ι H rel (.ok x st) Q) (R : Rel K F ι st H) (r : rel F ι H y x) : Q y H := o y F ι H (Step.refl _ _ _) R r
/-- a new tuple -/
theorem Out.tup {xs : List PyData} {vs : List V} {Q : VK} (o : Out K mg E F ι H (relR K H0) (.ok (.d (.tuple xs)) st) Q) (R : Rel K F ι st H) (r : DnAll K F vs xs) : ∀ p, H p = none → Q (.ref p) (upd H p (.tup vs)) := fun p hp => by
  obtain ⟨R', s⟩ := R.lay (o := .tup vs) hp
  exact o (.ref p) _ ι _ s R' (.tup upd_same (DnAll.mono s.grow _ _ r))
/-- a new list -/
theorem Out.lst {xs : List PyData} {vs : List V} {Q : VK} (o : Out K mg E F ι H (relR K H0) (.ok (.own xs) st) Q) (R : Rel K F ι st H) (th : There H0 H) (r : DnAll K F vs xs) : ∀ p, H p = none → Q (.ref p) (upd H p (.lst vs)) := fun p hp => by
  obtain ⟨R', s⟩ := R.put (o := .lst vs) hp
  exact o (.ref p) F ι _ s R' ⟨p, vs, rfl, upd_same, R.nf hp, R.ni hp, th p (.of hp), r⟩

/-! ### + - * // % ** -/
def intOp (C : Int → Int → Bool) (f : Int → Int → Int) : Op2 := fun x y st => match x, y with
  | .d (.int i), .d (.int j) => if C i j = true then .ok (.d (.int (f i j))) st else .stuck
  | _, _ => .stuck
theorem ov_int {C : Int → Int → Bool} {C' : Int → Int → Prop} {f : Int → Int → Int} (h : ∀ i j, C i j = true → C' i j) : OpV K mg E (intOp C f) (rI C' fun i j => .int (f i j)) := by
  intro F ι st H H0 x y a b Q R th rx ry o
  unfold intOp at o
  split at o
  · rename_i i j
    cases rx; cases ry
    split at o
    · rename_i hc
      exact ⟨i, j, rfl, rfl, h i j hc, o.here R (.int _)⟩
    · exact o.elim
  · exact o.elim
def vAdd : Op2 := fun x y st => match x, y with
  | .d (.int i), .d (.int j) => .ok (.d (.int (i + j))) st
  | .d (.str s), .d (.str t) => if s.length + t.length ≤ sizeLine then .ok (.d (.str (s ++ t))) st else .stuck
  | .d (.tuple s), .d (.tuple t) => if s.length + t.length ≤ sizeLine then .ok (.d (.tuple (s ++ t))) st else .stuck
  | x, y => match lstOf x st, lstOf y st with
    | some s, some t => if s.length + t.length ≤ sizeLine then .ok (.own (s ++ t)) st else .stuck
    | _, _ => .stuck
def rAddV (K : PySem.W.Frag) : R2 := fun x y H Q => (∃ i j, x = .int i ∧ y = .int j ∧ Q (.int (i + j)) H) ∨ (∃ i j, x = .str i ∧ y = .str j ∧ i.length + j.length ≤ sizeLine ∧ Q (.str (i ++ j)) H) ∨ rCatA K x y H Q ∨ rCat x y H Q
theorem op_addV {X : Cx} : OpR X (binaryOp .Add) (rAddV X.K) := OpR.or op_add (OpR.or op_add_str (OpR.or op_catA op_cat))
theorem ov_add : OpV K mg E vAdd (rAddV K) := by
  intro F ι st H H0 x y a b Q R th rx ry o
  unfold vAdd at o
  split at o
  · cases rx; cases ry
    exact .inl ⟨_, _, rfl, rfl, o.here R (.int _)⟩
  · cases rx; cases ry
    split at o
    · rename_i hz
      exact .inr (.inl ⟨_, _, rfl, rfl, hz, o.here R (.str _)⟩)
    · exact o.elim
  · rename_i s t
    split at o
    · rename_i hz
      refine .inr (.inr (.inl ?_))
      cases rx with
      | tup q1 z1 =>
        cases ry with
        | tup q2 z2 =>
          refine ⟨_, _, _, _, rfl, rfl, SqT.of (R.sub _ _ q1), SqT.of (R.sub _ _ q2), by rw [z1.len, z2.len]; exact hz, fun e => ?_, fun _ e => ?_, fun _ _ => o.tup R (z1.append z2)⟩
          · subst e
            cases z1
            exact o.here R (.tup q2 z2)
          · subst e
            cases z2
            rw [List.append_nil] at o
            exact o.here R (.tup q1 z1)
    · exact o.elim
  · split at o
    · rename_i s t e1 e2
      split at o
      · rename_i hz
        obtain ⟨l, vs, rfl, h1, z1⟩ := lst_at R rx e1
        obtain ⟨m, ws, rfl, h2, z2⟩ := lst_at R ry e2
        exact .inr (.inr (.inr ⟨l, m, vs, ws, rfl, rfl, h1, h2, by rw [z1.len, z2.len]; exact hz, o.lst R th (z1.append z2)⟩))
      · exact o.elim
    · exact o.elim
def vSub : Op2 := intOp (fun _ _ => true) fun i j => i - j
theorem op_subV {X : Cx} : OpR X (binaryOp .Sub) (rI (fun _ _ => True) fun i j => .int (i - j)) := fun pins s σ H x y v u Q I rx ry ⟨i, j, e1, e2, _, q⟩ => op_sub pins s σ H x y v u Q I rx ry ⟨i, j, e1, e2, q⟩
theorem ov_sub : OpV K mg E vSub (rI (fun _ _ => True) fun i j => .int (i - j)) := ov_int fun _ _ _ => trivial
def cMulW (i j : Int) : Bool := decide (i.natAbs.log2 + j.natAbs.log2 < 1000000)
def vModP : Op2 := intOp (fun _ j => decide (0 < j)) fun i j => i % j
theorem ov_modP : OpV K mg E vModP (rI (fun _ j => 0 < j) fun i j => .int (i % j)) := ov_int fun _ _ h => of_decide_eq_true h
def cDivW (_ j : Int) : Bool := decide (0 < j) && decide (j.natAbs.log2 < 9000)
def vFdiv : Op2 := intOp cDivW fun i j => i / j
theorem ov_fdiv : OpV K mg E vFdiv (rI CDivW fun i j => .int (i / j)) := ov_int fun i j h => by
  unfold cDivW at h
  rw [Bool.and_eq_true] at h
  exact ⟨of_decide_eq_true h.1, of_decide_eq_true h.2⟩
def cPow (i j : Int) : Bool := decide (0 ≤ j) && decide (j ≤ 1000000) && decide (i.natAbs < 2 ^ 64)
def vPow : Op2 := intOp cPow fun i j => i ^ j.toNat
theorem ov_pow : OpV K mg E vPow (rI CPow fun i j => .int (i ^ j.toNat)) := ov_int fun i j h => by
  unfold cPow at h
  rw [Bool.and_eq_true, Bool.and_eq_true] at h
  exact ⟨of_decide_eq_true h.1.1, of_decide_eq_true h.1.2, of_decide_eq_true h.2⟩
def vNeg : Vl → M Vl := fun x st => match x with
  | .d (.int i) => .ok (.d (.int (-i))) st
  | _ => .stuck
theorem uv_neg : UnV K mg E vNeg (rU fun i => .int (-i)) := by
  intro F ι st H H0 x a Q R th rx o
  unfold vNeg at o
  split at o
  · cases rx
    exact ⟨_, rfl, o.here R (.int _)⟩
  · exact o.elim
section
variable {X : Cx} {pos : Pos}
theorem v_un {op : UnaryOp} {e : Expr} {g : G} {f : Vl → M Vl} {r : V → Hp → VK → Prop} (ho : UnR X (unaryOp op) r) (hv : UnV X.K X.mg E f r) (ha : PEv X E e g) : PEv X E (.UnaryOp op e pos) (gUn f g) := by
  refine pe_weak (pe_un ho ha) fun σ H Q h => ?_
  obtain ⟨F, ι, ρ, st, R, env, o⟩ := h
  exact ⟨F, ι, ρ, st, R, env, Out.bind o fun x F1 ι1 H1 a st1 s1 R1 r1 o1 => hv F1 ι1 st1 H1 H x a Q R1 s1.there r1 (o1.later s1)⟩

/-! ### comparisons -/
def eqOk : PyData → PyData → Bool
  | .str _, .str _ => true
  | .int _, .int _ => true
  | .none, .int _ => true
  | .none, .str _ => true
  | .int _, .none => true
  | .str _, .none => true
  | .int _, .str _ => true
  | .str _, .int _ => true
  | d, e => SeqAt.shaped d && SeqAt.shaped e
def vEqB (neg : Bool) : Op2 := fun x y st => match datOf x st, datOf y st with
  | some d, some e => if eqOk d e = true then .ok (.d (.bool (if neg then !PyData.eqv d e else PyData.eqv d e))) st else .stuck
  | _, _ => .stuck
def vEq : Op2 := vEqB false
def vNe : Op2 := vEqB true
def rEqV (K : PySem.W.Frag) : R2 := fun x y H Q => rEq x y H Q ∨ rEqD K x y H Q
def rNeV (K : PySem.W.Frag) : R2 := fun x y H Q => rNe x y H Q ∨ rNeD K x y H Q
theorem op_eqV {X : Cx} (hu : X.A.units + 64 < cLine) : OpR X (compareOp .Eq) (rEqV X.K) := OpR.or op_eq (op_eqD hu)
theorem op_neV {X : Cx} (hu : X.A.units + 64 < cLine) : OpR X (compareOp .NotEq) (rNeV X.K) := OpR.or op_ne (op_neD hu)
theorem beq_dec {x y : Str} : (x == y) = decide (x = y) := rfl
theorem ov_eqB (neg : Bool) : OpV K mg E (vEqB neg) (fun x y H Q => (scal x y = true ∧ Q (.bl (if neg then !decide (x = y) else decide (x = y))) H) ∨ ∃ d e, Dp K H x d ∧ Dp K H y e ∧ SeqAt.shaped d = true ∧ SeqAt.shaped e = true ∧ Q (.bl (if neg then !PyData.eqv d e else PyData.eqv d e)) H) := by
  intro F ι st H H0 x y a b Q R th rx ry o
  unfold vEqB at o
  split at o
  · rename_i d e e1 e2
    have h1 := dat_at R rx e1
    have h2 := dat_at R ry e2
    split at o
    · rename_i hk
      have q : Q (.bl (if neg then !PyData.eqv d e else PyData.eqv d e)) H := o.here R (.bl _)
      unfold eqOk at hk
      split at hk
      · cases h1; cases h2
        refine .inl ⟨rfl, ?_⟩
        rename_i x y
        have e : decide (V.str x = V.str y) = PyData.eqv (.str x) (.str y) := by
          show _ = (x == y)
          by_cases z : x = y <;> simp [z]
        rw [e]; exact q
      · cases h1; cases h2
        refine .inl ⟨rfl, ?_⟩
        rename_i x y
        have e : decide (V.int x = V.int y) = PyData.eqv (.int x) (.int y) := by
          show _ = (x == y)
          by_cases z : x = y <;> simp [z]
        rw [e]; exact q
      · cases h1; cases h2
        exact .inl ⟨rfl, q⟩
      · cases h1; cases h2
        exact .inl ⟨rfl, q⟩
      · cases h1; cases h2
        exact .inl ⟨rfl, q⟩
      · cases h1; cases h2
        exact .inl ⟨rfl, q⟩
      · cases h1; cases h2
        exact .inl ⟨rfl, q⟩
      · cases h1; cases h2
        exact .inl ⟨rfl, q⟩
      · rw [Bool.and_eq_true] at hk
        exact .inr ⟨_, _, h1.dp, h2.dp, hk.1, hk.2, q⟩
    · exact o.elim
  · exact o.elim
theorem ov_eq : OpV K mg E vEq (rEqV K) := fun F ι st H H0 x y a b Q R th rx ry o => ov_eqB false F ι st H H0 x y a b Q R th rx ry o
theorem ov_ne : OpV K mg E vNe (rNeV K) := fun F ι st H H0 x y a b Q R th rx ry o => ov_eqB true F ι st H H0 x y a b Q R th rx ry o
/-- < <= > >= of two ints or two texts -/
def ordB (pi : Int → Int → Bool) (ps : List Nat → List Nat → Bool) : Op2 := fun x y st => match x, y with
  | .d (.int i), .d (.int j) => .ok (.d (.bool (pi i j))) st
  | .d (.str i), .d (.str j) => .ok (.d (.bool (ps i.cps.toList j.cps.toList))) st
  | _, _ => .stuck
def rOrd (pi : Int → Int → Bool) (ps : List Nat → List Nat → Bool) : R2 := fun x y H Q => (∃ i j, x = .int i ∧ y = .int j ∧ Q (.bl (pi i j)) H) ∨ ∃ i j, x = .str i ∧ y = .str j ∧ Q (.bl (ps i.cps.toList j.cps.toList)) H
theorem ov_ord {pi : Int → Int → Bool} {ps : List Nat → List Nat → Bool} : OpV K mg E (ordB pi ps) (rOrd pi ps) := by
  intro F ι st H H0 x y a b Q R th rx ry o
  unfold ordB at o
  split at o
  · cases rx; cases ry
    exact .inl ⟨_, _, rfl, rfl, o.here R (.bl _)⟩
  · cases rx; cases ry
    exact .inr ⟨_, _, rfl, rfl, o.here R (.bl _)⟩
  · exact o.elim
def vLt : Op2 := ordB (fun i j => decide (i < j)) fun i j => decide (i < j)
def vLe : Op2 := ordB (fun i j => decide (i ≤ j)) fun i j => !decide (j < i)
def vGt : Op2 := ordB (fun i j => decide (j < i)) fun i j => decide (j < i)
def vGe : Op2 := ordB (fun i j => decide (j ≤ i)) fun i j => !decide (i < j)
theorem op_ltV {X : Cx} : OpR X (compareOp .Lt) (rOrd (fun i j => decide (i < j)) fun i j => decide (i < j)) := OpR.or op_lt op_lt_str
theorem op_leV {X : Cx} : OpR X (compareOp .LtE) (rOrd (fun i j => decide (i ≤ j)) fun i j => !decide (j < i)) := OpR.or op_le op_le_str
theorem op_gtV {X : Cx} : OpR X (compareOp .Gt) (rOrd (fun i j => decide (j < i)) fun i j => decide (j < i)) := OpR.or op_gt op_gt_str
theorem op_geV {X : Cx} : OpR X (compareOp .GtE) (rOrd (fun i j => decide (j ≤ i)) fun i j => !decide (i < j)) := OpR.or op_ge op_ge_str
end
end Zv
set_option Elab.async false
set_option linter.all false
set_option maxRecDepth 100000
set_option maxHeartbeats 4000000
/-! Z4: more operations: products, in, is None, isinstance, len, places, slices, displays. -/
namespace Zv
open PySem PySem.Spec PyProof.Rows L2
variable {K : PySem.W.Frag} {mg : Str → Option Value} {E : EX} {F F' F1 H H' H0 H1 : Hp} {ι ι' ι1 : Adr} {st st' st1 : Store} {v w : V} {a b : Vl}

/-! ### * -/
def cMul (i j : Int) : Bool := decide (-(2 ^ 64) < i ∧ i < 2 ^ 64) || decide (i.natAbs.log2 + j.natAbs.log2 < 1000000)
def vMulI : Op2 := intOp cMul fun i j => i * j
def rMulI : R2 := fun x y H Q => rI CMul (fun i j => .int (i * j)) x y H Q ∨ rI CMulW (fun i j => .int (i * j)) x y H Q
theorem ov_mulI : OpV K mg E vMulI rMulI := by
  intro F ι st H H0 x y a b Q R th rx ry o
  unfold vMulI intOp at o
  split at o
  · rename_i i j
    cases rx; cases ry
    split at o
    · rename_i hc
      unfold cMul at hc
      rcases Bool.or_eq_true_iff.mp hc with hc | hc
      · exact .inl ⟨i, j, rfl, rfl, .inl (of_decide_eq_true hc), o.here R (.int _)⟩
      · exact .inr ⟨i, j, rfl, rfl, (show i.natAbs.log2 + j.natAbs.log2 < 1000000 from of_decide_eq_true hc), o.here R (.int _)⟩
    · exact o.elim
  · exact o.elim
theorem op_mulI {X : Cx} : OpR X (binaryOp .Mult) rMulI := OpR.or op_mul op_mulW
/-- a text times an int -/
def mulOk (x : Str) (n : Int) : Bool := decide (n < 2 ^ 62) && decide (-(2 ^ 62) < n) && (decide (n < 1) || decide (x.length * n.toNat ≤ 1000000))
theorem mulOk_ok {x : Str} {n : Int} (h : mulOk x n = true) : MulOk x n := by
  unfold mulOk at h
  simp only [Bool.and_eq_true, Bool.or_eq_true, decide_eq_true_eq] at h
  obtain ⟨⟨h1, h2⟩, h3⟩ := h
  refine ⟨?_, fun hn _ => ?_, fun hn _ => ?_⟩
  · rw [decide_eq_false (by omega), decide_eq_false (by omega)]; rfl
  · rcases h3 with h3 | h3
    · exact absurd h3 hn
    · have hn0 : 0 < n := by omega
      intro hg
      have hz : (x.length : Int) * n ≤ 1000000 := by
        have e : ((x.length * n.toNat : Nat) : Int) = (x.length : Int) * n := by
          rw [Int.natCast_mul, Int.toNat_of_nonneg (by omega)]
        omega
      have h4 : ((2 ^ 63 - 1) / n + 1) * n > 2 ^ 63 - 1 := by
        have := Int.lt_ediv_add_one_mul_self (2 ^ 63 - 1) hn0
        exact this
      have h5 : ((2 ^ 63 - 1) / n + 1) * n ≤ (x.length : Int) * n := Int.mul_le_mul_of_nonneg_right (by omega) (by omega)
      omega
  · rcases h3 with h3 | h3
    · exact absurd h3 hn
    · unfold Builtin.Str.tooLong
      rw [sizeLine_eq]
      exact decide_eq_false (by omega)
/-- a tuple once -/
theorem tuple_mul1 (l : Addr) (items : Array Value) (n : Nat) (dd : Option Addr) (sl : Array (Option Value)) (u : Tok) :
    Meets (Builtin.«tuple.__mul__» ⟨[.ref l, .int 1 u], []⟩) (fun _ R s => s.heap.get? l = some { cls := .type "tuple", dict := dd, data := .seq items n, slots := sl } ∧ R (.ok (.ret (.ref l))) s) :=
  .of_wp fun prog w A R s h => by
    obtain ⟨hp, g, d, tk, os⟩ := s
    obtain ⟨hl, h⟩ := h
    have f1 := AutoSeq1.idx_int
    wp_walk using wpAny_loadPart' hl
    repeat (first
      | (refine wpAny_ite_false (by decide) ?_; wp_walk using wpAny_loadPart' hl)
      | (refine wpAny_ite_true (by simp) ?_; wp_walk using wpAny_loadPart' hl))
    exact ⟨_, rfl, h⟩
def rRepT1 (K : PySem.W.Frag) : R2 := fun x y H Q => ∃ l xs, x = .ref l ∧ y = .int 1 ∧ SqT K H l xs ∧ Q (.ref l) H
theorem op_repT1 {X : Cx} : OpR X (binaryOp .Mult) (rRepT1 X.K) := by
  intro pins s σ H x y v u Q I rx ry h
  obtain ⟨l, xs, rfl, rfl, hT, q⟩ := h
  cases rx
  obtain ⟨t, rfl⟩ := ry
  obtain ⟨its, r, ⟨⟨cls, dd, data, sl⟩, ho, hc, n, hd⟩, hs⟩ := I.tuple hT
  simp only at hc hd
  subst hc hd
  refine wpAny_binaryOp_repeat_ref (T := "tuple") (U := "int") (by decide) ⟨_, ho, rfl⟩ (fun s' => typeIs_int s' 1 t) noFill_tuple_mul F.fills_int_mul F.slot_int_rmul repeat_tuple F.slot_int_index.lookup
    (call_meets F.slot_int_rmul (typeIs_int s 1 t) F.entry_int_rmul (F.args_int_rmul_2 _ _) (int_rmul_tuple 1 t l its.toArray n dd sl)
      ⟨ho, rfl, ⟨_, ho, rfl⟩, call_meets F.slot_tuple_mul ⟨_, ho, rfl⟩ F.entry_tuple_mul (F.args_tuple_mul_2 _ _) (tuple_mul1 l its.toArray n dd sl t) ⟨ho, ?_⟩⟩)
  exact ⟨.ref l, H, I, rfl, q⟩
def vMul : Op2 := fun x y st => match x, y with
  | .d (.int i), .d (.int j) => if cMul i j = true then .ok (.d (.int (i * j))) st else .stuck
  | .d (.str s), .d (.int n) => if mulOk s n = true then .ok (.d (.str (Txt.mul s n))) st else .stuck
  | .d (.tuple s), .d (.int n) => if n = 1 then .ok (.d (.tuple s)) st else if (!s.isEmpty && decide (2 ≤ n) && decide (n ≤ 1000) && decide (s.length ≤ 1000)) = true then .ok (.d (.tuple (List.replicate n.toNat s).flatten)) st else .stuck
  | x, .d (.int n) => match lstOf x st with
    | some s => if (decide (-(2 ^ 63) ≤ n) && decide (n < 2 ^ 63) && decide (s.length * n.toNat ≤ sizeLine)) = true then .ok (.own (List.replicate n.toNat s).flatten) st else .stuck
    | none => .stuck
  | _, _ => .stuck
theorem op_mulS {X : Cx} : OpR X (binaryOp .Mult) (fun x y H Q => ∃ s n, x = .str s ∧ y = .int n ∧ MulOk s n ∧ Q (.str (Txt.mul s n)) H) := by
  intro pins s σ H x y v u Q I rx ry h
  obtain ⟨z, n, rfl, rfl, hm, q⟩ := h
  obtain ⟨t, rfl⟩ := rx
  obtain ⟨t', rfl⟩ := ry
  exact SB.mul hm fun t' k => ⟨.str _, H, I.tok k, ⟨_, rfl⟩, q⟩
def rMulV (K : PySem.W.Frag) : R2 := fun x y H Q => rMulI x y H Q ∨ (∃ s n, x = .str s ∧ y = .int n ∧ MulOk s n ∧ Q (.str (Txt.mul s n)) H) ∨ rRepT K x y H Q ∨ rRep x y H Q ∨ rRepT1 K x y H Q
theorem op_mulV {X : Cx} : OpR X (binaryOp .Mult) (rMulV X.K) := OpR.or op_mulI (OpR.or op_mulS (OpR.or op_repT (OpR.or op_rep op_repT1)))
theorem DnAll.rep {vs : List V} {ds : List PyData} (h : DnAll K F vs ds) : ∀ n : Nat, DnAll K F (List.replicate n vs).flatten (List.replicate n ds).flatten
  | 0 => .nil
  | n + 1 => by rw [List.replicate_succ, List.replicate_succ, List.flatten_cons, List.flatten_cons]; exact h.append (DnAll.rep h n)
theorem ov_mul : OpV K mg E vMul (rMulV K) := by
  intro F ι st H H0 x y a b Q R th rx ry o
  unfold vMul at o
  split at o
  · split at o
    · rename_i i j hc
      cases rx; cases ry
      unfold cMul at hc
      rcases Bool.or_eq_true_iff.mp hc with hc | hc
      · exact .inl (.inl ⟨i, j, rfl, rfl, .inl (of_decide_eq_true hc), o.here R (.int _)⟩)
      · exact .inl (.inr ⟨i, j, rfl, rfl, (show i.natAbs.log2 + j.natAbs.log2 < 1000000 from of_decide_eq_true hc), o.here R (.int _)⟩)
    · exact o.elim
  · split at o
    · rename_i hc
      cases rx; cases ry
      exact .inr (.inl ⟨_, _, rfl, rfl, mulOk_ok hc, o.here R (.str _)⟩)
    · exact o.elim
  · rename_i s n
    split at o
    · rename_i h1
      subst h1
      cases rx with
      | tup q1 z1 =>
        cases ry
        exact .inr (.inr (.inr (.inr ⟨_, _, rfl, rfl, SqT.of (R.sub _ _ q1), o.here R (.tup q1 z1)⟩)))
    split at o
    · rename_i hc
      simp only [Bool.and_eq_true, decide_eq_true_eq, Bool.not_eq_true'] at hc
      obtain ⟨⟨⟨h1, h2⟩, h3⟩, h4⟩ := hc
      cases rx with
      | tup q1 z1 =>
        cases ry
        refine .inr (.inr (.inl ⟨_, n, _, rfl, rfl, SqT.of (R.sub _ _ q1), fun e => ?_, h2, h3, by rw [z1.len]; exact h4, o.tup R (z1.rep _)⟩))
        subst e
        cases z1
        cases h1
    · exact o.elim
  · split at o
    · rename_i s e1
      split at o
      · rename_i hc
        simp only [Bool.and_eq_true, decide_eq_true_eq] at hc
        obtain ⟨⟨h1, h2⟩, h3⟩ := hc
        obtain ⟨l, vs, rfl, h4, z1⟩ := lst_at R rx e1
        cases ry
        exact .inr (.inr (.inr (.inl ⟨l, _, vs, rfl, rfl, h4, h1, h2, by rw [z1.len]; exact h3, o.lst R th (z1.rep _)⟩)))
      · exact o.elim
    · exact o.elim
  · exact o.elim

/-! ### in, not in -/
def hasStr (j i : Str) : Bool := !(Builtin.Str.occurrences j i 0 j.length 1).isEmpty
def vInB (neg : Bool) : Op2 := fun x y st => match x, y with
  | .d (.str i), .d (.str j) => .ok (.d (.bool (if neg then !hasStr j i else hasStr j i))) st
  | x, y => match datOf x st, datOf y st with
    | some d, some (.list ds) => if (SeqAt.shaped d && SeqAt.shaped (.list ds)) = true then .ok (.d (.bool (if neg then !ds.any (fun z => PyData.eqv z d) else ds.any fun z => PyData.eqv z d))) st else .stuck
    | some d, some (.tuple ds) => if (SeqAt.shaped d && SeqAt.shaped (.tuple ds)) = true then .ok (.d (.bool (if neg then !ds.any (fun z => PyData.eqv z d) else ds.any fun z => PyData.eqv z d))) st else .stuck
    | _, _ => .stuck
def rInT (K : PySem.W.Frag) (neg : Bool) : R2 := fun x y H Q => ∃ d ds, Dp K H x d ∧ Dp K H y (.tuple ds) ∧ SeqAt.shaped d = true ∧ SeqAt.shaped (.tuple ds) = true ∧ Q (.bl (if neg then !ds.any (fun z => PyData.eqv z d) else ds.any fun z => PyData.eqv z d)) H
theorem room_in_shapedT {A : Around} {d : PyData} {ds : List PyData} (h : SeqAt.shaped d = true) (hu : A.units + 65 < cLine) : A.units + 1 + min (PyData.depthAll ds) d.depth < cLine := by
  have h1 := SeqAt.depth_of_shaped h
  have h2 : min (PyData.depthAll ds) d.depth ≤ d.depth := Nat.min_le_right _ _
  omega
theorem op_inT {X : Cx} (hu : X.A.units + 65 < cLine) : OpR X (compareOp .In) (rInT X.K false) := by
  intro pins s σ H x y v u Q I rx ry h
  obtain ⟨d, ds, hd, he, sd, se, q⟩ := h
  obtain ⟨as, r1⟩ := Dp.reads I d x v hd rx
  obtain ⟨bs, r2⟩ := Dp.reads I (.tuple ds) y u he ry
  exact SeqAt.in_tuple_reads r2 r1 (SeqAt.canLay_of_shaped se) (SeqAt.canLay_of_shaped sd) (room_in_shapedT sd hu) ⟨.bl _, H, I, rfl, q⟩
theorem op_notInT {X : Cx} (hu : X.A.units + 65 < cLine) : OpR X (compareOp .NotIn) (rInT X.K true) := by
  intro pins s σ H x y v u Q I rx ry h
  obtain ⟨d, ds, hd, he, sd, se, q⟩ := h
  obtain ⟨as, r1⟩ := Dp.reads I d x v hd rx
  obtain ⟨bs, r2⟩ := Dp.reads I (.tuple ds) y u he ry
  exact SeqAt.notIn_tuple_reads r2 r1 (SeqAt.canLay_of_shaped se) (SeqAt.canLay_of_shaped sd) (room_in_shapedT sd hu) ⟨.bl _, H, I, rfl, q⟩
def rInL (K : PySem.W.Frag) (neg : Bool) : R2 := fun x y H Q => ∃ d ds, Dp K H x d ∧ Dp K H y (.list ds) ∧ SeqAt.shaped d = true ∧ SeqAt.shaped (.list ds) = true ∧ Q (.bl (if neg then !ds.any (fun z => PyData.eqv z d) else ds.any fun z => PyData.eqv z d)) H
def rInS (neg : Bool) : R2 := fun x y H Q => ∃ i j, x = .str i ∧ y = .str j ∧ Q (.bl (if neg then !hasStr j i else hasStr j i)) H
def rInV (K : PySem.W.Frag) (neg : Bool) : R2 := fun x y H Q => rInS neg x y H Q ∨ rInL K neg x y H Q ∨ rInT K neg x y H Q
theorem op_inV {X : Cx} (hu : X.A.units + 65 < cLine) : OpR X (compareOp .In) (rInV X.K false) := OpR.or op_in_str (OpR.or (op_inD hu) (op_inT hu))
theorem op_notInV {X : Cx} (hu : X.A.units + 65 < cLine) : OpR X (compareOp .NotIn) (rInV X.K true) := OpR.or op_notin_str (OpR.or (op_notInD hu) (op_notInT hu))
theorem ov_in (neg : Bool) : OpV K mg E (vInB neg) (rInV K neg) := by
  intro F ι st H H0 x y a b Q R th rx ry o
  unfold vInB at o
  split at o
  · cases rx; cases ry
    exact .inl ⟨_, _, rfl, rfl, o.here R (.bl _)⟩
  · split at o
    · rename_i e1 e2
      split at o
      · rename_i hk
        rw [Bool.and_eq_true] at hk
        exact .inr (.inl ⟨_, _, (dat_at R rx e1).dp, (dat_at R ry e2).dp, hk.1, hk.2, o.here R (.bl _)⟩)
      · exact o.elim
    · rename_i e1 e2
      split at o
      · rename_i hk
        rw [Bool.and_eq_true] at hk
        exact .inr (.inr ⟨_, _, (dat_at R rx e1).dp, (dat_at R ry e2).dp, hk.1, hk.2, o.here R (.bl _)⟩)
      · exact o.elim
    · exact o.elim
/-- is None, is not None -/
def vIsN : Vl → M Vl := fun x st => match x with
  | .d .none => .ok (.d (.bool true)) st
  | _ => .ok (.d (.bool false)) st
def vNotN : Vl → M Vl := fun x st => match x with
  | .d .none => .ok (.d (.bool false)) st
  | _ => .ok (.d (.bool true)) st
theorem rel_none (R : Rel K F ι st H) (r : RelR K F ι H0 H v a) : decide (v = .non) = (match a with | .d .none => true | _ => false) := by
  cases a with
  | d x =>
    cases x with
    | none => cases r; rfl
    | bool b => cases r; rfl
    | int b => cases r; rfl
    | str b => cases r; rfl
    | list b => cases r; rfl
    | tuple b => cases r; rfl
    | dict b => cases r
  | ref n => obtain ⟨l, _, rfl⟩ := r; rfl
  | own n => obtain ⟨l, _, rfl, _⟩ := r; rfl
  | scr n => obtain ⟨l, rfl, _⟩ := r; rfl
section
variable {X : Cx} {pos : Pos}
theorem tev_un {g : G} {f : Vl → M Vl} {σ : L2.St} {H : Hp} {Q : VK} {P : V → Hp → Prop} (h : tev K mg E (gUn f g) σ H Q) (hp : ∀ F ι st H1 H0 x a, Rel K F ι st H1 → There H0 H1 → RelR K F ι H0 H1 x a → Out K mg E F ι H1 (relR K H0) (f a st) Q → P x H1) : tev K mg E g σ H P := by
  obtain ⟨F, ι, ρ, st, R, env, o⟩ := h
  exact ⟨F, ι, ρ, st, R, env, Out.bind o fun x F1 ι1 H1 a st1 s1 R1 r1 o1 => hp F1 ι1 st1 H1 H x a R1 s1.there r1 (o1.later s1)⟩
theorem v_isN {e : Expr} {g : G} {j pos'} (h : PEv X E e g) : PEv X E (.Compare e [.Is] [.Constant .none j pos'] pos) (gUn vIsN g) :=
  pe_weak (pe_cmp (pc_isN h) rfl) fun σ H Q h => tev_un h fun F ι st H1 H0 x a R th r o => by
    have e := rel_none R r
    show Q (.bl (decide (x = .non))) H1
    rw [e]
    cases a with
    | d y => cases y <;> exact Out.here o R (.bl _)
    | _ => exact Out.here o R (.bl _)
theorem v_notN {e : Expr} {g : G} {j pos'} (h : PEv X E e g) : PEv X E (.Compare e [.IsNot] [.Constant .none j pos'] pos) (gUn vNotN g) :=
  pe_weak (pe_cmp (pc_notN h) rfl) fun σ H Q h => tev_un h fun F ι st H1 H0 x a R th r o => by
    have e := rel_none R r
    show Q (.bl (!decide (x = .non))) H1
    rw [e]
    cases a with
    | d y => cases y <;> exact Out.here o R (.bl _)
    | _ => exact Out.here o R (.bl _)
/-- a < b < c -/
def gChain (f f' : Op2) (a b c : G) : G := fun ρ => M.bind (a ρ) fun x => M.bind (b ρ) fun y => M.bind (f x y) fun z => match z with
  | .d (.bool true) => M.bind (c ρ) fun u => f' y u
  | .d (.bool false) => M.pure (.d (.bool false))
  | _ => M.stuck
theorem tev_chain {a b c : G} {f f' : Op2} {r r' : R2} (hv : OpV K mg E f r) (hv' : OpV K mg E f' r') (σ : L2.St) (H : Hp) (Q : VK) (h : tev K mg E (gChain f f' a b c) σ H Q) : tChain r r' (tev K mg E a) (tev K mg E b) (tev K mg E c) σ H Q := by
  obtain ⟨F, ι, ρ, st, R, env, o⟩ := h
  refine ⟨F, ι, ρ, st, R, env, Out.bind o fun x F1 ι1 H1 a1 st1 s1 R1 r1 o1 => ?_⟩
  refine ⟨F1, ι1, ρ, st1, R1, env.step s1, Out.bind (o1.later s1) fun y F2 ι2 H2 b1 st2 s2 R2 r2 o2 => ?_⟩
  have th2 : There H H2 := fun p q => s1.there p (s2.there p q)
  refine hv F2 ι2 st2 H2 H x y a1 b1 _ R2 th2 (r1.step s2) (r2.back s1) (Out.bind (o2.later s2) fun z F3 ι3 H3 c1 st3 s3 R3 r3 o3 => ?_)
  have th3 : There H H3 := fun p q => th2 p (s3.there p q)
  split at o3
  · cases r3
    refine ⟨true, rfl, ?_⟩
    rw [if_pos rfl]
    refine ⟨F3, ι3, ρ, st3, R3, ((env.step s1).step s2).step s3, Out.bind (o3.later s3) fun u F4 ι4 H4 d1 st4 s4 R4 r4 o4 => ?_⟩
    exact hv' F4 ι4 st4 H4 H y u b1 d1 Q R4 (fun p q => th3 p (s4.there p q)) (((r2.step s3).step s4).back s1) (r4.back' th3) (o4.later s4)
  · cases r3
    refine ⟨false, rfl, ?_⟩
    rw [if_neg Bool.false_ne_true]
    exact Out.here (o3.later s3) R3 (.bl _)
  · exact o3.elim
end
end Zv
set_option Elab.async false
set_option linter.all false
set_option maxRecDepth 100000
set_option maxHeartbeats 4000000
/-! Z5: isinstance, len, places, slices, displays, built-in calls. -/
namespace Zv
open PySem PySem.Spec PyProof.Rows L2
variable {K : PySem.W.Frag} {mg : Str → Option Value} {E : EX} {F F' F1 H H' H0 H1 : Hp} {ι ι' ι1 : Adr} {st st' st1 : Store} {v w : V} {a b : Vl}

/-! ### types -/
def tyD : PyData → String
  | .none => "NoneType"
  | .bool _ => "bool"
  | .int _ => "int"
  | .str _ => "str"
  | .list _ => "list"
  | .tuple _ => "tuple"
  | .dict _ => "dict"
def tyOf : Vl → Store → Option String
  | .d x, _ => some (tyD x)
  | .own _, _ => some "list"
  | .scr _, _ => some "list"
  | .ref n, st => match st[n]? with
    | some (.lst _) => some "list"
    | some (.dic _) => some "dict"
    | _ => none
theorem ty_at {t : String} (R : Rel K F ι st H) (r : RelR K F ι H0 H v a) (e : tyOf a st = some t) : TyX K H v (.type t) := by
  cases a with
  | d x =>
    cases e
    cases r with
    | non => exact .base .non
    | bl b => exact .base (.bl b)
    | int b => exact .base (.int b)
    | str b => exact .base (.str b)
    | lst q z => exact .base (.lst (R.sub _ _ q))
    | tup q z => exact .base (.tup (R.sub _ _ q))
  | own xs =>
    cases e
    obtain ⟨l, vs, rfl, h1, _⟩ := r
    exact .base (.lst h1)
  | scr ns =>
    cases e
    obtain ⟨l, rfl, h⟩ := r
    rcases h with (h | ⟨o, h⟩) | ⟨o, its, n, h1, h2, _⟩
    · exact .base (.lst (R.sub _ _ h))
    · exact .base (.frz (R.sub _ _ h))
    · exact .kList h1 h2
  | ref n =>
    obtain ⟨l, hl, rfl⟩ := r
    unfold tyOf at e
    dsimp only at e
    split at e
    · rename_i q
      cases e
      obtain ⟨vs, h1, _⟩ := R.obj n l _ hl q
      exact .base (.lst h1)
    · rename_i q
      cases e
      obtain ⟨vs, h1, _⟩ := R.obj n l _ hl q
      exact .base (.dK h1)
    · cases e
def vIsi (T : String) : Vl → M Vl := fun x st => match (tyOf x st).bind (fun t => kitB t T) with
  | some b => .ok (.d (.bool b)) st
  | none => .stuck
def kitAnyB (t : String) : List String → Option Bool
  | [] => some false
  | c :: cs => match kitB t c with
    | some true => some true
    | some false => kitAnyB t cs
    | none => none
def vIsiT (Ts : List String) : Vl → M Vl := fun x st => match (tyOf x st).bind (fun t => kitAnyB t Ts) with
  | some b => .ok (.d (.bool b)) st
  | none => .stuck
theorem kitAny_of {t : String} : ∀ {cs : List String} {r : Bool}, kitAnyB t cs = some r → PySem.W.kitAny K (.type t) (cs.map Value.type) = some r
  | [], r, h => h
  | c :: cs, r, h => by
    unfold kitAnyB at h
    rw [List.map_cons]
    cases e : kitB t c with
    | none => rw [e] at h; cases h
    | some b =>
      rw [e] at h
      refine kitAny_cons (kit_ty e) (fun eb => ?_) (fun eb => ?_)
      · subst eb; exact kitAny_of h
      · subst eb; cases h; rfl
section
variable {X : Cx} {pos : Pos}
theorem v_isi {T : Str} {n : String} {e : Expr} {g : G} {p p2 : Pos} (hg : Gl X "isinstance") (hm : X.mg "isinstance" = none) (gT : Gl X T) (mT : X.mg T = none) (vT : bootBuiltins T = some (.type n)) (h : PEv X E e g)
    (nT : T ≠ "__name__" := by decide) (dT : (T == ("__debug__" : Str)) = false := by decide)
    (he : starEach (e :: [.Name T p2]) X.env = (false, eval e X.env) :: starEach [.Name T p2] X.env := by rfl) (hpl : (backTo pos (starEach [.Name T p2] X.env)).any (·.1) = false := by rfl) : PEv X E (.Call (.Name "isinstance" p) [e, .Name T p2] [] pos) (gUn (vIsi n) g) :=
  pe_weak (pe_callB call_isi hg hm (by decide +kernel) (pa_cons h (pa_cons (pe_bltn (v := .ty n) gT mT vT rfl nT dT) pa_nil) he) (by decide) (by decide) he hpl) fun σ H Q h => tev_un h fun F ι st H1 H0 x a R th r o => by
    unfold vIsi at o
    cases et : tyOf a st with
    | none => rw [et] at o; exact o.elim
    | some t =>
      rw [et] at o
      cases ek : kitB t n with
      | none =>
        simp only [Option.bind_some, ek] at o
        exact o.elim
      | some b =>
        simp only [Option.bind_some, ek] at o
        exact ⟨x, .ty n, .type t, .type n, b, rfl, .ty n, ty_at R r et, kit_ty ek, Out.here o R (.bl _)⟩
/-- the names of the built-in types -/
inductive TyNs (X : Cx) : List Expr → List String → Prop
  | nil : TyNs X [] []
  | cons {T : Str} {n : String} {p : Pos} {es : List Expr} {ns : List String} (h : PE X (.Name T p) (tC (.ty n))) (r : TyNs X es ns) (hs : starEach (.Name T p :: es) X.env = (false, eval (.Name T p) X.env) :: starEach es X.env) : TyNs X (.Name T p :: es) (n :: ns)
theorem tyn {T : Str} {n : String} {p : Pos} {es : List Expr} {ns : List String} (gT : Gl X T) (mT : X.mg T = none) (vT : bootBuiltins T = some (.type n)) (r : TyNs X es ns) (nT : T ≠ "__name__" := by decide) (dT : (T == ("__debug__" : Str)) = false := by decide)
    (hs : starEach (.Name T p :: es) X.env = (false, eval (.Name T p) X.env) :: starEach es X.env := by rfl) : TyNs X (.Name T p :: es) (n :: ns) := .cons (pe_bltn (v := .ty n) gT mT vT rfl nT dT) r hs
def tTys (ns : List String) : TA := fun _ H Q => Q (ns.map V.ty) H
theorem TyNs.pa {es : List Expr} {ns : List String} (h : TyNs X es ns) : PA X es (tTys ns) := by
  induction h with
  | nil => exact pa_nil
  | cons h r hs ih => exact pa_weak (pa_cons h ih hs) fun σ H Q q => q
theorem paired_ty : ∀ ns : List String, Paired ClsV (ns.map V.ty) (ns.map Value.type)
  | [] => .nil
  | n :: ns => .cons (.ty n) (paired_ty ns)
theorem v_isiT {ns : List String} {es : List Expr} {e : Expr} {g : G} {p pt : Pos} {k : Nat} (hg : Gl X "isinstance") (hm : X.mg "isinstance" = none) (hT : TyNs X es ns) (h : PEv X E e g) (hl : ns.length ≤ sizeLine)
    (he : starEach (e :: [.Tuple es k pt]) X.env = (false, eval e X.env) :: starEach [.Tuple es k pt] X.env := by rfl) (he2 : starEach [.Tuple es k pt] X.env = (false, eval (.Tuple es k pt) X.env) :: starEach [] X.env := by rfl)
    (hpl : (backTo pos (starEach [.Tuple es k pt] X.env)).any (·.1) = false := by rfl) : PEv X E (.Call (.Name "isinstance" p) [e, .Tuple es k pt] [] pos) (gUn (vIsiT ns) g) :=
  pe_weak (pe_callB call_isiT hg hm (by decide +kernel) (pa_cons h (pa_cons (pe_tup hT.pa) pa_nil he2) he) (by decide) (by decide) he hpl) fun σ H Q h => tev_un h fun F ι st H1 H0 x a R th r o => by
    unfold vIsiT at o
    cases et : tyOf a st with
    | none => rw [et] at o; exact o.elim
    | some t =>
      rw [et] at o
      cases ek : kitAnyB t ns with
      | none =>
        simp only [Option.bind_some, ek] at o
        exact o.elim
      | some b =>
        simp only [Option.bind_some, ek] at o
        refine ⟨by rw [List.length_map]; exact hl, fun q hq => ?_⟩
        obtain ⟨R', s⟩ := R.put (o := .tup (ns.map V.ty)) hq
        exact ⟨x, q, _, .type t, _, b, rfl, upd_same, paired_ty ns, ty_at R' (r.step s) et, kitAny_of ek, Out.here (o.later s) R' (.bl _)⟩

/-! ### built-in functions and types of one value, of two -/
def C1V (K : PySem.W.Frag) (mg : Str → Option Value) (E : EX) (f : Vl → M Vl) (r : List V → Hp → VK → Prop) : Prop :=
  ∀ (F : Hp) (ι : Adr) (st : Store) (H H0 : Hp) (x : V) (a : Vl) (Q : VK), Rel K F ι st H → There H0 H → RelR K F ι H0 H x a → Out K mg E F ι H (relR K H0) (f a st) Q → r [x] H Q
def C2V (K : PySem.W.Frag) (mg : Str → Option Value) (E : EX) (f : Op2) (r : List V → Hp → VK → Prop) : Prop :=
  ∀ (F : Hp) (ι : Adr) (st : Store) (H H0 : Hp) (x y : V) (a b : Vl) (Q : VK), Rel K F ι st H → There H0 H → RelR K F ι H0 H x a → RelR K F ι H0 H y b → Out K mg E F ι H (relR K H0) (f a b st) Q → r [x, y] H Q
theorem v_b1 {id : String} {x : Str} {r : List V → Hp → VK → Prop} {f : Vl → M Vl} {e : Expr} {g : G} {p : Pos} (hc : CallR X (.builtin id) r) (hv : C1V X.K X.mg E f r) (hb : bootBuiltins x = some (.builtin id)) (hg : Gl X x) (hm : X.mg x = none) (h : PEv X E e g)
    (hn : x ≠ "__name__" := by decide) (hd : (x == ("__debug__" : Str)) = false := by decide) (he : starEach [e] X.env = (false, eval e X.env) :: starEach [] X.env := by rfl) : PEv X E (.Call (.Name x p) [e] [] pos) (gUn f g) :=
  pe_weak (pe_callB hc hg hm hb (pa_cons h pa_nil he) hn hd he (by rfl)) fun σ H Q h => tev_un h fun F ι st H1 H0 x a R th r o => hv F ι st H1 H0 x a Q R th r o
theorem v_t1 {T : String} {x : Str} {r : List V → Hp → VK → Prop} {f : Vl → M Vl} {e : Expr} {g : G} {p : Pos} (hc : CallR X (.type T) r) (hv : C1V X.K X.mg E f r) (hb : bootBuiltins x = some (.type T)) (hg : Gl X x) (hm : X.mg x = none) (h : PEv X E e g)
    (hn : x ≠ "__name__" := by decide) (hd : (x == ("__debug__" : Str)) = false := by decide) (he : starEach [e] X.env = (false, eval e X.env) :: starEach [] X.env := by rfl) : PEv X E (.Call (.Name x p) [e] [] pos) (gUn f g) :=
  pe_weak (pe_callTy hc hg hm hb (pa_cons h pa_nil he) hn hd he (by rfl)) fun σ H Q h => tev_un h fun F ι st H1 H0 x a R th r o => hv F ι st H1 H0 x a Q R th r o
theorem v_b2 {id : String} {x : Str} {r : List V → Hp → VK → Prop} {f : Op2} {e e2 : Expr} {g g2 : G} {p : Pos} (hc : CallR X (.builtin id) r) (hv : C2V X.K X.mg E f r) (hb : bootBuiltins x = some (.builtin id)) (hg : Gl X x) (hm : X.mg x = none) (h : PEv X E e g) (h2 : PEv X E e2 g2)
    (hn : x ≠ "__name__" := by decide) (hd : (x == ("__debug__" : Str)) = false := by decide) (he : starEach [e, e2] X.env = (false, eval e X.env) :: starEach [e2] X.env := by rfl) (he2 : starEach [e2] X.env = (false, eval e2 X.env) :: starEach [] X.env := by rfl)
    (hpl : (backTo pos (starEach [e2] X.env)).any (·.1) = false := by rfl) : PEv X E (.Call (.Name x p) [e, e2] [] pos) (gBin f g g2) :=
  pe_weak (pe_callB hc hg hm hb (pa_cons h (pa_cons h2 pa_nil he2) he) hn hd he hpl) fun σ H Q h => tev_op (r := fun x y H Q => r [x, y] H Q) (fun F ι st H H0 x y a b Q R th rx ry o => hv F ι st H H0 x y a b Q R th rx ry o) σ H Q h
/-- len -/
def vLen : Vl → M Vl := fun x st => match x with
  | .d (.str s) => if s.length ≤ sizeLine then .ok (.d (.int s.length)) st else .stuck
  | .d (.tuple xs) => .ok (.d (.int xs.length)) st
  | x => match lstOf x st with
    | some xs => .ok (.d (.int xs.length)) st
    | none => .stuck
theorem c1_len : C1V K mg E vLen (fun xs H Q => ∃ x n, xs = [x] ∧ LenV K x H n ∧ Q (.int n) H) := by
  intro F ι st H H0 x a Q R th rx o
  unfold vLen at o
  split at o
  · cases rx
    split at o
    · rename_i h
      exact ⟨_, _, rfl, ⟨h, rfl⟩, o.here R (.int _)⟩
    · exact o.elim
  · obtain ⟨l, vs, rfl, h, z⟩ := tup_at R rx rfl
    exact ⟨_, vs.length, rfl, .inr ⟨vs, h, rfl⟩, by rw [z.len]; exact o.here R (.int _)⟩
  · split at o
    · rename_i e
      obtain ⟨l, vs, rfl, h, z⟩ := lst_at R rx e
      exact ⟨_, vs.length, rfl, .inl ⟨vs, SqL.of h, rfl⟩, by rw [z.len]; exact o.here R (.int _)⟩
    · exact o.elim
def boolsOf : List PyData → Option (List Bool)
  | [] => some []
  | .bool b :: r => (boolsOf r).map (b :: ·)
  | _ => none
def intsOf : List PyData → Option (List Int)
  | [] => some []
  | .int b :: r => (intsOf r).map (b :: ·)
  | _ => none
def strsOf : List PyData → Option (List Str)
  | [] => some []
  | .str b :: r => (strsOf r).map (b :: ·)
  | _ => none
theorem bools_v : ∀ {vs : List V} {xs : List PyData} {bs : List Bool}, DnAll K F vs xs → boolsOf xs = some bs → vs = bs.map V.bl
  | _, _, _, .nil, h => by cases h; rfl
  | _, _, bs, .cons (d := d) (ds := ds) q r, h => by
    cases d with
    | bool b =>
      obtain ⟨bs', e, rfl⟩ := Option.map_eq_some_iff.mp (show (boolsOf ds).map (b :: ·) = some bs from h)
      cases q
      rw [List.map_cons, bools_v r e]
    | _ => cases h
theorem ints_v : ∀ {vs : List V} {xs : List PyData} {bs : List Int}, DnAll K F vs xs → intsOf xs = some bs → vs = bs.map V.int
  | _, _, _, .nil, h => by cases h; rfl
  | _, _, bs, .cons (d := d) (ds := ds) q r, h => by
    cases d with
    | int b =>
      obtain ⟨bs', e, rfl⟩ := Option.map_eq_some_iff.mp (show (intsOf ds).map (b :: ·) = some bs from h)
      cases q
      rw [List.map_cons, ints_v r e]
    | _ => cases h
theorem strs_v : ∀ {vs : List V} {xs : List PyData} {bs : List Str}, DnAll K F vs xs → strsOf xs = some bs → vs = bs.map V.str
  | _, _, _, .nil, h => by cases h; rfl
  | _, _, bs, .cons (d := d) (ds := ds) q r, h => by
    cases d with
    | str b =>
      obtain ⟨bs', e, rfl⟩ := Option.map_eq_some_iff.mp (show (strsOf ds).map (b :: ·) = some bs from h)
      cases q
      rw [List.map_cons, strs_v r e]
    | _ => cases h
def vAll : Vl → M Vl := fun x st => match (lstOf x st).bind boolsOf with
  | some bs => .ok (.d (.bool (bs.all id))) st
  | none => .stuck
def vAny : Vl → M Vl := fun x st => match (lstOf x st).bind boolsOf with
  | some bs => .ok (.d (.bool (bs.any id))) st
  | none => .stuck
def vSum : Vl → M Vl := fun x st => match (lstOf x st).bind intsOf with
  | some bs => .ok (.d (.int bs.sum)) st
  | none => .stuck
theorem c1_all : C1V K mg E vAll (rAll K) := by
  intro F ι st H H0 x a Q R th rx o
  unfold vAll at o
  split at o
  · rename_i bs e
    obtain ⟨xs, e1, e2⟩ := Option.bind_eq_some_iff.mp e
    obtain ⟨l, vs, rfl, h, z⟩ := lst_at R rx e1
    exact ⟨l, bs, rfl, SqL.of (by rw [← bools_v z e2]; exact h), o.here R (.bl _)⟩
  · exact o.elim
theorem c1_any : C1V K mg E vAny (rAny K) := by
  intro F ι st H H0 x a Q R th rx o
  unfold vAny at o
  split at o
  · rename_i bs e
    obtain ⟨xs, e1, e2⟩ := Option.bind_eq_some_iff.mp e
    obtain ⟨l, vs, rfl, h, z⟩ := lst_at R rx e1
    exact ⟨l, bs, rfl, SqL.of (by rw [← bools_v z e2]; exact h), o.here R (.bl _)⟩
  · exact o.elim
theorem c1_sum : C1V K mg E vSum (rSum K) := by
  intro F ι st H H0 x a Q R th rx o
  unfold vSum at o
  split at o
  · rename_i bs e
    obtain ⟨xs, e1, e2⟩ := Option.bind_eq_some_iff.mp e
    obtain ⟨l, vs, rfl, h, z⟩ := lst_at R rx e1
    exact ⟨l, bs, rfl, SqL.of (by rw [← ints_v z e2]; exact h), o.here R (.int _)⟩
  · exact o.elim
/-- int(x) of an int or a bool; bool(x); tuple(x), list(x) of a list or a tuple -/
def vInt : Vl → M Vl := fun x st => match x with
  | .d (.int i) => .ok (.d (.int i)) st
  | .d (.bool k) => .ok (.d (.int (if k then 1 else 0))) st
  | _ => .stuck
theorem c1_int : C1V K mg E vInt (fun xs H Q => (∃ i, xs = [.int i] ∧ Q (.int i) H) ∨ ∃ k, xs = [.bl k] ∧ Q (.int (if k then 1 else 0)) H) := by
  intro F ι st H H0 x a Q R th rx o
  unfold vInt at o
  split at o
  · cases rx; exact .inl ⟨_, rfl, o.here R (.int _)⟩
  · cases rx; exact .inr ⟨_, rfl, o.here R (.int _)⟩
  · exact o.elim
def vTuple : Vl → M Vl := fun x st => match x with
  | .d (.tuple xs) => .ok (.d (.tuple xs)) st
  | x => match lstOf x st with
    | some xs => .ok (.d (.tuple xs)) st
    | none => .stuck
theorem c1_tuple : C1V K mg E vTuple (fun xs H Q => ∃ p ys, xs = [.ref p] ∧ ((SqL K H p ys ∧ ∀ l, H l = none → Q (.ref l) (upd H l (.tup ys))) ∨ (SqT K H p ys ∧ Q (.ref p) H))) := by
  intro F ι st H H0 x a Q R th rx o
  unfold vTuple at o
  split at o
  · obtain ⟨l, vs, rfl, h, z⟩ := tup_at R rx rfl
    exact ⟨l, vs, rfl, .inr ⟨h, o.here R rx⟩⟩
  · split at o
    · rename_i e
      obtain ⟨l, vs, rfl, h, z⟩ := lst_at R rx e
      exact ⟨l, vs, rfl, .inl ⟨SqL.of h, o.tup R z⟩⟩
    · exact o.elim
def vList : Vl → M Vl := fun x st => match x with
  | .d (.tuple xs) => .ok (.own xs) st
  | .scr ns => .ok (.own (ns.map PyData.int)) st
  | x => match lstOf x st with
    | some xs => .ok (.own xs) st
    | none => .stuck
theorem dn_ints : ∀ ns : List Int, DnAll K F (ns.map V.int) (ns.map PyData.int)
  | [] => .nil
  | n :: ns => .cons (.int n) (dn_ints ns)
theorem c1_list : C1V K mg E vList (fun xs H Q => ∃ p ys, xs = [.ref p] ∧ (SqL K H p ys ∨ SqT K H p ys) ∧ ∀ l, H l = none → Q (.ref l) (upd H l (.lst ys))) := by
  intro F ι st H H0 x a Q R th rx o
  unfold vList at o
  split at o
  · obtain ⟨l, vs, rfl, h, z⟩ := tup_at R rx rfl
    exact ⟨l, vs, rfl, .inr h, o.lst R th z⟩
  · obtain ⟨l, rfl, h⟩ := rx
    exact ⟨l, _, rfl, .inl (R.sub.seq h), o.lst R th (dn_ints _)⟩
  · split at o
    · rename_i e
      obtain ⟨l, vs, rfl, h, z⟩ := lst_at R rx e
      exact ⟨l, vs, rfl, .inl (SqL.of h), o.lst R th z⟩
    · exact o.elim
def vMax2 : Op2 := intOp (fun _ _ => true) fun i j => if j > i then j else i
def vMin2 : Op2 := intOp (fun _ _ => true) fun i j => if j < i then j else i
theorem c2_max : C2V K mg E vMax2 (fun xs H Q => ∃ i j, xs = [.int i, .int j] ∧ Q (.int (if j > i then j else i)) H) := by
  intro F ι st H H0 x y a b Q R th rx ry o
  unfold vMax2 intOp at o
  split at o
  · cases rx; cases ry
    exact ⟨_, _, rfl, Out.here o R (.int _)⟩
  · exact o.elim
theorem c2_min : C2V K mg E vMin2 (fun xs H Q => ∃ i j, xs = [.int i, .int j] ∧ Q (.int (if j < i then j else i)) H) := by
  intro F ι st H H0 x y a b Q R th rx ry o
  unfold vMin2 intOp at o
  split at o
  · cases rx; cases ry
    exact ⟨_, _, rfl, Out.here o R (.int _)⟩
  · exact o.elim
/-- str(x) of an int -/
def vStr : Vl → M Vl := fun x st => match x with
  | .d (.int i) => if i.natAbs.log2 < 1920 then .ok (.d (.str (toString i))) st else .stuck
  | _ => .stuck
theorem c1_str : C1V K mg E vStr (fun xs H Q => ∃ i, xs = [.int i] ∧ i.natAbs.log2 < 1920 ∧ Q (.str (toString i)) H) := by
  intro F ι st H H0 x a Q R th rx o
  unfold vStr at o
  split at o
  · cases rx
    split at o
    · rename_i h; exact ⟨_, rfl, h, o.here R (.str _)⟩
    · exact o.elim
  · exact o.elim

/-! ### displays -/
def datsOf : List Vl → Option (List PyData)
  | [] => some []
  | .d x :: r => (datsOf r).map (x :: ·)
  | _ => none
theorem dats_v : ∀ {vs : List V} {xs : List Vl} {ds : List PyData}, Paired (RelVl K F ι) vs xs → datsOf xs = some ds → DnAll K F vs ds
  | _, _, _, .nil, h => by cases h; exact .nil
  | _, _, ds, .cons (l₂ := l) (b := b) q r, h => by
    cases b with
    | d x =>
      obtain ⟨bs', e, rfl⟩ := Option.map_eq_some_iff.mp (show (datsOf l).map (x :: ·) = some ds from h)
      exact .cons q (dats_v r e)
    | _ => cases h
def gTup (gs : GA) : G := fun ρ => M.bind (gs ρ) fun xs st => match datsOf xs with
  | some ds => if ds.length ≤ sizeLine then .ok (.d (.tuple ds)) st else .stuck
  | none => .stuck
def gLst (gs : GA) : G := fun ρ => M.bind (gs ρ) fun xs st => match datsOf xs with
  | some ds => if ds.length ≤ sizeLine then .ok (.own ds) st else .stuck
  | none => .stuck
theorem v_tup {es : List Expr} {gs : GA} {k : Nat} (h : PAv X E es gs) : PEv X E (.Tuple es k pos) (gTup gs) := by
  refine pe_weak (pe_tup h) fun σ H Q h => ?_
  obtain ⟨F, ι, ρ, st, R, env, o⟩ := h
  refine ⟨F, ι, ρ, st, R, env, Out.bind o fun vs F1 ι1 H1 xs st1 s1 R1 r1 o1 => ?_⟩
  split at o1
  · rename_i ds e
    split at o1
    · rename_i hl
      have z := dats_v r1 e
      exact ⟨by rw [z.len]; exact hl, Out.tup (o1.later s1) R1 z⟩
    · exact o1.elim
  · exact o1.elim
theorem v_lst {es : List Expr} {gs : GA} (h : PAv X E es gs) : PEv X E (.List es pos) (gLst gs) := by
  refine pe_weak (pe_lst h) fun σ H Q h => ?_
  obtain ⟨F, ι, ρ, st, R, env, o⟩ := h
  refine ⟨F, ι, ρ, st, R, env, Out.bind o fun vs F1 ι1 H1 xs st1 s1 R1 r1 o1 => ?_⟩
  split at o1
  · rename_i ds e
    split at o1
    · rename_i hl
      have z := dats_v r1 e
      exact ⟨by rw [z.len]; exact hl, Out.lst (o1.later s1) R1 s1.there z⟩
    · exact o1.elim
  · exact o1.elim

/-! ### places and slices -/
def vIx : Op2 := fun x y st => match x, y with
  | .d (.tuple xs), .d (.int i) => match atI xs i with
    | some d => .ok (.d d) st
    | none => .stuck
  | .d (.str s), .d (.int i) => if s.length ≤ sizeLine then (match atI s.cps.toList i with
    | some c => .ok (.d (.str ⟨#[c]⟩)) st
    | none => .stuck) else .stuck
  | x, .d (.int i) => match (lstOf x st).bind (fun xs => atI xs i) with
    | some d => .ok (.d d) st
    | none => .stuck
  | _, _ => .stuck
theorem DnAll.atI {vs : List V} {ds : List PyData} {i : Int} {d : PyData} (h : DnAll K F vs ds) (e : atI ds i = some d) : ∃ v, L2.atI vs i = some v ∧ Dn K F v d := by
  unfold L2.atI at e
  obtain ⟨j, e1, e2⟩ := Option.bind_eq_some_iff.mp e
  obtain ⟨v, e3, q⟩ := h.get e2
  exact ⟨v, by unfold L2.atI; rw [h.len, e1]; exact e3, q⟩
theorem ov_ix : OpV K mg E vIx (rIx K) := by
  intro F ι st H H0 x y a b Q R th rx ry o
  unfold vIx at o
  split at o
  · split at o
    · rename_i e
      cases ry
      obtain ⟨l, vs, rfl, h, z⟩ := tup_at R rx rfl
      obtain ⟨v, e1, q⟩ := z.atI e
      exact .inr (.inl ⟨l, vs, _, v, rfl, rfl, h, e1, o.here R q⟩)
    · exact o.elim
  · split at o
    · rename_i hl
      split at o
      · rename_i e
        cases rx; cases ry
        exact .inr (.inr ⟨_, _, _, rfl, rfl, hl, e, o.here R (.str _)⟩)
      · exact o.elim
    · exact o.elim
  · split at o
    · rename_i e
      obtain ⟨xs, e1, e2⟩ := Option.bind_eq_some_iff.mp e
      obtain ⟨l, vs, rfl, h, z⟩ := lst_at R rx e1
      obtain ⟨v, e3, q⟩ := z.atI e2
      cases ry
      exact .inl ⟨l, vs, _, v, rfl, rfl, SqL.of h, e3, o.here R q⟩
    · exact o.elim
  · exact o.elim
theorem v_ix {e i : Expr} {g gi : G} (he : PEv X E e g) (hi : PEv X E i gi) (hs : PlainIx i := by exact fun _ _ => rfl) : PEv X E (.Subscript e i pos) (gBin vIx g gi) := pe_weak (pe_ix ix_seq he hi hs) (tev_op ov_ix)
def cutL {α : Type} (xs : List α) (lo hi : Option Int) : List α := (xs.drop (HT.sIx xs.length 0 lo)).take (HT.sIx xs.length xs.length hi - HT.sIx xs.length 0 lo)
theorem DnAll.cut {vs : List V} {ds : List PyData} (h : DnAll K F vs ds) (lo hi : Option Int) : DnAll K F (cutV vs lo hi) (cutL ds lo hi) := by
  unfold cutV cutL
  rw [h.len]
  exact (h.drop _).take _
def vCut (x : Vl) (lo hi : Option Int) : M Vl := fun st => match x with
  | .d (.tuple xs) => .ok (.d (.tuple (cutL xs lo hi))) st
  | .d (.str s) => if s.length ≤ sizeLine then .ok (.d (.str (cutS s lo hi))) st else .stuck
  | .scr ns => .ok (.own (cutL (ns.map PyData.int) lo hi)) st
  | x => match lstOf x st with
    | some xs => .ok (.own (cutL xs lo hi)) st
    | none => .stuck
def gPart : Option G → Env → M (Option Int)
  | none, _ => M.pure none
  | some g, ρ => M.bind (g ρ) fun x => match x with
    | .d (.int i) => M.pure (some i)
    | _ => M.stuck
def gCut (g : G) (lo hi : Option G) : G := fun ρ => M.bind (g ρ) fun x => M.bind (gPart lo ρ) fun l => M.bind (gPart hi ρ) fun h => vCut x l h
def rCutV (K : PySem.W.Frag) : V → Option Int → Option Int → Hp → VK → Prop := fun x lo hi H Q => rSlL K x lo hi H Q ∨ rSlA K x lo hi H Q ∨ rSlS x lo hi H Q
theorem sl_cut : SlR X (rCutV X.K) := SlR.or sl_list (SlR.or sl_tupA sl_str)
theorem cut_whole {α : Type} {xs : List α} {lo hi : Option Int} (h : HT.sIx xs.length 0 lo = 0 ∧ HT.sIx xs.length xs.length hi = xs.length) : cutL xs lo hi = xs := by
  unfold cutL
  rw [h.1, h.2]
  simp
theorem cut_ok {x : V} {lo hi : Option Int} {Q : VK} (R : Rel K F ι st H) (th : There H0 H) (rx : RelR K F ι H0 H x a) (o : Out K mg E F ι H (relR K H0) (vCut a lo hi st) Q) : rCutV K x lo hi H Q := by
  unfold vCut at o
  split at o
  · rename_i xs
    obtain ⟨l, vs, rfl, h, z⟩ := tup_at R rx rfl
    refine .inr (.inl ⟨l, vs, rfl, h, fun hw => ?_, fun _ => o.tup R (z.cut lo hi)⟩)
    rw [z.len] at hw
    rw [cut_whole hw] at o
    exact o.here R rx
  · cases rx
    split at o
    · rename_i hl
      exact .inr (.inr ⟨_, rfl, hl, o.here R (.str _)⟩)
    · exact o.elim
  · obtain ⟨l, rfl, h⟩ := rx
    exact .inl ⟨l, _, rfl, R.sub.seq h, o.lst R th ((dn_ints _).cut lo hi)⟩
  · split at o
    · rename_i e
      obtain ⟨l, vs, rfl, h, z⟩ := lst_at R rx e
      exact .inl ⟨l, vs, rfl, SqL.of h, o.lst R th (z.cut lo hi)⟩
    · exact o.elim
/-- a slice's part -/
def tpv (K : PySem.W.Frag) (mg : Str → Option Value) (E : EX) (g : Option G) : TO := fun σ H Q => ∃ F ι ρ st, Rel K F ι st H ∧ RelEnv E K F ι ρ σ ∧ Out K mg E F ι H (fun _ _ _ (i j : Option Int) => i = j) (gPart g ρ st) Q
theorem po_weak {e : Option Expr} {t t' : TO} (h : PO X e t) (w : ∀ σ H Q, t' σ H Q → t σ H Q) : PO X e t' := ⟨fun pins s σ H Q I q => h.run pins s σ H Q I (w σ H Q q)⟩
def POv (X : Cx) (E : EX) (e : Option Expr) (g : Option G) : Prop := PO X e (tpv X.K X.mg E g)
theorem vo_none : POv X E none none := po_weak po_none fun σ H Q h => by
  obtain ⟨F, ι, ρ, st, R, env, o⟩ := h
  exact o none F ι H (Step.refl _ _ _) R rfl
theorem vo_some {e : Expr} {g : G} (h : PEv X E e g) : POv X E (some e) (some g) := po_weak (po_some h) fun σ H Q h => by
  obtain ⟨F, ι, ρ, st, R, env, o⟩ := h
  refine ⟨F, ι, ρ, st, R, env, Out.bind o fun x F1 ι1 H1 a st1 s1 R1 r1 o1 => ?_⟩
  split at o1
  · cases r1
    exact ⟨_, rfl, o1 _ F1 ι1 H1 s1 R1 rfl⟩
  · exact o1.elim
theorem v_cut {e : Expr} {lo hi : Option Expr} {g : G} {gl gh : Option G} {p2 : Pos} (he : PEv X E e g) (hl : POv X E lo gl) (hh : POv X E hi gh) : PEv X E (.Subscript e (.Slice lo hi none p2) pos) (gCut g gl gh) := by
  refine pe_weak (pe_slice sl_cut he hl hh) fun σ H Q h => ?_
  obtain ⟨F, ι, ρ, st, R, env, o⟩ := h
  refine ⟨F, ι, ρ, st, R, env, Out.bind o fun x F1 ι1 H1 a st1 s1 R1 r1 o1 => ?_⟩
  refine ⟨F1, ι1, ρ, st1, R1, env.step s1, Out.bind (o1.later s1) fun l F2 ι2 H2 l' st2 s2 R2 r2 o2 => ?_⟩
  refine ⟨F2, ι2, ρ, st2, R2, (env.step s1).step s2, Out.bind (o2.later s2) fun u F3 ι3 H3 u' st3 s3 R3 r3 o3 => ?_⟩
  subst r2
  subst r3
  exact cut_ok R3 (fun p q => s1.there p (s2.there p (s3.there p q))) ((r1.step s2).step s3) (o3.later s3)
/-- xs[::-1] of a list -/
def vRev : Vl → M Vl := fun x st => match lstOf x st with
  | some xs => .ok (.own xs.reverse) st
  | none => .stuck
theorem v_rev {e : Expr} {g : G} {k : Nat} {p1 p2 p3 : Pos} (he : PEv X E e g) : PEv X E (.Subscript e (.Slice none none (some (.UnaryOp .USub (.Constant (.int 1) k p1) p2)) p3) pos) (gUn vRev g) :=
  pe_weak (pe_revL he) fun σ H Q h => tev_un h fun F ι st H1 H0 x a R th r o => by
    unfold vRev at o
    split at o
    · rename_i e
      obtain ⟨l, vs, rfl, h, z⟩ := lst_at R r e
      exact ⟨l, vs, rfl, SqL.of h, o.lst R th z.rev⟩
    · exact o.elim
end
end Zv
set_option Elab.async false
set_option linter.all false
set_option maxRecDepth 100000
set_option maxHeartbeats 4000000
/-! Z6: statements, targets, walks, loops, comprehensions. -/
namespace Zv
open PySem PySem.Spec PyProof.Rows L2
variable {K : PySem.W.Frag} {mg : Str → Option Value} {E : EX} {F F' F1 H H' H0 H1 : Hp} {ι ι' ι1 : Adr} {st st' st1 : Store} {v w : V} {a b : Vl}

inductive Flow where
  | nx (ρ : Env) | rt (x : Vl) | bk (ρ : Env) | ct (ρ : Env)
abbrev SG := Env → M Flow
inductive FC where
  | nx (σ : L2.St) | rt (v : V) | bk (σ : L2.St) | ct (σ : L2.St)
def relF (K : PySem.W.Frag) (E : EX) (H0 : Hp) : RelT Flow FC := fun F ι H c f => match c, f with
  | .nx σ, .nx ρ => RelEnv E K F ι ρ σ
  | .rt v, .rt x => RelR K F ι H0 H v x
  | .bk σ, .bk ρ => RelEnv E K F ι ρ σ
  | .ct σ, .ct ρ => RelEnv E K F ι ρ σ
  | _, _ => False
def endsQ (D : Ends) : FC → Hp → Prop := fun c H => match c with
  | .nx σ => D.nx σ H
  | .rt v => D.rt v H
  | .bk σ => D.bk σ H
  | .ct σ => D.ct σ H
def tsv (K : PySem.W.Frag) (mg : Str → Option Value) (E : EX) (g : SG) : TS := fun D σ H => ∃ F ι ρ st, Rel K F ι st H ∧ RelEnv E K F ι ρ σ ∧ Out K mg E F ι H (relF K E H) (g ρ st) (endsQ D)
def PSv (X : Cx) (E : EX) (s : Stmt) (g : SG) : Prop := PS X s (tsv X.K X.mg E g)
def PSsv (X : Cx) (E : EX) (s : List Stmt) (g : SG) : Prop := PSs X s (tsv X.K X.mg E g)
theorem relF_back (th : There H0 H) (F' : Hp) (ι' : Adr) (H' : Hp) (c : FC) (f : Flow) (r : relF K E H F' ι' H' c f) : relF K E H0 F' ι' H' c f := by
  cases c <;> cases f <;> first | exact r | exact r.elim | exact r.back' th

/-! ### the mirror's statements -/
def sSkip : SG := fun ρ => M.pure (.nx ρ)
def sSeq (a b : SG) : SG := fun ρ => M.bind (a ρ) fun f => match f with
  | .nx ρ' => b ρ'
  | f => M.pure f
def sIf (c : GB) (a b : SG) : SG := fun ρ => M.bind (c ρ) fun k => if k = true then a ρ else b ρ
def sRet (g : G) : SG := fun ρ => M.bind (g ρ) fun x => M.pure (.rt x)
def sRetN : SG := fun _ => M.pure (.rt (.d .none))
def sDrop (g : G) : SG := fun ρ => M.bind (g ρ) fun _ => M.pure (.nx ρ)
def sBreak : SG := fun ρ => M.pure (.bk ρ)
def sCont : SG := fun ρ => M.pure (.ct ρ)
def sNever : SG := fun _ => M.stuck
def sSet (i : Nat) (g : G) : SG := fun ρ => M.bind (g ρ) fun x => M.pure (.nx (ρ.set i (some (frz x))))
def sSetE (i : Nat) (g : G) : SG := fun ρ => M.bind (M.bind (g ρ) enter) fun x => M.pure (.nx (ρ.set i (some x)))
section
variable {X : Cx} {pos : Pos} {s : Stmt} {ss : List Stmt} {g g' : SG}
theorem sv_nil : PSsv X E [] sSkip := pss_weak pss_nil fun D σ H h => by
  obtain ⟨F, ι, ρ, st, R, env, o⟩ := h
  exact o (.nx σ) F ι H (Step.refl _ _ _) R env
theorem tsv_seq (D : Ends) (σ : L2.St) (H : Hp) (h : tsv K mg E (sSeq g g') D σ H) : tSeq (tsv K mg E g) (tsv K mg E g') D σ H := by
  obtain ⟨F, ι, ρ, st, R, env, o⟩ := h
  refine ⟨F, ι, ρ, st, R, env, Out.bind o fun c F1 ι1 H1 f st1 s1 R1 r1 o1 => ?_⟩
  cases f with
  | nx ρ' =>
    cases c with
    | nx σ' => exact ⟨F1, ι1, ρ', st1, R1, r1, (o1.later s1).mono (fun _ _ _ _ _ q => relF_back s1.there _ _ _ _ _ q) fun _ _ q => q⟩
    | _ => exact r1.elim
  | rt x =>
    cases c with
    | rt v => exact o1 (.rt v) F1 ι1 H1 s1 R1 r1
    | _ => exact r1.elim
  | bk ρ' =>
    cases c with
    | bk σ' => exact o1 (.bk σ') F1 ι1 H1 s1 R1 r1
    | _ => exact r1.elim
  | ct ρ' =>
    cases c with
    | ct σ' => exact o1 (.ct σ') F1 ι1 H1 s1 R1 r1
    | _ => exact r1.elim
theorem sv_cons (h : PSv X E s g) (h2 : PSsv X E ss g') : PSsv X E (s :: ss) (sSeq g g') := pss_weak (pss_cons h h2) tsv_seq
theorem sv_one (h : PSv X E s g) : PSsv X E [s] g := pss_one h
theorem sv_pass : PSv X E (.Pass pos) sSkip := ps_weak ps_pass fun D σ H h => by
  obtain ⟨F, ι, ρ, st, R, env, o⟩ := h
  exact o (.nx σ) F ι H (Step.refl _ _ _) R env
theorem sv_break : PSv X E (.Break pos) sBreak := ps_weak ps_break fun D σ H h => by
  obtain ⟨F, ι, ρ, st, R, env, o⟩ := h
  exact o (.bk σ) F ι H (Step.refl _ _ _) R env
theorem sv_cont : PSv X E (.Continue pos) sCont := ps_weak ps_continue fun D σ H h => by
  obtain ⟨F, ι, ρ, st, R, env, o⟩ := h
  exact o (.ct σ) F ι H (Step.refl _ _ _) R env
theorem sv_never : PSv X E s sNever := ps_weak ps_never fun D σ H h => by
  obtain ⟨F, ι, ρ, st, R, env, o⟩ := h
  exact o.elim
theorem sv_if {c : Expr} {a b : List Stmt} {t : GB} (hc : PTv X E c t) (ha : PSsv X E a g) (hb : PSsv X E b g') : PSv X E (.If c a b pos) (sIf t g g') := ps_weak (ps_if hc ha hb) fun D σ H h => by
  obtain ⟨F, ι, ρ, st, R, env, o⟩ := h
  refine ⟨F, ι, ρ, st, R, env, Out.bind o fun k F1 ι1 H1 k' st1 s1 R1 r1 o1 => ?_⟩
  cases r1
  cases k with
  | true => exact ⟨F1, ι1, ρ, st1, R1, env.step s1, (Out.later o1 s1).mono (fun _ _ _ _ _ q => relF_back s1.there _ _ _ _ _ q) fun _ _ q => q⟩
  | false => exact ⟨F1, ι1, ρ, st1, R1, env.step s1, (Out.later o1 s1).mono (fun _ _ _ _ _ q => relF_back s1.there _ _ _ _ _ q) fun _ _ q => q⟩
theorem sv_ret {e : Expr} {g : G} (h : PEv X E e g) : PSv X E (.Return (some e) pos) (sRet g) := ps_weak (ps_ret h) fun D σ H h => by
  obtain ⟨F, ι, ρ, st, R, env, o⟩ := h
  exact ⟨F, ι, ρ, st, R, env, Out.bind o fun v F1 ι1 H1 x st1 s1 R1 r1 o1 => o1 (.rt v) F1 ι1 H1 s1 R1 r1⟩
theorem sv_retN : PSv X E (.Return none pos) sRetN := ps_weak ps_retN fun D σ H h => by
  obtain ⟨F, ι, ρ, st, R, env, o⟩ := h
  exact o (.rt .non) F ι H (Step.refl _ _ _) R .non
theorem sv_expr {e : Expr} {g : G} (h : PEv X E e g) (hs : swapsWith e none pos.line X.env = pure false := by rfl) : PSv X E (.Expr e pos) (sDrop g) := ps_weak (ps_expr h hs) fun D σ H h => by
  obtain ⟨F, ι, ρ, st, R, env, o⟩ := h
  exact ⟨F, ι, ρ, st, R, env, Out.bind o fun v F1 ι1 H1 x st1 s1 R1 r1 o1 => o1 (.nx σ) F1 ι1 H1 s1 R1 (env.step s1)⟩
/-- name = e -/
theorem tev_set {i : Nat} {g : G} {ρ : Env} {D : Ends} {σ : L2.St} (hfr : E.free) (env : RelEnv E K F ι ρ σ) (o : Out K mg E F ι H (relF K E H) (sSet i g ρ st) (endsQ D)) : Out K mg E F ι H (relR K H) (g ρ st) (fun x H1 => D.nx (σ.set i (some x)) H1) :=
  Out.bind o fun v F1 ι1 H1 x st1 s1 R1 r1 o1 => by
    obtain ⟨F2, R2, s2, g2, r2⟩ := R1.frz s1.there s1 r1
    exact o1 (.nx _) F2 ι1 H1 s2 R2 (RelEnv.set hfr (env.step s2) i r2)
theorem sv_set {i : Nat} {x : Str} {e : Expr} {g : G} {pos' : Pos} (hN : X.N.Nodup) (hi : X.N[i]? = some x) (hx : Loc X.env.scope x) (he : PEv X E e g) (hs : swapsWith e (some (.Name x pos')) pos.line X.env = pure false := by rfl) (hf : X.fn x = true ∨ X.env.scope.names.lookup x = some .local := by first | exact .inl rfl | exact .inr rfl | assumption) (hfr : E.free := by exact fun _ _ _ _ h => h) :
    PSv X E (.Assign [.Name x pos'] e pos) (sSet i g) := ps_weak (ps_set hN hi hx he hs hf) fun D σ H h => by
  obtain ⟨F, ι, ρ, st, R, env, o⟩ := h
  exact ⟨F, ι, ρ, st, R, env, tev_set hfr env o⟩
theorem enter_ok {Q : VK} {α : Type} {β : Type} {rel : RelT β α} {f : Vl → M β} {P : V → Hp → Prop} {QQ : α → Hp → Prop} {g : G} {ρ : Env} (o : Out K mg E F ι H rel (M.bind (M.bind (g ρ) enter) f st) QQ)
    (h : ∀ v F1 ι1 H1 x st1, Step F ι H F1 ι1 H1 → Rel K F1 ι1 st1 H1 → RelVl K F1 ι1 v x → Out K mg E F ι H rel (f x st1) QQ → P v H1) : Out K mg E F ι H (relR K H) (g ρ st) P := by
  have o' : Out K mg E F ι H rel (M.bind (g ρ) (fun x => M.bind (enter x) f) st) QQ := by
    have e0 : M.bind (g ρ) (fun x => M.bind (enter x) f) st = M.bind (M.bind (g ρ) enter) f st := by
      unfold M.bind
      cases g ρ st <;> rfl
    rw [e0]; exact o
  refine o'.bind fun x F1 ι1 H1 a st1 s1 R1 r1 o1 => ?_
  cases a with
  | own xs =>
    obtain ⟨l, vs, rfl, h1, h2, h3, h4, h5⟩ := r1
    have R2 := R1.enter (ob := .lst xs) h2 h3 ⟨vs, h1, h5⟩ trivial
    exact h (.ref l) F1 (ι1 ++ [l]) H1 (.ref st1.length) _ (s1.enter h4) R2 ⟨l, by rw [← R1.len]; simp, rfl⟩ o1
  | _ => exact o1.elim
theorem sv_setE {i : Nat} {x : Str} {e : Expr} {g : G} {pos' : Pos} (hN : X.N.Nodup) (hi : X.N[i]? = some x) (hx : Loc X.env.scope x) (he : PEv X E e g) (hs : swapsWith e (some (.Name x pos')) pos.line X.env = pure false := by rfl) (hf : X.fn x = true ∨ X.env.scope.names.lookup x = some .local := by first | exact .inl rfl | exact .inr rfl | assumption) (hfr : E.free := by exact fun _ _ _ _ h => h) :
    PSv X E (.Assign [.Name x pos'] e pos) (sSetE i g) := ps_weak (ps_set hN hi hx he hs hf) fun D σ H h => by
  obtain ⟨F, ι, ρ, st, R, env, o⟩ := h
  exact ⟨F, ι, ρ, st, R, env, enter_ok (Q := fun _ _ => True) o fun v F1 ι1 H1 x st1 s1 R1 r1 o1 => o1 (.nx _) F1 ι1 H1 s1 R1 (RelEnv.set hfr (env.step s1) i r1)⟩

/-! ### targets -/
abbrev TGv := Vl → Env → Option Env
/-- what the target leaves: the slots of ws alone may differ -/
def Lf (K : PySem.W.Frag) (F : Hp) (ι : Adr) (ws : List Nat) (ρ' : Env) (σ σ' : L2.St) : Prop := REnv K F ι ρ' σ' ∧ σ'.length = σ.length ∧ ∀ i, i ∉ ws → σ'[i]? = σ[i]?
def tgT (K : PySem.W.Frag) (t : TGv) (ws : List Nat) : TG := fun v σ H Q => ∃ F ι st x ρ ρ', Rel K F ι st H ∧ RelVl K F ι v x ∧ REnv K F ι ρ σ ∧ t x ρ = some ρ' ∧ ∀ σ', Lf K F ι ws ρ' σ σ' → Q σ' H
def PGv (X : Cx) (tg : Expr) (t : TGv) (ws : List Nat) : Prop := PG X tg (tgT X.K t ws)
theorem PGv.ex {X : Cx} {tg : Expr} {t : TGv} {ws : List Nat} (h : PGv X tg t ws) : ∃ u : TG, PG X tg u ∧ ∀ (F : Hp) (ι : Adr) (st : Store) (H : Hp) (v : V) (x : Vl) (ρ ρ' : Env) (σ : L2.St) (Q : L2.St → Hp → Prop), Rel X.K F ι st H → RelVl X.K F ι v x → REnv X.K F ι ρ σ → t x ρ = some ρ' → (∀ σ', Lf X.K F ι ws ρ' σ σ' → Q σ' H) → u v σ H Q :=
  ⟨_, h, fun F ι st H v x ρ ρ' σ Q R r env e q => ⟨F, ι, st, x, ρ, ρ', R, r, env, e, q⟩⟩
theorem PGv.of {X : Cx} {tg : Expr} {t : TGv} {ws : List Nat} (h : ∃ u : TG, PG X tg u ∧ ∀ (F : Hp) (ι : Adr) (st : Store) (H : Hp) (v : V) (x : Vl) (ρ ρ' : Env) (σ : L2.St) (Q : L2.St → Hp → Prop), Rel X.K F ι st H → RelVl X.K F ι v x → REnv X.K F ι ρ σ → t x ρ = some ρ' → (∀ σ', Lf X.K F ι ws ρ' σ σ' → Q σ' H) → u v σ H Q) : PGv X tg t ws := by
  obtain ⟨u, hu, k⟩ := h
  exact ⟨fun pins s σ H v w Q I r ⟨F, ι, st, x, ρ, ρ', R, r', env, e, q⟩ => hu.run pins s σ H v w Q I r (k F ι st H v x ρ ρ' σ Q R r' env e q)⟩
def gtName (i : Nat) : TGv := fun x ρ => some (ρ.set i (some x))
def gtTupL : List TGv → List PyData → Env → Option Env
  | [], [], ρ => some ρ
  | t :: ts, x :: xs, ρ => match t (.d x) ρ with
    | some ρ1 => gtTupL ts xs ρ1
    | none => none
  | _, _, _ => none
def gtTup (ts : List TGv) : TGv := fun x ρ => match x with
  | .d (.tuple xs) => gtTupL ts xs ρ
  | _ => none
theorem tg_name {i : Nat} {x : Str} {p : Pos} (hN : X.N.Nodup) (hi : X.N[i]? = some x) (hx : Loc X.env.scope x) (hf : X.fn x = true ∨ X.env.scope.names.lookup x = some .local := by first | exact .inl rfl | exact .inr rfl | assumption) : PGv X (.Name x p) (gtName i) [i] :=
  .of ⟨gName i, pg_name hN hi hx hf, fun F ι st H v x ρ ρ' σ Q R r env e q => by
    cases e
    exact q _ ⟨env.set i r, by simp, fun j hj => List.getElem?_set_ne (fun e => hj (by simp [e]))⟩⟩
def PGsv (X : Cx) (tgs : List Expr) (ts : List TGv) (ws : List Nat) : Prop := ∃ u : TGs, PGs X tgs u ∧ ∀ (F : Hp) (ι : Adr) (st : Store) (H : Hp) (vs : List V) (xs : List PyData) (ρ ρ' : Env) (σ : L2.St) (Q : L2.St → Hp → Prop), Rel X.K F ι st H → DnAll X.K F vs xs → REnv X.K F ι ρ σ →
  gtTupL ts xs ρ = some ρ' → (∀ σ', Lf X.K F ι ws ρ' σ σ' → Q σ' H) → u vs σ H Q
theorem tgs_nil : PGsv X [] [] [] := ⟨gNil, pgs_nil, fun F ι st H vs xs ρ ρ' σ Q R r env e q => by
  cases xs with
  | nil => cases r; cases e; exact ⟨rfl, q _ ⟨env, rfl, fun _ _ => rfl⟩⟩
  | cons x xs => cases e⟩
theorem tgs_cons {e : Expr} {es : List Expr} {t : TGv} {ts : List TGv} {w1 w2 : List Nat} (h : PGv X e t w1) (h2 : PGsv X es ts w2) (hs : (assignEach (e :: es) X.env).map (·.2) = assign e X.env :: (assignEach es X.env).map (·.2) := by rfl) : PGsv X (e :: es) (t :: ts) (w1 ++ w2) := by
  obtain ⟨u, hu, k⟩ := h.ex
  obtain ⟨us, hus, ks⟩ := h2
  refine ⟨gCons u us, pgs_cons hu hus hs, fun F ι st H vs xs ρ ρ' σ Q R r env e q => ?_⟩
  cases xs with
  | nil => cases e
  | cons x xs =>
    cases r with
    | cons r1 r2 =>
      refine ⟨_, _, rfl, ?_⟩
      unfold gtTupL at e
      split at e
      · rename_i ρ1 e1
        exact k F ι st H _ (.d x) ρ ρ1 σ _ R r1 env e1 fun σ' l1 => ks F ι st H _ xs ρ1 ρ' σ' Q R r2 l1.1 e fun σ'' l2 => q σ'' ⟨l2.1, l2.2.1.trans l1.2.1, fun i hi => by
          rw [List.mem_append, not_or] at hi
          exact (l2.2.2 i hi.2).trans (l1.2.2 i hi.1)⟩
      · cases e
theorem gtTupL_len : ∀ {ts : List TGv} {xs : List PyData} {ρ ρ' : Env}, gtTupL ts xs ρ = some ρ' → xs.length = ts.length
  | [], [], _, _, _ => rfl
  | t :: ts, x :: xs, ρ, ρ', h => by
    unfold gtTupL at h
    split at h
    · rw [List.length_cons, List.length_cons, gtTupL_len h]
    · cases h
  | [], _ :: _, _, _, h => by cases h
  | _ :: _, [], _, _, h => by cases h
theorem tg_tup {es : List Expr} {k : Nat} {ts : List TGv} {ws : List Nat} {p : Pos} {n : Nat} (hc : X.calm = true) (h : PGsv X es ts ws) (hl : ts.length = n := by rfl) (hn : (assignEach es X.env).length = n := by rfl) (hst : (assignEach es X.env).findIdx? (·.1) = none := by rfl) : PGv X (.Tuple es k p) (gtTup ts) ws := by
  obtain ⟨us, hus, ks⟩ := h
  refine .of ⟨_, pg_tup hc hus hn hst, fun F ι st H v x ρ ρ' σ Q R r env e q => ?_⟩
  unfold gtTup at e
  split at e
  · rename_i xs
    have hlx := gtTupL_len e
    obtain ⟨l, vs, rfl, h, z⟩ := tup_at (H0 := H) R r.toR rfl
    exact ⟨l, vs, rfl, h, by rw [z.len, hlx, hl], ks F ι st H vs xs ρ ρ' σ Q R z env e q⟩
  · cases e
/-- target = e, any target -/
def sAsg (t : TGv) (g : G) : SG := fun ρ => M.bind (g ρ) fun x => match t (frz x) ρ with
  | some ρ' => M.pure (.nx ρ')
  | none => M.stuck
theorem sv_asg {tg e : Expr} {t : TGv} {ws : List Nat} {g : G} (he : PEv X E e g) (hg : PGv X tg t ws) (hs : swapsWithSole [tg] e pos.line X.env = pure false := by rfl) (hw : swappedStores [tg] e X.env = pure none := by rfl)
    (h1 : (assignEach [tg] X.env).map (·.2) = [assign tg X.env] := by rfl) (hfr : E.free := by exact fun _ _ _ _ h => h) : PSv X E (.Assign [tg] e pos) (sAsg t g) := by
  obtain ⟨u, hu, k⟩ := hg.ex
  refine ps_weak (ps_asg he hu hs hw h1) fun D σ H h => ?_
  obtain ⟨F, ι, ρ, st, R, env, o⟩ := h
  refine ⟨F, ι, ρ, st, R, env, Out.bind o fun v F1 ι1 H1 x st1 s1 R1 r1 o1 => ?_⟩
  obtain ⟨F2, R2, s2, g2, r2⟩ := R1.frz s1.there s1 r1
  cases e1 : t (frz x) ρ with
  | none => simp only [e1] at o1; exact o1.elim
  | some ρ' =>
    simp only [e1] at o1
    exact k F2 ι1 st1 H1 v (frz x) ρ ρ' σ _ R2 r2 (env.step s2).2 e1 fun σ' env' => o1 (.nx σ') F2 ι1 H1 s2 R2 ⟨hfr _ _ _ _ (env.step s2).1, env'.1⟩
/-- a, b = x, y: the names i, j get the values, each handed on or entered -/
def sPar (is : List Nat) (gs : GA) : SG := fun ρ => M.bind (gs ρ) fun xs => if xs.length = is.length then M.pure (.nx ((is.zip xs).foldl (fun ρ p => ρ.set p.1 (some p.2)) ρ)) else M.stuck
theorem sv_par {i j : Nat} {x y : Str} {a b : Expr} {gs : GA} {px py pt : Pos} {kt k2 pt2} (hc : X.calm = true) (hN : X.N.Nodup) (hi : X.N[i]? = some x) (hj : X.N[j]? = some y) (hij : i ≠ j)
    (hx : X.env.scope.names.lookup x = some .local) (hy : X.env.scope.names.lookup y = some .local) (ha : PAv X E [a, b] gs)
    (hw : swappedStores [.Tuple [.Name x px, .Name y py] kt pt] (.Tuple [a, b] k2 pt2) X.env = pure (some [x, y]))
    (hs : swapsWithSole [.Tuple [.Name x px, .Name y py] kt pt] (.Tuple [a, b] k2 pt2) pos.line X.env = pure false := by rfl) (hfr : E.free := by exact fun _ _ _ _ h => h) :
    PSv X E (.Assign [.Tuple [.Name x px, .Name y py] kt pt] (.Tuple [a, b] k2 pt2) pos) (sPar [i, j] gs) := ps_weak (ps_par hc hN hi hj hij hx hy ha hw hs) fun D σ H h => by
  obtain ⟨F, ι, ρ, st, R, env, o⟩ := h
  refine ⟨F, ι, ρ, st, R, env, Out.bind o fun vs F1 ι1 H1 xs st1 s1 R1 r1 o1 => ?_⟩
  split at o1
  · rename_i hl
    cases r1 with
    | nil => cases hl
    | cons q1 r1 =>
      cases r1 with
      | nil => cases hl
      | cons q2 r1 =>
        cases r1 with
        | nil => exact ⟨_, _, rfl, o1 (.nx _) F1 ι1 H1 s1 R1 (RelEnv.set hfr (RelEnv.set hfr (env.step s1) i q1) j q2)⟩
        | cons q3 r1 => cases hl
  · exact o1.elim
theorem sv_par3 {i j l : Nat} {x y z : Str} {a b c : Expr} {gs : GA} {px py pz pt : Pos} {kt k2 pt2} (hc : X.calm = true) (hN : X.N.Nodup) (hi : X.N[i]? = some x) (hj : X.N[j]? = some y) (hl : X.N[l]? = some z) (hij : i ≠ j) (hil : i ≠ l) (hjl : j ≠ l)
    (hx : X.env.scope.names.lookup x = some .local) (hy : X.env.scope.names.lookup y = some .local) (hz : X.env.scope.names.lookup z = some .local) (ha : PAv X E [a, b, c] gs)
    (hw : swappedStores [.Tuple [.Name x px, .Name y py, .Name z pz] kt pt] (.Tuple [a, b, c] k2 pt2) X.env = pure (some [x, y, z]))
    (hs : swapsWithSole [.Tuple [.Name x px, .Name y py, .Name z pz] kt pt] (.Tuple [a, b, c] k2 pt2) pos.line X.env = pure false := by rfl) (hfr : E.free := by exact fun _ _ _ _ h => h) :
    PSv X E (.Assign [.Tuple [.Name x px, .Name y py, .Name z pz] kt pt] (.Tuple [a, b, c] k2 pt2) pos) (sPar [i, j, l] gs) := ps_weak (ps_par3 hc hN hi hj hl hij hil hjl hx hy hz ha hw hs) fun D σ H h => by
  obtain ⟨F, ι, ρ, st, R, env, o⟩ := h
  refine ⟨F, ι, ρ, st, R, env, Out.bind o fun vs F1 ι1 H1 xs st1 s1 R1 r1 o1 => ?_⟩
  split at o1
  · rename_i hl
    cases r1 with
    | nil => cases hl
    | cons q1 r1 =>
      cases r1 with
      | nil => cases hl
      | cons q2 r1 =>
        cases r1 with
        | nil => cases hl
        | cons q3 r1 =>
          cases r1 with
          | nil => exact ⟨_, _, _, rfl, o1 (.nx _) F1 ι1 H1 s1 R1 (RelEnv.set hfr (RelEnv.set hfr (RelEnv.set hfr (env.step s1) i q1) j q2) l q3)⟩
          | cons q4 r1 => cases hl
  · exact o1.elim
end
end Zv
set_option Elab.async false
set_option linter.all false
set_option maxRecDepth 100000
set_option maxHeartbeats 4000000
/-! Z7: while, walks, for, comprehensions. -/
namespace Zv
open PySem PySem.Spec PyProof.Rows L2
variable {K : PySem.W.Frag} {mg : Str → Option Value} {E : EX} {F F' F1 H H' H0 H1 : Hp} {ι ι' ι1 : Adr} {st st' st1 : Store} {v w : V} {a b : Vl}

/-! ### while -/
def whileL (c : GB) (b : SG) : Nat → SG
  | 0, _ => M.stuck
  | n + 1, ρ => M.bind (c ρ) fun k => if k = true then M.bind (b ρ) (fun f => match f with
      | .nx ρ' => whileL c b n ρ'
      | .ct ρ' => whileL c b n ρ'
      | .bk ρ' => M.pure (.nx ρ')
      | .rt x => M.pure (.rt x)) else M.pure (.nx ρ)
def wFuel : Nat := 1000000000000
def sWhile (c : GB) (b : SG) : SG := fun ρ => whileL c b wFuel ρ
theorem Out.stuckless {α β : Type} {rel : RelT α β} {r : Res α} {Q : β → Hp → Prop} (o : Out K mg E F ι H rel r Q) : r ≠ .stuck := fun e => by subst e; exact o
section
variable {X : Cx} {pos : Pos} {s : Stmt} {ss : List Stmt} {g g' : SG}
theorem sv_while {c : Expr} {body : List Stmt} {t : GB} {b : SG} (hp : PassesOwn (model X.prog X.w) X.A X.env X.xe) (hc : PTv X E c t) (hb : PSsv X E body b) : PSv X E (.While c body [] pos) (sWhile t b) := by
  refine ps_weak (ps_while hp hc hb) fun D σ H h => ?_
  obtain ⟨F, ι, ρ, st, R, env, o⟩ := h
  · refine ⟨fun m σ' H' => ∃ F' ι' ρ' st', Rel X.K F' ι' st' H' ∧ RelEnv E X.K F' ι' ρ' σ' ∧ There H H' ∧ Out X.K X.mg E F' ι' H' (relF X.K E H) (whileL t b m ρ' st') (endsQ D), ⟨_, F, ι, ρ, st, R, env, fun _ q => q, o⟩, ?_⟩
    clear o R env
    rintro m σ1 H1 ⟨F1, ι1, ρ1, st1, R1, env1, th1, o1⟩
    cases m with
    | zero => exact o1.elim
    | succ m =>
      refine ⟨F1, ι1, ρ1, st1, R1, env1, Out.bind (x := t ρ1) o1 fun k F2 ι2 H2 k' st2 s2 R2 r2 o2 => ?_⟩
      cases r2
      cases k with
      | false =>
        exact (o2.later s2 : Out X.K X.mg E F2 ι2 H2 (relF X.K E H) (.ok (.nx ρ1) st2) (endsQ D)) (.nx σ1) F2 ι2 H2 (Step.refl _ _ _) R2 (env1.step s2)
      | true =>
        refine ⟨fun σ' H' => ∃ F' ι' ρ' st', Rel X.K F' ι' st' H' ∧ RelEnv E X.K F' ι' ρ' σ' ∧ There H H' ∧ Out X.K X.mg E F' ι' H' (relF X.K E H) (whileL t b m ρ' st') (endsQ D), fun σ' H' q => ⟨m, Nat.lt_succ_self m, q⟩, ?_⟩
        refine ⟨F2, ι2, ρ1, st2, R2, env1.step s2, Out.bind (x := b ρ1) (o2.later s2) fun cc F3 ι3 H3 f st3 s3 R3 r3 o3 => ?_⟩
        have th3 : There H H3 := fun p q => th1 p (s2.there p (s3.there p q))
        cases f with
        | nx ρ' =>
          cases cc with
          | nx σ' => exact ⟨F3, ι3, ρ', st3, R3, r3, th3, o3.later s3⟩
          | _ => exact r3.elim
        | ct ρ' =>
          cases cc with
          | ct σ' => exact ⟨F3, ι3, ρ', st3, R3, r3, th3, o3.later s3⟩
          | _ => exact r3.elim
        | bk ρ' =>
          cases cc with
          | bk σ' => exact o3 (.nx σ') F3 ι3 H3 s3 R3 r3
          | _ => exact r3.elim
        | rt x =>
          cases cc with
          | rt v => exact o3 (.rt v) F3 ι3 H3 s3 R3 (r3.back' fun p q => th1 p (s2.there p q))
          | _ => exact r3.elim

/-! ### what is walked -/
def Walk (K : PySem.W.Frag) (J : It) (F : Hp) (ι : Adr) (H : Hp) (ds : List PyData) : Prop :=
  ∀ (i : Nat) (F' : Hp) (ι' : Adr) (H' : Hp), Step F ι H F' ι' H' → (∃ st', Rel K F' ι' st' H') →
    (i = ds.length → J.stop i H') ∧ ∀ d, ds[i]? = some d → J.go i H' ∧ ∀ x H'', J.yld i H' x H'' → ∃ F'', Step F' ι' H' F'' ι' H'' ∧ (∀ st', Rel K F' ι' st' H' → Rel K F'' ι' st' H'') ∧ Dn K F'' x d
abbrev GI := Env → M (List PyData)
abbrev relW (K : PySem.W.Frag) : RelT (List PyData) It := fun F ι H J ds => Walk K J F ι H ds
def tiv (K : PySem.W.Frag) (mg : Str → Option Value) (E : EX) (g : GI) : TI := fun σ H R => ∃ F ι ρ st, Rel K F ι st H ∧ RelEnv E K F ι ρ σ ∧ Out K mg E F ι H (relW K) (g ρ st) R
def PIv (X : Cx) (E : EX) (tg iter : Expr) (g : GI) : Prop := PI X tg iter (tiv X.K X.mg E g)
theorem pi_weak {tg e : Expr} {t t' : TI} (h : PI X tg e t) (w : ∀ σ H Q, t' σ H Q → t σ H Q) : PI X tg e t' := ⟨fun pins s σ H Q I q => h.run pins s σ H Q I (w σ H Q q)⟩
theorem walk_list {l : Addr} {vs : List V} {ds : List PyData} (hF : F l = some (.lst vs)) (z : DnAll K F vs ds) : Walk K (Itl K l) F ι H ds := fun i F' ι' H' s ⟨st', R⟩ => by
  have hH : SqL K H' l vs := SqL.of (R.sub _ _ (s.grow _ _ hF))
  refine ⟨fun hi => ⟨vs, hH, by rw [z.len, hi]; exact Nat.le_refl _⟩, fun d hd => ?_⟩
  obtain ⟨x, hx, q⟩ := z.get hd
  refine ⟨⟨vs, x, hH, hx⟩, fun y H'' hy => ?_⟩
  obtain ⟨rfl, hy⟩ := hy
  have e := hy vs hH
  rw [hx] at e
  cases e
  exact ⟨F', Step.refl _ _ _, fun _ q => q, Dn.mono s.grow _ _ q⟩
theorem walk_tup {l : Addr} {vs : List V} {ds : List PyData} (hF : F l = some (.tup vs)) (z : DnAll K F vs ds) : Walk K (Itt K l) F ι H ds := fun i F' ι' H' s ⟨st', R⟩ => by
  have hH : SqT K H' l vs := SqT.of (R.sub _ _ (s.grow _ _ hF))
  refine ⟨fun hi => ⟨vs, hH, by rw [z.len, hi]; exact Nat.le_refl _⟩, fun d hd => ?_⟩
  obtain ⟨x, hx, q⟩ := z.get hd
  refine ⟨⟨vs, x, hH, hx⟩, fun y H'' hy => ?_⟩
  obtain ⟨rfl, hy⟩ := hy
  have e := hy vs hH
  rw [hx] at e
  cases e
  exact ⟨F', Step.refl _ _ _, fun _ q => q, Dn.mono s.grow _ _ q⟩
def signs (z : Str) : List PyData := z.cps.toList.map fun c => .str ⟨#[c]⟩
theorem walk_str {z : Str} : Walk K (Its z) F ι H (signs z) := fun i F' ι' H' s ⟨st', R⟩ => by
  refine ⟨fun hi => ?_, fun d hd => ?_⟩
  · show z.cps.size ≤ i
    unfold signs at hi
    rw [List.length_map, Array.length_toList] at hi
    exact Nat.le_of_eq hi.symm
  · unfold signs at hd
    rw [List.getElem?_map] at hd
    cases e : z.cps.toList[i]? with
    | none => rw [e] at hd; cases hd
    | some c =>
      rw [e] at hd
      cases hd
      have e' : z.cps[i]? = some c := by rw [← Array.getElem?_toList]; exact e
      refine ⟨(Array.getElem?_eq_some_iff.mp e').1, fun y H'' hy => ?_⟩
      obtain ⟨rfl, c', hc, rfl⟩ := hy
      rw [e'] at hc
      cases hc
      exact ⟨F', Step.refl _ _ _, fun _ q => q, .str _⟩
theorem walk_range {lo : Int} {n : Nat} : Walk K (Itr lo n) F ι H ((List.range n).map fun i => .int (lo + (i : Nat))) := fun i F' ι' H' s ⟨st', R⟩ => by
  refine ⟨fun hi => ?_, fun d hd => ?_⟩
  · show n ≤ i
    rw [List.length_map, List.length_range] at hi
    exact Nat.le_of_eq hi.symm
  · rw [List.getElem?_map] at hd
    by_cases hi : i < n
    · rw [List.getElem?_range hi] at hd
      cases hd
      refine ⟨hi, fun y H'' hy => ?_⟩
      obtain ⟨rfl, rfl⟩ := hy
      exact ⟨F', Step.refl _ _ _, fun _ q => q, .int _⟩
    · rw [List.getElem?_eq_none (by simpa using hi)] at hd
      cases hd
/-- a list, a tuple, a text -/
def seqOf : Vl → Option (List PyData)
  | .d (.list xs) => some xs
  | .d (.tuple xs) => some xs
  | .d (.str z) => some (signs z)
  | .own xs => some xs
  | _ => none
def iSeq (g : G) : GI := fun ρ => M.bind (g ρ) fun x => match seqOf x with
  | some ds => M.pure ds
  | none => M.stuck
theorem pi_seq {tg e : Expr} {te : TE} (he : PE X e te) : PI X tg e (fun σ H R => te σ H fun x H1 => (∃ a xs, x = .ref a ∧ SqL X.K H1 a xs ∧ R (Itl X.K a) H1) ∨ (∃ a xs, x = .ref a ∧ SqT X.K H1 a xs ∧ R (Itt X.K a) H1) ∨ ∃ z, x = .str z ∧ R (Its z) H1) := by
  refine ⟨fun pins s σ H R I h => ?_⟩
  refine thn (he.run pins s σ H _ I h) fun v s1 ⟨x, H1, I1, r1, q1⟩ => ?_
  have one : ∀ b, b ∈ [s1.heap.objs.size] → FpOk X pins H1 b := fun b hb => by
    have e : b = s1.heap.objs.size := by simpa using hb
    rw [e]
    exact I1.fpOk (Nat.le_refl _) (I1.hok.fresh (Nat.le_refl _))
  rcases q1 with ⟨a, xs, rfl, hq, q⟩ | ⟨a, xs, rfl, hq, q⟩ | ⟨z, rfl, q⟩
  · cases r1
    obtain ⟨its, rv, p, hz⟩ := I1.list hq
    exact wpAny_pyIter_list p.isList ⟨s1.heap.objs.size, [s1.heap.objs.size], _, _, H1, rfl, I1.kept (t' := s1.toks) fun b o e => Heap.get?_push_of_some _ e, turn_list a _, ⟨_, Heap.get?_push_size _ rfl, rfl, rfl⟩, one, q⟩
  · cases r1
    obtain ⟨its, rv, p, hz⟩ := I1.tuple hq
    exact wpAny_pyIter_tuple (show s1.heap.IsTuple a its.toArray from p) ⟨s1.heap.objs.size, [s1.heap.objs.size], _, _, H1, rfl, I1.kept (t' := s1.toks) fun b o e => Heap.get?_push_of_some _ e, turn_tuple a _, ⟨_, Heap.get?_push_size _ rfl, rfl, rfl⟩, one, q⟩
  · obtain ⟨t, rfl⟩ := r1
    cases ha : z.cps.all (· < 128)
    · exact wpAny_pyIter_wide ha (pi_one (tk := s1.toks) I1 _ (turn_str _ z t "str_iterator" (.inr rfl)) ⟨_, Heap.get?_push_size _ rfl, rfl, rfl⟩ q)
    · exact wpAny_pyIter_ascii ha (pi_one (tk := s1.toks) I1 _ (turn_str _ z t "str_ascii_iterator" (.inl rfl)) ⟨_, Heap.get?_push_size _ rfl, rfl, rfl⟩ q)
theorem iv_seq {tg e : Expr} {g : G} (h : PEv X E e g) : PIv X E tg e (iSeq g) := pi_weak (pi_seq h) fun σ H Q h => by
  obtain ⟨F, ι, ρ, st, R, env, o⟩ := h
  refine ⟨F, ι, ρ, st, R, env, Out.bind o fun v F1 ι1 H1 x st1 s1 R1 r1 o1 => ?_⟩
  cases x with
  | d x =>
    cases x with
    | list xs =>
      cases r1 with
      | lst q z => exact .inl ⟨_, _, rfl, SqL.of (R1.sub _ _ q), o1 _ F1 ι1 H1 s1 R1 (walk_list q z)⟩
    | tuple xs =>
      cases r1 with
      | tup q z => exact .inr (.inl ⟨_, _, rfl, SqT.of (R1.sub _ _ q), o1 _ F1 ι1 H1 s1 R1 (walk_tup q z)⟩)
    | str z => cases r1; exact .inr (.inr ⟨z, rfl, o1 _ F1 ι1 H1 s1 R1 walk_str⟩)
    | _ => exact o1.elim
  | own xs =>
    obtain ⟨F2, R2, s2, g2, r2⟩ := R1.frz s1.there s1 r1
    cases r2 with
    | lst q z => exact .inl ⟨_, _, rfl, SqL.of (R2.sub _ _ q), o1 _ F2 ι1 H1 s2 R2 (walk_list q z)⟩
  | _ => exact o1.elim
/-- range(n), range(a, b) -/
def inRg (i : Int) : Bool := decide (-(2 ^ 62) ≤ i) && decide (i < 2 ^ 62)
def rgD (lo hi : Int) : List PyData := (List.range (hi - lo).toNat).map fun i => .int (lo + (i : Nat))
def iRange1 (gs : GA) : GI := fun ρ => M.bind (gs ρ) fun xs => match xs with
  | [.d (.int n)] => if inRg n = true then M.pure (rgD 0 n) else M.stuck
  | _ => M.stuck
def iRange2 (gs : GA) : GI := fun ρ => M.bind (gs ρ) fun xs => match xs with
  | [.d (.int m), .d (.int n)] => if (inRg m && inRg n) = true then M.pure (rgD m n) else M.stuck
  | _ => M.stuck
theorem iv_range1 {tg e : Expr} {gs : GA} {p : Pos} (hg : Gl X "range") (hm : X.mg "range" = none) (h : PAv X E [e] gs) (hs : starEach [e] X.env = [(false, eval e X.env)] := by rfl) : PIv X E tg (.Call (.Name "range" p) [e] [] pos) (iRange1 gs) := pi_weak (pi_range1 hg hm h hs) fun σ H Q h => by
  obtain ⟨F, ι, ρ, st, R, env, o⟩ := h
  refine ⟨F, ι, ρ, st, R, env, Out.bind o fun vs F1 ι1 H1 xs st1 s1 R1 r1 o1 => ?_⟩
  split at o1
  · cases r1 with
    | cons q1 r1 =>
      cases r1
      cases q1
      split at o1
      · rename_i n hk
        unfold inRg at hk
        simp only [Bool.and_eq_true, decide_eq_true_eq] at hk
        refine ⟨n, rfl, hk.1, hk.2, o1 _ F1 ι1 H1 s1 R1 ?_⟩
        have e : rgD 0 n = (List.range n.toNat).map fun i => .int (0 + (i : Nat)) := by unfold rgD; rw [Int.sub_zero]
        rw [e]
        exact walk_range
      · exact o1.elim
  · exact o1.elim
theorem iv_range2 {tg e e2 : Expr} {gs : GA} {p : Pos} (hg : Gl X "range") (hm : X.mg "range" = none) (h : PAv X E [e, e2] gs) (hs : starEach [e, e2] X.env = [(false, eval e X.env), (false, eval e2 X.env)] := by rfl) (hs2 : starEach [e2] X.env = [(false, eval e2 X.env)] := by rfl) : PIv X E tg (.Call (.Name "range" p) [e, e2] [] pos) (iRange2 gs) := pi_weak (pi_range2 hg hm h hs hs2) fun σ H Q h => by
  obtain ⟨F, ι, ρ, st, R, env, o⟩ := h
  refine ⟨F, ι, ρ, st, R, env, Out.bind o fun vs F1 ι1 H1 xs st1 s1 R1 r1 o1 => ?_⟩
  split at o1
  · cases r1 with
    | cons q1 r1 =>
      cases r1 with
      | cons q2 r1 =>
        cases r1
        cases q1
        cases q2
        split at o1
        · rename_i m n hk
          unfold inRg at hk
          simp only [Bool.and_eq_true, decide_eq_true_eq] at hk
          exact ⟨m, n, rfl, ⟨hk.1.1, hk.1.2, hk.2.1, hk.2.2⟩, o1 _ F1 ι1 H1 s1 R1 walk_range⟩
        · exact o1.elim
  · exact o1.elim
end
end Zv
set_option Elab.async false
set_option linter.all false
set_option maxRecDepth 100000
set_option maxHeartbeats 4000000
/-! Z8: for, comprehensions. -/
namespace Zv
open PySem PySem.Spec PyProof.Rows L2
variable {K : PySem.W.Frag} {mg : Str → Option Value} {E : EX} {F F' F1 H H' H0 H1 : Hp} {ι ι' ι1 : Adr} {st st' st1 : Store} {v w : V} {a b : Vl}

/-! ### for -/
def forL (t : TGv) (b : SG) : List PyData → SG
  | [], ρ => M.pure (.nx ρ)
  | d :: ds, ρ => match t (.d d) ρ with
    | none => M.stuck
    | some ρ1 => M.bind (b ρ1) fun f => match f with
      | .nx ρ' => forL t b ds ρ'
      | .ct ρ' => forL t b ds ρ'
      | .bk ρ' => M.pure (.nx ρ')
      | .rt x => M.pure (.rt x)
def sFor (w : GI) (t : TGv) (b : SG) : SG := fun ρ => M.bind (w ρ) fun ds => forL t b ds ρ
section
variable {X : Cx} {pos : Pos} {g g' : SG}
theorem drop_of {α : Type} {l : List α} {i : Nat} {d : α} (h : l[i]? = some d) : l.drop i = d :: l.drop (i + 1) := by
  obtain ⟨hi, e⟩ := List.getElem?_eq_some_iff.mp h
  rw [List.drop_eq_getElem_cons hi, e]
theorem sv_for {tg iter : Expr} {body : List Stmt} {wi : GI} {t : TGv} {ws : List Nat} {b : SG} (hp : PassesOwn (model X.prog X.w) X.A X.env X.xe) (hc : X.calm = true) (hi : PIv X E tg iter wi) (hg : PGv X tg t ws) (hb : PSsv X E body b)
    (hs : ∀ x, foldedSetIterable iter X.env x = pure x := by intro _; rfl) (hfr : E.free := by exact fun _ _ _ _ h => h) : PSv X E (.For tg iter body [] pos) (sFor wi t b) := by
  obtain ⟨u, hu, k⟩ := hg.ex
  refine ps_weak (ps_for hp hc hi hu hb hs) fun D σ H h => ?_
  obtain ⟨F, ι, ρ, st, R, env, o⟩ := h
  refine ⟨F, ι, ρ, st, R, env, Out.bind o fun J F1 ι1 H1 ds st1 s1 R1 r1 o1 => ?_⟩
  refine ⟨fun i m σ' H' => m = ds.length - i ∧ i ≤ ds.length ∧ ∃ F' ι' ρ' st', Rel X.K F' ι' st' H' ∧ RelEnv E X.K F' ι' ρ' σ' ∧ Step F1 ι1 H1 F' ι' H' ∧ Out X.K X.mg E F' ι' H' (relF X.K E H) (forL t b (ds.drop i) ρ' st') (endsQ D), ⟨ds.length, rfl, Nat.zero_le _, F1, ι1, ρ, st1, R1, env.step s1, Step.refl _ _ _, o1.later s1⟩, ?_⟩
  rintro i m σ1 H2 ⟨rfl, hi, F2, ι2, ρ2, st2, R2, env2, s2, o2⟩
  obtain ⟨wz, wi⟩ := r1 i F2 ι2 H2 s2 ⟨st2, R2⟩
  cases ed : ds[i]? with
  | none =>
    have hl : ds.length ≤ i := List.getElem?_eq_none_iff.mp ed
    refine .inl ⟨wz (Nat.le_antisymm hi hl), ?_⟩
    rw [List.drop_eq_nil_of_le hl] at o2
    exact o2 (.nx σ1) F2 ι2 H2 (Step.refl _ _ _) R2 env2
  | some d =>
    have hlt := (List.getElem?_eq_some_iff.mp ed).1
    obtain ⟨hgo, hy⟩ := wi d ed
    rw [drop_of ed] at o2
    refine .inr ⟨hgo, fun σ' H' => ∃ F' ι' ρ' st', Rel X.K F' ι' st' H' ∧ RelEnv E X.K F' ι' ρ' σ' ∧ Step F1 ι1 H1 F' ι' H' ∧ Out X.K X.mg E F' ι' H' (relF X.K E H) (forL t b (ds.drop (i + 1)) ρ' st') (endsQ D), fun σ' H' z => ⟨ds.length - (i + 1), by omega, rfl, hlt, z⟩, fun x H3 y3 => ?_⟩
    obtain ⟨F3, s3, hR3, d3⟩ := hy x H3 y3
    have R3 := hR3 st2 R2
    unfold forL at o2
    cases e3 : t (.d d) ρ2 with
    | none => simp only [e3] at o2; exact o2.elim
    | some ρ3 =>
      simp only [e3] at o2
      refine k F3 ι2 st2 H3 x (.d d) ρ2 ρ3 σ1 _ R3 d3 (env2.step s3).2 e3 fun σ4 l4 => ?_
      refine ⟨F3, ι2, ρ3, st2, R3, ⟨hfr _ _ _ _ (env2.step s3).1, l4.1⟩, Out.bind (o2.later s3) fun cc F4 ι4 H4 f st4 s4 R4 r4 o4 => ?_⟩
      have o4 := o4.later s4
      have s14 := (s2.trans s3).trans s4
      cases f with
      | nx ρ' =>
        cases cc with
        | nx σ' => exact ⟨F4, ι4, ρ', st4, R4, r4, s14, o4⟩
        | _ => exact r4.elim
      | ct ρ' =>
        cases cc with
        | ct σ' => exact ⟨F4, ι4, ρ', st4, R4, r4, s14, o4⟩
        | _ => exact r4.elim
      | bk ρ' =>
        cases cc with
        | bk σ' => exact o4 (.nx σ') F4 ι4 H4 (Step.refl _ _ _) R4 r4
        | _ => exact r4.elim
      | rt x =>
        cases cc with
        | rt v => exact o4 (.rt v) F4 ι4 H4 (Step.refl _ _ _) R4 (r4.back' fun p q => s1.there p (s2.there p (s3.there p q)))
        | _ => exact r4.elim
end

/-! ### comprehensions -/
abbrev noE (E : EX) : EX := ⟨fun _ _ _ _ => False, E.Γ, E.mono⟩
def wipeE (ρ : Env) : List Nat → Env
  | [] => ρ
  | v :: vs => (wipeE ρ vs).set v none
theorem REnv.wipe {ρ : Env} {σ : L2.St} (h : REnv K F ι ρ σ) : ∀ vs : List Nat, REnv K F ι (wipeE ρ vs) (L2.wipe σ vs)
  | [] => h
  | v :: vs => by
    have ih := REnv.wipe h vs
    unfold wipeE L2.wipe
    refine ⟨by simpa using ih.1, fun j y e => ?_⟩
    by_cases q : j = v
    · subst q
      by_cases hl : j < (wipeE ρ vs).length
      · rw [List.getElem?_set_self hl] at e; cases e
      · rw [List.getElem?_eq_none (by simp; omega)] at e; cases e
    · rw [List.getElem?_set_ne (Ne.symm q)] at e
      rw [List.getElem?_set_ne (Ne.symm q)]
      exact ih.2 j y e
theorem wipe_get {σ : L2.St} {i : Nat} : ∀ {vs : List Nat}, (L2.wipe σ vs)[i]? = if i ∈ vs then (if i < σ.length then some none else none) else σ[i]?
  | [] => by simp [L2.wipe]
  | v :: vs => by
    unfold L2.wipe
    by_cases q : i = v
    · subst q
      rw [if_pos List.mem_cons_self]
      by_cases hl : i < σ.length
      · rw [if_pos hl, List.getElem?_set_self (by rw [wipe_length]; exact hl)]
      · rw [if_neg hl, List.getElem?_eq_none (by rw [List.length_set, wipe_length]; omega)]
    · rw [List.getElem?_set_ne (Ne.symm q), wipe_get (vs := vs)]
      simp [q]
theorem wipe_lf {σ σ' : L2.St} {vs ws : List Nat} (hw : ∀ i ∈ ws, i ∈ vs) (hl : σ'.length = (L2.wipe σ vs).length) (h : ∀ i, i ∉ ws → σ'[i]? = (L2.wipe σ vs)[i]?) : L2.wipe σ' vs = L2.wipe σ vs := by
  apply List.ext_getElem?
  intro i
  rw [wipe_get, wipe_get]
  by_cases q : i ∈ vs
  · rw [if_pos q, if_pos q, hl, wipe_length]
  · rw [if_neg q, if_neg q, h i fun z => q (hw i z), wipe_get, if_neg q]
def compL (t : TGv) (c : GB) (g : G) (ρ : Env) : List PyData → List PyData → M (List PyData)
  | [], acc => M.pure acc
  | d :: ds, acc => match t (.d d) ρ with
    | none => M.stuck
    | some ρ1 => M.bind (c ρ1) fun k => if k = true then M.bind (g ρ1) (fun x => match frz x with
      | .d y => if acc.length < sizeLine then compL t c g ρ ds (acc ++ [y]) else M.stuck
      | _ => M.stuck) else compL t c g ρ ds acc
def noExc {α : Type} (x : M α) : M α := fun st => match x st with
  | .exc _ _ _ => .stuck
  | r => r
def bTrue : GB := fun _ => M.pure true
def gComp (w : GI) (t : TGv) (c : GB) (g : G) (vs : List Nat) : G := fun ρ => M.bind (w ρ) fun ds => M.bind (noExc (compL t c g (wipeE ρ vs) ds [])) fun xs => M.pure (.own xs)
theorem Out.noExc {E' : EX} {α β γ δ : Type} {rel : RelT β δ} {rel1 : RelT α γ} {x : M α} {f : α → M β} {Q : δ → Hp → Prop} {P : γ → Hp → Prop} (o : Out K mg E F ι H rel (M.bind (noExc x) f st) Q)
    (h : ∀ b F1 ι1 H1 a st1, Step F ι H F1 ι1 H1 → Rel K F1 ι1 st1 H1 → rel1 F1 ι1 H1 b a → Out K mg E F ι H rel (f a st1) Q → P b H1) : Out K mg E' F ι H rel1 (x st) P := by
  unfold M.bind Zv.noExc at o
  cases e : x st with
  | ok a st' =>
    rw [e] at o
    exact fun b F' ι' H' s R r => h b F' ι' H' a st' s R r o
  | exc e' ρ' st' =>
    rw [e] at o
    exact o.elim
  | stuck =>
    rw [e] at o
    exact o
theorem Out.bindL {α β γ δ : Type} {rel : RelT β δ} {rel1 : RelT α γ} {x : M α} {f : α → M β} {Q : δ → Hp → Prop} {P : γ → Hp → Prop} (s0 : Step F ι H F1 ι1 H1) (o : Out K mg E F ι H rel (M.bind x f st) Q)
    (h : ∀ b F2 ι2 H2 a st2, Step F1 ι1 H1 F2 ι2 H2 → Rel K F2 ι2 st2 H2 → rel1 F2 ι2 H2 b a → Out K mg E F ι H rel (f a st2) Q → P b H2) : Out K mg E F1 ι1 H1 rel1 (x st) P := by
  unfold M.bind at o
  cases e : x st with
  | ok a st' =>
    rw [e] at o
    exact fun b F' ι' H' s R r => h b F' ι' H' a st' s R r o
  | exc e' ρ' st' =>
    rw [e] at o
    exact fun c dx σ' F' ι' H' s R re r => o c dx σ' F' ι' H' (s0.trans s) R re (r.back s0.there)
  | stuck =>
    rw [e] at o
    exact o
theorem Step.put' {Fa Fb Ha Hb : Hp} {ιa ιb : Adr} {p : Addr} {o : HO} (s : Step Fa ιa Ha Fb ιb Hb) (hp : Ha p = none) : Step Fa ιa Ha Fb ιb (upd Hb p o) :=
  ⟨s.grow, s.new, s.iota, fun a x e n nt => by
    have q : a ≠ p := fun z => by rw [z, hp] at e; cases e
    rw [upd_ne q]; exact s.keep a x e n nt, fun a e o' e' => by
    by_cases q : a = p
    · subst q; rw [hp] at e'; cases e'
    · exact s.there a (fun o2 e2 => e o2 (by rw [upd_ne q]; exact e2)) o' e'⟩
section
variable {X : Cx} {pos : Pos}
/-- the place of a block's derivations -/
structure Blk (X : Cx) (E : EX) (scope : Scope) (own : List (Str × Nat)) (tg : Expr) (t : TGv) (ws : List Nat) (ifs : List Expr) (c : GB) (elt : Expr) (g : G) : Prop where
  ok : BlkOk X.N X.env.scope scope own
  hw : ∀ i ∈ ws, i ∈ own.map (·.2)
  hg : ∀ (s : Shared) (H : Hp) (C : Addr) (cl : List (Str × Addr)) (fp : List Addr), PGv (X.blk s H scope (compEnvC scope cl C X.env) fp) tg t ws
  hc : ∀ (s : Shared) (H : Hp) (C : Addr) (cl : List (Str × Addr)) (fp : List Addr), PTs (X.blk s H scope (compEnvC scope cl C X.env) fp) ifs (ttv X.K X.mg (noE E) c)
  he : ∀ (s : Shared) (H : Hp) (C : Addr) (cl : List (Str × Addr)) (fp : List Addr), PEv (X.blk s H scope (compEnvC scope cl C X.env) fp) (noE E) elt g
theorem pts_weak {ifs : List Expr} {t t' : TT} (h : PTs X ifs t) (w : ∀ σ H Q, t' σ H Q → t σ H Q) : PTs X ifs t' := ⟨fun pins s σ H Q I q => h.run pins s σ H Q I (w σ H Q q)⟩
theorem ptsv_nil : PTs X [] (ttv X.K X.mg (noE E) bTrue) := pts_weak pts_nil fun σ H Q h => by
  obtain ⟨F, ι, ρ, st, R, env, o⟩ := h
  exact o true F ι H (Step.refl _ _ _) R rfl
theorem ptsv_one {c : Expr} {t : GB} (h : PTv X (noE E) c t) : PTs X [c] (ttv X.K X.mg (noE E) t) := pts_one h
/-- a target's transformer chosen -/
theorem tev_comp {wi : GI} {u : TG} {t : TGv} {ws : List Nat} {c : GB} {g : G} {vs : List Nat} {K : PySem.W.Frag} {mg : Str → Option Value} (hfr : E.free) (hw : ∀ i ∈ ws, i ∈ vs)
    (k : ∀ (F : Hp) (ι : Adr) (st : Store) (H : Hp) (v : V) (x : Vl) (ρ ρ' : Env) (σ : L2.St) (Q : L2.St → Hp → Prop), Rel K F ι st H → RelVl K F ι v x → REnv K F ι ρ σ → t x ρ = some ρ' → (∀ σ', Lf K F ι ws ρ' σ σ' → Q σ' H) → u v σ H Q) (σ : L2.St) (H : Hp) (Q : VK)
    (h : tev K mg E (gComp wi t c g vs) σ H Q) : tLc (tiv K mg E wi) u (ttv K mg (noE E) c) (tev K mg (noE E) g) vs σ H Q := by
  obtain ⟨F, ι, ρ, st, R, env, o⟩ := h
  refine ⟨F, ι, ρ, st, R, env, Out.bind o fun J F1 ι1 H1 ds st1 s1 R1 r1 o1 => ?_⟩
  have o1 : Out K mg (noE E) F1 ι1 H1 (fun F ι H' v xs => relR K H F ι H' v (.own xs)) (compL t c g (wipeE ρ vs) ds [] st1) Q :=
    Out.noExc (o1.later s1) fun b F2 ι2 H2 a st2 s2 R2 r2 o2 => o2 b F2 ι2 H2 s2 R2 r2
  intro D hD
  obtain ⟨R1', s1'⟩ := R1.put (o := .lst []) hD
  have nF := R1.nf hD
  have nI := R1.ni hD
  have n0 : Nw H D := s1.there D (.of hD)
  refine ⟨fun i m H' => m = ds.length - i ∧ i ≤ ds.length ∧ ∃ F' ι' st' acc vs', Rel K F' ι' st' H' ∧ Step F1 ι1 H1 F' ι' H' ∧ H' D = some (.lst vs') ∧ F' D = none ∧ D ∉ ι' ∧ DnAll K F' vs' acc ∧
    Out K mg (noE E) F1 ι1 H1 (fun F ι H' v xs => relR K H F ι H' v (.own xs)) (compL t c g (wipeE ρ vs) (ds.drop i) acc st') Q, ⟨ds.length, rfl, Nat.zero_le _, F1, ι1, st1, [], [], R1', s1', upd_same, nF, nI, .nil, o1⟩, ?_⟩
  rintro i m H2 ⟨rfl, hi, F2, ι2, st2, acc, vs2, R2, s2, hD2, nF2, nI2, z2, o2⟩
  have env2 : RelEnv (noE E) K F2 ι2 (wipeE ρ vs) (L2.wipe σ vs) := ⟨hfr _ _ _ _ ((env.step s1).step s2).1, ((env.step s1).step s2).2.wipe vs⟩
  obtain ⟨wz, wi⟩ := r1 i F2 ι2 H2 s2 ⟨st2, R2⟩
  cases ed : ds[i]? with
  | none =>
    have hl : ds.length ≤ i := List.getElem?_eq_none_iff.mp ed
    refine .inl ⟨wz (Nat.le_antisymm hi hl), ?_⟩
    rw [List.drop_eq_nil_of_le hl] at o2
    exact o2 (.ref D) F2 ι2 H2 s2 R2 ⟨D, vs2, rfl, hD2, nF2, nI2, n0, z2⟩
  | some d =>
    have hlt := (List.getElem?_eq_some_iff.mp ed).1
    obtain ⟨hgo, hy⟩ := wi d ed
    rw [drop_of ed] at o2
    refine .inr ⟨hgo, fun H' => ∃ F' ι' st' acc vs', Rel K F' ι' st' H' ∧ Step F1 ι1 H1 F' ι' H' ∧ H' D = some (.lst vs') ∧ F' D = none ∧ D ∉ ι' ∧ DnAll K F' vs' acc ∧
      Out K mg (noE E) F1 ι1 H1 (fun F ι H' v xs => relR K H F ι H' v (.own xs)) (compL t c g (wipeE ρ vs) (ds.drop (i + 1)) acc st') Q, fun H' z => ⟨ds.length - (i + 1), by omega, rfl, hlt, z⟩, fun x H3 y3 => ?_⟩
    obtain ⟨F3, s3, hR3, d3⟩ := hy x H3 y3
    have R3 := hR3 st2 R2
    unfold compL at o2
    cases e3 : t (.d d) (wipeE ρ vs) with
    | none => simp only [e3] at o2; exact o2.elim
    | some ρ3 =>
      simp only [e3] at o2
      refine k F3 ι2 st2 H3 x (.d d) (wipeE ρ vs) ρ3 (L2.wipe σ vs) _ R3 d3 (env2.step s3).2 e3 fun σ4 l4 => ⟨wipe_lf hw l4.2.1 l4.2.2, ?_⟩
      have env4 : RelEnv (noE E) K F3 ι2 ρ3 σ4 := ⟨hfr _ _ _ _ (env2.step s3).1, l4.1⟩
      refine ⟨F3, ι2, ρ3, st2, R3, env4, Out.bindL (s2.trans s3) o2 fun kk F4 ι4 H4 kb st4 s4 R4 r4 o4 => ?_⟩
      cases r4
      have s24 := s3.trans s4
      have hD4 := s24.keep D _ hD2 nI2 .lst
      have nF4 := s24.nf hD2 nF2
      have nI4 := s24.ni hD2 nI2
      have z4 := DnAll.mono s24.grow _ _ z2
      cases kk with
      | false => exact ⟨F4, ι4, st4, acc, vs2, R4, s2.trans s24, hD4, nF4, nI4, z4, o4⟩
      | true =>
        refine ⟨F4, ι4, ρ3, st4, R4, env4.step s4, Out.bindL (s2.trans s24) o4 fun y F5 ι5 H5 a5 st5 s5 R5 r5 o5 => ?_⟩
        obtain ⟨F6, R6, s6, g6, r6⟩ := R5.frz s5.there s5 r5
        have hD6 := s6.keep D _ hD4 nI4 .lst
        have nF6 := s6.nf hD4 nF4
        have nI6 := s6.ni hD4 nI4
        have z6 := DnAll.mono s6.grow _ _ z4
        cases ey : frz a5 with
        | d y' =>
          rw [ey] at r6
          simp only [ey] at o5
          split at o5
          · rename_i hz
            have hz' : vs2.length < sizeLine := by rw [z6.len]; exact hz
            have R7 := R6.put' (o := .lst (vs2 ++ [y])) nF6 nI6 (fun _ z => by rw [hD6] at z; cases z) (fun _ z => by rw [hD6] at z; cases z)
            exact ⟨vs2, hD6, hz', F6, ι5, st5, acc ++ [y'], vs2 ++ [y], R7, (s2.trans (s24.trans s6)).put' hD, upd_same, nF6, nI6, z6.append (.cons r6 .nil), o5⟩
          · exact o5.elim
        | ref n => simp only [ey] at o5; exact o5.elim
        | own n => simp only [ey] at o5; exact o5.elim
        | scr n => simp only [ey] at o5; exact o5.elim
theorem v_comp {elt tg iter : Expr} {ifs : List Expr} {scope : Scope} {own : List (Str × Nat)} {wi : GI} {t : TGv} {ws : List Nat} {c : GB} {g : G} (hc : X.calm = true) (hN : X.N.Nodup) (hi : PIv X E tg iter wi) (B : Blk X E scope own tg t ws ifs c elt g)
    (hs : ∀ x, foldedSetIterable iter X.env x = pure x := by intro _; rfl) (hfr : E.free := by exact fun _ _ _ _ h => h) : PEv X E (.ListComp elt [⟨tg, iter, ifs, 0⟩] scope pos) (gComp wi t c g (own.map (·.2))) := by
  obtain ⟨ok, hw, hg, hcc, he⟩ := B
  exact pe_weak (pe_lc (g := tgT X.K t ws) (tt := ttv X.K X.mg (noE E) c) (te := tev X.K X.mg (noE E) g) hc hN hi ok hg hcc he hs) (tev_comp hfr hw fun F ι st H v x ρ ρ' σ Q R r env e q => ⟨F, ι, st, x, ρ, ρ', R, r, env, e, q⟩)
/-- name = [..] on one line -/
theorem sv_setLc {i : Nat} {y : Str} {py spos : Pos} {elt tg iter : Expr} {ifs : List Expr} {scope : Scope} {own : List (Str × Nat)} {wi : GI} {t : TGv} {ws : List Nat} {c : GB} {g : G} (hc : X.calm = true) (hN : X.N.Nodup) (hy : X.N[i]? = some y) (hyl : X.env.scope.names.lookup y = some .local)
    (hsw : swapsWith (.ListComp elt [⟨tg, iter, ifs, 0⟩] scope pos) (some (.Name y py)) spos.line X.env = pure true) (hi : PIv X E tg iter wi) (B : Blk X E scope own tg t ws ifs c elt g)
    (hs : ∀ x, foldedSetIterable iter X.env x = pure x := by intro _; rfl) (hfr : E.free := by exact fun _ _ _ _ h => h) : PSv X E (.Assign [.Name y py] (.ListComp elt [⟨tg, iter, ifs, 0⟩] scope pos) spos) (sSet i (gComp wi t c g (own.map (·.2)))) := by
  obtain ⟨ok, hw, hg, hcc, he⟩ := B
  refine ps_weak (ps_setLc (g := tgT X.K t ws) (tt := ttv X.K X.mg (noE E) c) (te := tev X.K X.mg (noE E) g) hc hN hy hyl hsw hi ok hg hcc he hs) fun D σ H h => ?_
  obtain ⟨F, ι, ρ, st, R, env, o⟩ := h
  exact tev_comp hfr hw (fun F ι st H v x ρ ρ' σ Q R r env e q => ⟨F, ι, st, x, ρ, ρ', R, r, env, e, q⟩) σ H _ ⟨F, ι, ρ, st, R, env, tev_set hfr env o⟩
theorem sv_setLcE {i : Nat} {y : Str} {py spos : Pos} {elt tg iter : Expr} {ifs : List Expr} {scope : Scope} {own : List (Str × Nat)} {wi : GI} {t : TGv} {ws : List Nat} {c : GB} {g : G} (hc : X.calm = true) (hN : X.N.Nodup) (hy : X.N[i]? = some y) (hyl : X.env.scope.names.lookup y = some .local)
    (hsw : swapsWith (.ListComp elt [⟨tg, iter, ifs, 0⟩] scope pos) (some (.Name y py)) spos.line X.env = pure true) (hi : PIv X E tg iter wi) (B : Blk X E scope own tg t ws ifs c elt g)
    (hs : ∀ x, foldedSetIterable iter X.env x = pure x := by intro _; rfl) (hfr : E.free := by exact fun _ _ _ _ h => h) : PSv X E (.Assign [.Name y py] (.ListComp elt [⟨tg, iter, ifs, 0⟩] scope pos) spos) (sSetE i (gComp wi t c g (own.map (·.2)))) := by
  obtain ⟨ok, hw, hg, hcc, he⟩ := B
  refine ps_weak (ps_setLc (g := tgT X.K t ws) (tt := ttv X.K X.mg (noE E) c) (te := tev X.K X.mg (noE E) g) hc hN hy hyl hsw hi ok hg hcc he hs) fun D σ H h => ?_
  obtain ⟨F, ι, ρ, st, R, env, o⟩ := h
  exact tev_comp hfr hw (fun F ι st H v x ρ ρ' σ Q R r env e q => ⟨F, ι, st, x, ρ, ρ', R, r, env, e, q⟩) σ H _ ⟨F, ι, ρ, st, R, env, enter_ok (Q := fun _ _ => True) o fun v F1 ι1 H1 x st1 s1 R1 r1 o1 => o1 (.nx _) F1 ι1 H1 s1 R1 (RelEnv.set hfr (env.step s1) i r1)⟩
end
end Zv
set_option Elab.async false
set_option linter.all false
set_option maxRecDepth 100000
set_option maxHeartbeats 4000000
/-! Z9: defs and calls. -/
namespace Zv
open PySem PySem.Spec PyProof.Rows L2
variable {K : PySem.W.Frag} {mg : Str → Option Value} {E : EX} {F F' F1 H H' H0 H1 : Hp} {ι ι' ι1 : Adr} {st st' st1 : Store} {v w : V} {a b : Vl}

/-- what a def hands back: its own objects are given up (or, kept: they stay) -/
def fin (keep : Bool) (n0 : Nat) (x : Vl) : M Vl := fun st => match keep, x with
  | true, x => .ok x st
  | false, .ref k => if k < n0 then .ok (.ref k) (st.take n0) else match st[k]? with
    | some (.lst xs) => .ok (.own xs) (st.take n0)
    | _ => .stuck
  | false, x => .ok x (st.take n0)
def fnM (keep : Bool) (n : Nat) (b : SG) (args : List Vl) : M Vl := fun st => match b (args.map some ++ List.replicate (n - args.length) none) st with
  | .ok (.nx _) st' => fin keep st.length (.d .none) st'
  | .ok (.rt x) st' => fin keep st.length x st'
  | .ok _ _ => .stuck
  | .exc e _ st' => .exc e [] (st'.take st.length)
  | .stuck => .stuck
def spv (K : PySem.W.Frag) (mg : Str → Option Value) (n : Nat) (m : List Vl → M Vl) : Sp := fun vs H Q E => ∃ F ι st xs, Rel K F ι st H ∧ Paired (RelVl K F ι) vs xs ∧ xs.length = n ∧ Out K mg (.fn E) F ι H (relR K H) (m xs st) Q
theorem paired_len {α β : Type} {P : α → β → Prop} : ∀ {l : List α} {m : List β}, Paired P l m → l.length = m.length
  | _, _, .nil => rfl
  | _, _, .cons _ t => by rw [List.length_cons, List.length_cons, paired_len t]
theorem relEnv_start {N : List Str} {vs : List V} {xs : List Vl} (h : Paired (RelVl K F ι) vs xs) : REnv K F ι (xs.map some ++ List.replicate (N.length - xs.length) none) (L2.start N vs) := by
  have hl := paired_len h
  unfold L2.start
  rw [← hl]
  refine ⟨by simp [hl], ?_⟩
  generalize N.length - vs.length = m
  clear hl
  induction h with
  | nil =>
    intro i x e
    rw [List.map_nil, List.nil_append, List.getElem?_replicate] at e
    split at e <;> cases e
  | cons r t ih =>
    intro i x e
    cases i with
    | zero => 
      simp at e
      subst e
      exact ⟨_, by simp, r⟩
    | succ i =>
      exact ih i x (by simpa using e)
theorem fin_out {keep : Bool} {x : Vl} {Q : VK} (R : Rel K F ι st H) (o : Out K mg E F ι H (relR K H) (fin keep st.length x st') Q) (s : Step F ι H F' ι' H') (R' : Rel K F' ι' st' H') (r : RelR K F' ι' H H' v x) : Q v H' := by
  cases keep with
  | true => exact o v F' ι' H' s R' r
  | false =>
    have hl : st.length = ι.length := R.len.symm
    have Rc := R'.cut st.length
    have sc := s.cut (n := st.length) hl
    unfold fin at o
    cases x with
    | d y => exact o v _ _ H' sc Rc r
    | scr y => exact o v _ _ H' sc Rc r
    | own xs =>
      obtain ⟨l, vs, rfl, h1, h2, h3, h4, h5⟩ := r
      exact o _ _ _ H' sc Rc ⟨l, vs, rfl, h1, h2, fun z => h3 (List.mem_of_mem_take z), h4, h5⟩
    | ref k =>
      obtain ⟨l, hk, rfl⟩ := r
      simp only at o
      split at o
      · rename_i hlt
        exact o _ _ _ H' sc Rc ⟨l, by rw [List.getElem?_take, if_pos hlt]; exact hk, rfl⟩
      · rename_i hge
        split at o
        · rename_i xs ex
          obtain ⟨vs, h1, h2⟩ := R'.obj k l _ hk ex
          have hm : l ∈ ι' := List.mem_of_getElem? hk
          obtain ⟨more, ei, hmore⟩ := s.iota
          have hlm : l ∈ more := by
            rw [ei, List.getElem?_append_right (by rw [← hl]; omega)] at hk
            exact List.mem_of_getElem? hk
          refine o _ _ _ H' sc Rc ⟨l, vs, rfl, h1, R'.apart l hm, fun z => ?_, hmore l hlm, h2⟩
          rw [ei, hl, List.take_left] at z
          have nd := R'.nodup
          rw [ei] at nd
          exact (List.nodup_append.mp nd).2.2 l z l hlm rfl
        · exact o.elim
theorem fnM_out {E : XK} {keep : Bool} {n : Nat} {b : SG} {xs : List Vl} {Q : VK} (R : Rel K F ι st H) (o : Out K mg (.fn E) F ι H (relR K H) (fnM keep n b xs st) Q) :
    Out K mg (.fn E) F ι H (relF K (.fn E) H) (b (xs.map some ++ List.replicate (n - xs.length) none) st) (endsQ { nx := fun _ H' => Q .non H', rt := Q }) := by
  unfold fnM at o
  cases e : b (xs.map some ++ List.replicate (n - xs.length) none) st with
  | stuck => rw [e] at o; exact o.elim
  | exc x ρ' st' =>
    rw [e] at o
    refine fun c dx σ' F' ι' H' s R' re r => ?_
    exact o c dx [] F' _ H' (s.cut (n := st.length) R.len.symm) (R'.cut _) ⟨trivial, rfl, fun i x z => by simp at z⟩ r
  | ok f st' =>
    rw [e] at o
    refine fun c F' ι' H' s R' r => ?_
    cases f with
    | nx ρ' =>
      cases c with
      | nx σ' => exact fin_out (v := .non) R o s R' .non
      | _ => exact r.elim
    | rt x =>
      cases c with
      | rt v => exact fin_out R o s R' r
      | _ => exact r.elim
    | bk ρ' => exact o.elim
    | ct ρ' => exact o.elim

/-- a def that may be called by its name -/
structure Cl (P : Program) (w : World) (K : PySem.W.Frag) (mg : Str → Option Value) (base : Heap) (k : Nat) (x : Str) (stm : Stmt) (ps : List Str) (m : List Vl → M Vl) : Prop where
  ex : ∃ (f : Addr) (fd : FuncData), FnOk P w K mg base (L2.CX P w) k f fd ps (spv K mg ps.length m) ∧ mg x = some (.ref f) ∧ Fun K x x stm f fd ∧ Binds K fd ps []
theorem Cl.mono {P : Program} {w : World} {base : Heap} {j k : Nat} {x : Str} {stm : Stmt} {ps : List Str} {m : List Vl → M Vl} (c : Cl P w K mg base j x stm ps m) (h : j ≤ k) : Cl P w K mg base k x stm ps m := by
  obtain ⟨f, fd, F, r⟩ := c.ex
  exact ⟨f, fd, F.mono h, r⟩
/-- the def's text as it stands behind the top -/
structure Tx (K : PySem.W.Frag) (mg : Str → Option Value) (x : Str) (stm : Stmt) (ps : List Str) : Prop where
  ex : ∃ (f : Addr) (fd : FuncData), Fun K x x stm f fd ∧ mg x = some (.ref f) ∧ Binds K fd ps []
abbrev cxv (P : Program) (w : World) (K : PySem.W.Frag) (mg : Str → Option Value) (base : Heap) (N : List Str) (x : Str) (sc : Scope) (f : Addr) (cdv : Value) (A : Around) (outer : List PySem.Env) (s : Shared) (H : Hp) (E : XK) : Cx := cxOf (L2.CX P w) P w K mg base N x sc f cdv A outer s H E
theorem cl_of {P : Program} {w : World} {base : Heap} {x : Str} {stm : Stmt} {ps N : List Str} {k : Nat} {keep : Bool} {b : SG} (T : Tx K mg x stm ps) (S : FnScope N ps (defScope stm))
    (hb : ∀ (f : Addr) (cdv : Value) (A : Around) (outer : List PySem.Env) (s : Shared) (H : Hp) (E : XK), Room k (A.deeper (envOfC x (defScope stm) s.heap.objs.size f cdv)) → PSsv (cxv P w K mg base N x (defScope stm) f cdv A outer s H E) (.fn E) (defBody stm) b) :
    Cl P w K mg base (k + 1) x stm ps (fnM keep N.length b) := by
  obtain ⟨f, fd, F, hm, hB⟩ := T.ex
  refine ⟨f, fd, F.okX S (fun vs H Q E h => ?_) (fun cdv A outer s H vs Q E hr h => ⟨tsv K mg (.fn E) b, hb f cdv A outer s H E hr, ?_⟩), hm, F, hB⟩
  · obtain ⟨F', ι, st, xs, R, p, hl, o⟩ := h
    rw [paired_len p, hl]
  · obtain ⟨F', ι, st, xs, R, p, hl, o⟩ := h
    exact ⟨F', ι, _, st, R, ⟨trivial, relEnv_start p⟩, fnM_out R o⟩
/-- a def that calls itself: its fuel is its level -/
theorem cl_rec {P : Program} {w : World} {base : Heap} {x : Str} {stm : Stmt} {ps N : List Str} {k0 : Nat} {keep : Bool} {m : Nat → List Vl → M Vl} {b : Nat → SG} (T : Tx K mg x stm ps) (S : FnScope N ps (defScope stm))
    (h0 : m 0 = fun _ => M.stuck) (h1 : ∀ i, m (i + 1) = fnM keep N.length (b i))
    (hb : ∀ (i : Nat) (f : Addr) (cdv : Value) (A : Around) (outer : List PySem.Env) (s : Shared) (H : Hp) (E : XK), Cl P w K mg base (k0 + i) x stm ps (m i) → Room (k0 + i) (A.deeper (envOfC x (defScope stm) s.heap.objs.size f cdv)) → PSsv (cxv P w K mg base N x (defScope stm) f cdv A outer s H E) (.fn E) (defBody stm) (b i)) :
    ∀ i, Cl P w K mg base (k0 + i) x stm ps (m i)
  | 0 => by
    obtain ⟨f, fd, F, hm, hB⟩ := T.ex
    refine ⟨f, fd, ⟨fun vs H Q E h => ?_, fun A outer s H args us vs Q E hr e0 hb' r h => ?_⟩, hm, F, hB⟩
    · obtain ⟨F', ι, st, xs, R, p, hl, o⟩ := h
      rw [h0] at o
      exact o.elim
    · obtain ⟨F', ι, st, xs, R, p, hl, o⟩ := h
      rw [h0] at o
      exact o.elim
  | i + 1 => by
    have ih := cl_rec T S h0 h1 hb i
    rw [h1]
    exact cl_of T S fun f cdv A outer s H E hr => hb i f cdv A outer s H E ih hr

/-! ### calls -/
/-- an exception of a callee comes at the caller's slots -/
def atE {α : Type} (ρ : Env) (x : M α) : M α := fun st => match x st with
  | .exc e _ st' => .exc e ρ st'
  | r => r
theorem atE_out {σ : L2.St} {ρ : Env} {α β : Type} {rel : RelT α β} {Q : β → Hp → Prop} {x : M α} (re : RelEnv E K F ι ρ σ) (o : Out K mg E F ι H rel (atE ρ x st) Q) : Out K mg (.fn fun c d H => E.w c d σ H) F ι H rel (x st) Q := by
  unfold atE at o
  cases e : x st with
  | stuck => rw [e] at o; exact o
  | ok a st' => rw [e] at o; exact o
  | exc e' ρ' st' =>
    rw [e] at o
    exact fun c dx σ' F' ι' H' s R _ q => o c dx σ F' ι' H' s R (re.step s) q
def gCall (m : List Vl → M Vl) (gs : GA) : G := fun ρ => M.bind (gs ρ) fun xs => atE ρ (m xs)
section
variable {X : Cx} {pos : Pos} {m : List Vl → M Vl} {n k j : Nat} {gs : GA}
theorem tev_call (σ : L2.St) (H : Hp) (Q : VK) (hn : ∀ ρ st xs st', gs ρ st = .ok xs st' → xs.length = n) (h : tev K mg E (gCall m gs) σ H Q) : tCallS (spv K mg n m) (WE E.w) (tav K mg E gs) σ H Q := by
  obtain ⟨F, ι, ρ, st, R, env, o⟩ := h
  refine ⟨F, ι, ρ, st, R, env, ?_⟩
  unfold gCall M.bind at o
  cases e : gs ρ st with
  | stuck => rw [e] at o; exact o.elim
  | exc x ρ' st' => rw [e] at o; exact o
  | ok xs st1 =>
    rw [e] at o
    refine fun vs F1 ι1 H1 s1 R1 r1 => ⟨F1, ι1, st1, xs, R1, r1, hn ρ st xs st1 e, (atE_out (env.step s1) (o.later s1)).mono (fun _ _ _ _ _ q => q.back s1) fun _ _ q => q⟩
inductive GaLen : GA → Nat → Prop
  | nil : GaLen gaNil 0
  | cons {g gs n} : GaLen gs n → GaLen (gaCons g gs) (n + 1)
  | consE {g gs n} : GaLen gs n → GaLen (gaConsE g gs) (n + 1)
theorem GaLen.ok {gs : GA} {n : Nat} (h : GaLen gs n) : ∀ ρ st xs st', gs ρ st = .ok xs st' → xs.length = n := by
  induction h with
  | nil =>
    intro ρ st xs st' e
    cases e
    rfl
  | @cons g gs n _ ih =>
    intro ρ st xs st' e
    unfold gaCons M.bind at e
    cases e1 : g ρ st with
    | stuck => rw [e1] at e; cases e
    | exc _ _ _ => rw [e1] at e; cases e
    | ok x st1 =>
      rw [e1] at e
      simp only at e
      cases e2 : gs ρ st1 with
      | stuck => rw [e2] at e; cases e
      | exc _ _ _ => rw [e2] at e; cases e
      | ok xs' st2 =>
        rw [e2] at e
        cases e
        rw [List.length_cons, ih _ _ _ _ e2]
  | @consE g gs n _ ih =>
    intro ρ st xs st' e
    unfold gaConsE M.bind at e
    simp only at e
    cases e1 : g ρ st with
    | stuck => rw [e1] at e; cases e
    | exc _ _ _ => rw [e1] at e; cases e
    | ok x st1 =>
      rw [e1] at e
      simp only at e
      cases e3 : enter x st1 with
      | stuck => rw [e3] at e; cases e
      | exc _ _ _ => rw [e3] at e; cases e
      | ok y st3 =>
        rw [e3] at e
        simp only at e
        cases e2 : gs ρ st3 with
        | stuck => rw [e2] at e; cases e
        | exc _ _ _ => rw [e2] at e; cases e
        | ok xs' st2 =>
          rw [e2] at e
          cases e
          rw [List.length_cons, ih _ _ _ _ e2]
variable {stm : Stmt} {ps : List Str}
theorem v_call {x : Str} {p : Pos} {e : Expr} {es : List Expr} (c : Cl X.prog X.w X.K X.mg X.base k x stm ps m) (hk : k ≤ j) (hr : Room j X.A) (hg : Gl X x) (tk : Takes X E.w) (hl : GaLen gs ps.length)
    (ha : PAv X E (e :: es) gs) (hdb : (x == ("__debug__" : Str)) = false := by decide) (he : starEach (e :: es) X.env = (false, eval e X.env) :: starEach es X.env := by rfl) (hpl : (backTo pos (starEach es X.env)).any (·.1) = false := by rfl) :
    PEv X E (.Call (.Name x p) (e :: es) [] pos) (gCall m gs) := by
  obtain ⟨f, fd, F, hm, hF, hB⟩ := c.ex
  exact pe_weak (pe_callS F (hr.mono hk) hg hm hF.kp hB (fun σ => passAt tk σ) ha hdb he hpl) fun σ H Q h => tev_call σ H Q hl.ok h
theorem v_call0 {x : Str} {p : Pos} (c : Cl X.prog X.w X.K X.mg X.base k x stm [] m) (hk : k ≤ j) (hr : Room j X.A) (hg : Gl X x) (tk : Takes X E.w) (hdb : (x == ("__debug__" : Str)) = false := by decide) :
    PEv X E (.Call (.Name x p) [] [] pos) (gCall m gaNil) := by
  obtain ⟨f, fd, F, hm, hF, hB⟩ := c.ex
  refine pe_weak (t := fun σ H Q => spv X.K X.mg 0 m [] H Q (WE E.w σ)) ⟨fun pins s σ H Q I h => ?_⟩ fun σ H Q h => ?_
  · refine wpAny_Call_Name_kw (ld_glob I hg hm ?_ hdb)
    exact PySem.W.callWith_K0 I.kIn hF.kp (run_fnS (us := []) (E := WE E.w) F (hr.mono hk) hB (passAt tk σ) I .nil h)
  · obtain ⟨F, ι, ρ, st, R, env, o⟩ := h
    exact ⟨F, ι, st, [], R, .nil, rfl, atE_out env o⟩

/-! ### keywords -/
def PKv (X : Cx) (E : EX) (kws : List Keyword) (g : GA) : Prop := PK X kws (tav X.K X.mg E g)
theorem pk_weak {kws : List Keyword} {t t' : TA} (h : PK X kws t) (w : ∀ σ H Q, t' σ H Q → t σ H Q) : PK X kws t' := ⟨fun pos pins s σ H Q I q => h.run pos pins s σ H Q I (w σ H Q q)⟩
theorem vk_nil : PKv X E [] gaNil := by
  refine pk_weak pk_nil fun σ H Q h => ?_
  obtain ⟨F, ι, ρ, st, R, env, o⟩ := h
  exact o [] F ι H (Step.refl _ _ _) R .nil
theorem vk_cons {e : Expr} {g : G} {gs : GA} {kws : List Keyword} {nm : Option Str} {kpos : Pos} (ha : PEv X E e g) (hr : PKv X E kws gs) : PKv X E (⟨nm, e, kpos⟩ :: kws) (gaCons g gs) := by
  refine pk_weak (pk_cons ha hr) fun σ H Q h => ?_
  obtain ⟨F, ι, ρ, st, R, env, o⟩ := h
  refine ⟨F, ι, ρ, st, R, env, o.bind fun x F1 ι1 H1 a st1 s1 R1 r1 o1 => ?_⟩
  obtain ⟨F2, R2, s2, g2, r2⟩ := R1.frz s1.there s1 r1
  refine ⟨F2, ι1, ρ, st1, R2, env.step s2, (o1.later s2).bind fun ys F3 ι3 H3 bs st3 s3 R3 r3 o3 => ?_⟩
  exact o3 (x :: ys) F3 ι3 H3 s3 R3 (.cons (r2.step s3) r3)
/-- how positional arguments and keywords are put in order -/
abbrev Ord := {α : Type} → List α → List α → List α
def gCallK (n : Nat) (o : Ord) (m : List Vl → M Vl) (gs gk : GA) : G := fun ρ => M.bind (gs ρ) fun xs => M.bind (gk ρ) fun ys => if (o xs ys).length = n then atE ρ (m (o xs ys)) else M.stuck
structure KwOk (x : Str) (stm : Stmt) (ps ks : List Str) (o : Ord) : Prop where
  rel : ∀ {α β : Type} (P : α → β → Prop) {xs : List α} {us : List β} {ys : List α} {ws : List β}, Paired P xs us → Paired P ys ws → Paired P (o xs ys) (o us ws)
  to : ∀ (kV doc pm : Value) (an : Option Addr) (cdv ct : Value) (us ws : List Value), (o us ws).length = ps.length → bindArgs (PySem.W.fnOf x x (defArgs stm) (defBody stm) (defScope stm) .none kV doc pm an cdv ct) ⟨us, ks.zip ws⟩ = pure (ps.zip (o us ws))
theorem vals_paired : ∀ {vs : List V} {us : List Value}, Vals vs us → Paired RelV vs us
  | _, _, .nil => .nil
  | _, _, .cons r t => .cons r (vals_paired t)
theorem paired_vals : ∀ {vs : List V} {us : List Value}, Paired RelV vs us → Vals vs us
  | _, _, .nil => .nil
  | _, _, .cons r t => .cons r (paired_vals t)
theorem KwOk.binds {x : Str} {ks : List Str} {o : Ord} (h : KwOk x stm ps ks o) {f : Addr} {fd : FuncData} {K : PySem.W.Frag} (F : Fun K x x stm f fd) : KBinds K fd ps ks (fun us ws => o us ws) (fun vs zs => o vs zs) := by
  obtain ⟨oc, od, kV, doc, pm, an, cdv, ct, osl, rfl, lk, hcd⟩ := F.ex
  exact ⟨fun s us ws X hl => .of_eq (h.to kV doc pm an cdv ct us ws hl), fun r1 r2 => paired_vals (h.rel _ (vals_paired r1) (vals_paired r2))⟩
theorem paired_step {vs : List V} {xs : List Vl} {Fa Fb Ha Hb : Hp} {ιa ιb : Adr} (s : Step Fa ιa Ha Fb ιb Hb) (h : Paired (RelVl K Fa ιa) vs xs) : Paired (RelVl K Fb ιb) vs xs := paired_mono (fun _ _ r => r.step s) h
def tCallKS (sp : Sp) (gV : List V → List V → List V) (E : L2.St → XK) (t tk : TA) : TE := fun σ H Q => t σ H fun vs H1 => tk σ H1 fun zs H2 => sp (gV vs zs) H2 Q (E σ)
theorem run_kS {X : Cx} {CX : CXT} {k : Nat} {f : Addr} {fd : FuncData} {ps ks : List Str} {sp : Sp} {E : XK} {g : List Value → List Value → List Value} {gV : List V → List V → List V} {pins : List (Addr × Obj)} {σ : L2.St} {H : Hp} {s : Shared} {Q : VK} {us ws : List Value} {vs zs : List V}
    (F : FnOk X.prog X.w X.K X.mg X.base CX k f fd ps sp) (hr : Room k X.A) (hb : KBinds X.K fd ps ks g gV) (hx : PassesAt CX X σ E)
    (I : Inv X pins σ H s) (r : Vals vs us) (rz : Vals zs ws) (h : sp (gV vs zs) H Q E) : wpAny (model X.prog X.w) X.A (call (.ref f) us (ks.zip ws)) (EP X pins σ Q) X.xe s := by
  have r2 := hb.rel r rz
  have hl : (g us ws).length = ps.length := by rw [← r2.length]; exact F.len _ _ _ _ h
  refine wpAny_call (codeAny_mono (F.run X.A X.stack s H ⟨us, ks.zip ws⟩ (g us ws) (gV vs zs) Q E hr I.env0 (hb.to s us ws I.kIn hl) r2 h) fun r s' hq => ?_)
  cases r with
  | error e => exact hx pins H s e s' I hq
  | ok fl =>
    cases fl with
    | ret u => exact I.after hq
    | next => exact False.elim hq
    | brk => exact False.elim hq
    | cont => exact False.elim hq
theorem tev_callK {o : Ord} {gk : GA} (hrel : ∀ {α β : Type} (P : α → β → Prop) {xs : List α} {us : List β} {ys : List α} {ws : List β}, Paired P xs us → Paired P ys ws → Paired P (o xs ys) (o us ws)) (σ : L2.St) (H : Hp) (Q : VK) (h : tev K mg E (gCallK n o m gs gk) σ H Q) : tCallKS (spv K mg n m) (fun vs zs => o vs zs) (WE E.w) (tav K mg E gs) (tav K mg E gk) σ H Q := by
  obtain ⟨F, ι, ρ, st, R, env, o1⟩ := h
  refine ⟨F, ι, ρ, st, R, env, Out.bind o1 fun vs F1 ι1 H1 xs st1 s1 R1 r1 o2 => ?_⟩
  refine ⟨F1, ι1, ρ, st1, R1, env.step s1, Out.bind (o2.later s1) fun zs F2 ι2 H2 ys st2 s2 R2 r2 o3 => ?_⟩
  have o4 := o3.later s2
  split at o4
  · rename_i hl
    exact ⟨F2, ι2, st2, o xs ys, R2, hrel _ (paired_step s2 r1) r2, hl, (atE_out ((env.step s1).step s2) o4).mono (fun _ _ _ _ _ q => q.back' fun p q => s1.there p (s2.there p q)) fun _ _ q => q⟩
  · exact o4.elim
theorem v_callK {x : Str} {ks : List Str} {o : Ord} {gk : GA} {kws : List Keyword} {p : Pos} {e : Expr} {es : List Expr} (c : Cl X.prog X.w X.K X.mg X.base k x stm ps m) (hk : k ≤ j) (hr : Room j X.A) (hg : Gl X x) (tk : Takes X E.w)
    (ho : KwOk x stm ps ks o) (ha : PAv X E (e :: es) gs) (hkw : PKv X E kws gk) (hall : (backToKw pos (keywordEach kws X.env)).all (·.1.isSome) = true := by rfl) (hks : (backToKw pos (keywordEach kws X.env)).filterMap (·.1) = ks := by rfl)
    (hdb : (x == ("__debug__" : Str)) = false := by decide) (he : starEach (e :: es) X.env = (false, eval e X.env) :: starEach es X.env := by rfl)
    (hpl : ((backTo pos (starEach (e :: es) X.env)).any (·.1) || (backToKw pos (keywordEach kws X.env)).any (·.1.isNone)) = false := by rfl) :
    PEv X E (.Call (.Name x p) (e :: es) kws pos) (gCallK ps.length o m gs gk) := by
  obtain ⟨f, fd, F, hm, hF, hB⟩ := c.ex
  refine pe_weak (t := tCallKS (spv X.K X.mg ps.length m) (fun vs zs => o vs zs) (WE E.w) (tav X.K X.mg E gs) (tav X.K X.mg E gk)) ⟨fun pins s σ H Q I h => ?_⟩ fun σ H Q h => tev_callK ho.rel σ H Q h
  refine wpAny_Call_Name_kw (ld_glob I hg hm ?_ hdb)
  refine PySem.W.callWith_KW (h₀ := X.base) I.ok.mod.kin hF.kp hall (thn (ha.run pos pins s σ H _ I h) fun us s1 ⟨vs, H1, I1, r, q⟩ => ?_) hpl he
  refine thn (hkw.run pos pins s1 σ H1 _ I1 q) fun ws s2 ⟨zs, H2, I2, rz, q2⟩ => ⟨I2.kIn, ?_⟩
  rw [hks]
  exact run_kS F (hr.mono hk) (ho.binds hF) (passAt tk σ) I2 r rz q2
/-- f(k = v, ..), nothing by position -/
theorem v_callK0 {x : Str} {ks : List Str} {o : Ord} {gk : GA} {kws : List Keyword} {p : Pos} (c : Cl X.prog X.w X.K X.mg X.base k x stm ps m) (hk : k ≤ j) (hr : Room j X.A) (hg : Gl X x) (tk : Takes X E.w)
    (ho : KwOk x stm ps ks o) (hkw : PKv X E kws gk) (hall : (backToKw pos (keywordEach kws X.env)).all (·.1.isSome) = true := by rfl) (hks : (backToKw pos (keywordEach kws X.env)).filterMap (·.1) = ks := by rfl)
    (hdb : (x == ("__debug__" : Str)) = false := by decide)
    (hpl : ((backTo pos (starEach [] X.env)).any (·.1) || (backToKw pos (keywordEach kws X.env)).any (·.1.isNone)) = false := by rfl) :
    PEv X E (.Call (.Name x p) [] kws pos) (gCallK ps.length o m gaNil gk) := by
  obtain ⟨f, fd, F, hm, hF, hB⟩ := c.ex
  refine pe_weak (t := fun σ H Q => tav X.K X.mg E gk σ H fun zs H2 => spv X.K X.mg ps.length m (o [] zs) H2 Q (WE E.w σ)) ⟨fun pins s σ H Q I h => ?_⟩ fun σ H Q h => ?_
  · refine wpAny_Call_Name_kw (ld_glob I hg hm ?_ hdb)
    refine PySem.W.callWith_KW0 (h₀ := X.base) I.ok.mod.kin hF.kp hall (thn (hkw.run pos pins s σ H _ I h) fun ws s2 ⟨zs, H2, I2, rz, q2⟩ => ⟨I2.kIn, ?_⟩) hpl
    rw [hks]
    exact run_kS (us := []) (vs := []) F (hr.mono hk) (ho.binds hF) (passAt tk σ) I2 .nil rz q2
  · obtain ⟨F1, ι1, ρ, st, R, env, o1⟩ := h
    have o2 : Out X.K X.mg E F1 ι1 H (relR X.K H) (M.bind (gk ρ) (fun ys => if (o [] ys).length = ps.length then atE ρ (m (o [] ys)) else M.stuck) st) Q := o1
    refine ⟨F1, ι1, ρ, st, R, env, Out.bind o2 fun zs F2 ι2 H2 ys st2 s2 R2 r2 o3 => ?_⟩
    have o4 := o3.later s2
    split at o4
    · rename_i hl
      exact ⟨F2, ι2, st2, o [] ys, R2, ho.rel _ .nil r2, hl, (atE_out (env.step s2) o4).mono (fun _ _ _ _ _ q => q.back' s2.there) fun _ _ q => q⟩
    · exact o4.elim
end
end Zv
set_option Elab.async false
set_option linter.all false
set_option maxRecDepth 100000
set_option maxHeartbeats 4000000
/-! Z10: methods of lists and texts; dicts of the store. -/
namespace Zv
open PySem PySem.Spec PyProof.Rows L2
variable {K : PySem.W.Frag} {mg : Str → Option Value} {E : EX} {F F' F1 H H' H0 H1 : Hp} {ι ι' ι1 : Adr} {st st' st1 : Store} {v w : V} {a b : Vl}

/-! ### methods -/
abbrev MOp := Vl → List Vl → M Vl
def MtV (K : PySem.W.Frag) (mg : Str → Option Value) (E : EX) (op : MOp) (r : V → List V → Hp → VK → Prop) : Prop :=
  ∀ (F : Hp) (ι : Adr) (st : Store) (H H0 : Hp) (x : V) (vs : List V) (a : Vl) (xs : List Vl) (Q : VK), Rel K F ι st H → There H0 H → RelR K F ι H0 H x a → Paired (RelVl K F ι) vs xs → Out K mg E F ι H (relR K H0) (op a xs st) Q → r x vs H Q
def chk (t : Vl → Store → Bool) (x : Vl) : M Unit := fun st => if t x st = true then .ok () st else .stuck
def TyV (K : PySem.W.Frag) (t : Vl → Store → Bool) (T : String) : Prop := ∀ (F : Hp) (ι : Adr) (st : Store) (H H0 : Hp) (x : V) (a : Vl), Rel K F ι st H → RelR K F ι H0 H x a → t a st = true → tyV K T x H
def isLst (x : Vl) (st : Store) : Bool := (lstOf x st).isSome
def isStr (x : Vl) (_ : Store) : Bool := match x with
  | .d (.str _) => true
  | _ => false
theorem ty_lst : TyV K isLst "list" := fun F ι st H H0 x a R r h => by
  unfold isLst at h
  obtain ⟨xs, e⟩ := Option.isSome_iff_exists.mp h
  obtain ⟨l, vs, rfl, hl, z⟩ := lst_at R r e
  exact .inl ⟨rfl, vs, SqL.of hl⟩
theorem ty_str : TyV K isStr "str" := fun F ι st H H0 x a R r h => by
  unfold isStr at h
  split at h
  · cases r; rfl
  · cases h
def gMeth (t : Vl → Store → Bool) (op : MOp) (o : G) (gs : GA) : G := fun ρ => M.bind (o ρ) fun x => M.bind (chk t x) fun _ => M.bind (gs ρ) fun ys => op x ys
theorem Out.chk {α β : Type} {t : Vl → Store → Bool} {f : M α} {rel : RelT α β} {Q : β → Hp → Prop} (o : Out K mg E F ι H rel (M.bind (chk t a) (fun _ => f) st) Q) : t a st = true ∧ Out K mg E F ι H rel (f st) Q := by
  unfold M.bind Zv.chk at o
  by_cases h : t a st = true
  · rw [if_pos h] at o; exact ⟨h, o⟩
  · rw [if_neg h] at o; exact o.elim
section
variable {X : Cx} {pos apos cpos : Pos} {o e : Expr} {es : List Expr} {go : G} {gs : GA} {name : Str} {T id : String} {r : V → List V → Hp → VK → Prop} {t : Vl → Store → Bool} {op : MOp}
theorem v_meth (pa : PlainAttrs T) (slot : Slot T name id) (hty : typeOf (.builtin id) = pure (.type "method_descriptor")) (hm : MtR X id r) (ht : TyV X.K t T) (hv : MtV X.K X.mg E op r) (ho : PEv X E o go) (ha : PAv X E (e :: es) gs)
    (hbase : attributeBase o name X.env (eval o X.env) = eval o X.env := by rfl)
    (hfew : ((backTo cpos (starEach (e :: es) X.env)).all (fun x => !x.1) && (backToKw cpos (keywordEach [] X.env)).all (fun x => x.1.isSome)
      && decide ((e :: es).length + ([] : List Keyword).length + (if ([] : List Keyword).isEmpty then 0 else 1) < 30)) = true := by rfl)
    (hline : (apos.endLine == cpos.line) = true := by rfl) (hs : starEach (e :: es) X.env = (false, eval e X.env) :: starEach es X.env := by rfl) (hplain : (backTo cpos (starEach es X.env)).any (·.1) = false := by rfl) :
    PEv X E (.Call (.Attribute o name apos) (e :: es) [] cpos) (gMeth t op go gs) := by
  refine pe_weak (pe_bm pa slot hty hm ho ha hbase hfew hline hs hplain) fun σ H Q h => ?_
  obtain ⟨F, ι, ρ, st, R, env, o1⟩ := h
  refine ⟨F, ι, ρ, st, R, env, Out.bind o1 fun x F1 ι1 H1 a st1 s1 R1 r1 o2 => ?_⟩
  obtain ⟨h1, o2⟩ := o2.chk
  refine ⟨ht F1 ι1 st1 H1 H x a R1 r1 h1, F1, ι1, ρ, st1, R1, env.step s1, Out.bind (o2.later s1) fun vs F2 ι2 H2 ys st2 s2 R2 r2 o3 => ?_⟩
  exact hv F2 ι2 st2 H2 H x vs a ys Q R2 (fun p q => s1.there p (s2.there p q)) (r1.step s2) r2 (o3.later s2)
theorem v_meth0 (pa : PlainAttrs T) (slot : Slot T name id) (hty : typeOf (.builtin id) = pure (.type "method_descriptor")) (hm : MtR X id r) (ht : TyV X.K t T) (hv : MtV X.K X.mg E op r) (ho : PEv X E o go)
    (hbase : attributeBase o name X.env (eval o X.env) = eval o X.env := by rfl) (hline : (apos.endLine == cpos.line) = true := by rfl) :
    PEv X E (.Call (.Attribute o name apos) [] [] cpos) (gMeth t op go gaNil) := by
  refine pe_weak (pe_bm0 pa slot hty hm ho hbase hline) fun σ H Q h => ?_
  obtain ⟨F, ι, ρ, st, R, env, o1⟩ := h
  refine ⟨F, ι, ρ, st, R, env, Out.bind o1 fun x F1 ι1 H1 a st1 s1 R1 r1 o2 => ?_⟩
  obtain ⟨h1, o2⟩ := o2.chk
  exact ⟨ht F1 ι1 st1 H1 H x a R1 r1 h1, hv F1 ι1 st1 H1 H x [] a [] Q R1 s1.there r1 .nil (o2.later s1)⟩
end
/-! lists -/
def mAppend : MOp := fun x ys st => match x, ys with
  | .ref n, [.d y] => match lstAt st n with
    | some xs => if xs.length < sizeLine then .ok (.d .none) (st.set n (.lst (xs ++ [y]))) else .stuck
    | none => .stuck
  | _, _ => .stuck
theorem ref_at {n : Nat} {xs : List PyData} (R : Rel K F ι st H) (r : RelR K F ι H0 H v (.ref n)) (e : lstAt st n = some xs) : ∃ l vs, v = .ref l ∧ ι[n]? = some l ∧ H l = some (.lst vs) ∧ DnAll K F vs xs := by
  obtain ⟨l, hl, rfl⟩ := r
  obtain ⟨vs, h1, h2⟩ := R.obj n l _ hl (lstAt_some e)
  exact ⟨l, vs, rfl, hl, h1, h2⟩
/-- the list of the store at n becomes another -/
theorem Rel.setL {n : Nat} {l : Addr} {ws : List V} {ys : List PyData} (R : Rel K F ι st H) (hl : ι[n]? = some l) {us : List V} (h1 : H l = some (.lst us)) (z : DnAll K F ws ys) : Rel K F ι (st.set n (.lst ys)) (upd H l (.lst ws)) ∧ Step F ι H F ι (upd H l (.lst ws)) :=
  R.write (ob := .lst ys) hl (fun _ q => by rw [h1] at q; cases q) (fun _ q => by rw [h1] at q; cases q) ⟨ws, upd_same, z⟩ trivial
theorem mv_append : MtV K mg E mAppend rAppend := by
  intro F ι st H H0 x vs a ys Q R th rx rs o
  unfold mAppend at o
  split at o
  · rename_i n y
    split at o
    · rename_i xs e
      split at o
      · rename_i hz
        obtain ⟨l, ws, rfl, hl, h1, z⟩ := ref_at R rx e
        cases rs with
        | cons q rs =>
          cases rs
          obtain ⟨R', s'⟩ := R.setL hl h1 (z.append (.cons q .nil))
          exact ⟨l, ws, _, rfl, rfl, h1, by rw [z.len]; exact hz, o _ _ _ _ s' R' .non⟩
      · exact o.elim
    · exact o.elim
  · exact o.elim
def mPop : MOp := fun x ys st => match x, ys with
  | .ref n, [] => match lstAt st n with
    | some xs => match xs[xs.length - 1]? with
      | some y => .ok (.d y) (st.set n (.lst xs.dropLast))
      | none => .stuck
    | none => .stuck
  | _, _ => .stuck
theorem DnAll.dropLast {vs : List V} {ds : List PyData} (h : DnAll K F vs ds) : DnAll K F vs.dropLast ds.dropLast := by
  rw [List.dropLast_eq_take, List.dropLast_eq_take, h.len]
  exact h.take _
theorem mv_pop : MtV K mg E mPop rPop := by
  intro F ι st H H0 x vs a ys Q R th rx rs o
  unfold mPop at o
  split at o
  · rename_i n
    split at o
    · rename_i xs e
      split at o
      · rename_i y ey
        obtain ⟨l, ws, rfl, hl, h1, z⟩ := ref_at R rx e
        cases rs
        obtain ⟨u, hu, q⟩ := z.get ey
        obtain ⟨R', s'⟩ := R.setL hl h1 z.dropLast
        exact ⟨l, ws, u, rfl, rfl, h1, by rw [z.len]; exact hu, o _ _ _ _ s' R' q⟩
      · exact o.elim
    · exact o.elim
  · exact o.elim
/-- xs.extend(a list or a tuple) -/
def mExtend : MOp := fun x ys st => match x, ys with
  | .ref n, [y] => match lstAt st n, lstOf y st with
    | some xs, some zs => if xs.length + zs.length ≤ sizeLine then .ok (.d .none) (st.set n (.lst (xs ++ zs))) else .stuck
    | _, _ => .stuck
  | _, _ => .stuck
theorem mv_extend : MtV K mg E mExtend rExtend := by
  intro F ι st H H0 x vs a ys Q R th rx rs o
  unfold mExtend at o
  split at o
  · rename_i n y
    split at o
    · rename_i xs zs e1 e2
      split at o
      · rename_i hz
        obtain ⟨l, ws, rfl, hl, h1, z⟩ := ref_at R rx e1
        cases rs with
        | cons q rs =>
          cases rs
          obtain ⟨l2, ws2, rfl, h2, z2⟩ := lst_at (H0 := H) R q.toR e2
          obtain ⟨R', s'⟩ := R.setL hl h1 (z.append z2)
          exact ⟨l, l2, ws, ws2, rfl, rfl, h1, h2, by rw [z.len, z2.len]; exact hz, o _ _ _ _ s' R' .non⟩
      · exact o.elim
    · exact o.elim
  · exact o.elim
def rExtendT (K : PySem.W.Frag) : V → List V → Hp → VK → Prop := fun x vs H Q => ∃ l b xs zs, x = .ref l ∧ vs = [.ref b] ∧ H l = some (.lst xs) ∧ SqT K H b zs ∧ xs.length + zs.length ≤ sizeLine ∧ Q .non (upd H l (.lst (xs ++ zs)))
/-! texts -/
def mJoin : MOp := fun x ys st => match x, ys with
  | .d (.str a), [y] => match (match y with
      | .d (.tuple xs) => some xs
      | y => lstOf y st).bind strsOf with
    | some zs => if (zs.map (·.length)).sum + zs.length * a.length ≤ 16777216 then .ok (.d (.str (Txt.join a zs))) st else .stuck
    | none => .stuck
  | _, _ => .stuck
theorem mv_join {X : Cx} : MtV X.K mg E mJoin (fun x xs H Q => ∃ a p, ∃ ys : List Str, x = .str a ∧ xs = [.ref p] ∧ (SqL X.K H p (ys.map V.str) ∨ SqT X.K H p (ys.map V.str)) ∧
    (ys.map (·.length)).sum + ys.length * a.length ≤ 16777216 ∧ Q (.str (Txt.join a ys)) H) := by
  intro F ι st H H0 x vs a ys Q R th rx rs o
  unfold mJoin at o
  split at o
  · rename_i s y
    split at o
    · rename_i zs e
      split at o
      · rename_i hz
        cases rx
        cases rs with
        | cons q rs =>
          cases rs
          obtain ⟨xs, e1, e2⟩ := Option.bind_eq_some_iff.mp e
          split at e1
          · cases e1
            obtain ⟨l, ws, rfl, h1, z⟩ := tup_at (H0 := H) R q.toR rfl
            exact ⟨s, l, zs, rfl, rfl, .inr (by rw [← strs_v z e2]; exact h1), hz, o.here R (.str _)⟩
          · obtain ⟨l, ws, rfl, h1, z⟩ := lst_at (H0 := H) R q.toR e1
            exact ⟨s, l, zs, rfl, rfl, .inl (SqL.of (by rw [← strs_v z e2]; exact h1)), hz, o.here R (.str _)⟩
      · exact o.elim
    · exact o.elim
  · exact o.elim
def mUpper : MOp := fun x ys st => match x, ys with
  | .d (.str a), [] => if a.length ≤ 5592405 then .ok (.d (.str (Txt.upper a))) st else .stuck
  | _, _ => .stuck
theorem mv_upper : MtV K mg E mUpper (fun x xs H Q => ∃ a, x = .str a ∧ xs = [] ∧ a.length ≤ 5592405 ∧ Q (.str (Txt.upper a)) H) := by
  intro F ι st H H0 x vs a ys Q R th rx rs o
  unfold mUpper at o
  split at o
  · split at o
    · rename_i hz
      cases rx
      cases rs
      exact ⟨_, rfl, rfl, hz, o.here R (.str _)⟩
    · exact o.elim
  · exact o.elim

/-! ### dicts -/
def putG {κ α : Type} [DecidableEq κ] (kvs : List (κ × α)) (k : κ) (x : α) : List (κ × α) :=
  if (kvs.any fun kv => decide (kv.1 = k)) = true then kvs.map (fun kv => if kv.1 = k then (kv.1, x) else kv) else kvs ++ [(k, x)]
def valG {κ α : Type} [DecidableEq κ] (kvs : List (κ × α)) (k : κ) : Option α := (kvs.find? fun kv => decide (kv.1 = k)).map (·.2)
abbrev KvR (K : PySem.W.Frag) (F : Hp) (ι : Adr) : List (Key × V) → List (Key × Vl) → Prop := Paired (fun (p : Key × V) (q : Key × Vl) => p.1 = q.1 ∧ RelVl K F ι p.2 q.2)
theorem KvR.any {us : List (Key × V)} {kvs : List (Key × Vl)} {k : Key} (h : KvR K F ι us kvs) : us.any (fun kv => decide (kv.1 = k)) = kvs.any fun kv => decide (kv.1 = k) := by
  induction h with
  | nil => rfl
  | cons h t ih => rw [List.any_cons, List.any_cons, ih, h.1]
theorem paired_app {α β : Type} {P : α → β → Prop} {l l2 : List α} {m m2 : List β} (h : Paired P l m) (h2 : Paired P l2 m2) : Paired P (l ++ l2) (m ++ m2) := by
  induction h with
  | nil => exact h2
  | cons h t ih => exact .cons h ih
theorem KvR.put {us : List (Key × V)} {kvs : List (Key × Vl)} {k : Key} {x : V} {y : Vl} (h : KvR K F ι us kvs) (r : RelVl K F ι x y) : KvR K F ι (putK us k x) (putG kvs k y) := by
  unfold putK putG
  rw [h.any]
  by_cases hk : (kvs.any fun kv => decide (kv.1 = k)) = true
  · rw [if_pos hk, if_pos hk]
    clear hk
    induction h with
    | nil => exact .nil
    | @cons p q _ _ h t ih =>
      refine .cons ?_ ih
      by_cases e : p.1 = k
      · have e2 : q.1 = k := h.1.symm.trans e
        simp only [e, e2, if_true]
        exact ⟨trivial, r⟩
      · have e2 : ¬ q.1 = k := fun z => e (h.1.trans z)
        simp only [e, e2, if_false]
        exact h
  · rw [if_neg hk, if_neg hk]
    exact paired_app h (.cons ⟨rfl, r⟩ .nil)
theorem KvR.val {us : List (Key × V)} {kvs : List (Key × Vl)} {k : Key} (h : KvR K F ι us kvs) : match valG kvs k with
    | some y => ∃ x, valV us k = some x ∧ RelVl K F ι x y
    | none => valV us k = none := by
  induction h with
  | nil => exact rfl
  | @cons p q us kvs h t ih =>
    by_cases e : p.1 = k
    · have e1 : valG (q :: kvs) k = some q.2 := by unfold valG; rw [List.find?_cons, ← h.1, e]; simp
      rw [e1, valV_pos e]
      exact ⟨_, rfl, h.2⟩
    · have e1 : valG (q :: kvs) k = valG kvs k := by unfold valG; rw [List.find?_cons, ← h.1]; simp [e]
      rw [e1, valV_neg e]
      exact ih
def dicAt (st : Store) : Vl → Option (Nat × List (Key × Vl))
  | .ref n => match st[n]? with
    | some (.dic kvs) => some (n, kvs)
    | _ => none
  | _ => none
theorem dic_at {n : Nat} {kvs : List (Key × Vl)} (R : Rel K F ι st H) (r : RelR K F ι H0 H v a) (e : dicAt st a = some (n, kvs)) : ∃ l us, v = .ref l ∧ ι[n]? = some l ∧ st[n]? = some (.dic kvs) ∧ H l = some (.dK us) ∧ KvR K F ι us kvs := by
  unfold dicAt at e
  split at e
  · split at e
    · rename_i m kvs' e1
      cases e
      obtain ⟨l, hl, rfl⟩ := r
      obtain ⟨us, h1, h2⟩ := R.obj _ l _ hl e1
      exact ⟨l, us, rfl, hl, e1, h1, h2⟩
    · cases e
  · cases e
def keyOf : Vl → Option Key
  | .d (.int i) => some (.inl i)
  | .d (.str x) => some (.inr x)
  | _ => none
theorem key_at {k : Key} (r : RelR K F ι H0 H v a) (e : keyOf a = some k) : v = kV k := by
  unfold keyOf at e
  split at e
  · cases e; cases r; rfl
  · cases e; cases r; rfl
  · cases e
def vDGet : Op2 := fun x y st => match dicAt st x, keyOf y with
  | some (_, kvs), some k => match valG kvs k with
    | some z => .ok z st
    | none => .stuck
  | _, _ => .stuck
section
variable {X : Cx} {pos pos' : Pos} {o i e : Expr} {go gi ge : G}
theorem v_dget (hu : X.A.units + 1 < cLine) (ho : PEv X E o go) (hi : PEv X E i gi) (hs : NoSl i := by exact fun _ _ => rfl) : PEv X E (.Subscript o i pos) (gBin vDGet go gi) := by
  refine pe_weak (pe_dget hu ho hi hs) fun σ H Q h => ?_
  obtain ⟨F, ι, ρ, st, R, env, o1⟩ := h
  refine ⟨F, ι, ρ, st, R, env, Out.bind o1 fun x F1 ι1 H1 a st1 s1 R1 r1 o2 => ?_⟩
  refine ⟨F1, ι1, ρ, st1, R1, env.step s1, Out.bind (o2.later s1) fun y F2 ι2 H2 b st2 s2 R2 r2 o3 => ?_⟩
  have o4 := o3.later s2
  unfold vDGet at o4
  split at o4
  · rename_i n kvs k e1 e2
    split at o4
    · rename_i z ez
      obtain ⟨l, us, rfl, hl, hst, h1, q⟩ := dic_at R2 (r1.step s2) e1
      have hk := key_at r2 e2
      subst hk
      have qv := q.val (k := k)
      rw [ez] at qv
      obtain ⟨u, hu', qu⟩ := qv
      exact ⟨l, u, rfl, by rw [← hu']; exact DGet.k h1, o4.here R2 qu.toR⟩
    · exact o4.elim
  · exact o4.elim
/-- y in d -/
def vDIn (neg : Bool) : Op2 := fun y x st => match dicAt st x, keyOf y with
  | some (_, kvs), some k => .ok (.d (.bool (if neg then !(valG kvs k).isSome else (valG kvs k).isSome))) st
  | _, _ => .stuck
theorem val_some {us : List (Key × V)} {kvs : List (Key × Vl)} {k : Key} (q : KvR K F ι us kvs) : (valV us k).isSome = (valG kvs k).isSome := by
  have qv := q.val (k := k)
  cases e : valG kvs k with
  | none =>
    rw [e] at qv
    have qv : valV us k = none := qv
    rw [qv]
    rfl
  | some y => rw [e] at qv; obtain ⟨u, hu, _⟩ := qv; rw [hu]; rfl
theorem v_din (hu : X.A.units + 1 < cLine) (hi : PEv X E i gi) (ho : PEv X E o go) (h1 : behindInMarks .In o = false := by rfl) : PEv X E (.Compare i [.In] [o] pos) (gBin (vDIn false) gi go) := by
  refine pe_weak (pe_cmp (pc_din hu hi ho) h1) fun σ H Q h => ?_
  obtain ⟨F, ι, ρ, st, R, env, o1⟩ := h
  refine ⟨F, ι, ρ, st, R, env, Out.bind o1 fun y F1 ι1 H1 b st1 s1 R1 r1 o2 => ?_⟩
  refine ⟨F1, ι1, ρ, st1, R1, env.step s1, Out.bind (o2.later s1) fun x F2 ι2 H2 a st2 s2 R2 r2 o3 => ?_⟩
  have o4 := o3.later s2
  unfold vDIn at o4
  split at o4
  · rename_i n kvs k e1 e2
    obtain ⟨l, us, rfl, hl, hst, h1, q⟩ := dic_at R2 r2 e1
    have hk := key_at (r1.step s2) e2
    subst hk
    exact ⟨l, _, rfl, DGet.k h1, by rw [val_some q]; exact o4.here R2 (.bl _)⟩
  · exact o4.elim
theorem v_dnotin (hu : X.A.units + 1 < cLine) (hi : PEv X E i gi) (ho : PEv X E o go) (h1 : behindInMarks .NotIn o = false := by rfl) : PEv X E (.Compare i [.NotIn] [o] pos) (gBin (vDIn true) gi go) := by
  refine pe_weak (pe_cmp (pc_dnotin hu hi ho) h1) fun σ H Q h => ?_
  obtain ⟨F, ι, ρ, st, R, env, o1⟩ := h
  refine ⟨F, ι, ρ, st, R, env, Out.bind o1 fun y F1 ι1 H1 b st1 s1 R1 r1 o2 => ?_⟩
  refine ⟨F1, ι1, ρ, st1, R1, env.step s1, Out.bind (o2.later s1) fun x F2 ι2 H2 a st2 s2 R2 r2 o3 => ?_⟩
  have o4 := o3.later s2
  unfold vDIn at o4
  split at o4
  · rename_i n kvs k e1 e2
    obtain ⟨l, us, rfl, hl, hst, h1, q⟩ := dic_at R2 r2 e1
    have hk := key_at (r1.step s2) e2
    subst hk
    exact ⟨l, _, rfl, DGet.k h1, by rw [val_some q]; exact o4.here R2 (.bl _)⟩
  · exact o4.elim
/-- d.get(y, z) -/
def gDGet2 (go gi ge : G) : G := fun ρ => M.bind (go ρ) fun x => M.bind (chk (fun x st => (dicAt st x).isSome) x) fun _ => M.bind (gi ρ) fun y => M.bind (ge ρ) fun z st => match dicAt st x, keyOf y with
  | some (_, kvs), some k => .ok ((valG kvs k).getD z) st
  | _, _ => .stuck
theorem v_dget2 {apos cpos : Pos} {f : Expr} (hu : X.A.units + 1 < cLine) (ho : PEv X E o go) (hi : PEv X E i gi) (he : PEv X E f ge) (m : M2 X o "get" apos i f cpos := by exact ⟨rfl, rfl, rfl, rfl⟩) : PEv X E (.Call (.Attribute o "get" apos) [i, f] [] cpos) (gDGet2 go gi ge) := by
  refine pe_weak (pe_dget2 hu ho hi he m) fun σ H Q h => ?_
  obtain ⟨F, ι, ρ, st, R, env, o1⟩ := h
  refine ⟨F, ι, ρ, st, R, env, Out.bind o1 fun x F1 ι1 H1 a st1 s1 R1 r1 o2 => ?_⟩
  obtain ⟨hc, o2⟩ := o2.chk
  obtain ⟨⟨n, kvs⟩, ec⟩ := Option.isSome_iff_exists.mp hc
  obtain ⟨l, us, rfl, hl, hst, h1, q⟩ := dic_at R1 r1 ec
  refine ⟨l, rfl, .inl ⟨_, .inl h1⟩, F1, ι1, ρ, st1, R1, env.step s1, Out.bind (o2.later s1) fun y F2 ι2 H2 b st2 s2 R2 r2 o3 => ?_⟩
  refine ⟨F2, ι2, ρ, st2, R2, (env.step s1).step s2, Out.bind (o3.later s2) fun z F3 ι3 H3 c st3 s3 R3 r3 o4 => ?_⟩
  have o5 := o4.later s3
  split at o5
  · rename_i n' kvs' k e1 e2
    obtain ⟨l', us', el, hl', hst', h1', q'⟩ := dic_at R3 ((r1.step s2).step s3) e1
    cases el
    have hk := key_at (r2.step s3) e2
    subst hk
    refine ⟨valV us' k, DGet.k h1', ?_⟩
    have qv := q'.val (k := k)
    cases ev : valG kvs' k with
    | none =>
      rw [ev] at qv o5
      rw [qv]
      exact o5.here R3 (r3.back' fun p w => s1.there p (s2.there p w))
    | some y =>
      rw [ev] at qv o5
      obtain ⟨u, hu, qu⟩ := qv
      rw [hu]
      exact o5.here R3 qu.toR
  · exact o5.elim
/-- d[y] = v -/
def belowB (n : Nat) : Vl → Bool
  | .ref k => decide (k < n)
  | _ => true
def sDPut (go gi ge : G) : SG := fun ρ => M.bind (ge ρ) fun z => M.bind (go ρ) fun x => M.bind (gi ρ) fun y st => match dicAt st x, keyOf y with
  | some (n, kvs), some k => if (decide (kvs.length < sizeLine) && belowB n (frz z)) = true then .ok (.nx ρ) (st.set n (.dic (putG kvs k (frz z)))) else .stuck
  | _, _ => .stuck
theorem mem_putG {kvs : List (Key × Vl)} {k : Key} {z : Vl} {p : Key × Vl} (h : p ∈ putG kvs k z) : p ∈ kvs ∨ p.2 = z := by
  unfold putG at h
  split at h
  · obtain ⟨q, hq, rfl⟩ := List.mem_map.mp h
    by_cases e : q.1 = k
    · rw [if_pos e]; exact .inr rfl
    · rw [if_neg e]; exact .inl hq
  · rcases List.mem_append.mp h with h | h
    · exact .inl h
    · have : p = (k, z) := by simpa using h
      subst this; exact .inr rfl
theorem sv_dput (hu : X.A.units + 1 < cLine) (ho : PEv X E o go) (hi : PEv X E i gi) (he : PEv X E e ge) (hs : swapsWith e (some (.Subscript o i pos')) pos.line X.env = pure false := by rfl) :
    PSv X E (.Assign [.Subscript o i pos'] e pos) (sDPut go gi ge) := by
  refine ps_weak (ps_dput hu ho hi he hs) fun D σ H h => ?_
  obtain ⟨F, ι, ρ, st, R, env, o1⟩ := h
  refine ⟨F, ι, ρ, st, R, env, Out.bind o1 fun z F1 ι1 H1 c st1 s1 R1 r1 o2 => ?_⟩
  obtain ⟨F1', R1, s1, g1, r1⟩ := R1.frz s1.there s1 r1
  refine ⟨F1', ι1, ρ, st1, R1, env.step s1, Out.bind (o2.later s1) fun x F2 ι2 H2 a st2 s2 R2 r2 o3 => ?_⟩
  refine ⟨F2, ι2, ρ, st2, R2, (env.step s1).step s2, Out.bind (o3.later s2) fun y F3 ι3 H3 b st3 s3 R3 r3 o4 => ?_⟩
  have o5 := o4.later s3
  split at o5
  · rename_i n kvs k e1 e2
    split at o5
    · rename_i hz
      rw [Bool.and_eq_true] at hz
      obtain ⟨l, us, rfl, hl, hst, h1, q⟩ := dic_at R3 (r2.step s3) e1
      have hk := key_at r3 e2
      subst hk
      have rz := (r1.step s2).step s3
      have hd : Down n (.dic (putG kvs k (frz c))) := fun p hp j ej => by
        rcases mem_putG hp with hp | hp
        · exact R3.down n _ hst p hp j ej
        · rw [hp] at ej
          have := hz.2
          rw [ej] at this
          exact of_decide_eq_true this
      obtain ⟨R4, s4⟩ := R3.write (ho := .dK (putK us k z)) (ob := .dic (putG kvs k (frz c))) hl (fun _ q => by rw [h1] at q; cases q) (fun _ q => by rw [h1] at q; cases q) ⟨_, upd_same, q.put rz⟩ hd
      refine ⟨l, _, rfl, DPut.k h1 (by rw [paired_len q]; exact of_decide_eq_true hz.1), ?_⟩
      exact o5 (.nx σ) F3 ι3 _ s4 R4 ((((env.step s1).step s2).step s3).step s4)
    · exact o5.elim
  · exact o5.elim
end
end Zv
set_option Elab.async false
set_option linter.all false
set_option maxRecDepth 100000
set_option maxHeartbeats 4000000
/-! Z11: own exceptions with one field, over Exception; raise. -/
namespace PySem
namespace ZxT
open PySem.W PySem.Calls PyProof.Rows PySem.HandSPX
open Builtin Builtin.ObjectAttr
abbrev exB : List Value := [.type "Exception", .type "BaseException", .type "object"]
def iA (p1 p2 : Pos) : Arguments := { posonlyargs := [], args := [{ arg := "self", annotation := none, pos := p1 }, { arg := "thing", annotation := none, pos := p2 }], vararg := none, kwonlyargs := [], kw_defaults := [], kwarg := none, defaults := [] }
def iB (q1 q2 q3 q4 : Pos) : List Stmt := [.Assign [.Attribute (.Name "self" q1) "thing" q2] (.Name "thing" q3) q4]
def iS : Scope := { kind := .function, names := [(PySem.Str.ofString "self", .local), (PySem.Str.ofString "thing", .local)], isGenerator := false, isCoroutine := false, more := [] }
/-- what the written part says of the class at C and of its __init__ at fI -/
structure Txt (K : Frag) (mg : Str → Option Value) (nm : Str) (qi : Str) (C fI : Addr) : Prop where
  gC : mg nm = some (.ref C)
  cls : ∃ nm q N bs bm sn sub ab col dd k0 k1 k2 k3 k5, K.lookup C = some (excClassObj nm q C N bs bm true sn sub ab col dd k0 k1 k2 k3 k5 "Exception.__new__") ∧ excTail exB bm = true
  sa : findIn K (.ref C) "__setattr__" = some (some (.builtin "object.__setattr__"))
  ga : findIn K (.ref C) "__getattribute__" = some (some (.builtin "BaseException.__getattribute__"))
  gg : findIn K (.ref C) "__getattr__" = some none
  noN : findIn K (.ref C) "thing" = some none
  iC : findIn K (.ref C) "__init__" = some (some (.ref fI))
  tC : typeIn K (.ref fI) = some (.type "function")
  kC : keepIn K (.ref C) = true
  exC : subIn K (.ref C) (.type "BaseException") = some true
  tyC : typeIn K (.ref C) = some (.type "type")
  hdC : hasDictIn K C = true
  fn : ∃ (oc : Value) (od : Option Addr) (doc pm : Value) (an : Option Addr) (cdv ct : Value) (osl : Array (Option Value)) (p1 p2 q1 q2 q3 q4 : Pos),
    K.lookup fI = some ⟨oc, od, .func (fnOf "__init__" qi (iA p1 p2) (iB q1 q2 q3 q4) iS .none .none doc pm an cdv ct), osl⟩ ∧ codeIn K cdv qi = true
theorem one_size (v : Value) : [v].length ≤ sizeLine := by
  rw [sizeLine_eq]
  exact (by decide : 1 ≤ 16777216)
theorem ldC {M : Model} {s : Shared} {name : Str} {scope : Scope} {L a : Addr} {cd : Value} {m : Str → Option Value} {x : Str} {pos : Pos} {v : Value} {Q : Value → Shared → Prop} {A : Around} {E : Value → Shared → Prop} (hn : s.heap.Ns L m) (hv : m x = some v) (h : Q v s)
    (hk : scope.kind = .function := by rfl) (hl : (envOfC name scope L a cd).kindOf x = some .local := by rfl) (hd : (x == ("__debug__" : Str)) = false := by decide) :
    wpAny M A (eval (.Name x pos) (envOfC name scope L a cd)) Q E s := wpAny_Name (wpAny_loadName_local hk hl hn hv h) hd
structure InitEnd (h h' : Heap) (x C dx t1 : Addr) (v : Value) : Prop where
  keep : ∀ b o, b ≠ x → h.get? b = some o → h'.get? b = some o
  obj : h'.get? x = some { cls := .ref C, dict := some dx, data := .fields #[.ref t1, .none, .none, .none, .bool false, .none] }
  dbig : h.objs.size ≤ dx
  dne : dx ≠ x
  ns : h'.Ns1 dx (fun y => if y = "thing" then some v else none)
structure OwnMade (h h' : Heap) (e C d : Addr) (v : Value) : Prop where
  keep : ∀ b o, h.get? b = some o → h'.get? b = some o
  new : h.objs.size ≤ e
  obj : ∃ oe vs, h'.get? e = some oe ∧ oe.cls = .ref C ∧ oe.dict = some d ∧ oe.data = .fields vs ∧ vs[1]? = some .none
  dbig : h.objs.size ≤ d
  dne : d ≠ e
  ns : h'.Ns1 d (fun y => if y = "thing" then some v else none)
section
variable {prog : Program} {w : World} {A : Around} {E : Value → Shared → Prop} {R : Result → Shared → Prop} {s : Shared} {K : Frag} {mg : Str → Option Value} {C fI : Addr} {nm qi : Str}
theorem store0 {hp : Heap} {g : Array GenState} {d : Drawn} {t : Nat} {os : OsState} {name : Str} {tk : Tok} {v : Value} {x C : Addr} {fv : Array Value} {cd : ClassData}
    (X : K.In hp) (hx : hp.get? x = some { cls := .ref C, data := .fields fv }) (hcd : W.clsIn K C = some cd) (hov : excOver K C exB = true) (hh : cd.hasDict = true) (ha : W.findIn K (.ref C) name = some none)
    (hq : ∀ h' tk' dx, (∀ b o, b ≠ x → hp.get? b = some o → h'.get? b = some o) → hp.objs.size ≤ dx → dx ≠ x → h'.get? x = some { cls := .ref C, dict := some dx, data := .fields fv } →
      h'.Ns1 dx (fun y => if y = name then some v else none) → R (.ok (.ret .none)) ⟨h', g, d, tk', os⟩) :
    codeAny (model prog w) A (.call (.builtin "object.__setattr__") ⟨[.ref x, .str name tk, v], []⟩) R ⟨hp, g, d, t, os⟩ := by
  have hxs : x ≠ hp.objs.size := Nat.ne_of_lt (Heap.lt_size hx)
  have hcls : W.Looks (model prog w) hp (classData C) cd := W.looks_clsIn X hcd
  refine osa_openX (od := none) (r := none) (s := ⟨hp, g, d, t, os⟩) PySem.F.store_Exception X ⟨hx, rfl, rfl, trivial⟩ hov (by unfold takerIn; rw [ha]; rfl) fun b => ?_
  show wpAny _ _ (storeInOwnDict (.ref x) (.ref C) (.str name tk) name v b) _ _ _
  obtain ⟨nm, bs, mro, ns, qn, hd, sn, sb, ab, col, del⟩ := cd
  dsimp only at hh
  subst hh
  unfold storeInOwnDict ownDictForStores
  repeat (first | with_reducible refine store_in_new ?_ ?_ | with_reducible refine wpAny_loadPart_at hx ?_ | with_reducible refine hcls.at ?_ | wp_step)
  · exact ⟨_, #[], _, (Heap.get?_update_ne _ _ _ _ hxs.symm).trans (Heap.get?_push_at rfl rfl), rfl, fun e he => absurd he (by simp), fun _ => rfl⟩
  · intro h' tk' hn' hs
    have hx₁ : (hp.push { cls := .type "dict", data := .dict #[] }).get? x = some { cls := .ref C, data := .fields fv } := Heap.get?_push_of_some _ hx
    refine hq h' tk' hp.objs.size (fun b o hb ho => ?_) (Nat.le_refl _) hxs.symm ?_ hn'
    · exact (hs.2 b (Nat.ne_of_lt (Heap.lt_size ho))).trans ((Heap.get?_update_ne _ _ _ _ hb).trans (Heap.get?_push_of_some _ ho))
    · exact (hs.2 x hxs).trans (Heap.get?_update_self _ hx₁ rfl)
theorem exc_over {nmx q : Str} {N : Addr} {bs bm : List Value} {sn : List Str} {sub : List Value} {ab : Bool} {col : Option Bool} {dd : Option Addr} {k0 k1 k2 k3 k5 : Option Value}
    (hC : K.lookup C = some (excClassObj nmx q C N bs bm true sn sub ab col dd k0 k1 k2 k3 k5 "Exception.__new__")) (hbm : excTail exB bm = true) : excOver K C exB = true := by
  unfold excOver
  have hcl : clsIn K C = some { name := nmx, bases := bs, mro := .ref C :: bm, ns := N, qualname := q, hasDict := true, slotNames := sn, subclasses := sub, abstract := ab, collection := col, hasDel := false } := by unfold clsIn; rw [hC] <;> rfl
  rw [hcl]
  simp [hbm]
theorem own_init (T : Txt K mg nm qi C fI) {x t0 : Addr} {v : Value} (X : K.In s.heap) (hlim : s.heap.NoLimit) (hx : s.heap.get? x = some (excO C t0)) (hnx : K.lookup x = none) (hroom : A.depth < recursionLimit)
    (hq : ∀ h' tk dx, InitEnd s.heap h' x C dx t0 v → R (.ok (.ret .none)) { s with heap := h', toks := tk }) :
    codeAny (model prog w) A (.call (.ref fI) ⟨[.ref x, v], []⟩) R s := by
  obtain ⟨oc, od, doc, pm, an, cdv, ct, osl, p1, p2, q1, q2, q3, q4, ho, hcd⟩ := T.fn
  obtain ⟨nmx, q, N, bs, bm, sn, sub, ab, col, dd, k0, k1, k2, k3, k5, hC, hbm⟩ := T.cls
  have hcl : clsIn K C = some { name := nmx, bases := bs, mro := .ref C :: bm, ns := N, qualname := q, hasDict := true, slotNames := sn, subclasses := sub, abstract := ab, collection := col, hasDel := false } := by unfold clsIn; rw [hC] <;> rfl
  refine Att.call_fn (binds := [("self", .ref x), ("thing", v)]) X hlim ho hcd hroom (BindsTo.of_eq (by first | rfl | with_unfolding_all rfl)) (by first | rfl | decide | with_unfolding_all rfl) (fun s₁ IC => ?_) rfl rfl rfl
  obtain ⟨h₁, tk₁, rfl⟩ := IC.toInCall.same
  have k : ∀ b o, s.heap.get? b = some o → h₁.get? b = some o := IC.toInCall.keep
  have hn := IC.toInCall.ns
  have hxL : s.heap.objs.size ≠ x := Nat.ne_of_gt (Heap.lt_size hx)
  have X₁ : K.In h₁ := X.keeps k
  have hx₁ := k _ _ hx
  show wpAny _ _ (execs _ _) _ _ _
  refine wpAny_execs_cons (plainObj_wpAny_Assign_Attribute ?_)
  refine ldC (v := v) hn (by first | rfl | with_unfolding_all rfl | kernel_rfl) (ldC (v := .ref x) hn (by first | rfl | with_unfolding_all rfl | kernel_rfl) ?_)
  refine set_plain X₁ (ox := excO C t0) (od := none) ⟨hx₁, rfl, rfl, trivial⟩ T.sa ?_
  refine store0 X₁ hx₁ hcl (exc_over hC hbm) rfl T.noN (fun h₃ tk₃ dx k₃ dn dne hx₃ hn₃ => ?_)
  show wpAny _ _ (execs _ _) _ _ _
  have z : s.heap.objs.size < h₁.objs.size := hn.lt
  exact wpAny_execs_nil (hq h₃ tk₃ dx ⟨fun b o hb e => k₃ b o hb (k b o e), hx₃, Nat.le_of_lt (Nat.lt_of_lt_of_le z dn), dne, hn₃⟩)
theorem own_made (T : Txt K mg nm qi C fI) {v : Value} (X : K.In s.heap) (hlim : s.heap.NoLimit) (hroom : A.depth + 1 < recursionLimit)
    (hq : ∀ h' tk e d, OwnMade s.heap h' e C d v → R (.ok (.ret (.ref e))) { s with heap := h', toks := tk }) :
    codeAny (model prog w) A (.call (.ref C) ⟨[v], []⟩) R s := by
  obtain ⟨nmx, q, N, bs, bm, sn, sub, ab, col, dd, k0, k1, k2, k3, k5, hC, hbm⟩ := T.cls
  obtain ⟨hp, g, dr, tk, os⟩ := s
  have k : ∀ b o, hp.get? b = some o → ((hp.push (kdv_tup [v])).push (excO C hp.objs.size)).get? b = some o := fun b o e => Heap.get?_push_of_some _ (Heap.get?_push_of_some _ e)
  have hget : ((hp.push (kdv_tup [v])).push (excO C hp.objs.size)).get? (hp.objs.size + 1) = some (excO C hp.objs.size) := by heap_get
  have hnx : K.lookup (hp.objs.size + 1) = none := by
    cases e : K.lookup (hp.objs.size + 1) with
    | none => rfl
    | some o =>
      have z : hp.get? (hp.objs.size + 1) = some o := X _ _ e
      exact absurd (Nat.lt_of_succ_lt (Heap.lt_size z)) (Nat.lt_irrefl _)
  refine HandSPX.call_own F.excBase_Exception (fun X => excTail_contains X bm hbm) (X _ _ hC) (looks_findIn X T.iC) (fun self => bind_fn X self T.tC) (one_size v) ?_
  refine own_init (s := ⟨(hp.push (kdv_tup [v])).push (excO C hp.objs.size), g, dr, tk, os⟩) T (X.keeps k) (hlim.keeps k) hget hnx ?_ fun h' tk' dx ⟨k', hx, dn, dne, hns⟩ => ?_
  · show A.depth + 1 < recursionLimit
    exact hroom
  · have old : ∀ b o, hp.get? b = some o → h'.get? b = some o := fun b o e => k' b o (Nat.ne_of_lt (Nat.lt_succ_of_lt (Heap.lt_size e))) (k b o e)
    have z : hp.objs.size + 1 + 1 ≤ dx := by
      first
        | (simpa only [Heap.size_push] using dn)
        | exact dn
        | (have q := dn; rw [Heap.size_push, Heap.size_push] at q; exact q)
    exact ⟨rfl, hq h' tk' (hp.objs.size + 1) dx ⟨old, Nat.le_succ _, ⟨_, _, hx, rfl, rfl, rfl, rfl⟩, Nat.le_trans (Nat.le_trans (Nat.le_succ _) (Nat.le_succ _)) z, dne, hns⟩⟩
end
end ZxT
end PySem
namespace Zv
open PySem PySem.Spec PyProof.Rows L2
theorem relO_thing {v : V} {v' : Value} (r : RelV v v') (f : Str) : L2.RelO (List.lookup f [(("thing" : Str), v)]) (if f = "thing" then some v' else none) := by
  by_cases hw : f = "thing"
  · subst hw
    rw [if_pos rfl]
    have q : List.lookup ("thing" : Str) [(("thing" : Str), v)] = some v := by simp [List.lookup]
    rw [q]
    exact r
  · rw [if_neg hw]
    have qw : (f == ("thing" : Str)) = false := by simpa using hw
    have q2 : List.lookup f [(("thing" : Str), v)] = none := by simp [List.lookup, qw]
    rw [q2]
    trivial
section
variable {X : Cx} {C fI : Addr} {nm qi : Str} {E : EX}
def tMkX (C : Addr) (ta : TA) : L2.St → Hp → XK → Prop := fun σ H Q => ta σ H fun vs H1 => ∃ v, vs = [v] ∧ ∀ d, H1 d = none → Q (.ref C) (some d) (upd H1 d (.xd [(("thing" : Str), v)]))
theorem pmk_thing {a : Expr} {ta : TA} {p pos : Pos} {k : Nat} (T : PySem.ZxT.Txt X.K X.mg nm qi C fI) (hr : Room k X.A) (ha : PA X [a] ta) (hg : Gl X nm) (hdb : (nm == ("__debug__" : Str)) = false := by decide)
    (he : starEach (a :: []) X.env = (false, eval a X.env) :: starEach [] X.env := by rfl) (hpl : (backTo pos (starEach [] X.env)).any (·.1) = false := by rfl) :
    PMk X (.Call (.Name nm p) [a] [] pos) (tMkX C ta) := by
  intro pins s σ H Q I h
  refine wpAny_Call_Name_kw (ld_glob I hg T.gC ?_ hdb)
  refine PySem.W.callWith_K (h₀ := X.base) I.ok.mod.kin T.kC (thn (ha.run pos pins s σ H _ I h) fun us s1 hh => ?_) he hpl
  obtain ⟨vs, H1, I1, r1, v, ev, q1⟩ := hh
  subst ev
  refine ⟨I1.kIn, ?_⟩
  cases r1 with
  | cons rv rn =>
    rename_i v' us'
    cases rn
    show wpAny _ _ (call (.ref C) [v']) _ _ _
    have hlim := I1.nolimit
    obtain ⟨hp, g, dr, tk, os⟩ := s1
    refine wpAny_call (PySem.ZxT.own_made T I1.kIn hlim (by have := hr.dp; omega) fun h' tk' e d M => ?_)
    show MkP X pins σ Q (.ref e) ⟨h', g, dr, tk', os⟩
    obtain ⟨oe, fv, hoe, hc, hd, hdat, h1⟩ := M.obj
    have hns := M.ns
    obtain ⟨G', g1, g2⟩ := restrict h' fun b => decide (b ≠ e)
    have gk : ∀ b, b ≠ e → G'.get? b = h'.get? b := fun b hb => g1 b (decide_eq_true hb)
    have ge : G'.get? e = none := g2 e (by simp)
    have old : ∀ b o, hp.get? b = some o → G'.get? b = some o := fun b o q => (gk b (Nat.ne_of_lt (Nat.lt_of_lt_of_le (Heap.lt_size q) M.new))).trans (M.keep b o q)
    have ob : ObjOk X.prog X.w (upd H1 d (.xd [(("thing" : Str), v)])) G' d (.xd [(("thing" : Str), v)]) :=
      ⟨_, hns.at (fun o q => (gk d M.dne).trans q), fun f => relO_thing rv f⟩
    have J : Inv X pins σ (upd H1 d (.xd [(("thing" : Str), v)])) ⟨G', g, dr, tk', os⟩ := I1.laid (t' := tk') old M.dbig ob
    refine ⟨e, oe, fv, ⟨G', g, dr, tk', os⟩, _, .ref C, some d, rfl, J, fun b o q => ?_, ge, hoe, ⟨hc, hd⟩, hdat, h1, ?_, rfl, I1.bare, raises_own T.exC T.tyC, q1 d (I1.hok.fresh M.dbig)⟩
    · by_cases hb : b = e
      · have q' : G'.get? b = some o := q
        rw [hb, ge] at q'; cases q'
      · exact (gk b hb).symm.trans q
    · rw [upd_ne (Ne.symm M.dne)]
      exact I1.hok.fresh M.new
/-- raise C(x) -/
def sRaise (nm : Str) (gs : GA) : SG := fun ρ => M.bind (gs ρ) fun xs st => match xs with
  | [.d x] => .exc ⟨nm, some ("thing", x)⟩ ρ st
  | _ => .stuck
theorem sv_raise {a : Expr} {gs : GA} {p pos pos2 : Pos} {k : Nat} (hc : X.calm = true) (T : PySem.ZxT.Txt X.K X.mg nm qi C fI) (hr : Room k X.A) (tk : Takes X E.w) (ha : PAv X E [a] gs) (hg : Gl X nm) (hdb : (nm == ("__debug__" : Str)) = false := by decide)
    (he : starEach (a :: []) X.env = (false, eval a X.env) :: starEach [] X.env := by rfl) (hpl : (backTo pos (starEach [] X.env)).any (·.1) = false := by rfl) :
    PSv X E (.Raise (some (.Call (.Name nm p) [a] [] pos)) none pos2) (sRaise nm gs) := by
  refine ps_weak (ps_raise (W := E.w) hc tk (pmk_thing T hr ha hg hdb he hpl)) fun D σ H h => ?_
  obtain ⟨F, ι, ρ, st, R, env, o⟩ := h
  refine ⟨F, ι, ρ, st, R, env, Out.bind o fun vs F1 ι1 H1 xs st1 s1 R1 r1 o1 => ?_⟩
  split at o1
  · cases r1 with
    | cons q r1 =>
      cases r1
      refine ⟨_, rfl, fun d hd => ?_⟩
      obtain ⟨R2, s2⟩ := R1.put (o := .xd [(("thing" : Str), _)]) hd
      exact o1 (.ref C) (some d) σ F1 ι1 _ (s1.trans s2) R2 ((env.step s1).step s2) ⟨⟨C, rfl, T.gC⟩, _, _, rfl, upd_same, q, s1.there _ (.of hd)⟩
  · exact o1.elim
end
end Zv
set_option Elab.async false
set_option linter.all false
set_option maxRecDepth 100000
set_option maxHeartbeats 4000000
/-! Z12: try with several clauses, each with the name. -/
namespace Zv
open PySem PySem.Spec PyProof.Rows L2
def wMas (K : PySem.W.Frag) (i : Nat) (Wout : WX) (D : Ends) : List (Value × (Addr → Value → Option Addr → TS)) → WX
  | [] => Wout
  | (c, ts) :: r => fun cls d σ H => ∃ b, PySem.W.exmOne K cls c = some b ∧
      (b = true → ∀ a, H a = none → ts a cls d { nx := fun σ' H' => D.nx (σ'.set i none) H', rt := D.rt, bk := fun σ' H' => D.bk (σ'.set i none) H', ct := fun σ' H' => D.ct (σ'.set i none) H' } (σ.set i (some (.ref a))) H) ∧
      (b = false → wMas K i Wout D r cls d σ H)
inductive HdsA (X : Cx) (n : Str) : List ExceptHandler → List (Value × (Addr → Value → Option Addr → TS)) → Prop
  | nil : HdsA X n [] []
  | cons {x : Str} {c : Value} {ts : Addr → Value → Option Addr → TS} {b₀ : Stmt} {suite : List Stmt} {np pos' : Pos} {hds : List ExceptHandler} {l : List (Value × (Addr → Value → Option Addr → TS))} (hc : Names X x c)
      (hsu : ∀ (a : Addr) (oe : Obj) (cls : Value) (d : Option Addr) (pn : List (Addr × Obj)), Zc cls d oe → (∃ vs, oe.data = .fields vs) → PSs (X.suite a ((a, oe) :: pn)) (b₀ :: suite) (ts a cls d)) (r : HdsA X n hds l) :
      HdsA X n (.ExceptHandler (some (.Name x np)) (some n) (b₀ :: suite) pos' :: hds) ((c, ts) :: l)
section
variable {X : Cx} {n : Str} {i : Nat} {body : List Stmt} {h₀ : ExceptHandler} {hds : List ExceptHandler} {l : List (Value × (Addr → Value → Option Addr → TS))} {pos : Pos} {tb : WX → TS} {Wout : WX}
theorem ps_try_mas (hs : X.stack = X.env :: X.outer) (hf : X.env.frame = some X.env.locals) (hN : X.N.Nodup) (hi : X.N[i]? = some n) (hln : X.env.kindOf n = some .local) (tk : Takes X Wout)
    (hb : ∀ (W : WX) (pn : List (Addr × Obj)) (xe : Value → Shared → Prop), Takes (X.tr pn xe) W → PassesOwn (model X.prog X.w) X.A X.env xe → PSs (X.tr pn xe) body (tb W))
    (hh : HdsA X n (h₀ :: hds) l) : PS X (.Try body (h₀ :: hds) [] [] pos) (fun D σ H => tb (wMas X.K i Wout D l) D σ H) := by
  refine ⟨fun pins s σ H D I h => ?_⟩
  have ok := I.ok
  have hloc : Loc X.env.scope n := .inl hln
  have hfr : X.A.frames = some (X.env :: X.outer) := by rw [ok.frames, hs]
  refine wpAny_Try_except ?_
  refine wpAny_mono ((hb (wMas X.K i Wout D l) (X.pn ++ pins) (fun e s₁ => wpAny (model X.prog X.w) X.A (noteFrame e X.env) (fun _ s₂ => wpAny (model X.prog X.w) X.A (setFlight e none) (fun _ s₃ =>
    wpAny (model X.prog X.w) X.A (handleBy e X.env (h₀ :: hds)) (SP X pins D) X.xe s₃) X.xe s₂) X.xe s₁) (fun u s' xx => ?_) PassesOwn.looking).run [] s σ H D (I.toTry _) h) (fun f s1 hsp => ?_) (fun e s1 he => he)
  · -- the catch
    obtain ⟨a, B, sI, pins', σ', H', cls, d, rfl, J', nb, up, sky, na, os, ag, w⟩ := xx
    have J : Inv X pins σ' H' sI := J'.ofTry ok
    have sky' : Sky B (X.env :: X.outer) a (Zc cls d) X.env.locals s'.heap := by rw [← hs]; exact sky
    show wpAny (model X.prog X.w) X.A (noteFrame (.ref a) X.env) _ _ _
    refine Sky.land Zc.steady hfr hf sky' fun h3 fl3 up3 => ?_
    have J3 : Inv X pins σ' H' { s' with heap := h3 } := J.landed nb fl3.1 (up.trans up3) os ag
    obtain ⟨oe3, vs3, he3, hz3, hd3⟩ := fl3.there
    have notFr : ∀ {h : Heap} {o : Obj} {vs : Array Value}, h.FunFrames B (X.env :: X.outer) → h.get? a = some o → o.data = .fields vs → a ∉ frs (X.env :: X.outer) := fun {h o vs} ff e dd hm => by
      obtain ⟨_, o', e', hnf⟩ := ff.mem hm
      rw [e] at e'; cases e'
      exact hnf _ dd
    have nfr := notFr fl3.2.2.1 he3 hd3
    have nL : a ≠ X.env.locals := fun z => nfr (List.mem_filterMap.mpr ⟨X.env, List.mem_cons_self, by rw [hf, z]⟩)
    have nF : a ∉ X.fs := fun hm => by
      obtain ⟨e, he, q⟩ := List.mem_filterMap.mp hm
      exact nfr (List.mem_filterMap.mpr ⟨e, List.mem_cons_of_mem _ he, q⟩)
    have S3 := J3.suite he3 hd3 na nL nF
    have go : ∀ {hds' : List ExceptHandler} {l' : List (Value × (Addr → Value → Option Addr → TS))}, HdsA X n hds' l' → wMas X.K i Wout D l' cls d σ' H' →
        wpAny (model X.prog X.w) X.A (handleBy (.ref a) X.env hds') (SP X pins D) X.xe { s' with heap := h3 } := by
      intro hds' l' hk
      induction hk with
      | nil =>
        intro w
        refine wpAny_handleBy_nil ?_
        obtain ⟨k1, k2, k3, oe, vs, T, oT, ts', he, hz, hd, h1, hr⟩ := id fl3
        unfold PySem.passOn
        refine wpAny_bind (wpAny_field he hd h1 ?_)
        rw [if_neg (show ¬ ((Value.ref T == Value.none) = true) from by simp)]
        have fin : wpAny (model X.prog X.w) X.A (setFlight (.ref a) X.env.frame) (fun _ s4 => wpAny (model X.prog X.w) X.A (throw (.ref a) : Sem PySem.Flow) (SP X pins D) X.xe s4) X.xe { s' with heap := h3 } := by
          rw [hf]
          refine HandSPX.setFlight_upZ fl3 fun h4 hh4 up4 => wpAny_throw (tk _ _ ?_)
          exact ⟨a, B, sI, pins, σ', H', cls, d, rfl, J, nb, (up.trans up3).trans up4, .inr (.inr (by rw [hs]; exact hh4)), na, os, ag, w⟩
        first
          | exact wpAny_bind (wpAny_pure (wpAny_bind fin))
          | exact wpAny_bind fin
      | @cons x c ts b₀ suite np pos' hds2 l2 hc hsu r ih =>
        intro w
        obtain ⟨b, hb1, hyes, hno⟩ := w
        refine wpAny_handleBy_cons (codeAny_handlers_test ?_) (by intro q; cases q)
        have LT : PySem.W.Looks (model X.prog X.w) h3 (typeOf (.ref a)) cls := fun A Q E s k q => wpAny_typeOf_ref (k _ _ he3) (by rw [hz3.1]; exact q)
        have LM := PySem.W.exm_one (M := model X.prog X.w) (J3.kIn) LT hb1
        have test : ∀ {Q : Value → Shared → Prop} {E : Value → Shared → Prop}, Q c { s' with heap := h3 } → wpAny (model X.prog X.w) (X.A.mark (some (.ref a))) (eval (.Name x np) X.env) Q E { s' with heap := h3 } := fun {Q E} q => by
          obtain ⟨hg, hdbg, hm | ⟨hm, hv, hnn⟩⟩ := hc
          · exact ld_glob (X := X.suite a ((a, oe3) :: (X.pn ++ pins))) S3 hg hm q hdbg
          · exact ld_blt (X := X.suite a ((a, oe3) :: (X.pn ++ pins))) S3 hg hm hv q hnn hdbg
        refine test (LM.here ?_)
        cases b with
        | true =>
          refine codeAny_handlers_suite_as ?_
          refine HandSPX.lands_againZ fl3 fun h4 fl4 up4 => ?_
          have J4 : Inv X pins σ' H' { s' with heap := h4 } := J.landed nb fl4.1 ((up.trans up3).trans up4) os ag
          obtain ⟨oe4, vs4, he4, hz4, hd4⟩ := fl4.there
          have S4 := J4.suite he4 hd4 na nL nF
          refine store_ok (X := X.suite a ((a, oe4) :: (X.pn ++ pins))) (v := .ref a) S4 hN hi hloc rfl (fun s5 S5 => ?_) (.inr hln)
          refine wpAny_mono ((hsu a oe4 cls d (X.pn ++ pins) hz4 ⟨_, hd4⟩).run [] s5 _ H' _ S5 (hyes rfl a na)) (fun f s6 hsp => ?_) (fun _ _ z => False.elim z)
          have end_ : ∀ {σ6 : L2.St} {H6 : Hp} {Q : Shared → Prop}, Inv (X.suite a ((a, oe4) :: (X.pn ++ pins))) [] σ6 H6 s6 → (∀ s7, Inv X pins (σ6.set i none) H6 s7 → Q s7) →
              wpAny (model X.prog X.w) X.A (do bindName X.env n .none; unbindBehindTheSuite X.env n pos') (fun _ s7 => Q s7) X.xe s6 := fun {σ6 H6 Q} S6 hq => gone_ok (S6.unsuite ok) hN hi hln hq
          cases f with
          | next =>
            obtain ⟨σ6, H6, S6, q6⟩ := hsp
            exact end_ S6 fun s7 J7 => ⟨_, _, J7, q6⟩
          | brk =>
            obtain ⟨σ6, H6, S6, q6⟩ := hsp
            exact end_ S6 fun s7 J7 => ⟨_, _, J7, q6⟩
          | cont =>
            obtain ⟨σ6, H6, S6, q6⟩ := hsp
            exact end_ S6 fun s7 J7 => ⟨_, _, J7, q6⟩
          | ret u =>
            obtain ⟨v6, σ6, H6, S6, r6, q6⟩ := hsp
            exact end_ S6 fun s7 J7 => ⟨_, _, _, J7, r6, q6⟩
        | false =>
          show wpAny _ X.A (handleBy (.ref a) X.env hds2) _ _ _
          exact ih (hno rfl)
    exact go hh w
  · cases f with
    | next =>
      obtain ⟨σ', H', J', q⟩ := hsp
      exact wpAny_execs_nil ⟨σ', H', J'.ofTry ok, q⟩
    | brk =>
      obtain ⟨σ', H', J', q⟩ := hsp
      exact ⟨σ', H', J'.ofTry ok, q⟩
    | cont =>
      obtain ⟨σ', H', J', q⟩ := hsp
      exact ⟨σ', H', J'.ofTry ok, q⟩
    | ret u =>
      obtain ⟨v, σ', H', J', r, q⟩ := hsp
      exact ⟨v, σ', H', J'.ofTry ok, r, q⟩
end

/-! ### the mirror of try -/
structure Hd where
  cls : Str
  fld : Str
  known : List Str
  suite : PyData → SG
def offF (i : Nat) : Flow → Flow
  | .nx ρ => .nx (ρ.set i none)
  | .rt x => .rt x
  | .bk ρ => .bk (ρ.set i none)
  | .ct ρ => .ct (ρ.set i none)
def runH (i : Nat) : List Hd → Exn → SG
  | [], e => fun ρ st => .exc e ρ st
  | h :: hs, e => fun ρ => if h.cls = e.cls then (match e.fld with
      | some (f, x) => if f = h.fld ∧ i < ρ.length then M.bind (noExc (h.suite x (ρ.set i none))) (fun f => M.pure (offF i f)) else M.stuck
      | none => M.stuck) else if e.cls ∈ h.known then runH i hs e ρ else M.stuck
def sTry (i : Nat) (b : SG) (hs : List Hd) : SG := fun ρ st => match b ρ st with
  | .exc e ρ' st' => runH i hs e ρ' st'
  | r => r
/-- what is known in a clause's suite: the exception's own dict at d holds the field's value v -/
def suE (K : PySem.W.Frag) (E : EX) (a : Addr) (i : Nat) (d : Addr) (f : Str) (v : V) (x : PyData) : EX :=
  ⟨fun _ _ _ _ => False, fun F ι σ => (F d = some (.xd [(f, v)]) ∧ Dn K F v x ∧ σ[i]? = some (some (.ref a))) ∧ E.Γ F ι σ, fun F F' ι ι' σ g gi h => ⟨⟨g _ _ h.1.1, Dn.mono g _ _ h.1.2.1, h.1.2.2⟩, E.mono F F' ι ι' σ g gi h.2⟩⟩
inductive HdsV (X : Cx) (E : EX) (n : Str) (i : Nat) : List ExceptHandler → List Hd → Prop
  | nil : HdsV X E n i [] []
  | cons {C : Addr} {b₀ : Stmt} {suite : List Stmt} {np pos' : Pos} {hds : List ExceptHandler} {h : Hd} {hs : List Hd} (hg : Gl X h.cls) (hdb : (h.cls == ("__debug__" : Str)) = false) (hm : X.mg h.cls = some (.ref C)) (ht : PySem.W.exmOne X.K (.ref C) (.ref C) = some true)
      (hk : ∀ m ∈ h.known, ∃ C', X.mg m = some (.ref C') ∧ PySem.W.exmOne X.K (.ref C') (.ref C) = some false)
      (hsu : ∀ (a : Addr) (oe : Obj) (d : Addr) (pn : List (Addr × Obj)) (v : V) (x : PyData), Zc (.ref C) (some d) oe → (∃ vs, oe.data = .fields vs) → PSsv (X.suite a ((a, oe) :: pn)) (suE X.K E a i d h.fld v x) (b₀ :: suite) (h.suite x))
      (r : HdsV X E n i hds hs) : HdsV X E n i (.ExceptHandler (some (.Name h.cls np)) (some n) (b₀ :: suite) pos' :: hds) (h :: hs)
theorem REnv.grow {K : PySem.W.Frag} {F F' : Hp} {ι : Adr} {ρ : Env} {σ : L2.St} (g : Same F F') (h : REnv K F ι ρ σ) : REnv K F' ι ρ σ :=
  ⟨h.1, fun i x e => let ⟨v, e', r⟩ := h.2 i x e; ⟨v, e', r.mono g fun _ _ q => q⟩⟩
theorem REnv.off {K : PySem.W.Frag} {F : Hp} {ι : Adr} {ρ : Env} {σ : L2.St} (h : REnv K F ι ρ σ) (i : Nat) (o : Option V) : REnv K F ι (ρ.set i none) (σ.set i o) := by
  refine ⟨by simpa using h.1, fun j y e => ?_⟩
  by_cases q : j = i
  · subst q
    by_cases hl : j < ρ.length
    · rw [List.getElem?_set_self hl] at e; cases e
    · rw [List.getElem?_eq_none (by simp; omega)] at e; cases e
  · rw [List.getElem?_set_ne (Ne.symm q)] at e
    rw [List.getElem?_set_ne (Ne.symm q)]
    exact h.2 j y e
section
variable {X : Cx} {E : EX} {n : Str} {i : Nat} {body : List Stmt} {h₀ : ExceptHandler} {hds : List ExceptHandler} {hs : List Hd} {b : SG} {pos : Pos}
theorem hdsV_ex (hfr : E.frees [i]) : ∀ {hds : List ExceptHandler} {hs : List Hd}, HdsV X E n i hds hs → ∃ l, HdsA X n hds l ∧
    ∀ (e : Exn) (ρ' : Env) (st' : Store) (F : Hp) (ι : Adr) (H : Hp) (D : Ends), Out X.K X.mg E F ι H (relF X.K E H) (runH i hs e ρ' st') (endsQ D) →
      ∀ c dx σ' F' ι' H', Step F ι H F' ι' H' → Rel X.K F' ι' st' H' → RelEnv E X.K F' ι' ρ' σ' → ExRel X.K X.mg F' H H' e c dx → wMas X.K i E.w D l c dx σ' H'
  | _, _, .nil => ⟨[], .nil, fun e ρ' st' F ι H D o c dx σ' F' ι' H' s R re q => o c dx σ' F' ι' H' s R re q⟩
  | _, _, .cons (C := C) (h := h) (hs := hs) hg hdb hm ht hk hsu r => by
    obtain ⟨l, hl, hw⟩ := hdsV_ex hfr r
    refine ⟨(.ref C, fun a cls dd => fun D σ H => ∃ d v y, cls = .ref C ∧ dd = some d ∧ tsv X.K X.mg (suE X.K E a i d h.fld v y) (h.suite y) D σ H) :: l, .cons ⟨hg, hdb, .inl hm⟩ (fun a oe cls dd pn hz hv => ⟨fun pins s σ H D I ⟨d, v, y, e1, e2, q⟩ => ?_⟩) hl, fun e ρ' st' F ι H D o c dx σ' F' ι' H' s R ree q => ?_⟩
    · subst e1; subst e2
      exact (hsu a oe d pn v y hz hv).run pins s σ H D I q
    · obtain ⟨hΓ, re⟩ := id ree
      obtain ⟨⟨C', rfl, hC'⟩, qf⟩ := q
      unfold runH at o
      by_cases hc : h.cls = e.cls
      · simp only [hc, if_true] at o
        rw [← hc, hm] at hC'
        cases hC'
        refine ⟨true, ht, fun _ a ha => ?_, fun z => by cases z⟩
        cases hf : e.fld with
        | none => simp only [hf] at o; exact o.elim
        | some p =>
          obtain ⟨f, x⟩ := p
          simp only [hf] at o qf
          by_cases hff : f = h.fld ∧ i < ρ'.length
          · rw [if_pos hff] at o
            obtain ⟨hff, hlt⟩ := hff
            have hlt : i < σ'.length := by rw [← re.1]; exact hlt
            simp only [hff] at qf
            obtain ⟨d, v, rfl, hd, dn, nd⟩ := qf
            refine ⟨d, v, x, rfl, rfl, ?_⟩
            -- the exception's dict is one of what stays
            have hni : d ∉ ι' := fun z => by
              obtain ⟨m, hm, ez⟩ := List.mem_iff_getElem.mp z
              have e1 : ι'[m]? = some d := by rw [List.getElem?_eq_getElem hm, ez]
              have hm' : m < st'.length := by rw [← R.len]; exact hm
              have xo := R.obj m d st'[m] e1 (List.getElem?_eq_getElem hm')
              cases eo : st'[m] with
              | lst xs => rw [eo] at xo; obtain ⟨vs, q, _⟩ := xo; rw [hd] at q; cases q
              | dic xs => rw [eo] at xo; obtain ⟨vs, q, _⟩ := xo; rw [hd] at q; cases q
              | dit xs => rw [eo] at xo; obtain ⟨vs, q, _⟩ := xo; rw [hd] at q; cases q
              | tab P q => rw [eo] at xo; obtain ⟨_, ps, q, _⟩ := xo; rw [hd] at q; cases q
            obtain ⟨F2, R2, s2, g2, fd⟩ : ∃ F2, Rel X.K F2 ι' st' H' ∧ Step F ι H F2 ι' H' ∧ Same F' F2 ∧ F2 d = some (.xd [(h.fld, v)]) := by
              cases ef : F' d with
              | none =>
                obtain ⟨R2, g2⟩ := R.freeze hd ef hni
                exact ⟨_, R2, s.freeze nd g2, g2, upd_same⟩
              | some o' =>
                have := R.sub d o' ef
                rw [hd] at this
                cases this
                exact ⟨F', R, s, Same.refl _, ef⟩
            refine ⟨F2, ι', ρ'.set i none, st', R2, ⟨⟨⟨fd, Dn.mono g2 _ _ dn, List.getElem?_set_self hlt⟩, hfr _ _ _ _ (fun j hj => List.getElem?_set_ne (fun z => hj (by simp [z]))) (E.mono _ _ _ _ _ g2 (fun _ _ e => e) hΓ)⟩, (re.grow g2).off i _⟩, ?_⟩
            have o2 := o.later s2
            refine Out.noExc (E := E) o2 fun cc F3 ι3 H3 fl st3 s3 R3 r3 o3 => ?_
            have o4 := o3 
            cases fl with
            | nx ρ3 =>
              cases cc with
              | nx σ3 => exact o4 (.nx (σ3.set i none)) F3 ι3 H3 s3 R3 ⟨hfr _ _ _ _ (fun j hj => List.getElem?_set_ne (fun z => hj (by simp [z]))) r3.1.2, r3.2.off i _⟩
              | _ => exact r3.elim
            | rt y =>
              cases cc with
              | rt u => exact o4 (.rt u) F3 ι3 H3 s3 R3 (r3.back s2)
              | _ => exact r3.elim
            | bk ρ3 =>
              cases cc with
              | bk σ3 => exact o4 (.bk (σ3.set i none)) F3 ι3 H3 s3 R3 ⟨hfr _ _ _ _ (fun j hj => List.getElem?_set_ne (fun z => hj (by simp [z]))) r3.1.2, r3.2.off i _⟩
              | _ => exact r3.elim
            | ct ρ3 =>
              cases cc with
              | ct σ3 => exact o4 (.ct (σ3.set i none)) F3 ι3 H3 s3 R3 ⟨hfr _ _ _ _ (fun j hj => List.getElem?_set_ne (fun z => hj (by simp [z]))) r3.1.2, r3.2.off i _⟩
              | _ => exact r3.elim
          · rw [if_neg hff] at o; exact o.elim
      · simp only [hc, if_false] at o
        by_cases hk' : e.cls ∈ h.known
        · simp only [hk', if_true] at o
          obtain ⟨C2, h1, h2⟩ := hk _ hk'
          rw [h1] at hC'
          cases hC'
          exact ⟨false, h2, fun z => (by cases z), fun _ => hw e ρ' st' F ι H D o _ dx σ' F' ι' H' s R ree ⟨⟨_, rfl, h1⟩, qf⟩⟩
        · simp only [hk', if_false] at o; exact o.elim
theorem sv_try (hs' : X.stack = X.env :: X.outer) (hf : X.env.frame = some X.env.locals) (hN : X.N.Nodup) (hi : X.N[i]? = some n) (hln : X.env.kindOf n = some .local) (tk : Takes X E.w)
    (hb : ∀ (W : WX) (pn : List (Addr × Obj)) (xe : Value → Shared → Prop), Takes (X.tr pn xe) W → PassesOwn (model X.prog X.w) X.A X.env xe → PSsv (X.tr pn xe) ⟨W, E.Γ, E.mono⟩ body b)
    (hh : HdsV X E n i (h₀ :: hds) hs) (hfr : E.frees [i] := by exact fun _ _ _ _ _ h => h) : PSv X E (.Try body (h₀ :: hds) [] [] pos) (sTry i b hs) := by
  obtain ⟨l, hl, hw⟩ := hdsV_ex hfr hh
  refine ps_weak (ps_try_mas (tb := fun W => tsv X.K X.mg ⟨W, E.Γ, E.mono⟩ b) hs' hf hN hi hln tk hb hl) fun D σ H h => ?_
  obtain ⟨F, ι, ρ, st, R, env, o⟩ := h
  refine ⟨F, ι, ρ, st, R, env, ?_⟩
  unfold sTry at o
  cases e : b ρ st with
  | stuck => rw [e] at o; exact o.elim
  | ok f st' =>
    rw [e] at o
    refine fun c F' ι' H' s R' r => o c F' ι' H' s R' ?_
    cases c <;> cases f <;> exact r
  | exc x ρ' st' =>
    rw [e] at o
    exact fun c dx σ' F' ι' H' s R' re q => hw x ρ' st' F ι H D o c dx σ' F' ι' H' s R' re q
end
end Zv
set_option Elab.async false
set_option linter.all false
set_option maxRecDepth 100000
set_option maxHeartbeats 4000000
/-! Z13: in a clause's suite: the exception's field, isinstance of it. -/
namespace PySem.W
open PySem PySem.Spec PySem.Calls PyProof.Rows
section
variable {prog : Program} {w : World} {A : Around} {E : Value → Shared → Prop} {s : Shared} {K : Frag} {x D : Addr} {ox : Obj} {od : Option Obj}
theorem zFindObj {C : Addr} {name : Str} {a g : Value} (hc : (clsIn K C).isSome = true) (ha : findIn K (.ref C) name = some (some a)) (hg : specialIn K a "__get__" = some (some g)) (ht : takesIn K a = some true) : findObj K C od name = some (.bind g a) := by
  obtain ⟨cd, hc⟩ := Option.isSome_iff_exists.mp hc
  unfold findObj
  rw [hc, Option.bind_some, ha, Option.bind_some]
  simp [hg, ht]
theorem zClassE {Q : Option Value → Shared → Prop} (T : L2.ExcC K D) (X : K.In s.heap) (I : InstAt s.heap x ox D od) (h : Q (some (.ref D)) { s with toks := s.toks + 1 }) : wpAny (model prog w) A (getAttr? (.ref x) "__class__") Q E s := by
  have hf : findObj K D od "__class__" = some (.bind (.builtin "getset_descriptor.__get__") (.builtin "object.__class__")) := zFindObj (by obtain ⟨cd, hc, _⟩ := any_some T.hd; rw [hc]; rfl) T.ha T.hn T.ht
  obtain ⟨hp, g, d, t, os⟩ := s
  have L0 := I.type (M := model prog w)
  have L1 := looks_findIn (M := model prog w) X T.hg
  have L2 := looks_findIn (M := model prog w) X T.hk
  have L3 := looks_find (M := model prog w) X I hf
  have sub : Looks (model prog w) hp (isInstance (.ref x) (.type "BaseException")) true := L0.andThen (looks_subIn X T.hs)
  have hx0 : (false && onTheHeap (Value.builtin "BaseException.__getattribute__")) = false := rfl
  have hx2 : (Value.builtin "BaseException.__getattribute__" == Value.builtin "object.__getattribute__") = false := by decide +kernel
  have hx1 : (onTheHeap (Value.ref D) && Value.builtin "BaseException.__getattribute__" == Value.builtin "object.__getattribute__") = false := by rw [hx2]; rfl
  unfold getAttr? getAttrBy? getAttrBy
  refine wpAny_bind (wpAny_mkText (wpAny_bind (wpAny_attempt (wpAny_holding (wpAny_bind (L0.at (wpAny_bind (L1.at ?_))))))))
  show wpAny _ _ (if (onTheHeap (Value.ref D) && Value.builtin "BaseException.__getattribute__" == Value.builtin "object.__getattribute__") = true then _ else _) _ _ _
  rw [hx1, if_neg Bool.false_ne_true]
  unfold getAttrByItsOwn hookBefore
  refine wpAny_bind ?_
  rw [if_pos (show onTheHeap (Value.ref D) = true from rfl)]
  refine L2.at ?_
  refine wpAny_bind (wpAny_attempt (wpAny_holding ?_))
  unfold callGetattribute
  rw [hx0, if_neg Bool.false_ne_true]
  unfold boundAndCalled
  rw [PySem.F.excAttr_ValueError.ga.bind (.ref x)]
  refine wpAny_bind (wpAny_pure ?_)
  show wpAny _ _ (call (.builtin "BaseException.__getattribute__") [.ref x, .str "__class__" t]) _ _ _
  refine wpAny_call (codeAny_call_builtin PySem.F.excAttr_ValueError.ga.plain PySem.F.entry_bexc_ga ?_)
  refine @check_slot (model prog w) _ _ ⟨hp, g, d, t + 1, os⟩ "BaseException.__getattribute__" "BaseException" "__getattribute__" (.ref x) [.str "__class__" t] [] _ (by decide +kernel) (by decide +kernel) sub (PySem.F.args_bexc_ga (.ref x) (.str "__class__" t)) ?_
  unfold Builtin.«object.__getattribute__»
  refine wpAny_bind (wpAny_of_eq (a := ((Value.ref x : Value), [Value.str "__class__" t])) (by first | rfl | (simp only [slotArgs]; rfl)) ?_)
  refine wpAny_bind (wpAny_pure (wpAny_bind (L0.at (wpAny_bind (L3.at ?_)))))
  show wpAny _ _ (holding [Value.builtin "object.__class__"] (call (.builtin "getset_descriptor.__get__") [.builtin "object.__class__", .ref x, .ref D]) >>= ret) _ _ _
  refine wpAny_bind (wpAny_holding (wpAny_call (class_get (s := ⟨hp, g, d, t + 1, os⟩) (ox := ox) (od := od) X I T.hm ?_)))
  refine wpAny_pure ?_
  show wpAny _ _ (handedOut (.ref D)) _ _ _
  rw [handedOut_of (v := .ref D) rfl]
  first
    | exact wpAny_pure (wpAny_pure h)
    | exact wpAny_pure h
    | exact wpAny_pure (wpAny_bind (wpAny_pure (wpAny_pure h)))
theorem zKitx (T : L2.ExcC K D) : KitX K (.ref x) (.ref D) (fun h => ∃ od, InstAt h x ox D od) where
  ty := fun _ _ _ ⟨_, I⟩ => I.type
  it := fun _ _ X _ => by
    obtain ⟨cdD, hcD, _⟩ := any_some T.hd
    unfold clsIn at hcD
    split at hcD
    · rename_i c' d' cd' sl' ho
      intro A' Q' E' s' k q
      unfold isType loadHead
      exact wpAny_bind (wpAny_loadPart (k _ _ (X _ _ ho)) (wpAny_pure q))
    · cases hcD
  ne := fun h tp dd its n sl X htp => by
    obtain ⟨cdD, hcD, _⟩ := any_some T.hd
    refine Bool.eq_false_iff.mpr fun q => ?_
    have e : D = tp := Value.ref.inj (beq_iff_eq.mp q)
    subst e
    unfold clsIn at hcD
    split at hcD
    · rename_i c' d' cd' sl' ho
      have z := (X _ _ ho).symm.trans htp
      cases z
    · cases hcD
  ca := fun X ⟨_, I⟩ k => zClassE T X I k
end
end PySem.W
namespace Zv
open PySem PySem.Spec PyProof.Rows L2
section
variable {X : Cx} {E : EX} {a C d : Addr} {oe : Obj} {pn : List (Addr × Obj)} {i : Nat} {v : V} {x : PyData} {e : Str} {p pos : Pos} {nm qi : Str} {fI : Addr}
/-- e.thing -/
theorem v_thing (T : PySem.ZxT.Txt X.K X.mg nm qi C fI) (hz : Zc (.ref C) (some d) oe) (hf : ∃ vs, oe.data = .fields vs) (hN : X.N[i]? = some e) (hv : Vis X.env.scope e)
    (hb : attributeBase (.Name e p) "thing" (X.suite a ((a, oe) :: pn)).env (eval (.Name e p) (X.suite a ((a, oe) :: pn)).env) = eval (.Name e p) (X.suite a ((a, oe) :: pn)).env := by rfl)
    (hd' : (e == ("__debug__" : Str)) = false := by decide) (hcd : (e == ("__classdict__" : Str)) = false := by decide) :
    PEv (X.suite a ((a, oe) :: pn)) (suE X.K E a i d "thing" v x) (.Attribute (.Name e p) "thing" pos) (gC x) := by
  refine ⟨fun pins s σ H Q I h => ?_⟩
  obtain ⟨F, ι, ρ, st, R, ⟨⟨⟨fd, dn, hs⟩, _⟩, env⟩, o⟩ := h
  refine attr_of hb (thn ((pe_var (X := X.suite a ((a, oe) :: pn)) (pos := p) (i := i) hN hv hd' hcd).run pins s σ H (fun v H1 => v = .ref a ∧ H1 = H) I ⟨.ref a, hs, rfl, rfl⟩) fun u s1 hh => ?_)
  obtain ⟨v0, H1, I1, rx, ex, eH⟩ := hh
  subst ex
  subst eH
  obtain rfl : u = Value.ref a := rx
  obtain ⟨ha, _⟩ := I1.pin (a, oe) (List.mem_append_left _ List.mem_cons_self)
  obtain ⟨vs, hdt⟩ := hf
  have ea : H1 d = some (.xd [(("thing" : Str), v)]) := R.sub _ _ fd
  have hx : ObjOk X.prog X.w H1 s1.heap d (.xd [(("thing" : Str), v)]) := I1.hok d _ ea
  obtain ⟨mA, hns, hr⟩ := hx
  obtain ⟨od, ho, hl⟩ := lookIn_ns hns
  have l : List.lookup ("thing" : Str) [(("thing" : Str), v)] = some v := by simp [List.lookup]
  obtain ⟨u, hu, ru⟩ := RelO.some_of (v := v) (o := mA "thing") (by rw [← l]; exact hr "thing")
  have J : PySem.W.InstAt s1.heap a oe C (some od) := ⟨ha, hz.1, by unfold PySem.W.notCls; rw [hdt] <;> rfl, by rw [hz.2]; exact ho⟩
  exact HandSPX.exc_get I1.kIn J T.ga T.gg T.exC (PySem.W.findObj_own T.hdC T.noN rfl (by rw [hl, hu])) (handed_of ru) ⟨v, H1, I1.tok _, ru, o v F ι H1 (Step.refl _ _ _) R dn⟩
/-- isinstance(e, P) -/
theorem v_isE {P : Addr} {k : Bool} {x2 : Str} {p0 p1 p2 : Pos} (T : L2.ExcC X.K C) (hz : Zc (.ref C) (some d) oe) (hf : ∃ vs, oe.data = .fields vs) (hN : X.N[i]? = some e) (hv : Vis X.env.scope e)
    (hk : PySem.W.kitOne X.K (.ref C) (.ref P) = some k) (hg0 : Gl X "isinstance") (hm0 : X.mg "isinstance" = none) (hg : Gl X x2) (hm : X.mg x2 = some (.ref P)) {f : Str}
    (hdb2 : (x2 == ("__debug__" : Str)) = false := by decide) (hd' : (e == ("__debug__" : Str)) = false := by decide) (hcd : (e == ("__classdict__" : Str)) = false := by decide)
    (hs2 : starEach [.Name e p1, .Name x2 p2] (X.suite a ((a, oe) :: pn)).env = (false, eval (.Name e p1) (X.suite a ((a, oe) :: pn)).env) :: starEach [.Name x2 p2] (X.suite a ((a, oe) :: pn)).env := by rfl)
    (hs3 : starEach [.Name x2 p2] (X.suite a ((a, oe) :: pn)).env = (false, eval (.Name x2 p2) (X.suite a ((a, oe) :: pn)).env) :: starEach [] (X.suite a ((a, oe) :: pn)).env := by rfl)
    (hpl : (backTo pos (starEach [.Name x2 p2] (X.suite a ((a, oe) :: pn)).env)).any (·.1) = false := by rfl) :
    PEv (X.suite a ((a, oe) :: pn)) (suE X.K E a i d f v x) (.Call (.Name "isinstance" p0) [.Name e p1, .Name x2 p2] [] pos) (gC (.bool k)) := by
  have call_is : CallR (X.suite a ((a, oe) :: pn)) (.builtin "isinstance") (fun xs H Q => xs = [V.ref a, V.ref P] ∧ H d = some (.xd [(f, v)]) ∧ Q (.bl k) H) := by
    intro pins s σ H xs us Q I r h
    obtain ⟨rfl, ea, q⟩ := h
    cases r with
    | cons rx rr =>
      cases rr with
      | cons rt rr =>
        cases rr
        cases rx
        cases rt
        obtain ⟨hget, _⟩ := I.pin (a, oe) (List.mem_append.mpr (.inl List.mem_cons_self))
        obtain ⟨vs, hdt⟩ := hf
        have hx : ObjOk X.prog X.w H s.heap d (.xd [(f, v)]) := I.hok d _ ea
        obtain ⟨mA, hns, hr⟩ := hx
        obtain ⟨od, ho, hl⟩ := lookIn_ns hns
        have J : PySem.W.InstAt s.heap a oe C (some od) := ⟨hget, hz.1, by unfold PySem.W.notCls; rw [hdt] <;> rfl, by rw [hz.2]; exact ho⟩
        exact PySem.W.kia_one (PySem.W.zKitx (x := a) (ox := oe) T) I.kIn ⟨_, J⟩ hk (fun z => nomatch z) fun tk => ⟨.bl k, H, I.kept (t' := tk) fun _ _ z => z, rfl, q⟩
  refine pe_weak (pe_callB (X := X.suite a ((a, oe) :: pn)) call_is hg0 hm0 PyProof.Rows.boot_isinstance (pa_cons (pe_var (i := i) hN hv hd' hcd) (pa_cons (pe_glob (v := .ref P) hg hm rfl hdb2) pa_nil hs3) hs2) (by decide) (by decide) hs2 hpl) fun σ H Q h => ?_
  obtain ⟨F, ι, ρ, st, R, ⟨⟨⟨fd, dn, hs⟩, _⟩, env⟩, o⟩ := h
  exact ⟨.ref a, hs, rfl, R.sub _ _ fd, o (.bl k) F ι H (Step.refl _ _ _) R (.bl k)⟩
end
end Zv
set_option Elab.async false
set_option linter.all false
set_option maxRecDepth 100000
set_option maxHeartbeats 4000000
/-! Z14: a lambda without parameters handed to a def. -/
namespace Zv
open PySem PySem.Spec PyProof.Rows L2 LamX
/-- a() in the def that got the lambda: m is what the lambda's body does -/
def gAct (m : M Vl) : G := fun ρ => atE ρ m
/-- what is known in that def: its slot 0 holds the lambda at f, whose code object is at c' -/
def lamΓ (F0 : Hp) (ι0 : Adr) (f c' : Addr) (q : Str) : Hp → Adr → L2.St → Prop := fun F ι σ => F c' = some (CodeO c' q) ∧ σ[0]? = some (some (.ref f)) ∧ Same F0 F ∧ ∀ (n : Nat) a, ι0[n]? = some a → ι[n]? = some a
theorem lamΓ_mono {F0 : Hp} {ι0 : Adr} {f c' : Addr} {q : Str} (F F' : Hp) (ι ι' : Adr) (σ : L2.St) (g : Same F F') (gi : ∀ (n : Nat) a, ι[n]? = some a → ι'[n]? = some a) (h : lamΓ F0 ι0 f c' q F ι σ) : lamΓ F0 ι0 f c' q F' ι' σ :=
  ⟨g _ _ h.1, h.2.1, h.2.2.1.trans g, fun n a e => gi n a (h.2.2.2 n a e)⟩
def lamE (W : WX) (F0 : Hp) (ι0 : Adr) (f c' : Addr) (q : Str) : EX := ⟨W, lamΓ F0 ι0 f c' q, lamΓ_mono⟩
theorem lamE_frees {W : WX} {F0 : Hp} {ι0 : Adr} {f c' : Addr} {q : Str} {i : Nat} (hi : i ≠ 0) : (lamE W F0 ι0 f c' q).frees [i] := fun F ι σ σ' h k => ⟨k.1, (h 0 (by simp [Ne.symm hi])).trans k.2.1, k.2.2⟩
def tabsOk (P : Addr) (q : Str) (st : Store) : Bool := st.all (fun o => match o with
  | .tab P' q' => decide (P' = P) && decide (q' = q)
  | _ => true) && st.any fun o => match o with
  | .tab _ _ => true
  | _ => false
def gLam (P : Addr) (q : Str) (n : Nat) (bm : M Vl → SG) (gb : G) : G := fun ρ st => if tabsOk P q st = true then noExc (fnM false n (bm (gb ρ)) []) st else .stuck
section
variable {X : Cx} {pins : List (Addr × Obj)} {σ : L2.St} {H : Hp} {s : Shared}
theorem pe_actS {CXg : CXT} {Eg : XK} {Ng : List Str} {qg : Str} {sg : Scope} {g f c' : Addr} {cdg pm ctv : Value} {params : Arguments} {body : Expr} {scope : Scope} {k i : Nat} {a : Str} {pn : List (Addr × Obj)} {xe : Value → Shared → Prop} {W : WX} {tb : XK → TE} {p1 p2 : Pos}
    (I : Inv X pins σ H s) (L : LamS X.env.scope scope) (hf : s.heap.get? f = some (PySem.W.kla_obj "<lambda>" (X.env.qual ++ "<lambda>") params body scope (cloFrom X.env.cells scope.names []) pm c' ctv)) (hfn : H f = none) (hfr : f ∉ frs X.stack)
    (hbind : bindArgs (PySem.W.kla_fn "<lambda>" (X.env.qual ++ "<lambda>") params body scope (cloFrom X.env.cells scope.names []) pm (.ref c') ctv) ⟨[], []⟩ = pure [])
    (tk : Takes ((cxOf CXg X.prog X.w X.K X.mg X.base Ng qg sg g cdg X.A X.stack s H Eg).tr pn xe) W) (hr : Room (k + 1) (X.A.deeper (envOfC qg sg s.heap.objs.size g cdg)))
    (hbody : ∀ (E : XK) (A : Around) (outer : List PySem.Env) (s : Shared) (H : Hp), Room k (A.deeper (lamEnv X scope s.heap.objs.size f c')) → PE (lamCx X A outer s H E scope f c') body (tb E))
    (hN : Ng[i]? = some a) (hv : Vis sg a) (hd : (a == ("__debug__" : Str)) = false := by decide) (hcd : (a == ("__classdict__" : Str)) = false := by decide) :
    PE ((cxOf CXg X.prog X.w X.K X.mg X.base Ng qg sg g cdg X.A X.stack s H Eg).tr pn xe) (.Call (.Name a p1) [] [] p2)
      (fun σZ HZ Q => σZ[i]? = some (some (.ref f)) ∧ HZ c' = some (CodeO c' (X.env.qual ++ "<lambda>")) ∧ tb (WE W σZ) σ HZ Q) := by
  refine ⟨fun pinsZ sZ σZ HZ Q IZ h => ?_⟩
  obtain ⟨hs, hc, ht⟩ := h
  refine wpAny_Call_Name_kw (thn ((pe_var (pos := p1) (i := i) hN hv hd hcd).run pinsZ sZ σZ HZ (fun v H1 => v = .ref f ∧ H1 = HZ) IZ ⟨.ref f, hs, rfl, rfl⟩) fun u s1 ⟨v, H1, I1, r1, q1⟩ => ?_)
  obtain ⟨ev, eH⟩ := q1
  subst ev
  rw [eH] at I1
  obtain rfl : u = Value.ref f := r1
  have of1 : s1.heap.get? f = some (PySem.W.kla_obj "<lambda>" (X.env.qual ++ "<lambda>") params body scope (cloFrom X.env.cells scope.names []) pm c' ctv) := I1.base.keep f _ hf hfn hfr (fun z => nomatch (show f ∈ ([] : List Addr) from z))
  refine PySem.W.callWith_F0 ⟨_, _, _, _, of1⟩ ?_
  have un : Un (frs X.stack) [] H HZ s.heap s1.heap := I1.base
  obtain ⟨⟨oc, vs, t, hoc, hdc, hvc⟩, _, _⟩ := I1.hok c' _ hc
  have rc : codeAny (model X.prog X.w) (X.A.deeper (envOfC qg sg s.heap.objs.size g cdg)) (.call (.ref f) ⟨[], []⟩) (CR (L2.CX X.prog X.w) (envOfC qg sg s.heap.objs.size g cdg :: X.stack) X.prog X.w HZ s1 Q (WE W σZ)) s1 := by
    refine PySem.W.kla_callFunE hr.depth of1 rfl L.co L.gen rfl ⟨c', oc, vs, t, rfl, hoc, hdc, hvc⟩ ?_
    rw [hbind]
    refine wpAny_pure (wpAny_newFunctionEnv (fun y hy => (L.own y hy).2) (fun y hy => absurd hy (by simp)) (fun h₁ hns hsb => ⟨I1.nolimit.fresh _ hsb, ?_⟩) L.kind)
    show codeAny _ _ (.expr body (lamEnv X scope s1.heap.objs.size f c')) _ _
    have kp : ∀ b o, s1.heap.get? b = some o → h₁.get? b = some o := fun b o e => hsb.extBut b o (Nat.ne_of_lt (Heap.lt_size e)) (Heap.get?_push_of_some _ e)
    have J : Inv (lamCx X (X.A.deeper (envOfC qg sg s.heap.objs.size g cdg)) (envOfC qg sg s.heap.objs.size g cdg :: X.stack) s1 HZ (WE W σZ) scope f c') [] σ HZ { s1 with heap := h₁, toks := s1.toks + ([] : List (Str × Value)).length } :=
      lam_start2 I L I1.env0 hr.hd un hns kp
    refine PySem.W.kla_codeExpr (wpAny_mono ((hbody (WE W σZ) _ _ s1 HZ (hr.deeper _)).run [] _ _ HZ Q J ht) (fun v s' hq => ?_) fun e s' hq => hq)
    obtain ⟨w', H', J', rv, q⟩ := hq
    exact ⟨w', H', J'.os, J'.bare, J'.base, J'.hok, rv, q⟩
  refine wpAny_call (codeAny_mono rc fun r s' hq => ?_)
  cases r with
  | error e => exact passAt tk σZ pinsZ HZ s1 e s' I1 hq
  | ok fl =>
    cases fl with
    | ret u => exact I1.after hq
    | next => exact False.elim hq
    | brk => exact False.elim hq
    | cont => exact False.elim hq
/-- behind the making of a lambda -/
theorem Rel.lam {K : PySem.W.Frag} {F : Hp} {ι : Adr} {st : Store} {H1 : Hp} {P : Addr} {q : Str} (R : Rel K F ι st H) (ht : tabsOk P q st = true) (e : ExtN H H1) (t : Tabs [(P, q)] H1) : Rel K F ι st H1 ∧ Step F ι H F ι H1 := by
  unfold tabsOk at ht
  rw [Bool.and_eq_true] at ht
  have all := List.all_eq_true.mp ht.1
  refine ⟨⟨fun a o h => e a o (R.sub a o h) (R.ntb a o h), R.ntb, R.down, R.len, R.nodup, R.apart, fun n a o h1 h2 => ?_⟩, ⟨Same.refl F, fun a o h => .inl h, ⟨[], by simp, fun _ z => by cases z⟩, fun a o h _ nt => e a o h nt.1, fun a nw o h => ?_⟩⟩
  · have x := R.obj n a o h1 h2
    cases o with
    | lst xs => obtain ⟨vs, q1, q2⟩ := x; exact ⟨vs, e _ _ q1 (fun _ z => by cases z), q2⟩
    | dic kvs => obtain ⟨us, q1, q2⟩ := x; exact ⟨us, e _ _ q1 (fun _ z => by cases z), q2⟩
    | dit kvs => obtain ⟨us, q1, q2⟩ := x; exact ⟨us, e _ _ q1 (fun _ z => by cases z), q2⟩
    | tab P' q' =>
      obtain ⟨rfl, x⟩ := x
      have := all _ (List.mem_of_getElem? h2)
      simp only [Bool.and_eq_true, decide_eq_true_eq] at this
      obtain ⟨e1, e2⟩ := this
      subst e1; subst e2
      exact ⟨rfl, t _ List.mem_cons_self⟩
  · exact fun od => nw o (e a o h od.1) od
theorem tabs_of {K : PySem.W.Frag} {F : Hp} {ι : Adr} {st : Store} {P : Addr} {q : Str} (R : Rel K F ι st H) (ht : tabsOk P q st = true) : Tabs [(P, q)] H := fun p hp => by
  have e : p = (P, q) := by simpa using hp
  subst e
  unfold tabsOk at ht
  rw [Bool.and_eq_true] at ht
  have all := List.all_eq_true.mp ht.1
  obtain ⟨o, ho, h⟩ := List.any_eq_true.mp ht.2
  obtain ⟨n, hn, eo⟩ := List.mem_iff_getElem.mp ho
  have hn' : n < ι.length := by rw [R.len]; exact hn
  have x := R.obj n ι[n] o (List.getElem?_eq_getElem hn') (by rw [List.getElem?_eq_getElem hn, eo])
  cases o with
  | lst xs => cases h
  | dic xs => cases h
  | dit xs => cases h
  | tab P' q' =>
    have := all _ ho
    simp only [Bool.and_eq_true, decide_eq_true_eq] at this
    obtain ⟨e1, e2⟩ := this
    subst e1; subst e2
    obtain ⟨ea, x⟩ := x
    rw [ea] at x
    exact x
/-- x(lambda: body) -/
theorem v_lam {E : EX} {x a : Str} {g c P : Addr} {k n : Nat} {pg : Arguments} {bg : List Stmt} {sg : Scope} {dV kV doc pm cdv ct oc : Value} {an od : Option Addr} {osl : Array (Option Value)} {Ng : List Str}
    {params : Arguments} {body : Expr} {scope : Scope} {gb : G} {bm : M Vl → SG} {q : Str} {p lpos pos : Pos} (hg : Gl X x) (hm : X.mg x = some (.ref g)) (hk : PySem.W.keepIn X.K (.ref g) = true)
    (lk : X.K.lookup g = some ⟨oc, od, .func (PySem.W.fnOf x x pg bg sg dV kV doc pm an cdv ct), osl⟩) (hcg : PySem.W.codeIn X.K cdv x = true) (hb : L2.Binds X.K (PySem.W.fnOf x x pg bg sg dV kV doc pm an cdv ct) [a] []) (Sg : FnScope Ng [a] sg) (hNg : Ng[0]? = some a) (hn : Ng.length = n) (hva : Vis sg a)
    (hq : X.env.qual ++ "<lambda>" = q) (TB : TabB X.base X.mg c P) (hcode : X.env.code = .ref c) (hr : Room (k + 2) X.A) (L : LamS X.env.scope scope) (hdef : defaultsOf params X.env = ([], []))
    (hbind : ∀ (q : Str) (cl : List (Str × Addr)) (pm cv ctv : Value), bindArgs (PySem.W.kla_fn "<lambda>" q params body scope cl pm cv ctv) ⟨[], []⟩ = pure [])
    (hbody : ∀ (A : Around) (outer : List PySem.Env) (s : Shared) (H : Hp) (E : XK) (f c' : Addr), Room k (A.deeper (lamEnv X scope s.heap.objs.size f c')) → PEv (lamCx X A outer s H E scope f c') (.fn E) body gb)
    (hG : ∀ (F0 : Hp) (ι0 : Adr) (f c' : Addr) (s : Shared) (H : Hp) (m : M Vl), Room (k + 1) (X.A.deeper (envOfC x sg s.heap.objs.size g cdv)) →
      (∀ (W : WX) (pn : List (Addr × Obj)) (xe : Value → Shared → Prop) (p1 p2 : Pos), Takes ((cxOf C8.CX0 X.prog X.w X.K X.mg X.base Ng x sg g cdv X.A X.stack s H C8.E0).tr pn xe) W →
        PEv ((cxOf C8.CX0 X.prog X.w X.K X.mg X.base Ng x sg g cdv X.A X.stack s H C8.E0).tr pn xe) (lamE W F0 ι0 f c' q) (.Call (.Name a p1) [] [] p2) (gAct m)) →
      PSsv ((cxOf C8.CX0 X.prog X.w X.K X.mg X.base Ng x sg g cdv X.A X.stack s H C8.E0).nox) (lamE (fun _ _ _ _ => False) F0 ι0 f c' q) bg (bm m))
    (hdb : (x == ("__debug__" : Str)) = false := by decide) (hd : (a == ("__debug__" : Str)) = false := by decide) (hcd : (a == ("__classdict__" : Str)) = false := by decide) :
    PEv X E (.Call (.Name x p) [.Lambda params body scope lpos] [] pos) (gLam P q n bm gb) := by
  subst hq
  refine ⟨fun pins s σ H Q I h => ?_⟩
  obtain ⟨F, ι, ρ, st, R, env, o⟩ := h
  unfold gLam at o
  by_cases ht : tabsOk P (X.env.qual ++ "<lambda>") st = true
  · rw [if_pos ht] at o
    refine wpAny_Call_Name_kw (ld_glob I hg hm ?_ hdb)
    refine PySem.W.callWith_K (h₀ := X.base) I.ok.mod.kin hk ?_ (by rfl) (by rfl)
    show wpAny _ _ (spliced ((false, eval (.Lambda params body scope lpos) X.env) :: backTo pos (starEach [] X.env))) _ _ s
    refine Calls.spliced_cons (lam_make2 (T := [(P, X.env.qual ++ "<lambda>")]) I TB hcode List.mem_cons_self (fun p hp _ => by have e : p = (P, X.env.qual ++ "<lambda>") := (by simpa using hp); rw [e]) (tabs_of R ht) hdef (L.has I.ok) fun f c' pm' ctv H1 s' I1 eN T1 hf hfn hfr hco => ?_)
    refine Calls.spliced_nil ⟨I1.kIn, ?_⟩
    obtain ⟨R1, s1⟩ := R.lam ht eN T1
    have o1 := o.later s1
    -- the code object is one of what stays
    have hni : c' ∉ ι := fun z => by
      obtain ⟨n, hn, e⟩ := List.mem_iff_getElem.mp z
      have e1 : ι[n]? = some c' := by rw [List.getElem?_eq_getElem hn, e]
      have hn' : n < st.length := by rw [← R1.len]; exact hn
      have x := R1.obj n c' st[n] e1 (List.getElem?_eq_getElem hn')
      cases eo : st[n] with
      | lst xs => rw [eo] at x; obtain ⟨vs, q, _⟩ := x; rw [hco] at q; unfold CodeO at q; cases q
      | dic xs => rw [eo] at x; obtain ⟨vs, q, _⟩ := x; rw [hco] at q; unfold CodeO at q; cases q
      | dit xs => rw [eo] at x; obtain ⟨vs, q, _⟩ := x; rw [hco] at q; unfold CodeO at q; cases q
      | tab P q => rw [eo] at x; obtain ⟨_, ps, q, _⟩ := x; rw [hco] at q; unfold CodeO at q; cases q
    obtain ⟨F2, R2, s2, g2, fd⟩ : ∃ F2, Rel X.K F2 ι st H1 ∧ Step F ι H F2 ι H1 ∧ Same F F2 ∧ F2 c' = some (CodeO c' (X.env.qual ++ "<lambda>")) := by
      cases ef : F c' with
      | none =>
        obtain ⟨R2, g2⟩ := R1.freeze hco ef hni codeO_ne
        refine ⟨_, R2, s1.freeze (fun o e od => ?_) g2, g2, upd_same⟩
        by_cases hc : H c' = none
        · rw [hc] at e; cases e
        · have e1 := eN c' o e od.1
          rw [hco] at e1
          cases e1
          exact od.2 _ rfl
      | some o' =>
        have z := R1.sub c' o' ef
        rw [hco] at z
        cases z
        exact ⟨F, R1, s1, Same.refl _, ef⟩
    have o2 : Out X.K X.mg E F2 ι H1 (relR X.K H1) (M.bind (noExc (fnM false n (bm (gb ρ)) [])) M.pure st) Q := by
      have o3 := (o.later s2).mono (rel' := relR X.K H1) (fun _ _ _ _ _ q => q.back s2) (fun _ _ q => q)
      unfold M.bind
      unfold noExc at o3 ⊢
      cases e : fnM false n (bm (gb ρ)) [] st with
      | ok a st' => rw [e] at o3; exact o3
      | exc a b st' => rw [e] at o3; exact o3.elim
      | stuck => rw [e] at o3; exact o3.elim
    have o4 : Out X.K X.mg (.fn fun _ _ _ => False) F2 ι H1 (relR X.K H1) (fnM false n (bm (gb ρ)) [] st) Q := Out.noExc o2 fun v F3 ι3 H3 x st3 s3 R3 r3 o5 => o5 v F3 ι3 H3 s3 R3 r3
    have rc : codeAny (model X.prog X.w) X.A (.call (.ref g) ⟨[.ref f], []⟩) (CR C8.CX0 X.stack X.prog X.w H1 s' Q C8.E0) s' := by
      refine run_ofS (N := Ng) (ps := [a]) (us := [.ref f]) (vs := [.ref f]) lk hcg Sg hr I1.env0 (hb s' [.ref f] I1.kIn rfl) (.cons rfl .nil) rfl fun hr' => ?_
      refine ⟨tsv X.K X.mg (lamE (fun _ _ _ _ => False) F2 ι f c' (X.env.qual ++ "<lambda>")) (bm (gb ρ)), (hG F2 ι f c' s' H1 (gb ρ) hr' fun W pn xe p1 p2 tk => ?_).nox, ?_⟩
      · refine pe_weak (pe_actS (i := 0) (tb := fun E => tev X.K X.mg (.fn E) gb) I1 L hf hfn hfr (hbind _ _ _ _ _) tk hr' (fun E A outer s H hr2 => hbody A outer s H E f c' hr2) hNg hva hd hcd) fun σ' H' Q' h' => ?_
        obtain ⟨F', ι', ρ', st', R', ⟨⟨k1, k2, k3, k4⟩, env'⟩, o'⟩ := h'
        have re : REnv X.K F' ι' ρ σ := ⟨env.2.1, fun i x e => let ⟨v, e', r⟩ := env.2.2 i x e; ⟨v, e', r.mono (g2.trans k3) k4⟩⟩
        exact ⟨k2, R'.sub _ _ k1, F', ι', ρ, st', R', ⟨trivial, re⟩, atE_out (E := lamE W F2 ι f c' (X.env.qual ++ "<lambda>")) ⟨⟨k1, k2, k3, k4⟩, env'⟩ o'⟩
      · have hl0 : 0 < Ng.length := by
          by_cases hz : 0 < Ng.length
          · exact hz
          · rw [List.getElem?_eq_none (by omega)] at hNg; cases hNg
        refine ⟨F2, ι, List.replicate n none, st, R2, ⟨⟨fd, ?_, Same.refl _, fun _ _ e => e⟩, ?_⟩, ?_⟩
        · unfold L2.start
          simp
        · refine ⟨?_, fun i x e => ?_⟩
          · unfold L2.start
            simp
            omega
          · rw [List.getElem?_replicate] at e
            split at e <;> cases e
        · have o6 := fnM_out R2 o4
          rw [List.map_nil, List.nil_append, List.length_nil, Nat.sub_zero] at o6
          generalize bm (gb ρ) (List.replicate n none) st = r at o6 ⊢
          cases r with
          | stuck => exact o6
          | exc e ρ' st' => exact fun c dx σ' F' ι' H' s' R' re q => o6 c dx σ' F' ι' H' s' R' ⟨trivial, re.2⟩ q
          | ok fl st' =>
            intro cc F' ι' H' s' R' r'
            refine o6 cc F' ι' H' s' R' ?_
            cases cc <;> cases fl <;> first | exact r' | exact ⟨trivial, r'.2⟩
    refine wpAny_call (codeAny_mono rc fun r s2 hq => ?_)
    cases r with
    | error e => exact (show False from hq).elim
    | ok fl =>
      cases fl with
      | ret u => exact I1.after hq
      | next => exact False.elim hq
      | brk => exact False.elim hq
      | cont => exact False.elim hq
  · rw [if_neg ht] at o
    exact o.elim
end
end Zv
set_option Elab.async false
set_option linter.all false
set_option maxRecDepth 100000
set_option maxHeartbeats 4000000
/-! Z15: enumerate of a list, of a tuple; zip of two lists, of two tuples. -/
namespace PySem
open Sem (wp)
theorem zMeetsEnum {v : Value} {o : Obj} {H : Heap → Prop} (B : Begins v o H) :
    Meets (Builtin.«enumerate.__new__» ⟨[.type "enumerate", v], []⟩) (fun _ R s => H s.heap ∧
      R (.ok (.ret (.ref (s.heap.push o).objs.size))) { s with heap := (s.heap.push o).push { cls := .type "enumerate", data := .fields #[.none, .bool false, .ref s.heap.objs.size, rawInt 0, .none, .none] } }) :=
  .of_wp fun prog w A R s h => by
    obtain ⟨hp, g, d, tk, os⟩ := s; obtain ⟨h1, h⟩ := h
    have hsub := sub_enumerate
    have q1 : ∀ {A' : Around} {E : Value → Shared → Prop} {Q : Value → Shared → Prop}, Q (.ref hp.objs.size) ⟨hp.push o, g, d, tk, os⟩ → wpAny (model prog w) A' (pyIter v) Q E ⟨hp, g, d, tk, os⟩ :=
      fun q => B.iter prog w _ _ ⟨hp, g, d, tk, os⟩ _ h1 q
    wp_walk using q1
    refine wpAny_stack_any fun st => wpAny_pure ?_
    split
    · rename_i c _ _ _ _ _
      cases (c == Value.type "enumerate")
      · wp_walk using q1
        exact ⟨_, rfl, h⟩
      · wp_walk using q1
        exact ⟨_, rfl, h⟩
    · wp_walk using q1
      exact ⟨_, rfl, h⟩
theorem zEnumBegins {prog : Program} {w : World} {A : Around} {E : Value → Shared → Prop} {s : Shared} {v : Value} {o : Obj} {H : Heap → Prop} {Q : Value → Shared → Prop} (B : Begins v o H) (h1 : H s.heap)
    (h : ∀ h', IsEnum h' (s.heap.objs.size + 1) s.heap.objs.size 0 .none → h'.get? s.heap.objs.size = some o → h'.objs.size = s.heap.objs.size + 2 →
      (∀ b o, s.heap.get? b = some o → h'.get? b = some o) → Q (.ref (s.heap.objs.size + 1)) { s with heap := h' }) :
    wpAny (model prog w) A (call (.type "enumerate") [v]) Q E s := by
  refine callType_new F.called_enumerate (by decide) (F.typeCall_enumerate_1 _) (F.newCall_enumerate_1 _) (fun obj => F.args_object_init_2 obj _) F.entry_enumerate_new
    (zMeetsEnum B) ⟨h1, ?_⟩
  have hz : (s.heap.push o).objs.size = s.heap.objs.size + 1 := Heap.size_push ..
  show _ ∧ _
  rw [hz]
  have he : IsEnum ((s.heap.push o).push { cls := .type "enumerate", data := .fields #[.none, .bool false, .ref s.heap.objs.size, rawInt 0, .none, .none] }) (s.heap.objs.size + 1) s.heap.objs.size 0 .none := by
    have := Heap.get?_push_size (s.heap.push o) (o := { cls := .type "enumerate", data := .fields #[.none, .bool false, .ref s.heap.objs.size, rawInt 0, .none, .none] }) rfl
    rw [hz] at this; exact this
  refine ⟨⟨_, he, rfl⟩, h _ he (Heap.get?_push_of_some _ (Heap.get?_push_size _ B.free)) (by rw [Heap.size_push, hz]) fun b o x => Heap.get?_push_of_some _ (Heap.get?_push_of_some _ x)⟩
end PySem
namespace Zv
open PySem PySem.Spec PyProof.Rows L2
variable {K : PySem.W.Frag} {mg : Str → Option Value} {E : EX} {F F' F1 H H' H0 H1 : Hp} {ι ι' ι1 : Adr} {st st' st1 : Store} {v w : V} {a b : Vl}
/-- the tuple at a, each item in a new pair -/
def IteT (K : PySem.W.Frag) (a : Addr) : It :=
  ⟨fun i H => ∃ (xs : List V) (x : V), SqT K H a xs ∧ xs[i]? = some x, fun i H v H' => ∃ T x, v = .ref T ∧ H T = none ∧ H' = upd H T (.tup [.int (i : Nat), x]) ∧ ∀ xs, SqT K H a xs → xs[i]? = some x, fun i H => ∃ xs : List V, SqT K H a xs ∧ xs.length = i⟩
theorem turn_enumT {P : Program} {w : World} {K : PySem.W.Frag} {elts : List Expr} {kk : Nat} {tpos : Pos} (a e it : Addr) :
    Turn P w K (.Tuple elts kk tpos) (IteT K a) [e, it] e (fun i h => (∃ old, IsEnum h e it ((i : Nat) : Int) old) ∧ h.IsTupleIter it a i ∧ e ≠ it ∧ a ≠ it ∧ e ≠ a) where
  mem := by simp
  obj := fun i h st b hb => by
    obtain ⟨⟨old, he⟩, ⟨o, ho, hc, hd⟩, _⟩ := st
    have e' : b = e ∨ b = it := by simpa using hb
    rcases e' with z | z
    · rw [z]; exact ⟨_, he, fun v q => nomatch q⟩
    · rw [z]; exact ⟨o, ho, fun v q => by rw [hd] at q; cases q⟩
  keep := fun i h h' st k => let ⟨⟨old, he⟩, hi, hne⟩ := st; ⟨⟨old, k e (by simp) _ he⟩, hi.at fun o q => k it (by simp) o q, hne⟩
  item := by
    intro X hP hw hK hc i pins s σ H E I hf st hg
    subst hP hw hK
    obtain ⟨⟨old, he⟩, hit, hne, hai, hea⟩ := st
    obtain ⟨xs, x, hq, hx⟩ := hg
    obtain ⟨its, rv, p, hz⟩ := I.tuple hq
    obtain ⟨u, hu, ru⟩ := rv.get hx
    have hel : e < s.heap.objs.size := Heap.lt_size he
    have hil : it < s.heap.objs.size := by obtain ⟨_, q, _⟩ := hit; exact Heap.lt_size q
    have hlt : i < its.toArray.size := by
      rw [List.size_toArray]
      exact (List.getElem?_eq_some_iff.mp hu).1
    refine wpAny_pyNext_enum_itemC (Draws.tuple (show X.A.in1.handled = none from I.ok.hd hc) it a hai its.toArray) he ⟨hit, p⟩ hlt hne (by simp [hne, hea]) fun u' h' tk hP ho hst' hT hsz hk => ?_
    have eu : u' = u := by
      rw [List.getElem?_toArray, hu] at hP
      exact (Option.some.inj hP).symm
    subst eu
    refine ⟨_, rfl, wpAny_letOwnedTupleGo_enum (s := { s with heap := h', toks := tk + 1 }) ho fun h'' he' sb => ?_⟩
    have hT2 : h''.get? s.heap.objs.size = some { cls := .type "tuple", data := .seq #[.int i tk, u'] } := (sb.2 _ (Nat.ne_of_gt hel)).trans hT
    have new : ObjOk X.prog X.w (upd H s.heap.objs.size (.tup [.int (i : Nat), x])) h'' s.heap.objs.size (.tup [.int (i : Nat), x]) :=
      ⟨by show 2 ≤ sizeLine; decide, [.int i tk, u'], .cons ⟨_, rfl⟩ (.cons ru .nil), ⟨_, hT2, rfl, _, rfl⟩⟩
    have I1 : Inv X pins σ (upd H s.heap.objs.size (.tup [.int (i : Nat), x])) { s with heap := h'', toks := tk + 1 } :=
      I.turnedNew (ch := [e, it]) (fun b ob hb q => (sb.2 b (fun z => hb (by simp [z]))).trans (hk b ob (fun z => hb (by simp [z])) (fun z => hb (by simp [z])) q)) hf (Nat.le_refl _) new
    refine ⟨.ref s.heap.objs.size, _, I1, rfl, ⟨_, x, rfl, I.hok.fresh (Nat.le_refl _), rfl, fun ys hy => by rw [I.tuple_inj hy hq]; exact hx⟩, ⟨⟨u', ?_⟩, hst'.1.at fun o q => (sb.2 it (Ne.symm hne)).trans q, hne, hai, hea⟩, fun b hb => ?_⟩
    · have e1 : ((i + 1 : Nat) : Int) = (i : Int) + 1 := by omega
      rw [e1]; exact he'
    · have hb' : b < s.heap.objs.size := by
        have e' : b = e ∨ b = it := by simpa using hb
        rcases e' with z | z
        · rw [z]; exact hel
        · rw [z]; exact hil
      rw [upd_ne (Nat.ne_of_lt hb')]
      exact (hf b hb).1
  done := by
    intro X hP hw hK hc i pins s σ H E I hf st hg
    subst hP hw hK
    obtain ⟨⟨old, he⟩, hit, hne, hai, hea⟩ := st
    obtain ⟨xs, hq, hx⟩ := hg
    obtain ⟨its, rv, p, hz⟩ := I.tuple hq
    obtain ⟨f0, f1, f2, f3, f4, f5⟩ := hf it (by simp)
    have hl := rv.length
    have hn : i = its.toArray.size := by rw [List.size_toArray, ← hl, hx]
    exact wpAny_pyNext_enum_endD (Draws.tuple (show X.A.in1.handled = none from I.ok.hd hc) it a hai its.toArray) he (by rw [← hn]; exact ⟨hit, p⟩) fun h' eb => ⟨rfl, I.turned (t' := s.toks) (fun b o hb q => eb b o hb q) f0 f1 f3 f4 f5⟩
  self := fun A i s Q E st h => let ⟨⟨_, he⟩, _⟩ := st; wpAny_pyIter_enum he h
def iEnumT (K : PySem.W.Frag) (ta : TA) : TI := fun σ H R => ta σ H fun vs H1 => ∃ a xs, vs = [.ref a] ∧ ((SqL K H1 a xs ∧ R (Ite K a) H1) ∨ (SqT K H1 a xs ∧ R (IteT K a) H1))
theorem pi_enumA {X : Cx} {e : Expr} {ta : TA} {p pos tpos : Pos} {elts : List Expr} {kk : Nat} (hg : Gl X "enumerate") (hm : X.mg "enumerate" = none) (ha : PA X [e] ta) (hs : starEach [e] X.env = [(false, eval e X.env)] := by rfl) :
    PI X (.Tuple elts kk tpos) (.Call (.Name "enumerate" p) [e] [] pos) (iEnumT X.K ta) := by
  refine ⟨fun pins s σ H R I h => ?_⟩
  refine Call_ (ld_blt I hg hm boot_enumerate (PyProof.Rows.callWith_type1 (thn (ha.run pos pins s σ H _ I h) fun us s1 ⟨vs, H1, I1, r1, q1⟩ => ?_) hs rfl))
  obtain ⟨a, xs, ex, q1⟩ := q1
  subst ex
  cases r1 with
  | cons r rr =>
    cases rr
    cases r
    rcases q1 with ⟨hq, q⟩ | ⟨hq, q⟩
    · obtain ⟨its, rv, p', hz⟩ := I1.list hq
      refine call_enumerate_list p'.isList fun h' he hit hsz hk => wpAny_pyIter_enum he ?_
      have I2 : Inv X pins σ H1 { s1 with heap := h' } := I1.kept (t' := s1.toks) hk
      refine ⟨s1.heap.objs.size + 1, [s1.heap.objs.size + 1, s1.heap.objs.size], _, _, H1, rfl, I2, turn_enum a (s1.heap.objs.size + 1) s1.heap.objs.size, ⟨⟨.none, he⟩, hit, Nat.succ_ne_self _⟩, fun b hb => ?_, q⟩
      have e' : b = s1.heap.objs.size + 1 ∨ b = s1.heap.objs.size := by simpa using hb
      have hle : s1.heap.objs.size ≤ b := by
        rcases e' with z | z
        · rw [z]; exact Nat.le_add_right _ _
        · rw [z]; exact Nat.le_refl _
      exact I1.fpOk hle (I1.hok.fresh hle)
    · obtain ⟨its, rv, p', hz⟩ := I1.tuple hq
      obtain ⟨oa, hoa, _⟩ := id p'
      have hal : a < s1.heap.objs.size := Heap.lt_size hoa
      refine zEnumBegins (begins_tuple a its.toArray) p' fun h' he hit hsz hk => wpAny_pyIter_enum he ?_
      have I2 : Inv X pins σ H1 { s1 with heap := h' } := I1.kept (t' := s1.toks) hk
      refine ⟨s1.heap.objs.size + 1, [s1.heap.objs.size + 1, s1.heap.objs.size], _, _, H1, rfl, I2, turn_enumT a (s1.heap.objs.size + 1) s1.heap.objs.size, ⟨⟨.none, he⟩, ⟨_, hit, rfl, rfl⟩, Nat.succ_ne_self _, Nat.ne_of_lt hal, Nat.ne_of_gt (Nat.lt_succ_of_lt hal)⟩, fun b hb => ?_, q⟩
      have e' : b = s1.heap.objs.size + 1 ∨ b = s1.heap.objs.size := by simpa using hb
      have hle : s1.heap.objs.size ≤ b := by
        rcases e' with z | z
        · rw [z]; exact Nat.le_add_right _ _
        · rw [z]; exact Nat.le_refl _
      exact I1.fpOk hle (I1.hok.fresh hle)

/-! ### the mirror's walks -/
def seqL : Vl → Option (List PyData)
  | .d (.list xs) => some xs
  | _ => none
def enumD (xs : List PyData) : List PyData := xs.mapIdx fun i x => .tuple [.int (i : Nat), x]
def iEnu (gs : GA) : GI := fun ρ => M.bind (gs ρ) fun vs => match vs with
  | [.d (.list xs)] => M.pure (enumD xs)
  | [.d (.tuple xs)] => M.pure (enumD xs)
  | _ => M.stuck
theorem walk_new {J : It} {ds : List PyData} (hs : ∀ (F' : Hp) (ι' : Adr) (H' : Hp), Step F ι H F' ι' H' → (∃ st', Rel K F' ι' st' H') → J.stop ds.length H')
    (hg : ∀ (i : Nat) (d : PyData) (F' : Hp) (ι' : Adr) (H' : Hp), ds[i]? = some d → Step F ι H F' ι' H' → (∃ st', Rel K F' ι' st' H') → J.go i H' ∧ ∀ x H'', J.yld i H' x H'' → ∃ (T : Addr) (us : List V) (es : List PyData), x = .ref T ∧ H' T = none ∧ H'' = upd H' T (.tup us) ∧ d = .tuple es ∧ DnAll K F' us es) : Walk K J F ι H ds := fun i F' ι' H' s R => by
  refine ⟨fun e => e ▸ hs F' ι' H' s R, fun d hd => ?_⟩
  obtain ⟨h1, h2⟩ := hg i d F' ι' H' hd s R
  refine ⟨h1, fun x H'' y => ?_⟩
  obtain ⟨T, us, es, rfl, hT, rfl, rfl, z⟩ := h2 x H'' y
  obtain ⟨st', R⟩ := R
  obtain ⟨R1, s1⟩ := R.lay (o := .tup us) hT
  exact ⟨_, s1, fun st2 R2 => (R2.lay (o := .tup us) hT).1, .tup upd_same (DnAll.mono s1.grow _ _ z)⟩
theorem enumD_get {xs : List PyData} {i : Nat} {d : PyData} (h : (enumD xs)[i]? = some d) : ∃ x, xs[i]? = some x ∧ d = .tuple [.int (i : Nat), x] := by
  unfold enumD at h
  rw [List.getElem?_mapIdx] at h
  cases e : xs[i]? with
  | none => rw [e] at h; cases h
  | some x => rw [e] at h; exact ⟨x, rfl, (Option.some.inj h).symm⟩
section
variable {X : Cx} {pos p tpos : Pos} {e e2 : Expr} {gs : GA} {elts : List Expr} {kk : Nat}
theorem iv_enum (hg : Gl X "enumerate") (hm : X.mg "enumerate" = none) (ha : PAv X E [e] gs) (hs : starEach [e] X.env = [(false, eval e X.env)] := by rfl) : PIv X E (.Tuple elts kk tpos) (.Call (.Name "enumerate" p) [e] [] pos) (iEnu gs) := pi_weak (pi_enumA hg hm ha hs) fun σ H Q h => by
  obtain ⟨F, ι, ρ, st, R, env, o⟩ := h
  refine ⟨F, ι, ρ, st, R, env, Out.bind o fun vs F1 ι1 H1 xs st1 s1 R1 r1 o1 => ?_⟩
  split at o1
  · cases r1 with
    | cons q r1 =>
      cases r1
      cases q with
      | @lst a vs ds hF z =>
        refine ⟨_, vs, rfl, .inl ⟨SqL.of (R1.sub _ _ hF), o1 _ F1 ι1 H1 s1 R1 (walk_new (fun F' ι' H' s ⟨st', R'⟩ => ⟨vs, SqL.of (R'.sub _ _ (s.grow _ _ hF)), by unfold enumD; rw [List.length_mapIdx, z.len]; exact Nat.le_refl _⟩) fun i d F' ι' H' hd s ⟨st', R'⟩ => ?_)⟩⟩
        obtain ⟨x, hx, rfl⟩ := enumD_get hd
        obtain ⟨u, hu, q⟩ := z.get hx
        have hH : SqL X.K H' a vs := SqL.of (R'.sub _ _ (s.grow _ _ hF))
        refine ⟨⟨vs, u, hH, hu⟩, fun y H'' ⟨T, u', e1, e2, e3, e4⟩ => ?_⟩
        have e5 := e4 vs hH
        rw [hu] at e5
        cases e5
        exact ⟨T, _, _, e1, e2, e3, rfl, .cons (.int _) (.cons (Dn.mono s.grow _ _ q) .nil)⟩
  · cases r1 with
    | cons q r1 =>
      cases r1
      cases q with
      | @tup a vs ds hF z =>
        refine ⟨_, vs, rfl, .inr ⟨SqT.of (R1.sub _ _ hF), o1 _ F1 ι1 H1 s1 R1 (walk_new (fun F' ι' H' s ⟨st', R'⟩ => ⟨vs, SqT.of (R'.sub _ _ (s.grow _ _ hF)), by unfold enumD; rw [List.length_mapIdx, z.len]⟩) fun i d F' ι' H' hd s ⟨st', R'⟩ => ?_)⟩⟩
        obtain ⟨x, hx, rfl⟩ := enumD_get hd
        obtain ⟨u, hu, q⟩ := z.get hx
        have hH : SqT X.K H' a vs := SqT.of (R'.sub _ _ (s.grow _ _ hF))
        refine ⟨⟨vs, u, hH, hu⟩, fun y H'' ⟨T, u', e1, e2, e3, e4⟩ => ?_⟩
        have e5 := e4 vs hH
        rw [hu] at e5
        cases e5
        exact ⟨T, _, _, e1, e2, e3, rfl, .cons (.int _) (.cons (Dn.mono s.grow _ _ q) .nil)⟩
  · exact o1.elim
def zipD (xs ys : List PyData) : List PyData := (xs.zip ys).map fun p => .tuple [p.1, p.2]
def iZip (gs : GA) : GI := fun ρ => M.bind (gs ρ) fun vs => match vs with
  | [.d (.list xs), .d (.list ys)] => M.pure (zipD xs ys)
  | [.d (.tuple xs), .d (.tuple ys)] => M.pure (zipD xs ys)
  | _ => M.stuck
theorem zipD_get {xs ys : List PyData} {i : Nat} {d : PyData} (h : (zipD xs ys)[i]? = some d) : ∃ x y, xs[i]? = some x ∧ ys[i]? = some y ∧ d = .tuple [x, y] := by
  unfold zipD at h
  rw [List.getElem?_map] at h
  obtain ⟨p, e1, e2⟩ := Option.map_eq_some_iff.mp h
  rw [List.getElem?_zip_eq_some] at e1
  exact ⟨p.1, p.2, e1.1, e1.2, e2.symm⟩
theorem zipD_len {xs ys : List PyData} {vs ws : List V} (h1 : vs.length = xs.length) (h2 : ws.length = ys.length) : vs.length ≤ (zipD xs ys).length ∨ ws.length ≤ (zipD xs ys).length := by
  unfold zipD
  rw [List.length_map, List.length_zip]
  omega
theorem iv_zip (hg : Gl X "zip") (hm : X.mg "zip" = none) (ha : PAv X E [e, e2] gs)
    (hs : starEach [e, e2] X.env = (false, eval e X.env) :: starEach [e2] X.env := by rfl) (hpl : (backTo pos (starEach [e2] X.env)).any (·.1) = false := by rfl) : PIv X E (.Tuple elts kk tpos) (.Call (.Name "zip" p) [e, e2] [] pos) (iZip gs) := pi_weak (RZ.pi_zipA hg hm ha hs hpl) fun σ H Q h => by
  obtain ⟨F, ι, ρ, st, R, env, o⟩ := h
  refine ⟨F, ι, ρ, st, R, env, Out.bind o fun vs F1 ι1 H1 xs st1 s1 R1 r1 o1 => ?_⟩
  split at o1
  · cases r1 with
    | cons q r1 =>
      cases r1 with
      | cons q' r1 =>
        cases r1
        cases q with
        | @lst a vs ds hF z =>
          cases q' with
          | @lst a' vs' ds' hF' z' =>
            refine ⟨_, _, vs, vs', rfl, .inl ⟨SqL.of (R1.sub _ _ hF), SqL.of (R1.sub _ _ hF'), o1 _ F1 ι1 H1 s1 R1 (walk_new (fun F' ι' H' s ⟨st', R'⟩ => ⟨vs, vs', SqL.of (R'.sub _ _ (s.grow _ _ hF)), SqL.of (R'.sub _ _ (s.grow _ _ hF')), zipD_len z.len z'.len⟩) fun i d F' ι' H' hd s ⟨st', R'⟩ => ?_)⟩⟩
            obtain ⟨x, y, hx, hy, rfl⟩ := zipD_get hd
            obtain ⟨u, hu, q⟩ := z.get hx
            obtain ⟨u', hu', q'⟩ := z'.get hy
            have hH : SqL X.K H' a vs := SqL.of (R'.sub _ _ (s.grow _ _ hF))
            have hH' : SqL X.K H' a' vs' := SqL.of (R'.sub _ _ (s.grow _ _ hF'))
            refine ⟨⟨vs, vs', u, u', hH, hH', hu, hu'⟩, fun y H'' ⟨T, x1, y1, e1, e2, e3, e4, e5⟩ => ?_⟩
            have e4 := e4 vs hH
            rw [hu] at e4
            cases e4
            have e5 := e5 vs' hH'
            rw [hu'] at e5
            cases e5
            exact ⟨T, _, _, e1, e2, e3, rfl, .cons (Dn.mono s.grow _ _ q) (.cons (Dn.mono s.grow _ _ q') .nil)⟩
  · cases r1 with
    | cons q r1 =>
      cases r1 with
      | cons q' r1 =>
        cases r1
        cases q with
        | @tup a vs ds hF z =>
          cases q' with
          | @tup a' vs' ds' hF' z' =>
            refine ⟨_, _, vs, vs', rfl, .inr ⟨SqT.of (R1.sub _ _ hF), SqT.of (R1.sub _ _ hF'), o1 _ F1 ι1 H1 s1 R1 (walk_new (fun F' ι' H' s ⟨st', R'⟩ => ⟨vs, vs', SqT.of (R'.sub _ _ (s.grow _ _ hF)), SqT.of (R'.sub _ _ (s.grow _ _ hF')), zipD_len z.len z'.len⟩) fun i d F' ι' H' hd s ⟨st', R'⟩ => ?_)⟩⟩
            obtain ⟨x, y, hx, hy, rfl⟩ := zipD_get hd
            obtain ⟨u, hu, q⟩ := z.get hx
            obtain ⟨u', hu', q'⟩ := z'.get hy
            have hH : SqT X.K H' a vs := SqT.of (R'.sub _ _ (s.grow _ _ hF))
            have hH' : SqT X.K H' a' vs' := SqT.of (R'.sub _ _ (s.grow _ _ hF'))
            refine ⟨⟨vs, vs', u, u', hH, hH', hu, hu'⟩, fun y H'' ⟨T, x1, y1, e1, e2, e3, e4, e5⟩ => ?_⟩
            have e4 := e4 vs hH
            rw [hu] at e4
            cases e4
            have e5 := e5 vs' hH'
            rw [hu'] at e5
            cases e5
            exact ⟨T, _, _, e1, e2, e3, rfl, .cons (Dn.mono s.grow _ _ q) (.cons (Dn.mono s.grow _ _ q') .nil)⟩
  · exact o1.elim
end
end Zv
set_option Elab.async false
set_option linter.all false
set_option maxRecDepth 100000
set_option maxHeartbeats 4000000
/-! Z16: list(zip(x, y)). -/
namespace PySem
open Sem (wp)
theorem zne {a b c : Addr} (h : b ≤ c) (h2 : c < a) : a ≠ b := fun e => by subst e; exact Nat.lt_irrefl _ (Nat.lt_of_lt_of_le h2 h)
section
variable {prog : Program} {w : World} {A : Around} {E : Value → Shared → Prop} {s : Shared} {z TI TO i1 i2 : Addr} {fp1 fp2 : List Addr} {n1 n2 i : Nat} {P1 P2 : Nat → Value → Prop} {St1 St2 : Nat → Heap → Prop} {a1 a2 : Value}
theorem zHeldItem {T : Addr} {f : Bool} {oT : Obj} {Q : Value → Shared → Prop} (S : ZipSep2 z TI TO i1 i2 fp1 fp2) (D1 : Draws prog w A i1 fp1 n1 P1 St1) (D2 : Draws prog w A i2 fp2 n2 P2 St2)
    (hz : IsZipHeld s.heap z TI TO T f) (hT : s.heap.get? T = some oT) (hTI : IsTupOf2 s.heap TI (.ref i1) (.ref i2)) (st1 : St1 i s.heap) (st2 : St2 i s.heap) (hlt1 : i < n1) (hlt2 : i < n2)
    (hQ : ∀ x1 x2 h' tk, P1 i x1 → P2 i x2 → IsZipHeld h' z TI TO T true → St1 (i + 1) h' → St2 (i + 1) h' → IsTupOf2 h' s.heap.objs.size x1 x2 → h'.objs.size = s.heap.objs.size + 1 →
      (∀ c o, c ≠ z → c ≠ i1 → c ≠ i2 → s.heap.get? c = some o → h'.get? c = some o) → Q (.ref s.heap.objs.size) { s with heap := h', toks := tk }) :
    wpAny (model prog w) A (Builtin.«zip.__next__» ⟨[.ref z], []⟩) (fun fin s' => ∃ v, fin = .done (.ret v) ∧ Q v s') E s := by
  show wpAny _ _ (field (.ref z) 2 >>= _) _ _ _
  refine wpAny_bind (wpAny_field hz rfl (x := .bool false) rfl ?_)
  show wpAny _ _ (field (.ref z) 3 >>= _) _ _ _
  refine wpAny_bind (wpAny_field hz rfl (x := .ref TI) rfl ?_)
  refine wpAny_bind (wpAny_seqItems hTI rfl ?_)
  show wpAny _ _ (Builtin.SmallTypes.ownedTupleIsFree (.ref z) >>= _) _ _ _
  refine wpAny_bind (wpAny_tupleHeld_zip hz hT fun h₁ hz₁ hs₁ => ?_)
  simp only [Bool.false_eq_true, if_false]
  refine wpAny_bind ?_
  rw [← Array.forIn_toList]
  simp only [List.forIn_cons, List.forIn_nil]
  refine wpAny_bind (wpAny_bind (wpAny_holding ?_))
  show wpAny _ _ (Builtin.SmallTypes.nextOf (.ref i1) >>= _) _ _ _
  refine wpAny_bind (D1.item i { s with heap := h₁ } _ _ hlt1 (D1.over st1 hs₁ S.zf1) fun x1 h₂ tk1 hx1 sn1 hs₂ => wpAny_pure ?_)
  refine wpAny_pure ?_
  refine wpAny_bind (wpAny_bind (wpAny_holding ?_))
  show wpAny _ _ (Builtin.SmallTypes.nextOf (.ref i2) >>= _) _ _ _
  refine wpAny_bind (D2.item i { s with heap := h₂, toks := tk1 } _ _ hlt2 (D2.over (D2.over st2 hs₁ S.zf2) hs₂ S.sep1_2) fun x2 h₃ tk2 hx2 sn2 hs₃ => wpAny_pure ?_)
  refine wpAny_pure (wpAny_pure ?_)
  replace hs₃ : Heap.SameBut i2 h₂ h₃ := hs₃
  replace hs₂ : Heap.SameBut i1 h₁ h₂ := hs₂
  show wpAny _ _ (newTuple [x1, x2] >>= _) _ _ _
  refine wpAny_bind (wpAny_newTuple ?_)
  have hsz : h₃.objs.size = s.heap.objs.size := by rw [hs₃.1, hs₂.1, hs₁.1]
  have hz₃ : IsZipHeld h₃ z TI TO T true := hs₃.extBut _ _ S.zi2 (hs₂.extBut _ _ S.zi1 hz₁)
  have hk : ∀ c o, c ≠ z → c ≠ i1 → c ≠ i2 → s.heap.get? c = some o → h₃.get? c = some o := fun c o c1 c2 c3 e => hs₃.extBut _ _ c3 (hs₂.extBut _ _ c2 (hs₁.extBut _ _ c1 e))
  have hj1 : St1 (i + 1) h₃ := D1.over sn1 hs₃ S.sep2_1
  refine wpAny_pure ⟨_, rfl, ?_⟩
  show Q (.ref h₃.objs.size) _
  have hp : IsTupOf2 (h₃.push { cls := .type "tuple", data := .seq #[x1, x2] }) h₃.objs.size x1 x2 := Heap.get?_push_size _ rfl
  have hz4 : (h₃.push { cls := .type "tuple", data := .seq #[x1, x2] }).objs.size = h₃.objs.size + 1 := Heap.size_push ..
  rw [hsz] at hp hz4 ⊢
  exact hQ x1 x2 _ tk2 hx1 hx2 (Heap.get?_push_of_some _ hz₃) (D1.frame _ _ _ hj1 fun b _ o e => Heap.get?_push_of_some _ e) (D2.frame _ _ _ sn2 fun b _ o e => Heap.get?_push_of_some _ e) hp hz4 fun c o c1 c2 c3 e => Heap.get?_push_of_some _ (hk c o c1 c2 c3 e)
theorem zHeldEnd {T : Addr} {f : Bool} {oT : Obj} {Q : Fin → Shared → Prop} (S : ZipSep2 z TI TO i1 i2 fp1 fp2) (D1 : Draws prog w A i1 fp1 n1 P1 St1) (D2 : Draws prog w A i2 fp2 n2 P2 St2)
    (hz : IsZipHeld s.heap z TI TO T f) (hT : s.heap.get? T = some oT) (hTI : IsTupOf2 s.heap TI (.ref i1) (.ref i2)) (st1 : St1 i s.heap) (st2 : St2 i s.heap) (hle1 : i ≤ n1) (hle2 : i ≤ n2) (hend : i = n1 ∨ i = n2)
    (hE : ∀ h' tk e, (∀ c o, c ≠ z → c ≠ i1 → c ≠ i2 → s.heap.get? c = some o → h'.get? c = some o) → (∃ o, h'.get? e = some o ∧ o.cls = .type "StopIteration") → E (.ref e) { s with heap := h', toks := tk }) :
    wpAny (model prog w) A (Builtin.«zip.__next__» ⟨[.ref z], []⟩) Q E s := by
  show wpAny _ _ (field (.ref z) 2 >>= _) _ _ _
  refine wpAny_bind (wpAny_field hz rfl (x := .bool false) rfl ?_)
  show wpAny _ _ (field (.ref z) 3 >>= _) _ _ _
  refine wpAny_bind (wpAny_field hz rfl (x := .ref TI) rfl ?_)
  refine wpAny_bind (wpAny_seqItems hTI rfl ?_)
  show wpAny _ _ (Builtin.SmallTypes.ownedTupleIsFree (.ref z) >>= _) _ _ _
  refine wpAny_bind (wpAny_tupleHeld_zip hz hT fun h₁ hz₁ hs₁ => ?_)
  simp only [Bool.false_eq_true, if_false]
  refine wpAny_bind ?_
  rw [← Array.forIn_toList]
  simp only [List.forIn_cons, List.forIn_nil]
  refine wpAny_bind (wpAny_bind (wpAny_holding ?_))
  show wpAny _ _ (Builtin.SmallTypes.nextOf (.ref i1) >>= _) _ _ _
  by_cases hlt1 : i < n1
  · refine wpAny_bind (D1.item i { s with heap := h₁ } _ _ hlt1 (D1.over st1 hs₁ S.zf1) fun x1 h₂ tk1 hx1 sn1 hs₂ => wpAny_pure ?_)
    replace hs₂ : Heap.SameBut i1 h₁ h₂ := hs₂
    refine wpAny_pure ?_
    refine wpAny_bind (wpAny_bind (wpAny_holding ?_))
    show wpAny _ _ (Builtin.SmallTypes.nextOf (.ref i2) >>= _) _ _ _
    have hi2 : i = n2 := by omega
    refine wpAny_bind (D2.done { s with heap := h₂, toks := tk1 } _ _ (by rw [← hi2]; exact D2.over (D2.over st2 hs₁ S.zf2) hs₂ S.sep1_2) fun q e hq he => ?_)
    replace hq : Heap.ExtBut i2 h₂ q := hq
    exact hE q tk1 e (fun c o cz c1 c2 x => hq _ _ c2 (hs₂.extBut _ _ c1 (hs₁.extBut _ _ cz x))) he
  · have hi1 : i = n1 := by omega
    refine wpAny_bind (D1.done { s with heap := h₁ } _ _ (by rw [← hi1]; exact D1.over st1 hs₁ S.zf1) fun q e hq he => ?_)
    replace hq : Heap.ExtBut i1 h₁ q := hq
    exact hE q s.toks e (fun c o cz c1 c2 x => hq _ _ c1 (hs₁.extBut _ _ cz x)) he
theorem zNextHeld {T : Addr} {f : Bool} {oT : Obj} {Q : Option Value → Shared → Prop} (S : ZipSep2 z TI TO i1 i2 fp1 fp2) (D1 : Draws prog w A.in1 i1 fp1 n1 P1 St1) (D2 : Draws prog w A.in1 i2 fp2 n2 P2 St2)
    (hz : IsZipHeld s.heap z TI TO T f) (hT : s.heap.get? T = some oT) (hTI : IsTupOf2 s.heap TI (.ref i1) (.ref i2)) (st1 : St1 i s.heap) (st2 : St2 i s.heap) (hlt1 : i < n1) (hlt2 : i < n2)
    (hQ : ∀ x1 x2 h' tk, P1 i x1 → P2 i x2 → IsZipHeld h' z TI TO T true → St1 (i + 1) h' → St2 (i + 1) h' → IsTupOf2 h' s.heap.objs.size x1 x2 → h'.objs.size = s.heap.objs.size + 1 →
      (∀ c o, c ≠ z → c ≠ i1 → c ≠ i2 → s.heap.get? c = some o → h'.get? c = some o) → Q (some (.ref s.heap.objs.size)) { s with heap := h', toks := tk }) :
    wpAny (model prog w) A (pyNext (.ref z)) Q E s := by
  have hTy : s.TypeIs (.ref z) "zip" := ⟨_, hz, rfl⟩
  unfold pyNext
  exact wpAny_bind (wpAny_attempt (wpAny_callSpecial?_slot (name := Str.ofString "__next__") hTy F.slot_zip_next
    (wpAny_call_entry F.slot_zip_next hTy F.entry_zip_next
      (zHeldItem S D1 D2 hz hT hTI st1 st2 hlt1 hlt2 fun x1 x2 h' tk a1 a2 a3 a4 a5 a6 a7 a8 => wpAny_pure (hQ x1 x2 h' tk a1 a2 a3 a4 a5 a6 a7 a8)) (F.args_zip_next_1 _))))
theorem zNextHeldEnd {T : Addr} {f : Bool} {oT : Obj} {Q : Option Value → Shared → Prop} (S : ZipSep2 z TI TO i1 i2 fp1 fp2) (D1 : Draws prog w A.in1 i1 fp1 n1 P1 St1) (D2 : Draws prog w A.in1 i2 fp2 n2 P2 St2)
    (hz : IsZipHeld s.heap z TI TO T f) (hT : s.heap.get? T = some oT) (hTI : IsTupOf2 s.heap TI (.ref i1) (.ref i2)) (st1 : St1 i s.heap) (st2 : St2 i s.heap) (hle1 : i ≤ n1) (hle2 : i ≤ n2) (hend : i = n1 ∨ i = n2)
    (hQ : ∀ h' tk, (∀ c o, c ≠ z → c ≠ i1 → c ≠ i2 → s.heap.get? c = some o → h'.get? c = some o) → Q none { s with heap := h', toks := tk }) : wpAny (model prog w) A (pyNext (.ref z)) Q E s := by
  have hTy : s.TypeIs (.ref z) "zip" := ⟨_, hz, rfl⟩
  unfold pyNext
  refine wpAny_bind (wpAny_attempt (wpAny_callSpecial?_slot (name := Str.ofString "__next__") hTy F.slot_zip_next
    (wpAny_call_entry F.slot_zip_next hTy F.entry_zip_next (zHeldEnd S D1 D2 hz hT hTI st1 st2 hle1 hle2 hend fun h' tk e hk he => ?_) (F.args_zip_next_1 _))))
  obtain ⟨o, ho, hc⟩ := he
  refine wpAny_bind (wpAny_isInstance (T := "StopIteration") (b := true) ⟨o, ho, hc⟩ isSubtype_stop ?_)
  exact wpAny_pure (hQ _ _ hk)
end
/-- a zip at turn i whose tuples stay: S the list that takes them -/
structure ZSt (h : Heap) (S z TI TO i1 i2 : Addr) (St1 St2 : Nat → Heap → Prop) (i : Nat) : Prop where
  tup : IsTupOf2 h TI (.ref i1) (.ref i2)
  st1 : St1 i h
  st2 : St2 i h
  zip : (IsZip h z TI TO .none ∧ ∃ a1 a2, IsTupOf2 h TO a1 a2) ∨ ∃ T f oT, IsZipHeld h z TI TO T f ∧ h.get? T = some oT ∧ T ≠ z ∧ T ≠ i1 ∧ T ≠ i2 ∧ T ≠ S
/-- the tuples made -/
structure ZMade (P1 P2 : Nat → Value → Prop) (lo : Addr) (h : Heap) (as : List Addr) : Prop where
  nd : as.Nodup
  above : ∀ a ∈ as, lo < a
  pairs : ∀ (j : Nat) (a : Addr), as[j]? = some a → ∃ x y, P1 j x ∧ P2 j y ∧ IsTupOf2 h a x y
section
variable {prog : Program} {w : World} {A : Around} {s : Shared} {R : Result → Shared → Prop} {z TI TO i1 i2 S lo : Addr} {fp1 fp2 : List Addr} {n1 n2 n : Nat} {P1 P2 : Nat → Value → Prop} {St1 St2 : Nat → Heap → Prop}
theorem zLoop (Z : ZipSep2 z TI TO i1 i2 fp1 fp2) (D1 : Draws prog w A.in1.in1 i1 fp1 n1 P1 St1) (D2 : Draws prog w A.in1.in1 i2 fp2 n2 P2 St2) (hn : n = min n1 n2) (hsl : n ≤ sizeLine)
    (hSz : S ≠ z) (hSI : S ≠ TI) (hSO : S ≠ TO) (hS1 : S ∉ fp1) (hS2 : S ∉ fp2) (lz : z ≤ lo) (lS : S ≤ lo) (lO : TO ≤ lo) (l1 : i1 ≤ lo) (l2 : i2 ≤ lo) (res : Value) {h₁ : Heap}
    (hR : ∀ h' tk acc c as, (∀ b o, b ≠ S → b ≠ z → b ≠ TO → b ≠ i1 → b ≠ i2 → h₁.get? b = some o → h'.get? b = some o) → h'.get? S = some { cls := .type "list", dict := none, data := .seq acc c, slots := #[] } → as.length = n → ZMade P1 P2 lo h' as →
      acc.toList = as.map Value.ref → R (.ok (.ret res)) { s with heap := h', toks := tk }) :
    ∀ (k i : Nat) (h : Heap) (tk c : Nat) (acc : Array Value) (as : List Addr), n - i = k → i ≤ n → ZSt h S z TI TO i1 i2 St1 St2 i → (∀ b o, b ≠ S → b ≠ z → b ≠ TO → b ≠ i1 → b ≠ i2 → h₁.get? b = some o → h.get? b = some o) →
      h.get? S = some { cls := .type "list", dict := none, data := .seq acc c, slots := #[] } → acc.toList = as.map Value.ref → as.length = i → ZMade P1 P2 lo h as → lo < h.objs.size →
      codeAny (model prog w) A (.builtin "list.extend.loop" ⟨[.ref S, .ref z, res], []⟩) R { s with heap := h, toks := tk } := by
  intro k
  induction k with
  | zero =>
    intro i h tk c acc as hk hi hst hkeep hS hacc hal hG hlo
    refine codeAny_builtin PySem.F.entry_extend_loop ?_
    rw [Around.under_plainId PySem.F.plain_extend_loop _]
    show wpAny _ A.in1 (pyNext (.ref z) >>= _) _ _ _
    have hend : i = n1 ∨ i = n2 := by omega
    have fin : ∀ h' tk', (∀ c o, c ≠ z → c ≠ TO → c ≠ i1 → c ≠ i2 → h.get? c = some o → h'.get? c = some o) → R (.ok (.ret res)) { s with heap := h', toks := tk' } := fun h' tk' e => by
      refine hR h' tk' acc c as (fun b o g1 g2 g3 g4 g5 x => e b o g2 g3 g4 g5 (hkeep b o g1 g2 g3 g4 g5 x)) (e S _ hSz hSO (fun q => hS1 (q ▸ Z.mem1)) (fun q => hS2 (q ▸ Z.mem2)) hS) (by omega) ⟨hG.nd, hG.above, fun j a hj => ?_⟩ hacc
      obtain ⟨x, y, p1, p2, e3⟩ := hG.pairs j a hj
      have ha := hG.above a (List.mem_of_getElem? hj)
      exact ⟨x, y, p1, p2, e a _ (zne lz ha) (zne lO ha) (zne l1 ha) (zne l2 ha) e3⟩
    refine wpAny_bind ?_
    rcases hst.zip with ⟨hz, a1, a2, hTO⟩ | ⟨T, f, oT, hz, hT, _⟩
    · exact wpAny_pyNext_zipD2_end (s := { s with heap := h, toks := tk }) Z D1 D2 hz hst.tup hTO hst.st1 hst.st2 (by omega) (by omega) hend fun h' tk' e => wpAny_pure (fin h' tk' e)
    · exact zNextHeldEnd (s := { s with heap := h, toks := tk }) Z D1 D2 hz hT hst.tup hst.st1 hst.st2 (by omega) (by omega) hend fun h' tk' e => wpAny_pure (fin h' tk' fun c o c1 _ c2 c3 => e c o c1 c2 c3)
  | succ k ih =>
    intro i h tk c acc as hk hi hst hkeep hS hacc hal hG hlo
    have hlt : i < n := by omega
    have hsz : acc.size = i := by rw [← Array.length_toList, hacc, List.length_map, hal]
    have hSi1 : S ≠ i1 := fun q => hS1 (q ▸ Z.mem1)
    have hSi2 : S ≠ i2 := fun q => hS2 (q ▸ Z.mem2)
    refine codeAny_builtin PySem.F.entry_extend_loop ?_
    rw [Around.under_plainId PySem.F.plain_extend_loop _]
    show wpAny _ A.in1 (pyNext (.ref z) >>= _) _ _ _
    have go : ∀ x1 x2 h' tk', P1 i x1 → P2 i x2 → (∃ T f oT, IsZipHeld h' z TI TO T f ∧ h'.get? T = some oT ∧ T ≠ z ∧ T ≠ i1 ∧ T ≠ i2 ∧ T ≠ S) → St1 (i + 1) h' → St2 (i + 1) h' → IsTupOf2 h' h.objs.size x1 x2 → h'.objs.size = h.objs.size + 1 →
        (∀ c o, c ≠ z → c ≠ TO → c ≠ i1 → c ≠ i2 → h.get? c = some o → h'.get? c = some o) →
        wpAny (model prog w) A.in1 (updateSeq S (·.push (Value.ref h.objs.size)) >>= fun _ => again (.builtin "list.extend.loop" ⟨[.ref S, .ref z, res], []⟩)) (fun fin s' => match fin with | .done f => R (.ok f) s' | .again c' => c'.quiet = true ∧ codeAny (model prog w) A c' R s') (fun e s' => R (.error e) s') { s with heap := h', toks := tk' } := by
      intro x1 x2 h' tk' p1 p2 hz' sn1 sn2 ht hzz hkp
      have hS' := hkp S _ hSz hSO hSi1 hSi2 hS
      have up : ∀ b o, b ≠ S → h'.get? b = some o → (h'.update S (Obj.mapSeq (·.push (Value.ref h.objs.size)))).get? b = some o := fun b o hb e => (Heap.get?_update_other _ _ (Ne.symm hb)).trans e
      have hSl : S < h.objs.size := Heap.lt_size hS
      refine wpAny_bind ?_
      refine wpAny_updateSeq hS' rfl (wpAny_pure ⟨plainId_quiet PySem.F.plain_extend_loop _, ih (i + 1) _ tk' _ (acc.push (Value.ref h.objs.size)) (as ++ [h.objs.size]) (by omega) hlt ⟨up _ _ (Ne.symm hSI) (hkp _ _ Z.TIz Z.TITO Z.TIi1 Z.TIi2 hst.tup), D1.frame _ _ _ sn1 fun b hb o e => up b o (fun q => hS1 (q ▸ hb)) e, D2.frame _ _ _ sn2 fun b hb o e => up b o (fun q => hS2 (q ▸ hb)) e, ?_⟩
        (fun b o g1 g2 g3 g4 g5 e => up b o g1 (hkp b o g2 g3 g4 g5 (hkeep b o g1 g2 g3 g4 g5 e))) (Heap.get?_update_self _ hS' rfl) (by rw [Array.toList_push, hacc, List.map_append]; rfl) (by rw [List.length_append, hal]; rfl) ⟨?_, ?_, ?_⟩ ?_⟩) (by rw [hsz]; omega) (by show (acc.push (Value.ref h.objs.size)).size ≤ sizeLine + 1; rw [Array.size_push, hsz]; omega)
      · obtain ⟨T, f, oT, g1, g2, g3, g4, g5, g6⟩ := hz'
        exact .inr ⟨T, f, oT, up _ _ (Ne.symm hSz) g1, up _ _ g6 g2, g3, g4, g5, g6⟩
      · refine List.nodup_append.mpr ⟨hG.nd, by simp, fun a ha b hb e => ?_⟩
        rw [List.mem_singleton.mp hb] at e
        obtain ⟨j, hj⟩ := List.mem_iff_getElem?.mp ha
        obtain ⟨_, _, _, _, e3⟩ := hG.pairs j a hj
        have := Heap.lt_size e3
        rw [e] at this
        exact Nat.lt_irrefl _ this
      · intro a ha
        rcases List.mem_append.mp ha with ha | ha
        · exact hG.above a ha
        · rw [List.mem_singleton.mp ha]; exact hlo
      · intro j b hj
        rcases Nat.lt_trichotomy j as.length with h1 | h1 | h1
        · rw [List.getElem?_append_left h1] at hj
          obtain ⟨x, y, q1, q2, e3⟩ := hG.pairs j b hj
          have hb := hG.above b (List.mem_of_getElem? hj)
          exact ⟨x, y, q1, q2, up b _ (zne lS hb) (hkp b _ (zne lz hb) (zne lO hb) (zne l1 hb) (zne l2 hb) e3)⟩
        · subst h1
          have hb : h.objs.size = b := by simpa using hj
          subst hb
          rw [hal]
          exact ⟨x1, x2, p1, p2, up _ _ (Nat.ne_of_gt hSl) ht⟩
        · have hnone : (as ++ [h.objs.size])[j]? = none := List.getElem?_eq_none (by rw [List.length_append, List.length_singleton]; omega)
          rw [hnone] at hj; cases hj
      · have e : (h'.update S (Obj.mapSeq (·.push (Value.ref h.objs.size)))).get? h.objs.size = _ := up _ _ (Nat.ne_of_gt hSl) ht
        exact Nat.lt_trans hlo (Heap.lt_size e)
    refine wpAny_bind ?_
    rcases hst.zip with ⟨hz, a1, a2, hTO⟩ | ⟨T, f, oT, hz, hT, t1, t2, t3, t4⟩
    · exact wpAny_pyNext_zipD2_item (s := { s with heap := h, toks := tk }) Z D1 D2 hz hst.tup hTO hst.st1 hst.st2 (by omega) (by omega) fun x1 x2 h' tk' p1 p2 hz' _ sn1 sn2 ht hzz hkp =>
        go x1 x2 h' tk' p1 p2 ⟨h.objs.size, false, _, hz', ht, zne lz hlo, zne l1 hlo, zne l2 hlo, zne lS hlo⟩ sn1 sn2 ht hzz hkp
    · exact zNextHeld (s := { s with heap := h, toks := tk }) Z D1 D2 hz hT hst.tup hst.st1 hst.st2 (by omega) (by omega) fun x1 x2 h' tk' p1 p2 hz' sn1 sn2 ht hzz hkp =>
        go x1 x2 h' tk' p1 p2 ⟨T, true, oT, hz', hkp T oT t1 t2 t3 hT, t1, t2, t3, t4⟩ sn1 sn2 ht hzz fun c o c1 _ c2 c3 => hkp c o c1 c2 c3
end
end PySem
set_option Elab.async false
set_option linter.all false
set_option maxRecDepth 100000
set_option maxHeartbeats 4000000
/-! Z17: list(zip(x, y)), the call. -/
namespace PySem
open Sem (wp)
theorem zipNoLen : typeLookup (.type "zip") "__len__" = pure none := by rw [typeLookup_type, builtinLookup_eq_fast]; kernel_rfl
theorem zipNoHint : typeLookup (.type "zip") "__length_hint__" = pure none := by rw [typeLookup_type, builtinLookup_eq_fast]; kernel_rfl
section
variable {prog : Program} {w : World} {A : Around} {s : Shared} {R : Result → Shared → Prop} {z TI TO i1 i2 S lo : Addr} {fp1 fp2 : List Addr} {n1 n2 n : Nat} {P1 P2 : Nat → Value → Prop} {St1 St2 : Nat → Heap → Prop}
theorem zExt (Z : ZipSep2 z TI TO i1 i2 fp1 fp2) (D1 : Draws prog w A.in1.in1 i1 fp1 n1 P1 St1) (D2 : Draws prog w A.in1.in1 i2 fp2 n2 P2 St2) (hn : n = min n1 n2) (hsl : n ≤ sizeLine)
    (hSz : S ≠ z) (hSI : S ≠ TI) (hSO : S ≠ TO) (hS1 : S ∉ fp1) (hS2 : S ∉ fp2) (lz : z ≤ lo) (lS : S ≤ lo) (lO : TO ≤ lo) (l1 : i1 ≤ lo) (l2 : i2 ≤ lo) (hlo : lo < s.heap.objs.size) (res : Value) {c₀ : Nat}
    (hz : IsZip s.heap z TI TO .none) (hTI : IsTupOf2 s.heap TI (.ref i1) (.ref i2)) (hTO : IsTupOf2 s.heap TO .none .none) (st1 : St1 0 s.heap) (st2 : St2 0 s.heap)
    (hS : s.heap.get? S = some { cls := .type "list", data := .seq #[] c₀ })
    (hR : ∀ h' tk acc c as, (∀ b o, b ≠ S → b ≠ z → b ≠ TO → b ≠ i1 → b ≠ i2 → s.heap.get? b = some o → h'.get? b = some o) → h'.get? S = some { cls := .type "list", dict := none, data := .seq acc c, slots := #[] } → as.length = n → ZMade P1 P2 lo h' as →
      acc.toList = as.map Value.ref → R (.ok (.ret res)) { s with heap := h', toks := tk }) :
    wpAny (model prog w) A.in1 (Builtin.List.listExtendWith (.ref S) (.ref z) res)
      (fun fin s' => match fin with | .done f => R (.ok f) s' | .again c' => c'.quiet = true ∧ codeAny (model prog w) A c' R s') (fun e s' => R (.error e) s') s := by
  have hTy : s.TypeIs (.ref z) "zip" := ⟨_, hz, rfl⟩
  unfold Builtin.List.listExtendWith
  refine wpAny_bind (wpAny_typeOf hTy ?_)
  have h1 : Builtin.List.listSameRef (.ref S) (.ref z) = false := by simp [Builtin.List.listSameRef, hSz]
  have h2 : (Value.type "zip" == Value.type "list") = false := by decide
  have h3 : (Value.type "zip" == Value.type "tuple") = false := by decide
  simp only [h1, h2, h3, Bool.or_false, Bool.false_eq_true, if_false]
  refine wpAny_bind (wpAny_pyIter_zip hz ?_)
  refine wpAny_bind (wpAny_holding ?_)
  unfold Builtin.List.listLengthHint
  refine wpAny_bind (wpAny_specialOf hTy zipNoLen ?_)
  show wpAny _ A.in1 (specialOf (Value.ref z) (Str.ofString "__length_hint__") >>= _) _ _ _
  refine wpAny_bind (wpAny_specialOf hTy zipNoHint ?_)
  refine wpAny_pure ?_
  show wpAny _ A.in1 (rule "list.extend.makes-room" >>= fun _ => Builtin.List.listTouch (.ref S) >>= fun _ =>
    again (.builtin "list.extend.loop" ⟨[.ref S, .ref z, res], []⟩)) _ _ _
  refine wpAny_bind (wpAny_rule ?_)
  refine wpAny_bind ?_
  show wpAny _ A.in1 (updateSeq S (·.push .none) >>= fun _ => updateSeq S (·.pop)) _ _ _
  refine wpAny_bind (wpAny_updateSeq hS rfl ?_)
  have hS₂ := Heap.get?_update_self (Obj.mapSeq (·.push Value.none)) hS rfl
  refine wpAny_updateSeq (hz := by seq_fits) hS₂ rfl ?_
  have hS₃ := Heap.get?_update_self (Obj.mapSeq (·.pop)) hS₂ rfl
  have oth : ∀ b o, b ≠ S → s.heap.get? b = some o → ((s.heap.update S (Obj.mapSeq (·.push Value.none))).update S (Obj.mapSeq (·.pop))).get? b = some o :=
    fun b o hb e => (Heap.get?_update_other _ _ (Ne.symm hb)).trans ((Heap.get?_update_other _ _ (Ne.symm hb)).trans e)
  have hsz : ((s.heap.update S (Obj.mapSeq (·.push Value.none))).update S (Obj.mapSeq (·.pop))).objs.size = s.heap.objs.size := by
    rw [Heap.size_update, Heap.size_update]
  refine wpAny_pure ⟨plainId_quiet F.plain_extend_loop _, zLoop (lo := lo) Z D1 D2 hn hsl hSz hSI hSO hS1 hS2 lz lS lO l1 l2 res (h₁ := s.heap) hR n 0 _ s.toks _ _ [] (Nat.sub_zero _) (Nat.zero_le _)
    ⟨oth _ _ (Ne.symm hSI) hTI, D1.frame _ _ _ st1 fun b hb o e => oth b o (fun q => hS1 (q ▸ hb)) e, D2.frame _ _ _ st2 fun b hb o e => oth b o (fun q => hS2 (q ▸ hb)) e, .inl ⟨oth _ _ (Ne.symm hSz) hz, .none, .none, oth _ _ (Ne.symm hSO) hTO⟩⟩
    (fun b o hb _ _ _ _ e => oth b o hb e) hS₃ rfl rfl ⟨List.nodup_nil, (fun _ ha => nomatch ha), fun j a hj => by simp at hj⟩ (by rw [hsz]; exact hlo)⟩
end
section
variable {prog : Program} {w : World} {A : Around} {E : Value → Shared → Prop} {s : Shared} {z TI TO i1 i2 : Addr} {fp1 fp2 : List Addr} {n1 n2 n : Nat} {P1 P2 : Nat → Value → Prop} {St1 St2 : Nat → Heap → Prop}
/-- list(z), z a zip that has not been asked -/
theorem zCall {Q : Value → Shared → Prop} (Z : ZipSep2 z TI TO i1 i2 fp1 fp2) (D1 : Draws prog w A.in1.in1.in1 i1 fp1 n1 P1 St1) (D2 : Draws prog w A.in1.in1.in1 i2 fp2 n2 P2 St2) (hn : n = min n1 n2) (hsl : n ≤ sizeLine)
    (hfp1 : ∀ b ∈ fp1, b < s.heap.objs.size) (hfp2 : ∀ b ∈ fp2, b < s.heap.objs.size)
    (hz : IsZip s.heap z TI TO .none) (hTI : IsTupOf2 s.heap TI (.ref i1) (.ref i2)) (hTO : IsTupOf2 s.heap TO .none .none) (st1 : St1 0 s.heap) (st2 : St2 0 s.heap)
    (hQ : ∀ h' tk acc c as, (∀ b o, b ≠ s.heap.objs.size → b ≠ z → b ≠ TO → b ≠ i1 → b ≠ i2 → s.heap.get? b = some o → h'.get? b = some o) → h'.get? s.heap.objs.size = some { cls := .type "list", dict := none, data := .seq acc c, slots := #[] } → as.length = n → ZMade P1 P2 s.heap.objs.size h' as →
      acc.toList = as.map Value.ref → Q (.ref s.heap.objs.size) { s with heap := h', toks := tk }) :
    wpAny (model prog w) A (call (.type "list") [.ref z]) Q E s := by
  refine callType_codes (Q₁ := fun obj s₁ => obj = .ref s.heap.objs.size ∧ s₁ = { s with heap := s.heap.push { cls := .type "list", data := .seq #[] } }) F.called_list (F.typeCall_list_1 _) F.entry_list_init
    (code_list_new _ ⟨rfl, rfl⟩) fun obj s₁ h₁ => ?_
  obtain ⟨rfl, rfl⟩ := h₁
  have hS : (s.heap.push { cls := .type "list", data := .seq #[] }).get? s.heap.objs.size = some { cls := .type "list", data := .seq #[] } := Heap.get?_push_size _ rfl
  have lt : ∀ {b : Addr} {o : Obj}, s.heap.get? b = some o → b < s.heap.objs.size := fun e => Heap.lt_size e
  refine ⟨⟨_, hS, rfl⟩, F.args_list_init_2 _ _, ?_⟩
  show wpAny _ _ (do let old ← Builtin.List.listItems (.ref s.heap.objs.size); Builtin.List.listUpdate (.ref s.heap.objs.size) (fun _ => #[]); letGo old.toList.reverse; Builtin.List.listExtendWith (.ref s.heap.objs.size) (.ref z) .none) _ _ _
  refine wpAny_bind ?_
  unfold Builtin.List.listItems
  refine wpAny_bind (wpAny_seqItems hS rfl (wpAny_pure ?_))
  show wpAny _ _ (updateSeq s.heap.objs.size (fun _ => #[]) >>= fun _ => letGo (#[] : Array Value).toList.reverse >>= fun _ => Builtin.List.listExtendWith (.ref s.heap.objs.size) (.ref z) .none) _ _ _
  refine wpAny_bind (wpAny_updateSeq hS rfl ?_)
  have hS₂ := Heap.get?_update_self (Obj.mapSeq (fun _ => (#[] : Array Value))) hS rfl
  have up : ∀ b o, s.heap.get? b = some o → ((s.heap.push { cls := .type "list", data := .seq #[] }).update s.heap.objs.size (Obj.mapSeq (fun _ => (#[] : Array Value)))).get? b = some o :=
    fun b o e => (Heap.get?_update_other _ _ (Nat.ne_of_gt (lt e))).trans (Heap.get?_push_of_some _ e)
  have hsz : ((s.heap.push { cls := .type "list", data := .seq #[] }).update s.heap.objs.size (Obj.mapSeq (fun _ => (#[] : Array Value)))).objs.size = s.heap.objs.size + 1 := by
    rw [Heap.size_update, Heap.size_push]
  refine wpAny_bind (wpAny_letGo ?_)
  refine zExt (lo := s.heap.objs.size) (s := { s with heap := (s.heap.push { cls := .type "list", data := .seq #[] }).update s.heap.objs.size (Obj.mapSeq (fun _ => (#[] : Array Value))) }) Z D1 D2 hn hsl (Nat.ne_of_gt (lt hz)) (Nat.ne_of_gt (lt hTI)) (Nat.ne_of_gt (lt hTO)) (fun q => Nat.lt_irrefl _ (hfp1 _ q)) (fun q => Nat.lt_irrefl _ (hfp2 _ q))
    (Nat.le_of_lt (lt hz)) (Nat.le_refl _) (Nat.le_of_lt (lt hTO)) (Nat.le_of_lt (hfp1 _ Z.mem1)) (Nat.le_of_lt (hfp2 _ Z.mem2)) (by show _ < _; rw [hsz]; exact Nat.lt_succ_self _) .none (up _ _ hz) (up _ _ hTI) (up _ _ hTO)
    (D1.frame _ _ _ st1 fun b _ o e => up b o e) (D2.frame _ _ _ st2 fun b _ o e => up b o e) hS₂ fun h' tk acc c as hk hS' hl hM ha => ?_
  exact ⟨rfl, hQ h' tk acc c as (fun b o g1 g2 g3 g4 g5 e => hk b o g1 g2 g3 g4 g5 (up b o e)) hS' hl hM ha⟩
end
end PySem
set_option Elab.async false
set_option linter.all false
set_option maxRecDepth 100000
set_option maxHeartbeats 4000000
/-! Z18: list(zip(x, y)), the rule. -/
namespace Zv
open PySem PySem.Spec PyProof.Rows L2
/-- several objects beside -/
def updAll (H : Hp) : List (Addr × HO) → Hp
  | [] => H
  | p :: ps => updAll (upd H p.1 p.2) ps
theorem updAll_out {a : Addr} : ∀ {ps : List (Addr × HO)} {H : Hp}, a ∉ ps.map (·.1) → updAll H ps a = H a
  | [], _, _ => rfl
  | p :: ps, H, h => by
    rw [List.map_cons, List.mem_cons, not_or] at h
    unfold updAll
    rw [updAll_out h.2, upd_ne h.1]
theorem updAll_in {a : Addr} {o : HO} : ∀ {ps : List (Addr × HO)} {H : Hp}, (ps.map (·.1)).Nodup → (a, o) ∈ ps → updAll H ps a = some o
  | p :: ps, H, nd, h => by
    rw [List.map_cons, List.nodup_cons] at nd
    unfold updAll
    rcases List.mem_cons.mp h with e | h
    · subst e
      rw [updAll_out nd.1, upd_same]
    · exact updAll_in nd.2 h
theorem updAll_mem {a : Addr} : ∀ {ps : List (Addr × HO)} {H : Hp}, a ∈ ps.map (·.1) → ∃ o, (a, o) ∈ ps
  | p :: ps, H, h => by
    obtain ⟨q, hq, e⟩ := List.mem_map.mp h
    exact ⟨q.2, by rw [← e]; exact hq⟩
/-- laid together -/
theorem inv_all {X : Cx} {pins : List (Addr × Obj)} {σ : L2.St} {H : Hp} {s : Shared} {h' : Heap} {t' : Nat} {ps : List (Addr × HO)} (I : Inv X pins σ H s) (k : ∀ b u, s.heap.get? b = some u → h'.get? b = some u) (nd : (ps.map (·.1)).Nodup) (hp : ∀ p ∈ ps, s.heap.objs.size ≤ p.1)
    (new : ∀ p ∈ ps, ObjOk X.prog X.w (updAll H ps) h' p.1 p.2) : Inv X pins σ (updAll H ps) { s with heap := h', toks := t' } := by
  have out : ∀ {b : Addr} {o : HO}, H b = some o → updAll H ps b = some o := fun {b o} e => by
    rw [updAll_out fun z => ?_]
    · exact e
    · obtain ⟨q, hq, ez⟩ := List.mem_map.mp z
      have := I.hok.fresh (hp q hq)
      rw [ez, e] at this
      cases this
  have out' : ∀ {b : Addr} {o : Obj}, s.heap.get? b = some o → H b = none → updAll H ps b = none := fun {b o} e n => by
    rw [updAll_out fun z => ?_]
    · exact n
    · obtain ⟨q, hq, ez⟩ := List.mem_map.mp z
      have h1 := hp q hq
      rw [ez] at h1
      exact Nat.lt_irrefl _ (Nat.lt_of_lt_of_le (Heap.lt_size e) h1)
  refine I.un (t' := t') ⟨fun b o e _ _ _ => k b o e, fun b o e _ _ _ => ⟨o.slots, k b o e⟩, fun b o e n _ => out' e n, fun b o e _ => ⟨o, k b o e⟩, fun b xs e => out e, fun b o u e => out e, fun b ps' e => ⟨#[], by rw [out e]; simp⟩⟩ fun b o e => ?_
  by_cases hb : b ∈ ps.map (·.1)
  · obtain ⟨o', ho'⟩ := updAll_mem (H := H) hb
    rw [updAll_in nd ho'] at e
    cases e
    exact new (b, o) ho'
  · rw [updAll_out hb] at e
    exact (I.hok b o e).stay (fun c v _ z => k c v z) (fun c hc => out hc) fun c xs hc => out hc
/-- the pairs at as, the list of them at L -/
def zipHp (H : Hp) (as : List Addr) (L : Addr) (xs ys : List V) : Hp := updAll H ((as.zip (xs.zip ys)).map (fun p => (p.1, HO.tup [p.2.1, p.2.2])) ++ [(L, HO.lst (as.map V.ref))])
def tLZ (K : PySem.W.Frag) (ta : TA) : TE := fun σ H Q => ta σ H fun vs H1 => ∃ a b xs ys, vs = [.ref a, .ref b] ∧ ((SqL K H1 a xs ∧ SqL K H1 b ys) ∨ (SqT K H1 a xs ∧ SqT K H1 b ys)) ∧ min xs.length ys.length ≤ sizeLine ∧
  ∀ (as : List Addr) (L : Addr), as.length = min xs.length ys.length → (as ++ [L]).Nodup → (∀ c ∈ as ++ [L], H1 c = none) → Q (.ref L) (zipHp H1 as L xs ys)
section
variable {X : Cx} {pos pos2 p p2 : Pos} {e e2 : Expr} {ta : TA}
theorem list_zip_ok {pins : List (Addr × Obj)} {σ : L2.St} {H1 : Hp} {s1 : Shared} {Q : VK} {a b : Addr} {xs ys : List V} {its its2 : List Value} {o1 o2 : Obj} {HA HB : Heap → Prop} {St1 St2 : Nat → Heap → Prop} (hcalm : X.calm = true) (I1 : Inv X pins σ H1 s1)
    (rv : Vals xs its) (rv2 : Vals ys its2) (hz : min xs.length ys.length ≤ sizeLine) (hal : a < s1.heap.objs.size) (hbl : b < s1.heap.objs.size)
    (B1 : Begins (.ref a) o1 HA) (B2 : Begins (.ref b) o2 HB) (hA : HA s1.heap) (hB : HB s1.heap)
    (D1 : ∀ (A : Around), A.handled = none → Draws X.prog X.w A s1.heap.objs.size [s1.heap.objs.size, a] its.toArray.size (fun i v => its.toArray[i]? = some v) St1) (D2 : ∀ (A : Around), A.handled = none → Draws X.prog X.w A (s1.heap.objs.size + 1) [s1.heap.objs.size + 1, b] its2.toArray.size (fun i v => its2.toArray[i]? = some v) St2)
    (hs1 : ∀ h : Heap, h.get? s1.heap.objs.size = some o1 → HA h → St1 0 h) (hs2 : ∀ h : Heap, h.get? (s1.heap.objs.size + 1) = some o2 → HB h → St2 0 h)
    (q : ∀ (as : List Addr) (L : Addr), as.length = min xs.length ys.length → (as ++ [L]).Nodup → (∀ c ∈ as ++ [L], H1 c = none) → Q (.ref L) (zipHp H1 as L xs ys)) :
    wpAny (model X.prog X.w) X.A (call (.type "zip") [.ref a, .ref b]) (fun u s2 => wpAny (model X.prog X.w) X.A (call (.type "list") [u]) (EP X pins σ Q) X.xe s2) X.xe s1 := by
  have hh : X.A.handled = none := I1.ok.hd hcalm
  refine zip_begins2 B1 B2 hA hB fun h' hzz hTI hTO ho1 ho2 hsz hk => ?_
  have Z := zip_sep2 (N := s1.heap.objs.size) (fp1 := [a]) (fp2 := [b]) (by intro c hc; rw [List.mem_singleton.mp hc]; exact hal) (by intro c hc; rw [List.mem_singleton.mp hc]; exact hbl)
  have hl1 := rv.length
  have hl2 := rv2.length
  have le : s1.heap.objs.size ≤ h'.objs.size := by rw [hsz]; exact Nat.le_add_right _ _
  refine zCall (s := { s1 with heap := h' }) Z (D1 _ hh) (D2 _ hh) rfl (by rw [List.size_toArray, List.size_toArray, ← hl1, ← hl2]; exact hz) (fun c hc => ?_) (fun c hc => ?_) hzz hTI hTO (hs1 _ ho1 (B1.keeps _ _ hA hk)) (hs2 _ ho2 (B2.keeps _ _ hB hk)) fun h2 tk acc cc as hk2 hS hlen hM hacc => ?_
  · rcases List.mem_cons.mp hc with r | r
    · rw [r]; show _ < h'.objs.size; rw [hsz]; exact Nat.lt_add_of_pos_right (by decide)
    · rw [List.mem_singleton.mp r]; exact Nat.lt_of_lt_of_le hal le
  · rcases List.mem_cons.mp hc with r | r
    · rw [r]; show _ < h'.objs.size; rw [hsz]; exact Nat.add_lt_add_left (by decide) _
    · rw [List.mem_singleton.mp r]; exact Nat.lt_of_lt_of_le hbl le
  · have old : ∀ c o, s1.heap.get? c = some o → h2.get? c = some o := fun c o e => by
      have hc := Heap.lt_size e
      have ne : ∀ j, c ≠ s1.heap.objs.size + j := fun j z => by rw [z] at hc; exact Nat.not_lt.mpr (Nat.le_add_right _ _) hc
      exact hk2 c o (fun z => ne 5 (by rw [← hsz]; exact z)) (ne 4) (ne 3) (ne 0) (ne 1) (hk c o e)
    have hn : as.length = min xs.length ys.length := by rw [hlen, List.size_toArray, List.size_toArray, ← hl1, ← hl2]
    have nd : (as ++ [h'.objs.size]).Nodup := List.nodup_append.mpr ⟨hM.nd, by simp, fun c hc d hd e => by
      rw [List.mem_singleton.mp hd] at e
      have := hM.above c hc
      rw [e] at this
      exact Nat.lt_irrefl _ this⟩
    have ge : ∀ c ∈ as ++ [h'.objs.size], s1.heap.objs.size ≤ c := fun c hc => by
      rcases List.mem_append.mp hc with r | r
      · exact Nat.le_trans le (Nat.le_of_lt (hM.above c r))
      · rw [List.mem_singleton.mp r]; exact le
    have fst : ((as.zip (xs.zip ys)).map (fun p => (p.1, HO.tup [p.2.1, p.2.2])) ++ [(h'.objs.size, HO.lst (as.map V.ref))]).map (·.1) = as ++ [h'.objs.size] := by
      rw [List.map_append, List.map_map]
      have e1 : ((·.1) ∘ fun p : Addr × V × V => (p.1, HO.tup [p.2.1, p.2.2])) = Prod.fst := rfl
      rw [e1, List.map_fst_zip (by rw [List.length_zip, hn]; exact Nat.le_refl _)]
      rfl
    have J : Inv X pins σ (zipHp H1 as h'.objs.size xs ys) { s1 with heap := h2, toks := tk } := by
      refine inv_all I1 old (by rw [fst]; exact nd) (fun pr hp => ge _ (by rw [← fst]; exact List.mem_map.mpr ⟨pr, hp, rfl⟩)) fun pr hp => ?_
      rcases List.mem_append.mp hp with r | r
      · obtain ⟨t, ht, rfl⟩ := List.mem_map.mp r
        obtain ⟨j, hj⟩ := List.mem_iff_getElem?.mp ht
        rw [List.getElem?_zip_eq_some] at hj
        obtain ⟨j1, j2⟩ := hj
        rw [List.getElem?_zip_eq_some] at j2
        obtain ⟨x, y, p1, p2, e3⟩ := hM.pairs j _ j1
        obtain ⟨u1, hu1, ru1⟩ := rv.get j2.1
        obtain ⟨u2, hu2, ru2⟩ := rv2.get j2.2
        rw [List.getElem?_toArray, hu1] at p1
        cases p1
        rw [List.getElem?_toArray, hu2] at p2
        cases p2
        exact ⟨by show 2 ≤ sizeLine; decide, _, .cons ru1 (.cons ru2 .nil), ⟨_, e3, rfl, _, rfl⟩⟩
      · rw [List.mem_singleton.mp r]
        have rr : ∀ l : List Addr, Vals (l.map V.ref) (l.map Value.ref) := fun l => by
          induction l with
          | nil => exact .nil
          | cons c l ih => exact .cons rfl ih
        refine ⟨by rw [List.length_map, hn]; exact hz, as.map Value.ref, cc, rr as, ?_⟩
        show h2.get? h'.objs.size = _
        rw [hS, ← hacc]
    exact ⟨.ref h'.objs.size, _, J, rfl, q as h'.objs.size hn nd fun c hc => I1.hok.fresh (ge c hc)⟩
theorem pe_listZip (hcalm : X.calm = true) (hg : Gl X "list") (hm : X.mg "list" = none) (hg2 : Gl X "zip") (hm2 : X.mg "zip" = none) (ha : PA X [e, e2] ta)
    (hs : starEach [e, e2] X.env = (false, eval e X.env) :: starEach [e2] X.env := by rfl) (hpl : (backTo pos2 (starEach [e2] X.env)).any (·.1) = false := by rfl)
    (hs2 : starEach [.Call (.Name "zip" p2) [e, e2] [] pos2] X.env = (false, eval (.Call (.Name "zip" p2) [e, e2] [] pos2) X.env) :: starEach [] X.env := by rfl) :
    PE X (.Call (.Name "list" p) [.Call (.Name "zip" p2) [e, e2] [] pos2] [] pos) (tLZ X.K ta) := by
  refine ⟨fun pins s σ H Q I h => ?_⟩
  refine Call_ (ld_blt I hg hm boot_list (PyProof.Rows.callWith_type1 (args_cons (Call_ (ld_blt I hg2 hm2 PyProof.Rows.boot_zip (PyProof.Rows.callWith_type1 (thn (ha.run pos2 pins s σ H _ I h) fun us s1 ⟨vs, H1, I1, r1, q1⟩ => ?_) hs hpl))) hs2) hs2 rfl))
  obtain ⟨a, b, xs, ys, rfl, q1, hz, q⟩ := q1
  cases r1 with
  | cons r rr =>
    cases rr with
    | cons r' rr =>
      cases rr
      cases r
      cases r'
      have core : wpAny (model X.prog X.w) X.A (call (.type "zip") [.ref a, .ref b]) (fun u s2 => wpAny (model X.prog X.w) X.A (call (.type "list") [u]) (EP X pins σ Q) X.xe s2) X.xe s1 := by
        rcases q1 with ⟨hqx, hqy⟩ | ⟨hqx, hqy⟩
        · obtain ⟨its, rv, p1, _⟩ := I1.list hqx
          obtain ⟨its2, rv2, p2', _⟩ := I1.list hqy
          exact list_zip_ok hcalm I1 rv rv2 hz p1.lt p2'.lt (begins_list a its.toArray) (begins_list b its2.toArray) p1.isList p2'.isList (fun A hA => Draws.list hA _ _ (Nat.ne_of_lt p1.lt) _) (fun A hA => Draws.list hA _ _ (Nat.ne_of_lt (Nat.lt_succ_of_lt p2'.lt)) _)
            (fun h e hl => ⟨⟨_, e, rfl, rfl⟩, hl⟩) (fun h e hl => ⟨⟨_, e, rfl, rfl⟩, hl⟩) q
        · obtain ⟨its, rv, p1, _⟩ := I1.tuple hqx
          obtain ⟨its2, rv2, p2', _⟩ := I1.tuple hqy
          obtain ⟨oa, hoa, _⟩ := id p1
          obtain ⟨ob, hob, _⟩ := id p2'
          exact list_zip_ok hcalm I1 rv rv2 hz (Heap.lt_size hoa) (Heap.lt_size hob) (begins_tuple a its.toArray) (begins_tuple b its2.toArray) p1 p2' (fun A hA => Draws.tuple hA _ _ (Nat.ne_of_lt (Heap.lt_size hoa)) _) (fun A hA => Draws.tuple hA _ _ (Nat.ne_of_lt (Nat.lt_succ_of_lt (Heap.lt_size hob))) _)
            (fun h e hl => ⟨⟨_, e, rfl, rfl⟩, hl⟩) (fun h e hl => ⟨⟨_, e, rfl, rfl⟩, hl⟩) q
      exact thn core fun u s2 h2 => args_nil h2
end
/-! ### the mirror -/
variable {K : PySem.W.Frag} {mg : Str → Option Value} {E : EX} {F F' F1 H H' H0 H1 : Hp} {ι ι' ι1 : Adr} {st st' st1 : Store}
def gListZip (gs : GA) : G := fun ρ => M.bind (gs ρ) fun vs => match vs with
  | [.d (.list xs), .d (.list ys)] => if min xs.length ys.length ≤ sizeLine then M.pure (.own (zipD xs ys)) else M.stuck
  | [.d (.tuple xs), .d (.tuple ys)] => if min xs.length ys.length ≤ sizeLine then M.pure (.own (zipD xs ys)) else M.stuck
  | _ => M.stuck
theorem Rel.zip : ∀ {as : List Addr} {F : Hp} {H : Hp} {xs ys : List V} {ds es : List PyData}, Rel K F ι st H → DnAll K F xs ds → DnAll K F ys es → as.length = min xs.length ys.length → as.Nodup → (∀ c ∈ as, H c = none) →
    ∃ F', Rel K F' ι st (updAll H ((as.zip (xs.zip ys)).map fun p => (p.1, HO.tup [p.2.1, p.2.2]))) ∧ Step F ι H F' ι (updAll H ((as.zip (xs.zip ys)).map fun p => (p.1, HO.tup [p.2.1, p.2.2]))) ∧ DnAll K F' (as.map V.ref) (zipD ds es)
  | [], F, H, xs, ys, ds, es, R, z1, z2, hl, _, _ => by
    refine ⟨F, R, Step.refl _ _ _, ?_⟩
    have h1 := z1.len
    have h2 := z2.len
    have e : zipD ds es = [] := List.length_eq_zero_iff.mp (by unfold zipD; rw [List.length_map, List.length_zip, ← h1, ← h2, ← hl]; rfl)
    rw [e]
    exact .nil
  | a :: as, F, H, xs, ys, ds, es, R, z1, z2, hl, nd, hf => by
    cases z1 with
    | nil => rw [List.length_nil, Nat.zero_min] at hl; cases hl
    | cons q1 z1 =>
      cases z2 with
      | nil => rw [List.length_nil, Nat.min_zero] at hl; cases hl
      | @cons u d us ds' q2 z2 =>
        rename_i x y xs ys
        rw [List.nodup_cons] at nd
        have ha := hf a List.mem_cons_self
        obtain ⟨R1, s1⟩ := R.lay (o := .tup [x, u]) ha
        obtain ⟨F', R2, s2, dn⟩ := Rel.zip (as := as) R1 (DnAll.mono s1.grow _ _ z1) (DnAll.mono s1.grow _ _ z2) (by simp only [List.length_cons] at hl; omega) nd.2 fun c hc => by
          rw [upd_ne fun e => nd.1 (by rw [← e]; exact hc)]
          exact hf c (List.mem_cons_of_mem _ hc)
        refine ⟨F', R2, s1.trans s2, .cons ?_ dn⟩
        exact Dn.mono s2.grow _ _ (.tup upd_same (.cons (Dn.mono s1.grow _ _ q1) (.cons (Dn.mono s1.grow _ _ q2) .nil)))
theorem updAll_append (H : Hp) : ∀ (ps qs : List (Addr × HO)), updAll H (ps ++ qs) = updAll (updAll H ps) qs
  | [], _ => rfl
  | p :: ps, qs => updAll_append (upd H p.1 p.2) ps qs
section
variable {X : Cx} {pos pos2 p p2 : Pos} {e e2 : Expr} {gs : GA}
theorem lz_fin {xs ys : List V} {ds es : List PyData} {Q : VK} (R : Rel K F ι st H) (th : There H0 H) (z1 : DnAll K F xs ds) (z2 : DnAll K F ys es) (o : Out K mg E F ι H (relR K H0) (.ok (.own (zipD ds es)) st) Q) :
    ∀ (as : List Addr) (L : Addr), as.length = min xs.length ys.length → (as ++ [L]).Nodup → (∀ c ∈ as ++ [L], H c = none) → Q (.ref L) (zipHp H as L xs ys) := fun as L hl nd hf => by
  have nd' := List.nodup_append.mp nd
  obtain ⟨F1, R1, s1, dn⟩ := R.zip z1 z2 hl nd'.1 fun c hc => hf c (List.mem_append_left _ hc)
  have hL : updAll H ((as.zip (xs.zip ys)).map fun p => (p.1, HO.tup [p.2.1, p.2.2])) L = none := by
    rw [updAll_out]
    · exact hf L (List.mem_append_right _ List.mem_cons_self)
    · intro z
      obtain ⟨q, hq, e⟩ := List.mem_map.mp z
      obtain ⟨t, ht, rfl⟩ := List.mem_map.mp hq
      have ha := (List.of_mem_zip ht).1
      have e : t.1 = L := e
      rw [e] at ha
      exact nd'.2.2 L ha L List.mem_cons_self rfl
  have o1 := o.later s1
  unfold zipHp
  rw [updAll_append]
  exact Out.lst (o1.mono (rel' := relR K H0) (fun _ _ _ _ _ q => q) (fun _ _ q => q)) R1 (fun a n => th a (s1.there a n)) dn L hL
theorem v_listZip (hcalm : X.calm = true) (hg : Gl X "list") (hm : X.mg "list" = none) (hg2 : Gl X "zip") (hm2 : X.mg "zip" = none) (ha : PAv X E [e, e2] gs)
    (hs : starEach [e, e2] X.env = (false, eval e X.env) :: starEach [e2] X.env := by rfl) (hpl : (backTo pos2 (starEach [e2] X.env)).any (·.1) = false := by rfl)
    (hs2 : starEach [.Call (.Name "zip" p2) [e, e2] [] pos2] X.env = (false, eval (.Call (.Name "zip" p2) [e, e2] [] pos2) X.env) :: starEach [] X.env := by rfl) :
    PEv X E (.Call (.Name "list" p) [.Call (.Name "zip" p2) [e, e2] [] pos2] [] pos) (gListZip gs) := by
  refine pe_weak (pe_listZip hcalm hg hm hg2 hm2 ha hs hpl hs2) fun σ H Q h => ?_
  obtain ⟨F, ι, ρ, st, R, env, o⟩ := h
  refine ⟨F, ι, ρ, st, R, env, Out.bind o fun vs F1 ι1 H1 xs st1 s1 R1 r1 o1 => ?_⟩
  split at o1
  · split at o1
    · rename_i hz
      cases r1 with
      | cons q r1 =>
        cases r1 with
        | cons q' r1 =>
          cases r1
          cases q with
          | @lst a vs ds hF z =>
            cases q' with
            | @lst a' vs' ds' hF' z' => exact ⟨a, a', vs, vs', rfl, .inl ⟨SqL.of (R1.sub _ _ hF), SqL.of (R1.sub _ _ hF')⟩, by rw [z.len, z'.len]; exact hz, lz_fin R1 s1.there z z' (o1.later s1)⟩
    · exact o1.elim
  · split at o1
    · rename_i hz
      cases r1 with
      | cons q r1 =>
        cases r1 with
        | cons q' r1 =>
          cases r1
          cases q with
          | @tup a vs ds hF z =>
            cases q' with
            | @tup a' vs' ds' hF' z' => exact ⟨a, a', vs, vs', rfl, .inr ⟨SqT.of (R1.sub _ _ hF), SqT.of (R1.sub _ _ hF')⟩, by rw [z.len, z'.len]; exact hz, lz_fin R1 s1.there z z' (o1.later s1)⟩
    · exact o1.elim
  · exact o1.elim
end
end Zv
set_option Elab.async false
set_option linter.all false
set_option maxRecDepth 100000
set_option maxHeartbeats 4000000
/-! Z19: repr; dict displays; chains and None tests as conditions. -/
namespace Zv
open PySem PySem.Spec PyProof.Rows L2
variable {K : PySem.W.Frag} {mg : Str → Option Value} {E : EX} {F F' F1 H H' H0 H1 : Hp} {ι ι' ι1 : Adr} {st st' st1 : Store} {v w : V} {a b : Vl}
/-! ### repr -/
def showOk (d : PyData) : Bool := d.showable && !d.hasDict && decide (d.depth < 32) && decide (d.shown.length ≤ sizeLine)
theorem call_repr_dat {X : Cx} (hg : X.A.guards = some []) (hu : X.A.units + 64 < cLine) : CallR X (.builtin "repr") (fun xs H Q => ∃ x d, xs = [x] ∧ Dp X.K H x d ∧ showOk d = true ∧ Q (.str d.shown) H) := by
  intro pins s σ H xs us Q I r h
  obtain ⟨x, d, rfl, dp, ok, q⟩ := h
  unfold showOk at ok
  rw [Bool.and_eq_true, Bool.and_eq_true, Bool.and_eq_true] at ok
  obtain ⟨⟨⟨h1, h2⟩, h3⟩, h4⟩ := ok
  have h3 := of_decide_eq_true h3
  have h4 := of_decide_eq_true h4
  have h2 : d.hasDict = false := by simpa using h2
  obtain ⟨u, rfl, ru⟩ : ∃ u, us = [u] ∧ RelV x u := by
    cases r with
    | cons a b => cases b; exact ⟨_, rfl, a⟩
  obtain ⟨as, rd⟩ := Dp.reads I d x u dp ru
  have far : ∀ {p : Addr}, u = .ref p → wpAny (model X.prog X.w) X.A (call (.builtin "repr") [u]) (EP X pins σ Q) X.xe s := fun {p} e => by
    subst e
    exact repr_of_reads' rd h1 (fun z => by rw [h2] at z; cases z) hg (by omega) (fun _ _ e => e) (fun h' t tk hk => ⟨.str d.shown, H, I.kept hk, ⟨t, rfl⟩, q⟩) h4
  cases d with
  | none =>
    cases rd
    exact PySem.P.repr_of_none ⟨.str _, H, I.tok _, ⟨_, rfl⟩, q⟩
  | bool k =>
    cases rd
    refine PySem.P.repr_of_bool ⟨.str _, H, I.tok _, ⟨_, rfl⟩, ?_⟩
    cases k <;> exact q
  | int i =>
    cases rd
    exact PySem.P.repr_of_int (by simpa [PyData.showable] using h1) ⟨.str _, H, I.tok _, ⟨_, rfl⟩, q⟩
  | str x =>
    cases rd
    exact PySem.P.repr_of_str ⟨.str _, H, I.tok _, ⟨_, rfl⟩, q⟩ h4
  | list xs => cases rd; exact far rfl
  | tuple xs => cases rd; exact far rfl
  | dict xs => cases rd; exact far rfl
def vRepr : Vl → M Vl := fun x st => match datOf x st with
  | some d => if showOk d = true then .ok (.d (.str d.shown)) st else .stuck
  | none => .stuck
theorem c1_repr : C1V K mg E vRepr (fun xs H Q => ∃ x d, xs = [x] ∧ Dp K H x d ∧ showOk d = true ∧ Q (.str d.shown) H) := by
  intro F ι st H H0 x a Q R th rx o
  unfold vRepr at o
  split at o
  · rename_i d e
    split at o
    · rename_i ok
      exact ⟨x, d, rfl, Dn.dp d x (dat_at R rx e), ok, o.here R (.str _)⟩
    · exact o.elim
  · exact o.elim
section
variable {X : Cx} {pos : Pos}
theorem v_repr {e : Expr} {g : G} {p : Pos} (hA : X.A.guards = some []) (hu : X.A.units + 64 < cLine) (hg : Gl X "repr") (hm : X.mg "repr" = none) (h : PEv X E e g)
    (he : starEach [e] X.env = (false, eval e X.env) :: starEach [] X.env := by rfl) : PEv X E (.Call (.Name "repr" p) [e] [] pos) (gUn vRepr g) :=
  v_b1 (call_repr_dat hA hu) c1_repr (by first | rfl | decide) hg hm h (by decide) (by decide) he
/-! ### conditions -/
theorem v_chain {a b c : Expr} {ga gb gc : G} {op op' : CmpOp} {f f' : Op2} {r r' : R2} (ho : OpR X (compareOp op) r) (hv : OpV X.K X.mg E f r) (ho' : OpR X (compareOp op') r') (hv' : OpV X.K X.mg E f' r') (ha : PEv X E a ga) (hb : PEv X E b gb) (hc : PEv X E c gc)
    (hm : lastMarks [op, op'] [b, c] = false := by with_unfolding_all rfl) : PEv X E (.Compare a [op, op'] [b, c] pos) (gChain f f' ga gb gc) := pe_weak (pe_chain ho ho' ha hb hc hm) (tev_chain hv hv')
theorem t_chain {a b c : Expr} {ga gb gc : G} {op op' : CmpOp} {f f' : Op2} {r r' : R2} (ho : OpR X (compareOp op) r) (hv : OpV X.K X.mg E f r) (ho' : OpR X (compareOp op') r') (hv' : OpV X.K X.mg E f' r') (ha : PEv X E a ga) (hb : PEv X E b gb) (hc : PEv X E c gc)
    (hm : lastMarks [op, op'] [b, c] = false := by with_unfolding_all rfl) : PTv X E (.Compare a [op, op'] [b, c] pos) (bOf (gChain f f' ga gb gc)) := by
  refine pt_weak (pt_chain ho ho' ha hb hc hm) fun σ H Q h => ?_
  obtain ⟨F, ι, ρ, st, R, env, o⟩ := ttv_test σ H Q h
  exact tev_chain hv hv' σ H _ ⟨F, ι, ρ, st, R, env, o⟩
theorem t_isN {e : Expr} {g : G} {j pos'} (h : PEv X E e g) : PTv X E (.Compare e [.Is] [.Constant .none j pos'] pos) (bOf (gUn vIsN g)) := by
  refine pt_weak (pt_cmp (pc_isN h) rfl) fun σ H Q h => ?_
  obtain ⟨F, ι, ρ, st, R, env, o⟩ := ttv_test σ H Q h
  refine tev_un (P := fun x H' => (fun y H' => ∃ k, y = V.bl k ∧ Q k H') (.bl (decide (x = .non))) H') ⟨F, ι, ρ, st, R, env, o⟩ fun F ι st H1 H0 x a R th r o => ?_
  have e := rel_none R r
  show ∃ k, V.bl (decide (x = .non)) = V.bl k ∧ Q k H1
  rw [e]
  cases a with
  | d y => cases y <;> exact Out.here o R (.bl _)
  | _ => exact Out.here o R (.bl _)
theorem t_notN {e : Expr} {g : G} {j pos'} (h : PEv X E e g) : PTv X E (.Compare e [.IsNot] [.Constant .none j pos'] pos) (bOf (gUn vNotN g)) := by
  refine pt_weak (pt_cmp (pc_notN h) rfl) fun σ H Q h => ?_
  obtain ⟨F, ι, ρ, st, R, env, o⟩ := ttv_test σ H Q h
  refine tev_un (P := fun x H' => (fun y H' => ∃ k, y = V.bl k ∧ Q k H') (.bl (!decide (x = .non))) H') ⟨F, ι, ρ, st, R, env, o⟩ fun F ι st H1 H0 x a R th r o => ?_
  have e := rel_none R r
  show ∃ k, V.bl (!decide (x = .non)) = V.bl k ∧ Q k H1
  rw [e]
  cases a with
  | d y => cases y <;> exact Out.here o R (.bl _)
  | _ => exact Out.here o R (.bl _)
end
/-! ### a display of a dict with written keys -/
def noOwn : Vl → Bool
  | .own _ => false
  | _ => true
/-- the items of a display, from the left -/
def keyAll (xs : List (Key × Vl)) : List (Key × Vl) := xs.foldl (fun acc p => putG acc p.1 p.2) []
def gDict (ks : List Key) (gs : GA) : G := fun ρ => M.bind (gs ρ) fun vs st => if (decide (vs.length = ks.length) && vs.all (belowB st.length)) = true then .ok (.ref st.length) (st ++ [.dic (keyAll (ks.zip vs))]) else .stuck
structure DPs (X : Cx) (E : EX) (pos : Pos) (keys : List (Option Expr)) (vals : List Expr) (ks : List Key) (gs : GA) : Prop where
  ex : ∃ trs, PPs X pos keys vals trs ∧ keys.all (·.isSome) = true ∧ keys.length = vals.length ∧ keys.length = ks.length ∧
    ∀ σ H (Q : List (V × V) → Hp → Prop), tav X.K X.mg E gs σ H (fun vs H' => vs.length = ks.length → Q ((ks.map kV).zip vs) H') → tPairs trs σ H Q
theorem DPs.nil {X : Cx} {pos : Pos} : DPs X E pos [] [] [] gaNil := ⟨⟨[], pps_nil, rfl, rfl, rfl, fun σ H Q h => by
  obtain ⟨F, ι, ρ, st, R, env, o⟩ := h
  exact o [] F ι H (Step.refl _ _ _) R .nil rfl⟩⟩
def isKey (k : Key) : PyData → Bool
  | .int i => decide (k = .inl i)
  | .str x => decide (k = .inr x)
  | _ => false
def kD : Key → PyData
  | .inl i => .int i
  | .inr x => .str x
theorem kD_rel {k : Key} (r : RelR K F ι H0 H v (.d (kD k))) : v = kV k := by
  cases k with
  | inl i => cases r; rfl
  | inr x => cases r; rfl
theorem kD_dn (k : Key) : Dn K F (kV k) (kD k) := by
  cases k with
  | inl i => exact .int i
  | inr x => exact .str x
theorem DPs.cons {X : Cx} {pos : Pos} {ke e : Expr} {keys : List (Option Expr)} {es : List Expr} {k : Key} {ks : List Key} {g : G} {gs : GA} (hk : PEv X E ke (gC (kD k))) (he : PEv X E e g) (hr : DPs X E pos keys es ks gs) :
    DPs X E pos (some ke :: keys) (e :: es) (k :: ks) (gaCons g gs) := by
  obtain ⟨trs, h1, h2, h3, h4, h5⟩ := hr.ex
  refine ⟨(_, _) :: trs, pps_cons hk he h1, by rw [List.all_cons, h2]; rfl, by rw [List.length_cons, List.length_cons, h3], by rw [List.length_cons, List.length_cons, h4], fun σ H Q h => ?_⟩
  obtain ⟨F, ι, ρ, st, R, env, o⟩ := h
  refine ⟨F, ι, ρ, st, R, env, ?_⟩
  show Out X.K X.mg E F ι H (relR X.K H) (.ok (.d (kD k)) st) _
  intro b F0 ι0 H0 s0 R0 r0
  obtain rfl := kD_rel r0
  refine ⟨F0, ι0, ρ, st, R0, env.step s0, (o.later s0).bind fun x F1 ι1 H1 a st1 s1 R1 r1 o1 => ?_⟩
  obtain ⟨F2, R2, s2, g2, r2⟩ := R1.frz s1.there s1 r1
  refine h5 σ H1 _ ⟨F2, ι1, ρ, st1, R2, env.step (s0.trans s2), (o1.later s2).bind fun ys F3 ι3 H3 bs st3 s3 R3 r3 o3 => ?_⟩
  exact fun hl => o3 (x :: ys) F3 ι3 H3 s3 R3 (.cons (r2.step s3) r3) (by rw [List.length_cons, List.length_cons, hl])
/-- the value, a new list, enters the store -/
theorem DPs.consE {X : Cx} {pos : Pos} {ke e : Expr} {keys : List (Option Expr)} {es : List Expr} {k : Key} {ks : List Key} {g : G} {gs : GA} (hk : PEv X E ke (gC (kD k))) (he : PEv X E e g) (hr : DPs X E pos keys es ks gs) :
    DPs X E pos (some ke :: keys) (e :: es) (k :: ks) (gaConsE g gs) := by
  obtain ⟨trs, h1, h2, h3, h4, h5⟩ := hr.ex
  refine ⟨(_, _) :: trs, pps_cons hk he h1, by rw [List.all_cons, h2]; rfl, by rw [List.length_cons, List.length_cons, h3], by rw [List.length_cons, List.length_cons, h4], fun σ H Q h => ?_⟩
  obtain ⟨F, ι, ρ, st, R, env, o⟩ := h
  refine ⟨F, ι, ρ, st, R, env, ?_⟩
  show Out X.K X.mg E F ι H (relR X.K H) (.ok (.d (kD k)) st) _
  intro b F0 ι0 H0 s0 R0 r0
  obtain rfl := kD_rel r0
  have e0 : gaConsE g gs ρ st = M.bind (g ρ) (fun x => M.bind (enter x) fun x => M.bind (gs ρ) fun xs => M.pure (x :: xs)) st := by
    unfold gaConsE M.bind
    cases g ρ st <;> rfl
  rw [e0] at o
  refine ⟨F0, ι0, ρ, st, R0, env.step s0, (o.later s0).bind fun x F1 ι1 H1 a st1 s1 R1 r1 o1 => ?_⟩
  cases a with
  | own xs =>
    obtain ⟨l, vs, rfl, q1, q2, q3, q4, q5⟩ := r1
    have R2 := R1.enter (ob := .lst xs) q2 q3 ⟨vs, q1, q5⟩ trivial
    have s2 := s1.enter q4
    have o2 : Out X.K X.mg E F0 ι0 H0 (relL X.K) (M.bind (gs ρ) (fun xs => M.pure (.ref st1.length :: xs)) (st1 ++ [.lst xs])) _ := o1
    refine h5 σ H1 _ ⟨F1, ι1 ++ [l], ρ, _, R2, env.step (s0.trans s2), (o2.later s2).bind fun ys F3 ι3 H3 bs st3 s3 R3 r3 o3 => ?_⟩
    refine fun hl => o3 (.ref l :: ys) F3 ι3 H3 s3 R3 (.cons ⟨l, ?_, rfl⟩ r3) (by rw [List.length_cons, List.length_cons, hl])
    refine s3.iget ?_
    rw [← R1.len, List.getElem?_append_right (Nat.le_refl _), Nat.sub_self]
    rfl
  | d x => exact o1.elim
  | ref n => exact o1.elim
  | scr n => exact o1.elim
theorem kv_merge : ∀ {ks : List Key} {vs : List V} {xs : List Vl} {us : List (Key × V)} {kvs : List (Key × Vl)}, KvR K F ι us kvs → Paired (RelVl K F ι) vs xs → KvR K F ι (mergeK us (ks.zip vs)) ((ks.zip xs).foldl (fun acc p => putG acc p.1 p.2) kvs)
  | [], vs, xs, us, kvs, h, r => by rw [List.zip_nil_left, List.zip_nil_left]; exact h
  | k :: ks, _, _, us, kvs, h, .nil => by rw [List.zip_nil_right, List.zip_nil_right]; exact h
  | k :: ks, _, _, us, kvs, h, .cons q r => by
    rw [List.zip_cons_cons, List.zip_cons_cons]
    exact kv_merge (ks := ks) (h.put q) r
theorem keyAll_mem : ∀ {ps : List (Key × Vl)} {acc : List (Key × Vl)} {p : Key × Vl}, p ∈ ps.foldl (fun acc p => putG acc p.1 p.2) acc → p ∈ acc ∨ ∃ q ∈ ps, p.2 = q.2
  | [], acc, p, h => .inl h
  | q :: ps, acc, p, h => by
    rcases keyAll_mem (ps := ps) h with h | ⟨r, hr, e⟩
    · rcases mem_putG h with h | h
      · exact .inl h
      · exact .inr ⟨q, List.mem_cons_self, h⟩
    · exact .inr ⟨r, List.mem_cons_of_mem _ hr, e⟩
theorem zip_map_fst : ∀ (ks : List Key) (vs : List V), (ks.map kV).zip vs = (ks.zip vs).map fun kv => (kV kv.1, kv.2)
  | [], vs => by rw [List.map_nil, List.zip_nil_left, List.zip_nil_left]; rfl
  | k :: ks, [] => by rw [List.zip_nil_right, List.zip_nil_right]; rfl
  | k :: ks, v :: vs => by rw [List.map_cons, List.zip_cons_cons, List.zip_cons_cons, List.map_cons, zip_map_fst ks vs]
theorem v_dict {X : Cx} {pos : Pos} {keys : List (Option Expr)} {vals : List Expr} {ks : List Key} {gs : GA} (h : DPs X E pos keys vals ks gs) (h0 : keys ≠ [] := by exact List.cons_ne_nil _ _) (h15 : keys.length ≤ 15 := by decide) :
    PEv X E (.Dict keys vals pos) (gDict ks gs) := by
  obtain ⟨trs, h1, h2, h3, h4, h5⟩ := h.ex
  refine pe_weak (pe_disp h1 h2 h3 h0 h15) fun σ H Q h => ?_
  obtain ⟨F, ι, ρ, st, R, env, o⟩ := h
  intro p hp
  obtain ⟨R', s'⟩ := R.put (o := .dK []) hp
  have np := R.ni hp
  have nf := R.nf hp
  refine h5 σ _ _ ⟨F, ι, ρ, st, R', env.step s', ?_⟩
  unfold gDict M.bind at o
  cases eg : gs ρ st with
  | stuck => rw [eg] at o; exact o.elim
  | exc e ρ' st' =>
    rw [eg] at o
    exact fun c dx σ' F' ι' H' s R re q => o c dx σ' F' ι' H' (s'.trans s) R re (q.back s'.there)
  | ok xs st1 =>
    rw [eg] at o
    intro vs F1 ι1 H1 s1 R1 r1 hl
    have o : Out X.K X.mg E F ι H (relR X.K H) (if (decide (xs.length = ks.length) && xs.all (belowB st1.length)) = true then .ok (.ref st1.length) (st1 ++ [.dic (keyAll (ks.zip xs))]) else .stuck) Q := o
    split at o
    · rename_i hz
      rw [Bool.and_eq_true] at hz
      have hb := hz.2
      have hp1 : H1 p = some (.dK []) := s1.keep p _ upd_same np ⟨fun _ z => (by cases z), fun _ z => (by cases z)⟩
      have np1 : p ∉ ι1 := s1.ni upd_same np
      have nf1 : F1 p = none := s1.nf upd_same nf
      refine ⟨hp1, ks.zip vs, zip_map_fst ks vs, by rw [List.length_zip, ← h4]; omega, ?_⟩
      have kr : KvR X.K F1 ι1 (mergeK [] (ks.zip vs)) (keyAll (ks.zip xs)) := kv_merge (us := []) (kvs := []) .nil r1
      have R2 : Rel X.K F1 ι1 st1 (upd H1 p (.dK (mergeK [] (ks.zip vs)))) := R1.put' nf1 np1 (fun _ z => by rw [hp1] at z; cases z) (fun _ z => by rw [hp1] at z; cases z)
      have R3 := R2.enter (p := p) (ob := .dic (keyAll (ks.zip xs))) nf1 np1 ⟨_, upd_same, paired_mono (fun a b ⟨e1, e2⟩ => ⟨e1, e2.mono (Same.refl F1) fun n a e => by rw [List.getElem?_append_left (List.getElem?_eq_some_iff.mp e).1]; exact e⟩) kr⟩ (fun q hq j ej => by
        rcases keyAll_mem hq with z | ⟨r, hr, er⟩
        · cases z
        · rw [er] at ej
          have := List.all_eq_true.mp hb r.2 (List.of_mem_zip (show (r.1, r.2) ∈ ks.zip xs from hr)).2
          rw [ej] at this
          exact of_decide_eq_true this)
      have S := s'.trans s1
      refine o (.ref p) F1 (ι1 ++ [p]) _ ⟨S.grow, S.new, (S.enter (.of hp)).iota, fun b x e nb od => ?_, fun b hb => ?_⟩ R3 ⟨p, ?_, rfl⟩
      · have ne : b ≠ p := fun z => by rw [z, hp] at e; cases e
        rw [upd_ne ne]
        exact S.keep b x e nb od
      · by_cases e : b = p
        · subst e; exact .of hp
        · exact S.there b fun x ex => hb x (by rw [upd_ne e]; exact ex)
      · rw [← R1.len, List.getElem?_append_right (Nat.le_refl _), Nat.sub_self]
        rfl
    · exact o.elim
end Zv
set_option Elab.async false
set_option linter.all false
set_option maxRecDepth 100000
set_option maxHeartbeats 4000000
/-! Z20: the rules in short, for the printed derivations. -/
namespace Zv
open PySem PySem.Spec PyProof.Rows L2
theorem _root_.L2.Room.z65 {k : Nat} {A : Around} (r : Room k A) : A.units + 65 < cLine := by have := r.un; omega
theorem _root_.L2.Room.z1 {k : Nat} {A : Around} (r : Room k A) : A.units + 1 < cLine := by have := r.un; omega
section
variable {X : Cx} {E : EX} {pos : Pos}
theorem nv (i : Nat) {x : Str} (hN : X.N[i]? = some x := by (first | rfl | with_unfolding_all rfl | decide)) (hv : Vis X.env.scope x := by (first | exact Or.inl rfl | exact Or.inr (Or.inl rfl) | exact Or.inr (Or.inr rfl))) (hd : (x == ("__debug__" : Str)) = false := by decide) (hcd : (x == ("__classdict__" : Str)) = false := by decide) : PEv X E (.Name x pos) (gVar i) := v_var hN hv hd hcd
/-- a written constant of the top, as it stands frozen -/
def CoV (K : PySem.W.Frag) (mg : Str → Option Value) (x : Str) (d : PyData) : Prop := ∃ v u, mg x = some u ∧ RelV v u ∧ ∀ F, Dn K F v d
theorem ngl {x : Str} {d : PyData} (c : CoV X.K X.mg x d) (hg : Gl X x := by rfl) (hdb : (x == ("__debug__" : Str)) = false := by decide) : PEv X E (.Name x pos) (gC d) := by
  obtain ⟨v, u, h1, h2, h3⟩ := c
  exact v_glob hg h1 h2 h3 hdb
variable {a b c e e2 : Expr} {ga gb gc g g2 : G} {p : Pos}
theorem nadd (ha : PEv X E a ga) (hb : PEv X E b gb) : PEv X E (.BinOp a .Add b pos) (gBin vAdd ga gb) := v_op op_addV ov_add ha hb
theorem nsub (ha : PEv X E a ga) (hb : PEv X E b gb) : PEv X E (.BinOp a .Sub b pos) (gBin vSub ga gb) := v_op op_subV ov_sub ha hb
theorem nmul (ha : PEv X E a ga) (hb : PEv X E b gb) : PEv X E (.BinOp a .Mult b pos) (gBin vMul ga gb) := v_op op_mulV ov_mul ha hb
theorem nmod (ha : PEv X E a ga) (hb : PEv X E b gb) : PEv X E (.BinOp a .Mod b pos) (gBin vModP ga gb) := v_op op_mod ov_modP ha hb
theorem nfdiv (ha : PEv X E a ga) (hb : PEv X E b gb) : PEv X E (.BinOp a .FloorDiv b pos) (gBin vFdiv ga gb) := v_op op_fdivW ov_fdiv ha hb
theorem npow (ha : PEv X E a ga) (hb : PEv X E b gb) : PEv X E (.BinOp a .Pow b pos) (gBin vPow ga gb) := v_op op_pow ov_pow ha hb
theorem nneg (ha : PEv X E a ga) : PEv X E (.UnaryOp .USub a pos) (gUn vNeg ga) := v_un un_neg uv_neg ha
section
variable {k : Nat} (hr : Room k X.A)
include hr
theorem neq (ha : PEv X E a ga) (hb : PEv X E b gb) (hm : behindInMarks .Eq b = false := by rfl) : PEv X E (.Compare a [.Eq] [b] pos) (gBin vEq ga gb) := v_cmp (op_eqV hr.units) ov_eq ha hb hm
theorem nne (ha : PEv X E a ga) (hb : PEv X E b gb) (hm : behindInMarks .NotEq b = false := by rfl) : PEv X E (.Compare a [.NotEq] [b] pos) (gBin vNe ga gb) := v_cmp (op_neV hr.units) ov_ne ha hb hm
theorem nin (ha : PEv X E a ga) (hb : PEv X E b gb) (hm : behindInMarks .In b = false := by rfl) : PEv X E (.Compare a [.In] [b] pos) (gBin (vInB false) ga gb) := v_cmp (op_inV hr.z65) (ov_in false) ha hb hm
theorem nnin (ha : PEv X E a ga) (hb : PEv X E b gb) (hm : behindInMarks .NotIn b = false := by rfl) : PEv X E (.Compare a [.NotIn] [b] pos) (gBin (vInB true) ga gb) := v_cmp (op_notInV hr.z65) (ov_in true) ha hb hm
theorem xeq (ha : PEv X E a ga) (hb : PEv X E b gb) (hm : behindInMarks .Eq b = false := by rfl) : PTv X E (.Compare a [.Eq] [b] pos) (bOf (gBin vEq ga gb)) := t_cmp (op_eqV hr.units) ov_eq ha hb hm
theorem xne (ha : PEv X E a ga) (hb : PEv X E b gb) (hm : behindInMarks .NotEq b = false := by rfl) : PTv X E (.Compare a [.NotEq] [b] pos) (bOf (gBin vNe ga gb)) := t_cmp (op_neV hr.units) ov_ne ha hb hm
theorem xin (ha : PEv X E a ga) (hb : PEv X E b gb) (hm : behindInMarks .In b = false := by rfl) : PTv X E (.Compare a [.In] [b] pos) (bOf (gBin (vInB false) ga gb)) := t_cmp (op_inV hr.z65) (ov_in false) ha hb hm
theorem xnin (ha : PEv X E a ga) (hb : PEv X E b gb) (hm : behindInMarks .NotIn b = false := by rfl) : PTv X E (.Compare a [.NotIn] [b] pos) (bOf (gBin (vInB true) ga gb)) := t_cmp (op_notInV hr.z65) (ov_in true) ha hb hm
end
theorem nlt (ha : PEv X E a ga) (hb : PEv X E b gb) (hm : behindInMarks .Lt b = false := by rfl) : PEv X E (.Compare a [.Lt] [b] pos) (gBin vLt ga gb) := v_cmp op_ltV ov_ord ha hb hm
theorem nle (ha : PEv X E a ga) (hb : PEv X E b gb) (hm : behindInMarks .LtE b = false := by rfl) : PEv X E (.Compare a [.LtE] [b] pos) (gBin vLe ga gb) := v_cmp op_leV ov_ord ha hb hm
theorem ngt (ha : PEv X E a ga) (hb : PEv X E b gb) (hm : behindInMarks .Gt b = false := by rfl) : PEv X E (.Compare a [.Gt] [b] pos) (gBin vGt ga gb) := v_cmp op_gtV ov_ord ha hb hm
theorem nge (ha : PEv X E a ga) (hb : PEv X E b gb) (hm : behindInMarks .GtE b = false := by rfl) : PEv X E (.Compare a [.GtE] [b] pos) (gBin vGe ga gb) := v_cmp op_geV ov_ord ha hb hm
theorem xlt (ha : PEv X E a ga) (hb : PEv X E b gb) (hm : behindInMarks .Lt b = false := by rfl) : PTv X E (.Compare a [.Lt] [b] pos) (bOf (gBin vLt ga gb)) := t_cmp op_ltV ov_ord ha hb hm
theorem xle (ha : PEv X E a ga) (hb : PEv X E b gb) (hm : behindInMarks .LtE b = false := by rfl) : PTv X E (.Compare a [.LtE] [b] pos) (bOf (gBin vLe ga gb)) := t_cmp op_leV ov_ord ha hb hm
theorem xgt (ha : PEv X E a ga) (hb : PEv X E b gb) (hm : behindInMarks .Gt b = false := by rfl) : PTv X E (.Compare a [.Gt] [b] pos) (bOf (gBin vGt ga gb)) := t_cmp op_gtV ov_ord ha hb hm
theorem xge (ha : PEv X E a ga) (hb : PEv X E b gb) (hm : behindInMarks .GtE b = false := by rfl) : PTv X E (.Compare a [.GtE] [b] pos) (bOf (gBin vGe ga gb)) := t_cmp op_geV ov_ord ha hb hm
/-! built-ins -/
theorem nlen (hm : X.mg "len" = none) (h : PEv X E e g) (hg : Gl X "len" := by rfl) (he : starEach [e] X.env = (false, eval e X.env) :: starEach [] X.env := by rfl) : PEv X E (.Call (.Name "len" p) [e] [] pos) (gUn vLen g) := v_b1 call_len c1_len (by first | rfl | decide) hg hm h (by decide) (by decide) he
theorem nall (hc : X.calm = true) (hm : X.mg "all" = none) (h : PEv X E e g) (hg : Gl X "all" := by rfl) (he : starEach [e] X.env = (false, eval e X.env) :: starEach [] X.env := by rfl) : PEv X E (.Call (.Name "all" p) [e] [] pos) (gUn vAll g) := v_b1 (cr_all hc) c1_all (by first | rfl | decide) hg hm h (by decide) (by decide) he
theorem nany (hc : X.calm = true) (hm : X.mg "any" = none) (h : PEv X E e g) (hg : Gl X "any" := by rfl) (he : starEach [e] X.env = (false, eval e X.env) :: starEach [] X.env := by rfl) : PEv X E (.Call (.Name "any" p) [e] [] pos) (gUn vAny g) := v_b1 (cr_any hc) c1_any (by first | rfl | decide) hg hm h (by decide) (by decide) he
theorem nsum (hc : X.calm = true) (hm : X.mg "sum" = none) (h : PEv X E e g) (hg : Gl X "sum" := by rfl) (he : starEach [e] X.env = (false, eval e X.env) :: starEach [] X.env := by rfl) : PEv X E (.Call (.Name "sum" p) [e] [] pos) (gUn vSum g) := v_b1 (cr_sum hc) c1_sum (by first | rfl | decide) hg hm h (by decide) (by decide) he
theorem nint (hm : X.mg "int" = none) (h : PEv X E e g) (hg : Gl X "int" := by rfl) (he : starEach [e] X.env = (false, eval e X.env) :: starEach [] X.env := by rfl) : PEv X E (.Call (.Name "int" p) [e] [] pos) (gUn vInt g) := v_t1 call_int1 c1_int (by first | rfl | decide) hg hm h (by decide) (by decide) he
theorem nstr (hm : X.mg "str" = none) (h : PEv X E e g) (hg : Gl X "str" := by rfl) (he : starEach [e] X.env = (false, eval e X.env) :: starEach [] X.env := by rfl) : PEv X E (.Call (.Name "str" p) [e] [] pos) (gUn vStr g) := v_t1 call_str_int c1_str (by first | rfl | decide) hg hm h (by decide) (by decide) he
theorem ntuple (hm : X.mg "tuple" = none) (h : PEv X E e g) (hg : Gl X "tuple" := by rfl) (he : starEach [e] X.env = (false, eval e X.env) :: starEach [] X.env := by rfl) : PEv X E (.Call (.Name "tuple" p) [e] [] pos) (gUn vTuple g) := v_t1 call_tuple_of c1_tuple (by first | rfl | decide) hg hm h (by decide) (by decide) he
theorem nlist (hm : X.mg "list" = none) (h : PEv X E e g) (hg : Gl X "list" := by rfl) (he : starEach [e] X.env = (false, eval e X.env) :: starEach [] X.env := by rfl) : PEv X E (.Call (.Name "list" p) [e] [] pos) (gUn vList g) := v_t1 call_list_of c1_list (by first | rfl | decide) hg hm h (by decide) (by decide) he
theorem nmax2 (hc : X.calm = true) (hm : X.mg "max" = none) (h : PEv X E e g) (h2 : PEv X E e2 g2) (hg : Gl X "max" := by rfl) (he : starEach [e, e2] X.env = (false, eval e X.env) :: starEach [e2] X.env := by rfl) (he2 : starEach [e2] X.env = (false, eval e2 X.env) :: starEach [] X.env := by rfl)
    (hpl : (backTo pos (starEach [e2] X.env)).any (·.1) = false := by rfl) : PEv X E (.Call (.Name "max" p) [e, e2] [] pos) (gBin vMax2 g g2) := v_b2 (call_max2 hc) c2_max (by first | rfl | decide) hg hm h h2 (by decide) (by decide) he he2 hpl
theorem nmin2 (hc : X.calm = true) (hm : X.mg "min" = none) (h : PEv X E e g) (h2 : PEv X E e2 g2) (hg : Gl X "min" := by rfl) (he : starEach [e, e2] X.env = (false, eval e X.env) :: starEach [e2] X.env := by rfl) (he2 : starEach [e2] X.env = (false, eval e2 X.env) :: starEach [] X.env := by rfl)
    (hpl : (backTo pos (starEach [e2] X.env)).any (·.1) = false := by rfl) : PEv X E (.Call (.Name "min" p) [e, e2] [] pos) (gBin vMin2 g g2) := v_b2 (call_min2 hc) c2_min (by first | rfl | decide) hg hm h h2 (by decide) (by decide) he he2 hpl
/-! methods -/
variable {apos cpos : Pos} {o : Expr} {es : List Expr} {go : G} {gs : GA}
theorem nappend (ho : PEv X E o go) (ha : PAv X E [e] gs) (hbase : attributeBase o "append" X.env (eval o X.env) = eval o X.env := by rfl) (hline : (apos.endLine == cpos.line) = true := by rfl)
    (hs : starEach [e] X.env = (false, eval e X.env) :: starEach [] X.env := by rfl) : PEv X E (.Call (.Attribute o "append" apos) [e] [] cpos) (gMeth isLst mAppend go gs) := v_meth PySem.F.plainAttrs_list PySem.F.slot_list_append PySem.F.type_list_append mt_append ty_lst mv_append ho ha hbase (by rw [hs]; rfl) hline hs
theorem nextend (ho : PEv X E o go) (ha : PAv X E [e] gs) (hbase : attributeBase o "extend" X.env (eval o X.env) = eval o X.env := by rfl) (hline : (apos.endLine == cpos.line) = true := by rfl)
    (hs : starEach [e] X.env = (false, eval e X.env) :: starEach [] X.env := by rfl) : PEv X E (.Call (.Attribute o "extend" apos) [e] [] cpos) (gMeth isLst mExtend go gs) := v_meth PySem.F.plainAttrs_list PySem.F.slot_list_extend PySem.F.type_list_extend mt_extend ty_lst mv_extend ho ha hbase (by rw [hs]; rfl) hline hs
theorem njoin (ho : PEv X E o go) (ha : PAv X E [e] gs) (hbase : attributeBase o "join" X.env (eval o X.env) = eval o X.env := by rfl) (hline : (apos.endLine == cpos.line) = true := by rfl)
    (hs : starEach [e] X.env = (false, eval e X.env) :: starEach [] X.env := by rfl) : PEv X E (.Call (.Attribute o "join" apos) [e] [] cpos) (gMeth isStr mJoin go gs) := v_meth PySem.F.plainAttrs_str PySem.F.slot_str_join PySem.F.type_str_join mt_join ty_str mv_join ho ha hbase (by rw [hs]; rfl) hline hs
theorem npop (ho : PEv X E o go) (hbase : attributeBase o "pop" X.env (eval o X.env) = eval o X.env := by rfl) (hline : (apos.endLine == cpos.line) = true := by rfl) :
    PEv X E (.Call (.Attribute o "pop" apos) [] [] cpos) (gMeth isLst mPop go gaNil) := v_meth0 PySem.F.plainAttrs_list PySem.F.slot_list_pop PySem.F.type_list_pop mt_pop ty_lst mv_pop ho hbase hline
theorem nupper (ho : PEv X E o go) (hbase : attributeBase o "upper" X.env (eval o X.env) = eval o X.env := by rfl) (hline : (apos.endLine == cpos.line) = true := by rfl) :
    PEv X E (.Call (.Attribute o "upper" apos) [] [] cpos) (gMeth isStr mUpper go gaNil) := v_meth0 PySem.F.plainAttrs_str PySem.F.slot_str_upper PySem.F.type_str_upper mt_upper ty_str mv_upper ho hbase hline
end
end Zv
set_option Elab.async false
set_option linter.all false
set_option maxRecDepth 100000
set_option maxHeartbeats 4000000
/-! Z21: keywords put in order; defs in which repr stands (no repr is under way around them). -/
namespace Zv
open PySem PySem.Spec PyProof.Rows L2
variable {K : PySem.W.Frag} {mg : Str → Option Value} {E : EX} {F F' F1 H H' H0 H1 : Hp} {ι ι' ι1 : Adr} {st st' st1 : Store} {v w : V} {a b : Vl}
/-! ### the order of keywords -/
def pickL {α : Type} (is : List Nat) (zs : List α) : List α := is.filterMap fun i => zs[i]?
def ordP (p : Nat) (is : List Nat) : Ord := fun xs ys => if xs.length = p ∧ ys.length + p = is.length then pickL is (xs ++ ys) else []
theorem paired_get {α β : Type} {P : α → β → Prop} : ∀ {l : List α} {m : List β} (i : Nat), Paired P l m → (l[i]? = none ∧ m[i]? = none) ∨ ∃ x y, l[i]? = some x ∧ m[i]? = some y ∧ P x y
  | _, _, i, .nil => .inl ⟨by simp, by simp⟩
  | _, _, 0, .cons h t => .inr ⟨_, _, rfl, rfl, h⟩
  | _, _, i + 1, .cons h t => by simpa using paired_get i t
theorem paired_pick {α β : Type} {P : α → β → Prop} {l : List α} {m : List β} (h : Paired P l m) : ∀ is : List Nat, Paired P (pickL is l) (pickL is m)
  | [] => .nil
  | i :: is => by
    unfold pickL
    rw [List.filterMap_cons, List.filterMap_cons]
    rcases paired_get i h with ⟨e1, e2⟩ | ⟨x, y, e1, e2, q⟩
    · rw [e1, e2]; exact paired_pick h is
    · rw [e1, e2]; exact .cons q (paired_pick h is)
theorem ordP_rel {α β : Type} {p : Nat} {is : List Nat} (P : α → β → Prop) {xs : List α} {us : List β} {ys : List α} {ws : List β} (h1 : Paired P xs us) (h2 : Paired P ys ws) : Paired P (ordP p is xs ys) (ordP p is us ws) := by
  unfold ordP
  rw [paired_len h1, paired_len h2]
  split
  · exact paired_pick (paired_app h1 h2) is
  · exact .nil
theorem ordP_len {α : Type} {p n : Nat} {is : List Nat} {us ws : List α} (h : (ordP p is us ws).length = n + 1) : us.length = p ∧ ws.length + p = is.length := by
  unfold ordP at h
  split at h
  · assumption
  · cases h
/-! ### a block's names, looked at by computation -/
def blkB (N : List Str) (sc scope : Scope) (own : List (Str × Nat)) : Bool :=
  decide (scope.kind = .function) && scope.names.all (fun y => decide (scope.names.lookup y.1 = some y.2)) && own.all (fun p => decide (N[p.2]? = some p.1)) &&
  scope.names.all (fun y => decide (y.2 = .free → sc.names.lookup y.1 = some .cell ∨ sc.names.lookup y.1 = some .free)) && scope.names.all (fun y => decide (y.2 = .local ∨ y.2 = .cell → y.1 ∈ own.map (·.1) ∨ y.1 ∉ N))
theorem blk_of {N : List Str} {sc scope : Scope} {own : List (Str × Nat)} (h : blkB N sc scope own = true) : BlkOk N sc scope own := by
  unfold blkB at h
  simp only [Bool.and_eq_true, List.all_eq_true, decide_eq_true_eq] at h
  obtain ⟨⟨⟨⟨h1, h2⟩, h3⟩, h4⟩, h5⟩ := h
  exact ⟨h1, h2, h3, h4, h5⟩
/-! ### an own exception -/
def XcV (K : PySem.W.Frag) (mg : Str → Option Value) (nm : Str) : Prop := ∃ qi C fI, PySem.ZxT.Txt K mg nm qi C fI
/-- its class, as it is caught, and its base class P -/
def YcV (K : PySem.W.Frag) (mg : Str → Option Value) (nm pn : Str) : Prop :=
  ∃ qi C fI P, PySem.ZxT.Txt K mg nm qi C fI ∧ PySem.W.exmOne K (.ref C) (.ref C) = some true ∧ L2.ExcC K C ∧ mg pn = some (.ref P) ∧ PySem.W.kitOne K (.ref C) (.ref P) = some true
/-- m is none of nm -/
def NmV (K : PySem.W.Frag) (mg : Str → Option Value) (m nm : Str) : Prop := ∃ C' C, mg m = some (.ref C') ∧ mg nm = some (.ref C) ∧ PySem.W.exmOne K (.ref C') (.ref C) = some false
theorem nm_of {m nm : Str} {C : Addr} (h : NmV K mg m nm) (g : mg nm = some (.ref C)) : ∃ C', mg m = some (.ref C') ∧ PySem.W.exmOne K (.ref C') (.ref C) = some false := by
  obtain ⟨C', C2, h1, h2, h3⟩ := h
  rw [g] at h2
  cases h2
  exact ⟨C', h1, h3⟩
section
variable {X : Cx} {nm : Str}
theorem nraise {a : Expr} {gs : GA} {p pos pos2 : Pos} {k : Nat} (T : XcV X.K X.mg nm) (hr : Room k X.A) (tk : Takes X E.w) (ha : PAv X E [a] gs) (hc : X.calm = true := by rfl) (hg : Gl X nm := by rfl) (hdb : (nm == ("__debug__" : Str)) = false := by decide)
    (he : starEach (a :: []) X.env = (false, eval a X.env) :: starEach [] X.env := by rfl) (hpl : (backTo pos (starEach [] X.env)).any (·.1) = false := by rfl) :
    PSv X E (.Raise (some (.Call (.Name nm p) [a] [] pos)) none pos2) (sRaise nm gs) := by
  obtain ⟨qi, C, fI, T⟩ := T
  exact sv_raise hc T hr tk ha hg hdb he hpl
end
/-! ### defs around which no repr is under way -/
structure ClG (P : Program) (w : World) (K : PySem.W.Frag) (mg : Str → Option Value) (base : Heap) (k : Nat) (x : Str) (stm : Stmt) (ps : List Str) (m : List Vl → M Vl) : Prop where
  ex : ∃ (f : Addr) (fd : FuncData), (∀ (A : Around) (outer : List PySem.Env) (s : Shared) (H : Hp) (args : Args) (us : List Value) (vs : List V) (Q : VK) (E : XK), Room k A → A.guards = some [] → Env0 P w K mg base A outer s H → BindsTo s fd args (ps.zip us) → Vals vs us → spv K mg ps.length m vs H Q E →
    codeAny (model P w) A (.call (.ref f) args) (CR (L2.CX P w) outer P w H s Q E) s) ∧ mg x = some (.ref f) ∧ Fun K x x stm f fd ∧ Binds K fd ps []
theorem Cl.g {P : Program} {w : World} {base : Heap} {k : Nat} {x : Str} {stm : Stmt} {ps : List Str} {m : List Vl → M Vl} (c : Cl P w K mg base k x stm ps m) : ClG P w K mg base k x stm ps m := by
  obtain ⟨f, fd, F, r⟩ := c.ex
  exact ⟨f, fd, fun A outer s H args us vs Q E hr _ e0 hb r h => F.run A outer s H args us vs Q E hr e0 hb r h, r⟩
theorem cl_ofG {P : Program} {w : World} {base : Heap} {x : Str} {stm : Stmt} {ps N : List Str} {k : Nat} {keep : Bool} {b : SG} (T : Tx K mg x stm ps) (S : FnScope N ps (defScope stm))
    (hb : ∀ (f : Addr) (cdv : Value) (A : Around) (outer : List PySem.Env) (s : Shared) (H : Hp) (E : XK), Room k (A.deeper (envOfC x (defScope stm) s.heap.objs.size f cdv)) → A.guards = some [] → PSsv (cxv P w K mg base N x (defScope stm) f cdv A outer s H E) (.fn E) (defBody stm) b) :
    ClG P w K mg base (k + 1) x stm ps (fnM keep N.length b) := by
  obtain ⟨f, fd, F, hm, hB⟩ := T.ex
  refine ⟨f, fd, fun A outer s H args us vs Q E hr hG e0 hbt r h => ?_, hm, F, hB⟩
  obtain ⟨oc, od, kV, doc, pm, an, cdv, ct, osl, rfl, lk, hcd⟩ := F.ex
  obtain ⟨F', ι, st, xs, R, p, hl, o⟩ := h
  refine LamX.run_ofS lk hcd S hr e0 hbt r ((paired_len p).trans hl) fun hr' => ⟨tsv K mg (.fn E) b, hb f cdv A outer s H E hr' hG, ?_⟩
  exact ⟨F', ι, _, st, R, ⟨trivial, relEnv_start p⟩, fnM_out R o⟩
section
variable {X : Cx} {gs : GA} {m : List Vl → M Vl} {k j : Nat} {stm : Stmt} {ps : List Str} {pos : Pos}
theorem run_g {pins : List (Addr × Obj)} {σ : L2.St} {s : Shared} {Q : VK} {us : List Value} {vs : List V} {x : Str} {E : L2.St → XK} (c : ClG X.prog X.w X.K X.mg X.base k x stm ps m) (hG : X.A.guards = some []) (hr : Room k X.A) (hx : PassesAt (L2.CX X.prog X.w) X σ (E σ))
    (I : Inv X pins σ H s) (r : Vals vs us) (h : spv X.K X.mg ps.length m vs H Q (E σ)) : ∃ f, X.mg x = some (.ref f) ∧ PySem.W.keepIn X.K (.ref f) = true ∧ wpAny (model X.prog X.w) X.A (call (.ref f) us) (EP X pins σ Q) X.xe s := by
  obtain ⟨f, fd, run, hm, hF, hB⟩ := c.ex
  refine ⟨f, hm, hF.kp, ?_⟩
  obtain ⟨F1, ι1, st1, xs, R1, p1, l1, o1⟩ := id h
  have hl : us.length = ps.length := by rw [← r.length, paired_len p1]; exact l1
  have bt := hB s us I.kIn (by rw [List.append_nil]; exact hl)
  rw [List.append_nil] at bt
  refine wpAny_call (codeAny_mono (run X.A X.stack s H ⟨us, []⟩ us vs Q (E σ) hr hG I.env0 bt r h) fun q s' hq => ?_)
  match q, hq with
  | .error e, hq => exact hx pins H s e s' I hq
  | .ok (.ret u), hq => exact I.after hq
theorem ClG.addr {P : Program} {w : World} {base : Heap} {x : Str} (c : ClG P w K mg base k x stm ps m) : ∃ f, mg x = some (.ref f) ∧ PySem.W.keepIn K (.ref f) = true := by
  obtain ⟨f, fd, run, hm, hF, hB⟩ := c.ex
  exact ⟨f, hm, hF.kp⟩
theorem v_callG {x : Str} {p : Pos} {e : Expr} {es : List Expr} (hG : X.A.guards = some []) (c : ClG X.prog X.w X.K X.mg X.base k x stm ps m) (hk : k ≤ j) (hr : Room j X.A) (hg : Gl X x) (tk : Takes X E.w) (hl : GaLen gs ps.length)
    (ha : PAv X E (e :: es) gs) (hdb : (x == ("__debug__" : Str)) = false := by decide) (he : starEach (e :: es) X.env = (false, eval e X.env) :: starEach es X.env := by rfl) (hpl : (backTo pos (starEach es X.env)).any (·.1) = false := by rfl) :
    PEv X E (.Call (.Name x p) (e :: es) [] pos) (gCall m gs) := by
  obtain ⟨f, hm, hkp⟩ := c.addr
  refine pe_weak (t := tCallS (spv X.K X.mg ps.length m) (WE E.w) (tav X.K X.mg E gs)) ⟨fun pins s σ H Q I h => ?_⟩ fun σ H Q h => tev_call σ H Q hl.ok h
  refine wpAny_Call_Name_kw (ld_glob I hg hm ?_ hdb)
  refine PySem.W.callWith_K (h₀ := X.base) I.ok.mod.kin hkp (thn (ha.run pos pins s σ H _ I h) fun us s1 ⟨vs, H1, I1, r, q⟩ => ⟨I1.kIn, ?_⟩) he hpl
  obtain ⟨f', hm', _, z⟩ := run_g (E := WE E.w) c hG (hr.mono hk) (passAt tk σ) I1 r q
  rw [hm] at hm'
  cases hm'
  exact z
end
end Zv
set_option Elab.async false
set_option linter.all false
set_option maxRecDepth 100000
set_option maxHeartbeats 4000000
/-! Z22: the end of a law that stands with no repr under way, with tables of code objects. -/
namespace Zv
open PySem PySem.Spec PyProof.Rows L2
/-- what is tracked at the law's entry: the tables, and the script if the top does not hold it -/
def zH (T : List Addr) (a : Addr) (o? : Option HO) : Hp := fun b => if b ∈ T then some (.tbl #[]) else if b = a then o? else none
theorem zH_tbl {T : List Addr} {a : Addr} {o? : Option HO} {b : Addr} (h : b ∈ T) : zH T a o? b = some (.tbl #[]) := if_pos h
theorem zH_scr {T : List Addr} {a : Addr} {o? : Option HO} (h : a ∉ T) : zH T a o? a = o? := by unfold zH; rw [if_neg h, if_pos rfl]
theorem zH_no {T : List Addr} {a : Addr} {o? : Option HO} {b : Addr} (h : b ∉ T) (h2 : b ≠ a) : zH T a o? b = none := by unfold zH; rw [if_neg h, if_neg h2]
abbrev tblO : Obj := { cls := .none, data := .fields #[] }
/-- the law's def, called with the script: what is asked of its walk -/
def WalkG (P : Program) (w : World) (K : PySem.W.Frag) (mg : Str → Option Value) (fa a : Addr) (cs : List (Addr × Addr)) (ns : List Int) (s1 : Shared) : Prop :=
  ∀ (base : Heap) (H : Hp), K.In base → base.Ns mainGlobals mg → (∀ p ∈ cs, LamX.TabB base mg p.1 p.2) → Env0 P w K mg base callerA [] s1 H → (∀ p ∈ cs, H p.2 = some (.tbl #[])) →
    (∀ b u, H b = some u → b ∉ cs.map (·.2) → ∃ o xs, u = .frz o (.lst xs)) → SqL K H a (ns.map V.int) → a ∉ cs.map (·.2) →
    codeAny (model P w) callerA (.call (.ref fa) ⟨[.ref a], []⟩) (CR (L2.CX P w) [] P w H s1 (fun v _ => v = .bl true) fun _ _ _ => False) s1
section
variable {P : Program} {w : World} {K : PySem.W.Frag} {mg mb : Str → Option Value} {fa a : Addr} {cs : List (Addr × Addr)} {s1 : Shared} {its : List Value} {ns : List Int}
theorem end_core (inK : K.In s1.heap) (g1 : s1.heap.Ns mainGlobals mg) (g2 : s1.heap.Ns builtinsNs mb) (g3 : ∀ x : Str, x ≠ "__name__" → mb x = bootBuiltins x) (g4 : s1.heap.NoLimit) (g5 : s1.gens = #[])
    (t1 : ∀ p ∈ cs, s1.heap.get? p.2 = some tblO) (t2 : ∀ p ∈ cs, K.lookup p.2 = none) (t3 : ∀ p ∈ cs, PySem.W.CodeHd s1.heap p.1 p.2)
    (t4 : ∃ (m : Addr) (om : Obj), mg "__builtins__" = some (.ref m) ∧ m ≠ builtinsNs ∧ s1.heap.get? m = some om ∧ om.cls = .type "module" ∧ om.dict = some builtinsNs ∧ om.data = .plain)
    (ha : s1.heap.get? a = some { cls := .type "list", data := .seq its.toArray }) (hi : IntsAre its ns) (hl : ns.length ≤ sizeLine) (W : WalkG P w K mg fa a cs ns s1)
    {o? : Option HO} (ho : (o? = none ∧ (K.lookup a).isSome) ∨ (o? = some (.frz { cls := .type "list", data := .seq its.toArray } (.lst (ns.map V.int))) ∧ K.lookup a = none)) :
    codeAny (model P w) callerA (.call (.ref fa) ⟨[.ref a], []⟩) (fun r s' => r = .ok (.ret (.bool true)) ∧ OldK s1.heap s'.heap ∧ s'.os = s1.os ∧ AllBare s'.gens) s1 := by
  have rv := vals_ints hi
  generalize hTT : cs.map (·.2) = TT
  have onT : ∀ {b}, b ∈ TT → ∃ p ∈ cs, p.2 = b := fun {b} h => by rw [← hTT] at h; exact List.mem_map.mp h
  have inT : ∀ {p}, p ∈ cs → p.2 ∈ TT := fun {p} h => by rw [← hTT]; exact List.mem_map.mpr ⟨p, h, rfl⟩
  have tO : ∀ {b}, b ∈ TT → s1.heap.get? b = some tblO := fun {b} h => let ⟨p, h1, h2⟩ := onT h; h2 ▸ t1 p h1
  have aT : a ∉ TT := fun h => by
    have z := (tO h).symm.trans ha
    have z2 := congrArg Obj.data (Option.some.inj z)
    cases z2
  have free : ∀ {b : Addr} {o : Obj}, s1.heap.get? b = some o → o.data ≠ .fields #[] → (∀ vs n, o.data ≠ .seq vs n) → zH TT a o? b = none := fun {b o} e h1 h2 =>
    zH_no (fun h => h1 (by rw [Option.some.inj (e.symm.trans (tO h))])) fun h => by
      subst h
      exact h2 _ _ (by rw [Option.some.inj (e.symm.trans ha)])
  have hS : SqL K (zH TT a o?) a (ns.map V.int) := by
    rcases ho with ⟨_, h2⟩ | ⟨h1, _⟩
    · obtain ⟨o, hk⟩ := Option.isSome_iff_exists.mp h2
      have z := (inK a o hk).symm.trans ha
      cases z
      exact .inr ⟨_, its.toArray, _, hk, rfl, rfl, rfl, by rw [List.size_toArray, hi.length]; exact hl, by simpa using rv⟩
    · exact .inl (.inr ⟨_, (zH_scr aT).trans h1⟩)
  have hok : HOk P w (zH TT a o?) s1.heap := fun b u z => by
    by_cases hb : b ∈ TT
    · rw [zH_tbl hb] at z
      cases z
      exact tO hb
    · by_cases e : b = a
      · subst e
        rw [zH_scr hb] at z
        rcases ho with ⟨h1, _⟩ | ⟨h1, _⟩
        · rw [h1] at z; cases z
        · rw [h1] at z
          cases z
          exact ⟨ha, by rw [List.length_map]; exact hl, its, _, rv, ha⟩
      · rw [zH_no hb e] at z
        cases z
  have only : ∀ b u, zH TT a o? b = some u → b ∉ TT → ∃ o xs, u = .frz o (.lst xs) := fun b u z hb => by
    by_cases e : b = a
    · subst e
      rw [zH_scr hb] at z
      rcases ho with ⟨h1, _⟩ | ⟨h1, _⟩
      · rw [h1] at z; cases z
      · rw [h1] at z
        cases z
        exact ⟨_, _, rfl⟩
    · rw [zH_no hb e] at z
      cases z
  have ns' : ∀ {b : Addr} {m : Str → Option Value}, s1.heap.Ns b m → (hidT s1.heap (zH TT a o?)).Ns b m := fun {b m} ⟨o, es, n, e, d, r⟩ =>
    ⟨o, es, n, hidT_get e (free e (fun z => by rw [d] at z; cases z) fun _ _ z => by rw [d] at z; cases z), d, r⟩
  have inB : K.In (hidT s1.heap (zH TT a o?)) := fun b o e => hidT_get (inK b o e) (by
    have nb : b ∉ TT := fun h => by
      obtain ⟨p, h1, h2⟩ := onT h
      have z := t2 p h1
      rw [h2] at z
      exact absurd (e.symm.trans z) (by simp)
    by_cases eb : b = a
    · subst eb
      rw [zH_scr nb]
      rcases ho with ⟨h1, _⟩ | ⟨_, h2⟩
      · exact h1
      · exact absurd (e.symm.trans h2) (by simp)
    · exact zH_no nb eb)
  have glob := ns' g1
  have TB : ∀ p ∈ cs, LamX.TabB (hidT s1.heap (zH TT a o?)) mg p.1 p.2 := fun p hp => by
    refine ⟨?_, ?_, fun z => ?_⟩
    · obtain ⟨oc, us, c1, c2, c3, c4, c5, c6, c7, d1, d2, d3, d4, d5⟩ := t3 p hp
      exact ⟨oc, us, c1, c2, c3, c4, c5, c6, c7, hidT_get d1 (free d1 (fun z => by
        rw [d3] at z
        cases z
        simp at d4) fun _ _ z => by rw [d3] at z; cases z), d2, d3, d4, d5⟩
    · obtain ⟨m, om, m1, m2, m3, m4, m5, m6⟩ := t4
      refine ⟨m, om, m1, m2, fun q => ?_, fun q => ?_, hidT_get m3 (free m3 (fun z => by rw [m6] at z; cases z) fun _ _ z => by rw [m6] at z; cases z), m4, m5, m6⟩
      · obtain ⟨od, es, n, e, d, _⟩ := g1
        rw [← q, m3] at e
        cases e
        rw [m6] at d
        cases d
      · have e := t1 p hp
        rw [← q, m3] at e
        have z := Option.some.inj e
        rw [z] at m6
        cases m6
    · obtain ⟨od, es, n, e, d, _⟩ := g1
      rw [z, t1 p hp] at e
      cases e
      cases d
  have e0 : Env0 P w K mg (hidT s1.heap (zH TT a o?)) callerA [] s1 (zH TT a o?) :=
    ⟨rfl, ⟨inB, glob, ⟨mb, ns' g2, g3⟩, let ⟨mc, q1, q2⟩ := g4; ⟨mc, ns' q1, q2⟩⟩, fun b o e => of_hidT e, Nat.le_of_eq (hidT_size _ _), trivial, fun b hb => absurd (show b ∈ ([] : List Addr) from hb) (by simp), hok, .of_eq g5⟩
  refine codeAny_mono (W _ _ inB glob TB e0 (fun p hp => zH_tbl (inT hp)) (by rw [hTT]; exact only) hS (by rw [hTT]; exact aT)) fun r s' h => ?_
  match r, h with
  | .error e, h =>
    obtain ⟨_, _, _, _, _, _, _, _, _, _, _, _, z⟩ := h
    exact z.elim
  | .ok (.ret u), h =>
    obtain ⟨v, H', os, bare, un, hok', r', q⟩ := h
    have q : v = .bl true := q
    subst q
    obtain rfl : u = Value.bool true := r'
    have stay : ∀ b o, b ∉ TT → s1.heap.get? b = some o → s'.heap.get? b = some o := fun b o nb e => by
      cases q : zH TT a o? b with
      | none => exact un.keep b o e q (fun z => absurd (show b ∈ ([] : List Addr) from z) (by simp)) (by simp)
      | some u =>
        obtain ⟨ob, xs, rfl⟩ := only b u q nb
        have k1 := (hok b _ q).1
        have k2 := (hok' b _ (un.frzs b ob _ q)).1
        rw [e] at k1
        rw [Option.some.inj k1]
        exact k2
    have more : ∀ {b}, b ∈ TT → ∃ vs : Array Value, s'.heap.get? b = some { cls := .none, data := .fields vs } := fun {b} hb => by
      obtain ⟨vs, z⟩ := un.tbls b #[] (zH_tbl hb)
      exact ⟨_, hok' b _ z⟩
    refine ⟨rfl, ⟨fun b o e => ?_, fun b o e => ?_⟩, os, bare⟩
    · by_cases hb : b ∈ TT
      · obtain ⟨p, hp, rfl⟩ := onT hb
        obtain ⟨vs, z⟩ := more hb
        rw [t1 p hp] at e
        cases e
        exact .inr (.inl ⟨((t3 p hp).tab (t1 p hp)).isCodeTable, rfl, #[], vs, rfl, by rw [Array.empty_append]; exact z⟩)
      · exact .inl (stay b o hb e)
    · by_cases hb : b ∈ TT
      · obtain ⟨vs, z⟩ := more hb
        exact ⟨_, z⟩
      · exact ⟨o, stay b o hb e⟩
theorem end_g (inK : K.In s1.heap) (g1 : s1.heap.Ns mainGlobals mg) (g2 : s1.heap.Ns builtinsNs mb) (g3 : ∀ x : Str, x ≠ "__name__" → mb x = bootBuiltins x) (g4 : s1.heap.NoLimit) (g5 : s1.gens = #[])
    (t1 : ∀ p ∈ cs, s1.heap.get? p.2 = some tblO) (t2 : ∀ p ∈ cs, K.lookup p.2 = none) (t3 : ∀ p ∈ cs, PySem.W.CodeHd s1.heap p.1 p.2)
    (t4 : ∃ (m : Addr) (om : Obj), mg "__builtins__" = some (.ref m) ∧ m ≠ builtinsNs ∧ s1.heap.get? m = some om ∧ om.cls = .type "module" ∧ om.dict = some builtinsNs ∧ om.data = .plain)
    (ha : s1.heap.get? a = some { cls := .type "list", data := .seq its.toArray }) (hi : IntsAre its ns) (hl : ns.length ≤ sizeLine) (W : WalkG P w K mg fa a cs ns s1) :
    codeAny (model P w) callerA (.call (.ref fa) ⟨[.ref a], []⟩) (fun r s' => r = .ok (.ret (.bool true)) ∧ OldK s1.heap s'.heap ∧ s'.os = s1.os ∧ AllBare s'.gens) s1 := by
  cases hk : K.lookup a with
  | some o => exact end_core inK g1 g2 g3 g4 g5 t1 t2 t3 t4 ha hi hl W (o? := none) (.inl ⟨rfl, by rw [hk]; rfl⟩)
  | none => exact end_core inK g1 g2 g3 g4 g5 t1 t2 t3 t4 ha hi hl W (.inr ⟨rfl, hk⟩)
end
end Zv
set_option Elab.async false
set_option linter.all false
set_option maxRecDepth 100000
set_option maxHeartbeats 4000000
/-! Z23: from the law's body to the walk that the statement asks. -/
namespace Zv
open PySem PySem.Spec PyProof.Rows L2
section
variable {P : Program} {w : World} {K : PySem.W.Frag} {mg : Str → Option Value} {fa a : Addr} {cs : List (Addr × Addr)} {s1 : Shared} {ns : List Int}
def tab0 (cs : List (Addr × Addr)) (q : Str) : Store := cs.map fun p => .tab p.2 q
theorem rel0 {H : Hp} {q : Str} (hT : ∀ p ∈ cs, H p.2 = some (.tbl #[])) (hO : ∀ b u, H b = some u → b ∉ cs.map (·.2) → ∃ o xs, u = .frz o (.lst xs)) (nd : (cs.map (·.2)).Nodup) :
    Rel K (fun b => if b ∈ cs.map (·.2) then none else H b) (cs.map (·.2)) (tab0 cs q) H := by
  refine ⟨fun b x e => ?_, fun b o e ps z => ?_, fun m o e => ?_, by unfold tab0; simp, nd, fun b hb => if_pos hb, fun n b o e1 e2 => ?_⟩
  · by_cases hb : b ∈ cs.map (·.2)
    · simp only [if_pos hb] at e; cases e
    · simp only [if_neg hb] at e; exact e
  · by_cases hb : b ∈ cs.map (·.2)
    · simp only [if_pos hb] at e; cases e
    · simp only [if_neg hb] at e
      obtain ⟨ob, xs, e2⟩ := hO b o e hb
      rw [e2] at z
      cases z
  · unfold tab0 at e
    rw [List.getElem?_map] at e
    obtain ⟨p, _, rfl⟩ := Option.map_eq_some_iff.mp e
    trivial
  · unfold tab0 at e2
    rw [List.getElem?_map] at e1 e2
    obtain ⟨p, hp, rfl⟩ := Option.map_eq_some_iff.mp e1
    rw [hp] at e2
    cases e2
    exact ⟨rfl, #[], hT p (List.mem_of_getElem? hp), (by first | exact .nil | trivial | simp [LamX.TriplesOk] | exact fun _ h => (by cases h)), fun pos cv h => by cases h⟩
theorem walkG_of {stm : Stmt} {N : List Str} {k : Nat} {b : SG} {q : Str} {oc kV doc pm cdv ct : Value} {od an : Option Addr} {osl : Array (Option Value)} (lk : K.lookup fa = some ⟨oc, od, .func (PySem.W.fnOf "law" "law" (defArgs stm) (defBody stm) (defScope stm) .none kV doc pm an cdv ct), osl⟩)
    (hcd : PySem.W.codeIn K cdv "law" = true) (S : FnScope N ["script"] (defScope stm)) (hr : Room (k + 1) callerA) (nd : (cs.map (·.2)).Nodup)
    (bind : ∀ (s : Shared) (u : Value), BindsTo s (PySem.W.fnOf "law" "law" (defArgs stm) (defBody stm) (defScope stm) .none kV doc pm an cdv ct) ⟨[u], []⟩ [("script", u)])
    (hb : ∀ (base : Heap) (s : Shared) (H : Hp) (E : XK), K.In base → base.Ns mainGlobals mg → (∀ p ∈ cs, LamX.TabB base mg p.1 p.2) → Room k (callerA.deeper (envOfC "law" (defScope stm) s.heap.objs.size fa cdv)) → PSsv (cxv P w K mg base N "law" (defScope stm) fa cdv callerA [] s H E) (.fn E) (defBody stm) b)
    (law : ∃ st, fnM true N.length b [.scr ns] (tab0 cs q) = .ok (.d (.bool true)) st) : WalkG P w K mg fa a cs ns s1 := by
  intro base H inK glob TB e0 hT hO hS haT
  obtain ⟨st, el⟩ := law
  have R := rel0 (K := K) (q := q) hT hO nd
  have hF : SqL K (fun b => if b ∈ cs.map (·.2) then none else H b) a (ns.map V.int) := by
    rcases hS with (h | ⟨ob, h⟩) | h
    · exact .inl (.inl (by show (if a ∈ cs.map (·.2) then none else H a) = _; rw [if_neg haT]; exact h))
    · exact .inl (.inr ⟨ob, by show (if a ∈ cs.map (·.2) then none else H a) = _; rw [if_neg haT]; exact h⟩)
    · exact .inr h
  have p1 : Paired (RelVl K (fun b => if b ∈ cs.map (·.2) then none else H b) (cs.map (·.2))) [V.ref a] [Vl.scr ns] := .cons ⟨a, rfl, hF⟩ .nil
  refine LamX.run_ofS (us := [.ref a]) (vs := [.ref a]) lk hcd S hr e0 (bind s1 (.ref a)) (.cons rfl .nil) rfl fun hr' => ⟨tsv K mg (.fn fun _ _ _ => False) b, hb base s1 H _ inK glob TB hr', ?_⟩
  refine ⟨_, _, _, _, R, ⟨trivial, relEnv_start p1⟩, fnM_out (keep := true) (b := b) (n := N.length) (xs := [.scr ns]) (Q := fun v _ => v = .bl true) R ?_⟩
  rw [el]
  exact fun v F' ι' H' s R' r => by cases r; rfl
end
theorem walk_g {l : PySem.W.OpenLaw} {n : Nat} {q : Program} {loose : List Str} {XP : (Str → Option Value) → Heap → Prop} {YP : World → Heap → Prop} {d : DefRec} (hn : l.most = some n) (hn2 : n ≤ sizeLine) (hdf : d.params.defaults = [])
    (F : ∀ (w : World) (mg : Str → Option Value) (fa : Addr) (h : Heap), YP w h → h.Ns mainGlobals mg → mg d.name = some (.ref fa) →
      ∃ (K : PySem.W.Frag) (cs : List (Addr × Addr)), K.In h ∧ (∀ p ∈ cs, h.get? p.2 = some tblO) ∧ (∀ p ∈ cs, K.lookup p.2 = none) ∧ (∀ p ∈ cs, PySem.W.CodeHd h p.1 p.2) ∧
        ∀ (s1 : Shared) (a : Addr) (ns : List Int), ns.length ≤ n → (∀ z ∈ ns, Builtin.Int.intBits z ≤ 1048576) → WalkG l.prog w K mg fa a cs ns s1) :
    PySem.W.WalkO q loose XP YP l.row.toRowW d [] (fun f vs => PySem.call f vs) := by
  refine Att.attach_callB hn hdf fun w s0 s1 mg mb fa o pm cd doc a its ns Gr Y _ _ _ hmg hobj hints hlen hbits hg => ?_
  obtain ⟨K, cs, k1, k2, k3, k4, W⟩ := F w mg fa _ Y Gr.T.g hmg
  exact end_g k1 Gr.T.g Gr.T.b Gr.T.builtins Gr.T.nolimit hg k2 k3 k4 Gr.T.bmain hobj hints (Nat.le_trans hlen hn2) (W s1 a ns hlen hbits)
end Zv
set_option Elab.async false
set_option linter.all false
set_option maxRecDepth 100000
set_option maxHeartbeats 4000000
/-! Z24: from the head's facts to what the derivations want. -/
namespace Zv
open PySem PySem.Spec PyProof.Rows L2
/-- a written tuple of the top -/
def CoT (K : PySem.W.Frag) (mg : Str → Option Value) (x : Str) (ds : List PyData) : Prop := ∃ v u, mg x = some u ∧ RelV v u ∧ ∀ H, Dp K H v (.tuple ds)
/-- x in a written tuple -/
def vInK (neg : Bool) (ds : List PyData) : Vl → M Vl := fun x st => match datOf x st with
  | some d => if (SeqAt.shaped d && SeqAt.shaped (.tuple ds)) = true then .ok (.d (.bool (if neg then !ds.any (fun z => PyData.eqv z d) else ds.any fun z => PyData.eqv z d))) st else .stuck
  | none => .stuck
section
variable {X : Cx} {E : EX} {pos : Pos}
theorem tev_inK {neg : Bool} {ds : List PyData} {ga : G} {v : V} {K : PySem.W.Frag} {mg : Str → Option Value} (h3 : ∀ H, Dp K H v (.tuple ds)) (σ : L2.St) (H : Hp) (Q : VK) (h : tev K mg E (gUn (vInK neg ds) ga) σ H Q) : tOp (rInV K neg) (tev K mg E ga) (tC v) σ H Q :=
  tev_un h fun F ι st H1 H0 x a R th r o => by
    unfold vInK at o
    split at o
    · rename_i d e
      split at o
      · rename_i hs
        rw [Bool.and_eq_true] at hs
        exact .inr (.inr ⟨d, ds, Dn.dp d _ (dat_at R r e), h3 _, hs.1, hs.2, o.here R (.bl _)⟩)
      · exact o.elim
    · exact o.elim
theorem ninK {a : Expr} {ga : G} {x : Str} {ds : List PyData} {p : Pos} {k : Nat} (hr : Room k X.A) (c : CoT X.K X.mg x ds) (ha : PEv X E a ga) (hg : Gl X x := by rfl) (hdb : (x == ("__debug__" : Str)) = false := by decide) (hm : behindInMarks .In (.Name x p) = false := by rfl) : PEv X E (.Compare a [.In] [.Name x p] pos) (gUn (vInK false ds) ga) := by
  obtain ⟨v, u, h1, h2, h3⟩ := c
  exact pe_weak (pe_cmpR (op_inV hr.z65) ha (pe_glob hg h1 h2 hdb) hm) (tev_inK h3)
theorem nninK {a : Expr} {ga : G} {x : Str} {ds : List PyData} {p : Pos} {k : Nat} (hr : Room k X.A) (c : CoT X.K X.mg x ds) (ha : PEv X E a ga) (hg : Gl X x := by rfl) (hdb : (x == ("__debug__" : Str)) = false := by decide) (hm : behindInMarks .NotIn (.Name x p) = false := by rfl) : PEv X E (.Compare a [.NotIn] [.Name x p] pos) (gUn (vInK true ds) ga) := by
  obtain ⟨v, u, h1, h2, h3⟩ := c
  exact pe_weak (pe_cmpR (op_notInV hr.z65) ha (pe_glob hg h1 h2 hdb) hm) (tev_inK h3)
theorem xinK {a : Expr} {ga : G} {x : Str} {ds : List PyData} {p : Pos} {k : Nat} (hr : Room k X.A) (c : CoT X.K X.mg x ds) (ha : PEv X E a ga) (hg : Gl X x := by rfl) (hdb : (x == ("__debug__" : Str)) = false := by decide) (hm : behindInMarks .In (.Name x p) = false := by rfl) : PTv X E (.Compare a [.In] [.Name x p] pos) (bOf (gUn (vInK false ds) ga)) := by
  obtain ⟨v, u, h1, h2, h3⟩ := c
  refine pt_weak (pt_cmpR (op_inV hr.z65) ha (pe_glob hg h1 h2 hdb) hm) fun σ H Q h => ?_
  obtain ⟨F, ι, ρ, st, R, env, o⟩ := ttv_test σ H Q h
  exact tev_inK h3 σ H _ ⟨F, ι, ρ, st, R, env, o⟩
theorem xninK {a : Expr} {ga : G} {x : Str} {ds : List PyData} {p : Pos} {k : Nat} (hr : Room k X.A) (c : CoT X.K X.mg x ds) (ha : PEv X E a ga) (hg : Gl X x := by rfl) (hdb : (x == ("__debug__" : Str)) = false := by decide) (hm : behindInMarks .NotIn (.Name x p) = false := by rfl) : PTv X E (.Compare a [.NotIn] [.Name x p] pos) (bOf (gUn (vInK true ds) ga)) := by
  obtain ⟨v, u, h1, h2, h3⟩ := c
  refine pt_weak (pt_cmpR (op_notInV hr.z65) ha (pe_glob hg h1 h2 hdb) hm) fun σ H Q h => ?_
  obtain ⟨F, ι, ρ, st, R, env, o⟩ := ttv_test σ H Q h
  exact tev_inK h3 σ H _ ⟨F, ι, ρ, st, R, env, o⟩
end
section
variable {K : PySem.W.Frag} {mg : Str → Option Value} {h : Heap} {x : Str} {stm : Stmt} {ps : List Str}
theorem tx_of {f : Addr} {oc kV dc pm cd ct : Value} {od an : Option Addr} {sl : Array (Option Value)} (X : K.In h) (G : h.Ns mainGlobals mg) (a : PySem.W.nsIn K mainGlobals x = some (some (.ref f)))
    (l : K.lookup f = some ⟨oc, od, .func (PySem.W.fnOf x x (defArgs stm) (defBody stm) (defScope stm) .none kV dc pm an cd ct), sl⟩) (c : PySem.W.codeIn K cd x = true) (k : PySem.W.keepIn K (.ref f) = true)
    (hb : ∀ (kV doc pm : Value) (an : Option Addr) (cdv ct : Value) (us : List Value), us.length = ps.length → bindArgs (PySem.W.fnOf x x (defArgs stm) (defBody stm) (defScope stm) .none kV doc pm an cdv ct) ⟨us, []⟩ = pure (ps.zip us)) : Tx K mg x stm ps :=
  ⟨f, _, fun_mk l c k, PySem.W.mg_of X G a, (fun_mk l c k).binds hb⟩
theorem cov_str {z : Str} {t : Tok} (X : K.In h) (G : h.Ns mainGlobals mg) (a : PySem.W.nsIn K mainGlobals x = some (some (.str z t))) : CoV K mg x (.str z) := ⟨.str z, _, PySem.W.mg_of X G a, ⟨t, rfl⟩, fun F => .str z⟩
theorem cov_tup {p : Addr} {its : Array Value} {n : Nat} {sl : Array (Option Value)} {vs : List V} {ds : List PyData} (X : K.In h) (G : h.Ns mainGlobals mg) (a : PySem.W.nsIn K mainGlobals x = some (some (.ref p)))
    (l : K.lookup p = some ⟨.type "tuple", none, .seq its n, sl⟩) (hz : its.size ≤ sizeLine) (rv : Vals vs its.toList) (dn : ∀ F, DnAll K F vs ds) : CoT K mg x ds :=
  ⟨.ref p, _, PySem.W.mg_of X G a, rfl, fun H => .tup (.inr ⟨_, its, n, l, rfl, rfl, hz, rv⟩) (DnAll.dp ds _ (dn H))⟩
theorem kit_cls {D S : Addr} {b : Bool} (h2 : PySem.W.isClsIn K S = true) (h3 : PySem.W.typeIn K (.ref S) = some (.type "type")) (h4 : PySem.W.subIn K (.ref D) (.ref S) = some b) : PySem.W.kitCls K (.ref D) (.ref S) = some b := by
  have e2 : ((PySem.W.clsIn K S).isSome && PySem.W.typeIn K (.ref S) == some (.type "type")) = true := by
    have h2' : (PySem.W.clsIn K S).isSome = true := h2
    rw [h2', h3] <;> rfl
  show (if ((PySem.W.clsIn K S).isSome && PySem.W.typeIn K (.ref S) == some (.type "type")) = true then PySem.W.subIn K (.ref D) (.ref S) else none) = some b
  rw [if_pos e2]
  exact h4
theorem exm_of {D S : Addr} {b : Bool} (h1 : PySem.W.subIn K (.ref S) (.type "BaseException") = some true) (h2 : PySem.W.isClsIn K S = true) (h3 : PySem.W.typeIn K (.ref S) = some (.type "type")) (h4 : PySem.W.subIn K (.ref D) (.ref S) = some b) :
    PySem.W.exmOne K (.ref D) (.ref S) = some b := by
  have e1 : (PySem.W.subIn K (.ref S) (.type "BaseException") == some true) = true := by rw [h1] <;> rfl
  show (if (PySem.W.subIn K (.ref S) (.type "BaseException") == some true) = true then PySem.W.kitCls K (.ref D) (.ref S) else none) = some b
  rw [if_pos e1]
  exact kit_cls h2 h3 h4
theorem kit_of {D S : Addr} (h : PySem.W.kitCls K (.ref D) (.ref S) = some true) : PySem.W.kitOne K (.ref D) (.ref S) = some true := by
  show (if ((Value.ref D) == (Value.ref S)) = true then some true else PySem.W.kitCls K (.ref D) (.ref S)) = some true
  split
  · rfl
  · exact h
/-- an own class over pn, which stands over Exception: its facts -/
structure ClsF (K : PySem.W.Frag) (nm qi pn : Str) (C fI Q : Addr) : Prop where
  aC : PySem.W.nsIn K mainGlobals nm = some (some (.ref C))
  aQ : PySem.W.nsIn K mainGlobals pn = some (some (.ref Q))
  cls : ∃ nm q N bs bm sn sub ab col dd k0 k1 k2 k3 k5, K.lookup C = some (excClassObj nm q C N bs bm true sn sub ab col dd k0 k1 k2 k3 k5 "Exception.__new__") ∧ PySem.W.excTail PySem.ZxT.exB bm = true
  sa : PySem.W.findIn K (.ref C) "__setattr__" = some (some (.builtin "object.__setattr__"))
  ga : PySem.W.findIn K (.ref C) "__getattribute__" = some (some (.builtin "BaseException.__getattribute__"))
  gg : PySem.W.findIn K (.ref C) "__getattr__" = some none
  nT : PySem.W.findIn K (.ref C) "thing" = some none
  iC : PySem.W.findIn K (.ref C) "__init__" = some (some (.ref fI))
  tI : PySem.W.typeIn K (.ref fI) = some (.type "function")
  fn : ∃ (oc : Value) (od : Option Addr) (doc pm : Value) (an : Option Addr) (cdv ct : Value) (osl : Array (Option Value)) (p1 p2 q1 q2 q3 q4 : Pos),
    K.lookup fI = some ⟨oc, od, .func (PySem.W.fnOf "__init__" qi (PySem.ZxT.iA p1 p2) (PySem.ZxT.iB q1 q2 q3 q4) PySem.ZxT.iS .none .none doc pm an cdv ct), osl⟩ ∧ PySem.W.codeIn K cdv qi = true
  kC : PySem.W.keepIn K (.ref C) = true
  eC : PySem.W.subIn K (.ref C) (.type "BaseException") = some true
  tC : PySem.W.typeIn K (.ref C) = some (.type "type")
  hC : PySem.W.hasDictIn K C = true
  kcC : PySem.W.isClsIn K C = true
  sC : PySem.W.subIn K (.ref C) (.ref C) = some true
  tQ : PySem.W.typeIn K (.ref Q) = some (.type "type")
  kcQ : PySem.W.isClsIn K Q = true
  sQ : PySem.W.subIn K (.ref C) (.ref Q) = some true
  hc : PySem.W.findIn K (.ref C) "__class__" = some (some (.builtin "object.__class__"))
  sg : PySem.W.specialIn K (.builtin "object.__class__") "__get__" = some (some (.builtin "getset_descriptor.__get__"))
  tk : PySem.W.takesIn K (.builtin "object.__class__") = some true
  mo : PySem.W.mroIn K C (.type "object") = some true
theorem ClsF.txt {nm qi pn : Str} {C fI Q : Addr} (c : ClsF K nm qi pn C fI Q) (X : K.In h) (G : h.Ns mainGlobals mg) : PySem.ZxT.Txt K mg nm qi C fI :=
  { gC := PySem.W.mg_of X G c.aC, cls := c.cls, sa := c.sa, ga := c.ga, gg := c.gg, noN := c.nT, iC := c.iC, tC := c.tI, kC := c.kC, exC := c.eC, tyC := c.tC, hdC := c.hC, fn := c.fn }
theorem ClsF.xc {nm qi pn : Str} {C fI Q : Addr} (c : ClsF K nm qi pn C fI Q) (X : K.In h) (G : h.Ns mainGlobals mg) : XcV K mg nm := ⟨qi, C, fI, c.txt X G⟩
theorem ClsF.yc {nm qi pn : Str} {C fI Q : Addr} (c : ClsF K nm qi pn C fI Q) (X : K.In h) (G : h.Ns mainGlobals mg) : YcV K mg nm pn :=
  ⟨qi, C, fI, Q, c.txt X G, exm_of c.eC c.kcC c.tC c.sC, { hg := c.ga, hk := c.gg, hs := c.eC, hd := c.hC, ha := c.hc, hn := c.sg, ht := c.tk, hm := c.mo }, PySem.W.mg_of X G c.aQ, kit_of (kit_cls c.kcQ c.tQ c.sQ)⟩
theorem ClsF.nc {nm qi pn nm2 qi2 pn2 : Str} {C fI Q C2 fI2 Q2 : Addr} (c2 : ClsF K nm2 qi2 pn2 C2 fI2 Q2) (c : ClsF K nm qi pn C fI Q) (X : K.In h) (G : h.Ns mainGlobals mg) (hs : PySem.W.subIn K (.ref C2) (.ref C) = some false) : NmV K mg nm2 nm :=
  ⟨C2, C, PySem.W.mg_of X G c2.aC, PySem.W.mg_of X G c.aC, exm_of c.eC c.kcC c.tC hs⟩
end
end Zv
set_option Elab.async false
set_option linter.all false
set_option maxRecDepth 100000
set_option maxHeartbeats 4000000
/-! Z25: slices with a step, a text from its end, list.index, name op= e, comprehensions of two clauses. -/
namespace Zv
open PySem PySem.Spec PyProof.Rows L2
variable {K : PySem.W.Frag} {mg : Str → Option Value} {E : EX} {F F' F1 H H' H0 H1 : Hp} {ι ι' ι1 : Adr} {st st' st1 : Store} {v w : V} {a b : Vl}
/-! ### xs[lo:hi:k] of a list -/
def pickA {α : Type} (xs : List α) (lo hi : Option Int) (k : Int) : List α :=
  (sliceRange (sliceBounds lo hi (some k) xs.length).1 (sliceBounds lo hi (some k) xs.length).2.1 (sliceBounds lo hi (some k) xs.length).2.2).filterMap (xs[·]?)
theorem vals_pick {xs : List V} {its : List Value} (r : Vals xs its) (lo hi : Option Int) (k : Int) : Vals (pickA xs lo hi k) (slicePick its.toArray lo hi (some k)).toList := by
  have hl := r.length
  unfold pickA slicePick
  rw [List.size_toArray, ← hl]
  generalize sliceRange _ _ _ = is
  show Vals _ (is.filterMap (its.toArray[·]?))
  induction is with
  | nil => exact .nil
  | cons i is ih =>
    rw [List.filterMap_cons, List.filterMap_cons]
    have e : its.toArray[i]? = its[i]? := by simp
    rw [e]
    cases hx : xs[i]? with
    | none => rw [Vals.none_of r hx]; exact ih
    | some x =>
      obtain ⟨u, hu, ru⟩ := Vals.get r hx
      rw [hu]
      exact .cons ru ih
theorem pick_length {xs : List V} {its : List Value} (r : Vals xs its) (lo hi : Option Int) (k : Int) : (pickA xs lo hi k).length ≤ xs.length := by
  rw [(vals_pick r lo hi k).length, Array.length_toList]
  have := slicePick_size_le its.toArray lo hi (some k)
  rw [List.size_toArray] at this
  rw [r.length]
  exact this
theorem DnAll.pick {vs : List V} {ds : List PyData} (h : DnAll K F vs ds) (lo hi : Option Int) (k : Int) : DnAll K F (pickA vs lo hi k) (pickA ds lo hi k) := by
  unfold pickA
  rw [h.len]
  generalize sliceRange _ _ _ = is
  induction is with
  | nil => exact .nil
  | cons i is ih =>
    rw [List.filterMap_cons, List.filterMap_cons]
    cases hx : ds[i]? with
    | none =>
      have : vs[i]? = none := by
        rw [List.getElem?_eq_none_iff] at hx ⊢
        rw [h.len]
        exact hx
      rw [this]
      exact ih
    | some d =>
      obtain ⟨v, hv, q⟩ := h.get hx
      rw [hv]
      exact .cons q ih
def tStepL (K : PySem.W.Frag) (te : TE) (tl th : TO) (c : Int) : TE := fun σ H Q => te σ H fun x H1 => tl σ H1 fun l H2 => th σ H2 fun u H3 => ∃ a xs, x = .ref a ∧ SqL K H3 a xs ∧ ∀ p, H3 p = none → Q (.ref p) (upd H3 p (.lst (pickA xs l u c)))
theorem pe_stepL {X : Cx} {e : Expr} {lo hi : Option Expr} {te : TE} {tl th : TO} {c : Int} {k : Nat} {p1 p3 pos : Pos} (hc0 : c ≠ 0) (he : PE X e te) (hl : PO X lo tl) (hh : PO X hi th) : PE X (.Subscript e (.Slice lo hi (some (.Constant (.int c) k p1)) p3) pos) (tStepL X.K te tl th c) := by
  refine ⟨fun pins s σ H Q I h => ?_⟩
  refine Subscript_ (thn (he.run pins s σ H _ I h) fun v s1 ⟨x, H1, I1, r1, q1⟩ => ?_)
  have hst : PO X (some (.Constant (.int c) k p1)) (tPart (tC (.int c))) := po_some pe_int
  refine wpAny_Slice (thn (hl.run pins s1 σ H1 _ I1 q1) fun vl s2 ⟨l, H2, I2, pl, q2⟩ => ?_)
  refine thn (hh.run pins s2 σ H2 _ I2 q2) fun vu s3 ⟨u, H3, I3, pu, q3⟩ => ?_
  refine thn (hst.run pins s3 σ H3 (fun o H4 => o = some c ∧ H4 = H3) I3 ⟨c, rfl, rfl, rfl⟩) fun vs s4 ⟨o, H4, I4, ps, eo, e4⟩ => ?_
  subst eo e4
  obtain ⟨a, xs, ex, hx, q⟩ := q3
  subst ex
  cases r1
  have I5 : Inv X pins σ H4 { s4 with heap := s4.heap.push { cls := .type "slice", data := .fields #[vl, vu, vs] } } := I4.kept (t' := s4.toks) fun b ob q => Heap.get?_push_of_some _ q
  obtain ⟨its, r, ht, hz⟩ := I5.list hx
  have hlen := r.length
  show wpAny (model X.prog X.w) X.A (subscriptTail e (.Slice lo hi (some (.Constant (.int c) k p1)) p3) (.ref a) (.ref s4.heap.objs.size)) (EP X pins σ Q) X.xe { s4 with heap := s4.heap.push { cls := .type "slice", data := .fields #[vl, vu, vs] } }
  refine tail_any (ops := [.ref a, .ref s4.heap.objs.size]) ht.isList.typeIs (PySem.slot_list_getitem.lookup) ?_ (by with_unfolding_all rfl)
  refine wpAny_getItem_list_slice ht.isList (Heap.IsSliceOf.new _ vl vu vs) pl pu ps (by simpa using hc0) ?_ (by rw [List.size_toArray]; omega)
  refine ⟨.ref _, _, I5.laid (t' := s4.toks) (o := .lst (pickA xs l u c)) (fun b ob q => Heap.get?_push_of_some _ q) (Nat.le_refl _) ?_, rfl, q _ (I5.hok.fresh (Nat.le_refl _))⟩
  exact ⟨Nat.le_trans (pick_length r l u c) hz, _, 0, vals_pick r l u c, by rw [Array.toArray_toList]; exact Heap.get?_push_size _ rfl⟩
def vStep (k : Int) (x : Vl) (lo hi : Option Int) : M Vl := fun st => match lstOf x st with
  | some xs => .ok (.own (pickA xs lo hi k)) st
  | none => .stuck
def gStep (k : Int) (g : G) (lo hi : Option G) : G := fun ρ => M.bind (g ρ) fun x => M.bind (gPart lo ρ) fun l => M.bind (gPart hi ρ) fun h => vStep k x l h
theorem v_step {X : Cx} {e : Expr} {lo hi : Option Expr} {g : G} {gl gh : Option G} {c : Int} {k : Nat} {p1 p3 pos : Pos} (hc0 : c ≠ 0) (he : PEv X E e g) (hl : POv X E lo gl) (hh : POv X E hi gh) : PEv X E (.Subscript e (.Slice lo hi (some (.Constant (.int c) k p1)) p3) pos) (gStep c g gl gh) := by
  refine pe_weak (pe_stepL hc0 he hl hh) fun σ H Q h => ?_
  obtain ⟨F, ι, ρ, st, R, env, o⟩ := h
  refine ⟨F, ι, ρ, st, R, env, Out.bind o fun x F1 ι1 H1 a st1 s1 R1 r1 o1 => ?_⟩
  refine ⟨F1, ι1, ρ, st1, R1, env.step s1, Out.bind (o1.later s1) fun l F2 ι2 H2 l' st2 s2 R2 r2 o2 => ?_⟩
  refine ⟨F2, ι2, ρ, st2, R2, (env.step s1).step s2, Out.bind (o2.later s2) fun u F3 ι3 H3 u' st3 s3 R3 r3 o3 => ?_⟩
  subst r2
  subst r3
  have o4 := o3.later s3
  have th : There H H3 := fun p q => s1.there p (s2.there p (s3.there p q))
  have r4 := (r1.step s2).step s3
  unfold vStep at o4
  split at o4
  · rename_i xs e1
    obtain ⟨a', vs, rfl, h1, z⟩ := lst_at R3 r4 e1
    exact ⟨a', vs, rfl, SqL.of h1, o4.lst R3 th (z.pick _ _ _)⟩
  · exact o4.elim
/-! ### x[::-1] of a list or a text -/
def revS (z : Str) : Str := ⟨z.cps.toList.reverse.toArray⟩
theorem strIdx_rev (n : Nat) : Builtin.Str.strSliceIndices none none (-1) n = (List.range n).reverse := by
  rw [← PySem.W.krv_range, ← PySem.W.krv_sliceRange]
  rfl
theorem revS_pick (z : Str) : (⟨((Builtin.Str.strSliceIndices none none (-1) z.length).filterMap (z.cps[·]?)).toArray⟩ : Str) = revS z := by
  rw [strIdx_rev, List.filterMap_reverse]
  have := PySem.W.krv_all z.cps
  show (⟨((List.range z.cps.size).filterMap (z.cps[·]?)).reverse.toArray⟩ : Str) = _
  rw [this]
  rfl
def tRev2 (K : PySem.W.Frag) (te : TE) : TE := fun σ H Q => te σ H fun x H1 => (∃ a xs, x = .ref a ∧ SqL K H1 a xs ∧ ∀ p, H1 p = none → Q (.ref p) (upd H1 p (.lst xs.reverse))) ∨ ∃ z, x = .str z ∧ z.length ≤ sizeLine ∧ Q (.str (revS z)) H1
theorem pe_rev2 {X : Cx} {e : Expr} {te : TE} {k : Nat} {p1 p2 p3 pos : Pos} (he : PE X e te) : PE X (.Subscript e (.Slice none none (some (.UnaryOp .USub (.Constant (.int 1) k p1) p2)) p3) pos) (tRev2 X.K te) := by
  refine ⟨fun pins s σ H Q I h => ?_⟩
  refine Subscript_ (thn (he.run pins s σ H _ I h) fun v s1 ⟨x, H1, I1, r1, q1⟩ => ?_)
  have hst : PO X (some (.UnaryOp .USub (.Constant (.int 1) k p1) p2)) (tPart (tUn (rU fun i => .int (-i)) (tC (.int 1)))) := po_some (pe_un un_neg pe_int)
  refine wpAny_Slice (thn (po_none.run pins s1 σ H1 (fun o H2 => o = none ∧ H2 = H1) I1 ⟨rfl, rfl⟩) fun vl s2 ⟨l, H2, I2, pl, el, e2⟩ => ?_)
  subst el e2
  refine thn (po_none.run pins s2 σ H2 (fun o H3 => o = none ∧ H3 = H2) I2 ⟨rfl, rfl⟩) fun vu s3 ⟨u, H3, I3, pu, eu, e3⟩ => ?_
  subst eu e3
  refine thn (hst.run pins s3 σ H3 (fun o H4 => o = some (-1) ∧ H4 = H3) I3 ⟨1, rfl, -1, rfl, rfl, rfl⟩) fun vs s4 ⟨o, H4, I4, ps, eo, e4⟩ => ?_
  subst eo e4
  have I5 : Inv X pins σ H4 { s4 with heap := s4.heap.push { cls := .type "slice", data := .fields #[vl, vu, vs] } } := I4.kept (t' := s4.toks) fun b ob q => Heap.get?_push_of_some _ q
  rcases q1 with ⟨a, xs, ex, hx, q⟩ | ⟨z, ex, hz, q⟩
  · subst ex
    cases r1
    obtain ⟨its, r, ht, hz⟩ := I5.list hx
    have hlen := r.length
    show wpAny (model X.prog X.w) X.A (subscriptTail e (.Slice none none (some (.UnaryOp .USub (.Constant (.int 1) k p1) p2)) p3) (.ref a) (.ref s4.heap.objs.size)) (EP X pins σ Q) X.xe { s4 with heap := s4.heap.push { cls := .type "slice", data := .fields #[vl, vu, vs] } }
    refine tail_any (ops := [.ref a, .ref s4.heap.objs.size]) ht.isList.typeIs (PySem.slot_list_getitem.lookup) ?_ (by with_unfolding_all rfl)
    refine wpAny_getItem_list_slice ht.isList (Heap.IsSliceOf.new _ vl vu vs) pl pu ps (by decide) ?_ (by rw [List.size_toArray]; omega)
    rw [PySem.W.krv_pick]
    refine ⟨.ref _, _, I5.laid (t' := s4.toks) (o := .lst xs.reverse) (fun b ob q => Heap.get?_push_of_some _ q) (Nat.le_refl _) ?_, rfl, q _ (I5.hok.fresh (Nat.le_refl _))⟩
    exact ⟨by rw [List.length_reverse]; exact hz, _, 0, r.reverse, Heap.get?_push_size _ rfl⟩
  · subst ex
    obtain ⟨t, rfl⟩ := r1
    obtain ⟨l, rfl, hl⟩ := IsPart.raw pl
    obtain ⟨u, rfl, hu⟩ := IsPart.raw pu
    obtain ⟨c, rfl, hc⟩ := IsPart.raw ps
    show wpAny (model X.prog X.w) X.A (subscriptTail e (.Slice none none (some (.UnaryOp .USub (.Constant (.int 1) k p1) p2)) p3) (.str z t) (.ref s4.heap.objs.size)) (EP X pins σ Q) X.xe { s4 with heap := s4.heap.push { cls := .type "slice", data := .fields #[partValue l, partValue u, partValue c] } }
    refine tail_any (T := "str") (ops := [.ref s4.heap.objs.size, .str z t]) (typeIs_str _ _ _) F.slot_str_getitem.lookup ?_ (by with_unfolding_all rfl)
    refine wpAny_getItem_str_slice (l := l) (u := u) (st := c) ⟨_, Heap.get?_push_size _ rfl, rfl, rfl⟩ (by rw [hc]; rfl) ?_
    have e : sliceMade z t l u c = .str (revS z) := by
      unfold sliceMade slicePicked
      rw [hl, hu, hc]
      show (if (((-1 : Int) == 1) && _) = true then _ else _) = _
      rw [if_neg (by simp)]
      exact congrArg Made.str (revS_pick z)
    rw [e]
    exact ⟨by
      show z.cps.toList.reverse.toArray.size ≤ sizeLine
      rw [List.size_toArray, List.length_reverse, Array.length_toList]
      exact hz, .str _, H4, I5.tok _, ⟨_, rfl⟩, q⟩
def vRev2 : Vl → M Vl := fun x st => match x with
  | .d (.str z) => if z.length ≤ sizeLine then .ok (.d (.str (revS z))) st else .stuck
  | x => vRev x st
theorem v_rev2 {X : Cx} {e : Expr} {g : G} {k : Nat} {p1 p2 p3 pos : Pos} (he : PEv X E e g) : PEv X E (.Subscript e (.Slice none none (some (.UnaryOp .USub (.Constant (.int 1) k p1) p2)) p3) pos) (gUn vRev2 g) :=
  pe_weak (pe_rev2 he) fun σ H Q h => tev_un h fun F ι st H1 H0 x a R th r o => by
    unfold vRev2 at o
    split at o
    · split at o
      · rename_i hz
        cases r
        exact .inr ⟨_, rfl, hz, o.here R (.str _)⟩
      · exact o.elim
    · unfold vRev at o
      split at o
      · rename_i e
        obtain ⟨l, vs, rfl, h, z⟩ := lst_at R r e
        exact .inl ⟨l, vs, rfl, SqL.of h, o.lst R th z.rev⟩
      · exact o.elim
end Zv
set_option Elab.async false
set_option linter.all false
set_option maxRecDepth 100000
set_option maxHeartbeats 4000000
/-! Z26: list.index, name op= e. -/
namespace Zv
open PySem PySem.Spec PyProof.Rows L2
variable {K : PySem.W.Frag} {mg : Str → Option Value} {E : EX} {F F' F1 H H' H0 H1 : Hp} {ι ι' ι1 : Adr} {st st' st1 : Store} {v w : V} {a b : Vl}
/-! ### xs.index(a text that is there) -/
def rIndexS (K : PySem.W.Frag) : V → List V → Hp → VK → Prop := fun x vs H Q => ∃ l k, ∃ ys : List Str, x = .ref l ∧ vs = [.str k] ∧ SqL K H l (ys.map V.str) ∧ k ∈ ys ∧ Q (.int (ys.idxOf k : Nat)) H
theorem mt_index {X : Cx} : MtR X "list.index" (rIndexS X.K) := by
  intro pins s σ H x vs v us Q I rx rv h
  obtain ⟨l, k, ys, rfl, rfl, hx, hk, q⟩ := h
  cases rx
  obtain ⟨u, rfl, ru⟩ := rv.one
  obtain ⟨t, rfl⟩ := ru
  obtain ⟨its, r, ht, hz⟩ := I.list hx
  have hz : ys.length ≤ sizeLine := by simpa using hz
  exact SeqAt.list_index_strs ht.isList (Vals.strs r) hz hk ⟨.int _, H, I.tok _, ⟨_, rfl⟩, q⟩
def mIndex : MOp := fun x ys st => match x, ys with
  | x, [.d (.str k)] => match (lstOf x st).bind strsOf with
    | some zs => if k ∈ zs then .ok (.d (.int (zs.idxOf k : Nat))) st else .stuck
    | none => .stuck
  | _, _ => .stuck
theorem mv_index {X : Cx} : MtV X.K mg E mIndex (rIndexS X.K) := by
  intro F ι st H H0 x vs a ys Q R th rx rs o
  unfold mIndex at o
  split at o
  · rename_i k
    split at o
    · rename_i zs e
      split at o
      · rename_i hk
        obtain ⟨xs, e1, e2⟩ := Option.bind_eq_some_iff.mp e
        obtain ⟨l, ws, rfl, h, z⟩ := lst_at R rx e1
        have := strs_v z e2
        subst this
        cases rs with
        | cons q rs =>
          cases rs
          cases q
          exact ⟨l, k, zs, rfl, rfl, SqL.of h, hk, o.here R (.int _)⟩
      · exact o.elim
    · exact o.elim
  · exact o.elim
theorem nindex {X : Cx} {apos cpos : Pos} {o e : Expr} {go : G} {gs : GA} (ho : PEv X E o go) (ha : PAv X E [e] gs) (hbase : attributeBase o "index" X.env (eval o X.env) = eval o X.env := by rfl) (hline : (apos.endLine == cpos.line) = true := by rfl)
    (hs : starEach [e] X.env = (false, eval e X.env) :: starEach [] X.env := by rfl) : PEv X E (.Call (.Attribute o "index" apos) [e] [] cpos) (gMeth isLst mIndex go gs) := v_meth PySem.F.plainAttrs_list PySem.F.slot_list_index PySem.F.type_list_index mt_index ty_lst mv_index ho ha hbase (by rw [hs]; rfl) hline hs
/-! ### name += an int -/
def intAt (ρ : Env) (i : Nat) : Option Int := match ρ[i]? with
  | some (some (.d (.int n))) => some n
  | _ => none
theorem intAt_some {ρ : Env} {i : Nat} {n : Int} (h : intAt ρ i = some n) : ρ[i]? = some (some (.d (.int n))) := by
  unfold intAt at h
  split at h
  · rename_i e; cases h; exact e
  · cases h
def sAug (i : Nat) (f : Int → Int → Int) (g : G) : SG := fun ρ st => match intAt ρ i with
  | some n => M.bind (g ρ) (fun y => match y with
    | .d (.int m) => M.pure (.nx (ρ.set i (some (.d (.int (f n m))))))
    | _ => M.stuck) st
  | none => .stuck
theorem sv_aug {X : Cx} {i : Nat} {x : Str} {e : Expr} {g : G} {op : Operator} {f : Int → Int → Int} {pos pos' : Pos} (ho : PIp X op (ipI f)) (hN : X.N.Nodup) (hi : X.N[i]? = some x) (hx : Loc X.env.scope x) (he : PEv X E e g) (hf : X.fn x = true ∨ X.env.scope.names.lookup x = some .local := by first | exact .inl rfl | exact .inr rfl | assumption) (hfr : E.free := by exact fun _ _ _ _ h => h) :
    PSv X E (.AugAssign (.Name x pos') op e pos) (sAug i f g) := ps_weak (ps_aug hN hi hx he ho hf) fun D σ H h => by
  obtain ⟨F, ι, ρ, st, R, env, o⟩ := h
  unfold sAug at o
  split at o
  · rename_i n hn
    obtain ⟨v, hv, rv⟩ := env.2.2 i _ (intAt_some hn)
    cases rv
    refine ⟨_, hv, F, ι, ρ, st, R, env, Out.bind o fun y F1 ι1 H1 b st1 s1 R1 r1 o1 => ?_⟩
    split at o1
    · cases r1
      exact ⟨_, _, rfl, rfl, o1 (.nx _) F1 ι1 H1 s1 R1 (RelEnv.set hfr (env.step s1) i (.int _))⟩
    · exact o1.elim
  · exact o.elim
end Zv
set_option Elab.async false
set_option linter.all false
set_option maxRecDepth 100000
set_option maxHeartbeats 4000000
/-! Z27: comprehensions of two clauses, the second one over a text. -/
namespace Zv
open PySem PySem.Spec PyProof.Rows L2
variable {K : PySem.W.Frag} {mg : Str → Option Value} {E : EX} {F F' F1 H H' H0 H1 : Hp} {ι ι' ι1 : Adr} {st st' st1 : Store} {v w : V} {a b : Vl}
theorem RelEnv.more {F F' : Hp} {ι ι' : Adr} {ρ : Env} {σ : L2.St} (g : Same F F') (gi : ∀ (n : Nat) a, ι[n]? = some a → ι'[n]? = some a) (h : RelEnv E K F ι ρ σ) : RelEnv E K F' ι' ρ σ :=
  ⟨E.mono F F' ι ι' σ g gi h.1, h.2.1, fun i x e => by
    obtain ⟨v, h1, h2⟩ := h.2.2 i x e
    exact ⟨v, h1, h2.mono g gi⟩⟩
/-- the second clause's loop -/
theorem comp_in {β δ : Type} {rel : RelT β δ} {QQ : δ → Hp → Prop} {u1 : TG} {t1 : TGv} {ws1 : List Nat} {c1 : GB} {g : G} {vs1 : List Nat} {K : PySem.W.Frag} {mg : Str → Option Value} (hfr : E.free) (hw : ∀ i ∈ ws1, i ∈ vs1)
    (k : ∀ (F : Hp) (ι : Adr) (st : Store) (H : Hp) (v : V) (x : Vl) (ρ ρ' : Env) (σ : L2.St) (Q : L2.St → Hp → Prop), Rel K F ι st H → RelVl K F ι v x → REnv K F ι ρ σ → t1 x ρ = some ρ' → (∀ σ', Lf K F ι ws1 ρ' σ σ' → Q σ' H) → u1 v σ H Q)
    {z : Str} {ρ : Env} {σ : L2.St} {FB F2 HB H2 : Hp} {ιB ι2 : Adr} {D : Addr} (hD : HB D = none) {f : List PyData → M β} {st2 : Store} {acc : List PyData} {vs2 : List V} (R2 : Rel K F2 ι2 st2 H2) (s2 : Step FB ιB HB F2 ι2 H2) (hD2 : H2 D = some (.lst vs2)) (nF2 : F2 D = none) (nI2 : D ∉ ι2) (z2 : DnAll K F2 vs2 acc)
    (env2 : RelEnv (noE E) K F2 ι2 ρ σ) (o2 : Out K mg (noE E) FB ιB HB rel (M.bind (compL t1 c1 g (wipeE ρ vs1) (signs z) acc) f st2) QQ) (Nx : Hp → Prop)
    (hNx : ∀ F' ι' st' H' acc' vs', Rel K F' ι' st' H' → Step FB ιB HB F' ι' H' → H' D = some (.lst vs') → F' D = none → D ∉ ι' → DnAll K F' vs' acc' → Same F2 F' → (∀ (n : Nat) a, ι2[n]? = some a → ι'[n]? = some a) → Out K mg (noE E) FB ιB HB rel (f acc' st') QQ → Nx H') :
    ∃ W1 : Nat → Nat → Hp → Prop, (∃ m, W1 0 m H2) ∧ ∀ j k H, W1 j k H → ((Its z).stop j H ∧ Nx H) ∨ ((Its z).go j H ∧ ∃ Nx1 : Hp → Prop, (∀ H', Nx1 H' → ∃ k', k' < k ∧ W1 (j + 1) k' H') ∧ ∀ x H', (Its z).yld j H x H' → u1 x (L2.wipe σ vs1) H' fun σ3 H5 => L2.wipe σ3 vs1 = L2.wipe σ vs1 ∧ ttv K mg (noE E) c1 σ3 H5 fun b H6 =>
        if b = true then tev K mg (noE E) g σ3 H6 fun y H7 => ∃ acc, H7 D = some (.lst acc) ∧ acc.length < sizeLine ∧ Nx1 (upd H7 D (.lst (acc ++ [y]))) else Nx1 H6) := by
  refine ⟨fun i m H' => m = (signs z).length - i ∧ i ≤ (signs z).length ∧ ∃ F' ι' st' acc vs', Rel K F' ι' st' H' ∧ Step FB ιB HB F' ι' H' ∧ H' D = some (.lst vs') ∧ F' D = none ∧ D ∉ ι' ∧ DnAll K F' vs' acc ∧ Same F2 F' ∧ (∀ (n : Nat) a, ι2[n]? = some a → ι'[n]? = some a) ∧
    Out K mg (noE E) FB ιB HB rel (M.bind (compL t1 c1 g (wipeE ρ vs1) ((signs z).drop i) acc) f st') QQ, ⟨(signs z).length, rfl, Nat.zero_le _, F2, ι2, st2, acc, vs2, R2, s2, hD2, nF2, nI2, z2, fun _ _ e => e, fun _ _ e => e, o2⟩, ?_⟩
  rintro i m H3 ⟨rfl, hi, F3, ι3, st3, acc3, vs3, R3, s3, hD3, nF3, nI3, z3, g3, gi3, o3⟩
  have env3 : RelEnv (noE E) K F3 ι3 ρ σ := env2.more g3 gi3
  obtain ⟨wz, wi⟩ := walk_str (K := K) (z := z) (F := F3) (ι := ι3) (H := H3) i F3 ι3 H3 (Step.refl _ _ _) ⟨st3, R3⟩
  cases ed : (signs z)[i]? with
  | none =>
    have hl : (signs z).length ≤ i := List.getElem?_eq_none_iff.mp ed
    refine .inl ⟨wz (Nat.le_antisymm hi hl), ?_⟩
    rw [List.drop_eq_nil_of_le hl] at o3
    exact hNx F3 ι3 st3 H3 acc3 vs3 R3 s3 hD3 nF3 nI3 z3 g3 gi3 o3
  | some d =>
    have hlt := (List.getElem?_eq_some_iff.mp ed).1
    obtain ⟨hgo, hy⟩ := wi d ed
    rw [drop_of ed] at o3
    refine .inr ⟨hgo, fun H' => ∃ F' ι' st' acc vs', Rel K F' ι' st' H' ∧ Step FB ιB HB F' ι' H' ∧ H' D = some (.lst vs') ∧ F' D = none ∧ D ∉ ι' ∧ DnAll K F' vs' acc ∧ Same F2 F' ∧ (∀ (n : Nat) a, ι2[n]? = some a → ι'[n]? = some a) ∧
      Out K mg (noE E) FB ιB HB rel (M.bind (compL t1 c1 g (wipeE ρ vs1) ((signs z).drop (i + 1)) acc) f st') QQ, fun H' z => ⟨_, by omega, rfl, hlt, z⟩, fun x H4 y4 => ?_⟩
    obtain ⟨F4, s4, hR4, d4⟩ := hy x H4 y4
    have R4 := hR4 st3 R3
    have env4 : RelEnv (noE E) K F4 ι3 (wipeE ρ vs1) (L2.wipe σ vs1) := ⟨hfr _ _ _ _ (env3.step s4).1, (env3.step s4).2.wipe vs1⟩
    have o3 : Out K mg (noE E) FB ιB HB rel (M.bind (match t1 (.d d) (wipeE ρ vs1) with
      | none => M.stuck
      | some ρ1 => M.bind (c1 ρ1) fun k => if k = true then M.bind (g ρ1) (fun x => match frz x with
        | .d y => if acc3.length < sizeLine then compL t1 c1 g (wipeE ρ vs1) ((signs z).drop (i + 1)) (acc3 ++ [y]) else M.stuck
        | _ => M.stuck) else compL t1 c1 g (wipeE ρ vs1) ((signs z).drop (i + 1)) acc3) f st3) QQ := o3
    cases e4 : t1 (.d d) (wipeE ρ vs1) with
    | none => simp only [e4] at o3; exact o3.elim
    | some ρ4 =>
      simp only [e4] at o3
      refine k F4 ι3 st3 H4 x (.d d) (wipeE ρ vs1) ρ4 (L2.wipe σ vs1) _ R4 d4 env4.2 e4 fun σ5 l5 => ⟨wipe_lf hw l5.2.1 l5.2.2, ?_⟩
      have env5 : RelEnv (noE E) K F4 ι3 ρ4 σ5 := ⟨hfr _ _ _ _ env4.1, l5.1⟩
      have assoc : ∀ {α β γ : Type} (x : M α) (f : α → M β) (h : β → M γ), M.bind (M.bind x f) h = M.bind x fun a => M.bind (f a) h := fun x f h => by
        funext st
        unfold M.bind
        cases x st <;> rfl
      rw [assoc] at o3
      refine ⟨F4, ι3, ρ4, st3, R4, env5, Out.bindL (s3.trans s4) o3 fun kk F5 ι5 H5 kb st5 s5 R5 r5 o5 => ?_⟩
      cases r5
      have s45 := s4.trans s5
      have hD5 := s45.keep D _ hD3 nI3 .lst
      have nF5 := s45.nf hD3 nF3
      have nI5 := s45.ni hD3 nI3
      have z5 := DnAll.mono s45.grow _ _ z3
      have g5 : Same F2 F5 := g3.trans s45.grow
      have gi5 : ∀ (n : Nat) a, ι2[n]? = some a → ι5[n]? = some a := fun n a e => s45.iget  (gi3 n a e)
      cases kk with
      | false => exact ⟨F5, ι5, st5, acc3, vs3, R5, s3.trans s45, hD5, nF5, nI5, z5, g5, gi5, o5⟩
      | true =>
        simp only [if_true] at o5
        rw [assoc] at o5
        refine ⟨F5, ι5, ρ4, st5, R5, env5.step s5, Out.bindL (s3.trans s45) o5 fun y F6 ι6 H6 a6 st6 s6 R6 r6 o6 => ?_⟩
        obtain ⟨F7, R7, s7, g7, r7⟩ := R6.frz s6.there s6 r6
        have hD7 := s7.keep D _ hD5 nI5 .lst
        have nF7 := s7.nf hD5 nF5
        have nI7 := s7.ni hD5 nI5
        have z7 := DnAll.mono s7.grow _ _ z5
        cases ey : frz a6 with
        | d y' =>
          rw [ey] at r7
          simp only [ey] at o6
          by_cases hz : acc3.length < sizeLine
          · rw [if_pos hz] at o6
            have hz' : vs3.length < sizeLine := by rw [z7.len]; exact hz
            have R8 := R7.put' (o := .lst (vs3 ++ [y])) nF7 nI7 (fun _ z => by rw [hD7] at z; cases z) (fun _ z => by rw [hD7] at z; cases z)
            exact ⟨vs3, hD7, hz', F7, ι6, st6, acc3 ++ [y'], vs3 ++ [y], R8, (s3.trans (s45.trans s7)).put' hD, upd_same, nF7, nI7, z7.append (.cons r7 .nil), g5.trans s7.grow, fun n a e => s7.iget  (gi5 n a e), o6⟩
          · rw [if_neg hz] at o6; exact o6.elim
        | ref n => simp only [ey] at o6; exact o6.elim
        | own n => simp only [ey] at o6; exact o6.elim
        | scr n => simp only [ey] at o6; exact o6.elim
/-! the mirror: [elt for .. in .. if .. for .. in z if ..], z a text -/
def compL2 (t : TGv) (c : GB) (z : Str) (t1 : TGv) (c1 : GB) (g : G) (vs1 : List Nat) (ρ : Env) : List PyData → List PyData → M (List PyData)
  | [], acc => M.pure acc
  | d :: ds, acc => match t (.d d) ρ with
    | none => M.stuck
    | some ρ1 => M.bind (c ρ1) fun k => if k = true then M.bind (compL t1 c1 g (wipeE ρ1 vs1) (signs z) acc) fun acc' => compL2 t c z t1 c1 g vs1 ρ ds acc' else compL2 t c z t1 c1 g vs1 ρ ds acc
def gComp2 (w : GI) (t : TGv) (c : GB) (z : Str) (t1 : TGv) (c1 : GB) (g : G) (vs vs1 : List Nat) : G := fun ρ => M.bind (w ρ) fun ds => M.bind (noExc (compL2 t c z t1 c1 g vs1 (wipeE ρ vs) ds [])) fun xs => M.pure (.own xs)
/-- the second source gives the text z -/
def wiZ (z : Str) : TI := fun _ H R => R (Its z) H
theorem tev_comp2 {wi : GI} {u u1 : TG} {t t1 : TGv} {ws ws1 : List Nat} {c c1 : GB} {z : Str} {g : G} {vs vs1 : List Nat} {K : PySem.W.Frag} {mg : Str → Option Value} (hfr : E.free) (hw : ∀ i ∈ ws, i ∈ vs) (hw1 : ∀ i ∈ ws1, i ∈ vs1)
    (k : ∀ (F : Hp) (ι : Adr) (st : Store) (H : Hp) (v : V) (x : Vl) (ρ ρ' : Env) (σ : L2.St) (Q : L2.St → Hp → Prop), Rel K F ι st H → RelVl K F ι v x → REnv K F ι ρ σ → t x ρ = some ρ' → (∀ σ', Lf K F ι ws ρ' σ σ' → Q σ' H) → u v σ H Q)
    (k1 : ∀ (F : Hp) (ι : Adr) (st : Store) (H : Hp) (v : V) (x : Vl) (ρ ρ' : Env) (σ : L2.St) (Q : L2.St → Hp → Prop), Rel K F ι st H → RelVl K F ι v x → REnv K F ι ρ σ → t1 x ρ = some ρ' → (∀ σ', Lf K F ι ws1 ρ' σ σ' → Q σ' H) → u1 v σ H Q) (σ : L2.St) (H : Hp) (Q : VK)
    (h : tev K mg E (gComp2 wi t c z t1 c1 g vs vs1) σ H Q) : tLc2 (tiv K mg E wi) u (ttv K mg (noE E) c) (wiZ z) u1 (ttv K mg (noE E) c1) (tev K mg (noE E) g) vs vs1 σ H Q := by
  obtain ⟨F, ι, ρ, st, R, env, o⟩ := h
  refine ⟨F, ι, ρ, st, R, env, Out.bind o fun J F1 ι1 H1 ds st1 s1 R1 r1 o1 => ?_⟩
  have o1 : Out K mg (noE E) F1 ι1 H1 (fun F ι H' v xs => relR K H F ι H' v (.own xs)) (compL2 t c z t1 c1 g vs1 (wipeE ρ vs) ds [] st1) Q :=
    Out.noExc (o1.later s1) fun b F2 ι2 H2 a st2 s2 R2 r2 o2 => o2 b F2 ι2 H2 s2 R2 r2
  intro D hD
  obtain ⟨R1', s1'⟩ := R1.put (o := .lst []) hD
  have nF := R1.nf hD
  have nI := R1.ni hD
  have n0 : Nw H D := s1.there D (.of hD)
  refine ⟨fun i m H' => m = ds.length - i ∧ i ≤ ds.length ∧ ∃ F' ι' st' acc vs', Rel K F' ι' st' H' ∧ Step F1 ι1 H1 F' ι' H' ∧ H' D = some (.lst vs') ∧ F' D = none ∧ D ∉ ι' ∧ DnAll K F' vs' acc ∧
    Out K mg (noE E) F1 ι1 H1 (fun F ι H' v xs => relR K H F ι H' v (.own xs)) (compL2 t c z t1 c1 g vs1 (wipeE ρ vs) (ds.drop i) acc st') Q, ⟨ds.length, rfl, Nat.zero_le _, F1, ι1, st1, [], [], R1', s1', upd_same, nF, nI, .nil, o1⟩, ?_⟩
  rintro i m H2 ⟨rfl, hi, F2, ι2, st2, acc, vs2, R2, s2, hD2, nF2, nI2, z2, o2⟩
  have env2 : RelEnv (noE E) K F2 ι2 (wipeE ρ vs) (L2.wipe σ vs) := ⟨hfr _ _ _ _ ((env.step s1).step s2).1, ((env.step s1).step s2).2.wipe vs⟩
  obtain ⟨wz, wi⟩ := r1 i F2 ι2 H2 s2 ⟨st2, R2⟩
  cases ed : ds[i]? with
  | none =>
    have hl : ds.length ≤ i := List.getElem?_eq_none_iff.mp ed
    refine .inl ⟨wz (Nat.le_antisymm hi hl), ?_⟩
    rw [List.drop_eq_nil_of_le hl] at o2
    exact o2 (.ref D) F2 ι2 H2 s2 R2 ⟨D, vs2, rfl, hD2, nF2, nI2, n0, z2⟩
  | some d =>
    have hlt := (List.getElem?_eq_some_iff.mp ed).1
    obtain ⟨hgo, hy⟩ := wi d ed
    rw [drop_of ed] at o2
    refine .inr ⟨hgo, fun H' => ∃ F' ι' st' acc vs', Rel K F' ι' st' H' ∧ Step F1 ι1 H1 F' ι' H' ∧ H' D = some (.lst vs') ∧ F' D = none ∧ D ∉ ι' ∧ DnAll K F' vs' acc ∧
      Out K mg (noE E) F1 ι1 H1 (fun F ι H' v xs => relR K H F ι H' v (.own xs)) (compL2 t c z t1 c1 g vs1 (wipeE ρ vs) (ds.drop (i + 1)) acc st') Q, fun H' z => ⟨ds.length - (i + 1), by omega, rfl, hlt, z⟩, fun x H3 y3 => ?_⟩
    obtain ⟨F3, s3, hR3, d3⟩ := hy x H3 y3
    have R3 := hR3 st2 R2
    unfold compL2 at o2
    cases e3 : t (.d d) (wipeE ρ vs) with
    | none => simp only [e3] at o2; exact o2.elim
    | some ρ3 =>
      simp only [e3] at o2
      refine k F3 ι2 st2 H3 x (.d d) (wipeE ρ vs) ρ3 (L2.wipe σ vs) _ R3 d3 (env2.step s3).2 e3 fun σ4 l4 => ⟨wipe_lf hw l4.2.1 l4.2.2, ?_⟩
      have env4 : RelEnv (noE E) K F3 ι2 ρ3 σ4 := ⟨hfr _ _ _ _ (env2.step s3).1, l4.1⟩
      refine ⟨F3, ι2, ρ3, st2, R3, env4, Out.bindL (s2.trans s3) o2 fun kk F4 ι4 H4 kb st4 s4 R4 r4 o4 => ?_⟩
      cases r4
      have s24 := s3.trans s4
      have hD4 := s24.keep D _ hD2 nI2 .lst
      have nF4 := s24.nf hD2 nF2
      have nI4 := s24.ni hD2 nI2
      have z4 := DnAll.mono s24.grow _ _ z2
      cases kk with
      | false => exact ⟨F4, ι4, st4, acc, vs2, R4, s2.trans s24, hD4, nF4, nI4, z4, o4⟩
      | true =>
        simp only [if_true] at o4
        exact comp_in hfr hw1 k1 hD R4 (s2.trans s24) hD4 nF4 nI4 z4 (env4.step s4) o4 _ fun F' ι' st' H' acc' vs' a1 a2 a3 a4 a5 a6 a7 a8 a9 => ⟨F', ι', st', acc', vs', a1, a2, a3, a4, a5, a6, a9⟩
section
variable {X : Cx} {pos : Pos}
theorem iz_glob {x : Str} {z : Str} {tg : Expr} {p : Pos} (c : CoV X.K X.mg x (.str z)) (hg : Gl X x := by rfl) (hdb : (x == ("__debug__" : Str)) = false := by decide) : PI X tg (.Name x p) (wiZ z) := by
  obtain ⟨v, u, h1, h2, h3⟩ := c
  have hv : v = .str z := by cases h3 (fun _ => none); rfl
  subst hv
  exact pi_weak (pi_seq (pe_glob hg h1 h2 hdb)) fun σ H R h => .inr (.inr ⟨z, rfl, h⟩)
structure Blk2 (X : Cx) (E : EX) (scope : Scope) (own : List (Str × Nat)) (tg : Expr) (t : TGv) (ws : List Nat) (ifs : List Expr) (c : GB) (tg1 iter1 : Expr) (z : Str) (t1 : TGv) (ws1 : List Nat) (ifs1 : List Expr) (c1 : GB) (elt : Expr) (g : G) : Prop where
  ok : BlkOk X.N X.env.scope scope own
  hw : ∀ i ∈ ws, i ∈ own.map (·.2)
  hw1 : ∀ i ∈ ws1, i ∈ own.map (·.2)
  hg : ∀ (s : Shared) (H : Hp) (C : Addr) (cl : List (Str × Addr)) (fp : List Addr), PGv (X.blk s H scope (compEnvC scope cl C X.env) fp) tg t ws
  hc : ∀ (s : Shared) (H : Hp) (C : Addr) (cl : List (Str × Addr)) (fp : List Addr), PTs (X.blk s H scope (compEnvC scope cl C X.env) fp) ifs (ttv X.K X.mg (noE E) c)
  hi1 : ∀ (s : Shared) (H : Hp) (C : Addr) (cl : List (Str × Addr)) (fp : List Addr), PI (X.blk s H scope (compEnvC scope cl C X.env) fp) tg1 iter1 (wiZ z)
  hg1 : ∀ (s : Shared) (H : Hp) (C : Addr) (cl : List (Str × Addr)) (fp : List Addr), PGv (X.blk s H scope (compEnvC scope cl C X.env) fp) tg1 t1 ws1
  hc1 : ∀ (s : Shared) (H : Hp) (C : Addr) (cl : List (Str × Addr)) (fp : List Addr), PTs (X.blk s H scope (compEnvC scope cl C X.env) fp) ifs1 (ttv X.K X.mg (noE E) c1)
  he : ∀ (s : Shared) (H : Hp) (C : Addr) (cl : List (Str × Addr)) (fp : List Addr), PEv (X.blk s H scope (compEnvC scope cl C X.env) fp) (noE E) elt g
theorem v_comp2 {elt tg iter tg1 iter1 : Expr} {ifs ifs1 : List Expr} {scope : Scope} {own : List (Str × Nat)} {wi : GI} {t t1 : TGv} {ws ws1 : List Nat} {c c1 : GB} {z : Str} {g : G} (hc : X.calm = true) (hN : X.N.Nodup) (hi : PIv X E tg iter wi) (B : Blk2 X E scope own tg t ws ifs c tg1 iter1 z t1 ws1 ifs1 c1 elt g)
    (hs : ∀ x, foldedSetIterable iter X.env x = pure x := by intro _; rfl) (hs1 : ∀ env x, foldedSetIterable iter1 env x = pure x := by intro _ _; rfl) (hfr : E.free := by exact fun _ _ _ _ h => h) :
    PEv X E (.ListComp elt [⟨tg, iter, ifs, 0⟩, ⟨tg1, iter1, ifs1, 0⟩] scope pos) (gComp2 wi t c z t1 c1 g (own.map (·.2)) ws1) := by
  obtain ⟨ok, hw, hw1, hg, hcc, hi1, hg1, hc1, he⟩ := B
  exact pe_weak (pe_lc2 (g := tgT X.K t ws) (tt := ttv X.K X.mg (noE E) c) (g1 := tgT X.K t1 ws1) (tt1 := ttv X.K X.mg (noE E) c1) (te := tev X.K X.mg (noE E) g) (vs1 := ws1) hc hN hi ok hw1 hg hcc hi1 hg1 hc1 he hs hs1)
    (tev_comp2 hfr hw (fun _ h => h) (fun F ι st H v x ρ ρ' σ Q R r env e q => ⟨F, ι, st, x, ρ, ρ', R, r, env, e, q⟩) fun F ι st H v x ρ ρ' σ Q R r env e q => ⟨F, ι, st, x, ρ, ρ', R, r, env, e, q⟩)
theorem sv_setLc2 {i : Nat} {y : Str} {py spos : Pos} {elt tg iter tg1 iter1 : Expr} {ifs ifs1 : List Expr} {scope : Scope} {own : List (Str × Nat)} {wi : GI} {t t1 : TGv} {ws ws1 : List Nat} {c c1 : GB} {z : Str} {g : G} (hc : X.calm = true) (hN : X.N.Nodup) (hy : X.N[i]? = some y) (hyl : X.env.scope.names.lookup y = some .local)
    (hsw : swapsWith (.ListComp elt [⟨tg, iter, ifs, 0⟩, ⟨tg1, iter1, ifs1, 0⟩] scope pos) (some (.Name y py)) spos.line X.env = pure true) (hi : PIv X E tg iter wi) (B : Blk2 X E scope own tg t ws ifs c tg1 iter1 z t1 ws1 ifs1 c1 elt g)
    (hs : ∀ x, foldedSetIterable iter X.env x = pure x := by intro _; rfl) (hs1 : ∀ env x, foldedSetIterable iter1 env x = pure x := by intro _ _; rfl) (hfr : E.free := by exact fun _ _ _ _ h => h) :
    PSv X E (.Assign [.Name y py] (.ListComp elt [⟨tg, iter, ifs, 0⟩, ⟨tg1, iter1, ifs1, 0⟩] scope pos) spos) (sSet i (gComp2 wi t c z t1 c1 g (own.map (·.2)) ws1)) := by
  obtain ⟨ok, hw, hw1, hg, hcc, hi1, hg1, hc1, he⟩ := B
  refine ps_weak (ps_setLc2 (g := tgT X.K t ws) (tt := ttv X.K X.mg (noE E) c) (g1 := tgT X.K t1 ws1) (tt1 := ttv X.K X.mg (noE E) c1) (te := tev X.K X.mg (noE E) g) (vs1 := ws1) hc hN hy hyl hsw hi ok hw1 hg hcc hi1 hg1 hc1 he hs hs1) fun D σ H h => ?_
  obtain ⟨F, ι, ρ, st, R, env, o⟩ := h
  exact tev_comp2 hfr hw (fun _ h => h) (fun F ι st H v x ρ ρ' σ Q R r env e q => ⟨F, ι, st, x, ρ, ρ', R, r, env, e, q⟩) (fun F ι st H v x ρ ρ' σ Q R r env e q => ⟨F, ι, st, x, ρ, ρ', R, r, env, e, q⟩) σ H _ ⟨F, ι, ρ, st, R, env, tev_set hfr env o⟩
end
end Zv
set_option Elab.async false
set_option linter.all false
set_option maxRecDepth 100000
set_option maxHeartbeats 4000000
/-! Z28: dicts with keys that are tuples; any dict's items by any key; sorted(a dict of ints); list.index of data. -/
namespace Zv
open PySem PySem.Spec PyProof.Rows L2
variable {K : PySem.W.Frag} {mg : Str → Option Value} {E : EX} {F F' F1 H H' H0 H1 : Hp} {ι ι' ι1 : Adr} {st st' st1 : Store} {v w : V} {a b : Vl}
abbrev KvT (K : PySem.W.Frag) (F : Hp) (ι : Adr) : List (List Key × V) → List (List Key × Vl) → Prop := Paired (fun (p : List Key × V) (q : List Key × Vl) => p.1 = q.1 ∧ RelVl K F ι p.2 q.2)
theorem KvT.any {us : List (List Key × V)} {kvs : List (List Key × Vl)} {k : List Key} (h : KvT K F ι us kvs) : us.any (fun kv => decide (kv.1 = k)) = kvs.any fun kv => decide (kv.1 = k) := by
  induction h with
  | nil => rfl
  | cons h t ih => rw [List.any_cons, List.any_cons, ih, h.1]
theorem KvT.put {us : List (List Key × V)} {kvs : List (List Key × Vl)} {k : List Key} {x : V} {y : Vl} (h : KvT K F ι us kvs) (r : RelVl K F ι x y) : KvT K F ι (putK us k x) (putG kvs k y) := by
  unfold putK putG
  rw [h.any]
  by_cases hk : (kvs.any fun kv => decide (kv.1 = k)) = true
  · rw [if_pos hk, if_pos hk]
    clear hk
    induction h with
    | nil => exact .nil
    | @cons p q _ _ h t ih =>
      refine .cons ?_ ih
      by_cases e : p.1 = k
      · have e2 : q.1 = k := h.1.symm.trans e
        simp only [e, e2, if_true]
        exact ⟨trivial, r⟩
      · have e2 : ¬ q.1 = k := fun z => e (h.1.trans z)
        simp only [e, e2, if_false]
        exact h
  · rw [if_neg hk, if_neg hk]
    exact paired_app h (.cons ⟨rfl, r⟩ .nil)
theorem KvT.val {us : List (List Key × V)} {kvs : List (List Key × Vl)} {k : List Key} (h : KvT K F ι us kvs) : match valG kvs k with
    | some y => ∃ x, valV us k = some x ∧ RelVl K F ι x y
    | none => valV us k = none := by
  induction h with
  | nil => exact rfl
  | @cons p q us kvs h t ih =>
    by_cases e : p.1 = k
    · have e1 : valG (q :: kvs) k = some q.2 := by unfold valG; rw [List.find?_cons, ← h.1, e]; simp
      rw [e1, valV_pos e]
      exact ⟨_, rfl, h.2⟩
    · have e1 : valG (q :: kvs) k = valG kvs k := by unfold valG; rw [List.find?_cons, ← h.1]; simp [e]
      rw [e1, valV_neg e]
      exact ih
theorem valT_some {us : List (List Key × V)} {kvs : List (List Key × Vl)} {k : List Key} (q : KvT K F ι us kvs) : (valV us k).isSome = (valG kvs k).isSome := by
  have qv := q.val (k := k)
  cases e : valG kvs k with
  | none =>
    rw [e] at qv
    have qv : valV us k = none := qv
    rw [qv]
    rfl
  | some y => rw [e] at qv; obtain ⟨u, hu, _⟩ := qv; rw [hu]; rfl
def ditAt (st : Store) : Vl → Option (Nat × List (List Key × Vl))
  | .ref n => match st[n]? with
    | some (.dit kvs) => some (n, kvs)
    | _ => none
  | _ => none
theorem dit_at {n : Nat} {kvs : List (List Key × Vl)} (R : Rel K F ι st H) (r : RelR K F ι H0 H v a) (e : ditAt st a = some (n, kvs)) : ∃ l us, v = .ref l ∧ ι[n]? = some l ∧ st[n]? = some (.dit kvs) ∧ H l = some (.dT us) ∧ KvT K F ι us kvs := by
  unfold ditAt at e
  split at e
  · split at e
    · rename_i m kvs' e1
      cases e
      obtain ⟨l, hl, rfl⟩ := r
      obtain ⟨us, h1, h2⟩ := R.obj _ l _ hl e1
      exact ⟨l, us, rfl, hl, e1, h1, h2⟩
    · cases e
  · cases e
/-- a flat tuple of ints and texts, as a key -/
def keysOf : List PyData → Option (List Key)
  | [] => some []
  | .int i :: r => (keysOf r).map (.inl i :: ·)
  | .str x :: r => (keysOf r).map (.inr x :: ·)
  | _ => none
def tkeyOf : Vl → Option (List Key)
  | .d (.tuple ds) => keysOf ds
  | _ => none
theorem keys_v : ∀ {vs : List V} {ds : List PyData} {ks : List Key}, DnAll K F vs ds → keysOf ds = some ks → vs = ks.map kV
  | _, _, _, .nil, h => by cases h; rfl
  | _, _, ks, .cons (d := d) (ds := ds) q r, h => by
    cases d with
    | int i =>
      obtain ⟨ks', e, rfl⟩ := Option.map_eq_some_iff.mp (show (keysOf ds).map (.inl i :: ·) = some ks from h)
      cases q
      rw [List.map_cons, keys_v r e]
      rfl
    | str x =>
      obtain ⟨ks', e, rfl⟩ := Option.map_eq_some_iff.mp (show (keysOf ds).map (.inr x :: ·) = some ks from h)
      cases q
      rw [List.map_cons, keys_v r e]
      rfl
    | _ => cases h
theorem tkey_at {k : List Key} (R : Rel K F ι st H) (r : RelR K F ι H0 H v a) (e : tkeyOf a = some k) : ∃ b, v = .ref b ∧ H b = some (.tup (k.map kV)) := by
  cases a with
  | d x =>
    cases x with
    | tuple ds =>
      cases r with
      | tup q z =>
        have := keys_v z e
        subst this
        exact ⟨_, rfl, R.sub _ _ q⟩
    | _ => cases e
  | _ => cases e
/-- {}, to hold tuples as keys -/
def gDictT : G := fun _ st => .ok (.ref st.length) (st ++ [.dit []])
def vTGet : Op2 := fun x y st => match ditAt st x, tkeyOf y with
  | some (_, kvs), some k => match valG kvs k with
    | some z => .ok z st
    | none => .stuck
  | _, _ => .stuck
def vTIn (neg : Bool) : Op2 := fun y x st => match ditAt st x, tkeyOf y with
  | some (_, kvs), some k => .ok (.d (.bool (if neg then !(valG kvs k).isSome else (valG kvs k).isSome))) st
  | _, _ => .stuck
def sTPut (go gi ge : G) : SG := fun ρ => M.bind (ge ρ) fun z => M.bind (go ρ) fun x => M.bind (gi ρ) fun y st => match ditAt st x, tkeyOf y with
  | some (n, kvs), some k => if (decide (kvs.length < sizeLine) && belowB n (frz z)) = true then .ok (.nx ρ) (st.set n (.dit (putG kvs k (frz z)))) else .stuck
  | _, _ => .stuck
theorem mem_putT {kvs : List (List Key × Vl)} {k : List Key} {z : Vl} {p : List Key × Vl} (h : p ∈ putG kvs k z) : p ∈ kvs ∨ p.2 = z := by
  unfold putG at h
  split at h
  · obtain ⟨q, hq, rfl⟩ := List.mem_map.mp h
    by_cases e : q.1 = k
    · rw [if_pos e]; exact .inr rfl
    · rw [if_neg e]; exact .inl hq
  · rcases List.mem_append.mp h with h | h
    · exact .inl h
    · have : p = (k, z) := by simpa using h
      subst this; exact .inr rfl
section
variable {X : Cx} {pos pos' : Pos} {o i e : Expr} {go gi ge : G}
theorem v_tget (hu : X.A.units + 1 < cLine) (ho : PEv X E o go) (hi : PEv X E i gi) (hs : NoSl i := by exact fun _ _ => rfl) : PEv X E (.Subscript o i pos) (gBin vTGet go gi) := by
  refine pe_weak (pe_dget hu ho hi hs) fun σ H Q h => ?_
  obtain ⟨F, ι, ρ, st, R, env, o1⟩ := h
  refine ⟨F, ι, ρ, st, R, env, Out.bind o1 fun x F1 ι1 H1 a st1 s1 R1 r1 o2 => ?_⟩
  refine ⟨F1, ι1, ρ, st1, R1, env.step s1, Out.bind (o2.later s1) fun y F2 ι2 H2 b st2 s2 R2 r2 o3 => ?_⟩
  have o4 := o3.later s2
  unfold vTGet at o4
  split at o4
  · rename_i n kvs k e1 e2
    split at o4
    · rename_i z ez
      obtain ⟨l, us, rfl, hl, hst, h1, q⟩ := dit_at R2 (r1.step s2) e1
      obtain ⟨bb, rfl, hb⟩ := tkey_at R2 r2 e2
      have qv := q.val (k := k)
      rw [ez] at qv
      obtain ⟨u, hu', qu⟩ := qv
      exact ⟨l, u, rfl, by rw [← hu']; exact DGet.t h1 hb, o4.here R2 qu.toR⟩
    · exact o4.elim
  · exact o4.elim
theorem v_tin (hu : X.A.units + 1 < cLine) (hi : PEv X E i gi) (ho : PEv X E o go) (h1 : behindInMarks .In o = false := by rfl) : PEv X E (.Compare i [.In] [o] pos) (gBin (vTIn false) gi go) := by
  refine pe_weak (pe_cmp (pc_din hu hi ho) h1) fun σ H Q h => ?_
  obtain ⟨F, ι, ρ, st, R, env, o1⟩ := h
  refine ⟨F, ι, ρ, st, R, env, Out.bind o1 fun y F1 ι1 H1 b st1 s1 R1 r1 o2 => ?_⟩
  refine ⟨F1, ι1, ρ, st1, R1, env.step s1, Out.bind (o2.later s1) fun x F2 ι2 H2 a st2 s2 R2 r2 o3 => ?_⟩
  have o4 := o3.later s2
  unfold vTIn at o4
  split at o4
  · rename_i n kvs k e1 e2
    obtain ⟨l, us, rfl, hl, hst, h1, q⟩ := dit_at R2 r2 e1
    obtain ⟨bb, rfl, hb⟩ := tkey_at R2 (r1.step s2) e2
    exact ⟨l, _, rfl, DGet.t h1 hb, by rw [valT_some q]; exact o4.here R2 (.bl _)⟩
  · exact o4.elim
theorem v_tnotin (hu : X.A.units + 1 < cLine) (hi : PEv X E i gi) (ho : PEv X E o go) (h1 : behindInMarks .NotIn o = false := by rfl) : PEv X E (.Compare i [.NotIn] [o] pos) (gBin (vTIn true) gi go) := by
  refine pe_weak (pe_cmp (pc_dnotin hu hi ho) h1) fun σ H Q h => ?_
  obtain ⟨F, ι, ρ, st, R, env, o1⟩ := h
  refine ⟨F, ι, ρ, st, R, env, Out.bind o1 fun y F1 ι1 H1 b st1 s1 R1 r1 o2 => ?_⟩
  refine ⟨F1, ι1, ρ, st1, R1, env.step s1, Out.bind (o2.later s1) fun x F2 ι2 H2 a st2 s2 R2 r2 o3 => ?_⟩
  have o4 := o3.later s2
  unfold vTIn at o4
  split at o4
  · rename_i n kvs k e1 e2
    obtain ⟨l, us, rfl, hl, hst, h1, q⟩ := dit_at R2 r2 e1
    obtain ⟨bb, rfl, hb⟩ := tkey_at R2 (r1.step s2) e2
    exact ⟨l, _, rfl, DGet.t h1 hb, by rw [valT_some q]; exact o4.here R2 (.bl _)⟩
  · exact o4.elim
theorem sv_tput (hu : X.A.units + 1 < cLine) (ho : PEv X E o go) (hi : PEv X E i gi) (he : PEv X E e ge) (hs : swapsWith e (some (.Subscript o i pos')) pos.line X.env = pure false := by rfl) :
    PSv X E (.Assign [.Subscript o i pos'] e pos) (sTPut go gi ge) := by
  refine ps_weak (ps_dput hu ho hi he hs) fun D σ H h => ?_
  obtain ⟨F, ι, ρ, st, R, env, o1⟩ := h
  refine ⟨F, ι, ρ, st, R, env, Out.bind o1 fun z F1 ι1 H1 c st1 s1 R1 r1 o2 => ?_⟩
  obtain ⟨F1', R1, s1, g1, r1⟩ := R1.frz s1.there s1 r1
  refine ⟨F1', ι1, ρ, st1, R1, env.step s1, Out.bind (o2.later s1) fun x F2 ι2 H2 a st2 s2 R2 r2 o3 => ?_⟩
  refine ⟨F2, ι2, ρ, st2, R2, (env.step s1).step s2, Out.bind (o3.later s2) fun y F3 ι3 H3 b st3 s3 R3 r3 o4 => ?_⟩
  have o5 := o4.later s3
  split at o5
  · rename_i n kvs k e1 e2
    split at o5
    · rename_i hz
      rw [Bool.and_eq_true] at hz
      obtain ⟨l, us, rfl, hl, hst, h1, q⟩ := dit_at R3 (r2.step s3) e1
      obtain ⟨bb, rfl, hb⟩ := tkey_at R3 r3 e2
      have rz := (r1.step s2).step s3
      have hd : Down n (.dit (putG kvs k (frz c))) := fun p hp j ej => by
        rcases mem_putT hp with hp | hp
        · exact R3.down n _ hst p hp j ej
        · rw [hp] at ej
          have := hz.2
          rw [ej] at this
          exact of_decide_eq_true this
      obtain ⟨R4, s4⟩ := R3.write (ho := .dT (putK us k z)) (ob := .dit (putG kvs k (frz c))) hl (fun _ q => by rw [h1] at q; cases q) (fun _ q => by rw [h1] at q; cases q) ⟨_, upd_same, q.put rz⟩ hd
      refine ⟨l, _, rfl, DPut.t h1 hb (by rw [paired_len q]; exact of_decide_eq_true hz.1), ?_⟩
      exact o5 (.nx σ) F3 ι3 _ s4 R4 ((((env.step s1).step s2).step s3).step s4)
    · exact o5.elim
  · exact o5.elim
end
end Zv
set_option Elab.async false
set_option linter.all false
set_option maxRecDepth 100000
set_option maxHeartbeats 4000000
/-! Z29: empty dicts, sorted(a dict of ints), extend by a tuple, list.index of data. -/
namespace Zv
open PySem PySem.Spec PyProof.Rows L2
variable {K : PySem.W.Frag} {mg : Str → Option Value} {E : EX} {F F' F1 H H' H0 H1 : Hp} {ι ι' ι1 : Adr} {st st' st1 : Store} {v w : V} {a b : Vl}
/-- a new object of the store, at p -/
theorem Rel.fresh {p : Addr} {ho : HO} {ob : Ob} (R : Rel K F ι st H) (hp : H p = none) (od : Od ho) (hr : ∀ F ι H, H p = some ho → RelO K F ι H p ob) (hd : Down st.length ob) (R' : Rel K F ι st (upd H p ho)) (s' : Step F ι H F ι (upd H p ho)) :
    Rel K F (ι ++ [p]) (st ++ [ob]) (upd H p ho) ∧ Step F ι H F (ι ++ [p]) (upd H p ho) ∧ RelR K F (ι ++ [p]) H (upd H p ho) (.ref p) (.ref st.length) := by
  have np := R.ni hp
  have nf := R.nf hp
  have R3 := R'.enter (p := p) (ob := ob) nf np (hr _ _ _ upd_same) hd
  refine ⟨R3, ⟨s'.grow, s'.new, (s'.enter (.of hp)).iota, fun b x e nb o => ?_, fun b hb => ?_⟩, ⟨p, ?_, rfl⟩⟩
  · have ne : b ≠ p := fun z => by rw [z, hp] at e; cases e
    rw [upd_ne ne]
    exact e
  · by_cases e : b = p
    · subst e; exact .of hp
    · exact s'.there b fun x ex => hb x ex
  · rw [← R.len, List.getElem?_append_right (Nat.le_refl _), Nat.sub_self]
    rfl
def gDictK : G := fun _ st => .ok (.ref st.length) (st ++ [.dic []])
section
variable {X : Cx} {pos : Pos}
theorem v_dictT : PEv X E (.Dict [] [] pos) gDictT := pe_weak pe_dnewT fun σ H Q h => by
  obtain ⟨F, ι, ρ, st, R, env, o⟩ := h
  intro p hp
  obtain ⟨R', s'⟩ := R.put (o := .dT []) hp
  obtain ⟨a1, a2, a3⟩ := Rel.fresh (ob := .dit []) R hp ⟨fun _ z => (by cases z), fun _ z => (by cases z)⟩ (fun F ι H e => ⟨[], e, .nil⟩) (fun _ h => by cases h) R' s'
  exact o (.ref p) F (ι ++ [p]) _ a2 a1 a3
theorem v_dictK : PEv X E (.Dict [] [] pos) gDictK := pe_weak pe_dnewK fun σ H Q h => by
  obtain ⟨F, ι, ρ, st, R, env, o⟩ := h
  intro p hp
  obtain ⟨R', s'⟩ := R.put (o := .dK []) hp
  obtain ⟨a1, a2, a3⟩ := Rel.fresh (ob := .dic []) R hp ⟨fun _ z => (by cases z), fun _ z => (by cases z)⟩ (fun F ι H e => ⟨[], e, .nil⟩) (fun _ h => by cases h) R' s'
  exact o (.ref p) F (ι ++ [p]) _ a2 a1 a3
end
/-! ### sorted -/
def insI (x : Int) : List Int → List Int
  | [] => [x]
  | y :: r => if x ≤ y then x :: y :: r else y :: insI x r
def isort : List Int → List Int
  | [] => []
  | x :: r => insI x (isort r)
theorem insI_perm (x : Int) : ∀ l : List Int, (insI x l).Perm (x :: l)
  | [] => .refl _
  | y :: r => by
    unfold insI
    split
    · exact .refl _
    · exact ((insI_perm x r).cons y).trans (.swap _ _ _)
theorem isort_perm : ∀ l : List Int, (isort l).Perm l
  | [] => .refl _
  | x :: r => (insI_perm x (isort r)).trans ((isort_perm r).cons x)
theorem insI_sorted (x : Int) : ∀ l : List Int, l.Pairwise (· ≤ ·) → (insI x l).Pairwise (· ≤ ·)
  | [], _ => List.pairwise_singleton _ _
  | y :: r, h => by
    unfold insI
    rw [List.pairwise_cons] at h
    split
    · rename_i hx
      refine List.pairwise_cons.mpr ⟨fun z hz => ?_, List.pairwise_cons.mpr h⟩
      rcases List.mem_cons.mp hz with rfl | hz
      · exact hx
      · exact Int.le_trans hx (h.1 z hz)
    · rename_i hx
      refine List.pairwise_cons.mpr ⟨fun z hz => ?_, insI_sorted x r h.2⟩
      rcases List.mem_cons.mp ((insI_perm x r).subset hz) with rfl | hz
      · omega
      · exact h.1 z hz
theorem isort_sorted : ∀ l : List Int, (isort l).Pairwise (· ≤ ·)
  | [] => .nil
  | x :: r => insI_sorted x _ (isort_sorted r)
theorem sorted_one : ∀ (xs ys : List Int), xs.Perm ys → xs.Pairwise (· ≤ ·) → ys.Pairwise (· ≤ ·) → xs = ys
  | [], ys, h, _, _ => (List.Perm.nil_eq h)
  | x :: xs, [], h, _, _ => absurd h.length_eq (by simp)
  | x :: xs, y :: ys, h, h1, h2 => by
    rw [List.pairwise_cons] at h1 h2
    have e : x = y := by
      rcases List.mem_cons.mp (h.subset List.mem_cons_self) with e | e
      · exact e
      · rcases List.mem_cons.mp (h.symm.subset List.mem_cons_self) with e2 | e2
        · exact e2.symm
        · have a1 := h1.1 y e2
          have a2 := h2.1 x e
          omega
    subst e
    rw [sorted_one xs ys ((List.perm_cons x).mp h) h1.2 h2.2]
def keysI : List (Key × Vl) → Option (List Int)
  | [] => some []
  | (.inl i, _) :: r => (keysI r).map (i :: ·)
  | _ => none
theorem keysI_v : ∀ {us : List (Key × V)} {kvs : List (Key × Vl)} {ks : List Int}, KvR K F ι us kvs → keysI kvs = some ks → us.map (·.1) = ks.map Sum.inl
  | _, _, _, .nil, h => by cases h; rfl
  | _, _, ks, .cons (l₁ := us) (l₂ := kvs) (a := p) (b := q) hp r, h => by
    obtain ⟨k, v⟩ := q
    cases k with
    | inl i =>
      obtain ⟨ks', e, rfl⟩ := Option.map_eq_some_iff.mp (show (keysI kvs).map (i :: ·) = some ks from h)
      rw [List.map_cons, List.map_cons, keysI_v r e, hp.1]
    | inr s => cases h
/-- sorted(a dict of ints) -/
def vSortedD : Vl → M Vl := fun x st => match dicAt st x with
  | some (_, kvs) => match keysI kvs with
    | some ks => if ks.length < 64 then .ok (.own ((isort ks).map .int)) st else .stuck
    | none => .stuck
  | none => .stuck
section
variable {X : Cx} {e : Expr} {g : G} {p pos : Pos}
theorem nsortedD (hc : X.calm = true) (hm : X.mg "sorted" = none) (h : PEv X E e g) (hg : Gl X "sorted" := by rfl) (he : starEach [e] X.env = (false, eval e X.env) :: starEach [] X.env := by rfl) : PEv X E (.Call (.Name "sorted" p) [e] [] pos) (gUn vSortedD g) := by
  refine v_b1 (call_sortedDI hc) (fun F ι st H H0 x a Q R th r o => ?_) (by first | rfl | decide) hg hm h (by decide) (by decide) he
  unfold vSortedD at o
  split at o
  · rename_i n kvs e1
    split at o
    · rename_i ks e2
      split at o
      · rename_i hz
        obtain ⟨l, us, rfl, hl, hst, h1, q⟩ := dic_at R r e1
        refine ⟨l, us, ks, rfl, .inl h1, keysI_v q e2, hz, fun ys p hp hs hf => ?_⟩
        have : ys = isort ks := sorted_one _ _ (hp.trans (isort_perm ks).symm) hs (isort_sorted ks)
        subst this
        exact o.lst R th (dn_ints _) p hf
      · exact o.elim
    · exact o.elim
  · exact o.elim
end
end Zv
set_option Elab.async false
set_option linter.all false
set_option maxRecDepth 100000
set_option maxHeartbeats 4000000
/-! Z30: extend by a tuple, list.index of data. -/
namespace PySem.AutoSeq1
open PySem
theorem list_extend_tupX (l : Addr) (items : Array Value) (n : Nat) (b : Addr) (items2 : Array Value) (n2 : Nat) (dd : Option Addr) (sls : Array (Option Value)) (hs0 : ¬(!items.isEmpty && Builtin.List.listTooLong (items.size + items2.size)) = true) (hs1 : items.size ≤ sizeLine) (hs2 : items.size + items2.size ≤ sizeLine + 1) :
    Meets (Builtin.«list.extend» ⟨[.ref l, .ref b], []⟩) (fun _ R s => s.heap.get? l = some { cls := .type "list", dict := none, data := .seq items n, slots := #[] } ∧ s.heap.get? b = some { cls := .type "tuple", dict := dd, data := .seq items2 n2, slots := sls } ∧ R (.ok (.ret Value.none)) { s with heap := s.heap.update l (Obj.mapSeq fun x => x ++ items2), toks := s.toks }) :=
  .of_wp fun prog w A R s h => by
    obtain ⟨hp, g, d, tk, os⟩ := s; obtain ⟨hl, hb, h⟩ := h; have f1 := idx_int; have f2 := sub_tuple_tuple; have f3 := sub_list_list; have f4 := sub_tuple_list; have f5 := sub_list_tuple;
    have hz' : (items ++ items2).size ≤ sizeLine + 1 := by rw [Array.size_append]; exact hs2
    wp_walk using (wpAny_updateSeq hl rfl (hz := hs1) (_hz' := hz')), wpAny_loadPart' hl, wpAny_loadPart' hb; exact ⟨_, rfl, h⟩
end PySem.AutoSeq1
namespace Zv
open PySem PySem.Spec PyProof.Rows L2
variable {K : PySem.W.Frag} {mg : Str → Option Value} {E : EX} {F F' F1 H H' H0 H1 : Hp} {ι ι' ι1 : Adr} {st st' st1 : Store} {v w : V} {a b : Vl}
def rExtendT1 : V → List V → Hp → VK → Prop := fun x vs H Q => ∃ l b xs zs, x = .ref l ∧ vs = [.ref b] ∧ H l = some (.lst xs) ∧ H b = some (.tup zs) ∧ xs.length + zs.length ≤ sizeLine ∧ Q .non (upd H l (.lst (xs ++ zs)))
theorem mt_extendT {X : Cx} : MtR X "list.extend" rExtendT1 := by
  intro pins s σ H x vs v us Q I rx rv h
  obtain ⟨l, b, xs, zs, rfl, rfl, hH, hB, hz, q⟩ := h
  cases rx
  obtain ⟨u, rfl, ru⟩ := rv.one
  cases ru
  obtain ⟨z, its, n, r, hl, e⟩ := I.lstM hH
  obtain ⟨z2, its2, r2, ⟨⟨cls, dd, data, sls⟩, e2, hc, n2, hd⟩⟩ := I.hok b _ hB
  simp only at hc hd
  subst hc hd
  have hl2 := r2.length
  have hsz : its.toArray.size + its2.toArray.size ≤ sizeLine := by rw [List.size_toArray, List.size_toArray]; omega
  have hlong : ¬ (!its.toArray.isEmpty && Builtin.List.listTooLong (its.toArray.size + its2.toArray.size)) = true := by
    rw [notLongL hsz, Bool.and_false]
    exact Bool.false_ne_true
  refine call_meets F.slot_list_extend ⟨_, e, rfl⟩ F.entry_list_extend (F.args_list_extend_2 _ _)
    (AutoSeq1.list_extend_tupX l its.toArray n b its2.toArray n2 dd sls hlong (by rw [List.size_toArray]; omega) (by omega)) ⟨e, e2, ?_⟩
  refine ⟨.non, _, I.lset (its' := its ++ its2) hH e (by simp) (r.append r2) ?_, rfl, q⟩
  rw [List.length_append]
  omega
/-- xs.extend(a tuple) -/
def mExtendT : MOp := fun x ys st => match x, ys with
  | .ref n, [.d (.tuple zs)] => match lstAt st n with
    | some xs => if xs.length + zs.length ≤ sizeLine then .ok (.d .none) (st.set n (.lst (xs ++ zs))) else .stuck
    | _ => .stuck
  | _, _ => .stuck
theorem mv_extendT : MtV K mg E mExtendT rExtendT1 := by
  intro F ι st H H0 x vs a ys Q R th rx rs o
  unfold mExtendT at o
  split at o
  · rename_i n zs
    split at o
    · rename_i xs e1
      split at o
      · rename_i hz
        obtain ⟨l, ws, rfl, hl, h1, z⟩ := ref_at R rx e1
        cases rs with
        | cons q rs =>
          cases rs
          cases q with
          | tup q2 z2 =>
            obtain ⟨R', s'⟩ := R.setL hl h1 (z.append z2)
            exact ⟨l, _, ws, _, rfl, rfl, h1, R.sub _ _ q2, by rw [z.len, z2.len]; exact hz, o _ _ _ _ s' R' .non⟩
      · exact o.elim
    · exact o.elim
  · exact o.elim
theorem nextendT {X : Cx} {apos cpos : Pos} {o e : Expr} {go : G} {gs : GA} (ho : PEv X E o go) (ha : PAv X E [e] gs) (hbase : attributeBase o "extend" X.env (eval o X.env) = eval o X.env := by rfl) (hline : (apos.endLine == cpos.line) = true := by rfl)
    (hs : starEach [e] X.env = (false, eval e X.env) :: starEach [] X.env := by rfl) : PEv X E (.Call (.Attribute o "extend" apos) [e] [] cpos) (gMeth isLst mExtendT go gs) := v_meth PySem.F.plainAttrs_list PySem.F.slot_list_extend PySem.F.type_list_extend mt_extendT ty_lst mv_extendT ho ha hbase (by rw [hs]; rfl) hline hs
/-- xs.index(data that is there) -/
def mIndexD : MOp := fun x ys st => match ys with
  | [y] => match lstOf x st, datOf y st with
    | some ds, some d => if (SeqAt.shaped (.list ds) && SeqAt.shaped d && decide (ds.findIdx (fun z => PyData.eqv z d) < ds.length)) = true then .ok (.d (.int (ds.findIdx (fun z => PyData.eqv z d) : Nat))) st else .stuck
    | _, _ => .stuck
  | _ => .stuck
theorem mv_indexD {X : Cx} : MtV X.K mg E mIndexD (rIndexD X.K) := by
  intro F ι st H H0 x vs a ys Q R th rx rs o
  unfold mIndexD at o
  split at o
  · rename_i y
    split at o
    · rename_i ds d e1 e2
      split at o
      · rename_i hk
        rw [Bool.and_eq_true, Bool.and_eq_true, decide_eq_true_eq] at hk
        obtain ⟨⟨h1, h2⟩, h3⟩ := hk
        obtain ⟨l, ws, rfl, h, z⟩ := lst_at R rx e1
        cases rs with
        | cons q rs =>
          cases rs
          refine ⟨l, _, d, ds, ds.findIdx fun z => PyData.eqv z d, ds[ds.findIdx fun z => PyData.eqv z d], rfl, rfl, .lst (SqL.of h) (DnAll.dp ds _ (DnAll.mono R.sub _ _ z)), (dat_at (H0 := H) R q.toR e2).dp, h1, h2, List.getElem?_eq_getElem h3, List.findIdx_getElem (w := h3), fun m z' hm hz => ?_, o.here R (.int _)⟩
          obtain ⟨hm2, rfl⟩ := List.getElem?_eq_some_iff.mp hz
          exact Bool.eq_false_iff.mpr (by simpa using List.not_of_lt_findIdx hm)
      · exact o.elim
    · exact o.elim
  · exact o.elim
theorem nindexD {X : Cx} {apos cpos : Pos} {o e : Expr} {go : G} {gs : GA} {k : Nat} (hr : Room k X.A) (ho : PEv X E o go) (ha : PAv X E [e] gs) (hbase : attributeBase o "index" X.env (eval o X.env) = eval o X.env := by rfl) (hline : (apos.endLine == cpos.line) = true := by rfl)
    (hs : starEach [e] X.env = (false, eval e X.env) :: starEach [] X.env := by rfl) : PEv X E (.Call (.Attribute o "index" apos) [e] [] cpos) (gMeth isLst mIndexD go gs) := v_meth PySem.F.plainAttrs_list PySem.F.slot_list_index PySem.F.type_list_index (mt_indexD hr.z65) ty_lst mv_indexD ho ha hbase (by rw [hs]; rfl) hline hs
end Zv
set_option Elab.async false
set_option linter.all false
set_option maxRecDepth 100000
set_option maxHeartbeats 4000000
/-! Z31: in, not in a dict, as tests. -/
namespace Zv
open PySem PySem.Spec PyProof.Rows L2
section
variable {X : Cx} {E : EX} {pos pos' : Pos} {o i e : Expr} {go gi ge : G}
theorem x_din (hu : X.A.units + 1 < cLine) (hi : PEv X E i gi) (ho : PEv X E o go) (h1 : behindInMarks .In o = false := by rfl) : PTv X E (.Compare i [.In] [o] pos) (bOf (gBin (vDIn false) gi go)) := by
  refine pt_weak (pt_cmp (pc_din hu hi ho) h1) fun σ H Q h => ?_
  obtain ⟨F, ι, ρ, st, R, env, o1⟩ := ttv_test σ H Q h
  refine ⟨F, ι, ρ, st, R, env, Out.bind o1 fun y F1 ι1 H1 b st1 s1 R1 r1 o2 => ?_⟩
  refine ⟨F1, ι1, ρ, st1, R1, env.step s1, Out.bind (o2.later s1) fun x F2 ι2 H2 a st2 s2 R2 r2 o3 => ?_⟩
  have o4 := o3.later s2
  unfold vDIn at o4
  split at o4
  · rename_i n kvs k e1 e2
    obtain ⟨l, us, rfl, hl, hst, h1, q⟩ := dic_at R2 r2 e1
    have hk := key_at (r1.step s2) e2
    subst hk
    exact ⟨l, _, rfl, DGet.k h1, by rw [val_some q]; exact o4.here R2 (.bl _)⟩
  · exact o4.elim
theorem x_dnotin (hu : X.A.units + 1 < cLine) (hi : PEv X E i gi) (ho : PEv X E o go) (h1 : behindInMarks .NotIn o = false := by rfl) : PTv X E (.Compare i [.NotIn] [o] pos) (bOf (gBin (vDIn true) gi go)) := by
  refine pt_weak (pt_cmp (pc_dnotin hu hi ho) h1) fun σ H Q h => ?_
  obtain ⟨F, ι, ρ, st, R, env, o1⟩ := ttv_test σ H Q h
  refine ⟨F, ι, ρ, st, R, env, Out.bind o1 fun y F1 ι1 H1 b st1 s1 R1 r1 o2 => ?_⟩
  refine ⟨F1, ι1, ρ, st1, R1, env.step s1, Out.bind (o2.later s1) fun x F2 ι2 H2 a st2 s2 R2 r2 o3 => ?_⟩
  have o4 := o3.later s2
  unfold vDIn at o4
  split at o4
  · rename_i n kvs k e1 e2
    obtain ⟨l, us, rfl, hl, hst, h1, q⟩ := dic_at R2 r2 e1
    have hk := key_at (r1.step s2) e2
    subst hk
    exact ⟨l, _, rfl, DGet.k h1, by rw [val_some q]; exact o4.here R2 (.bl _)⟩
  · exact o4.elim
theorem x_tin (hu : X.A.units + 1 < cLine) (hi : PEv X E i gi) (ho : PEv X E o go) (h1 : behindInMarks .In o = false := by rfl) : PTv X E (.Compare i [.In] [o] pos) (bOf (gBin (vTIn false) gi go)) := by
  refine pt_weak (pt_cmp (pc_din hu hi ho) h1) fun σ H Q h => ?_
  obtain ⟨F, ι, ρ, st, R, env, o1⟩ := ttv_test σ H Q h
  refine ⟨F, ι, ρ, st, R, env, Out.bind o1 fun y F1 ι1 H1 b st1 s1 R1 r1 o2 => ?_⟩
  refine ⟨F1, ι1, ρ, st1, R1, env.step s1, Out.bind (o2.later s1) fun x F2 ι2 H2 a st2 s2 R2 r2 o3 => ?_⟩
  have o4 := o3.later s2
  unfold vTIn at o4
  split at o4
  · rename_i n kvs k e1 e2
    obtain ⟨l, us, rfl, hl, hst, h1, q⟩ := dit_at R2 r2 e1
    obtain ⟨bb, rfl, hb⟩ := tkey_at R2 (r1.step s2) e2
    exact ⟨l, _, rfl, DGet.t h1 hb, by rw [valT_some q]; exact o4.here R2 (.bl _)⟩
  · exact o4.elim
theorem x_tnotin (hu : X.A.units + 1 < cLine) (hi : PEv X E i gi) (ho : PEv X E o go) (h1 : behindInMarks .NotIn o = false := by rfl) : PTv X E (.Compare i [.NotIn] [o] pos) (bOf (gBin (vTIn true) gi go)) := by
  refine pt_weak (pt_cmp (pc_dnotin hu hi ho) h1) fun σ H Q h => ?_
  obtain ⟨F, ι, ρ, st, R, env, o1⟩ := ttv_test σ H Q h
  refine ⟨F, ι, ρ, st, R, env, Out.bind o1 fun y F1 ι1 H1 b st1 s1 R1 r1 o2 => ?_⟩
  refine ⟨F1, ι1, ρ, st1, R1, env.step s1, Out.bind (o2.later s1) fun x F2 ι2 H2 a st2 s2 R2 r2 o3 => ?_⟩
  have o4 := o3.later s2
  unfold vTIn at o4
  split at o4
  · rename_i n kvs k e1 e2
    obtain ⟨l, us, rfl, hl, hst, h1, q⟩ := dit_at R2 r2 e1
    obtain ⟨bb, rfl, hb⟩ := tkey_at R2 (r1.step s2) e2
    exact ⟨l, _, rfl, DGet.t h1 hb, by rw [valT_some q]; exact o4.here R2 (.bl _)⟩
  · exact o4.elim
end
end Zv
set_option Elab.async false
set_option linter.all false
set_option maxRecDepth 100000
set_option maxHeartbeats 4000000
/-! Z32: a, b = x, y where a name is a cell: by way of a tuple that nobody keeps. -/
namespace Zv
open PySem PySem.Spec PyProof.Rows L2
section
variable {X : Cx} {E : EX} {pos : Pos}
theorem sv_parT {i j : Nat} {x y : Str} {a b : Expr} {gs : GA} {px py pt : Pos} {kt k2 pt2} (hc : X.calm = true) (hN : X.N.Nodup) (hi : X.N[i]? = some x) (hj : X.N[j]? = some y)
    (hx : Loc X.env.scope x) (hy : Loc X.env.scope y) (ha : PAv X E [a, b] gs)
    (fx : X.fn x = true ∨ X.env.scope.names.lookup x = some .local := by first | exact .inl rfl | exact .inr rfl | assumption) (fy : X.fn y = true ∨ X.env.scope.names.lookup y = some .local := by first | exact .inl rfl | exact .inr rfl | assumption)
    (hw : swappedStores [.Tuple [.Name x px, .Name y py] kt pt] (.Tuple [a, b] k2 pt2) X.env = pure none := by rfl)
    (hs : swapsWithSole [.Tuple [.Name x px, .Name y py] kt pt] (.Tuple [a, b] k2 pt2) pos.line X.env = pure false := by rfl) (hfr : E.free := by exact fun _ _ _ _ h => h)
    (h0 : (assignEach [.Tuple [.Name x px, .Name y py] kt pt] X.env).map (·.2) = [assign (.Tuple [.Name x px, .Name y py] kt pt) X.env] := by rfl)
    (h1 : (assignEach [.Name x px, .Name y py] X.env).map (·.2) = assign (.Name x px) X.env :: (assignEach [.Name y py] X.env).map (·.2) := by rfl)
    (h2 : (assignEach [.Name y py] X.env).map (·.2) = assign (.Name y py) X.env :: (assignEach [] X.env).map (·.2) := by rfl)
    (hn : (assignEach [.Name x px, .Name y py] X.env).length = 2 := by rfl) (hst : (assignEach [.Name x px, .Name y py] X.env).findIdx? (·.1) = none := by rfl) :
    PSv X E (.Assign [.Tuple [.Name x px, .Name y py] kt pt] (.Tuple [a, b] k2 pt2) pos) (sPar [i, j] gs) := by
  refine ps_weak (ps_asg (pe_tup ha) (pg_tup hc (pgs_cons (pg_name hN hi hx fx) (pgs_cons (pg_name hN hj hy fy) pgs_nil h2) h1) hn hst) hs hw h0) fun D σ H h => ?_
  obtain ⟨F, ι, ρ, st, R, env, o⟩ := h
  refine ⟨F, ι, ρ, st, R, env, Out.bind o fun vs F1 ι1 H1 xs st1 s1 R1 r1 o1 => ?_⟩
  split at o1
  · rename_i hl
    cases r1 with
    | nil => cases hl
    | cons q1 r1 =>
      cases r1 with
      | nil => cases hl
      | cons q2 r1 =>
        cases r1 with
        | nil =>
          refine ⟨by rw [sizeLine_eq]; simp, fun p hp => ?_⟩
          obtain ⟨R', s'⟩ := R1.put (o := .tup _) hp
          exact ⟨p, _, rfl, SqT.of upd_same, rfl, _, _, rfl, _, _, rfl, rfl, o1 (.nx _) F1 ι1 _ (s1.trans s') R' (RelEnv.set hfr (RelEnv.set hfr ((env.step s1).step s') i (q1.step s')) j (q2.step s'))⟩
        | cons q3 r1 => cases hl
  · exact o1.elim
theorem sv_parT3 {i j l : Nat} {x y z : Str} {a b c : Expr} {gs : GA} {px py pz pt : Pos} {kt k2 pt2} (hc : X.calm = true) (hN : X.N.Nodup) (hi : X.N[i]? = some x) (hj : X.N[j]? = some y) (hl : X.N[l]? = some z)
    (hx : Loc X.env.scope x) (hy : Loc X.env.scope y) (hz : Loc X.env.scope z) (ha : PAv X E [a, b, c] gs)
    (fx : X.fn x = true ∨ X.env.scope.names.lookup x = some .local := by first | exact .inl rfl | exact .inr rfl | assumption) (fy : X.fn y = true ∨ X.env.scope.names.lookup y = some .local := by first | exact .inl rfl | exact .inr rfl | assumption) (fz : X.fn z = true ∨ X.env.scope.names.lookup z = some .local := by first | exact .inl rfl | exact .inr rfl | assumption)
    (hw : swappedStores [.Tuple [.Name x px, .Name y py, .Name z pz] kt pt] (.Tuple [a, b, c] k2 pt2) X.env = pure none := by rfl)
    (hs : swapsWithSole [.Tuple [.Name x px, .Name y py, .Name z pz] kt pt] (.Tuple [a, b, c] k2 pt2) pos.line X.env = pure false := by rfl) (hfr : E.free := by exact fun _ _ _ _ h => h)
    (h0 : (assignEach [.Tuple [.Name x px, .Name y py, .Name z pz] kt pt] X.env).map (·.2) = [assign (.Tuple [.Name x px, .Name y py, .Name z pz] kt pt) X.env] := by rfl)
    (h1 : (assignEach [.Name x px, .Name y py, .Name z pz] X.env).map (·.2) = assign (.Name x px) X.env :: (assignEach [.Name y py, .Name z pz] X.env).map (·.2) := by rfl)
    (h2 : (assignEach [.Name y py, .Name z pz] X.env).map (·.2) = assign (.Name y py) X.env :: (assignEach [.Name z pz] X.env).map (·.2) := by rfl)
    (h3 : (assignEach [.Name z pz] X.env).map (·.2) = assign (.Name z pz) X.env :: (assignEach [] X.env).map (·.2) := by rfl)
    (hn : (assignEach [.Name x px, .Name y py, .Name z pz] X.env).length = 3 := by rfl) (hst : (assignEach [.Name x px, .Name y py, .Name z pz] X.env).findIdx? (·.1) = none := by rfl) :
    PSv X E (.Assign [.Tuple [.Name x px, .Name y py, .Name z pz] kt pt] (.Tuple [a, b, c] k2 pt2) pos) (sPar [i, j, l] gs) := by
  refine ps_weak (ps_asg (pe_tup ha) (pg_tup hc (pgs_cons (pg_name hN hi hx fx) (pgs_cons (pg_name hN hj hy fy) (pgs_cons (pg_name hN hl hz fz) pgs_nil h3) h2) h1) hn hst) hs hw h0) fun D σ H h => ?_
  obtain ⟨F, ι, ρ, st, R, env, o⟩ := h
  refine ⟨F, ι, ρ, st, R, env, Out.bind o fun vs F1 ι1 H1 xs st1 s1 R1 r1 o1 => ?_⟩
  split at o1
  · rename_i hl
    cases r1 with
    | nil => cases hl
    | cons q1 r1 =>
      cases r1 with
      | nil => cases hl
      | cons q2 r1 =>
        cases r1 with
        | nil => cases hl
        | cons q3 r1 =>
          cases r1 with
          | nil =>
            refine ⟨by rw [sizeLine_eq]; simp, fun p hp => ?_⟩
            obtain ⟨R', s'⟩ := R1.put (o := .tup _) hp
            exact ⟨p, _, rfl, SqT.of upd_same, rfl, _, _, rfl, _, _, rfl, _, _, rfl, rfl, o1 (.nx _) F1 ι1 _ (s1.trans s') R' (RelEnv.set hfr (RelEnv.set hfr (RelEnv.set hfr ((env.step s1).step s') i (q1.step s')) j (q2.step s')) l (q3.step s'))⟩
          | cons q4 r1 => cases hl
  · exact o1.elim
end
end Zv
set_option Elab.async false
set_option linter.all false
set_option maxRecDepth 100000
set_option maxHeartbeats 4000000
/-! Z33: texts: split, startswith, index, int(text), str(text), replace of written texts. -/
namespace Zv
open PySem PySem.Spec PyProof.Rows L2
variable {K : PySem.W.Frag} {mg : Str → Option Value} {E : EX} {F F' F1 H H' H0 H1 : Hp} {ι ι' ι1 : Adr} {st st' st1 : Store} {v w : V} {a b : Vl}
theorem dn_strs : ∀ ys : List Str, DnAll K F (ys.map V.str) (ys.map PyData.str)
  | [] => .nil
  | y :: ys => .cons (.str y) (dn_strs ys)
def mSplit : MOp := fun x ys st => match x, ys with
  | .d (.str a), [.d (.str b)] => if (b.length == 0) = false ∧ a.length + 2 ≤ sizeLine then .ok (.own ((Txt.split a b).map PyData.str)) st else .stuck
  | _, _ => .stuck
theorem mv_split : MtV K mg E mSplit (fun x xs H Q => ∃ a b, x = .str a ∧ xs = [.str b] ∧ (b.length == 0) = false ∧ a.length + 2 ≤ sizeLine ∧ rNewStrs (Txt.split a b) H Q) := by
  intro F ι st H H0 x vs a ys Q R th rx rs o
  unfold mSplit at o
  split at o
  · split at o
    · rename_i hz
      cases rx
      cases rs with
      | cons q rs =>
        cases rs
        cases q
        exact ⟨_, _, rfl, rfl, hz.1, hz.2, o.lst R th (dn_strs _)⟩
    · exact o.elim
  · exact o.elim
def mStarts : MOp := fun x ys st => match x, ys with
  | .d (.str a), [.d (.str b)] => .ok (.d (.bool (Txt.startswith a b))) st
  | _, _ => .stuck
theorem mv_starts : MtV K mg E mStarts (fun x xs H Q => ∃ a b, x = .str a ∧ xs = [.str b] ∧ Q (.bl (Txt.startswith a b)) H) := by
  intro F ι st H H0 x vs a ys Q R th rx rs o
  unfold mStarts at o
  split at o
  · cases rx
    cases rs with
    | cons q rs =>
      cases rs
      cases q
      exact ⟨_, _, rfl, rfl, o.here R (.bl _)⟩
  · exact o.elim
def mSIndex : MOp := fun x ys st => match x, ys with
  | .d (.str a), [.d (.str b)] => match Builtin.Str.occurrences a b 0 a.length 1 with
    | i :: _ => .ok (.d (.int (i : Nat))) st
    | [] => .stuck
  | _, _ => .stuck
theorem mv_sindex : MtV K mg E mSIndex (fun x xs H Q => ∃ a b i rest, x = .str a ∧ xs = [.str b] ∧ Builtin.Str.occurrences a b 0 a.length 1 = i :: rest ∧ Q (.int (i : Nat)) H) := by
  intro F ι st H H0 x vs a ys Q R th rx rs o
  unfold mSIndex at o
  split at o
  · split at o
    · rename_i e
      cases rx
      cases rs with
      | cons q rs =>
        cases rs
        cases q
        exact ⟨_, _, _, _, rfl, rfl, e, o.here R (.int _)⟩
    · exact o.elim
  · exact o.elim
def vIntS : Vl → M Vl := fun x st => match x with
  | .d (.str a) => match PySem.intText? a with
    | some n => if a.length ≤ 640 then .ok (.d (.int n)) st else .stuck
    | none => .stuck
  | _ => .stuck
theorem c1_intS : C1V K mg E vIntS (fun xs H Q => ∃ a n, xs = [.str a] ∧ PySem.intText? a = some n ∧ a.length ≤ 640 ∧ Q (.int n) H) := by
  intro F ι st H H0 x a Q R th rx o
  unfold vIntS at o
  split at o
  · split at o
    · rename_i e
      split at o
      · rename_i h
        cases rx
        exact ⟨_, _, rfl, e, h, o.here R (.int _)⟩
      · exact o.elim
    · exact o.elim
  · exact o.elim
/-- str(x) of an int or a text -/
def vStr2 : Vl → M Vl := fun x st => match x with
  | .d (.int i) => if i.natAbs.log2 < 1920 then .ok (.d (.str (toString i))) st else .stuck
  | .d (.str a) => .ok (.d (.str a)) st
  | _ => .stuck
theorem call_str2 {X : Cx} : CallR X (.type "str") (fun xs H Q => (∃ i : Int, xs = [.int i] ∧ i.natAbs.log2 < 1920 ∧ Q (.str (toString i)) H) ∨ ∃ a, xs = [.str a] ∧ Q (.str a) H) := by
  intro pins s σ H xs us Q I r h
  rcases h with h | h
  · exact call_str_int pins s σ H xs us Q I r h
  · exact SkE.call_str_str pins s σ H xs us Q I r h
theorem c1_str2 : C1V K mg E vStr2 (fun xs H Q => (∃ i : Int, xs = [.int i] ∧ i.natAbs.log2 < 1920 ∧ Q (.str (toString i)) H) ∨ ∃ a, xs = [.str a] ∧ Q (.str a) H) := by
  intro F ι st H H0 x a Q R th rx o
  unfold vStr2 at o
  split at o
  · cases rx
    split at o
    · rename_i h; exact .inl ⟨_, rfl, h, o.here R (.str _)⟩
    · exact o.elim
  · cases rx
    exact .inr ⟨_, rfl, o.here R (.str _)⟩
  · exact o.elim
section
variable {X : Cx} {e : Expr} {g : G} {p pos : Pos} {apos cpos : Pos} {o : Expr} {es : List Expr} {go : G} {gs : GA}
theorem nsplit (ho : PEv X E o go) (ha : PAv X E [e] gs) (hbase : attributeBase o "split" X.env (eval o X.env) = eval o X.env := by rfl) (hline : (apos.endLine == cpos.line) = true := by rfl)
    (hs : starEach [e] X.env = (false, eval e X.env) :: starEach [] X.env := by rfl) : PEv X E (.Call (.Attribute o "split" apos) [e] [] cpos) (gMeth isStr mSplit go gs) := v_meth PySem.F.plainAttrs_str PySem.F.slot_str_split PySem.F.type_str_split mt_split ty_str mv_split ho ha hbase (by rw [hs]; rfl) hline hs
theorem nstarts (ho : PEv X E o go) (ha : PAv X E [e] gs) (hbase : attributeBase o "startswith" X.env (eval o X.env) = eval o X.env := by rfl) (hline : (apos.endLine == cpos.line) = true := by rfl)
    (hs : starEach [e] X.env = (false, eval e X.env) :: starEach [] X.env := by rfl) : PEv X E (.Call (.Attribute o "startswith" apos) [e] [] cpos) (gMeth isStr mStarts go gs) := v_meth PySem.F.plainAttrs_str PySem.F.slot_str_startswith PySem.F.type_str_startswith mt_startswith ty_str mv_starts ho ha hbase (by rw [hs]; rfl) hline hs
theorem nsindex (ho : PEv X E o go) (ha : PAv X E [e] gs) (hbase : attributeBase o "index" X.env (eval o X.env) = eval o X.env := by rfl) (hline : (apos.endLine == cpos.line) = true := by rfl)
    (hs : starEach [e] X.env = (false, eval e X.env) :: starEach [] X.env := by rfl) : PEv X E (.Call (.Attribute o "index" apos) [e] [] cpos) (gMeth isStr mSIndex go gs) := v_meth PySem.F.plainAttrs_str PySem.F.slot_str_index PySem.F.type_str_index mt_sindex ty_str mv_sindex ho ha hbase (by rw [hs]; rfl) hline hs
theorem nintS (hm : X.mg "int" = none) (h : PEv X E e g) (hg : Gl X "int" := by rfl) (he : starEach [e] X.env = (false, eval e X.env) :: starEach [] X.env := by rfl) : PEv X E (.Call (.Name "int" p) [e] [] pos) (gUn vIntS g) := v_t1 call_int_str c1_intS (by first | rfl | decide) hg hm h (by decide) (by decide) he
theorem nstr2 (hm : X.mg "str" = none) (h : PEv X E e g) (hg : Gl X "str" := by rfl) (he : starEach [e] X.env = (false, eval e X.env) :: starEach [] X.env := by rfl) : PEv X E (.Call (.Name "str" p) [e] [] pos) (gUn vStr2 g) := v_t1 call_str2 c1_str2 (by first | rfl | decide) hg hm h (by decide) (by decide) he
end
/-! ### replace: one token is out -/
def vRepl (y z : Str) : Vl → M Vl := fun x st => match x with
  | .d (.str a) => if a.length + (a.length + 1) * z.length ≤ 16777216 then .ok (.d (.str (Txt.replace a y z))) st else .stuck
  | _ => .stuck
def PETv (X : Cx) (E : EX) (e : Expr) (g : G) : Prop := PET X e (tev X.K X.mg E g)
def PATv (X : Cx) (E : EX) (es : List Expr) (g : GA) : Prop := PAT X es (tav X.K X.mg E g)
def PE1 (X : Cx) (e : Expr) (t : TE) : Prop := ∀ (pins : List (Addr × Obj)) (s : Shared) (σ : L2.St) (H : Hp) (Q : VK), Inv X pins σ H s → t σ H Q → wpAny (model X.prog X.w) X.A (eval e X.env) (fun v s1 => 1 ≤ s1.toks ∧ EP X pins σ Q v s1) X.xe s
def PE1v (X : Cx) (E : EX) (e : Expr) (g : G) : Prop := PE1 X e (tev X.K X.mg E g)
section
variable {X : Cx} {e : Expr} {es : List Expr} {g go : G} {gs : GA} {t t' te : TE} {ta ta' : TA} {o : Expr} {y z : Str} {j k : Nat} {c0 c1 apos pos : Pos}
theorem pet_weak (h : PET X e t) (w : ∀ σ H Q, t' σ H Q → t σ H Q) : PET X e t' := fun pins s σ H Q h0 I q => h pins s σ H Q h0 I (w σ H Q q)
theorem pat_weak (h : PAT X es ta) (w : ∀ σ H Q, ta' σ H Q → ta σ H Q) : PAT X es ta' := fun pos pins s σ H Q h0 I q => h pos pins s σ H Q h0 I (w σ H Q q)
theorem vet_of (h : PEv X E e g) : PETv X E e g := fun pins s σ H Q _ I q => PE.run h pins s σ H Q I q
theorem vat_nil : PATv X E [] gaNil := fun pos pins s σ H Q _ I q => PA.run (va_nil (X := X) (E := E)) pos pins s σ H Q I q
theorem tav_cons (σ : L2.St) (H : Hp) (Q : List V → Hp → Prop) (h : tav X.K X.mg E (gaCons g gs) σ H Q) : tCons (tev X.K X.mg E g) (tav X.K X.mg E gs) σ H Q := by
  obtain ⟨F, ι, ρ, st, R, env, o⟩ := h
  refine ⟨F, ι, ρ, st, R, env, o.bind fun x F1 ι1 H1 a st1 s1 R1 r1 o1 => ?_⟩
  obtain ⟨F2, R2, s2, g2, r2⟩ := R1.frz s1.there s1 r1
  refine ⟨F2, ι1, ρ, st1, R2, env.step s2, (o1.later s2).bind fun ys F3 ι3 H3 bs st3 s3 R3 r3 o3 => ?_⟩
  exact o3 (x :: ys) F3 ι3 H3 s3 R3 (.cons (r2.step s3) r3)
theorem vat_cons (ha : PETv X E e g) (hr : PATv X E es gs) (hs : starEach (e :: es) X.env = (false, eval e X.env) :: starEach es X.env := by rfl) : PATv X E (e :: es) (gaCons g gs) :=
  pat_weak (pat_cons ha hr hs) tav_cons
theorem pa_consU (ha : PE1 X e te) (hr : PAT X es ta) (hs : starEach (e :: es) X.env = (false, eval e X.env) :: starEach es X.env := by rfl) : PA X (e :: es) (tCons te ta) := by
  refine ⟨fun pos pins s σ H Q I h => ?_⟩
  rw [hs]
  show wpAny _ _ (spliced ((false, eval e X.env) :: backTo pos (starEach es X.env))) _ _ s
  refine Calls.spliced_cons (wpAny_mono (ha pins s σ H _ I h) (fun v s1 q => ?_) fun _ _ z => z)
  obtain ⟨hk, x, H1, I1, r1, q1⟩ := q
  exact thn (hr pos pins s1 σ H1 _ hk I1 q1) fun us s2 ⟨xs, H2, I2, r2, q2⟩ => ⟨x :: xs, H2, I2, .cons r1 r2, q2⟩
theorem va_consU (ha : PE1v X E e g) (hr : PATv X E es gs) (hs : starEach (e :: es) X.env = (false, eval e X.env) :: starEach es X.env := by rfl) : PAv X E (e :: es) (gaCons g gs) :=
  pa_weak (pa_consU ha hr hs) tav_cons
theorem pe1_lstStr : PE1 X (.List [.Constant (.str z) j c0] pos) (tLst (tCons (tC (.str z)) tNil)) := by
  intro pins s σ H Q I h
  refine wpAny_List_spliced ?_
  show wpAny _ _ (spliced ((false, eval (.Constant (.str z) j c0) X.env) :: backTo pos (starEach [] X.env))) _ _ s
  refine Calls.spliced_cons (Calls.Constant_str (Calls.spliced_nil ?_))
  have h1 : (1 : Nat) ≤ sizeLine := by decide
  obtain ⟨_, q⟩ : 1 ≤ sizeLine ∧ ∀ p, H p = none → Q (.ref p) (upd H p (.lst [.str z])) := h
  refine ⟨h1, by show 1 ≤ s.toks + 1; omega, .ref s.heap.objs.size, upd H s.heap.objs.size (.lst [.str z]), ?_, rfl, q _ (I.hok.fresh (Nat.le_refl _))⟩
  exact I.laid (t' := s.toks + 1) (fun b u e => Heap.get?_push_of_some _ e) (Nat.le_refl _) ⟨h1, [.str z s.toks], 0, .cons ⟨_, rfl⟩ .nil, Heap.get?_push_size _ rfl⟩
theorem v1_lstStr : PE1v X E (.List [.Constant (.str z) j c0] pos) (gLst (gaCons (gC (.str z)) gaNil)) := by
  intro pins s σ H Q I h
  refine pe1_lstStr pins s σ H Q I ?_
  obtain ⟨F, ι, ρ, st, R, env, o⟩ := h
  have e : gLst (gaCons (gC (.str z)) gaNil) ρ st = .ok (.own [.str z]) st := by
    show (if [PyData.str z].length ≤ sizeLine then Res.ok (Vl.own [PyData.str z]) st else Res.stuck) = _
    rw [if_pos (by rw [sizeLine_eq]; simp)]
  rw [e] at o
  exact ⟨by show 1 ≤ sizeLine; decide, Out.lst o R (Step.refl F ι H).there (.cons (.str z) .nil)⟩
theorem vet_lst (h : PATv X E es gs) : PETv X E (.List es pos) (gLst gs) := by
  refine pet_weak (pet_lst h) fun σ H Q h => ?_
  obtain ⟨F, ι, ρ, st, R, env, o⟩ := h
  refine ⟨F, ι, ρ, st, R, env, Out.bind o fun vs F1 ι1 H1 xs st1 s1 R1 r1 o1 => ?_⟩
  split at o1
  · rename_i ds e
    split at o1
    · rename_i hl
      have z := dats_v r1 e
      exact ⟨by rw [z.len]; exact hl, Out.lst (o1.later s1) R1 s1.there z⟩
    · exact o1.elim
  · exact o1.elim
theorem vet_repl (ho : PEv X E o go) (hyz : (y == z) = false := by decide)
    (hst : starEach [.Constant (.str y) j c0, .Constant (.str z) k c1] X.env = [(false, eval (.Constant (.str y) j c0) X.env), (false, eval (.Constant (.str z) k c1) X.env)] := by rfl)
    (hbase : attributeBase o "replace" X.env (eval o X.env) = eval o X.env := by rfl) (hline : (apos.endLine == pos.line) = true := by rfl) :
    PETv X E (.Call (.Attribute o "replace" apos) [.Constant (.str y) j c0, .Constant (.str z) k c1] [] pos) (gUn (vRepl y z) go) := by
  refine pet_weak (CwR.pet_replC ho hyz hst hbase hline) fun σ H Q h => tev_un h fun F ι st H1 H0 x a R th r o => ?_
  unfold vRepl at o
  split at o
  · split at o
    · rename_i hz
      cases r
      exact ⟨_, rfl, hz, o.here R (.str _)⟩
    · exact o.elim
  · exact o.elim
end
end Zv
set_option Elab.async false
set_option linter.all false
set_option maxRecDepth 100000
set_option maxHeartbeats 4000000
/-! Z34: own exceptions whose field is named at. -/
namespace PySem
namespace ZxA
open PySem.W PySem.Calls PyProof.Rows PySem.HandSPX
open Builtin Builtin.ObjectAttr
abbrev exB : List Value := [.type "Exception", .type "BaseException", .type "object"]
def iA (p1 p2 : Pos) : Arguments := { posonlyargs := [], args := [{ arg := "self", annotation := none, pos := p1 }, { arg := "at", annotation := none, pos := p2 }], vararg := none, kwonlyargs := [], kw_defaults := [], kwarg := none, defaults := [] }
def iB (q1 q2 q3 q4 : Pos) : List Stmt := [.Assign [.Attribute (.Name "self" q1) "at" q2] (.Name "at" q3) q4]
def iS : Scope := { kind := .function, names := [(PySem.Str.ofString "self", .local), (PySem.Str.ofString "at", .local)], isGenerator := false, isCoroutine := false, more := [] }
/-- what the written part says of the class at C and of its __init__ at fI -/
structure Txt (K : Frag) (mg : Str → Option Value) (nm : Str) (qi : Str) (C fI : Addr) : Prop where
  gC : mg nm = some (.ref C)
  cls : ∃ nm q N bs bm sn sub ab col dd k0 k1 k2 k3 k5, K.lookup C = some (excClassObj nm q C N bs bm true sn sub ab col dd k0 k1 k2 k3 k5 "Exception.__new__") ∧ excTail exB bm = true
  sa : findIn K (.ref C) "__setattr__" = some (some (.builtin "object.__setattr__"))
  ga : findIn K (.ref C) "__getattribute__" = some (some (.builtin "BaseException.__getattribute__"))
  gg : findIn K (.ref C) "__getattr__" = some none
  noN : findIn K (.ref C) "at" = some none
  iC : findIn K (.ref C) "__init__" = some (some (.ref fI))
  tC : typeIn K (.ref fI) = some (.type "function")
  kC : keepIn K (.ref C) = true
  exC : subIn K (.ref C) (.type "BaseException") = some true
  tyC : typeIn K (.ref C) = some (.type "type")
  hdC : hasDictIn K C = true
  fn : ∃ (oc : Value) (od : Option Addr) (doc pm : Value) (an : Option Addr) (cdv ct : Value) (osl : Array (Option Value)) (p1 p2 q1 q2 q3 q4 : Pos),
    K.lookup fI = some ⟨oc, od, .func (fnOf "__init__" qi (iA p1 p2) (iB q1 q2 q3 q4) iS .none .none doc pm an cdv ct), osl⟩ ∧ codeIn K cdv qi = true
theorem one_size (v : Value) : [v].length ≤ sizeLine := by
  rw [sizeLine_eq]
  exact (by decide : 1 ≤ 16777216)
theorem ldC {M : Model} {s : Shared} {name : Str} {scope : Scope} {L a : Addr} {cd : Value} {m : Str → Option Value} {x : Str} {pos : Pos} {v : Value} {Q : Value → Shared → Prop} {A : Around} {E : Value → Shared → Prop} (hn : s.heap.Ns L m) (hv : m x = some v) (h : Q v s)
    (hk : scope.kind = .function := by rfl) (hl : (envOfC name scope L a cd).kindOf x = some .local := by rfl) (hd : (x == ("__debug__" : Str)) = false := by decide) :
    wpAny M A (eval (.Name x pos) (envOfC name scope L a cd)) Q E s := wpAny_Name (wpAny_loadName_local hk hl hn hv h) hd
structure InitEnd (h h' : Heap) (x C dx t1 : Addr) (v : Value) : Prop where
  keep : ∀ b o, b ≠ x → h.get? b = some o → h'.get? b = some o
  obj : h'.get? x = some { cls := .ref C, dict := some dx, data := .fields #[.ref t1, .none, .none, .none, .bool false, .none] }
  dbig : h.objs.size ≤ dx
  dne : dx ≠ x
  ns : h'.Ns1 dx (fun y => if y = "at" then some v else none)
structure OwnMade (h h' : Heap) (e C d : Addr) (v : Value) : Prop where
  keep : ∀ b o, h.get? b = some o → h'.get? b = some o
  new : h.objs.size ≤ e
  obj : ∃ oe vs, h'.get? e = some oe ∧ oe.cls = .ref C ∧ oe.dict = some d ∧ oe.data = .fields vs ∧ vs[1]? = some .none
  dbig : h.objs.size ≤ d
  dne : d ≠ e
  ns : h'.Ns1 d (fun y => if y = "at" then some v else none)
section
variable {prog : Program} {w : World} {A : Around} {E : Value → Shared → Prop} {R : Result → Shared → Prop} {s : Shared} {K : Frag} {mg : Str → Option Value} {C fI : Addr} {nm qi : Str}
theorem store0 {hp : Heap} {g : Array GenState} {d : Drawn} {t : Nat} {os : OsState} {name : Str} {tk : Tok} {v : Value} {x C : Addr} {fv : Array Value} {cd : ClassData}
    (X : K.In hp) (hx : hp.get? x = some { cls := .ref C, data := .fields fv }) (hcd : W.clsIn K C = some cd) (hov : excOver K C exB = true) (hh : cd.hasDict = true) (ha : W.findIn K (.ref C) name = some none)
    (hq : ∀ h' tk' dx, (∀ b o, b ≠ x → hp.get? b = some o → h'.get? b = some o) → hp.objs.size ≤ dx → dx ≠ x → h'.get? x = some { cls := .ref C, dict := some dx, data := .fields fv } →
      h'.Ns1 dx (fun y => if y = name then some v else none) → R (.ok (.ret .none)) ⟨h', g, d, tk', os⟩) :
    codeAny (model prog w) A (.call (.builtin "object.__setattr__") ⟨[.ref x, .str name tk, v], []⟩) R ⟨hp, g, d, t, os⟩ := by
  have hxs : x ≠ hp.objs.size := Nat.ne_of_lt (Heap.lt_size hx)
  have hcls : W.Looks (model prog w) hp (classData C) cd := W.looks_clsIn X hcd
  refine osa_openX (od := none) (r := none) (s := ⟨hp, g, d, t, os⟩) PySem.F.store_Exception X ⟨hx, rfl, rfl, trivial⟩ hov (by unfold takerIn; rw [ha]; rfl) fun b => ?_
  show wpAny _ _ (storeInOwnDict (.ref x) (.ref C) (.str name tk) name v b) _ _ _
  obtain ⟨nm, bs, mro, ns, qn, hd, sn, sb, ab, col, del⟩ := cd
  dsimp only at hh
  subst hh
  unfold storeInOwnDict ownDictForStores
  repeat (first | with_reducible refine store_in_new ?_ ?_ | with_reducible refine wpAny_loadPart_at hx ?_ | with_reducible refine hcls.at ?_ | wp_step)
  · exact ⟨_, #[], _, (Heap.get?_update_ne _ _ _ _ hxs.symm).trans (Heap.get?_push_at rfl rfl), rfl, fun e he => absurd he (by simp), fun _ => rfl⟩
  · intro h' tk' hn' hs
    have hx₁ : (hp.push { cls := .type "dict", data := .dict #[] }).get? x = some { cls := .ref C, data := .fields fv } := Heap.get?_push_of_some _ hx
    refine hq h' tk' hp.objs.size (fun b o hb ho => ?_) (Nat.le_refl _) hxs.symm ?_ hn'
    · exact (hs.2 b (Nat.ne_of_lt (Heap.lt_size ho))).trans ((Heap.get?_update_ne _ _ _ _ hb).trans (Heap.get?_push_of_some _ ho))
    · exact (hs.2 x hxs).trans (Heap.get?_update_self _ hx₁ rfl)
theorem exc_over {nmx q : Str} {N : Addr} {bs bm : List Value} {sn : List Str} {sub : List Value} {ab : Bool} {col : Option Bool} {dd : Option Addr} {k0 k1 k2 k3 k5 : Option Value}
    (hC : K.lookup C = some (excClassObj nmx q C N bs bm true sn sub ab col dd k0 k1 k2 k3 k5 "Exception.__new__")) (hbm : excTail exB bm = true) : excOver K C exB = true := by
  unfold excOver
  have hcl : clsIn K C = some { name := nmx, bases := bs, mro := .ref C :: bm, ns := N, qualname := q, hasDict := true, slotNames := sn, subclasses := sub, abstract := ab, collection := col, hasDel := false } := by unfold clsIn; rw [hC] <;> rfl
  rw [hcl]
  simp [hbm]
theorem own_init (T : Txt K mg nm qi C fI) {x t0 : Addr} {v : Value} (X : K.In s.heap) (hlim : s.heap.NoLimit) (hx : s.heap.get? x = some (excO C t0)) (hnx : K.lookup x = none) (hroom : A.depth < recursionLimit)
    (hq : ∀ h' tk dx, InitEnd s.heap h' x C dx t0 v → R (.ok (.ret .none)) { s with heap := h', toks := tk }) :
    codeAny (model prog w) A (.call (.ref fI) ⟨[.ref x, v], []⟩) R s := by
  obtain ⟨oc, od, doc, pm, an, cdv, ct, osl, p1, p2, q1, q2, q3, q4, ho, hcd⟩ := T.fn
  obtain ⟨nmx, q, N, bs, bm, sn, sub, ab, col, dd, k0, k1, k2, k3, k5, hC, hbm⟩ := T.cls
  have hcl : clsIn K C = some { name := nmx, bases := bs, mro := .ref C :: bm, ns := N, qualname := q, hasDict := true, slotNames := sn, subclasses := sub, abstract := ab, collection := col, hasDel := false } := by unfold clsIn; rw [hC] <;> rfl
  refine Att.call_fn (binds := [("self", .ref x), ("at", v)]) X hlim ho hcd hroom (BindsTo.of_eq (by first | rfl | with_unfolding_all rfl)) (by first | rfl | decide | with_unfolding_all rfl) (fun s₁ IC => ?_) rfl rfl rfl
  obtain ⟨h₁, tk₁, rfl⟩ := IC.toInCall.same
  have k : ∀ b o, s.heap.get? b = some o → h₁.get? b = some o := IC.toInCall.keep
  have hn := IC.toInCall.ns
  have hxL : s.heap.objs.size ≠ x := Nat.ne_of_gt (Heap.lt_size hx)
  have X₁ : K.In h₁ := X.keeps k
  have hx₁ := k _ _ hx
  show wpAny _ _ (execs _ _) _ _ _
  refine wpAny_execs_cons (plainObj_wpAny_Assign_Attribute ?_)
  refine ldC (v := v) hn (by first | rfl | with_unfolding_all rfl | kernel_rfl) (ldC (v := .ref x) hn (by first | rfl | with_unfolding_all rfl | kernel_rfl) ?_)
  refine set_plain X₁ (ox := excO C t0) (od := none) ⟨hx₁, rfl, rfl, trivial⟩ T.sa ?_
  refine store0 X₁ hx₁ hcl (exc_over hC hbm) rfl T.noN (fun h₃ tk₃ dx k₃ dn dne hx₃ hn₃ => ?_)
  show wpAny _ _ (execs _ _) _ _ _
  have z : s.heap.objs.size < h₁.objs.size := hn.lt
  exact wpAny_execs_nil (hq h₃ tk₃ dx ⟨fun b o hb e => k₃ b o hb (k b o e), hx₃, Nat.le_of_lt (Nat.lt_of_lt_of_le z dn), dne, hn₃⟩)
theorem own_made (T : Txt K mg nm qi C fI) {v : Value} (X : K.In s.heap) (hlim : s.heap.NoLimit) (hroom : A.depth + 1 < recursionLimit)
    (hq : ∀ h' tk e d, OwnMade s.heap h' e C d v → R (.ok (.ret (.ref e))) { s with heap := h', toks := tk }) :
    codeAny (model prog w) A (.call (.ref C) ⟨[v], []⟩) R s := by
  obtain ⟨nmx, q, N, bs, bm, sn, sub, ab, col, dd, k0, k1, k2, k3, k5, hC, hbm⟩ := T.cls
  obtain ⟨hp, g, dr, tk, os⟩ := s
  have k : ∀ b o, hp.get? b = some o → ((hp.push (kdv_tup [v])).push (excO C hp.objs.size)).get? b = some o := fun b o e => Heap.get?_push_of_some _ (Heap.get?_push_of_some _ e)
  have hget : ((hp.push (kdv_tup [v])).push (excO C hp.objs.size)).get? (hp.objs.size + 1) = some (excO C hp.objs.size) := by heap_get
  have hnx : K.lookup (hp.objs.size + 1) = none := by
    cases e : K.lookup (hp.objs.size + 1) with
    | none => rfl
    | some o =>
      have z : hp.get? (hp.objs.size + 1) = some o := X _ _ e
      exact absurd (Nat.lt_of_succ_lt (Heap.lt_size z)) (Nat.lt_irrefl _)
  refine HandSPX.call_own F.excBase_Exception (fun X => excTail_contains X bm hbm) (X _ _ hC) (looks_findIn X T.iC) (fun self => bind_fn X self T.tC) (one_size v) ?_
  refine own_init (s := ⟨(hp.push (kdv_tup [v])).push (excO C hp.objs.size), g, dr, tk, os⟩) T (X.keeps k) (hlim.keeps k) hget hnx ?_ fun h' tk' dx ⟨k', hx, dn, dne, hns⟩ => ?_
  · show A.depth + 1 < recursionLimit
    exact hroom
  · have old : ∀ b o, hp.get? b = some o → h'.get? b = some o := fun b o e => k' b o (Nat.ne_of_lt (Nat.lt_succ_of_lt (Heap.lt_size e))) (k b o e)
    have z : hp.objs.size + 1 + 1 ≤ dx := by
      first
        | (simpa only [Heap.size_push] using dn)
        | exact dn
        | (have q := dn; rw [Heap.size_push, Heap.size_push] at q; exact q)
    exact ⟨rfl, hq h' tk' (hp.objs.size + 1) dx ⟨old, Nat.le_succ _, ⟨_, _, hx, rfl, rfl, rfl, rfl⟩, Nat.le_trans (Nat.le_trans (Nat.le_succ _) (Nat.le_succ _)) z, dne, hns⟩⟩
end
end ZxA
end PySem
namespace Zv
open PySem PySem.Spec PyProof.Rows L2
theorem relO_at {v : V} {v' : Value} (r : RelV v v') (f : Str) : L2.RelO (List.lookup f [(("at" : Str), v)]) (if f = "at" then some v' else none) := by
  by_cases hw : f = "at"
  · subst hw
    rw [if_pos rfl]
    have q : List.lookup ("at" : Str) [(("at" : Str), v)] = some v := by simp [List.lookup]
    rw [q]
    exact r
  · rw [if_neg hw]
    have qw : (f == ("at" : Str)) = false := by simpa using hw
    have q2 : List.lookup f [(("at" : Str), v)] = none := by simp [List.lookup, qw]
    rw [q2]
    trivial
section
variable {X : Cx} {C fI : Addr} {nm qi : Str} {E : EX}
def tMkA (C : Addr) (ta : TA) : L2.St → Hp → XK → Prop := fun σ H Q => ta σ H fun vs H1 => ∃ v, vs = [v] ∧ ∀ d, H1 d = none → Q (.ref C) (some d) (upd H1 d (.xd [(("at" : Str), v)]))
theorem pmk_at {a : Expr} {ta : TA} {p pos : Pos} {k : Nat} (T : PySem.ZxA.Txt X.K X.mg nm qi C fI) (hr : Room k X.A) (ha : PA X [a] ta) (hg : Gl X nm) (hdb : (nm == ("__debug__" : Str)) = false := by decide)
    (he : starEach (a :: []) X.env = (false, eval a X.env) :: starEach [] X.env := by rfl) (hpl : (backTo pos (starEach [] X.env)).any (·.1) = false := by rfl) :
    PMk X (.Call (.Name nm p) [a] [] pos) (tMkA C ta) := by
  intro pins s σ H Q I h
  refine wpAny_Call_Name_kw (ld_glob I hg T.gC ?_ hdb)
  refine PySem.W.callWith_K (h₀ := X.base) I.ok.mod.kin T.kC (thn (ha.run pos pins s σ H _ I h) fun us s1 hh => ?_) he hpl
  obtain ⟨vs, H1, I1, r1, v, ev, q1⟩ := hh
  subst ev
  refine ⟨I1.kIn, ?_⟩
  cases r1 with
  | cons rv rn =>
    rename_i v' us'
    cases rn
    show wpAny _ _ (call (.ref C) [v']) _ _ _
    have hlim := I1.nolimit
    obtain ⟨hp, g, dr, tk, os⟩ := s1
    refine wpAny_call (PySem.ZxA.own_made T I1.kIn hlim (by have := hr.dp; omega) fun h' tk' e d M => ?_)
    show MkP X pins σ Q (.ref e) ⟨h', g, dr, tk', os⟩
    obtain ⟨oe, fv, hoe, hc, hd, hdat, h1⟩ := M.obj
    have hns := M.ns
    obtain ⟨G', g1, g2⟩ := restrict h' fun b => decide (b ≠ e)
    have gk : ∀ b, b ≠ e → G'.get? b = h'.get? b := fun b hb => g1 b (decide_eq_true hb)
    have ge : G'.get? e = none := g2 e (by simp)
    have old : ∀ b o, hp.get? b = some o → G'.get? b = some o := fun b o q => (gk b (Nat.ne_of_lt (Nat.lt_of_lt_of_le (Heap.lt_size q) M.new))).trans (M.keep b o q)
    have ob : ObjOk X.prog X.w (upd H1 d (.xd [(("at" : Str), v)])) G' d (.xd [(("at" : Str), v)]) :=
      ⟨_, hns.at (fun o q => (gk d M.dne).trans q), fun f => relO_at rv f⟩
    have J : Inv X pins σ (upd H1 d (.xd [(("at" : Str), v)])) ⟨G', g, dr, tk', os⟩ := I1.laid (t' := tk') old M.dbig ob
    refine ⟨e, oe, fv, ⟨G', g, dr, tk', os⟩, _, .ref C, some d, rfl, J, fun b o q => ?_, ge, hoe, ⟨hc, hd⟩, hdat, h1, ?_, rfl, I1.bare, raises_own T.exC T.tyC, q1 d (I1.hok.fresh M.dbig)⟩
    · by_cases hb : b = e
      · have q' : G'.get? b = some o := q
        rw [hb, ge] at q'; cases q'
      · exact (gk b hb).symm.trans q
    · rw [upd_ne (Ne.symm M.dne)]
      exact I1.hok.fresh M.new
/-- raise C(x) -/
def sRaiseA (nm : Str) (gs : GA) : SG := fun ρ => M.bind (gs ρ) fun xs st => match xs with
  | [.d x] => .exc ⟨nm, some ("at", x)⟩ ρ st
  | _ => .stuck
theorem sv_raiseA {a : Expr} {gs : GA} {p pos pos2 : Pos} {k : Nat} (hc : X.calm = true) (T : PySem.ZxA.Txt X.K X.mg nm qi C fI) (hr : Room k X.A) (tk : Takes X E.w) (ha : PAv X E [a] gs) (hg : Gl X nm) (hdb : (nm == ("__debug__" : Str)) = false := by decide)
    (he : starEach (a :: []) X.env = (false, eval a X.env) :: starEach [] X.env := by rfl) (hpl : (backTo pos (starEach [] X.env)).any (·.1) = false := by rfl) :
    PSv X E (.Raise (some (.Call (.Name nm p) [a] [] pos)) none pos2) (sRaiseA nm gs) := by
  refine ps_weak (ps_raise (W := E.w) hc tk (pmk_at T hr ha hg hdb he hpl)) fun D σ H h => ?_
  obtain ⟨F, ι, ρ, st, R, env, o⟩ := h
  refine ⟨F, ι, ρ, st, R, env, Out.bind o fun vs F1 ι1 H1 xs st1 s1 R1 r1 o1 => ?_⟩
  split at o1
  · cases r1 with
    | cons q r1 =>
      cases r1
      refine ⟨_, rfl, fun d hd => ?_⟩
      obtain ⟨R2, s2⟩ := R1.put (o := .xd [(("at" : Str), _)]) hd
      exact o1 (.ref C) (some d) σ F1 ι1 _ (s1.trans s2) R2 ((env.step s1).step s2) ⟨⟨C, rfl, T.gC⟩, _, _, rfl, upd_same, q, s1.there _ (.of hd)⟩
  · exact o1.elim
end
end Zv
namespace Zv
open PySem PySem.Spec PyProof.Rows L2
section
variable {X : Cx} {E : EX} {a C d : Addr} {oe : Obj} {pn : List (Addr × Obj)} {i : Nat} {v : V} {x : PyData} {e : Str} {p pos : Pos} {nm qi : Str} {fI : Addr}
/-- e.thing -/
theorem v_atF (T : PySem.ZxA.Txt X.K X.mg nm qi C fI) (hz : Zc (.ref C) (some d) oe) (hf : ∃ vs, oe.data = .fields vs) (hN : X.N[i]? = some e) (hv : Vis X.env.scope e)
    (hb : attributeBase (.Name e p) "at" (X.suite a ((a, oe) :: pn)).env (eval (.Name e p) (X.suite a ((a, oe) :: pn)).env) = eval (.Name e p) (X.suite a ((a, oe) :: pn)).env := by rfl)
    (hd' : (e == ("__debug__" : Str)) = false := by decide) (hcd : (e == ("__classdict__" : Str)) = false := by decide) :
    PEv (X.suite a ((a, oe) :: pn)) (suE X.K E a i d "at" v x) (.Attribute (.Name e p) "at" pos) (gC x) := by
  refine ⟨fun pins s σ H Q I h => ?_⟩
  obtain ⟨F, ι, ρ, st, R, ⟨⟨⟨fd, dn, hs⟩, _⟩, env⟩, o⟩ := h
  refine attr_of hb (thn ((pe_var (X := X.suite a ((a, oe) :: pn)) (pos := p) (i := i) hN hv hd' hcd).run pins s σ H (fun v H1 => v = .ref a ∧ H1 = H) I ⟨.ref a, hs, rfl, rfl⟩) fun u s1 hh => ?_)
  obtain ⟨v0, H1, I1, rx, ex, eH⟩ := hh
  subst ex
  subst eH
  obtain rfl : u = Value.ref a := rx
  obtain ⟨ha, _⟩ := I1.pin (a, oe) (List.mem_append_left _ List.mem_cons_self)
  obtain ⟨vs, hdt⟩ := hf
  have ea : H1 d = some (.xd [(("at" : Str), v)]) := R.sub _ _ fd
  have hx : ObjOk X.prog X.w H1 s1.heap d (.xd [(("at" : Str), v)]) := I1.hok d _ ea
  obtain ⟨mA, hns, hr⟩ := hx
  obtain ⟨od, ho, hl⟩ := lookIn_ns hns
  have l : List.lookup ("at" : Str) [(("at" : Str), v)] = some v := by simp [List.lookup]
  obtain ⟨u, hu, ru⟩ := RelO.some_of (v := v) (o := mA "at") (by rw [← l]; exact hr "at")
  have J : PySem.W.InstAt s1.heap a oe C (some od) := ⟨ha, hz.1, by unfold PySem.W.notCls; rw [hdt] <;> rfl, by rw [hz.2]; exact ho⟩
  exact HandSPX.exc_get I1.kIn J T.ga T.gg T.exC (PySem.W.findObj_own T.hdC T.noN rfl (by rw [hl, hu])) (handed_of ru) ⟨v, H1, I1.tok _, ru, o v F ι H1 (Step.refl _ _ _) R dn⟩
end
end Zv
namespace Zv
open PySem PySem.Spec PyProof.Rows L2
variable {E : EX}
/-! ### an own exception -/
def XcA (K : PySem.W.Frag) (mg : Str → Option Value) (nm : Str) : Prop := ∃ qi C fI, PySem.ZxA.Txt K mg nm qi C fI
/-- its class, as it is caught, and its base class P -/
def YcA (K : PySem.W.Frag) (mg : Str → Option Value) (nm pn : Str) : Prop :=
  ∃ qi C fI P, PySem.ZxA.Txt K mg nm qi C fI ∧ PySem.W.exmOne K (.ref C) (.ref C) = some true ∧ L2.ExcC K C ∧ mg pn = some (.ref P) ∧ PySem.W.kitOne K (.ref C) (.ref P) = some true
section
variable {X : Cx} {nm : Str}
theorem nraiseA {a : Expr} {gs : GA} {p pos pos2 : Pos} {k : Nat} (T : XcA X.K X.mg nm) (hr : Room k X.A) (tk : Takes X E.w) (ha : PAv X E [a] gs) (hc : X.calm = true := by rfl) (hg : Gl X nm := by rfl) (hdb : (nm == ("__debug__" : Str)) = false := by decide)
    (he : starEach (a :: []) X.env = (false, eval a X.env) :: starEach [] X.env := by rfl) (hpl : (backTo pos (starEach [] X.env)).any (·.1) = false := by rfl) :
    PSv X E (.Raise (some (.Call (.Name nm p) [a] [] pos)) none pos2) (sRaiseA nm gs) := by
  obtain ⟨qi, C, fI, T⟩ := T
  exact sv_raiseA hc T hr tk ha hg hdb he hpl
end
section
variable {K : PySem.W.Frag} {mg : Str → Option Value} {h : Heap} {x : Str} {stm : Stmt} {ps : List Str}
/-- an own class over pn, which stands over Exception: its facts -/
structure ClsA (K : PySem.W.Frag) (nm qi pn : Str) (C fI Q : Addr) : Prop where
  aC : PySem.W.nsIn K mainGlobals nm = some (some (.ref C))
  aQ : PySem.W.nsIn K mainGlobals pn = some (some (.ref Q))
  cls : ∃ nm q N bs bm sn sub ab col dd k0 k1 k2 k3 k5, K.lookup C = some (excClassObj nm q C N bs bm true sn sub ab col dd k0 k1 k2 k3 k5 "Exception.__new__") ∧ PySem.W.excTail PySem.ZxA.exB bm = true
  sa : PySem.W.findIn K (.ref C) "__setattr__" = some (some (.builtin "object.__setattr__"))
  ga : PySem.W.findIn K (.ref C) "__getattribute__" = some (some (.builtin "BaseException.__getattribute__"))
  gg : PySem.W.findIn K (.ref C) "__getattr__" = some none
  nT : PySem.W.findIn K (.ref C) "at" = some none
  iC : PySem.W.findIn K (.ref C) "__init__" = some (some (.ref fI))
  tI : PySem.W.typeIn K (.ref fI) = some (.type "function")
  fn : ∃ (oc : Value) (od : Option Addr) (doc pm : Value) (an : Option Addr) (cdv ct : Value) (osl : Array (Option Value)) (p1 p2 q1 q2 q3 q4 : Pos),
    K.lookup fI = some ⟨oc, od, .func (PySem.W.fnOf "__init__" qi (PySem.ZxA.iA p1 p2) (PySem.ZxA.iB q1 q2 q3 q4) PySem.ZxA.iS .none .none doc pm an cdv ct), osl⟩ ∧ PySem.W.codeIn K cdv qi = true
  kC : PySem.W.keepIn K (.ref C) = true
  eC : PySem.W.subIn K (.ref C) (.type "BaseException") = some true
  tC : PySem.W.typeIn K (.ref C) = some (.type "type")
  hC : PySem.W.hasDictIn K C = true
  kcC : PySem.W.isClsIn K C = true
  sC : PySem.W.subIn K (.ref C) (.ref C) = some true
  tQ : PySem.W.typeIn K (.ref Q) = some (.type "type")
  kcQ : PySem.W.isClsIn K Q = true
  sQ : PySem.W.subIn K (.ref C) (.ref Q) = some true
  hc : PySem.W.findIn K (.ref C) "__class__" = some (some (.builtin "object.__class__"))
  sg : PySem.W.specialIn K (.builtin "object.__class__") "__get__" = some (some (.builtin "getset_descriptor.__get__"))
  tk : PySem.W.takesIn K (.builtin "object.__class__") = some true
  mo : PySem.W.mroIn K C (.type "object") = some true
theorem ClsA.txt {nm qi pn : Str} {C fI Q : Addr} (c : ClsA K nm qi pn C fI Q) (X : K.In h) (G : h.Ns mainGlobals mg) : PySem.ZxA.Txt K mg nm qi C fI :=
  { gC := PySem.W.mg_of X G c.aC, cls := c.cls, sa := c.sa, ga := c.ga, gg := c.gg, noN := c.nT, iC := c.iC, tC := c.tI, kC := c.kC, exC := c.eC, tyC := c.tC, hdC := c.hC, fn := c.fn }
theorem ClsA.xc {nm qi pn : Str} {C fI Q : Addr} (c : ClsA K nm qi pn C fI Q) (X : K.In h) (G : h.Ns mainGlobals mg) : XcA K mg nm := ⟨qi, C, fI, c.txt X G⟩
theorem ClsA.yc {nm qi pn : Str} {C fI Q : Addr} (c : ClsA K nm qi pn C fI Q) (X : K.In h) (G : h.Ns mainGlobals mg) : YcA K mg nm pn :=
  ⟨qi, C, fI, Q, c.txt X G, exm_of c.eC c.kcC c.tC c.sC, { hg := c.ga, hk := c.gg, hs := c.eC, hd := c.hC, ha := c.hc, hn := c.sg, ht := c.tk, hm := c.mo }, PySem.W.mg_of X G c.aQ, kit_of (kit_cls c.kcQ c.tQ c.sQ)⟩
end
end Zv
set_option Elab.async false
set_option linter.all false
set_option maxRecDepth 100000
set_option maxHeartbeats 4000000
namespace Zv.K76
open PySem PySem.Spec PyProof.Rows L2 Zv
def top (i : Nat) : Stmt := PySem.Challenge.pw_provenplay_k76_texts_of_circuits.main.body.getD i (.Pass ⟨0, 0, 0, 0⟩)
def l_JOINING : List PyData := [(.str "and"), (.str "or")]
def d_PREFIX : PyData := (.str "prefix ")
structure BT (K : PySem.W.Frag) (mg : Str → Option Value) : Prop where
  b_all : mg "all" = none
  b_bool : mg "bool" = none
  b_enumerate : mg "enumerate" = none
  b_int : mg "int" = none
  b_isinstance : mg "isinstance" = none
  b_len : mg "len" = none
  b_list : mg "list" = none
  b_max : mg "max" = none
  b_range : mg "range" = none
  b_repr : mg "repr" = none
  b_str : mg "str" = none
  b_tuple : mg "tuple" = none
  b_zip : mg "zip" = none
  c_JOINING : CoT K mg "JOINING" l_JOINING
  c_PREFIX : CoV K mg "PREFIX" d_PREFIX
  x_BadFilling : XcV K mg "BadFilling"
  y_BadFilling : YcV K mg "BadFilling" "PlayError"
  x_BadCircuit : XcV K mg "BadCircuit"
  y_BadCircuit : YcV K mg "BadCircuit" "PlayError"
  x_BadText : XcA K mg "BadText"
  y_BadText : YcA K mg "BadText" "PlayError"
  n_BadFilling_BadCircuit : NmV K mg "BadFilling" "BadCircuit"
def o0 : Ord := ordP 0 [0]
theorem ko0 : KwOk "read_circuit" (top 23) ["text"] ["text"] o0 := ⟨by intro α β P xs us ys ws h1 h2; exact ordP_rel P h1 h2, fun kV doc pm an cdv ct us ws hl => by
  have h := ordP_len hl
  match us, ws, h with
  | [], [w0], _ => rfl⟩
def o1 : Ord := ordP 0 [0]
theorem ko1 : KwOk "circuit_text" (top 21) ["circuit"] ["circuit"] o1 := ⟨by intro α β P xs us ys ws h1 h2; exact ordP_rel P h1 h2, fun kV doc pm an cdv ct us ws hl => by
  have h := ordP_len hl
  match us, ws, h with
  | [], [w0], _ => rfl⟩
section
variable {P : Program} {w : World} {K : PySem.W.Frag} {mg : Str → Option Value} {base : Heap}
def N_is_integer : List Str := ["thing"]
def b_is_integer : SG := sRet (gAnd (gUn (vIsi "int") (gVar 0)) (gNot (gUn (vIsi "bool") (gVar 0))))
def m_is_integer : List Vl → M Vl := fnM false (N_is_integer).length b_is_integer
theorem sc_is_integer : FnScope N_is_integer ["thing"] (defScope (top 1)) := ⟨rfl, rfl, rfl, by decide +kernel, rfl, by decide +kernel, by decide +kernel⟩
theorem cl_is_integer (B : BT K mg) (T : Tx K mg "is_integer" (top 1) ["thing"]) : Cl P w K mg base 1 "is_integer" (top 1) ["thing"] m_is_integer :=
  have sc := sc_is_integer
  cl_of (b := b_is_integer) T sc fun f cdv A outer s H E hr => sv_one (sv_ret (v_and (v_isi (by rfl) B.b_isinstance (by rfl) B.b_int (by first | rfl | decide) (nv 0)) (v_one (v_not (v_isi (by rfl) B.b_isinstance (by rfl) B.b_bool (by first | rfl | decide) (nv 0))))))
def N_is_from : List Str := ["thing", "least"]
def b_is_from : SG := sRet (gAnd (gCall m_is_integer (gaCons (gVar 0) (gaNil))) (gBin vGe (gVar 0) (gVar 1)))
def m_is_from : List Vl → M Vl := fnM false (N_is_from).length b_is_from
theorem sc_is_from : FnScope N_is_from ["thing", "least"] (defScope (top 2)) := ⟨rfl, rfl, rfl, by decide +kernel, rfl, by decide +kernel, by decide +kernel⟩
theorem cl_is_from (B : BT K mg) (c_is_integer : Cl P w K mg base 1 "is_integer" (top 1) ["thing"] m_is_integer) (T : Tx K mg "is_from" (top 2) ["thing", "least"]) : Cl P w K mg base 2 "is_from" (top 2) ["thing", "least"] m_is_from :=
  have sc := sc_is_from
  cl_of (b := b_is_from) T sc fun f cdv A outer s H E hr => sv_one (sv_ret (v_and (v_call c_is_integer (by decide) hr (by rfl) (by exact takes_of rfl rfl rfl rfl) (.cons GaLen.nil) (va_cons (nv 0) (va_nil))) (v_one (nge (nv 0) (nv 1)))))
def N_is_tuple : List Str := ["thing", "many"]
def b_is_tuple : SG := sRet (gAnd (gUn (vIsi "tuple") (gVar 0)) (gBin vEq (gUn vLen (gVar 0)) (gVar 1)))
def m_is_tuple : List Vl → M Vl := fnM false (N_is_tuple).length b_is_tuple
theorem sc_is_tuple : FnScope N_is_tuple ["thing", "many"] (defScope (top 3)) := ⟨rfl, rfl, rfl, by decide +kernel, rfl, by decide +kernel, by decide +kernel⟩
theorem cl_is_tuple (B : BT K mg) (T : Tx K mg "is_tuple" (top 3) ["thing", "many"]) : Cl P w K mg base 1 "is_tuple" (top 3) ["thing", "many"] m_is_tuple :=
  have sc := sc_is_tuple
  cl_of (b := b_is_tuple) T sc fun f cdv A outer s H E hr => sv_one (sv_ret (v_and (v_isi (by rfl) B.b_isinstance (by rfl) B.b_tuple (by first | rfl | decide) (nv 0)) (v_one (neq hr (nlen B.b_len (nv 0)) (nv 1)))))
def N_is_word_of : List Str := ["thing", "signs", "sign"]
def b_is_word_of : SG := sRet (gAnd (gUn (vIsi "str") (gVar 0)) (gUn vAll (gComp (iSeq (gVar 0)) (gtName 2) (bTrue) (gBin (vInB false) (gVar 2) (gVar 1)) [2])))
def m_is_word_of : List Vl → M Vl := fnM false (N_is_word_of).length b_is_word_of
theorem sc_is_word_of : FnScope N_is_word_of ["thing", "signs"] (defScope (top 4)) := ⟨rfl, rfl, rfl, by decide +kernel, rfl, by decide +kernel, by decide +kernel⟩
theorem cl_is_word_of (B : BT K mg) (T : Tx K mg "is_word_of" (top 4) ["thing", "signs"]) : Cl P w K mg base 1 "is_word_of" (top 4) ["thing", "signs"] m_is_word_of :=
  have sc := sc_is_word_of
  cl_of (b := b_is_word_of) T sc fun f cdv A outer s H E hr => sv_one (sv_ret (v_and (v_isi (by rfl) B.b_isinstance (by rfl) B.b_str (by first | rfl | decide) (nv 0)) (v_one (nall (by rfl) B.b_all (v_comp (own := [("sign", 2)]) (ws := [2]) (by rfl) sc.nd (iv_seq (nv 0)) ⟨blk_of (by first | rfl | kernel_rfl), by decide, fun s H C cl fp => tg_name (i := 2) sc.nd (by (first | rfl | with_unfolding_all rfl | decide)) (by (first | exact Or.inl rfl | exact Or.inr rfl)), fun s H C cl fp => ptsv_nil, fun s H C cl fp => nin hr (nv 2) (nv 1)⟩)))))
def N_is_gate : List Str := ["thing", "many", "number", "part"]
def b_is_gate : SG := sSeq (sIf (bOr (bNot (bOf (gUn (vIsi "tuple") (gVar 0)))) (bOr (bOf (gBin vEq (gVar 0) (gTup (gaNil)))) (bNot (bOf (gUn (vIsi "str") (gBin vIx (gVar 0) (gC (.int 0)))))))) (sRet (gC (.bool false))) (sSkip))
  (sSeq (sIf (bOf (gBin vEq (gBin vIx (gVar 0) (gC (.int 0))) (gC (.str "yes")))) (sRet (gBin vEq (gUn vLen (gVar 0)) (gC (.int 1)))) (sSkip))
  (sSeq (sIf (bOf (gBin vEq (gBin vIx (gVar 0) (gC (.int 0))) (gC (.str "v")))) (sRet (gAnd (gBin vEq (gUn vLen (gVar 0)) (gC (.int 2))) (gAnd (gCall m_is_from (gaCons (gBin vIx (gVar 0) (gC (.int 1))) (gaCons (gC (.int 0)) (gaNil)))) (gBin vLt (gBin vIx (gVar 0) (gC (.int 1))) (gVar 1))))) (sSkip))
  (sSeq (sIf (bOf (gBin vEq (gBin vIx (gVar 0) (gC (.int 0))) (gC (.str "not")))) (sRet (gAnd (gBin vEq (gUn vLen (gVar 0)) (gC (.int 2))) (gAnd (gCall m_is_from (gaCons (gBin vIx (gVar 0) (gC (.int 1))) (gaCons (gC (.int 0)) (gaNil)))) (gBin vLt (gBin vIx (gVar 0) (gC (.int 1))) (gVar 2))))) (sSkip))
  (sSeq (sIf (bOr (bOf (gUn (vInK true l_JOINING) (gBin vIx (gVar 0) (gC (.int 0))))) (bOf (gBin vNe (gUn vLen (gVar 0)) (gC (.int 3))))) (sRet (gC (.bool false))) (sSkip))
  (sRet (gUn vAll (gComp (iSeq (gCut (gVar 0) (some (gC (.int 1))) none)) (gtName 3) (bTrue) (gAnd (gCall m_is_from (gaCons (gVar 3) (gaCons (gC (.int 0)) (gaNil)))) (gBin vLt (gVar 3) (gVar 2))) [3])))))))
def m_is_gate : List Vl → M Vl := fnM false (N_is_gate).length b_is_gate
theorem sc_is_gate : FnScope N_is_gate ["thing", "many", "number"] (defScope (top 7)) := ⟨rfl, rfl, rfl, by decide +kernel, rfl, by decide +kernel, by decide +kernel⟩
theorem cl_is_gate (B : BT K mg) (c_is_from : Cl P w K mg base 2 "is_from" (top 2) ["thing", "least"] m_is_from) (T : Tx K mg "is_gate" (top 7) ["thing", "many", "number"]) : Cl P w K mg base 3 "is_gate" (top 7) ["thing", "many", "number"] m_is_gate :=
  have sc := sc_is_gate
  cl_of (b := b_is_gate) T sc fun f cdv A outer s H E hr => sv_cons (sv_if ((w_or (t_not (t_val (v_isi (by rfl) B.b_isinstance (by rfl) B.b_tuple (by first | rfl | decide) (nv 0)))) (w_or (xeq hr (nv 0) (v_tup (va_nil))) (w_or1 (t_not (t_val (v_isi (by rfl) B.b_isinstance (by rfl) B.b_str (by first | rfl | decide) (v_ix (nv 0) (v_int)))))))).t) (sv_one (sv_ret (v_bl))) (sv_nil))
  (sv_cons (sv_if (xeq hr (v_ix (nv 0) (v_int)) (v_str)) (sv_one (sv_ret (neq hr (nlen B.b_len (nv 0)) (v_int)))) (sv_nil))
  (sv_cons (sv_if (xeq hr (v_ix (nv 0) (v_int)) (v_str)) (sv_one (sv_ret (v_and (neq hr (nlen B.b_len (nv 0)) (v_int)) (v_and (v_call c_is_from (by decide) hr (by rfl) (by exact takes_of rfl rfl rfl rfl) (.cons (.cons GaLen.nil)) (va_cons (v_ix (nv 0) (v_int)) (va_cons (v_int) (va_nil)))) (v_one (nlt (v_ix (nv 0) (v_int)) (nv 1))))))) (sv_nil))
  (sv_cons (sv_if (xeq hr (v_ix (nv 0) (v_int)) (v_str)) (sv_one (sv_ret (v_and (neq hr (nlen B.b_len (nv 0)) (v_int)) (v_and (v_call c_is_from (by decide) hr (by rfl) (by exact takes_of rfl rfl rfl rfl) (.cons (.cons GaLen.nil)) (va_cons (v_ix (nv 0) (v_int)) (va_cons (v_int) (va_nil)))) (v_one (nlt (v_ix (nv 0) (v_int)) (nv 2))))))) (sv_nil))
  (sv_cons (sv_if ((w_or (xninK hr B.c_JOINING (v_ix (nv 0) (v_int))) (w_or1 (xne hr (nlen B.b_len (nv 0)) (v_int)))).t) (sv_one (sv_ret (v_bl))) (sv_nil))
  (sv_one (sv_ret (nall (by rfl) B.b_all (v_comp (own := [("part", 3)]) (ws := [3]) (by rfl) sc.nd (iv_seq (v_cut (nv 0) (vo_some (v_int)) vo_none)) ⟨blk_of (by first | rfl | kernel_rfl), by decide, fun s H C cl fp => tg_name (i := 3) sc.nd (by (first | rfl | with_unfolding_all rfl | decide)) (by (first | exact Or.inl rfl | exact Or.inr rfl)), fun s H C cl fp => ptsv_nil, fun s H C cl fp => v_and (v_call c_is_from (by decide) hr (by rfl) (by exact takes0) (.cons (.cons GaLen.nil)) (va_cons (nv 3) (va_cons (v_int) (va_nil)))) (v_one (nlt (nv 3) (nv 2)))⟩))))))))
def N_is_circuit_value : List Str := ["thing", "number", "gate"]
def b_is_circuit_value : SG := sSeq (sIf (bOr (bNot (bOf (gCall m_is_tuple (gaCons (gVar 0) (gaCons (gC (.int 2)) (gaNil)))))) (bOr (bNot (bOf (gCall m_is_word_of (gaCons (gBin vIx (gVar 0) (gC (.int 0))) (gaCons (gC (.str "ea")) (gaNil)))))) (bOr (bNot (bOf (gUn (vIsi "tuple") (gBin vIx (gVar 0) (gC (.int 1)))))) (bOf (gBin vEq (gBin vIx (gVar 0) (gC (.int 1))) (gTup (gaNil))))))) (sRet (gC (.bool false))) (sSkip))
  (sRet (gUn vAll (gComp (iEnu (gaCons (gBin vIx (gVar 0) (gC (.int 1))) (gaNil))) (gtTup [gtName 1, gtName 2]) (bTrue) (gCall m_is_gate (gaCons (gVar 2) (gaCons (gUn vLen (gBin vIx (gVar 0) (gC (.int 0)))) (gaCons (gVar 1) (gaNil))))) [1, 2])))
def m_is_circuit_value : List Vl → M Vl := fnM false (N_is_circuit_value).length b_is_circuit_value
theorem sc_is_circuit_value : FnScope N_is_circuit_value ["thing"] (defScope (top 8)) := ⟨rfl, rfl, rfl, by decide +kernel, rfl, by decide +kernel, by decide +kernel⟩
theorem cl_is_circuit_value (B : BT K mg) (c_is_tuple : Cl P w K mg base 1 "is_tuple" (top 3) ["thing", "many"] m_is_tuple) (c_is_word_of : Cl P w K mg base 1 "is_word_of" (top 4) ["thing", "signs"] m_is_word_of) (c_is_gate : Cl P w K mg base 3 "is_gate" (top 7) ["thing", "many", "number"] m_is_gate) (T : Tx K mg "is_circuit_value" (top 8) ["thing"]) : Cl P w K mg base 4 "is_circuit_value" (top 8) ["thing"] m_is_circuit_value :=
  have sc := sc_is_circuit_value
  cl_of (b := b_is_circuit_value) T sc fun f cdv A outer s H E hr => sv_cons (sv_if ((w_or (t_not (t_val (v_call c_is_tuple (by decide) hr (by rfl) (by exact takes_of rfl rfl rfl rfl) (.cons (.cons GaLen.nil)) (va_cons (nv 0) (va_cons (v_int) (va_nil)))))) (w_or (t_not (t_val (v_call c_is_word_of (by decide) hr (by rfl) (by exact takes_of rfl rfl rfl rfl) (.cons (.cons GaLen.nil)) (va_cons (v_ix (nv 0) (v_int)) (va_cons (v_str) (va_nil)))))) (w_or (t_not (t_val (v_isi (by rfl) B.b_isinstance (by rfl) B.b_tuple (by first | rfl | decide) (v_ix (nv 0) (v_int))))) (w_or1 (xeq hr (v_ix (nv 0) (v_int)) (v_tup (va_nil))))))).t) (sv_one (sv_ret (v_bl))) (sv_nil))
  (sv_one (sv_ret (nall (by rfl) B.b_all (v_comp (own := [("number", 1), ("gate", 2)]) (ws := ([1] ++ ([2] ++ []))) (by rfl) sc.nd (iv_enum (by rfl) B.b_enumerate (va_cons (v_ix (nv 0) (v_int)) (va_nil))) ⟨blk_of (by first | rfl | kernel_rfl), by decide, fun s H C cl fp => tg_tup (by rfl) (tgs_cons (tg_name (i := 1) sc.nd (by (first | rfl | with_unfolding_all rfl | decide)) (by (first | exact Or.inl rfl | exact Or.inr rfl))) (tgs_cons (tg_name (i := 2) sc.nd (by (first | rfl | with_unfolding_all rfl | decide)) (by (first | exact Or.inl rfl | exact Or.inr rfl))) (tgs_nil))), fun s H C cl fp => ptsv_nil, fun s H C cl fp => v_call c_is_gate (by decide) hr (by rfl) (by exact takes0) (.cons (.cons (.cons GaLen.nil))) (va_cons (nv 2) (va_cons (nlen B.b_len (v_ix (nv 0) (v_int))) (va_cons (nv 1) (va_nil))))⟩))))
def N_need_circuit : List Str := ["circuit"]
def b_need_circuit : SG := sIf (bNot (bOf (gCall m_is_circuit_value (gaCons (gVar 0) (gaNil))))) (sRaise "BadCircuit" (gaCons (gVar 0) (gaNil))) (sSkip)
def m_need_circuit : List Vl → M Vl := fnM false (N_need_circuit).length b_need_circuit
theorem sc_need_circuit : FnScope N_need_circuit ["circuit"] (defScope (top 15)) := ⟨rfl, rfl, rfl, by decide +kernel, rfl, by decide +kernel, by decide +kernel⟩
theorem cl_need_circuit (B : BT K mg) (c_is_circuit_value : Cl P w K mg base 4 "is_circuit_value" (top 8) ["thing"] m_is_circuit_value) (T : Tx K mg "need_circuit" (top 15) ["circuit"]) : Cl P w K mg base 5 "need_circuit" (top 15) ["circuit"] m_need_circuit :=
  have sc := sc_need_circuit
  cl_of (b := b_need_circuit) T sc fun f cdv A outer s H E hr => sv_one (sv_if (t_not (t_val (v_call c_is_circuit_value (by decide) hr (by rfl) (by exact takes_of rfl rfl rfl rfl) (.cons GaLen.nil) (va_cons (nv 0) (va_nil))))) (sv_one (nraise B.x_BadCircuit hr (by exact takes_of rfl rfl rfl rfl) (va_cons (nv 0) (va_nil)))) (sv_nil))
def N_gate_line : List Str := ["number", "gate", "part"]
def b_gate_line : SG := sRet (gMeth isStr mJoin (gC (.str " ")) (gaCons (gBin vAdd (gLst (gaCons (gUn vStr (gVar 0)) (gaNil))) (gComp (iSeq (gVar 1)) (gtName 2) (bTrue) (gUn vStr2 (gVar 2)) [2])) (gaNil)))
def m_gate_line : List Vl → M Vl := fnM false (N_gate_line).length b_gate_line
theorem sc_gate_line : FnScope N_gate_line ["number", "gate"] (defScope (top 18)) := ⟨rfl, rfl, rfl, by decide +kernel, rfl, by decide +kernel, by decide +kernel⟩
theorem cl_gate_line (B : BT K mg) (T : Tx K mg "gate_line" (top 18) ["number", "gate"]) : Cl P w K mg base 1 "gate_line" (top 18) ["number", "gate"] m_gate_line :=
  have sc := sc_gate_line
  cl_of (b := b_gate_line) T sc fun f cdv A outer s H E hr => sv_one (sv_ret (njoin (v_str) (va_cons (nadd (v_lst (va_cons (nstr B.b_str (nv 0)) (va_nil))) (v_comp (own := [("part", 2)]) (ws := [2]) (by rfl) sc.nd (iv_seq (nv 1)) ⟨blk_of (by first | rfl | kernel_rfl), by decide, fun s H C cl fp => tg_name (i := 2) sc.nd (by (first | rfl | with_unfolding_all rfl | decide)) (by (first | exact Or.inl rfl | exact Or.inr rfl)), fun s H C cl fp => ptsv_nil, fun s H C cl fp => nstr2 B.b_str (nv 2)⟩)) (va_nil))))
def N_number_read : List Str := ["word", "sign"]
def b_number_read : SG := sSeq (sIf (bOr (bOf (gBin vEq (gVar 0) (gC (.str "")))) (bOr (bOf (gBin vGt (gUn vLen (gVar 0)) (gC (.int 6)))) (bNot (bOf (gUn vAll (gComp (iSeq (gVar 0)) (gtName 1) (bTrue) (gBin (vInB false) (gVar 1) (gC (.str "0123456789"))) [1])))))) (sRet (gUn vNeg (gC (.int 1)))) (sSkip))
  (sRet (gIf (bOf (gBin vEq (gUn vStr (gUn vIntS (gVar 0))) (gVar 0))) (gUn vIntS (gVar 0)) (gUn vNeg (gC (.int 1)))))
def m_number_read : List Vl → M Vl := fnM false (N_number_read).length b_number_read
theorem sc_number_read : FnScope N_number_read ["word"] (defScope (top 19)) := ⟨rfl, rfl, rfl, by decide +kernel, rfl, by decide +kernel, by decide +kernel⟩
theorem cl_number_read (B : BT K mg) (T : Tx K mg "number_read" (top 19) ["word"]) : Cl P w K mg base 1 "number_read" (top 19) ["word"] m_number_read :=
  have sc := sc_number_read
  cl_of (b := b_number_read) T sc fun f cdv A outer s H E hr => sv_cons (sv_if ((w_or (xeq hr (nv 0) (v_str)) (w_or (xgt (nlen B.b_len (nv 0)) (v_int)) (w_or1 (t_not (t_val (nall (by rfl) B.b_all (v_comp (own := [("sign", 1)]) (ws := [1]) (by rfl) sc.nd (iv_seq (nv 0)) ⟨blk_of (by first | rfl | kernel_rfl), by decide, fun s H C cl fp => tg_name (i := 1) sc.nd (by (first | rfl | with_unfolding_all rfl | decide)) (by (first | exact Or.inl rfl | exact Or.inr rfl)), fun s H C cl fp => ptsv_nil, fun s H C cl fp => nin hr (nv 1) (v_str)⟩))))))).t) (sv_one (sv_ret (nneg (v_int)))) (sv_nil))
  (sv_one (sv_ret (v_ifExp (xeq hr (nstr B.b_str (nintS B.b_int (nv 0))) (nv 0)) (nintS B.b_int (nv 0)) (nneg (v_int)))))
def N_gate_read : List Str := ["number", "line", "words", "word"]
def b_gate_read : SG := sSeq (sSet 2 (gMeth isStr mSplit (gVar 1) (gaCons (gC (.str " ")) (gaNil))))
  (sSeq (sIf (bOr (bOf (gBin vLt (gUn vLen (gVar 2)) (gC (.int 2)))) (bOf (gBin vNe (gBin vIx (gVar 2) (gC (.int 0))) (gUn vStr (gVar 0))))) (sRet (gTup (gaNil))) (sSkip))
  (sRet (gBin vAdd (gTup (gaCons (gBin vIx (gVar 2) (gC (.int 1))) (gaNil))) (gUn vTuple (gComp (iSeq (gCut (gVar 2) (some (gC (.int 2))) none)) (gtName 3) (bTrue) (gCall m_number_read (gaCons (gVar 3) (gaNil))) [3])))))
def m_gate_read : List Vl → M Vl := fnM false (N_gate_read).length b_gate_read
theorem sc_gate_read : FnScope N_gate_read ["number", "line"] (defScope (top 20)) := ⟨rfl, rfl, rfl, by decide +kernel, rfl, by decide +kernel, by decide +kernel⟩
theorem cl_gate_read (B : BT K mg) (c_number_read : Cl P w K mg base 1 "number_read" (top 19) ["word"] m_number_read) (T : Tx K mg "gate_read" (top 20) ["number", "line"]) : Cl P w K mg base 2 "gate_read" (top 20) ["number", "line"] m_gate_read :=
  have sc := sc_gate_read
  cl_of (b := b_gate_read) T sc fun f cdv A outer s H E hr => sv_cons (sv_set (i := 2) sc.nd (by (first | rfl | with_unfolding_all rfl | decide)) (by (first | exact Or.inl rfl | exact Or.inr rfl)) (nsplit (nv 1) (va_cons (v_str) (va_nil))))
  (sv_cons (sv_if ((w_or (xlt (nlen B.b_len (nv 2)) (v_int)) (w_or1 (xne hr (v_ix (nv 2) (v_int)) (nstr B.b_str (nv 0))))).t) (sv_one (sv_ret (v_tup (va_nil)))) (sv_nil))
  (sv_one (sv_ret (nadd (v_tup (va_cons (v_ix (nv 2) (v_int)) (va_nil))) (ntuple B.b_tuple (v_comp (own := [("word", 3)]) (ws := [3]) (by rfl) sc.nd (iv_seq (v_cut (nv 2) (vo_some (v_int)) vo_none)) ⟨blk_of (by first | rfl | kernel_rfl), by decide, fun s H C cl fp => tg_name (i := 3) sc.nd (by (first | rfl | with_unfolding_all rfl | decide)) (by (first | exact Or.inl rfl | exact Or.inr rfl)), fun s H C cl fp => ptsv_nil, fun s H C cl fp => v_call c_number_read (by decide) hr (by rfl) (by exact takes0) (.cons GaLen.nil) (va_cons (nv 3) (va_nil))⟩))))))
def N_circuit_text : List Str := ["circuit", "lines", "number", "gate"]
def b_circuit_text : SG := sSeq (sDrop (gCall m_need_circuit (gaCons (gVar 0) (gaNil))))
  (sSeq (sSetE 1 (gLst (gaCons (gBin vAdd (gC d_PREFIX) (gBin vIx (gVar 0) (gC (.int 0)))) (gaNil))))
  (sSeq (sFor (iEnu (gaCons (gBin vIx (gVar 0) (gC (.int 1))) (gaNil))) (gtTup [gtName 2, gtName 3]) (sDrop (gMeth isLst mAppend (gVar 1) (gaCons (gCall m_gate_line (gaCons (gVar 2) (gaCons (gVar 3) (gaNil)))) (gaNil)))))
  (sRet (gMeth isStr mJoin (gC (.str "\n")) (gaCons (gVar 1) (gaNil))))))
def m_circuit_text : List Vl → M Vl := fnM false (N_circuit_text).length b_circuit_text
theorem sc_circuit_text : FnScope N_circuit_text ["circuit"] (defScope (top 21)) := ⟨rfl, rfl, rfl, by decide +kernel, rfl, by decide +kernel, by decide +kernel⟩
theorem cl_circuit_text (B : BT K mg) (c_need_circuit : Cl P w K mg base 5 "need_circuit" (top 15) ["circuit"] m_need_circuit) (c_gate_line : Cl P w K mg base 1 "gate_line" (top 18) ["number", "gate"] m_gate_line) (T : Tx K mg "circuit_text" (top 21) ["circuit"]) : Cl P w K mg base 6 "circuit_text" (top 21) ["circuit"] m_circuit_text :=
  have sc := sc_circuit_text
  cl_of (b := b_circuit_text) T sc fun f cdv A outer s H E hr => sv_cons (sv_expr (v_call c_need_circuit (by decide) hr (by rfl) (by exact takes_of rfl rfl rfl rfl) (.cons GaLen.nil) (va_cons (nv 0) (va_nil))))
  (sv_cons (sv_setE (i := 1) sc.nd (by (first | rfl | with_unfolding_all rfl | decide)) (by (first | exact Or.inl rfl | exact Or.inr rfl)) (v_lst (va_cons (nadd (ngl B.c_PREFIX) (v_ix (nv 0) (v_int))) (va_nil))))
  (sv_cons (sv_for (by exact passes_of rfl) (by rfl) (iv_enum (by rfl) B.b_enumerate (va_cons (v_ix (nv 0) (v_int)) (va_nil))) (tg_tup (by rfl) (tgs_cons (tg_name (i := 2) sc.nd (by (first | rfl | with_unfolding_all rfl | decide)) (by (first | exact Or.inl rfl | exact Or.inr rfl))) (tgs_cons (tg_name (i := 3) sc.nd (by (first | rfl | with_unfolding_all rfl | decide)) (by (first | exact Or.inl rfl | exact Or.inr rfl))) (tgs_nil)))) (sv_one (sv_expr (nappend (nv 1) (va_cons (v_call c_gate_line (by decide) hr (by rfl) (by exact takes_of rfl rfl rfl rfl) (.cons (.cons GaLen.nil)) (va_cons (nv 2) (va_cons (nv 3) (va_nil)))) (va_nil))))))
  (sv_one (sv_ret (njoin (v_str) (va_cons (nv 1) (va_nil)))))))
def N_lines_to_read : List Str := ["text"]
def b_lines_to_read : SG := sSeq (sIf (bNot (bOf (gUn (vIsi "str") (gVar 0)))) (sRaiseA "BadText" (gaCons (gC (.int 0)) (gaNil))) (sSkip))
  (sRet (gMeth isStr mSplit (gVar 0) (gaCons (gC (.str "\n")) (gaNil))))
def m_lines_to_read : List Vl → M Vl := fnM false (N_lines_to_read).length b_lines_to_read
theorem sc_lines_to_read : FnScope N_lines_to_read ["text"] (defScope (top 22)) := ⟨rfl, rfl, rfl, by decide +kernel, rfl, by decide +kernel, by decide +kernel⟩
theorem cl_lines_to_read (B : BT K mg) (T : Tx K mg "lines_to_read" (top 22) ["text"]) : Cl P w K mg base 1 "lines_to_read" (top 22) ["text"] m_lines_to_read :=
  have sc := sc_lines_to_read
  cl_of (b := b_lines_to_read) T sc fun f cdv A outer s H E hr => sv_cons (sv_if (t_not (t_val (v_isi (by rfl) B.b_isinstance (by rfl) B.b_str (by first | rfl | decide) (nv 0)))) (sv_one (nraiseA B.x_BadText hr (by exact takes_of rfl rfl rfl rfl) (va_cons (v_int) (va_nil)))) (sv_nil))
  (sv_one (sv_ret (nsplit (nv 0) (va_cons (v_str) (va_nil)))))
def N_read_circuit : List Str := ["text", "lines", "prefix", "gates", "number", "line"]
def b_read_circuit : SG := sSeq (sSet 1 (gCall m_lines_to_read (gaCons (gVar 0) (gaNil))))
  (sSeq (sSet 2 (gCut (gBin vIx (gVar 1) (gC (.int 0))) (some (gUn vLen (gC d_PREFIX))) none))
  (sSeq (sIf (bOr (bNot (bOf (gMeth isStr mStarts (gBin vIx (gVar 1) (gC (.int 0))) (gaCons (gC d_PREFIX) (gaNil))))) (bNot (bOf (gCall m_is_circuit_value (gaCons (gTup (gaCons (gVar 2) (gaCons (gTup (gaCons (gTup (gaCons (gC (.str "yes")) (gaNil))) (gaNil))) (gaNil)))) (gaNil)))))) (sRaiseA "BadText" (gaCons (gC (.int 1)) (gaNil))) (sSkip))
  (sSeq (sSet 3 (gTup (gaNil)))
  (sSeq (sFor (iEnu (gaCons (gCut (gVar 1) (some (gC (.int 1))) none) (gaNil))) (gtTup [gtName 4, gtName 5]) (sSeq (sSet 3 (gBin vAdd (gVar 3) (gTup (gaCons (gCall m_gate_read (gaCons (gVar 4) (gaCons (gVar 5) (gaNil)))) (gaNil)))))
  (sIf (bNot (bOf (gCall m_is_circuit_value (gaCons (gTup (gaCons (gVar 2) (gaCons (gVar 3) (gaNil)))) (gaNil))))) (sRaiseA "BadText" (gaCons (gBin vAdd (gVar 4) (gC (.int 2))) (gaNil))) (sSkip))))
  (sSeq (sIf (bOf (gBin vEq (gVar 3) (gTup (gaNil)))) (sRaiseA "BadText" (gaCons (gC (.int 2)) (gaNil))) (sSkip))
  (sRet (gTup (gaCons (gVar 2) (gaCons (gVar 3) (gaNil))))))))))
def m_read_circuit : List Vl → M Vl := fnM false (N_read_circuit).length b_read_circuit
theorem sc_read_circuit : FnScope N_read_circuit ["text"] (defScope (top 23)) := ⟨rfl, rfl, rfl, by decide +kernel, rfl, by decide +kernel, by decide +kernel⟩
theorem cl_read_circuit (B : BT K mg) (c_lines_to_read : Cl P w K mg base 1 "lines_to_read" (top 22) ["text"] m_lines_to_read) (c_is_circuit_value : Cl P w K mg base 4 "is_circuit_value" (top 8) ["thing"] m_is_circuit_value) (c_gate_read : Cl P w K mg base 2 "gate_read" (top 20) ["number", "line"] m_gate_read) (T : Tx K mg "read_circuit" (top 23) ["text"]) : Cl P w K mg base 5 "read_circuit" (top 23) ["text"] m_read_circuit :=
  have sc := sc_read_circuit
  cl_of (b := b_read_circuit) T sc fun f cdv A outer s H E hr => sv_cons (sv_set (i := 1) sc.nd (by (first | rfl | with_unfolding_all rfl | decide)) (by (first | exact Or.inl rfl | exact Or.inr rfl)) (v_call c_lines_to_read (by decide) hr (by rfl) (by exact takes_of rfl rfl rfl rfl) (.cons GaLen.nil) (va_cons (nv 0) (va_nil))))
  (sv_cons (sv_set (i := 2) sc.nd (by (first | rfl | with_unfolding_all rfl | decide)) (by (first | exact Or.inl rfl | exact Or.inr rfl)) (v_cut (v_ix (nv 1) (v_int)) (vo_some (nlen B.b_len (ngl B.c_PREFIX))) vo_none))
  (sv_cons (sv_if ((w_or (t_not (t_val (nstarts (v_ix (nv 1) (v_int)) (va_cons (ngl B.c_PREFIX) (va_nil))))) (w_or1 (t_not (t_val (v_call c_is_circuit_value (by decide) hr (by rfl) (by exact takes_of rfl rfl rfl rfl) (.cons GaLen.nil) (va_cons (v_tup (va_cons (nv 2) (va_cons (v_tup (va_cons (v_tup (va_cons (v_str) (va_nil))) (va_nil))) (va_nil)))) (va_nil))))))).t) (sv_one (nraiseA B.x_BadText hr (by exact takes_of rfl rfl rfl rfl) (va_cons (v_int) (va_nil)))) (sv_nil))
  (sv_cons (sv_set (i := 3) sc.nd (by (first | rfl | with_unfolding_all rfl | decide)) (by (first | exact Or.inl rfl | exact Or.inr rfl)) (v_tup (va_nil)))
  (sv_cons (sv_for (by exact passes_of rfl) (by rfl) (iv_enum (by rfl) B.b_enumerate (va_cons (v_cut (nv 1) (vo_some (v_int)) vo_none) (va_nil))) (tg_tup (by rfl) (tgs_cons (tg_name (i := 4) sc.nd (by (first | rfl | with_unfolding_all rfl | decide)) (by (first | exact Or.inl rfl | exact Or.inr rfl))) (tgs_cons (tg_name (i := 5) sc.nd (by (first | rfl | with_unfolding_all rfl | decide)) (by (first | exact Or.inl rfl | exact Or.inr rfl))) (tgs_nil)))) (sv_cons (sv_set (i := 3) sc.nd (by (first | rfl | with_unfolding_all rfl | decide)) (by (first | exact Or.inl rfl | exact Or.inr rfl)) (nadd (nv 3) (v_tup (va_cons (v_call c_gate_read (by decide) hr (by rfl) (by exact takes_of rfl rfl rfl rfl) (.cons (.cons GaLen.nil)) (va_cons (nv 4) (va_cons (nv 5) (va_nil)))) (va_nil)))))
  (sv_one (sv_if (t_not (t_val (v_call c_is_circuit_value (by decide) hr (by rfl) (by exact takes_of rfl rfl rfl rfl) (.cons GaLen.nil) (va_cons (v_tup (va_cons (nv 2) (va_cons (nv 3) (va_nil)))) (va_nil))))) (sv_one (nraiseA B.x_BadText hr (by exact takes_of rfl rfl rfl rfl) (va_cons (nadd (nv 4) (v_int)) (va_nil)))) (sv_nil)))))
  (sv_cons (sv_if (xeq hr (nv 3) (v_tup (va_nil))) (sv_one (nraiseA B.x_BadText hr (by exact takes_of rfl rfl rfl rfl) (va_cons (v_int) (va_nil)))) (sv_nil))
  (sv_one (sv_ret (v_tup (va_cons (nv 2) (va_cons (nv 3) (va_nil)))))))))))
def N__law_deck : List Str := ["script", "mixed", "cell"]
def b__law_deck : SG := sSeq (sFor (iSeq (gCut (gVar 0) none (some (gC (.int 63))))) (gtName 2) (sSet 1 (gBin vModP (gUn vInt (gBin vAdd (gBin vAdd (gBin vMul (gVar 1) (gC (.int 48271))) (gBin vModP (gUn vInt (gVar 2)) (gC (.int 2147483629)))) (gC (.int 17)))) (gC (.int 2147483587)))))
  (sRet (gDict [.inr "left", .inr "mixed", .inr "draws"] (gaConsE (gUn vRev2 (gComp (iSeq (gCut (gVar 0) none (some (gC (.int 63))))) (gtName 2) (bTrue) (gUn vInt (gVar 2)) [2])) (gaCons (gVar 1) (gaCons (gC (.int 0)) (gaNil))))))
def m__law_deck : List Vl → M Vl := fnM true (N__law_deck).length b__law_deck
theorem sc__law_deck : FnScope N__law_deck ["script", "mixed"] (defScope (top 25)) := ⟨rfl, rfl, rfl, by decide +kernel, rfl, by decide +kernel, by decide +kernel⟩
theorem cl__law_deck (B : BT K mg) (T : Tx K mg "_law_deck" (top 25) ["script", "mixed"]) : Cl P w K mg base 1 "_law_deck" (top 25) ["script", "mixed"] m__law_deck :=
  have sc := sc__law_deck
  cl_of (b := b__law_deck) T sc fun f cdv A outer s H E hr => sv_cons (sv_for (by exact passes_of rfl) (by rfl) (iv_seq (v_cut (nv 0) vo_none (vo_some (v_int)))) (tg_name (i := 2) sc.nd (by (first | rfl | with_unfolding_all rfl | decide)) (by (first | exact Or.inl rfl | exact Or.inr rfl))) (sv_one (sv_set (i := 1) sc.nd (by (first | rfl | with_unfolding_all rfl | decide)) (by (first | exact Or.inl rfl | exact Or.inr rfl)) (nmod (nint B.b_int (nadd (nadd (nmul (nv 1) (v_int)) (nmod (nint B.b_int (nv 2)) (v_int))) (v_int))) (v_int)))))
  (sv_one (sv_ret (v_dict (DPs.consE (k := .inr "left") v_str (v_rev2 (v_comp (own := [("cell", 2)]) (ws := [2]) (by rfl) sc.nd (iv_seq (v_cut (nv 0) vo_none (vo_some (v_int)))) ⟨blk_of (by first | rfl | kernel_rfl), by decide, fun s H C cl fp => tg_name (i := 2) sc.nd (by (first | rfl | with_unfolding_all rfl | decide)) (by (first | exact Or.inl rfl | exact Or.inr rfl)), fun s H C cl fp => ptsv_nil, fun s H C cl fp => nint B.b_int (nv 2)⟩)) (DPs.cons (k := .inr "mixed") v_str (nv 1) (DPs.cons (k := .inr "draws") v_str (v_int) (DPs.nil)))))))
def N__law_draw : List Str := ["deck", "many", "number", "cell"]
def b__law_draw : SG := sSeq (sDPut (gVar 0) (gC (.str "draws")) (gBin vAdd (gBin vDGet (gVar 0) (gC (.str "draws"))) (gC (.int 1))))
  (sSeq (sSet 2 (gBin vAdd (gBin vDGet (gVar 0) (gC (.str "mixed"))) (gBin vMul (gC (.int 61473)) (gBin vDGet (gVar 0) (gC (.str "draws"))))))
  (sSeq (sIf (bOf (gBin vNe (gBin vDGet (gVar 0) (gC (.str "left"))) (gLst (gaNil)))) (sSeq (sSet 3 (gMeth isLst mPop (gBin vDGet (gVar 0) (gC (.str "left"))) gaNil))
  (sSeq (sIf (bOf (gBin vGe (gVar 3) (gBin vPow (gC (.int 10)) (gC (.int 18))))) (sSeq (sDrop (gMeth isLst mAppend (gBin vDGet (gVar 0) (gC (.str "left"))) (gaCons (gBin vFdiv (gVar 3) (gBin vMax2 (gC (.int 2)) (gVar 1))) (gaNil))))
  (sRet (gBin vModP (gUn vInt (gVar 3)) (gVar 1)))) (sSkip))
  (sSet 2 (gBin vAdd (gVar 2) (gBin vModP (gUn vInt (gVar 3)) (gC (.int 2147483629))))))) (sSkip))
  (sSeq (sSet 2 (gBin vModP (gUn vInt (gBin vAdd (gBin vMul (gVar 2) (gC (.int 39373))) (gC (.int 77)))) (gC (.int 2147483647))))
  (sSeq (sSet 2 (gBin vModP (gUn vInt (gBin vAdd (gBin vAdd (gBin vMul (gVar 2) (gVar 2)) (gBin vMul (gC (.int 52713)) (gBin vDGet (gVar 0) (gC (.str "draws"))))) (gC (.int 31)))) (gC (.int 2147483587))))
  (sRet (gBin vModP (gUn vInt (gBin vFdiv (gBin vModP (gUn vInt (gBin vMul (gVar 2) (gC (.int 40692)))) (gC (.int 2147483563))) (gC (.int 64)))) (gVar 1)))))))
def m__law_draw : List Vl → M Vl := fnM false (N__law_draw).length b__law_draw
theorem sc__law_draw : FnScope N__law_draw ["deck", "many"] (defScope (top 26)) := ⟨rfl, rfl, rfl, by decide +kernel, rfl, by decide +kernel, by decide +kernel⟩
theorem cl__law_draw (B : BT K mg) (T : Tx K mg "_law_draw" (top 26) ["deck", "many"]) : Cl P w K mg base 1 "_law_draw" (top 26) ["deck", "many"] m__law_draw :=
  have sc := sc__law_draw
  cl_of (b := b__law_draw) T sc fun f cdv A outer s H E hr => sv_cons (sv_dput hr.z1 (nv 0) (v_str) (nadd (v_dget hr.z1 (nv 0) (v_str)) (v_int)))
  (sv_cons (sv_set (i := 2) sc.nd (by (first | rfl | with_unfolding_all rfl | decide)) (by (first | exact Or.inl rfl | exact Or.inr rfl)) (nadd (v_dget hr.z1 (nv 0) (v_str)) (nmul (v_int) (v_dget hr.z1 (nv 0) (v_str)))))
  (sv_cons (sv_if (xne hr (v_dget hr.z1 (nv 0) (v_str)) (v_lst (va_nil))) (sv_cons (sv_set (i := 3) sc.nd (by (first | rfl | with_unfolding_all rfl | decide)) (by (first | exact Or.inl rfl | exact Or.inr rfl)) (npop (v_dget hr.z1 (nv 0) (v_str))))
  (sv_cons (sv_if (xge (nv 3) (npow (v_int) (v_int))) (sv_cons (sv_expr (nappend (v_dget hr.z1 (nv 0) (v_str)) (va_cons (nfdiv (nv 3) (nmax2 (by rfl) B.b_max (v_int) (nv 1))) (va_nil))))
  (sv_one (sv_ret (nmod (nint B.b_int (nv 3)) (nv 1))))) (sv_nil))
  (sv_one (sv_set (i := 2) sc.nd (by (first | rfl | with_unfolding_all rfl | decide)) (by (first | exact Or.inl rfl | exact Or.inr rfl)) (nadd (nv 2) (nmod (nint B.b_int (nv 3)) (v_int))))))) (sv_nil))
  (sv_cons (sv_set (i := 2) sc.nd (by (first | rfl | with_unfolding_all rfl | decide)) (by (first | exact Or.inl rfl | exact Or.inr rfl)) (nmod (nint B.b_int (nadd (nmul (nv 2) (v_int)) (v_int))) (v_int)))
  (sv_cons (sv_set (i := 2) sc.nd (by (first | rfl | with_unfolding_all rfl | decide)) (by (first | exact Or.inl rfl | exact Or.inr rfl)) (nmod (nint B.b_int (nadd (nadd (nmul (nv 2) (nv 2)) (nmul (v_int) (v_dget hr.z1 (nv 0) (v_str)))) (v_int))) (v_int)))
  (sv_one (sv_ret (nmod (nint B.b_int (nfdiv (nmod (nint B.b_int (nmul (nv 2) (v_int))) (v_int)) (v_int))) (nv 1))))))))
def N__law_pick : List Str := ["deck", "some"]
def b__law_pick : SG := sRet (gBin vIx (gVar 1) (gCall m__law_draw (gaCons (gVar 0) (gaCons (gUn vLen (gVar 1)) (gaNil)))))
def m__law_pick : List Vl → M Vl := fnM false (N__law_pick).length b__law_pick
theorem sc__law_pick : FnScope N__law_pick ["deck", "some"] (defScope (top 27)) := ⟨rfl, rfl, rfl, by decide +kernel, rfl, by decide +kernel, by decide +kernel⟩
theorem cl__law_pick (B : BT K mg) (c__law_draw : Cl P w K mg base 1 "_law_draw" (top 26) ["deck", "many"] m__law_draw) (T : Tx K mg "_law_pick" (top 27) ["deck", "some"]) : Cl P w K mg base 2 "_law_pick" (top 27) ["deck", "some"] m__law_pick :=
  have sc := sc__law_pick
  cl_of (b := b__law_pick) T sc fun f cdv A outer s H E hr => sv_one (sv_ret (v_ix (nv 1) (v_call c__law_draw (by decide) hr (by rfl) (by exact takes_of rfl rfl rfl rfl) (.cons (.cons GaLen.nil)) (va_cons (nv 0) (va_cons (nlen B.b_len (nv 1)) (va_nil))))))
def N__law_same : List Str := ["told", "due", "todo", "one", "other"]
def b__law_same : SG := sSeq (sSetE 2 (gLst (gaCons (gTup (gaCons (gVar 0) (gaCons (gVar 1) (gaNil)))) (gaNil))))
  (sSeq (sWhile (bOf (gBin vNe (gVar 2) (gLst (gaNil)))) (sSeq (sAsg (gtTup [gtName 3, gtName 4]) (gMeth isLst mPop (gVar 2) gaNil))
  (sIf (bOf (gUn (vIsiT ["tuple", "list"]) (gVar 3))) (sSeq (sIf (bOr (bNot (bOf (gUn (vIsiT ["tuple", "list"]) (gVar 4)))) (bOr (bOf (gBin vNe (gUn (vIsi "tuple") (gVar 3)) (gUn (vIsi "tuple") (gVar 4)))) (bOf (gBin vNe (gUn vLen (gVar 3)) (gUn vLen (gVar 4)))))) (sRet (gC (.bool false))) (sSkip))
  (sDrop (gMeth isLst mExtend (gVar 2) (gaCons (gListZip (gaCons (gVar 3) (gaCons (gVar 4) (gaNil)))) (gaNil))))) (sIf (bOf (gUn (vIsiT ["int", "str"]) (gVar 3))) (sIf (bOr (bNot (bOf (gUn (vIsiT ["int", "str"]) (gVar 4)))) (bOr (bOf (gBin vNe (gUn (vIsi "bool") (gVar 3)) (gUn (vIsi "bool") (gVar 4)))) (bOf (gBin vNe (gVar 3) (gVar 4))))) (sRet (gC (.bool false))) (sSkip)) (sIf (bOr (bOf (gUn vNotN (gVar 3))) (bOf (gUn vNotN (gVar 4)))) (sRet (gC (.bool false))) (sSkip))))))
  (sRet (gC (.bool true))))
def m__law_same : List Vl → M Vl := fnM false (N__law_same).length b__law_same
theorem sc__law_same : FnScope N__law_same ["told", "due"] (defScope (top 28)) := ⟨rfl, rfl, rfl, by decide +kernel, rfl, by decide +kernel, by decide +kernel⟩
theorem cl__law_same (B : BT K mg) (T : Tx K mg "_law_same" (top 28) ["told", "due"]) : Cl P w K mg base 1 "_law_same" (top 28) ["told", "due"] m__law_same :=
  have sc := sc__law_same
  cl_of (b := b__law_same) T sc fun f cdv A outer s H E hr => sv_cons (sv_setE (i := 2) sc.nd (by (first | rfl | with_unfolding_all rfl | decide)) (by (first | exact Or.inl rfl | exact Or.inr rfl)) (v_lst (va_cons (v_tup (va_cons (nv 0) (va_cons (nv 1) (va_nil)))) (va_nil))))
  (sv_cons (sv_while (by exact passes_of rfl) (xne hr (nv 2) (v_lst (va_nil))) (sv_cons (sv_asg (npop (nv 2)) (tg_tup (by rfl) (tgs_cons (tg_name (i := 3) sc.nd (by (first | rfl | with_unfolding_all rfl | decide)) (by (first | exact Or.inl rfl | exact Or.inr rfl))) (tgs_cons (tg_name (i := 4) sc.nd (by (first | rfl | with_unfolding_all rfl | decide)) (by (first | exact Or.inl rfl | exact Or.inr rfl))) (tgs_nil)))))
  (sv_one (sv_if (t_val (v_isiT (by rfl) B.b_isinstance (tyn (by rfl) B.b_tuple (by first | rfl | decide) (tyn (by rfl) B.b_list (by first | rfl | decide) .nil)) (nv 3) (by rw [sizeLine_eq]; decide))) (sv_cons (sv_if ((w_or (t_not (t_val (v_isiT (by rfl) B.b_isinstance (tyn (by rfl) B.b_tuple (by first | rfl | decide) (tyn (by rfl) B.b_list (by first | rfl | decide) .nil)) (nv 4) (by rw [sizeLine_eq]; decide)))) (w_or (xne hr (v_isi (by rfl) B.b_isinstance (by rfl) B.b_tuple (by first | rfl | decide) (nv 3)) (v_isi (by rfl) B.b_isinstance (by rfl) B.b_tuple (by first | rfl | decide) (nv 4))) (w_or1 (xne hr (nlen B.b_len (nv 3)) (nlen B.b_len (nv 4)))))).t) (sv_one (sv_ret (v_bl))) (sv_nil))
  (sv_one (sv_expr (nextend (nv 2) (va_cons (v_listZip (by rfl) (by rfl) B.b_list (by rfl) B.b_zip (va_cons (nv 3) (va_cons (nv 4) (va_nil)))) (va_nil)))))) (sv_one (sv_if (t_val (v_isiT (by rfl) B.b_isinstance (tyn (by rfl) B.b_int (by first | rfl | decide) (tyn (by rfl) B.b_str (by first | rfl | decide) .nil)) (nv 3) (by rw [sizeLine_eq]; decide))) (sv_one (sv_if ((w_or (t_not (t_val (v_isiT (by rfl) B.b_isinstance (tyn (by rfl) B.b_int (by first | rfl | decide) (tyn (by rfl) B.b_str (by first | rfl | decide) .nil)) (nv 4) (by rw [sizeLine_eq]; decide)))) (w_or (xne hr (v_isi (by rfl) B.b_isinstance (by rfl) B.b_bool (by first | rfl | decide) (nv 3)) (v_isi (by rfl) B.b_isinstance (by rfl) B.b_bool (by first | rfl | decide) (nv 4))) (w_or1 (xne hr (nv 3) (nv 4))))).t) (sv_one (sv_ret (v_bl))) (sv_nil))) (sv_one (sv_if ((w_or (t_notN (nv 3)) (w_or1 (t_notN (nv 4)))).t) (sv_one (sv_ret (v_bl))) (sv_nil)))))))))
  (sv_one (sv_ret (v_bl))))
def N__law_near_number : List Str := ["deck", "g"]
def b__law_near_number : SG := sRet (gIf (bOf (gBin vEq (gCall m__law_draw (gaCons (gVar 0) (gaCons (gC (.int 2)) (gaNil)))) (gC (.int 0)))) (gBin vMax2 (gC (.int 0)) (gBin vSub (gBin vSub (gVar 1) (gC (.int 1))) (gCall m__law_draw (gaCons (gVar 0) (gaCons (gC (.int 3)) (gaNil)))))) (gCall m__law_draw (gaCons (gVar 0) (gaCons (gVar 1) (gaNil)))))
def m__law_near_number : List Vl → M Vl := fnM false (N__law_near_number).length b__law_near_number
theorem sc__law_near_number : FnScope N__law_near_number ["deck", "g"] (defScope (top 30)) := ⟨rfl, rfl, rfl, by decide +kernel, rfl, by decide +kernel, by decide +kernel⟩
theorem cl__law_near_number (B : BT K mg) (c__law_draw : Cl P w K mg base 1 "_law_draw" (top 26) ["deck", "many"] m__law_draw) (T : Tx K mg "_law_near_number" (top 30) ["deck", "g"]) : Cl P w K mg base 2 "_law_near_number" (top 30) ["deck", "g"] m__law_near_number :=
  have sc := sc__law_near_number
  cl_of (b := b__law_near_number) T sc fun f cdv A outer s H E hr => sv_one (sv_ret (v_ifExp (xeq hr (v_call c__law_draw (by decide) hr (by rfl) (by exact takes_of rfl rfl rfl rfl) (.cons (.cons GaLen.nil)) (va_cons (nv 0) (va_cons (v_int) (va_nil)))) (v_int)) (nmax2 (by rfl) B.b_max (v_int) (nsub (nsub (nv 1) (v_int)) (v_call c__law_draw (by decide) hr (by rfl) (by exact takes_of rfl rfl rfl rfl) (.cons (.cons GaLen.nil)) (va_cons (nv 0) (va_cons (v_int) (va_nil)))))) (v_call c__law_draw (by decide) hr (by rfl) (by exact takes_of rfl rfl rfl rfl) (.cons (.cons GaLen.nil)) (va_cons (nv 0) (va_cons (nv 1) (va_nil))))))
def N__law_drawn_circuit : List Str := ["deck", "m", "many", "prefix", "gates", "g", "way", "k"]
def b__law_drawn_circuit : SG := sSeq (sPar [3, 4] (gaCons (gMeth isStr mJoin (gC (.str "")) (gaCons (gComp (iRange1 (gaCons (gVar 1) (gaNil))) (gtName 7) (bTrue) (gCall m__law_pick (gaCons (gVar 0) (gaCons (gLst (gaCons (gC (.str "e")) (gaCons (gC (.str "a")) (gaNil)))) (gaNil)))) [7]) (gaNil))) (gaConsE (gLst (gaNil)) (gaNil))))
  (sSeq (sFor (iRange1 (gaCons (gBin vAdd (gC (.int 1)) (gCall m__law_draw (gaCons (gVar 0) (gaCons (gVar 2) (gaNil))))) (gaNil))) (gtName 5) (sSeq (sSet 6 (gCall m__law_draw (gaCons (gVar 0) (gaCons (gC (.int 8)) (gaNil)))))
  (sIf (bOr (bOf (gBin vEq (gVar 5) (gC (.int 0)))) (bOf (gBin vLt (gVar 6) (gC (.int 3))))) (sDrop (gMeth isLst mAppend (gVar 4) (gaCons (gIf (bOr (bOf (gBin vEq (gVar 1) (gC (.int 0)))) (bAnd (bOf (gBin vEq (gVar 6) (gC (.int 2)))) (bOf (gBin vEq (gCall m__law_draw (gaCons (gVar 0) (gaCons (gC (.int 3)) (gaNil)))) (gC (.int 0)))))) (gTup (gaCons (gC (.str "yes")) (gaNil))) (gTup (gaCons (gC (.str "v")) (gaCons (gCall m__law_draw (gaCons (gVar 0) (gaCons (gVar 1) (gaNil)))) (gaNil))))) (gaNil)))) (sIf (bOf (gBin vEq (gVar 6) (gC (.int 3)))) (sDrop (gMeth isLst mAppend (gVar 4) (gaCons (gTup (gaCons (gC (.str "not")) (gaCons (gCall m__law_near_number (gaCons (gVar 0) (gaCons (gVar 5) (gaNil)))) (gaNil)))) (gaNil)))) (sDrop (gMeth isLst mAppend (gVar 4) (gaCons (gTup (gaCons (gCall m__law_pick (gaCons (gVar 0) (gaCons (gLst (gaCons (gC (.str "and")) (gaCons (gC (.str "or")) (gaNil)))) (gaNil)))) (gaCons (gCall m__law_near_number (gaCons (gVar 0) (gaCons (gVar 5) (gaNil)))) (gaCons (gCall m__law_near_number (gaCons (gVar 0) (gaCons (gVar 5) (gaNil)))) (gaNil))))) (gaNil))))))))
  (sRet (gTup (gaCons (gVar 3) (gaCons (gUn vTuple (gVar 4)) (gaNil))))))
def m__law_drawn_circuit : List Vl → M Vl := fnM false (N__law_drawn_circuit).length b__law_drawn_circuit
theorem sc__law_drawn_circuit : FnScope N__law_drawn_circuit ["deck", "m", "many"] (defScope (top 29)) := ⟨rfl, rfl, rfl, by decide +kernel, rfl, by decide +kernel, by decide +kernel⟩
theorem cl__law_drawn_circuit (B : BT K mg) (c__law_pick : Cl P w K mg base 2 "_law_pick" (top 27) ["deck", "some"] m__law_pick) (c__law_draw : Cl P w K mg base 1 "_law_draw" (top 26) ["deck", "many"] m__law_draw) (c__law_near_number : Cl P w K mg base 2 "_law_near_number" (top 30) ["deck", "g"] m__law_near_number) (T : Tx K mg "_law_drawn_circuit" (top 29) ["deck", "m", "many"]) : Cl P w K mg base 3 "_law_drawn_circuit" (top 29) ["deck", "m", "many"] m__law_drawn_circuit :=
  have sc := sc__law_drawn_circuit
  cl_of (b := b__law_drawn_circuit) T sc fun f cdv A outer s H E hr => sv_cons (sv_par (i := 3) (j := 4) (by rfl) sc.nd (by (first | rfl | with_unfolding_all rfl | decide)) (by (first | rfl | with_unfolding_all rfl | decide)) (by decide) (by (first | rfl | with_unfolding_all rfl | decide)) (by (first | rfl | with_unfolding_all rfl | decide)) (va_cons (njoin (v_str) (va_cons (v_comp (own := [("k", 7)]) (ws := [7]) (by rfl) sc.nd (iv_range1 (by rfl) B.b_range (va_cons (nv 1) (va_nil))) ⟨blk_of (by first | rfl | kernel_rfl), by decide, fun s H C cl fp => tg_name (i := 7) sc.nd (by (first | rfl | with_unfolding_all rfl | decide)) (by (first | exact Or.inl rfl | exact Or.inr rfl)), fun s H C cl fp => ptsv_nil, fun s H C cl fp => v_call c__law_pick (by decide) hr (by rfl) (by exact takes0) (.cons (.cons GaLen.nil)) (va_cons (nv 0) (va_cons (v_lst (va_cons (v_str) (va_cons (v_str) (va_nil)))) (va_nil)))⟩) (va_nil))) (va_consE (v_lst (va_nil)) (va_nil))) (by (first | rfl | with_unfolding_all rfl | decide)))
  (sv_cons (sv_for (by exact passes_of rfl) (by rfl) (iv_range1 (by rfl) B.b_range (va_cons (nadd (v_int) (v_call c__law_draw (by decide) hr (by rfl) (by exact takes_of rfl rfl rfl rfl) (.cons (.cons GaLen.nil)) (va_cons (nv 0) (va_cons (nv 2) (va_nil))))) (va_nil))) (tg_name (i := 5) sc.nd (by (first | rfl | with_unfolding_all rfl | decide)) (by (first | exact Or.inl rfl | exact Or.inr rfl))) (sv_cons (sv_set (i := 6) sc.nd (by (first | rfl | with_unfolding_all rfl | decide)) (by (first | exact Or.inl rfl | exact Or.inr rfl)) (v_call c__law_draw (by decide) hr (by rfl) (by exact takes_of rfl rfl rfl rfl) (.cons (.cons GaLen.nil)) (va_cons (nv 0) (va_cons (v_int) (va_nil)))))
  (sv_one (sv_if ((w_or (xeq hr (nv 5) (v_int)) (w_or1 (xlt (nv 6) (v_int)))).t) (sv_one (sv_expr (nappend (nv 4) (va_cons (v_ifExp ((w_or (xeq hr (nv 1) (v_int)) (w_or1 ((w_and (xeq hr (nv 6) (v_int)) (w_and1 (xeq hr (v_call c__law_draw (by decide) hr (by rfl) (by exact takes_of rfl rfl rfl rfl) (.cons (.cons GaLen.nil)) (va_cons (nv 0) (va_cons (v_int) (va_nil)))) (v_int)))).t))).t) (v_tup (va_cons (v_str) (va_nil))) (v_tup (va_cons (v_str) (va_cons (v_call c__law_draw (by decide) hr (by rfl) (by exact takes_of rfl rfl rfl rfl) (.cons (.cons GaLen.nil)) (va_cons (nv 0) (va_cons (nv 1) (va_nil)))) (va_nil))))) (va_nil))))) (sv_one (sv_if (xeq hr (nv 6) (v_int)) (sv_one (sv_expr (nappend (nv 4) (va_cons (v_tup (va_cons (v_str) (va_cons (v_call c__law_near_number (by decide) hr (by rfl) (by exact takes_of rfl rfl rfl rfl) (.cons (.cons GaLen.nil)) (va_cons (nv 0) (va_cons (nv 5) (va_nil)))) (va_nil)))) (va_nil))))) (sv_one (sv_expr (nappend (nv 4) (va_cons (v_tup (va_cons (v_call c__law_pick (by decide) hr (by rfl) (by exact takes_of rfl rfl rfl rfl) (.cons (.cons GaLen.nil)) (va_cons (nv 0) (va_cons (v_lst (va_cons (v_str) (va_cons (v_str) (va_nil)))) (va_nil)))) (va_cons (v_call c__law_near_number (by decide) hr (by rfl) (by exact takes_of rfl rfl rfl rfl) (.cons (.cons GaLen.nil)) (va_cons (nv 0) (va_cons (nv 5) (va_nil)))) (va_cons (v_call c__law_near_number (by decide) hr (by rfl) (by exact takes_of rfl rfl rfl rfl) (.cons (.cons GaLen.nil)) (va_cons (nv 0) (va_cons (nv 5) (va_nil)))) (va_nil))))) (va_nil)))))))))))
  (sv_one (sv_ret (v_tup (va_cons (nv 3) (va_cons (ntuple B.b_tuple (nv 4)) (va_nil)))))))
def N__law_is_whole : List Str := ["thing"]
def b__law_is_whole : SG := sRet (gAnd (gUn (vIsi "int") (gVar 0)) (gNot (gUn (vIsi "bool") (gVar 0))))
def m__law_is_whole : List Vl → M Vl := fnM false (N__law_is_whole).length b__law_is_whole
theorem sc__law_is_whole : FnScope N__law_is_whole ["thing"] (defScope (top 31)) := ⟨rfl, rfl, rfl, by decide +kernel, rfl, by decide +kernel, by decide +kernel⟩
theorem cl__law_is_whole (B : BT K mg) (T : Tx K mg "_law_is_whole" (top 31) ["thing"]) : Cl P w K mg base 1 "_law_is_whole" (top 31) ["thing"] m__law_is_whole :=
  have sc := sc__law_is_whole
  cl_of (b := b__law_is_whole) T sc fun f cdv A outer s H E hr => sv_one (sv_ret (v_and (v_isi (by rfl) B.b_isinstance (by rfl) B.b_int (by first | rfl | decide) (nv 0)) (v_one (v_not (v_isi (by rfl) B.b_isinstance (by rfl) B.b_bool (by first | rfl | decide) (nv 0))))))
def N__law_is_gate : List Str := ["m", "g", "thing", "sizes", "it"]
def b__law_is_gate : SG := sSeq (sIf (bOr (bNot (bOf (gUn (vIsi "tuple") (gVar 2)))) (bOr (bOf (gBin vEq (gVar 2) (gTup (gaNil)))) (bNot (bOf (gUn (vIsi "str") (gBin vIx (gVar 2) (gC (.int 0)))))))) (sRet (gC (.bool false))) (sSkip))
  (sSeq (sSet 3 (gDict [.inr "yes", .inr "v", .inr "not", .inr "and", .inr "or"] (gaCons (gC (.int 1)) (gaCons (gC (.int 2)) (gaCons (gC (.int 2)) (gaCons (gC (.int 3)) (gaCons (gC (.int 3)) (gaNil))))))))
  (sSeq (sIf (bOr (bOf (gBin vNe (gDGet2 (gVar 3) (gBin vIx (gVar 2) (gC (.int 0))) (gC (.int 0))) (gUn vLen (gVar 2)))) (bOf (gBin vNe (gComp (iSeq (gCut (gVar 2) (some (gC (.int 1))) none)) (gtName 4) (bNot (bOf (gCall m__law_is_whole (gaCons (gVar 4) (gaNil))))) (gC (.int 1)) [4]) (gLst (gaNil))))) (sRet (gC (.bool false))) (sSkip))
  (sRet (gBin vEq (gComp (iSeq (gCut (gVar 2) (some (gC (.int 1))) none)) (gtName 4) (bNot (bOf (gChain vLe vLt (gC (.int 0)) (gVar 4) (gIf (bOf (gBin vEq (gBin vIx (gVar 2) (gC (.int 0))) (gC (.str "v")))) (gVar 0) (gVar 1))))) (gC (.int 1)) [4]) (gLst (gaNil))))))
def m__law_is_gate : List Vl → M Vl := fnM false (N__law_is_gate).length b__law_is_gate
theorem sc__law_is_gate : FnScope N__law_is_gate ["m", "g", "thing"] (defScope (top 32)) := ⟨rfl, rfl, rfl, by decide +kernel, rfl, by decide +kernel, by decide +kernel⟩
theorem cl__law_is_gate (B : BT K mg) (c__law_is_whole : Cl P w K mg base 1 "_law_is_whole" (top 31) ["thing"] m__law_is_whole) (T : Tx K mg "_law_is_gate" (top 32) ["m", "g", "thing"]) : Cl P w K mg base 2 "_law_is_gate" (top 32) ["m", "g", "thing"] m__law_is_gate :=
  have sc := sc__law_is_gate
  cl_of (b := b__law_is_gate) T sc fun f cdv A outer s H E hr => sv_cons (sv_if ((w_or (t_not (t_val (v_isi (by rfl) B.b_isinstance (by rfl) B.b_tuple (by first | rfl | decide) (nv 2)))) (w_or (xeq hr (nv 2) (v_tup (va_nil))) (w_or1 (t_not (t_val (v_isi (by rfl) B.b_isinstance (by rfl) B.b_str (by first | rfl | decide) (v_ix (nv 2) (v_int)))))))).t) (sv_one (sv_ret (v_bl))) (sv_nil))
  (sv_cons (sv_set (i := 3) sc.nd (by (first | rfl | with_unfolding_all rfl | decide)) (by (first | exact Or.inl rfl | exact Or.inr rfl)) (v_dict (DPs.cons (k := .inr "yes") v_str (v_int) (DPs.cons (k := .inr "v") v_str (v_int) (DPs.cons (k := .inr "not") v_str (v_int) (DPs.cons (k := .inr "and") v_str (v_int) (DPs.cons (k := .inr "or") v_str (v_int) (DPs.nil))))))))
  (sv_cons (sv_if ((w_or (xne hr (v_dget2 hr.z1 (nv 3) (v_ix (nv 2) (v_int)) (v_int)) (nlen B.b_len (nv 2))) (w_or1 (xne hr (v_comp (own := [("it", 4)]) (ws := [4]) (by rfl) sc.nd (iv_seq (v_cut (nv 2) (vo_some (v_int)) vo_none)) ⟨blk_of (by first | rfl | kernel_rfl), by decide, fun s H C cl fp => tg_name (i := 4) sc.nd (by (first | rfl | with_unfolding_all rfl | decide)) (by (first | exact Or.inl rfl | exact Or.inr rfl)), fun s H C cl fp => ptsv_one (t_not (t_val (v_call c__law_is_whole (by decide) hr (by rfl) (by exact takes0) (.cons GaLen.nil) (va_cons (nv 4) (va_nil))))), fun s H C cl fp => v_int⟩) (v_lst (va_nil))))).t) (sv_one (sv_ret (v_bl))) (sv_nil))
  (sv_one (sv_ret (neq hr (v_comp (own := [("it", 4)]) (ws := [4]) (by rfl) sc.nd (iv_seq (v_cut (nv 2) (vo_some (v_int)) vo_none)) ⟨blk_of (by first | rfl | kernel_rfl), by decide, fun s H C cl fp => tg_name (i := 4) sc.nd (by (first | rfl | with_unfolding_all rfl | decide)) (by (first | exact Or.inl rfl | exact Or.inr rfl)), fun s H C cl fp => ptsv_one (t_not (t_chain op_leV ov_ord op_ltV ov_ord (v_int) (nv 4) (v_ifExp (xeq hr (v_ix (nv 2) (v_int)) (v_str)) (nv 0) (nv 1)))), fun s H C cl fp => v_int⟩) (v_lst (va_nil)))))))
def N__law_is_circuit : List Str := ["thing", "letter", "g", "gate"]
def b__law_is_circuit : SG := sSeq (sIf (bOr (bNot (bOf (gUn (vIsi "tuple") (gVar 0)))) (bOr (bOf (gBin vNe (gUn vLen (gVar 0)) (gC (.int 2)))) (bOr (bNot (bOf (gUn (vIsi "str") (gBin vIx (gVar 0) (gC (.int 0)))))) (bNot (bOf (gUn (vIsi "tuple") (gBin vIx (gVar 0) (gC (.int 1))))))))) (sRet (gC (.bool false))) (sSkip))
  (sSeq (sIf (bOr (bOf (gBin vEq (gBin vIx (gVar 0) (gC (.int 1))) (gTup (gaNil)))) (bOf (gBin vNe (gComp (iSeq (gBin vIx (gVar 0) (gC (.int 0)))) (gtName 1) (bOf (gBin (vInB true) (gVar 1) (gC (.str "ea")))) (gC (.int 1)) [1]) (gLst (gaNil))))) (sRet (gC (.bool false))) (sSkip))
  (sRet (gBin vEq (gComp (iEnu (gaCons (gBin vIx (gVar 0) (gC (.int 1))) (gaNil))) (gtTup [gtName 2, gtName 3]) (bNot (bOf (gCall m__law_is_gate (gaCons (gUn vLen (gBin vIx (gVar 0) (gC (.int 0)))) (gaCons (gVar 2) (gaCons (gVar 3) (gaNil))))))) (gC (.int 1)) [2, 3]) (gLst (gaNil)))))
def m__law_is_circuit : List Vl → M Vl := fnM false (N__law_is_circuit).length b__law_is_circuit
theorem sc__law_is_circuit : FnScope N__law_is_circuit ["thing"] (defScope (top 33)) := ⟨rfl, rfl, rfl, by decide +kernel, rfl, by decide +kernel, by decide +kernel⟩
theorem cl__law_is_circuit (B : BT K mg) (c__law_is_gate : Cl P w K mg base 2 "_law_is_gate" (top 32) ["m", "g", "thing"] m__law_is_gate) (T : Tx K mg "_law_is_circuit" (top 33) ["thing"]) : Cl P w K mg base 3 "_law_is_circuit" (top 33) ["thing"] m__law_is_circuit :=
  have sc := sc__law_is_circuit
  cl_of (b := b__law_is_circuit) T sc fun f cdv A outer s H E hr => sv_cons (sv_if ((w_or (t_not (t_val (v_isi (by rfl) B.b_isinstance (by rfl) B.b_tuple (by first | rfl | decide) (nv 0)))) (w_or (xne hr (nlen B.b_len (nv 0)) (v_int)) (w_or (t_not (t_val (v_isi (by rfl) B.b_isinstance (by rfl) B.b_str (by first | rfl | decide) (v_ix (nv 0) (v_int))))) (w_or1 (t_not (t_val (v_isi (by rfl) B.b_isinstance (by rfl) B.b_tuple (by first | rfl | decide) (v_ix (nv 0) (v_int))))))))).t) (sv_one (sv_ret (v_bl))) (sv_nil))
  (sv_cons (sv_if ((w_or (xeq hr (v_ix (nv 0) (v_int)) (v_tup (va_nil))) (w_or1 (xne hr (v_comp (own := [("letter", 1)]) (ws := [1]) (by rfl) sc.nd (iv_seq (v_ix (nv 0) (v_int))) ⟨blk_of (by first | rfl | kernel_rfl), by decide, fun s H C cl fp => tg_name (i := 1) sc.nd (by (first | rfl | with_unfolding_all rfl | decide)) (by (first | exact Or.inl rfl | exact Or.inr rfl)), fun s H C cl fp => ptsv_one (xnin hr (nv 1) (v_str)), fun s H C cl fp => v_int⟩) (v_lst (va_nil))))).t) (sv_one (sv_ret (v_bl))) (sv_nil))
  (sv_one (sv_ret (neq hr (v_comp (own := [("g", 2), ("gate", 3)]) (ws := ([2] ++ ([3] ++ []))) (by rfl) sc.nd (iv_enum (by rfl) B.b_enumerate (va_cons (v_ix (nv 0) (v_int)) (va_nil))) ⟨blk_of (by first | rfl | kernel_rfl), by decide, fun s H C cl fp => tg_tup (by rfl) (tgs_cons (tg_name (i := 2) sc.nd (by (first | rfl | with_unfolding_all rfl | decide)) (by (first | exact Or.inl rfl | exact Or.inr rfl))) (tgs_cons (tg_name (i := 3) sc.nd (by (first | rfl | with_unfolding_all rfl | decide)) (by (first | exact Or.inl rfl | exact Or.inr rfl))) (tgs_nil))), fun s H C cl fp => ptsv_one (t_not (t_val (v_call c__law_is_gate (by decide) hr (by rfl) (by exact takes0) (.cons (.cons (.cons GaLen.nil))) (va_cons (nlen B.b_len (v_ix (nv 0) (v_int))) (va_cons (nv 2) (va_cons (nv 3) (va_nil))))))), fun s H C cl fp => v_int⟩) (v_lst (va_nil))))))
def N__law_bent : List Str := ["deck", "thing", "at", "way"]
def b__law_bent (r : List Vl → M Vl) : SG := sSeq (sIf (bAnd (bOf (gUn (vIsi "tuple") (gVar 1))) (bAnd (bOf (gBin vNe (gVar 1) (gTup (gaNil)))) (bOf (gBin vGt (gCall m__law_draw (gaCons (gVar 0) (gaCons (gC (.int 5)) (gaNil)))) (gC (.int 0)))))) (sSeq (sPar [2, 3] (gaCons (gCall m__law_draw (gaCons (gVar 0) (gaCons (gUn vLen (gVar 1)) (gaNil)))) (gaCons (gCall m__law_draw (gaCons (gVar 0) (gaCons (gC (.int 8)) (gaNil)))) (gaNil))))
  (sSeq (sIf (bOf (gBin vLt (gVar 3) (gC (.int 5)))) (sRet (gBin vAdd (gBin vAdd (gCut (gVar 1) none (some (gVar 2))) (gTup (gaCons (gCall r (gaCons (gVar 0) (gaCons (gBin vIx (gVar 1) (gVar 2)) (gaNil)))) (gaNil)))) (gCut (gVar 1) (some (gBin vAdd (gVar 2) (gC (.int 1)))) none))) (sSkip))
  (sRet (gIf (bOf (gBin vEq (gVar 3) (gC (.int 5)))) (gBin vAdd (gCut (gVar 1) none (some (gVar 2))) (gCut (gVar 1) (some (gBin vAdd (gVar 2) (gC (.int 1)))) none)) (gIf (bOf (gBin vEq (gVar 3) (gC (.int 6)))) (gBin vAdd (gCut (gVar 1) none (some (gBin vAdd (gVar 2) (gC (.int 1))))) (gCut (gVar 1) (some (gVar 2)) none)) (gUn vList (gVar 1))))))) (sSkip))
  (sSeq (sIf (bOf (gUn (vIsi "int") (gVar 1))) (sRet (gCall m__law_pick (gaCons (gVar 0) (gaCons (gLst (gaCons (gBin vAdd (gVar 1) (gC (.int 1))) (gaCons (gBin vSub (gVar 1) (gC (.int 1))) (gaCons (gBin vEq (gVar 1) (gC (.int 1))) (gaCons (gBin vEq (gVar 1) (gC (.int 0))) (gaCons (gUn vNeg (gC (.int 1))) (gaCons (gUn vStr (gVar 1)) (gaCons (gC .none) (gaCons (gBin vAdd (gVar 1) (gC (.int 7))) (gaNil)))))))))) (gaNil))))) (sSkip))
  (sSeq (sIf (bOf (gUn (vIsi "str") (gVar 1))) (sRet (gCall m__law_pick (gaCons (gVar 0) (gaCons (gLst (gaCons (gBin vAdd (gVar 1) (gC (.str "e"))) (gaCons (gCut (gVar 1) (some (gC (.int 1))) none) (gaCons (gMeth isStr mUpper (gVar 1) gaNil) (gaCons (gC (.str "v")) (gaCons (gC (.str "yes")) (gaCons (gC (.str "not")) (gaCons (gC (.str "and")) (gaCons (gC (.str "xor")) (gaCons (gC (.str "E")) (gaCons (gC (.str "")) (gaCons (gC .none) (gaCons (gBin vAdd (gVar 1) (gC (.str " "))) (gaNil)))))))))))))) (gaNil))))) (sSkip))
  (sRet (gCall m__law_pick (gaCons (gVar 0) (gaCons (gLst (gaCons (gC .none) (gaCons (gTup (gaNil)) (gaCons (gC (.int 0)) (gaCons (gLst (gaNil)) (gaCons (gC (.str "")) (gaCons (gTup (gaCons (gC (.str "yes")) (gaNil))) (gaCons (gTup (gaCons (gTup (gaCons (gC (.str "yes")) (gaNil))) (gaNil))) (gaCons (gC (.bool true)) (gaCons (gTup (gaCons (gC (.str "")) (gaNil))) (gaCons (gTup (gaCons (gC (.str "e")) (gaCons (gTup (gaNil)) (gaNil)))) (gaNil)))))))))))) (gaNil)))))))
def m__law_bent : Nat → List Vl → M Vl
  | 0 => fun _ => M.stuck
  | i + 1 => fnM false (N__law_bent).length (b__law_bent (m__law_bent i))
theorem sc__law_bent : FnScope N__law_bent ["deck", "thing"] (defScope (top 34)) := ⟨rfl, rfl, rfl, by decide +kernel, rfl, by decide +kernel, by decide +kernel⟩
theorem cl__law_bent (B : BT K mg) (c__law_draw : Cl P w K mg base 1 "_law_draw" (top 26) ["deck", "many"] m__law_draw) (c__law_pick : Cl P w K mg base 2 "_law_pick" (top 27) ["deck", "some"] m__law_pick) (T : Tx K mg "_law_bent" (top 34) ["deck", "thing"]) : ∀ i, Cl P w K mg base (2 + i) "_law_bent" (top 34) ["deck", "thing"] (m__law_bent i) :=
  have sc := sc__law_bent
  cl_rec (keep := false) (b := fun i => b__law_bent (m__law_bent i)) T sc rfl (fun _ => rfl) fun i f cdv A outer s H E ih hr => sv_cons (sv_if ((w_and (t_val (v_isi (by rfl) B.b_isinstance (by rfl) B.b_tuple (by first | rfl | decide) (nv 1))) (w_and (xne hr (nv 1) (v_tup (va_nil))) (w_and1 (xgt (v_call c__law_draw (by omega) hr (by rfl) (by exact takes_of rfl rfl rfl rfl) (.cons (.cons GaLen.nil)) (va_cons (nv 0) (va_cons (v_int) (va_nil)))) (v_int))))).t) (sv_cons (sv_par (i := 2) (j := 3) (by rfl) sc.nd (by (first | rfl | with_unfolding_all rfl | decide)) (by (first | rfl | with_unfolding_all rfl | decide)) (by decide) (by (first | rfl | with_unfolding_all rfl | decide)) (by (first | rfl | with_unfolding_all rfl | decide)) (va_cons (v_call c__law_draw (by omega) hr (by rfl) (by exact takes_of rfl rfl rfl rfl) (.cons (.cons GaLen.nil)) (va_cons (nv 0) (va_cons (nlen B.b_len (nv 1)) (va_nil)))) (va_cons (v_call c__law_draw (by omega) hr (by rfl) (by exact takes_of rfl rfl rfl rfl) (.cons (.cons GaLen.nil)) (va_cons (nv 0) (va_cons (v_int) (va_nil)))) (va_nil))) (by (first | rfl | with_unfolding_all rfl | decide)))
  (sv_cons (sv_if (xlt (nv 3) (v_int)) (sv_one (sv_ret (nadd (nadd (v_cut (nv 1) vo_none (vo_some (nv 2))) (v_tup (va_cons (v_call ih (Nat.le_refl _) hr (by rfl) (by exact takes_of rfl rfl rfl rfl) (.cons (.cons GaLen.nil)) (va_cons (nv 0) (va_cons (v_ix (nv 1) (nv 2)) (va_nil)))) (va_nil)))) (v_cut (nv 1) (vo_some (nadd (nv 2) (v_int))) vo_none)))) (sv_nil))
  (sv_one (sv_ret (v_ifExp (xeq hr (nv 3) (v_int)) (nadd (v_cut (nv 1) vo_none (vo_some (nv 2))) (v_cut (nv 1) (vo_some (nadd (nv 2) (v_int))) vo_none)) (v_ifExp (xeq hr (nv 3) (v_int)) (nadd (v_cut (nv 1) vo_none (vo_some (nadd (nv 2) (v_int)))) (v_cut (nv 1) (vo_some (nv 2)) vo_none)) (nlist B.b_list (nv 1)))))))) (sv_nil))
  (sv_cons (sv_if (t_val (v_isi (by rfl) B.b_isinstance (by rfl) B.b_int (by first | rfl | decide) (nv 1))) (sv_one (sv_ret (v_call c__law_pick (by omega) hr (by rfl) (by exact takes_of rfl rfl rfl rfl) (.cons (.cons GaLen.nil)) (va_cons (nv 0) (va_cons (v_lst (va_cons (nadd (nv 1) (v_int)) (va_cons (nsub (nv 1) (v_int)) (va_cons (neq hr (nv 1) (v_int)) (va_cons (neq hr (nv 1) (v_int)) (va_cons (nneg (v_int)) (va_cons (nstr B.b_str (nv 1)) (va_cons (v_non) (va_cons (nadd (nv 1) (v_int)) (va_nil)))))))))) (va_nil)))))) (sv_nil))
  (sv_cons (sv_if (t_val (v_isi (by rfl) B.b_isinstance (by rfl) B.b_str (by first | rfl | decide) (nv 1))) (sv_one (sv_ret (v_call c__law_pick (by omega) hr (by rfl) (by exact takes_of rfl rfl rfl rfl) (.cons (.cons GaLen.nil)) (va_cons (nv 0) (va_cons (v_lst (va_cons (nadd (nv 1) (v_str)) (va_cons (v_cut (nv 1) (vo_some (v_int)) vo_none) (va_cons (nupper (nv 1)) (va_cons (v_str) (va_cons (v_str) (va_cons (v_str) (va_cons (v_str) (va_cons (v_str) (va_cons (v_str) (va_cons (v_str) (va_cons (v_non) (va_cons (nadd (nv 1) (v_str)) (va_nil)))))))))))))) (va_nil)))))) (sv_nil))
  (sv_one (sv_ret (v_call c__law_pick (by omega) hr (by rfl) (by exact takes_of rfl rfl rfl rfl) (.cons (.cons GaLen.nil)) (va_cons (nv 0) (va_cons (v_lst (va_cons (v_non) (va_cons (v_tup (va_nil)) (va_cons (v_int) (va_cons (v_lst (va_nil)) (va_cons (v_str) (va_cons (v_tup (va_cons (v_str) (va_nil))) (va_cons (v_tup (va_cons (v_tup (va_cons (v_str) (va_nil))) (va_nil))) (va_cons (v_bl) (va_cons (v_tup (va_cons (v_str) (va_nil))) (va_cons (v_tup (va_cons (v_str) (va_cons (v_tup (va_nil)) (va_nil)))) (va_nil)))))))))))) (va_nil))))))))
def N__law_no_circuit : List Str := ["deck", "circuit", "turn", "thing"]
def b__law_no_circuit : SG := sSeq (sFor (iRange1 (gaCons (gC (.int 6)) (gaNil))) (gtName 2) (sSeq (sSet 3 (gCall (m__law_bent 8) (gaCons (gVar 0) (gaCons (gVar 1) (gaNil)))))
  (sIf (bNot (bOf (gCall m__law_is_circuit (gaCons (gVar 3) (gaNil))))) (sRet (gVar 3)) (sSkip))))
  (sRet (gTup (gaCons (gBin vIx (gVar 1) (gC (.int 0))) (gaCons (gTup (gaNil)) (gaNil)))))
def m__law_no_circuit : List Vl → M Vl := fnM false (N__law_no_circuit).length b__law_no_circuit
theorem sc__law_no_circuit : FnScope N__law_no_circuit ["deck", "circuit"] (defScope (top 35)) := ⟨rfl, rfl, rfl, by decide +kernel, rfl, by decide +kernel, by decide +kernel⟩
theorem cl__law_no_circuit (B : BT K mg) (c__law_bent : Cl P w K mg base 10 "_law_bent" (top 34) ["deck", "thing"] (m__law_bent 8)) (c__law_is_circuit : Cl P w K mg base 3 "_law_is_circuit" (top 33) ["thing"] m__law_is_circuit) (T : Tx K mg "_law_no_circuit" (top 35) ["deck", "circuit"]) : Cl P w K mg base 11 "_law_no_circuit" (top 35) ["deck", "circuit"] m__law_no_circuit :=
  have sc := sc__law_no_circuit
  cl_of (b := b__law_no_circuit) T sc fun f cdv A outer s H E hr => sv_cons (sv_for (by exact passes_of rfl) (by rfl) (iv_range1 (by rfl) B.b_range (va_cons (v_int) (va_nil))) (tg_name (i := 2) sc.nd (by (first | rfl | with_unfolding_all rfl | decide)) (by (first | exact Or.inl rfl | exact Or.inr rfl))) (sv_cons (sv_set (i := 3) sc.nd (by (first | rfl | with_unfolding_all rfl | decide)) (by (first | exact Or.inl rfl | exact Or.inr rfl)) (v_call c__law_bent (by decide) hr (by rfl) (by exact takes_of rfl rfl rfl rfl) (.cons (.cons GaLen.nil)) (va_cons (nv 0) (va_cons (nv 1) (va_nil)))))
  (sv_one (sv_if (t_not (t_val (v_call c__law_is_circuit (by decide) hr (by rfl) (by exact takes_of rfl rfl rfl rfl) (.cons GaLen.nil) (va_cons (nv 3) (va_nil))))) (sv_one (sv_ret (nv 3))) (sv_nil)))))
  (sv_one (sv_ret (v_tup (va_cons (v_ix (nv 1) (v_int)) (va_cons (v_tup (va_nil)) (va_nil))))))
def N__law_heard : List Str := ["call", "e"]
theorem sc__law_heard : FnScope N__law_heard ["call"] (defScope (top 36)) := ⟨rfl, rfl, rfl, by decide +kernel, rfl, by decide +kernel, by decide +kernel⟩
def b__law_heard (m : M Vl) : SG := sSeq (sTry 1 (sDrop (gAct m)) [⟨"BadCircuit", "thing", ["BadFilling"], fun x => sRet (gTup (gaCons (gC (.str "circuit")) (gaCons (gUn vRepr (gC x)) (gaCons (gC (.bool true)) gaNil))))⟩,
  ⟨"BadFilling", "thing", [], fun x => sRet (gTup (gaCons (gC (.str "filling")) (gaCons (gUn vRepr (gC x)) (gaCons (gC (.bool true)) gaNil))))⟩]) (sRet (gTup (gaCons (gC (.str "told")) (gaNil))))
theorem ok__law_heard (B : BT K mg) {A : Around} {stk : List PySem.Env} {g c2 f : Addr} {cdv : Value} {s : Shared} {H F0 : Hp} {i0 : Adr} {q : Str} {m : M Vl} {k : Nat} (hG : A.guards = some []) (hr : Room k (A.deeper (envOfC "_law_heard" (defScope (top 36)) s.heap.objs.size g cdv)))
    (hcall : ∀ (W : WX) (pn : List (Addr × Obj)) (xe : Value → Shared → Prop) (p1 p2 : Pos), Takes ((cxOf C8.CX0 P w K mg base N__law_heard "_law_heard" (defScope (top 36)) g cdv A stk s H C8.E0).tr pn xe) W →
      PEv ((cxOf C8.CX0 P w K mg base N__law_heard "_law_heard" (defScope (top 36)) g cdv A stk s H C8.E0).tr pn xe) (lamE W F0 i0 f c2 q) (.Call (.Name "call" p1) [] [] p2) (gAct m)) :
    PSsv ((cxOf C8.CX0 P w K mg base N__law_heard "_law_heard" (defScope (top 36)) g cdv A stk s H C8.E0).nox) (lamE (fun _ _ _ _ => False) F0 i0 f c2 q) (defBody (top 36)) (b__law_heard m) := by
  have sc := sc__law_heard
  obtain ⟨qi0, C0, f0, P0, T0, te0, ec0, gp0, kx0⟩ := B.y_BadCircuit
  obtain ⟨qi1, C1, f1, P1, T1, te1, ec1, gp1, kx1⟩ := B.y_BadFilling
  exact sv_cons (sv_try (n := "e") (i := 1) (by rfl) (by rfl) sc.nd (by (first | rfl | with_unfolding_all rfl | decide)) (by (first | rfl | with_unfolding_all rfl | decide)) takes0 (fun W pn xe tk hp => sv_one (sv_expr (hcall W pn xe _ _ tk)))
    (HdsV.cons (h := ⟨"BadCircuit", "thing", ["BadFilling"], fun x => sRet (gTup (gaCons (gC (.str "circuit")) (gaCons (gUn vRepr (gC x)) (gaCons (gC (.bool true)) gaNil))))⟩) (by rfl) (by decide) T0.gC te0 (fun m hm => (List.mem_singleton.mp hm) ▸ nm_of B.n_BadFilling_BadCircuit T0.gC) (fun a oe d pn v x hz hf => sv_one (sv_ret (v_tup (va_cons v_str (va_cons (v_repr hG hr.units (by rfl) B.b_repr (v_thing T0 hz hf (by (first | rfl | with_unfolding_all rfl | decide)) (by (first | exact Or.inl rfl | exact Or.inr (Or.inl rfl) | exact Or.inr (Or.inr rfl))))) (va_cons (v_isE ec0 hz hf (by (first | rfl | with_unfolding_all rfl | decide)) (by (first | exact Or.inl rfl | exact Or.inr (Or.inl rfl) | exact Or.inr (Or.inr rfl))) kx0 (by rfl) B.b_isinstance (by rfl) gp0) va_nil)))))) (HdsV.cons (h := ⟨"BadFilling", "thing", [], fun x => sRet (gTup (gaCons (gC (.str "filling")) (gaCons (gUn vRepr (gC x)) (gaCons (gC (.bool true)) gaNil))))⟩) (by rfl) (by decide) T1.gC te1 (fun m hm => nomatch hm) (fun a oe d pn v x hz hf => sv_one (sv_ret (v_tup (va_cons v_str (va_cons (v_repr hG hr.units (by rfl) B.b_repr (v_thing T1 hz hf (by (first | rfl | with_unfolding_all rfl | decide)) (by (first | exact Or.inl rfl | exact Or.inr (Or.inl rfl) | exact Or.inr (Or.inr rfl))))) (va_cons (v_isE ec1 hz hf (by (first | rfl | with_unfolding_all rfl | decide)) (by (first | exact Or.inl rfl | exact Or.inr (Or.inl rfl) | exact Or.inr (Or.inr rfl))) kx1 (by rfl) B.b_isinstance (by rfl) gp1) va_nil)))))) HdsV.nil)) (hfr := lamE_frees (by decide))) (sv_one (sv_ret (v_tup (va_cons (v_str) (va_nil)))))
def N__law_text : List Str := ["circuit", "lines", "g", "gate", "it"]
def b__law_text : SG := sSeq (sSetE 1 (gLst (gaCons (gBin vAdd (gC (.str "prefix ")) (gBin vIx (gVar 0) (gC (.int 0)))) (gaNil))))
  (sSeq (sFor (iEnu (gaCons (gBin vIx (gVar 0) (gC (.int 1))) (gaNil))) (gtTup [gtName 2, gtName 3]) (sDrop (gMeth isLst mAppend (gVar 1) (gaCons (gMeth isStr mJoin (gC (.str " ")) (gaCons (gBin vAdd (gLst (gaCons (gUn vStr (gVar 2)) (gaCons (gBin vIx (gVar 3) (gC (.int 0))) (gaNil)))) (gComp (iSeq (gCut (gVar 3) (some (gC (.int 1))) none)) (gtName 4) (bTrue) (gUn vStr (gVar 4)) [4])) (gaNil))) (gaNil)))))
  (sRet (gMeth isStr mJoin (gC (.str "\n")) (gaCons (gVar 1) (gaNil)))))
def m__law_text : List Vl → M Vl := fnM false (N__law_text).length b__law_text
theorem sc__law_text : FnScope N__law_text ["circuit"] (defScope (top 37)) := ⟨rfl, rfl, rfl, by decide +kernel, rfl, by decide +kernel, by decide +kernel⟩
theorem cl__law_text (B : BT K mg) (T : Tx K mg "_law_text" (top 37) ["circuit"]) : Cl P w K mg base 1 "_law_text" (top 37) ["circuit"] m__law_text :=
  have sc := sc__law_text
  cl_of (b := b__law_text) T sc fun f cdv A outer s H E hr => sv_cons (sv_setE (i := 1) sc.nd (by (first | rfl | with_unfolding_all rfl | decide)) (by (first | exact Or.inl rfl | exact Or.inr rfl)) (v_lst (va_cons (nadd (v_str) (v_ix (nv 0) (v_int))) (va_nil))))
  (sv_cons (sv_for (by exact passes_of rfl) (by rfl) (iv_enum (by rfl) B.b_enumerate (va_cons (v_ix (nv 0) (v_int)) (va_nil))) (tg_tup (by rfl) (tgs_cons (tg_name (i := 2) sc.nd (by (first | rfl | with_unfolding_all rfl | decide)) (by (first | exact Or.inl rfl | exact Or.inr rfl))) (tgs_cons (tg_name (i := 3) sc.nd (by (first | rfl | with_unfolding_all rfl | decide)) (by (first | exact Or.inl rfl | exact Or.inr rfl))) (tgs_nil)))) (sv_one (sv_expr (nappend (nv 1) (va_cons (njoin (v_str) (va_cons (nadd (v_lst (va_cons (nstr B.b_str (nv 2)) (va_cons (v_ix (nv 3) (v_int)) (va_nil)))) (v_comp (own := [("it", 4)]) (ws := [4]) (by rfl) sc.nd (iv_seq (v_cut (nv 3) (vo_some (v_int)) vo_none)) ⟨blk_of (by first | rfl | kernel_rfl), by decide, fun s H C cl fp => tg_name (i := 4) sc.nd (by (first | rfl | with_unfolding_all rfl | decide)) (by (first | exact Or.inl rfl | exact Or.inr rfl)), fun s H C cl fp => ptsv_nil, fun s H C cl fp => nstr B.b_str (nv 4)⟩)) (va_nil))) (va_nil))))))
  (sv_one (sv_ret (njoin (v_str) (va_cons (nv 1) (va_nil))))))
def N__law_number : List Str := ["text", "found", "sign"]
def b__law_number : SG := sSeq (sIf (bOr (bOf (gBin vEq (gVar 0) (gC (.str "")))) (bOr (bOf (gBin vGt (gUn vLen (gVar 0)) (gC (.int 6)))) (bOf (gBin vNe (gComp (iSeq (gVar 0)) (gtName 2) (bOf (gBin (vInB true) (gVar 2) (gC (.str "0123456789")))) (gC (.int 1)) [2]) (gLst (gaNil)))))) (sRet (gC .none)) (sSkip))
  (sSeq (sSet 1 (gC (.int 0)))
  (sSeq (sFor (iSeq (gVar 0)) (gtName 2) (sSet 1 (gBin vAdd (gBin vMul (gVar 1) (gC (.int 10))) (gMeth isStr mSIndex (gC (.str "0123456789")) (gaCons (gVar 2) (gaNil))))))
  (sRet (gIf (bOf (gBin vEq (gUn vStr (gVar 1)) (gVar 0))) (gVar 1) (gC .none)))))
def m__law_number : List Vl → M Vl := fnM false (N__law_number).length b__law_number
theorem sc__law_number : FnScope N__law_number ["text"] (defScope (top 38)) := ⟨rfl, rfl, rfl, by decide +kernel, rfl, by decide +kernel, by decide +kernel⟩
theorem cl__law_number (B : BT K mg) (T : Tx K mg "_law_number" (top 38) ["text"]) : Cl P w K mg base 1 "_law_number" (top 38) ["text"] m__law_number :=
  have sc := sc__law_number
  cl_of (b := b__law_number) T sc fun f cdv A outer s H E hr => sv_cons (sv_if ((w_or (xeq hr (nv 0) (v_str)) (w_or (xgt (nlen B.b_len (nv 0)) (v_int)) (w_or1 (xne hr (v_comp (own := [("sign", 2)]) (ws := [2]) (by rfl) sc.nd (iv_seq (nv 0)) ⟨blk_of (by first | rfl | kernel_rfl), by decide, fun s H C cl fp => tg_name (i := 2) sc.nd (by (first | rfl | with_unfolding_all rfl | decide)) (by (first | exact Or.inl rfl | exact Or.inr rfl)), fun s H C cl fp => ptsv_one (xnin hr (nv 2) (v_str)), fun s H C cl fp => v_int⟩) (v_lst (va_nil)))))).t) (sv_one (sv_ret (v_non))) (sv_nil))
  (sv_cons (sv_set (i := 1) sc.nd (by (first | rfl | with_unfolding_all rfl | decide)) (by (first | exact Or.inl rfl | exact Or.inr rfl)) (v_int))
  (sv_cons (sv_for (by exact passes_of rfl) (by rfl) (iv_seq (nv 0)) (tg_name (i := 2) sc.nd (by (first | rfl | with_unfolding_all rfl | decide)) (by (first | exact Or.inl rfl | exact Or.inr rfl))) (sv_one (sv_set (i := 1) sc.nd (by (first | rfl | with_unfolding_all rfl | decide)) (by (first | exact Or.inl rfl | exact Or.inr rfl)) (nadd (nmul (nv 1) (v_int)) (nsindex (v_str) (va_cons (nv 2) (va_nil)))))))
  (sv_one (sv_ret (v_ifExp (xeq hr (nstr B.b_str (nv 1)) (nv 0)) (nv 1) (v_non))))))
def N__law_read : List Str := ["text", "lines", "gates", "prefix", "at", "line", "items", "gate", "letter", "it"]
def b__law_read : SG := sSeq (sPar [1, 2] (gaCons (gMeth isStr mSplit (gVar 0) (gaCons (gC (.str "\n")) (gaNil))) (gaConsE (gLst (gaNil)) (gaNil))))
  (sSeq (sSet 3 (gCut (gBin vIx (gVar 1) (gC (.int 0))) (some (gC (.int 7))) none))
  (sSeq (sIf (bOr (bOf (gBin vNe (gCut (gBin vIx (gVar 1) (gC (.int 0))) none (some (gC (.int 7)))) (gC (.str "prefix ")))) (bOf (gBin vNe (gComp (iSeq (gVar 3)) (gtName 8) (bOf (gBin (vInB true) (gVar 8) (gC (.str "ea")))) (gC (.int 1)) [8]) (gLst (gaNil))))) (sRet (gC (.int 1))) (sSkip))
  (sSeq (sFor (iEnu (gaCons (gCut (gVar 1) (some (gC (.int 1))) none) (gaNil))) (gtTup [gtName 4, gtName 5]) (sSeq (sSet 6 (gMeth isStr mSplit (gVar 5) (gaCons (gC (.str " ")) (gaNil))))
  (sSeq (sIf (bOr (bOf (gBin vLt (gUn vLen (gVar 6)) (gC (.int 2)))) (bOf (gBin vNe (gBin vIx (gVar 6) (gC (.int 0))) (gUn vStr (gVar 4))))) (sRet (gBin vAdd (gVar 4) (gC (.int 2)))) (sSkip))
  (sSeq (sSet 7 (gBin vAdd (gTup (gaCons (gBin vIx (gVar 6) (gC (.int 1))) (gaNil))) (gUn vTuple (gComp (iSeq (gCut (gVar 6) (some (gC (.int 2))) none)) (gtName 9) (bTrue) (gCall m__law_number (gaCons (gVar 9) (gaNil))) [9]))))
  (sSeq (sIf (bNot (bOf (gCall m__law_is_gate (gaCons (gUn vLen (gVar 3)) (gaCons (gVar 4) (gaCons (gVar 7) (gaNil))))))) (sRet (gBin vAdd (gVar 4) (gC (.int 2)))) (sSkip))
  (sDrop (gMeth isLst mAppend (gVar 2) (gaCons (gVar 7) (gaNil)))))))))
  (sRet (gIf (bOf (gBin vNe (gVar 2) (gLst (gaNil)))) (gTup (gaCons (gVar 3) (gaCons (gUn vTuple (gVar 2)) (gaNil)))) (gC (.int 2)))))))
def m__law_read : List Vl → M Vl := fnM false (N__law_read).length b__law_read
theorem sc__law_read : FnScope N__law_read ["text"] (defScope (top 39)) := ⟨rfl, rfl, rfl, by decide +kernel, rfl, by decide +kernel, by decide +kernel⟩
theorem cl__law_read (B : BT K mg) (c__law_number : Cl P w K mg base 1 "_law_number" (top 38) ["text"] m__law_number) (c__law_is_gate : Cl P w K mg base 2 "_law_is_gate" (top 32) ["m", "g", "thing"] m__law_is_gate) (T : Tx K mg "_law_read" (top 39) ["text"]) : Cl P w K mg base 3 "_law_read" (top 39) ["text"] m__law_read :=
  have sc := sc__law_read
  cl_of (b := b__law_read) T sc fun f cdv A outer s H E hr => sv_cons (sv_par (i := 1) (j := 2) (by rfl) sc.nd (by (first | rfl | with_unfolding_all rfl | decide)) (by (first | rfl | with_unfolding_all rfl | decide)) (by decide) (by (first | rfl | with_unfolding_all rfl | decide)) (by (first | rfl | with_unfolding_all rfl | decide)) (va_cons (nsplit (nv 0) (va_cons (v_str) (va_nil))) (va_consE (v_lst (va_nil)) (va_nil))) (by (first | rfl | with_unfolding_all rfl | decide)))
  (sv_cons (sv_set (i := 3) sc.nd (by (first | rfl | with_unfolding_all rfl | decide)) (by (first | exact Or.inl rfl | exact Or.inr rfl)) (v_cut (v_ix (nv 1) (v_int)) (vo_some (v_int)) vo_none))
  (sv_cons (sv_if ((w_or (xne hr (v_cut (v_ix (nv 1) (v_int)) vo_none (vo_some (v_int))) (v_str)) (w_or1 (xne hr (v_comp (own := [("letter", 8)]) (ws := [8]) (by rfl) sc.nd (iv_seq (nv 3)) ⟨blk_of (by first | rfl | kernel_rfl), by decide, fun s H C cl fp => tg_name (i := 8) sc.nd (by (first | rfl | with_unfolding_all rfl | decide)) (by (first | exact Or.inl rfl | exact Or.inr rfl)), fun s H C cl fp => ptsv_one (xnin hr (nv 8) (v_str)), fun s H C cl fp => v_int⟩) (v_lst (va_nil))))).t) (sv_one (sv_ret (v_int))) (sv_nil))
  (sv_cons (sv_for (by exact passes_of rfl) (by rfl) (iv_enum (by rfl) B.b_enumerate (va_cons (v_cut (nv 1) (vo_some (v_int)) vo_none) (va_nil))) (tg_tup (by rfl) (tgs_cons (tg_name (i := 4) sc.nd (by (first | rfl | with_unfolding_all rfl | decide)) (by (first | exact Or.inl rfl | exact Or.inr rfl))) (tgs_cons (tg_name (i := 5) sc.nd (by (first | rfl | with_unfolding_all rfl | decide)) (by (first | exact Or.inl rfl | exact Or.inr rfl))) (tgs_nil)))) (sv_cons (sv_set (i := 6) sc.nd (by (first | rfl | with_unfolding_all rfl | decide)) (by (first | exact Or.inl rfl | exact Or.inr rfl)) (nsplit (nv 5) (va_cons (v_str) (va_nil))))
  (sv_cons (sv_if ((w_or (xlt (nlen B.b_len (nv 6)) (v_int)) (w_or1 (xne hr (v_ix (nv 6) (v_int)) (nstr B.b_str (nv 4))))).t) (sv_one (sv_ret (nadd (nv 4) (v_int)))) (sv_nil))
  (sv_cons (sv_set (i := 7) sc.nd (by (first | rfl | with_unfolding_all rfl | decide)) (by (first | exact Or.inl rfl | exact Or.inr rfl)) (nadd (v_tup (va_cons (v_ix (nv 6) (v_int)) (va_nil))) (ntuple B.b_tuple (v_comp (own := [("it", 9)]) (ws := [9]) (by rfl) sc.nd (iv_seq (v_cut (nv 6) (vo_some (v_int)) vo_none)) ⟨blk_of (by first | rfl | kernel_rfl), by decide, fun s H C cl fp => tg_name (i := 9) sc.nd (by (first | rfl | with_unfolding_all rfl | decide)) (by (first | exact Or.inl rfl | exact Or.inr rfl)), fun s H C cl fp => ptsv_nil, fun s H C cl fp => v_call c__law_number (by decide) hr (by rfl) (by exact takes0) (.cons GaLen.nil) (va_cons (nv 9) (va_nil))⟩))))
  (sv_cons (sv_if (t_not (t_val (v_call c__law_is_gate (by decide) hr (by rfl) (by exact takes_of rfl rfl rfl rfl) (.cons (.cons (.cons GaLen.nil))) (va_cons (nlen B.b_len (nv 3)) (va_cons (nv 4) (va_cons (nv 7) (va_nil))))))) (sv_one (sv_ret (nadd (nv 4) (v_int)))) (sv_nil))
  (sv_one (sv_expr (nappend (nv 2) (va_cons (nv 7) (va_nil))))))))))
  (sv_one (sv_ret (v_ifExp (xne hr (nv 2) (v_lst (va_nil))) (v_tup (va_cons (nv 3) (va_cons (ntuple B.b_tuple (nv 2)) (va_nil)))) (v_int)))))))
def N__law_near_text : List Str := ["deck", "text", "lines", "at", "spot", "line", "cut", "some", "it"]
def b__law_near_text : SG := sSeq (sSet 2 (gMeth isStr mSplit (gVar 1) (gaCons (gC (.str "\n")) (gaNil))))
  (sSeq (sPar [3, 4] (gaCons (gCall m__law_draw (gaCons (gVar 0) (gaCons (gUn vLen (gVar 2)) (gaNil)))) (gaCons (gCall m__law_draw (gaCons (gVar 0) (gaCons (gBin vAdd (gUn vLen (gVar 1)) (gC (.int 1))) (gaNil)))) (gaNil))))
  (sSeq (sSet 5 (gBin vIx (gVar 2) (gVar 3)))
  (sSeq (sSet 6 (gCall m__law_draw (gaCons (gVar 0) (gaCons (gBin vAdd (gUn vLen (gVar 5)) (gC (.int 1))) (gaNil)))))
  (sSeq (sSetE 7 (gLst (gaCons (gBin vAdd (gBin vAdd (gCut (gVar 1) none (some (gVar 4))) (gCall m__law_pick (gaCons (gVar 0) (gaCons (gLst (gaCons (gC (.str " ")) (gaCons (gC (.str "\n")) (gaCons (gC (.str "0")) (gaCons (gC (.str "1")) (gaCons (gC (.str "v")) (gaCons (gC (.str "e")) (gaCons (gC (.str "a")) (gaCons (gC (.str "-")) (gaCons (gC (.str "+")) (gaCons (gC (.str "_")) (gaCons (gC (.str ".")) (gaCons (gC (.str "E")) (gaCons (gC (.str "yes")) (gaNil))))))))))))))) (gaNil))))) (gCut (gVar 1) (some (gVar 4)) none)) (gaCons (gBin vAdd (gCut (gVar 1) none (some (gVar 4))) (gCut (gVar 1) (some (gBin vAdd (gVar 4) (gC (.int 1)))) none)) (gaCons (gCut (gVar 1) none (some (gVar 4))) (gaNil))))))
  (sSeq (sFor (iSeq (gTup (gaCons (gLst (gaNil)) (gaCons (gLst (gaCons (gVar 5) (gaCons (gVar 5) (gaNil)))) (gaCons (gLst (gaCons (gBin vAdd (gVar 5) (gC (.str " "))) (gaNil))) (gaCons (gLst (gaCons (gBin vAdd (gC (.str " ")) (gVar 5)) (gaNil))) (gaCons (gLst (gaCons (gBin vAdd (gVar 5) (gC (.str " 0"))) (gaNil))) (gaCons (gLst (gaCons (gBin vAdd (gBin vAdd (gCut (gVar 5) none (some (gVar 6))) (gC (.str " "))) (gCut (gVar 5) (some (gVar 6)) none)) (gaNil))) (gaCons (gLst (gaCons (gMeth isStr mUpper (gVar 5) gaNil) (gaNil))) (gaCons (gLst (gaCons (gC (.str "")) (gaNil))) (gaCons (gLst (gaCons (gBin vAdd (gCut (gVar 5) none (some (gUn vNeg (gC (.int 1))))) (gC (.str "0"))) (gaNil))) (gaCons (gLst (gaCons (gBin vAdd (gCut (gVar 5) none (some (gUn vNeg (gC (.int 1))))) (gC (.str "99"))) (gaNil))) (gaCons (gLst (gaCons (gUn (vRepl " " "  ") (gVar 5)) (gaNil))) (gaCons (gLst (gaCons (gUn (vRepl " " " 0") (gVar 5)) (gaNil))) (gaCons (gLst (gaCons (gUn (vRepl " " " -") (gVar 5)) (gaNil))) (gaCons (gLst (gaCons (gUn (vRepl " " " +") (gVar 5)) (gaNil))) (gaCons (gLst (gaCons (gBin vAdd (gUn vStr (gVar 3)) (gC (.str " yes"))) (gaNil))) (gaCons (gLst (gaCons (gUn (vRepl "and" "or") (gVar 5)) (gaNil))) (gaNil))))))))))))))))))) (gtName 8) (sDrop (gMeth isLst mAppend (gVar 7) (gaCons (gMeth isStr mJoin (gC (.str "\n")) (gaCons (gBin vAdd (gBin vAdd (gCut (gVar 2) none (some (gVar 3))) (gVar 8)) (gCut (gVar 2) (some (gBin vAdd (gVar 3) (gC (.int 1)))) none)) (gaNil))) (gaNil)))))
  (sSeq (sDrop (gMeth isLst mAppend (gVar 7) (gaCons (gMeth isStr mJoin (gC (.str "\n")) (gaCons (gUn vRev2 (gVar 2)) (gaNil))) (gaNil))))
  (sSeq (sSet 7 (gBin vAdd (gVar 7) (gLst (gaCons (gC (.str "")) (gaCons (gC (.str "prefix ")) (gaCons (gC (.str "prefix")) (gaCons (gC (.str "prefix e")) (gaCons (gBin vAdd (gVar 1) (gC (.str "\n"))) (gaCons (gBin vAdd (gC (.str "\n")) (gVar 1)) (gaCons (gC (.str "prefix  \n0 yes")) (gaCons (gC (.str "prefix e\n0 v 1")) (gaCons (gC (.str "prefix e\n0 v 0\n1 not 1")) (gaCons (gC (.str "prefix \n1 yes")) (gaNil))))))))))))))
  (sRet (gCall m__law_pick (gaCons (gVar 0) (gaCons (gVar 7) (gaNil))))))))))))
def m__law_near_text : List Vl → M Vl := fnM false (N__law_near_text).length b__law_near_text
theorem sc__law_near_text : FnScope N__law_near_text ["deck", "text"] (defScope (top 40)) := ⟨rfl, rfl, rfl, by decide +kernel, rfl, by decide +kernel, by decide +kernel⟩
theorem cl__law_near_text (B : BT K mg) (c__law_draw : Cl P w K mg base 1 "_law_draw" (top 26) ["deck", "many"] m__law_draw) (c__law_pick : Cl P w K mg base 2 "_law_pick" (top 27) ["deck", "some"] m__law_pick) (T : Tx K mg "_law_near_text" (top 40) ["deck", "text"]) : Cl P w K mg base 3 "_law_near_text" (top 40) ["deck", "text"] m__law_near_text :=
  have sc := sc__law_near_text
  cl_of (b := b__law_near_text) T sc fun f cdv A outer s H E hr => sv_cons (sv_set (i := 2) sc.nd (by (first | rfl | with_unfolding_all rfl | decide)) (by (first | exact Or.inl rfl | exact Or.inr rfl)) (nsplit (nv 1) (va_cons (v_str) (va_nil))))
  (sv_cons (sv_par (i := 3) (j := 4) (by rfl) sc.nd (by (first | rfl | with_unfolding_all rfl | decide)) (by (first | rfl | with_unfolding_all rfl | decide)) (by decide) (by (first | rfl | with_unfolding_all rfl | decide)) (by (first | rfl | with_unfolding_all rfl | decide)) (va_cons (v_call c__law_draw (by decide) hr (by rfl) (by exact takes_of rfl rfl rfl rfl) (.cons (.cons GaLen.nil)) (va_cons (nv 0) (va_cons (nlen B.b_len (nv 2)) (va_nil)))) (va_cons (v_call c__law_draw (by decide) hr (by rfl) (by exact takes_of rfl rfl rfl rfl) (.cons (.cons GaLen.nil)) (va_cons (nv 0) (va_cons (nadd (nlen B.b_len (nv 1)) (v_int)) (va_nil)))) (va_nil))) (by (first | rfl | with_unfolding_all rfl | decide)))
  (sv_cons (sv_set (i := 5) sc.nd (by (first | rfl | with_unfolding_all rfl | decide)) (by (first | exact Or.inl rfl | exact Or.inr rfl)) (v_ix (nv 2) (nv 3)))
  (sv_cons (sv_set (i := 6) sc.nd (by (first | rfl | with_unfolding_all rfl | decide)) (by (first | exact Or.inl rfl | exact Or.inr rfl)) (v_call c__law_draw (by decide) hr (by rfl) (by exact takes_of rfl rfl rfl rfl) (.cons (.cons GaLen.nil)) (va_cons (nv 0) (va_cons (nadd (nlen B.b_len (nv 5)) (v_int)) (va_nil)))))
  (sv_cons (sv_setE (i := 7) sc.nd (by (first | rfl | with_unfolding_all rfl | decide)) (by (first | exact Or.inl rfl | exact Or.inr rfl)) (v_lst (va_cons (nadd (nadd (v_cut (nv 1) vo_none (vo_some (nv 4))) (v_call c__law_pick (by decide) hr (by rfl) (by exact takes_of rfl rfl rfl rfl) (.cons (.cons GaLen.nil)) (va_cons (nv 0) (va_cons (v_lst (va_cons (v_str) (va_cons (v_str) (va_cons (v_str) (va_cons (v_str) (va_cons (v_str) (va_cons (v_str) (va_cons (v_str) (va_cons (v_str) (va_cons (v_str) (va_cons (v_str) (va_cons (v_str) (va_cons (v_str) (va_cons (v_str) (va_nil))))))))))))))) (va_nil))))) (v_cut (nv 1) (vo_some (nv 4)) vo_none)) (va_cons (nadd (v_cut (nv 1) vo_none (vo_some (nv 4))) (v_cut (nv 1) (vo_some (nadd (nv 4) (v_int))) vo_none)) (va_cons (v_cut (nv 1) vo_none (vo_some (nv 4))) (va_nil))))))
  (sv_cons (sv_for (by exact passes_of rfl) (by rfl) (iv_seq (v_tup (va_cons (v_lst (va_nil)) (va_cons (v_lst (va_cons (nv 5) (va_cons (nv 5) (va_nil)))) (va_cons (v_lst (va_cons (nadd (nv 5) (v_str)) (va_nil))) (va_cons (v_lst (va_cons (nadd (v_str) (nv 5)) (va_nil))) (va_cons (v_lst (va_cons (nadd (nv 5) (v_str)) (va_nil))) (va_cons (v_lst (va_cons (nadd (nadd (v_cut (nv 5) vo_none (vo_some (nv 6))) (v_str)) (v_cut (nv 5) (vo_some (nv 6)) vo_none)) (va_nil))) (va_cons (v_lst (va_cons (nupper (nv 5)) (va_nil))) (va_consU v1_lstStr (vat_cons (vet_of (v_lst (va_cons (nadd (v_cut (nv 5) vo_none (vo_some (nneg (v_int)))) (v_str)) (va_nil)))) (vat_cons (vet_of (v_lst (va_cons (nadd (v_cut (nv 5) vo_none (vo_some (nneg (v_int)))) (v_str)) (va_nil)))) (vat_cons (vet_lst (vat_cons (vet_repl (nv 5)) (vat_nil))) (vat_cons (vet_lst (vat_cons (vet_repl (nv 5)) (vat_nil))) (vat_cons (vet_lst (vat_cons (vet_repl (nv 5)) (vat_nil))) (vat_cons (vet_lst (vat_cons (vet_repl (nv 5)) (vat_nil))) (vat_cons (vet_of (v_lst (va_cons (nadd (nstr B.b_str (nv 3)) (v_str)) (va_nil)))) (vat_cons (vet_lst (vat_cons (vet_repl (nv 5)) (vat_nil))) (vat_nil))))))))))))))))))) (tg_name (i := 8) sc.nd (by (first | rfl | with_unfolding_all rfl | decide)) (by (first | exact Or.inl rfl | exact Or.inr rfl))) (sv_one (sv_expr (nappend (nv 7) (va_cons (njoin (v_str) (va_cons (nadd (nadd (v_cut (nv 2) vo_none (vo_some (nv 3))) (nv 8)) (v_cut (nv 2) (vo_some (nadd (nv 3) (v_int))) vo_none)) (va_nil))) (va_nil))))))
  (sv_cons (sv_expr (nappend (nv 7) (va_cons (njoin (v_str) (va_cons (v_rev2 (nv 2)) (va_nil))) (va_nil))))
  (sv_cons (sv_set (i := 7) sc.nd (by (first | rfl | with_unfolding_all rfl | decide)) (by (first | exact Or.inl rfl | exact Or.inr rfl)) (nadd (nv 7) (v_lst (va_cons (v_str) (va_cons (v_str) (va_cons (v_str) (va_cons (v_str) (va_cons (nadd (nv 1) (v_str)) (va_cons (nadd (v_str) (nv 1)) (va_cons (v_str) (va_cons (v_str) (va_cons (v_str) (va_cons (v_str) (va_nil))))))))))))))
  (sv_one (sv_ret (v_call c__law_pick (by decide) hr (by rfl) (by exact takes_of rfl rfl rfl rfl) (.cons (.cons GaLen.nil)) (va_cons (nv 0) (va_cons (nv 7) (va_nil)))))))))))))
def N__law_told : List Str := ["text", "is_named", "e"]
def b__law_told : SG := sTry 2 (sRet (gIf (bOf (gVar 1)) (gCallK 1 o0 m_read_circuit gaNil (gaCons (gVar 0) (gaNil))) (gCall m_read_circuit (gaCons (gVar 0) (gaNil))))) [⟨"BadText", "at", [], fun x => sRet (gLst (gaCons (gC (.str "line")) (gaCons (gC x) (gaCons (gC (.bool true)) (gaNil)))))⟩]
def m__law_told : List Vl → M Vl := fnM false (N__law_told).length b__law_told
theorem sc__law_told : FnScope N__law_told ["text", "is_named"] (defScope (top 41)) := ⟨rfl, rfl, rfl, by decide +kernel, rfl, by decide +kernel, by decide +kernel⟩
theorem cl__law_told (B : BT K mg) (c_read_circuit : Cl P w K mg base 5 "read_circuit" (top 23) ["text"] m_read_circuit) (T : Tx K mg "_law_told" (top 41) ["text", "is_named"]) : Cl P w K mg base 6 "_law_told" (top 41) ["text", "is_named"] m__law_told :=
  have sc := sc__law_told
  cl_of (b := b__law_told) T sc fun f cdv A outer s H E hr => by
    obtain ⟨qi0, C0, f0, P0, T0, te0, ec0, gp0, kx0⟩ := B.y_BadText
    exact sv_one (sv_try (n := "e") (i := 2) (by rfl) (by rfl) sc.nd (by (first | rfl | with_unfolding_all rfl | decide)) (by (first | rfl | with_unfolding_all rfl | decide)) (by exact takes_of rfl rfl rfl rfl) (fun W pn xe tk hp => sv_one (sv_ret (v_ifExp (t_val (nv 1)) (v_callK0 c_read_circuit (by decide) hr (by rfl) tk ko0 (vk_cons (nv 0) (vk_nil))) (v_call c_read_circuit (by decide) hr (by rfl) tk (.cons GaLen.nil) (va_cons (nv 0) (va_nil)))))) (HdsV.cons (h := ⟨"BadText", "at", [], fun x => sRet (gLst (gaCons (gC (.str "line")) (gaCons (gC x) (gaCons (gC (.bool true)) (gaNil)))))⟩) (by rfl) (by decide) T0.gC te0 (fun m hm => nomatch hm) (fun a oe d pn v x hz hf => sv_one (sv_ret (v_lst (va_cons (v_str) (va_cons (v_atF T0 hz hf (by (first | rfl | with_unfolding_all rfl | decide)) (by (first | exact Or.inl rfl | exact Or.inr (Or.inl rfl) | exact Or.inr (Or.inr rfl)))) (va_cons (v_isE ec0 hz hf (by (first | rfl | with_unfolding_all rfl | decide)) (by (first | exact Or.inl rfl | exact Or.inr (Or.inl rfl) | exact Or.inr (Or.inr rfl))) kx0 (by rfl) B.b_isinstance (by rfl) gp0) (va_nil))))))) HdsV.nil))
def N_law : List Str := ["script", "deck", "turn", "m", "circuit", "kept", "text", "go", "near", "due", "odd", "bad"]
def b_law (Pt : Addr) : SG := sSeq (sSet 1 (gCall m__law_deck (gaCons (gVar 0) (gaCons (gC (.int 20130076)) (gaNil)))))
  (sSeq (sFor (iRange1 (gaCons (gC (.int 4)) (gaNil))) (gtName 2) (sSeq (sSet 3 (gCall m__law_pick (gaCons (gVar 1) (gaCons (gLst (gaCons (gC (.int 0)) (gaCons (gC (.int 1)) (gaCons (gC (.int 2)) (gaCons (gC (.int 3)) (gaCons (gC (.int 5)) (gaCons (gC (.int 12)) (gaCons (gC (.int 59)) (gaNil))))))))) (gaNil)))))
  (sSeq (sSet 4 (gCall m__law_drawn_circuit (gaCons (gVar 1) (gaCons (gVar 3) (gaCons (gCall m__law_pick (gaCons (gVar 1) (gaCons (gLst (gaCons (gC (.int 1)) (gaCons (gC (.int 4)) (gaCons (gC (.int 12)) (gaCons (gC (.int 40)) (gaNil)))))) (gaNil)))) (gaNil))))))
  (sSeq (sPar [5, 6] (gaCons (gUn vRepr (gVar 4)) (gaCons (gCall m__law_text (gaCons (gVar 4) (gaNil))) (gaNil))))
  (sSeq (sIf (bNot (bOf (gCall m__law_same (gaCons (gLst (gaCons (gCall m_circuit_text (gaCons (gVar 4) (gaNil))) (gaCons (gCallK 1 o1 m_circuit_text gaNil (gaCons (gVar 4) (gaNil))) (gaCons (gCall m_read_circuit (gaCons (gVar 6) (gaNil))) (gaCons (gCallK 1 o0 m_read_circuit gaNil (gaCons (gVar 6) (gaNil))) (gaNil)))))) (gaCons (gLst (gaCons (gVar 6) (gaCons (gVar 6) (gaCons (gVar 4) (gaCons (gVar 4) (gaNil)))))) (gaNil)))))) (sRet (gC (.bool false))) (sSkip))
  (sSeq (sFor (iRange1 (gaCons (gC (.int 10)) (gaNil))) (gtName 7) (sSeq (sSet 8 (gCall m__law_near_text (gaCons (gVar 1) (gaCons (gVar 6) (gaNil)))))
  (sSeq (sSet 9 (gCall m__law_read (gaCons (gVar 8) (gaNil))))
  (sSeq (sSet 9 (gIf (bOf (gUn (vIsi "int") (gVar 9))) (gLst (gaCons (gC (.str "line")) (gaCons (gVar 9) (gaCons (gC (.bool true)) (gaNil))))) (gVar 9)))
  (sIf (bNot (bOf (gCall m__law_same (gaCons (gCall m__law_told (gaCons (gVar 8) (gaCons (gBin vEq (gBin vModP (gUn vInt (gVar 7)) (gC (.int 2))) (gC (.int 1))) (gaNil)))) (gaCons (gVar 9) (gaNil)))))) (sRet (gC (.bool false))) (sSkip))))))
  (sSeq (sSet 10 (gCall m__law_pick (gaCons (gVar 1) (gaCons (gLst (gaCons (gC .none) (gaCons (gC (.int 0)) (gaCons (gTup (gaCons (gVar 6) (gaNil))) (gaCons (gLst (gaCons (gVar 6) (gaNil))) (gaCons (gC (.bool true)) (gaCons (gVar 4) (gaCons (gTup (gaNil)) (gaNil))))))))) (gaNil)))))
  (sSeq (sIf (bNot (bOf (gCall m__law_same (gaCons (gCall m__law_told (gaCons (gVar 10) (gaCons (gC (.bool false)) (gaNil)))) (gaCons (gLst (gaCons (gC (.str "line")) (gaCons (gC (.int 0)) (gaCons (gC (.bool true)) (gaNil))))) (gaNil)))))) (sRet (gC (.bool false))) (sSkip))
  (sSeq (sSet 11 (gCall m__law_no_circuit (gaCons (gVar 1) (gaCons (gVar 4) (gaNil)))))
  (sIf (bOr (bOf (gBin vNe (gLam Pt "law.<locals>.<lambda>" 2 b__law_heard (gCall m_circuit_text (gaCons (gVar 11) (gaNil)))) (gTup (gaCons (gC (.str "circuit")) (gaCons (gUn vRepr (gVar 11)) (gaCons (gC (.bool true)) (gaNil))))))) (bOf (gBin vNe (gUn vRepr (gVar 4)) (gVar 5)))) (sRet (gC (.bool false))) (sSkip)))))))))))
  (sRet (gC (.bool true))))
theorem sc_law : FnScope N_law ["script"] (defScope (top 42)) := ⟨rfl, rfl, rfl, by decide +kernel, rfl, by decide +kernel, by decide +kernel⟩
theorem ok_law (B : BT K mg) (c__law_deck : Cl P w K mg base 1 "_law_deck" (top 25) ["script", "mixed"] m__law_deck) (c__law_pick : Cl P w K mg base 2 "_law_pick" (top 27) ["deck", "some"] m__law_pick) (c__law_drawn_circuit : Cl P w K mg base 3 "_law_drawn_circuit" (top 29) ["deck", "m", "many"] m__law_drawn_circuit) (c__law_text : Cl P w K mg base 1 "_law_text" (top 37) ["circuit"] m__law_text) (c_read_circuit : Cl P w K mg base 5 "read_circuit" (top 23) ["text"] m_read_circuit) (c_circuit_text : Cl P w K mg base 6 "circuit_text" (top 21) ["circuit"] m_circuit_text) (c__law_same : Cl P w K mg base 1 "_law_same" (top 28) ["told", "due"] m__law_same) (c__law_near_text : Cl P w K mg base 3 "_law_near_text" (top 40) ["deck", "text"] m__law_near_text) (c__law_read : Cl P w K mg base 3 "_law_read" (top 39) ["text"] m__law_read) (c__law_told : Cl P w K mg base 6 "_law_told" (top 41) ["text", "is_named"] m__law_told) (c__law_no_circuit : Cl P w K mg base 11 "_law_no_circuit" (top 35) ["deck", "circuit"] m__law_no_circuit) (T__law_heard : Tx K mg "_law_heard" (top 36) ["call"]) {fa c Pt : Addr} {s : Shared} {H : Hp} {E : XK} (TB : LamX.TabB base mg c Pt) (hr : Room 14 (callerA.deeper (envOfC "law" (defScope (top 42)) s.heap.objs.size fa (.ref c)))) : PSsv (cxv P w K mg base N_law "law" (defScope (top 42)) fa (.ref c) callerA [] s H E) (.fn E) (defBody (top 42)) (b_law Pt) := by
  have sc := sc_law
  have hG : callerA.guards = some [] := rfl
  obtain ⟨_, _, ⟨⟨_, _, _, _, _, _, _, _, _, rfl, lk__law_heard, hc__law_heard⟩, hk__law_heard⟩, hm__law_heard, hb__law_heard⟩ := T__law_heard.ex
  exact sv_cons (sv_set (i := 1) sc.nd (by (first | rfl | with_unfolding_all rfl | decide)) (by (first | exact Or.inl rfl | exact Or.inr rfl)) (v_call c__law_deck (by decide) hr (by rfl) (by exact takes_of rfl rfl rfl rfl) (.cons (.cons GaLen.nil)) (va_cons (nv 0) (va_cons (v_int) (va_nil)))))
    (sv_cons (sv_for (by exact passes_of rfl) (by rfl) (iv_range1 (by rfl) B.b_range (va_cons (v_int) (va_nil))) (tg_name (i := 2) sc.nd (by (first | rfl | with_unfolding_all rfl | decide)) (by (first | exact Or.inl rfl | exact Or.inr rfl))) (sv_cons (sv_set (i := 3) sc.nd (by (first | rfl | with_unfolding_all rfl | decide)) (by (first | exact Or.inl rfl | exact Or.inr rfl)) (v_call c__law_pick (by decide) hr (by rfl) (by exact takes_of rfl rfl rfl rfl) (.cons (.cons GaLen.nil)) (va_cons (nv 1) (va_cons (v_lst (va_cons (v_int) (va_cons (v_int) (va_cons (v_int) (va_cons (v_int) (va_cons (v_int) (va_cons (v_int) (va_cons (v_int) (va_nil))))))))) (va_nil)))))
    (sv_cons (sv_set (i := 4) sc.nd (by (first | rfl | with_unfolding_all rfl | decide)) (by (first | exact Or.inl rfl | exact Or.inr rfl)) (v_call c__law_drawn_circuit (by decide) hr (by rfl) (by exact takes_of rfl rfl rfl rfl) (.cons (.cons (.cons GaLen.nil))) (va_cons (nv 1) (va_cons (nv 3) (va_cons (v_call c__law_pick (by decide) hr (by rfl) (by exact takes_of rfl rfl rfl rfl) (.cons (.cons GaLen.nil)) (va_cons (nv 1) (va_cons (v_lst (va_cons (v_int) (va_cons (v_int) (va_cons (v_int) (va_cons (v_int) (va_nil)))))) (va_nil)))) (va_nil))))))
    (sv_cons (sv_par (i := 5) (j := 6) (by rfl) sc.nd (by (first | rfl | with_unfolding_all rfl | decide)) (by (first | rfl | with_unfolding_all rfl | decide)) (by decide) (by (first | rfl | with_unfolding_all rfl | decide)) (by (first | rfl | with_unfolding_all rfl | decide)) (va_cons (v_repr hG hr.units (by rfl) B.b_repr (nv 4)) (va_cons (v_call c__law_text (by decide) hr (by rfl) (by exact takes_of rfl rfl rfl rfl) (.cons GaLen.nil) (va_cons (nv 4) (va_nil))) (va_nil))) (by (first | rfl | with_unfolding_all rfl | decide)))
    (sv_cons (sv_if (t_not (t_val (v_call c__law_same (by decide) hr (by rfl) (by exact takes_of rfl rfl rfl rfl) (.cons (.cons GaLen.nil)) (va_cons (v_lst (va_cons (v_call c_circuit_text (by decide) hr (by rfl) (by exact takes_of rfl rfl rfl rfl) (.cons GaLen.nil) (va_cons (nv 4) (va_nil))) (va_cons (v_callK0 c_circuit_text (by decide) hr (by rfl) (by exact takes_of rfl rfl rfl rfl) ko1 (vk_cons (nv 4) (vk_nil))) (va_cons (v_call c_read_circuit (by decide) hr (by rfl) (by exact takes_of rfl rfl rfl rfl) (.cons GaLen.nil) (va_cons (nv 6) (va_nil))) (va_cons (v_callK0 c_read_circuit (by decide) hr (by rfl) (by exact takes_of rfl rfl rfl rfl) ko0 (vk_cons (nv 6) (vk_nil))) (va_nil)))))) (va_cons (v_lst (va_cons (nv 6) (va_cons (nv 6) (va_cons (nv 4) (va_cons (nv 4) (va_nil)))))) (va_nil)))))) (sv_one (sv_ret (v_bl))) (sv_nil))
    (sv_cons (sv_for (by exact passes_of rfl) (by rfl) (iv_range1 (by rfl) B.b_range (va_cons (v_int) (va_nil))) (tg_name (i := 7) sc.nd (by (first | rfl | with_unfolding_all rfl | decide)) (by (first | exact Or.inl rfl | exact Or.inr rfl))) (sv_cons (sv_set (i := 8) sc.nd (by (first | rfl | with_unfolding_all rfl | decide)) (by (first | exact Or.inl rfl | exact Or.inr rfl)) (v_call c__law_near_text (by decide) hr (by rfl) (by exact takes_of rfl rfl rfl rfl) (.cons (.cons GaLen.nil)) (va_cons (nv 1) (va_cons (nv 6) (va_nil)))))
    (sv_cons (sv_set (i := 9) sc.nd (by (first | rfl | with_unfolding_all rfl | decide)) (by (first | exact Or.inl rfl | exact Or.inr rfl)) (v_call c__law_read (by decide) hr (by rfl) (by exact takes_of rfl rfl rfl rfl) (.cons GaLen.nil) (va_cons (nv 8) (va_nil))))
    (sv_cons (sv_set (i := 9) sc.nd (by (first | rfl | with_unfolding_all rfl | decide)) (by (first | exact Or.inl rfl | exact Or.inr rfl)) (v_ifExp (t_val (v_isi (by rfl) B.b_isinstance (by rfl) B.b_int (by first | rfl | decide) (nv 9))) (v_lst (va_cons (v_str) (va_cons (nv 9) (va_cons (v_bl) (va_nil))))) (nv 9)))
    (sv_one (sv_if (t_not (t_val (v_call c__law_same (by decide) hr (by rfl) (by exact takes_of rfl rfl rfl rfl) (.cons (.cons GaLen.nil)) (va_cons (v_call c__law_told (by decide) hr (by rfl) (by exact takes_of rfl rfl rfl rfl) (.cons (.cons GaLen.nil)) (va_cons (nv 8) (va_cons (neq hr (nmod (nint B.b_int (nv 7)) (v_int)) (v_int)) (va_nil)))) (va_cons (nv 9) (va_nil)))))) (sv_one (sv_ret (v_bl))) (sv_nil)))))))
    (sv_cons (sv_set (i := 10) sc.nd (by (first | rfl | with_unfolding_all rfl | decide)) (by (first | exact Or.inl rfl | exact Or.inr rfl)) (v_call c__law_pick (by decide) hr (by rfl) (by exact takes_of rfl rfl rfl rfl) (.cons (.cons GaLen.nil)) (va_cons (nv 1) (va_cons (v_lst (va_cons (v_non) (va_cons (v_int) (va_cons (v_tup (va_cons (nv 6) (va_nil))) (va_cons (v_lst (va_cons (nv 6) (va_nil))) (va_cons (v_bl) (va_cons (nv 4) (va_cons (v_tup (va_nil)) (va_nil))))))))) (va_nil)))))
    (sv_cons (sv_if (t_not (t_val (v_call c__law_same (by decide) hr (by rfl) (by exact takes_of rfl rfl rfl rfl) (.cons (.cons GaLen.nil)) (va_cons (v_call c__law_told (by decide) hr (by rfl) (by exact takes_of rfl rfl rfl rfl) (.cons (.cons GaLen.nil)) (va_cons (nv 10) (va_cons (v_bl) (va_nil)))) (va_cons (v_lst (va_cons (v_str) (va_cons (v_int) (va_cons (v_bl) (va_nil))))) (va_nil)))))) (sv_one (sv_ret (v_bl))) (sv_nil))
    (sv_cons (sv_set (i := 11) sc.nd (by (first | rfl | with_unfolding_all rfl | decide)) (by (first | exact Or.inl rfl | exact Or.inr rfl)) (v_call c__law_no_circuit (by decide) hr (by rfl) (by exact takes_of rfl rfl rfl rfl) (.cons (.cons GaLen.nil)) (va_cons (nv 1) (va_cons (nv 4) (va_nil)))))
    (sv_one (sv_if (PWv.t (w_or (xne hr (v_lam (k := 6) (Ng := N__law_heard) (q := "law.<locals>.<lambda>") (by rfl) hm__law_heard hk__law_heard lk__law_heard hc__law_heard hb__law_heard sc__law_heard rfl rfl (by (first | exact Or.inl rfl | exact Or.inr (Or.inl rfl) | exact Or.inr (Or.inr rfl))) (by (first | rfl | with_unfolding_all rfl | decide)) TB (by rfl) (hr.mono (by decide)) (LamX.lamS_by (by first | rfl | kernel_rfl)) (by rfl) (fun _ _ _ _ _ => by rfl) (fun A outer s H E f c2 hr => v_call c_circuit_text (by decide) hr (by rfl) (by exact takes_of rfl rfl rfl rfl) (.cons GaLen.nil) (va_cons (nv 11) (va_nil))) (fun F0 i0 f c2 s H m hr hcall => ok__law_heard B hG hr hcall)) (v_tup (va_cons (v_str) (va_cons (v_repr hG hr.units (by rfl) B.b_repr (nv 11)) (va_cons (v_bl) (va_nil)))))) (w_or1 (xne hr (v_repr hG hr.units (by rfl) B.b_repr (nv 4)) (nv 5))))) (sv_one (sv_ret (v_bl))) (sv_nil))))))))))))
    (sv_one (sv_ret (v_bl))))
end
end Zv.K76
set_option Elab.async false
set_option linter.all false
set_option maxRecDepth 100000
set_option maxHeartbeats 4000000
/-! M1: outcomes of mirrors; the deck. -/
namespace Zv
open PySem
/-- it ends well, so -/
def Ok {α : Type} (r : Res α) (Q : α → Store → Prop) : Prop := match r with
  | .ok a st => Q a st
  | _ => False
theorem ok_bind {α β : Type} {x : M α} {f : α → M β} {st : Store} {Q : β → Store → Prop} (h : Ok (x st) fun a st' => Ok (f a st') Q) : Ok (M.bind x f st) Q := by
  unfold M.bind
  unfold Ok at h
  split at h
  · rename_i e; rw [e]; exact h
  · exact h.elim
theorem ok_mono {α : Type} {r : Res α} {P Q : α → Store → Prop} (h : Ok r P) (k : ∀ a st, P a st → Q a st) : Ok r Q := by
  unfold Ok at *
  split at h
  · exact k _ _ h
  · exact h.elim
theorem ok_at {α : Type} {r : Res α} {Q : α → Store → Prop} (h : Ok r Q) : ∃ a st, r = .ok a st ∧ Q a st := by
  unfold Ok at h
  split at h
  · exact ⟨_, _, rfl, h⟩
  · exact h.elim
theorem ok_ok {α : Type} {a : α} {st : Store} {Q : α → Store → Prop} : Ok (.ok a st) Q ↔ Q a st := Iff.rfl
theorem bind_ok {α β : Type} {x : M α} {f : α → M β} {st st' : Store} {a : α} (h : x st = .ok a st') : M.bind x f st = f a st' := by unfold M.bind; rw [h]
theorem atE_ok {ρ : Env} {x : M Vl} {st : Store} {Q : Vl → Store → Prop} (h : Ok (x st) Q) : Ok (atE ρ x st) Q := by
  obtain ⟨a, st', e, q⟩ := ok_at h
  unfold atE
  rw [e]
  exact q
def finQ (keep : Bool) (n0 : Nat) (Q : Vl → Store → Prop) : Flow → Store → Prop := fun f st' => match f with
  | .nx _ => Ok (fin keep n0 (.d .none) st') Q
  | .rt x => Ok (fin keep n0 x st') Q
  | _ => False
theorem ok_fn {keep : Bool} {n : Nat} {b : SG} {args : List Vl} {st : Store} {Q : Vl → Store → Prop} (h : Ok (b (args.map some ++ List.replicate (n - args.length) none) st) (finQ keep st.length Q)) : Ok (fnM keep n b args st) Q := by
  obtain ⟨f, st', e, q⟩ := ok_at h
  unfold fnM
  rw [e]
  cases f with
  | nx ρ => exact q
  | rt x => exact q
  | bk ρ => exact q.elim
  | ct ρ => exact q.elim
/-- a loop over what is listed -/
theorem ok_for {t : TGv} {b : SG} {P : List PyData → Env → Store → Prop} {Q : Flow → Store → Prop} (hend : ∀ ρ st, P [] ρ st → Q (.nx ρ) st)
    (hstep : ∀ d ds ρ st, P (d :: ds) ρ st → ∃ ρ1, t (.d d) ρ = some ρ1 ∧ Ok (b ρ1 st) fun f st' => match f with
      | .nx ρ' => P ds ρ' st'
      | .ct ρ' => P ds ρ' st'
      | .bk ρ' => Q (.nx ρ') st'
      | .rt x => Q (.rt x) st') : ∀ ds ρ st, P ds ρ st → Ok (forL t b ds ρ st) Q
  | [], ρ, st, h => hend ρ st h
  | d :: ds, ρ, st, h => by
    obtain ⟨ρ1, e, k⟩ := hstep d ds ρ st h
    unfold forL
    rw [e]
    refine ok_bind (ok_mono k fun f st' q => ?_)
    cases f with
    | nx ρ' => exact ok_for hend hstep ds ρ' st' q
    | ct ρ' => exact ok_for hend hstep ds ρ' st' q
    | bk ρ' => exact q
    | rt x => exact q
end Zv
namespace Zv.K76
open PySem L2 Zv
/-- the deck at n, its list at l: drawn from at most k times -/
def dk (l : Nat) (m c : Int) : Ob := .dic [(.inr "left", .ref l), (.inr "mixed", .d (.int m)), (.inr "draws", .d (.int c))]
structure Dk (st : Store) (n l : Nat) (k : Int) : Prop where
  lt : l < n
  dic : ∃ m c, st[n]? = some (dk l m c) ∧ 0 ≤ m ∧ m < 2147483587 ∧ 0 ≤ c ∧ c ≤ k
  lst : ∃ ns : List Int, st[l]? = some (.lst (ns.map .int)) ∧ ns.length ≤ 63
/-- all else stays -/
def Fr (n l : Nat) (st st' : Store) : Prop := st'.length = st.length ∧ ∀ j, j ≠ n → j ≠ l → st'[j]? = st[j]?
theorem Fr.refl (n l : Nat) (st : Store) : Fr n l st st := ⟨rfl, fun _ _ _ => rfl⟩
theorem Fr.trans {n l : Nat} {a b c : Store} (h : Fr n l a b) (k : Fr n l b c) : Fr n l a c := ⟨k.1.trans h.1, fun j h1 h2 => (k.2 j h1 h2).trans (h.2 j h1 h2)⟩
theorem Fr.set {n l i : Nat} {a b : Store} {o : Ob} (h : Fr n l a b) (hi : i = n ∨ i = l) : Fr n l a (b.set i o) := ⟨by rw [List.length_set]; exact h.1, fun j h1 h2 => by
  have : i ≠ j := fun e => by subst e; rcases hi with e | e <;> simp_all
  rw [List.getElem?_set_ne this]; exact h.2 j h1 h2⟩
theorem Dk.more {st : Store} {n l : Nat} {k j : Int} (h : Dk st n l k) (hj : k ≤ j) : Dk st n l j := by
  obtain ⟨m, c, h1, h2, h3, h4, h5⟩ := h.dic
  exact ⟨h.lt, ⟨m, c, h1, h2, h3, h4, by omega⟩, h.lst⟩
theorem g_left (l : Nat) (m c : Int) : valG [((.inr "left" : Key), Vl.ref l), (.inr "mixed", .d (.int m)), (.inr "draws", .d (.int c))] (.inr "left") = some (.ref l) := by rfl
theorem g_mixed (l : Nat) (m c : Int) : valG [((.inr "left" : Key), Vl.ref l), (.inr "mixed", .d (.int m)), (.inr "draws", .d (.int c))] (.inr "mixed") = some (.d (.int m)) := by rfl
theorem g_draws (l : Nat) (m c : Int) : valG [((.inr "left" : Key), Vl.ref l), (.inr "mixed", .d (.int m)), (.inr "draws", .d (.int c))] (.inr "draws") = some (.d (.int c)) := by rfl
theorem p_draws (l : Nat) (m c : Int) (x : Vl) : putG [((.inr "left" : Key), Vl.ref l), (.inr "mixed", .d (.int m)), (.inr "draws", .d (.int c))] (.inr "draws") x = [(.inr "left", .ref l), (.inr "mixed", .d (.int m)), (.inr "draws", x)] := by rfl
end Zv.K76
set_option Elab.async false
set_option linter.all false
set_option maxRecDepth 100000
set_option maxHeartbeats 1000000
namespace Zv.K76
open PySem L2 Zv
theorem dic_dk {st : Store} {n l : Nat} {m c : Int} (h : st[n]? = some (dk l m c)) : dicAt st (.ref n) = some (n, [(.inr "left", .ref l), (.inr "mixed", .d (.int m)), (.inr "draws", .d (.int c))]) := by
  show (match st[n]? with | some (.dic kvs) => some (n, kvs) | _ => none) = _
  rw [h]; rfl
theorem get_left {st : Store} {n l : Nat} {m c : Int} (h : st[n]? = some (dk l m c)) : vDGet (.ref n) (.d (.str "left")) st = .ok (.ref l) st := by
  unfold vDGet; rw [dic_dk h]; rfl
theorem get_mixed {st : Store} {n l : Nat} {m c : Int} (h : st[n]? = some (dk l m c)) : vDGet (.ref n) (.d (.str "mixed")) st = .ok (.d (.int m)) st := by
  unfold vDGet; rw [dic_dk h]; rfl
theorem get_draws {st : Store} {n l : Nat} {m c : Int} (h : st[n]? = some (dk l m c)) : vDGet (.ref n) (.d (.str "draws")) st = .ok (.d (.int c)) st := by
  unfold vDGet; rw [dic_dk h]; rfl
theorem put_draws {st : Store} {n l : Nat} {m c j : Int} {ρ : Env} {ge : G} (hρ : ρ[0]? = some (some (.ref n))) (h : st[n]? = some (dk l m c)) (he : ge ρ st = .ok (.d (.int j)) st) : sDPut (gVar 0) (gC (.str "draws")) ge ρ st = .ok (.nx ρ) (st.set n (dk l m j)) := by
  unfold sDPut gVar gC M.bind
  rw [he, hρ]
  simp only [M.pure]
  rw [dic_dk h]
  simp only [keyOf, frz, belowB, List.length_cons, List.length_nil, Bool.and_true]
  rw [if_pos (by rw [decide_eq_true_eq, sizeLine_eq]; decide), p_draws]
  rfl
/-- the first half of a draw: one more is counted, the number is begun -/
theorem draw_head {st : Store} {n l : Nat} {m c many : Int} (h : st[n]? = some (dk l m c)) (hn : n < st.length) {Q : Flow → Store → Prop} {rest : SG}
    (q : Ok (rest [some (.ref n), some (.d (.int many)), some (.d (.int (m + 61473 * (c + 1)))), none] (st.set n (dk l m (c + 1)))) Q) :
    Ok (sSeq (sDPut (gVar 0) (gC (.str "draws")) (gBin vAdd (gBin vDGet (gVar 0) (gC (.str "draws"))) (gC (.int 1))))
      (sSeq (sSet 2 (gBin vAdd (gBin vDGet (gVar 0) (gC (.str "mixed"))) (gBin vMul (gC (.int 61473)) (gBin vDGet (gVar 0) (gC (.str "draws")))))) rest) [some (.ref n), some (.d (.int many)), none, none] st) Q := by
  have h2 : (st.set n (dk l m (c + 1)))[n]? = some (dk l m (c + 1)) := List.getElem?_set_self hn
  have e1 : gBin vAdd (gBin vDGet (gVar 0) (gC (.str "draws"))) (gC (.int 1)) [some (.ref n), some (.d (.int many)), none, none] st = .ok (.d (.int (c + 1))) st := by
    simp only [gBin, gVar, gC, M.bind, M.pure, List.getElem?_cons_zero, get_draws h, vAdd]
  unfold sSeq
  refine ok_bind ?_
  rw [put_draws rfl h e1]
  show Ok (M.bind _ _ _) Q
  refine ok_bind ?_
  simp only [sSet, gBin, gVar, gC, M.bind, M.pure, List.getElem?_cons_zero, get_draws h2, get_mixed h2, vMul, vMulI, intOp, cMul]
  exact q
end Zv.K76
namespace Zv.K76
open PySem L2 Zv
/-- what a draw ends with -/
def Drawn (n l : Nat) (k many : Int) (st0 : Store) (f : Flow) (st : Store) : Prop := ∃ r, f = .rt (.d (.int r)) ∧ 0 ≤ r ∧ r < many ∧ Dk st n l k ∧ Fr n l st0 st
theorem draw_tail {st : Store} {n l : Nat} {m c many j : Int} {o : Option Vl} {Q : Flow → Store → Prop} (h : st[n]? = some (dk l m c)) (hm : 0 < many) (hj : -(2 ^ 64) < j ∧ j < 2 ^ 64) (q : ∀ r, 0 ≤ r → r < many → Q (.rt (.d (.int r))) st) :
    Ok ((sSeq (sSet 2 (gBin vModP (gUn vInt (gBin vAdd (gBin vMul (gVar 2) (gC (.int 39373))) (gC (.int 77)))) (gC (.int 2147483647))))
  (sSeq (sSet 2 (gBin vModP (gUn vInt (gBin vAdd (gBin vAdd (gBin vMul (gVar 2) (gVar 2)) (gBin vMul (gC (.int 52713)) (gBin vDGet (gVar 0) (gC (.str "draws"))))) (gC (.int 31)))) (gC (.int 2147483587))))
  (sRet (gBin vModP (gUn vInt (gBin vFdiv (gBin vModP (gUn vInt (gBin vMul (gVar 2) (gC (.int 40692)))) (gC (.int 2147483563))) (gC (.int 64)))) (gVar 1))))) [some (.ref n), some (.d (.int many)), some (.d (.int j)), o] st) Q := by
  have b1 : ∀ x : Int, 0 ≤ x % 2147483647 ∧ x % 2147483647 < 2147483647 := fun x => ⟨Int.emod_nonneg _ (by decide), Int.emod_lt_of_pos _ (by decide)⟩
  have b2 : ∀ x : Int, 0 ≤ x % 2147483587 ∧ x % 2147483587 < 2147483587 := fun x => ⟨Int.emod_nonneg _ (by decide), Int.emod_lt_of_pos _ (by decide)⟩
  have hc1 : cMul j 39373 = true := by unfold cMul; rw [Bool.or_eq_true]; exact .inl (decide_eq_true hj)
  have e1 : sSet 2 (gBin vModP (gUn vInt (gBin vAdd (gBin vMul (gVar 2) (gC (.int 39373))) (gC (.int 77)))) (gC (.int 2147483647))) [some (.ref n), some (.d (.int many)), some (.d (.int j)), o] st =
      .ok (.nx [some (.ref n), some (.d (.int many)), some (.d (.int ((j * 39373 + 77) % 2147483647))), o]) st := by
    simp only [sSet, gBin, gUn, gVar, gC, M.bind, M.pure, List.getElem?_cons_zero, List.getElem?_cons_succ, vMul, vMulI, intOp, hc1, if_true, vAdd, vInt, vModP]
    rfl
  unfold sSeq
  refine ok_bind ?_
  rw [e1]
  show Ok (M.bind _ _ _) Q
  obtain ⟨p1, p2⟩ := b1 (j * 39373 + 77)
  generalize (j * 39373 + 77) % 2147483647 = y at p1 p2
  have hc2 : cMul y y = true := by unfold cMul; rw [Bool.or_eq_true]; exact .inl (decide_eq_true ⟨by omega, by omega⟩)
  have hc3 : cMul 52713 c = true := by unfold cMul; rw [Bool.or_eq_true]; exact .inl (decide_eq_true ⟨by decide, by decide⟩)
  have e2 : sSet 2 (gBin vModP (gUn vInt (gBin vAdd (gBin vAdd (gBin vMul (gVar 2) (gVar 2)) (gBin vMul (gC (.int 52713)) (gBin vDGet (gVar 0) (gC (.str "draws"))))) (gC (.int 31)))) (gC (.int 2147483587))) [some (.ref n), some (.d (.int many)), some (.d (.int y)), o] st =
      .ok (.nx [some (.ref n), some (.d (.int many)), some (.d (.int ((y * y + 52713 * c + 31) % 2147483587))), o]) st := by
    simp only [sSet, gBin, gUn, gVar, gC, M.bind, M.pure, List.getElem?_cons_zero, List.getElem?_cons_succ, vMul, vMulI, intOp, hc2, hc3, if_true, vAdd, vInt, vModP, get_draws h]
    rfl
  refine ok_bind ?_
  rw [e2]
  obtain ⟨p3, p4⟩ := b2 (y * y + 52713 * c + 31)
  generalize (y * y + 52713 * c + 31) % 2147483587 = z at p3 p4
  have hc4 : cMul z 40692 = true := by unfold cMul; rw [Bool.or_eq_true]; exact .inl (decide_eq_true ⟨by omega, by omega⟩)
  have hd : cDivW ((z * 40692) % 2147483563) 64 = true := by unfold cDivW; rfl
  have h6 : decide ((0 : Int) < 2147483563) = true := rfl
  have hmm : decide (0 < many) = true := decide_eq_true hm
  have e3 : sRet (gBin vModP (gUn vInt (gBin vFdiv (gBin vModP (gUn vInt (gBin vMul (gVar 2) (gC (.int 40692)))) (gC (.int 2147483563))) (gC (.int 64)))) (gVar 1)) [some (.ref n), some (.d (.int many)), some (.d (.int z)), o] st =
      .ok (.rt (.d (.int ((z * 40692) % 2147483563 / 64 % many)))) st := by
    simp only [sRet, gBin, gUn, gVar, gC, M.bind, M.pure, List.getElem?_cons_zero, List.getElem?_cons_succ, vMul, vMulI, intOp, hc4, if_true, vInt, vModP, vFdiv, hd, h6, hmm]
  show Ok (sRet _ _ _) Q
  rw [e3]
  exact q _ (Int.emod_nonneg _ (by omega)) (Int.emod_lt_of_pos _ hm)
end Zv.K76
namespace Zv.K76
open PySem L2 Zv
theorem canLay_ints : ∀ ns : List Int, PyData.canLayAll0 (ns.map PyData.int) = true
  | [] => rfl
  | n :: ns => by rw [List.map_cons]; unfold PyData.canLayAll0; rw [canLay_ints ns]; rfl
theorem depth_ints : ∀ ns : List Int, PyData.depthAll (ns.map PyData.int) ≤ 1
  | [] => by decide
  | n :: ns => by
    have := depth_ints ns
    rw [List.map_cons]
    simp only [PyData.depthAll, PyData.depth]
    omega
theorem ne_empty {st : Store} {l : Nat} {ns : List Int} (h : st[l]? = some (.lst (ns.map .int))) : vNe (.ref l) (.own []) st = .ok (.d (.bool (!ns.isEmpty))) st := by
  have e1 : datOf (.ref l) st = some (.list (ns.map .int)) := by show (lstAt st l).map PyData.list = _; rw [lstAt_of h]; rfl
  have e2 : eqOk (.list (ns.map .int)) (.list []) = true := by
    show (SeqAt.shaped _ && SeqAt.shaped _) = true
    have h1 : SeqAt.shaped (.list (ns.map PyData.int)) = true := by
      unfold SeqAt.shaped
      rw [Bool.and_eq_true]
      refine ⟨canLay_ints ns, decide_eq_true ?_⟩
      have := depth_ints ns
      simp only [PyData.depth]
      omega
    rw [h1]; rfl
  have e3 : PyData.eqv (.list (ns.map .int)) (.list []) = ns.isEmpty := by cases ns <;> rfl
  unfold vNe vEqB
  rw [e1]
  show (if eqOk (.list (ns.map .int)) (.list []) = true then _ else _) = _
  rw [if_pos e2, e3]
  rfl
end Zv.K76
set_option Elab.async false
set_option linter.all false
set_option maxRecDepth 100000
set_option maxHeartbeats 1000000
namespace Zv.K76
open PySem L2 Zv
theorem gleft {st : Store} {n l : Nat} {m c : Int} {ρ : Env} (hρ : ρ[0]? = some (some (.ref n))) (h : st[n]? = some (dk l m c)) : gBin vDGet (gVar 0) (gC (.str "left")) ρ st = .ok (.ref l) st := by
  simp only [gBin, gVar, gC, M.bind, M.pure, hρ, get_left h]
theorem ev_bin {f : Op2} {a b : G} {ρ : Env} {st st1 st2 : Store} {x y : Vl} (ha : a ρ st = .ok x st1) (hb : b ρ st1 = .ok y st2) : gBin f a b ρ st = f x y st2 := by
  unfold gBin; rw [bind_ok ha, bind_ok hb]
theorem ev_meth {t : Vl → Store → Bool} {op : MOp} {o : G} {gs : GA} {ρ : Env} {st st1 st2 : Store} {x : Vl} {ys : List Vl} (ho : o ρ st = .ok x st1) (hc : chk t x st1 = .ok () st1) (hs : gs ρ st1 = .ok ys st2) : gMeth t op o gs ρ st = op x ys st2 := by
  unfold gMeth; rw [bind_ok ho, bind_ok hc, bind_ok hs]
theorem ev_bOf {a : G} {ρ : Env} {st st1 : Store} {b : Bool} (ha : a ρ st = .ok (.d (.bool b)) st1) : bOf a ρ st = .ok b st1 := by
  unfold bOf; rw [bind_ok ha]
theorem ev_cons {a : G} {r : GA} {ρ : Env} {st st1 st2 : Store} {x : Vl} {xs : List Vl} (ha : a ρ st = .ok x st1) (hr : r ρ st1 = .ok xs st2) : gaCons a r ρ st = .ok (frz x :: xs) st2 := by
  unfold gaCons; rw [bind_ok ha, bind_ok hr]
theorem ev_set {i : Nat} {a : G} {ρ : Env} {st st1 : Store} {x : Vl} (ha : a ρ st = .ok x st1) : sSet i a ρ st = .ok (.nx (ρ.set i (some (frz x)))) st1 := by
  unfold sSet; rw [bind_ok ha]
theorem ev_drop {a : G} {ρ : Env} {st st1 : Store} {x : Vl} (ha : a ρ st = .ok x st1) : sDrop a ρ st = .ok (.nx ρ) st1 := by
  unfold sDrop; rw [bind_ok ha]
theorem pop_ok {st : Store} {l : Nat} {init : List Int} {cell : Int} (h : st[l]? = some (.lst ((init ++ [cell]).map .int))) : mPop (.ref l) [] st = .ok (.d (.int cell)) (st.set l (.lst (init.map .int))) := by
  have e : lstAt st l = some (init.map PyData.int ++ [.int cell]) := by rw [lstAt_of h, List.map_append]; rfl
  have e2 : (init.map PyData.int ++ [PyData.int cell])[(init.map PyData.int ++ [PyData.int cell]).length - 1]? = some (.int cell) := by
    rw [List.length_append, List.length_singleton, Nat.add_sub_cancel, List.getElem?_append_right (Nat.le_refl _), Nat.sub_self]; rfl
  show (match lstAt st l with
    | some xs => match xs[xs.length - 1]? with
      | some y => Res.ok (Vl.d y) (st.set l (.lst xs.dropLast))
      | none => .stuck
    | none => .stuck) = _
  rw [e]
  simp only [e2, List.dropLast_concat]
theorem isLst_ok {st : Store} {l : Nat} {xs : List PyData} (h : st[l]? = some (.lst xs)) : chk isLst (.ref l) st = .ok () st := by
  have e : lstOf (.ref l) st = some xs := lstAt_of h
  unfold chk isLst
  rw [e]; rfl
theorem append_ok {st : Store} {l : Nat} {xs : List PyData} {y : PyData} (h : st[l]? = some (.lst xs)) (hz : xs.length < sizeLine) : mAppend (.ref l) [.d y] st = .ok (.d .none) (st.set l (.lst (xs ++ [y]))) := by
  show (match lstAt st l with
    | some xs => if xs.length < sizeLine then Res.ok (Vl.d .none) (st.set l (.lst (xs ++ [y]))) else Res.stuck
    | none => Res.stuck) = _
  rw [lstAt_of h]
  exact if_pos hz
theorem finQ_d {n0 : Nat} {x : PyData} {st : Store} {Q : Vl → Store → Prop} (h : Q (.d x) (st.take n0)) : finQ false n0 Q (.rt (.d x)) st := by
  unfold finQ fin
  exact h
theorem set_self {st : Store} {i : Nat} {o o2 : Ob} (h : st[i]? = some o) : (st.set i o2)[i]? = some o2 := List.getElem?_set_self (List.getElem?_eq_some_iff.mp h).1
theorem draw_ok {st : Store} {n l : Nat} {k many : Int} (D : Dk st n l k) (hm : 0 < many) (hM : many < 2 ^ 62) (hk : k < 2 ^ 40) :
    Ok (m__law_draw [.ref n, .d (.int many)] st) fun v st' => ∃ r, v = .d (.int r) ∧ 0 ≤ r ∧ r < many ∧ Dk st' n l (k + 1) ∧ Fr n l st st' := by
  obtain ⟨m, c, hd, m1, m2, c1, c2⟩ := D.dic
  obtain ⟨ns, hl, hns⟩ := D.lst
  have hn : n < st.length := (List.getElem?_eq_some_iff.mp hd).1
  have nl : n ≠ l := Nat.ne_of_gt D.lt
  refine ok_fn ?_
  show Ok (b__law_draw [some (.ref n), some (.d (.int many)), none, none] st) _
  unfold b__law_draw
  refine draw_head hd hn ?_
  have d1 : (st.set n (dk l m (c + 1)))[n]? = some (dk l m (c + 1)) := set_self hd
  have l1 : (st.set n (dk l m (c + 1)))[l]? = some (.lst (ns.map .int)) := by rw [List.getElem?_set_ne nl]; exact hl
  have f1 : Fr n l st (st.set n (dk l m (c + 1))) := (Fr.refl n l st).set (.inl rfl)
  generalize hst1 : st.set n (dk l m (c + 1)) = st1 at d1 l1 f1
  have fin_ok : ∀ (st2 : Store) (r : Int), 0 ≤ r → r < many → Dk st2 n l (k + 1) → Fr n l st st2 → finQ false st.length (fun v st' => ∃ r, v = .d (.int r) ∧ 0 ≤ r ∧ r < many ∧ Dk st' n l (k + 1) ∧ Fr n l st st') (.rt (.d (.int r))) st2 := fun st2 r h1 h2 h3 h4 => by
    refine finQ_d ?_
    rw [List.take_of_length_le (Nat.le_of_eq h4.1)]
    exact ⟨r, rfl, h1, h2, h3, h4⟩
  have hc : bOf (gBin vNe (gBin vDGet (gVar 0) (gC (.str "left"))) (gLst gaNil)) [some (.ref n), some (.d (.int many)), some (.d (.int (m + 61473 * (c + 1)))), none] st1 = .ok (!ns.isEmpty) st1 := by
    have e := gleft (ρ := [some (.ref n), some (.d (.int many)), some (.d (.int (m + 61473 * (c + 1)))), none]) rfl d1
    have e2 : gLst gaNil [some (.ref n), some (.d (.int many)), some (.d (.int (m + 61473 * (c + 1)))), none] st1 = .ok (.own []) st1 := rfl
    exact ev_bOf ((ev_bin e e2).trans (ne_empty l1))
  unfold sSeq
  refine ok_bind ?_
  unfold sIf
  rw [bind_ok hc]
  rcases List.eq_nil_or_concat ns with rfl | ⟨init, cell, rfl⟩
  · show Ok (Res.ok _ _) _
    refine draw_tail d1 hm ⟨by omega, by omega⟩ fun r h1 h2 => fin_ok st1 r h1 h2 ⟨D.lt, ⟨m, c + 1, d1, m1, m2, by omega, by omega⟩, ⟨[], l1, by simp⟩⟩ f1
  · rw [List.concat_eq_append] at l1 hc hns
    rw [List.concat_eq_append]
    have hne : (!(init ++ [cell]).isEmpty) = true := by cases init <;> rfl
    rw [hne]
    have d2 : (st1.set l (.lst (init.map .int)))[n]? = some (dk l m (c + 1)) := by rw [List.getElem?_set_ne nl.symm]; exact d1
    have l2 : (st1.set l (.lst (init.map .int)))[l]? = some (.lst (init.map .int)) := set_self l1
    have f2 : Fr n l st (st1.set l (.lst (init.map .int))) := f1.set (.inr rfl)
    generalize hst2 : st1.set l (.lst (init.map PyData.int)) = st2 at d2 l2 f2
    have e1 : sSet 3 (gMeth isLst mPop (gBin vDGet (gVar 0) (gC (.str "left"))) gaNil) [some (.ref n), some (.d (.int many)), some (.d (.int (m + 61473 * (c + 1)))), none] st1 =
        .ok (.nx [some (.ref n), some (.d (.int many)), some (.d (.int (m + 61473 * (c + 1)))), some (.d (.int cell))]) st2 := by
      have e := ev_meth (t := isLst) (op := mPop) (gs := gaNil) (ys := []) (st2 := st1) (gleft (ρ := [some (.ref n), some (.d (.int many)), some (.d (.int (m + 61473 * (c + 1)))), none]) rfl d1) (isLst_ok l1) rfl
      rw [pop_ok l1, hst2] at e
      exact ev_set e
    rw [if_pos rfl]
    refine ok_bind ?_
    rw [e1]
    have hlen : init.length < 63 := by rw [List.length_append, List.length_singleton] at hns; omega
    have e2 : bOf (gBin vGe (gVar 3) (gBin vPow (gC (.int 10)) (gC (.int 18)))) [some (.ref n), some (.d (.int many)), some (.d (.int (m + 61473 * (c + 1)))), some (.d (.int cell))] st2 = .ok (decide ((10 : Int) ^ 18 ≤ cell)) st2 := by rfl
    show Ok (M.bind _ _ _) _
    refine ok_bind ?_
    rw [bind_ok e2]
    by_cases hcell : (10 : Int) ^ 18 ≤ cell
    · rw [decide_eq_true hcell, if_pos rfl]
      have hmx : ∃ x : Int, 0 < x ∧ x.natAbs < 2 ^ 62 ∧ gBin vMax2 (gC (.int 2)) (gVar 1) [some (.ref n), some (.d (.int many)), some (.d (.int (m + 61473 * (c + 1)))), some (.d (.int cell))] st2 = .ok (.d (.int x)) st2 := by
        refine ⟨if many > 2 then many else 2, ?_, ?_, rfl⟩
        · split <;> omega
        · split <;> omega
      obtain ⟨x, x1, x2, ex⟩ := hmx
      have hd : cDivW cell x = true := by
        unfold cDivW
        rw [Bool.and_eq_true]
        refine ⟨decide_eq_true x1, decide_eq_true ?_⟩
        have hx0 : x.natAbs ≠ 0 := by omega
        exact Nat.lt_of_lt_of_le ((Nat.log2_lt hx0).mpr x2) (by decide)
      have e3 : sDrop (gMeth isLst mAppend (gBin vDGet (gVar 0) (gC (.str "left"))) (gaCons (gBin vFdiv (gVar 3) (gBin vMax2 (gC (.int 2)) (gVar 1))) gaNil)) [some (.ref n), some (.d (.int many)), some (.d (.int (m + 61473 * (c + 1)))), some (.d (.int cell))] st2 =
          .ok (.nx [some (.ref n), some (.d (.int many)), some (.d (.int (m + 61473 * (c + 1)))), some (.d (.int cell))]) (st2.set l (.lst (init.map PyData.int ++ [.int (cell / x)]))) := by
        have ef : gBin vFdiv (gVar 3) (gBin vMax2 (gC (.int 2)) (gVar 1)) [some (.ref n), some (.d (.int many)), some (.d (.int (m + 61473 * (c + 1)))), some (.d (.int cell))] st2 = .ok (.d (.int (cell / x))) st2 := by
          refine (ev_bin (x := .d (.int cell)) rfl ex).trans ?_
          show (if cDivW cell x = true then _ else _) = _
          rw [if_pos hd]
        exact ev_drop ((ev_meth (gleft rfl d2) (isLst_ok l2) (ev_cons ef rfl)).trans (append_ok l2 (by rw [List.length_map, sizeLine_eq]; omega)))
      refine ok_bind ?_
      rw [e3]
      have l3 : (st2.set l (.lst (init.map PyData.int ++ [.int (cell / x)])))[l]? = some (.lst ((init ++ [cell / x]).map .int)) := by rw [set_self l2, List.map_append]; rfl
      have d3 : (st2.set l (.lst (init.map PyData.int ++ [.int (cell / x)])))[n]? = some (dk l m (c + 1)) := by rw [List.getElem?_set_ne nl.symm]; exact d2
      have f3 : Fr n l st (st2.set l (.lst (init.map PyData.int ++ [.int (cell / x)]))) := f2.set (.inr rfl)
      have hmm : decide (0 < many) = true := decide_eq_true hm
      have e4 : ∀ st3, sRet (gBin vModP (gUn vInt (gVar 3)) (gVar 1)) [some (.ref n), some (.d (.int many)), some (.d (.int (m + 61473 * (c + 1)))), some (.d (.int cell))] st3 = .ok (.rt (.d (.int (cell % many)))) st3 := fun st3 => by
        simp only [sRet, gBin, gUn, gVar, gC, M.bind, M.pure, List.getElem?_cons_zero, List.getElem?_cons_succ, vModP, vInt, intOp, hmm, if_true]
      show Ok (sRet _ _ _) _
      rw [e4]
      exact fin_ok _ _ (Int.emod_nonneg _ (by omega)) (Int.emod_lt_of_pos _ hm) ⟨D.lt, ⟨m, c + 1, d3, m1, m2, by omega, by omega⟩, ⟨init ++ [cell / x], l3, by rw [List.length_append, List.length_singleton]; omega⟩⟩ f3
    · rw [decide_eq_false hcell, if_neg Bool.false_ne_true]
      rw [show ∀ (ρ : Env) (st : Store), sSkip ρ st = .ok (.nx ρ) st from fun _ _ => rfl]
      refine ok_ok.mpr ?_
      show Ok (sSet 2 _ _ _) _
      have b : 0 ≤ cell % 2147483629 ∧ cell % 2147483629 < 2147483629 := ⟨Int.emod_nonneg _ (by decide), Int.emod_lt_of_pos _ (by decide)⟩
      have e5 : sSet 2 (gBin vAdd (gVar 2) (gBin vModP (gUn vInt (gVar 3)) (gC (.int 2147483629)))) [some (.ref n), some (.d (.int many)), some (.d (.int (m + 61473 * (c + 1)))), some (.d (.int cell))] st2 =
          .ok (.nx [some (.ref n), some (.d (.int many)), some (.d (.int (m + 61473 * (c + 1) + cell % 2147483629))), some (.d (.int cell))]) st2 := rfl
      rw [e5]
      exact draw_tail d2 hm ⟨by omega, by omega⟩ fun r h1 h2 => fin_ok st2 r h1 h2 ⟨D.lt, ⟨m, c + 1, d2, m1, m2, by omega, by omega⟩, ⟨init, l2, by omega⟩⟩ f2
end Zv.K76
set_option Elab.async false
set_option linter.all false
set_option maxRecDepth 100000
set_option maxHeartbeats 1000000
namespace Zv
open PySem L2
section
variable {Q : Vl → Store → Prop} {ρ : Env} {st : Store} {a b c : G} {gs : GA}
theorem ok_bin {f : Op2} (h : Ok (a ρ st) fun x st1 => Ok (b ρ st1) fun y st2 => Ok (f x y st2) Q) : Ok (gBin f a b ρ st) Q := ok_bind (ok_mono h fun _ _ h => ok_bind h)
theorem ok_un {f : Vl → M Vl} (h : Ok (a ρ st) fun x st1 => Ok (f x st1) Q) : Ok (gUn f a ρ st) Q := ok_bind h
theorem ok_var {i : Nat} {x : Vl} (h : ρ[i]? = some (some x)) (q : Q x st) : Ok (gVar i ρ st) Q := by unfold gVar; rw [h]; exact q
theorem ok_const {x : PyData} (q : Q (.d x) st) : Ok (gC x ρ st) Q := q
theorem ok_call {m : List Vl → M Vl} (h : Ok (gs ρ st) fun xs st1 => Ok (m xs st1) Q) : Ok (gCall m gs ρ st) Q := ok_bind (ok_mono h fun _ _ h => atE_ok h)
theorem ok_nil {R : List Vl → Store → Prop} (q : R [] st) : Ok (gaNil ρ st) R := q
theorem ok_cons {R : List Vl → Store → Prop} (h : Ok (a ρ st) fun x st1 => Ok (gs ρ st1) fun xs st2 => R (frz x :: xs) st2) : Ok (gaCons a gs ρ st) R := ok_bind (ok_mono h fun _ _ h => ok_bind h)
theorem ok_consE {R : List Vl → Store → Prop} {xs : List PyData} {st1 : Store} (h : a ρ st = .ok (.own xs) st1) (k : Ok (gs ρ (st1 ++ [.lst xs])) fun ys st2 => R (.ref st1.length :: ys) st2) : Ok (gaConsE a gs ρ st) R := by
  unfold gaConsE
  refine ok_bind ?_
  rw [bind_ok h]
  exact ok_bind k
theorem ok_if {t : GB} (h : Ok (t ρ st) fun k st1 => Ok ((if k = true then a ρ else b ρ) st1) Q) : Ok (gIf t a b ρ st) Q := ok_bind h
theorem ok_bOf {R : Bool → Store → Prop} (h : Ok (a ρ st) fun x st1 => ∃ k, x = .d (.bool k) ∧ R k st1) : Ok (bOf a ρ st) R := ok_bind (ok_mono h fun x st1 ⟨k, e, r⟩ => by subst e; exact r)
theorem ok_not {R : Bool → Store → Prop} {t : GB} (h : Ok (t ρ st) fun k st1 => R (!k) st1) : Ok (bNot t ρ st) R := ok_bind h
theorem ok_and {R : Bool → Store → Prop} {t u : GB} (h : Ok (t ρ st) fun k st1 => if k = true then Ok (u ρ st1) R else R false st1) : Ok (bAnd t u ρ st) R := ok_bind (ok_mono h fun k st1 h => by cases k <;> exact h)
theorem ok_or {R : Bool → Store → Prop} {t u : GB} (h : Ok (t ρ st) fun k st1 => if k = true then R true st1 else Ok (u ρ st1) R) : Ok (bOr t u ρ st) R := ok_bind (ok_mono h fun k st1 h => by cases k <;> exact h)
/-! statements -/
variable {R : Flow → Store → Prop} {s s2 : SG}
def seqQ (s2 : SG) (R : Flow → Store → Prop) : Flow → Store → Prop := fun f st => match f with
  | .nx ρ => Ok (s2 ρ st) R
  | f => R f st
theorem ok_seq (h : Ok (s ρ st) (seqQ s2 R)) : Ok (sSeq s s2 ρ st) R := ok_bind (ok_mono h fun f st1 h => by cases f <;> exact h)
theorem ok_ret (h : Ok (a ρ st) fun x st1 => R (.rt x) st1) : Ok (sRet a ρ st) R := ok_bind h
theorem ok_set {i : Nat} (h : Ok (a ρ st) fun x st1 => R (.nx (ρ.set i (some (frz x)))) st1) : Ok (sSet i a ρ st) R := ok_bind h
theorem ok_setE {i : Nat} {xs : List PyData} {st1 : Store} (h : a ρ st = .ok (.own xs) st1) (k : R (.nx (ρ.set i (some (.ref st1.length)))) (st1 ++ [.lst xs])) : Ok (sSetE i a ρ st) R := by
  unfold sSetE
  refine ok_bind ?_
  rw [bind_ok h]
  exact k
theorem ok_drop (h : Ok (a ρ st) fun _ st1 => R (.nx ρ) st1) : Ok (sDrop a ρ st) R := ok_bind h
theorem ok_sif {t : GB} (h : Ok (t ρ st) fun k st1 => Ok ((if k = true then s ρ else s2 ρ) st1) R) : Ok (sIf t s s2 ρ st) R := ok_bind h
theorem ok_sfor {w : GI} {t : TGv} (h : Ok (w ρ st) fun ds st1 => Ok (forL t s ds ρ st1) R) : Ok (sFor w t s ρ st) R := ok_bind h
end
end Zv
namespace Zv.K76
open PySem L2 Zv
theorem ix_list {xs : List PyData} {r : Int} (h0 : 0 ≤ r) (h1 : r < xs.length) : ∃ x, xs[r.toNat]? = some x ∧ ∀ st, vIx (.d (.list xs)) (.d (.int r)) st = .ok (.d x) st := by
  have hl : r.toNat < xs.length := by omega
  refine ⟨xs[r.toNat], List.getElem?_eq_getElem hl, fun st => ?_⟩
  have e : L2.atI xs r = some xs[r.toNat] := by
    unfold L2.atI L2.ixN
    rw [if_pos h0, if_pos h1]
    exact List.getElem?_eq_getElem hl
  show (match L2.atI xs r with
    | some x => Res.ok (Vl.d x) st
    | none => Res.stuck) = _
  rw [e]
theorem pick_ok {st : Store} {n l : Nat} {k : Int} {xs : List PyData} (D : Dk st n l k) (hx : xs ≠ []) (hz : xs.length < 2 ^ 60) (hk : k < 2 ^ 40) :
    Ok (m__law_pick [.ref n, .d (.list xs)] st) fun v st' => ∃ x ∈ xs, v = .d x ∧ Dk st' n l (k + 1) ∧ Fr n l st st' := by
  have h0 : 0 < xs.length := by
    cases xs with
    | nil => exact absurd rfl hx
    | cons => simp
  refine ok_fn ?_
  show Ok (b__law_pick [some (.ref n), some (.d (.list xs))] st) _
  refine ok_ret (ok_bin (ok_var rfl (ok_call (ok_cons (ok_var rfl (ok_cons (ok_un (ok_var rfl ?_))))))))
  rw [show vLen (.d (.list xs)) st = .ok (.d (.int xs.length)) st from rfl]
  refine ok_ok.mpr (ok_nil (ok_mono (draw_ok D (many := xs.length) (by omega) (by omega) hk) fun v st' ⟨r, e, r1, r2, D', F⟩ => ?_))
  subst e
  obtain ⟨x, hx1, hx2⟩ := ix_list r1 r2
  rw [hx2]
  refine ok_ok.mpr (finQ_d ?_)
  rw [List.take_of_length_le (Nat.le_of_eq F.1)]
  exact ⟨x, List.mem_of_getElem? hx1, rfl, D', F⟩
end Zv.K76
set_option Elab.async false
set_option linter.all false
set_option maxRecDepth 100000
set_option maxHeartbeats 1000000
namespace Zv.K76
open PySem L2 Zv
theorem ev_un {f : Vl → M Vl} {a : G} {ρ : Env} {st st1 : Store} {x : Vl} (ha : a ρ st = .ok x st1) : gUn f a ρ st = f x st1 := bind_ok ha
theorem finQ_t {n0 : Nat} {x : Vl} {st : Store} {Q : Vl → Store → Prop} (h : Q x st) : finQ true n0 Q (.rt x) st := by
  unfold finQ fin
  exact h
theorem cut63 (ns : List Int) : ∃ ms : List Int, cutL (ns.map PyData.int) none (some 63) = ms.map .int ∧ ms.length ≤ 63 := by
  unfold cutL
  refine ⟨(ns.drop (HT.sIx (ns.map PyData.int).length 0 none)).take (HT.sIx (ns.map PyData.int).length (ns.map PyData.int).length (some 63) - HT.sIx (ns.map PyData.int).length 0 none), ?_, ?_⟩
  · rw [List.map_take, List.map_drop]
  · refine Nat.le_trans (List.length_take_le _ _) ?_
    have : HT.sIx (ns.map PyData.int).length (ns.map PyData.int).length (some 63) ≤ 63 := by
      rw [show (63 : Int) = ((63 : Nat) : Int) from rfl, HT.sIx_nat]
      exact Nat.min_le_left _ _
    omega
theorem comp_ints {s0 : Vl} {m : Int} {st : Store} : ∀ (ms : List Int) (acc : List PyData), acc.length + ms.length ≤ 63 → compL (gtName 2) bTrue (gUn vInt (gVar 2)) [some s0, some (.d (.int m)), none] (ms.map .int) acc st = .ok (acc ++ ms.map .int) st
  | [], acc, _ => by rw [List.map_nil, List.append_nil]; rfl
  | x :: ms, acc, h => by
    rw [List.map_cons]
    rw [List.length_cons] at h
    have hz : acc.length < sizeLine := by rw [sizeLine_eq]; omega
    show M.bind (bTrue [some s0, some (.d (.int m)), some (.d (.int x))]) (fun k => if k = true then M.bind (gUn vInt (gVar 2) [some s0, some (.d (.int m)), some (.d (.int x))]) (fun y => match frz y with
      | .d y => if acc.length < sizeLine then compL (gtName 2) bTrue (gUn vInt (gVar 2)) [some s0, some (.d (.int m)), none] (ms.map .int) (acc ++ [y]) else M.stuck
      | _ => M.stuck) else compL (gtName 2) bTrue (gUn vInt (gVar 2)) [some s0, some (.d (.int m)), none] (ms.map .int) acc) st = _
    refine (bind_ok (x := bTrue [some s0, some (.d (.int m)), some (.d (.int x))]) (a := true) (st' := st) rfl).trans ?_
    rw [if_pos rfl]
    refine (bind_ok (x := gUn vInt (gVar 2) [some s0, some (.d (.int m)), some (.d (.int x))]) (a := .d (.int x)) (st' := st) rfl).trans ?_
    show (if acc.length < sizeLine then _ else M.stuck) st = _
    rw [if_pos hz]
    exact (comp_ints (s0 := s0) (m := m) (st := st) ms (acc ++ [PyData.int x]) (by rw [List.length_append, List.length_singleton]; omega)).trans (by rw [List.append_assoc]; rfl)
theorem deck_ok {st : Store} {ns : List Int} {sd : Int} (sd0 : 0 ≤ sd) (sd1 : sd < 2147483587) :
    Ok (m__law_deck [.scr ns, .d (.int sd)] st) fun v st' => v = .ref (st.length + 1) ∧ st'.length = st.length + 2 ∧ Dk st' (st.length + 1) st.length 0 ∧ ∀ j, j < st.length → st'[j]? = st[j]? := by
  obtain ⟨ms, em, hm⟩ := cut63 ns
  refine ok_fn ?_
  show Ok (b__law_deck [some (.scr ns), some (.d (.int sd)), none] st) _
  have ecut : ∀ (o1 o2 : Option Vl), iSeq (gCut (gVar 0) none (some (gC (.int 63)))) [some (.scr ns), o1, o2] st = .ok (ms.map .int) st := fun o1 o2 => by
    have e : gCut (gVar 0) none (some (gC (.int 63))) [some (.scr ns), o1, o2] st = .ok (.own (ms.map .int)) st := by
      rw [← em]; rfl
    unfold iSeq
    rw [bind_ok e]
    rfl
  refine ok_seq (ok_sfor ?_)
  rw [ecut]
  refine ok_ok.mpr ?_
  refine ok_for (P := fun ds ρ st' => st' = st ∧ (∃ ms : List Int, ds = ms.map .int) ∧ ∃ (m : Int) (o : Option Vl), 0 ≤ m ∧ m < 2147483587 ∧ ρ = [some (.scr ns), some (.d (.int m)), o]) (fun ρ st' h => ?_) (fun d ds ρ st' h => ?_) _ _ _ ⟨rfl, ⟨ms, rfl⟩, sd, none, sd0, sd1, rfl⟩
  · obtain ⟨rfl, _, m, o, m0, m1, rfl⟩ := h
    show Ok (sRet _ _ _) _
    refine ok_ret ?_
    have e1 : gUn vRev2 (gComp (iSeq (gCut (gVar 0) none (some (gC (.int 63))))) (gtName 2) bTrue (gUn vInt (gVar 2)) [2]) [some (.scr ns), some (.d (.int m)), o] st' = .ok (.own (ms.map PyData.int).reverse) st' := by
      have e : gComp (iSeq (gCut (gVar 0) none (some (gC (.int 63))))) (gtName 2) bTrue (gUn vInt (gVar 2)) [2] [some (.scr ns), some (.d (.int m)), o] st' = .ok (.own (ms.map .int)) st' := by
        unfold gComp
        rw [bind_ok (ecut _ _)]
        have e3 := comp_ints (s0 := .scr ns) (m := m) (st := st') ms [] (by simpa using hm)
        have e4 : noExc (compL (gtName 2) bTrue (gUn vInt (gVar 2)) [some (.scr ns), some (.d (.int m)), none] (ms.map .int) []) st' = .ok (ms.map .int) st' := by
          unfold noExc
          rw [e3]
          rfl
        exact bind_ok e4
      exact (ev_un e).trans rfl
    have e2 : gaConsE (gUn vRev2 (gComp (iSeq (gCut (gVar 0) none (some (gC (.int 63))))) (gtName 2) bTrue (gUn vInt (gVar 2)) [2])) (gaCons (gVar 1) (gaCons (gC (.int 0)) gaNil)) [some (.scr ns), some (.d (.int m)), o] st' =
        .ok [.ref st'.length, .d (.int m), .d (.int 0)] (st' ++ [.lst (ms.map PyData.int).reverse]) := by
      unfold gaConsE
      rw [bind_ok (a := .ref st'.length) (st' := st' ++ [.lst (ms.map PyData.int).reverse]) (by rw [bind_ok e1]; rfl)]
      rfl
    unfold gDict
    rw [bind_ok e2]
    have hb : (decide ([Vl.ref st'.length, .d (.int m), .d (.int 0)].length = ([.inr "left", .inr "mixed", .inr "draws"] : List Key).length) && [Vl.ref st'.length, .d (.int m), .d (.int 0)].all (belowB (st' ++ [Ob.lst (ms.map PyData.int).reverse]).length)) = true := by
      simp [belowB]
    rw [if_pos hb]
    refine ok_ok.mpr ?_
    have ek : Ob.dic (keyAll (([.inr "left", .inr "mixed", .inr "draws"] : List Key).zip [Vl.ref st'.length, .d (.int m), .d (.int 0)])) = dk st'.length m 0 := rfl
    rw [ek]
    refine finQ_t ⟨by rw [List.length_append]; rfl, by simp, ⟨Nat.lt_succ_self _, ⟨m, 0, ?_, m0, m1, by decide, by decide⟩, ⟨ms.reverse, ?_, by rw [List.length_reverse]; exact hm⟩⟩, fun j hj => ?_⟩
    · rw [List.getElem?_append_right (by simp)]; simp
    · rw [List.append_assoc, List.getElem?_append_right (Nat.le_refl _), Nat.sub_self, List.map_reverse]; rfl
    · rw [List.append_assoc, List.getElem?_append_left hj]
  · obtain ⟨rfl, ⟨ms', hms⟩, m, o, m0, m1, rfl⟩ := h
    cases ms' with
    | nil => cases hms
    | cons x ms' =>
      rw [List.map_cons] at hms
      cases hms
      refine ⟨[some (.scr ns), some (.d (.int m)), some (.d (.int x))], rfl, ?_⟩
      have hc : cMul m 48271 = true := by unfold cMul; rw [Bool.or_eq_true]; exact .inl (decide_eq_true ⟨by omega, by omega⟩)
      refine ok_set ?_
      have e : gBin vModP (gUn vInt (gBin vAdd (gBin vAdd (gBin vMul (gVar 1) (gC (.int 48271))) (gBin vModP (gUn vInt (gVar 2)) (gC (.int 2147483629)))) (gC (.int 17)))) (gC (.int 2147483587)) [some (.scr ns), some (.d (.int m)), some (.d (.int x))] st' =
          .ok (.d (.int ((m * 48271 + x % 2147483629 + 17) % 2147483587))) st' := by
        refine (ev_bin (y := .d (.int 2147483587)) (st2 := st') (x := .d (.int (m * 48271 + x % 2147483629 + 17))) (st1 := st') ?_ rfl).trans rfl
        have e1 : gBin vMul (gVar 1) (gC (.int 48271)) [some (.scr ns), some (.d (.int m)), some (.d (.int x))] st' = .ok (.d (.int (m * 48271))) st' := by
          refine (ev_bin (x := .d (.int m)) (y := .d (.int 48271)) (st1 := st') (st2 := st') rfl rfl).trans ?_
          show (if cMul m 48271 = true then _ else _) = _
          rw [if_pos hc]
        have e2 := ev_bin (f := vAdd) (a := gBin vAdd (gBin vMul (gVar 1) (gC (.int 48271))) (gBin vModP (gUn vInt (gVar 2)) (gC (.int 2147483629)))) (b := gC (.int 17)) (x := .d (.int (m * 48271 + x % 2147483629))) (y := .d (.int 17)) (st1 := st') (st2 := st') ((ev_bin (y := .d (.int (x % 2147483629))) (st2 := st') e1 rfl).trans rfl) rfl
        exact (ev_un e2).trans rfl
      rw [e]
      exact ok_ok.mpr ⟨rfl, ⟨ms', rfl⟩, _, some (.d (.int x)), Int.emod_nonneg _ (by decide), Int.emod_lt_of_pos _ (by decide), rfl⟩
end Zv.K76
set_option Elab.async false
set_option linter.all false
set_option maxRecDepth 100000
set_option maxHeartbeats 1000000
namespace Zv.K76
open PySem L2 Zv
/-- a draw as an argument is given -/
theorem edraw {ρ : Env} {st : Store} {n l : Nat} {k many : Int} {a b : G} {Q : Vl → Store → Prop} (D : Dk st n l k) (ha : a ρ st = .ok (.ref n) st) (hb : b ρ st = .ok (.d (.int many)) st) (hm : 0 < many) (hM : many < 2 ^ 62) (hk : k < 2 ^ 40)
    (q : ∀ r st', 0 ≤ r → r < many → Dk st' n l (k + 1) → Fr n l st st' → Q (.d (.int r)) st') : Ok (gCall m__law_draw (gaCons a (gaCons b gaNil)) ρ st) Q := by
  refine ok_call ?_
  rw [ev_cons ha (ev_cons hb (show gaNil ρ st = .ok [] st from rfl))]
  refine ok_ok.mpr (ok_mono (draw_ok D hm hM hk) fun v st' ⟨r, e, h1, h2, h3, h4⟩ => ?_)
  subst e
  exact q r st' h1 h2 h3 h4
theorem near_ok {st : Store} {n l : Nat} {k g : Int} (D : Dk st n l k) (hg : 1 ≤ g) (hG : g < 2 ^ 60) (hk : k + 1 < 2 ^ 40) :
    Ok (m__law_near_number [.ref n, .d (.int g)] st) fun v st' => ∃ r, v = .d (.int r) ∧ 0 ≤ r ∧ r < g ∧ Dk st' n l (k + 2) ∧ Fr n l st st' := by
  refine ok_fn ?_
  show Ok (b__law_near_number [some (.ref n), some (.d (.int g))] st) _
  refine ok_ret (ok_if (ok_bOf (ok_bin (edraw (many := 2) D rfl rfl (by decide) (by decide) (by omega) fun r st1 r0 r1 D1 F1 => ok_const ⟨decide (r = 0), ?_, ?_⟩))))
  · have hr : r = 0 ∨ r = 1 := by omega
    rcases hr with rfl | rfl <;> rfl
  · by_cases hr : r = 0
    · rw [decide_eq_true hr, if_pos rfl]
      refine ok_bin (ok_const (ok_bin (ok_bin (ok_var rfl (ok_const ?_)))))
      refine (show Ok (Res.ok (Vl.d (.int (g - 1))) st1) _ from ok_ok.mpr (edraw (many := 3) D1 rfl rfl (by decide) (by decide) (by omega) fun r2 st2 h0 h1 D2 F2 => ?_))
      refine ok_ok.mpr (ok_ok.mpr (finQ_d ?_))
      rw [List.take_of_length_le (Nat.le_of_eq (F1.trans F2).1)]
      refine ⟨_, rfl, ?_, ?_, D2.more (by omega), F1.trans F2⟩
      · show 0 ≤ (if g - 1 - r2 > 0 then g - 1 - r2 else 0)
        split <;> omega
      · show (if g - 1 - r2 > 0 then g - 1 - r2 else 0) < g
        split <;> omega
    · rw [decide_eq_false hr, if_neg Bool.false_ne_true]
      refine edraw (many := g) D1 rfl rfl (by omega) (by omega) (by omega) fun r2 st2 h0 h1 D2 F2 => ?_
      refine finQ_d ?_
      rw [List.take_of_length_le (Nat.le_of_eq (F1.trans F2).1)]
      exact ⟨r2, rfl, h0, h1, D2.more (by omega), F1.trans F2⟩
end Zv.K76
set_option Elab.async false
set_option linter.all false
set_option maxRecDepth 100000
set_option maxHeartbeats 1000000
namespace Zv
open PySem L2
/-- a def that leaves the store as it is -/
theorem ev_fn {n : Nat} {b : SG} {args : List Vl} {st : Store} {y : PyData} (h : b (args.map some ++ List.replicate (n - args.length) none) st = .ok (.rt (.d y)) st) : fnM false n b args st = .ok (.d y) st := by
  unfold fnM
  rw [h]
  show Res.ok (Vl.d y) (st.take st.length) = _
  rw [List.take_length]
theorem ev_ret {a : G} {ρ : Env} {st st1 : Store} {x : Vl} (h : a ρ st = .ok x st1) : sRet a ρ st = .ok (.rt x) st1 := bind_ok h
theorem ev_and {a b : G} {ρ : Env} {st st1 : Store} {k : Bool} (h : a ρ st = .ok (.d (.bool k)) st1) : gAnd a b ρ st = if k = true then b ρ st1 else .ok (.d (.bool false)) st1 := by
  unfold gAnd
  rw [bind_ok (Zv.K76.ev_bOf h)]
  cases k <;> rfl
theorem ev_gnot {a : G} {ρ : Env} {st st1 : Store} {k : Bool} (h : a ρ st = .ok (.d (.bool k)) st1) : gNot a ρ st = .ok (.d (.bool (!k))) st1 := by
  unfold gNot
  rw [bind_ok (Zv.K76.ev_bOf h)]
end Zv
namespace Zv.K76
open PySem L2 Zv
/-- no dict at the top -/
def noDic : PyData → Bool
  | .dict _ => false
  | _ => true
def isI : PyData → Bool
  | .int _ => true
  | _ => false
def isIB : PyData → Bool
  | .int _ => true
  | .bool _ => true
  | _ => false
def isB : PyData → Bool
  | .bool _ => true
  | _ => false
def isT : PyData → Bool
  | .tuple _ => true
  | _ => false
def isS : PyData → Bool
  | .str _ => true
  | _ => false
theorem isi_int {x : PyData} {st : Store} (h : noDic x = true) : vIsi "int" (.d x) st = .ok (.d (.bool (isIB x))) st := by
  cases x <;> first | rfl | (cases h)
theorem isi_bool {x : PyData} {st : Store} (h : noDic x = true) : vIsi "bool" (.d x) st = .ok (.d (.bool (isB x))) st := by
  cases x <;> first | rfl | (cases h)
theorem isi_tuple {x : PyData} {st : Store} (h : noDic x = true) : vIsi "tuple" (.d x) st = .ok (.d (.bool (isT x))) st := by
  cases x <;> first | rfl | (cases h)
theorem isi_str {x : PyData} {st : Store} (h : noDic x = true) : vIsi "str" (.d x) st = .ok (.d (.bool (isS x))) st := by
  cases x <;> first | rfl | (cases h)
theorem e_is_integer {x : PyData} {st : Store} (h : noDic x = true) : m_is_integer [.d x] st = .ok (.d (.bool (isI x))) st := by
  refine ev_fn (ev_ret ?_)
  have e1 : gUn (vIsi "int") (gVar 0) [some (.d x)] st = .ok (.d (.bool (isIB x))) st := (ev_un (x := .d x) (st1 := st) rfl).trans (isi_int h)
  have e2 : gUn (vIsi "bool") (gVar 0) [some (.d x)] st = .ok (.d (.bool (isB x))) st := (ev_un (x := .d x) (st1 := st) rfl).trans (isi_bool h)
  refine (ev_and e1).trans ?_
  show (if _ then gNot (gUn (vIsi "bool") (gVar 0)) [some (.d x)] st else _) = _
  rw [ev_gnot e2]
  cases x <;> first | rfl | (cases h)
theorem e_law_is_whole {x : PyData} {st : Store} (h : noDic x = true) : m__law_is_whole [.d x] st = .ok (.d (.bool (isI x))) st := e_is_integer h
end Zv.K76
set_option Elab.async false
set_option linter.all false
set_option maxRecDepth 100000
set_option maxHeartbeats 1000000
namespace Zv
open PySem L2 Zv.K76
theorem ev_call {m : List Vl → M Vl} {gs : GA} {ρ : Env} {st st1 st2 : Store} {xs : List Vl} {v : Vl} (h : gs ρ st = .ok xs st1) (hm : m xs st1 = .ok v st2) : gCall m gs ρ st = .ok v st2 := by
  unfold gCall
  rw [bind_ok h]
  unfold atE
  rw [hm]
theorem ev_bnot {t : GB} {ρ : Env} {st st1 : Store} {k : Bool} (h : t ρ st = .ok k st1) : bNot t ρ st = .ok (!k) st1 := by unfold bNot; rw [bind_ok h]
theorem ev_band {t u : GB} {ρ : Env} {st st1 : Store} {k : Bool} (h : t ρ st = .ok k st1) : bAnd t u ρ st = if k = true then u ρ st1 else .ok false st1 := by
  unfold bAnd; rw [bind_ok h]; cases k <;> rfl
theorem ev_bor {t u : GB} {ρ : Env} {st st1 : Store} {k : Bool} (h : t ρ st = .ok k st1) : bOr t u ρ st = if k = true then .ok true st1 else u ρ st1 := by
  unfold bOr; rw [bind_ok h]; cases k <;> rfl
theorem ev_sif {t : GB} {a b : SG} {ρ : Env} {st st1 : Store} {k : Bool} (h : t ρ st = .ok k st1) : sIf t a b ρ st = if k = true then a ρ st1 else b ρ st1 := by
  unfold sIf; rw [bind_ok h]; cases k <;> rfl
theorem ev_seq {a b : SG} {ρ ρ' : Env} {st st1 : Store} (h : a ρ st = .ok (.nx ρ') st1) : sSeq a b ρ st = b ρ' st1 := by unfold sSeq; rw [bind_ok h]
theorem ev_seq_rt {a b : SG} {ρ : Env} {st st1 : Store} {x : Vl} (h : a ρ st = .ok (.rt x) st1) : sSeq a b ρ st = .ok (.rt x) st1 := by unfold sSeq; rw [bind_ok h]
theorem ev_var {ρ : Env} {st : Store} {i : Nat} {x : Vl} (h : ρ[i]? = some (some x)) : gVar i ρ st = .ok x st := by unfold gVar; rw [h]
theorem ev_c {ρ : Env} {st : Store} {x : PyData} : gC x ρ st = .ok (.d x) st := rfl
theorem ev_nil {ρ : Env} {st : Store} : gaNil ρ st = .ok [] st := rfl
end Zv
namespace Zv.K76
open PySem L2 Zv
def geI (k : Int) : PyData → Bool
  | .int i => decide (k ≤ i)
  | _ => false
theorem e_is_from {x : PyData} {k : Int} {st : Store} (h : noDic x = true) : m_is_from [.d x, .d (.int k)] st = .ok (.d (.bool (geI k x))) st := by
  refine ev_fn (ev_ret ?_)
  have e1 : gCall m_is_integer (gaCons (gVar 0) gaNil) [some (.d x), some (.d (.int k))] st = .ok (.d (.bool (isI x))) st := ev_call (ev_cons (ev_var (x := .d x) rfl) ev_nil) (e_is_integer h)
  refine (ev_and e1).trans ?_
  cases x <;> first | rfl | (cases h)
theorem e_is_tuple {x : PyData} {k : Int} {st : Store} (h : noDic x = true) : m_is_tuple [.d x, .d (.int k)] st = .ok (.d (.bool (match x with | .tuple xs => decide ((xs.length : Int) = k) | _ => false))) st := by
  refine ev_fn (ev_ret ?_)
  have e1 : gUn (vIsi "tuple") (gVar 0) [some (.d x), some (.d (.int k))] st = .ok (.d (.bool (isT x))) st := (ev_un (x := .d x) (st1 := st) rfl).trans (isi_tuple h)
  refine (ev_and e1).trans ?_
  cases x with
  | tuple xs => rfl
  | dict kvs => cases h
  | _ => rfl
end Zv.K76
set_option Elab.async false
set_option linter.all false
set_option maxRecDepth 100000
set_option maxHeartbeats 1000000
namespace Zv.K76
open PySem L2 Zv
def sg (c : Nat) : Str := ⟨#[c]⟩
def wordIn (s z : Str) : Bool := z.cps.toList.all fun c => hasStr s (sg c)
theorem comp_word {o0 : Option Vl} {s : Str} {st : Store} : ∀ (cs : List Nat) (acc : List PyData), acc.length + cs.length ≤ sizeLine → compL (gtName 2) bTrue (gBin (vInB false) (gVar 2) (gVar 1)) [o0, some (.d (.str s)), none] (cs.map fun c => .str (sg c)) acc st = .ok (acc ++ cs.map fun c => .bool (hasStr s (sg c))) st
  | [], acc, _ => by rw [List.map_nil, List.map_nil, List.append_nil]; rfl
  | x :: cs, acc, h => by
    rw [List.map_cons, List.map_cons]
    rw [List.length_cons] at h
    have hz : acc.length < sizeLine := by omega
    show M.bind (bTrue [o0, some (.d (.str s)), some (.d (.str (sg x)))]) (fun k => if k = true then M.bind (gBin (vInB false) (gVar 2) (gVar 1) [o0, some (.d (.str s)), some (.d (.str (sg x)))]) (fun y => match frz y with
      | .d y => if acc.length < sizeLine then compL (gtName 2) bTrue (gBin (vInB false) (gVar 2) (gVar 1)) [o0, some (.d (.str s)), none] (cs.map fun c => .str (sg c)) (acc ++ [y]) else M.stuck
      | _ => M.stuck) else compL (gtName 2) bTrue (gBin (vInB false) (gVar 2) (gVar 1)) [o0, some (.d (.str s)), none] (cs.map fun c => .str (sg c)) acc) st = _
    refine (bind_ok (x := bTrue [o0, some (.d (.str s)), some (.d (.str (sg x)))]) (a := true) (st' := st) rfl).trans ?_
    rw [if_pos rfl]
    refine (bind_ok (x := gBin (vInB false) (gVar 2) (gVar 1) [o0, some (.d (.str s)), some (.d (.str (sg x)))]) (a := .d (.bool (hasStr s (sg x)))) (st' := st) rfl).trans ?_
    show (if acc.length < sizeLine then _ else M.stuck) st = _
    rw [if_pos hz]
    exact (comp_word (o0 := o0) (s := s) (st := st) cs (acc ++ [PyData.bool (hasStr s (sg x))]) (by rw [List.length_append, List.length_singleton]; omega)).trans (by rw [List.append_assoc]; rfl)
theorem bools_map {α : Type} (f : α → Bool) : ∀ cs : List α, boolsOf (cs.map fun c => PyData.bool (f c)) = some (cs.map f)
  | [] => rfl
  | c :: cs => by
    rw [List.map_cons, List.map_cons]
    show (boolsOf (cs.map fun c => PyData.bool (f c))).map (f c :: ·) = _
    rw [bools_map f cs]
    rfl
theorem e_is_word_of {x : PyData} {s : Str} {st : Store} (h : noDic x = true) (hz : ∀ z, x = .str z → z.cps.size ≤ sizeLine) : m_is_word_of [.d x, .d (.str s)] st = .ok (.d (.bool (match x with | .str z => wordIn s z | _ => false))) st := by
  refine ev_fn (ev_ret ?_)
  have e1 : gUn (vIsi "str") (gVar 0) [some (.d x), some (.d (.str s)), none] st = .ok (.d (.bool (isS x))) st := (ev_un (x := .d x) (st1 := st) rfl).trans (isi_str h)
  refine (ev_and e1).trans ?_
  cases x with
  | str z =>
    show gUn vAll (gComp (iSeq (gVar 0)) (gtName 2) bTrue (gBin (vInB false) (gVar 2) (gVar 1)) [2]) [some (.d (.str z)), some (.d (.str s)), none] st = _
    have e2 : gComp (iSeq (gVar 0)) (gtName 2) bTrue (gBin (vInB false) (gVar 2) (gVar 1)) [2] [some (.d (.str z)), some (.d (.str s)), none] st = .ok (.own (z.cps.toList.map fun c => .bool (hasStr s (sg c)))) st := by
      unfold gComp
      rw [bind_ok (show iSeq (gVar 0) [some (.d (.str z)), some (.d (.str s)), none] st = .ok (signs z) st from rfl)]
      have e3 := comp_word (o0 := some (.d (.str z))) (s := s) (st := st) z.cps.toList [] (by have := hz z rfl; simpa using this)
      have e4 : noExc (compL (gtName 2) bTrue (gBin (vInB false) (gVar 2) (gVar 1)) [some (.d (.str z)), some (.d (.str s)), none] (z.cps.toList.map fun c => .str (sg c)) []) st = .ok (z.cps.toList.map fun c => .bool (hasStr s (sg c))) st := by
        unfold noExc
        rw [e3]
        rfl
      exact bind_ok e4
    refine (ev_un e2).trans ?_
    unfold vAll
    show (match (some (z.cps.toList.map fun c => PyData.bool (hasStr s (sg c)))).bind boolsOf with
      | some bs => Res.ok (Vl.d (.bool (bs.all id))) st
      | none => Res.stuck) = _
    rw [Option.bind_some, bools_map]
    show Res.ok (Vl.d (.bool ((z.cps.toList.map fun c => hasStr s (sg c)).all id))) st = _
    rw [List.all_map]
    rfl
  | dict kvs => cases h
  | _ => rfl
end Zv.K76
set_option Elab.async false
set_option linter.all false
set_option maxRecDepth 100000
set_option maxHeartbeats 1000000
namespace Zv
open PySem L2 Zv.K76
/-- a comprehension whose parts leave the store as it is -/
theorem ev_compL {t : TGv} {c : GB} {g : G} {ρ : Env} {st : Store} {p : PyData → Bool} {f : PyData → PyData} : ∀ (ds : List PyData), (∀ d ∈ ds, ∃ ρ1, t (.d d) ρ = some ρ1 ∧ c ρ1 st = .ok (p d) st ∧ (p d = true → g ρ1 st = .ok (.d (f d)) st)) →
    ∀ acc : List PyData, acc.length + ds.length ≤ sizeLine → compL t c g ρ ds acc st = .ok (acc ++ (ds.filter p).map f) st
  | [], _, acc, _ => by rw [List.filter_nil, List.map_nil, List.append_nil]; rfl
  | d :: ds, h, acc, hz => by
    obtain ⟨ρ1, h1, h2, h3⟩ := h d List.mem_cons_self
    rw [List.length_cons] at hz
    have ih := ev_compL ds (fun e he => h e (List.mem_cons_of_mem _ he))
    unfold compL
    rw [h1]
    refine (bind_ok h2).trans ?_
    by_cases hp : p d = true
    · rw [if_pos hp]
      refine (bind_ok (h3 hp)).trans ?_
      have hl : acc.length < sizeLine := by omega
      show (if acc.length < sizeLine then compL t c g ρ ds (acc ++ [f d]) else M.stuck) st = _
      rw [if_pos hl, ih (acc ++ [f d]) (by rw [List.length_append, List.length_singleton]; omega), List.filter_cons, if_pos hp, List.map_cons, List.append_assoc]
      rfl
    · rw [if_neg hp, ih acc (by omega), List.filter_cons, if_neg hp]
theorem ev_comp {w : GI} {t : TGv} {c : GB} {g : G} {vs : List Nat} {ρ : Env} {st : Store} {p : PyData → Bool} {f : PyData → PyData} {ds : List PyData} (hw : w ρ st = .ok ds st) (hz : ds.length ≤ sizeLine)
    (h : ∀ d ∈ ds, ∃ ρ1, t (.d d) (wipeE ρ vs) = some ρ1 ∧ c ρ1 st = .ok (p d) st ∧ (p d = true → g ρ1 st = .ok (.d (f d)) st)) : gComp w t c g vs ρ st = .ok (.own ((ds.filter p).map f)) st := by
  unfold gComp
  rw [bind_ok hw]
  have e := ev_compL ds h [] (by simpa using hz)
  have e2 : noExc (compL t c g (wipeE ρ vs) ds []) st = .ok ((ds.filter p).map f) st := by
    unfold noExc
    rw [e]
    rfl
  exact bind_ok e2
/-- [.. for ..] == [] -/
theorem ev_eq_nil {xs : List PyData} {st : Store} (h : SeqAt.shaped (.list xs) = true) (neg : Bool) : vEqB neg (.own xs) (.own []) st = .ok (.d (.bool (if neg = true then !xs.isEmpty else xs.isEmpty))) st := by
  have e3 : PyData.eqv (.list xs) (.list []) = xs.isEmpty := by cases xs <;> rfl
  show (if (SeqAt.shaped (.list xs) && SeqAt.shaped (.list [])) = true then Res.ok (Vl.d (.bool (if neg = true then !PyData.eqv (.list xs) (.list []) else PyData.eqv (.list xs) (.list [])))) st else Res.stuck) = _
  rw [h, e3]
  rfl
theorem shaped_ones (xs : List PyData) : SeqAt.shaped (.list (xs.map fun _ => PyData.int 1)) = true := by
  have e : (xs.map fun _ => PyData.int 1) = ((xs.map fun _ => (1 : Int)).map PyData.int) := by rw [List.map_map]; rfl
  rw [e]
  unfold SeqAt.shaped
  rw [Bool.and_eq_true]
  refine ⟨canLay_ints _, decide_eq_true ?_⟩
  have := depth_ints (xs.map fun _ => (1 : Int))
  simp only [PyData.depth]
  omega
end Zv
set_option Elab.async false
set_option linter.all false
set_option maxRecDepth 100000
set_option maxHeartbeats 1000000
namespace Zv.K76
open PySem L2 Zv
theorem ix_tup {xs : List PyData} {i : Nat} {x : PyData} {st : Store} (h : xs[i]? = some x) : vIx (.d (.tuple xs)) (.d (.int i)) st = .ok (.d x) st := by
  have hl : i < xs.length := (List.getElem?_eq_some_iff.mp h).1
  have e : L2.atI xs (i : Int) = some x := by
    unfold L2.atI L2.ixN
    rw [if_pos (by omega), if_pos (by omega)]
    exact h
  show (match L2.atI xs (i : Int) with
    | some x => Res.ok (Vl.d x) st
    | none => Res.stuck) = _
  rw [e]
/-- a whole number from 0 below n -/
def inR (n : Int) : PyData → Bool
  | .int i => decide (0 ≤ i) && decide (i < n)
  | _ => false
theorem ev_inR {a b : G} {ρ : Env} {st : Store} {x : PyData} {n : Int} (h : noDic x = true) (ha : a ρ st = .ok (.d x) st) (hb : b ρ st = .ok (.d (.int n)) st) :
    gAnd (gCall m_is_from (gaCons a (gaCons (gC (.int 0)) gaNil))) (gBin vLt a b) ρ st = .ok (.d (.bool (inR n x))) st := by
  have e1 := ev_call (m := m_is_from) (ev_cons ha (ev_cons (ev_c (x := .int 0)) ev_nil)) (e_is_from (k := 0) h)
  refine (ev_and e1).trans ?_
  cases x with
  | int i =>
    show (if decide (0 ≤ i) = true then gBin vLt a b ρ st else _) = _
    by_cases hi : 0 ≤ i
    · rw [decide_eq_true hi, if_pos rfl, ev_bin ha hb]
      show _ = Res.ok (Vl.d (.bool (decide (0 ≤ i) && decide (i < n)))) st
      rw [decide_eq_true hi, Bool.true_and]
      rfl
    · rw [decide_eq_false hi, if_neg Bool.false_ne_true]
      show _ = Res.ok (Vl.d (.bool (decide (0 ≤ i) && decide (i < n)))) st
      rw [decide_eq_false hi, Bool.false_and]
  | dict kvs => cases h
  | _ => rfl
end Zv.K76
set_option Elab.async false
set_option linter.all false
set_option maxRecDepth 100000
set_option maxHeartbeats 1000000
namespace Zv.K76
open PySem L2 Zv
theorem eq_unit {xs : List PyData} {st : Store} (h : SeqAt.shaped (.tuple xs) = true) : vEq (.d (.tuple xs)) (.d (.tuple [])) st = .ok (.d (.bool xs.isEmpty)) st := by
  have e3 : PyData.eqv (.tuple xs) (.tuple []) = xs.isEmpty := by cases xs <;> rfl
  show (if (SeqAt.shaped (.tuple xs) && SeqAt.shaped (.tuple [])) = true then Res.ok (Vl.d (.bool (PyData.eqv (.tuple xs) (.tuple [])))) st else Res.stuck) = _
  rw [h, e3]
  rfl
def noWord : PyData → Bool
  | .tuple (.str _ :: _) => false
  | _ => true
/-- the first look of is_gate (and of the law's own): no tuple, nothing, no word ahead -/
theorem first_look {a : G} {ρ : Env} {st : Store} {x : PyData} (h : SeqAt.shaped x = true) (ha : a ρ st = .ok (.d x) st) :
    bOr (bNot (bOf (gUn (vIsi "tuple") a))) (bOr (bOf (gBin vEq a (gTup gaNil))) (bNot (bOf (gUn (vIsi "str") (gBin vIx a (gC (.int 0))))))) ρ st = .ok (noWord x) st := by
  have e1 : ∀ k, vIsi "tuple" (.d x) st = .ok (.d (.bool k)) st → bNot (bOf (gUn (vIsi "tuple") a)) ρ st = .ok (!k) st := fun k hk => ev_bnot (ev_bOf ((ev_un ha).trans hk))
  cases x with
  | tuple xs =>
    refine (ev_bor (e1 true rfl)).trans ?_
    show bOr (bOf (gBin vEq a (gTup gaNil))) _ ρ st = _
    have e2 : bOf (gBin vEq a (gTup gaNil)) ρ st = .ok xs.isEmpty st := ev_bOf ((ev_bin (y := .d (.tuple [])) (st2 := st) ha rfl).trans (eq_unit h))
    refine (ev_bor e2).trans ?_
    cases xs with
    | nil => rfl
    | cons y ys =>
      have e3 : gBin vIx a (gC (.int 0)) ρ st = .ok (.d y) st := (ev_bin ha ev_c).trans (ix_tup (i := 0) rfl)
      have hy : noDic y = true := by
        cases y with
        | dict kvs =>
          unfold SeqAt.shaped at h
          rw [Bool.and_eq_true] at h
          have h1 := h.1
          simp [PyData.canLay0, PyData.canLayAll0] at h1
        | _ => rfl
      have e4 : bNot (bOf (gUn (vIsi "str") (gBin vIx a (gC (.int 0))))) ρ st = .ok (!isS y) st := ev_bnot (ev_bOf ((ev_un e3).trans (isi_str hy)))
      show bNot (bOf (gUn (vIsi "str") (gBin vIx a (gC (.int 0))))) ρ st = _
      rw [e4]
      cases y <;> rfl
  | dict kvs => 
    unfold SeqAt.shaped at h
    rw [Bool.and_eq_true] at h
    have h1 := h.1
    simp [PyData.canLay0] at h1
  | _ => exact (ev_bor (e1 false rfl)).trans rfl
end Zv.K76
set_option Elab.async false
set_option linter.all false
set_option maxRecDepth 100000
set_option maxHeartbeats 1000000
namespace Zv.K76
open PySem L2 Zv
theorem cut1 {α : Type} (a : α) (r : List α) : cutL (a :: r) (some 1) none = r := by
  unfold cutL
  rw [show (1 : Int) = ((1 : Nat) : Int) from rfl, HT.sIx_nat, HT.sIx_none, List.length_cons, Nat.min_eq_left (by omega), List.drop_succ_cons, List.drop_zero, Nat.add_sub_cancel, List.take_length]
def isGate (many number : Int) : PyData → Bool
  | .tuple (.str w :: r) =>
    if (w == ("yes" : Str)) = true then (((r.length + 1 : Nat) : Int) == 1)
    else if (w == ("v" : Str)) = true then (((r.length + 1 : Nat) : Int) == 2) && r.all (inR many)
    else if (w == ("not" : Str)) = true then (((r.length + 1 : Nat) : Int) == 2) && r.all (inR number)
    else if (!([PyData.str "and", .str "or"].any fun z => PyData.eqv z (.str w)) || !(((r.length + 1 : Nat) : Int) == 3)) = true then false
    else r.all (inR number)
  | _ => false
theorem shaped_tail {y : PyData} {ys : List PyData} (h : SeqAt.shaped (.tuple (y :: ys)) = true) : (∀ z ∈ ys, noDic z = true) ∧ SeqAt.shaped y = true := by
  unfold SeqAt.shaped at h ⊢
  rw [Bool.and_eq_true] at h ⊢
  obtain ⟨h1, h2⟩ := h
  have h2 := of_decide_eq_true h2
  simp only [PyData.canLay0, PyData.canLayAll0, Bool.and_eq_true] at h1
  simp only [PyData.depth, PyData.depthAll] at h2
  refine ⟨?_, h1.1, decide_eq_true (by omega)⟩
  have : ∀ zs : List PyData, PyData.canLayAll0 zs = true → ∀ z ∈ zs, noDic z = true := fun zs => by
    induction zs with
    | nil => intro _ z hz; cases hz
    | cons u zs ih =>
      intro hc z hz
      simp only [PyData.canLayAll0, Bool.and_eq_true] at hc
      rcases List.mem_cons.mp hz with rfl | hz
      · cases z with
        | dict kvs => simp [PyData.canLay0] at hc
        | _ => rfl
      · exact ih hc.2 z hz
  exact this ys h1.2
/-- the parts behind the word: len == 2 and a whole number below n -/
theorem ev_part {ρ : Env} {st : Store} {w : Str} {r : List PyData} {n : Int} {b : G} (h : ∀ z ∈ r, noDic z = true) (h0 : ρ[0]? = some (some (.d (.tuple (.str w :: r))))) (hb : b ρ st = .ok (.d (.int n)) st) :
    gAnd (gBin vEq (gUn vLen (gVar 0)) (gC (.int 2))) (gAnd (gCall m_is_from (gaCons (gBin vIx (gVar 0) (gC (.int 1))) (gaCons (gC (.int 0)) gaNil))) (gBin vLt (gBin vIx (gVar 0) (gC (.int 1))) b)) ρ st =
      .ok (.d (.bool ((((r.length + 1 : Nat) : Int) == 2) && r.all (inR n)))) st := by
  have el : gUn vLen (gVar 0) ρ st = .ok (.d (.int ((r.length + 1 : Nat) : Int))) st := (ev_un (f := vLen) (ev_var h0)).trans rfl
  have e1 : gBin vEq (gUn vLen (gVar 0)) (gC (.int 2)) ρ st = .ok (.d (.bool (((r.length + 1 : Nat) : Int) == 2))) st := (ev_bin (f := vEq) el (ev_c (x := .int 2))).trans rfl
  refine (ev_and e1).trans ?_
  match r, h with
  | [], _ => rfl
  | [a], h =>
    have e2 : gBin vIx (gVar 0) (gC (.int 1)) ρ st = .ok (.d a) st := (ev_bin (ev_var h0) ev_c).trans (ix_tup (i := 1) rfl)
    refine Eq.trans ?_ (ev_inR (n := n) (h a List.mem_cons_self) e2 hb |>.trans (by simp))
    rfl
  | a :: c :: r, h =>
    have : ((((a :: c :: r).length + 1 : Nat) : Int) == 2) = false := by
      rw [beq_eq_false_iff_ne]
      simp only [List.length_cons]
      omega
    rw [this, if_neg Bool.false_ne_true, Bool.false_and]
end Zv.K76
set_option Elab.async false
set_option linter.all false
set_option maxRecDepth 100000
set_option maxHeartbeats 1000000
namespace Zv.K76
open PySem L2 Zv
theorem e_is_gate {x : PyData} {many number : Int} {st : Store} (h : SeqAt.shaped x = true) (hz : ∀ xs, x = .tuple xs → xs.length ≤ sizeLine) : m_is_gate [.d x, .d (.int many), .d (.int number)] st = .ok (.d (.bool (isGate many number x))) st := by
  refine ev_fn ?_
  show b_is_gate [some (.d x), some (.d (.int many)), some (.d (.int number)), none] st = _
  have l0 := first_look (a := gVar 0) (ρ := [some (.d x), some (.d (.int many)), some (.d (.int number)), none]) (st := st) h (ev_var rfl)
  by_cases hx : noWord x = true
  · rw [hx] at l0
    have hf : isGate many number x = false := by
      unfold isGate
      split
      · cases hx
      · rfl
    unfold b_is_gate
    refine (ev_seq_rt ((ev_sif l0).trans ((if_pos rfl).trans (ev_ret (ev_c (x := .bool false)))))).trans ?_
    rw [hf]
  · have hx' := (Bool.not_eq_true _).mp hx
    rw [hx'] at l0
    obtain ⟨w, r, rfl⟩ : ∃ w r, x = .tuple (.str w :: r) := by
      unfold noWord at hx'
      split at hx'
      · exact ⟨_, _, rfl⟩
      · cases hx'
    generalize hρ : [some (Vl.d (.tuple (.str w :: r))), some (Vl.d (.int many)), some (Vl.d (.int number)), none] = ρ at l0
    have h0 : ρ[0]? = some (some (.d (.tuple (.str w :: r)))) := by rw [← hρ]; rfl
    have h1 : ρ[1]? = some (some (.d (.int many))) := by rw [← hρ]; rfl
    have h2 : ρ[2]? = some (some (.d (.int number))) := by rw [← hρ]; rfl
    obtain ⟨hr, hs⟩ := shaped_tail h
    have e0 : gBin vIx (gVar 0) (gC (.int 0)) ρ st = .ok (.d (.str w)) st := (ev_bin (ev_var h0) ev_c).trans (ix_tup (i := 0) rfl)
    have el : gUn vLen (gVar 0) ρ st = .ok (.d (.int ((r.length + 1 : Nat) : Int))) st := (ev_un (f := vLen) (ev_var h0)).trans rfl
    have cw : ∀ s : Str, bOf (gBin vEq (gBin vIx (gVar 0) (gC (.int 0))) (gC (.str s))) ρ st = .ok (w == s) st := fun s => ev_bOf ((ev_bin (f := vEq) e0 (ev_c (x := .str s))).trans rfl)
    unfold b_is_gate
    refine (ev_seq ((ev_sif l0).trans rfl)).trans ?_
    by_cases w1 : (w == ("yes" : Str)) = true
    · refine (ev_seq_rt ((ev_sif (cw "yes")).trans ((if_pos w1).trans (ev_ret ((ev_bin (f := vEq) el (ev_c (x := .int 1))).trans rfl))))).trans ?_
      show _ = Res.ok (Flow.rt (Vl.d (PyData.bool (if _ then _ else _)))) st
      rw [if_pos w1]
      rfl
    · refine (ev_seq ((ev_sif (cw "yes")).trans ((if_neg w1).trans rfl))).trans ?_
      by_cases w2 : (w == ("v" : Str)) = true
      · refine (ev_seq_rt ((ev_sif (cw "v")).trans ((if_pos w2).trans (ev_ret (ev_part hr h0 (ev_var h1)))))).trans ?_
        show _ = Res.ok (Flow.rt (Vl.d (PyData.bool (if _ then _ else if _ then _ else _)))) st
        rw [if_neg w1, if_pos w2]
      · refine (ev_seq ((ev_sif (cw "v")).trans ((if_neg w2).trans rfl))).trans ?_
        by_cases w3 : (w == ("not" : Str)) = true
        · refine (ev_seq_rt ((ev_sif (cw "not")).trans ((if_pos w3).trans (ev_ret (ev_part hr h0 (ev_var h2)))))).trans ?_
          show _ = Res.ok (Flow.rt (Vl.d (PyData.bool (if _ then _ else if _ then _ else if _ then _ else _)))) st
          rw [if_neg w1, if_neg w2, if_pos w3]
        · refine (ev_seq ((ev_sif (cw "not")).trans ((if_neg w3).trans rfl))).trans ?_
          have c4 : bOr (bOf (gUn (vInK true l_JOINING) (gBin vIx (gVar 0) (gC (.int 0))))) (bOf (gBin vNe (gUn vLen (gVar 0)) (gC (.int 3)))) ρ st = .ok (!([PyData.str "and", .str "or"].any fun z => PyData.eqv z (.str w)) || !(((r.length + 1 : Nat) : Int) == 3)) st := by
            have e5 : bOf (gUn (vInK true l_JOINING) (gBin vIx (gVar 0) (gC (.int 0)))) ρ st = .ok (!([PyData.str "and", .str "or"].any fun z => PyData.eqv z (.str w))) st := by
              refine ev_bOf ((ev_un (f := vInK true l_JOINING) e0).trans ?_)
              show (if (SeqAt.shaped (.str w) && SeqAt.shaped (.tuple l_JOINING)) = true then Res.ok (Vl.d (.bool (!([PyData.str "and", .str "or"].any fun z => PyData.eqv z (.str w))))) st else Res.stuck) = _
              rw [hs, show SeqAt.shaped (.tuple l_JOINING) = true from by decide +kernel]
              rfl
            refine (ev_bor e5).trans ?_
            rw [show bOf (gBin vNe (gUn vLen (gVar 0)) (gC (.int 3))) ρ st = .ok (!(((r.length + 1 : Nat) : Int) == 3)) st from ev_bOf ((ev_bin (f := vNe) el (ev_c (x := .int 3))).trans rfl)]
            cases (!([PyData.str "and", .str "or"].any fun z => PyData.eqv z (.str w))) <;> rfl
          by_cases w4 : (!([PyData.str "and", .str "or"].any fun z => PyData.eqv z (.str w)) || !(((r.length + 1 : Nat) : Int) == 3)) = true
          · refine (ev_seq_rt ((ev_sif c4).trans ((if_pos w4).trans (ev_ret (ev_c (x := .bool false)))))).trans ?_
            show _ = Res.ok (Flow.rt (Vl.d (PyData.bool (if _ then _ else if _ then _ else if _ then _ else if _ then _ else _)))) st
            rw [if_neg w1, if_neg w2, if_neg w3, if_pos w4]
          · refine (ev_seq ((ev_sif c4).trans ((if_neg w4).trans rfl))).trans ?_
            show _ = Res.ok (Flow.rt (Vl.d (PyData.bool (if _ then _ else if _ then _ else if _ then _ else if _ then _ else _)))) st
            rw [if_neg w1, if_neg w2, if_neg w3, if_neg w4]
            refine ev_ret ?_
            have ec : gComp (iSeq (gCut (gVar 0) (some (gC (.int 1))) none)) (gtName 3) bTrue (gAnd (gCall m_is_from (gaCons (gVar 3) (gaCons (gC (.int 0)) gaNil))) (gBin vLt (gVar 3) (gVar 2))) [3] ρ st = .ok (.own ((r.filter fun _ => true).map fun z => .bool (inR number z))) st := by
              refine ev_comp ?_ (by have := hz _ rfl; rw [List.length_cons] at this; omega) fun d hd => ⟨(wipeE ρ [3]).set 3 (some (.d d)), rfl, rfl, fun _ => ?_⟩
              · have : gCut (gVar 0) (some (gC (.int 1))) none ρ st = .ok (.d (.tuple (cutL (.str w :: r) (some 1) none))) st := by
                  unfold gCut
                  rw [bind_ok (ev_var h0)]
                  rfl
                unfold iSeq
                rw [bind_ok this, cut1]
                rfl
              · rw [← hρ]
                exact ev_inR (hr d hd) rfl rfl
            refine (ev_un ec).trans ?_
            rw [List.filter_eq_self.mpr fun _ _ => rfl]
            unfold vAll
            show (match (some (r.map fun z => PyData.bool (inR number z))).bind boolsOf with
              | some bs => Res.ok (Vl.d (.bool (bs.all id))) st
              | none => Res.stuck) = _
            rw [Option.bind_some, bools_map]
            show Res.ok (Vl.d (.bool ((r.map fun z => inR number z).all id))) st = _
            rw [List.all_map]
            rfl
end Zv.K76
set_option Elab.async false
set_option linter.all false
set_option maxRecDepth 100000
set_option maxHeartbeats 1000000
namespace Zv.K76
open PySem L2 Zv
/-- one numbered gate -/
def gateAt (m : Int) : PyData → Bool
  | .tuple [.int i, g] => isGate m i g
  | _ => false
def isCirc : PyData → Bool
  | .tuple [.str p, .tuple gs] => wordIn "ea" p && (!gs.isEmpty && (enumD gs).all (gateAt p.length))
  | _ => false
theorem shaped_two {a b : PyData} (h : SeqAt.shaped (.tuple [a, b]) = true) : SeqAt.shaped a = true ∧ SeqAt.shaped b = true := by
  refine ⟨(shaped_tail h).2, ?_⟩
  unfold SeqAt.shaped at h ⊢
  rw [Bool.and_eq_true] at h ⊢
  obtain ⟨h1, h2⟩ := h
  have h2 := of_decide_eq_true h2
  simp only [PyData.canLay0, PyData.canLayAll0, Bool.and_eq_true] at h1
  simp only [PyData.depth, PyData.depthAll] at h2
  exact ⟨h1.2.1, decide_eq_true (by omega)⟩
theorem shaped_noDic {x : PyData} (h : SeqAt.shaped x = true) : noDic x = true := by
  cases x with
  | dict kvs =>
    unfold SeqAt.shaped at h
    rw [Bool.and_eq_true] at h
    have h1 := h.1
    simp [PyData.canLay0] at h1
  | _ => rfl
theorem shaped_mem {xs : List PyData} (h : SeqAt.shaped (.tuple xs) = true) : ∀ x ∈ xs, SeqAt.shaped x = true := by
  induction xs with
  | nil => intro x hx; cases hx
  | cons y ys ih =>
    intro x hx
    rcases List.mem_cons.mp hx with rfl | hx
    · exact (shaped_tail h).2
    · refine ih ?_ x hx
      unfold SeqAt.shaped at h ⊢
      rw [Bool.and_eq_true] at h ⊢
      obtain ⟨h1, h2⟩ := h
      have h2 := of_decide_eq_true h2
      simp only [PyData.canLay0, PyData.canLayAll0, Bool.and_eq_true] at h1 ⊢
      simp only [PyData.depth, PyData.depthAll] at h2 ⊢
      exact ⟨h1.2, decide_eq_true (by omega)⟩
end Zv.K76
set_option Elab.async false
set_option linter.all false
set_option maxRecDepth 100000
set_option maxHeartbeats 1000000
namespace Zv.K76
open PySem L2 Zv
/-- lengths that the looks need -/
structure Fit (x : PyData) : Prop where
  sh : SeqAt.shaped x = true
  st : ∀ p b, x = .tuple [.str p, b] → p.length ≤ sizeLine ∧ p.cps.size ≤ sizeLine
  tu : ∀ a gs, x = .tuple [a, .tuple gs] → gs.length ≤ sizeLine ∧ ∀ g ∈ gs, ∀ ys, g = .tuple ys → ys.length ≤ sizeLine
theorem e_is_circuit_value {x : PyData} {st : Store} (F : Fit x) : m_is_circuit_value [.d x] st = .ok (.d (.bool (isCirc x))) st := by
  refine ev_fn ?_
  show b_is_circuit_value [some (.d x), none, none] st = _
  generalize hρ : [some (Vl.d x), none, none] = ρ
  have h0 : ρ[0]? = some (some (.d x)) := by rw [← hρ]; rfl
  have t1 := ev_bnot (ev_bOf (ev_call (m := m_is_tuple) (ev_cons (ev_var h0) (ev_cons (ev_c (x := .int 2)) ev_nil)) (e_is_tuple (k := 2) (st := st) (shaped_noDic F.sh))))
  unfold b_is_circuit_value
  by_cases hx : ∃ a b, x = .tuple [a, b]
  · obtain ⟨a, b, rfl⟩ := hx
    obtain ⟨sa, sb⟩ := shaped_two F.sh
    have e0 : gBin vIx (gVar 0) (gC (.int 0)) ρ st = .ok (.d a) st := (ev_bin (ev_var h0) ev_c).trans (ix_tup (i := 0) rfl)
    have e1 : gBin vIx (gVar 0) (gC (.int 1)) ρ st = .ok (.d b) st := (ev_bin (ev_var h0) ev_c).trans (ix_tup (i := 1) rfl)
    have t2 := ev_bnot (ev_bOf (ev_call (m := m_is_word_of) (ev_cons e0 (ev_cons (ev_c (x := .str "ea")) ev_nil)) (e_is_word_of (s := "ea") (st := st) (shaped_noDic sa) fun z hz => (F.st z b (by rw [hz])).2)))
    have t3 := ev_bnot (ev_bOf ((ev_un (f := vIsi "tuple") e1).trans (isi_tuple (st := st) (shaped_noDic sb))))
    have c1 : ∀ k, bOr (bNot (bOf (gCall m_is_word_of (gaCons (gBin vIx (gVar 0) (gC (.int 0))) (gaCons (gC (.str "ea")) gaNil))))) (bOr (bNot (bOf (gUn (vIsi "tuple") (gBin vIx (gVar 0) (gC (.int 1)))))) (bOf (gBin vEq (gBin vIx (gVar 0) (gC (.int 1))) (gTup gaNil)))) ρ st = .ok k st →
        sIf (bOr (bNot (bOf (gCall m_is_tuple (gaCons (gVar 0) (gaCons (gC (.int 2)) gaNil))))) (bOr (bNot (bOf (gCall m_is_word_of (gaCons (gBin vIx (gVar 0) (gC (.int 0))) (gaCons (gC (.str "ea")) gaNil))))) (bOr (bNot (bOf (gUn (vIsi "tuple") (gBin vIx (gVar 0) (gC (.int 1)))))) (bOf (gBin vEq (gBin vIx (gVar 0) (gC (.int 1))) (gTup gaNil)))))) (sRet (gC (.bool false))) sSkip ρ st = if k = true then .ok (.rt (.d (.bool false))) st else .ok (.nx ρ) st := fun k hk => by
      have t1' := t1.trans (show _ = Res.ok false st from rfl)
      refine (ev_sif ((ev_bor t1').trans ((if_neg Bool.false_ne_true).trans hk))).trans ?_
      cases k <;> rfl
    by_cases hw : ∃ p gs, a = .str p ∧ b = .tuple gs ∧ wordIn "ea" p = true ∧ gs.isEmpty = false
    · obtain ⟨p, gs, rfl, rfl, w1, w2⟩ := hw
      have t2' := t2.trans (show _ = Res.ok false st from by show Res.ok (!wordIn "ea" p) st = _; rw [w1]; rfl)
      have t3' := t3.trans (show _ = Res.ok false st from rfl)
      have t4 : bOf (gBin vEq (gBin vIx (gVar 0) (gC (.int 1))) (gTup gaNil)) ρ st = .ok false st := ev_bOf ((ev_bin (y := .d (.tuple [])) (st2 := st) e1 rfl).trans ((eq_unit sb).trans (by rw [w2])))
      refine (ev_seq ((c1 false ((ev_bor t2').trans ((if_neg Bool.false_ne_true).trans ((ev_bor t3').trans ((if_neg Bool.false_ne_true).trans t4))))).trans rfl)).trans ?_
      refine ev_ret ?_
      have ec : gComp (iEnu (gaCons (gBin vIx (gVar 0) (gC (.int 1))) gaNil)) (gtTup [gtName 1, gtName 2]) bTrue (gCall m_is_gate (gaCons (gVar 2) (gaCons (gUn vLen (gBin vIx (gVar 0) (gC (.int 0)))) (gaCons (gVar 1) gaNil)))) [1, 2] ρ st = .ok (.own (((enumD gs).filter fun _ => true).map fun z => .bool (gateAt p.length z))) st := by
        refine ev_comp ?_ (by unfold enumD; rw [List.length_mapIdx]; exact (F.tu _ gs rfl).1) fun d hd => ?_
        · unfold iEnu
          rw [bind_ok (ev_cons e1 ev_nil)]
          rfl
        · obtain ⟨j, hj⟩ := List.mem_iff_getElem?.mp hd
          unfold enumD at hj
          rw [List.getElem?_mapIdx] at hj
          obtain ⟨g, hg, rfl⟩ := Option.map_eq_some_iff.mp hj
          have gm := List.mem_of_getElem? hg
          refine ⟨[some (.d (.tuple [.str p, .tuple gs])), some (.d (.int (j : Nat))), some (.d g)], by rw [← hρ]; rfl, rfl, fun _ => ?_⟩
          have el : gUn vLen (gBin vIx (gVar 0) (gC (.int 0))) [some (.d (.tuple [.str p, .tuple gs])), some (.d (.int (j : Nat))), some (.d g)] st = .ok (.d (.int p.length)) st := by
            refine (ev_un (f := vLen) ((ev_bin (x := .d (.tuple [.str p, .tuple gs])) (st1 := st) rfl ev_c).trans (ix_tup (i := 0) rfl))).trans ?_
            show (if p.length ≤ sizeLine then _ else Res.stuck) = _
            rw [if_pos (F.st p _ rfl).1]
          exact ev_call (m := m_is_gate) (ev_cons (ev_var (x := .d g) rfl) (ev_cons el (ev_cons (ev_var (x := .d (.int (j : Nat))) rfl) ev_nil))) (e_is_gate (shaped_mem sb g gm) ((F.tu _ gs rfl).2 g gm))
      refine (ev_un ec).trans ?_
      rw [List.filter_eq_self.mpr fun _ _ => rfl]
      unfold vAll
      show (match (some ((enumD gs).map fun z => PyData.bool (gateAt p.length z))).bind boolsOf with
        | some bs => Res.ok (Vl.d (.bool (bs.all id))) st
        | none => Res.stuck) = Res.ok (Vl.d (.bool (wordIn "ea" p && (!gs.isEmpty && (enumD gs).all (gateAt p.length))))) st
      rw [Option.bind_some, bools_map, w1, w2]
      show Res.ok (Vl.d (.bool (((enumD gs).map fun z => gateAt p.length z).all id))) st = _
      rw [List.all_map]
      rfl
    · have hc : isCirc (.tuple [a, b]) = false := by
        unfold isCirc
        split
        · rename_i p gs heq
          cases heq
          by_cases w1 : wordIn "ea" p = true
          · by_cases w2 : gs.isEmpty = true
            · rw [w2]; simp
            · exact absurd ⟨p, gs, rfl, rfl, w1, by simpa using w2⟩ hw
          · rw [(Bool.not_eq_true _).mp w1]; rfl
        · rfl
      rw [hc]
      refine ev_seq_rt ((c1 true ?_).trans (if_pos rfl))
      by_cases ha : ∃ p, a = .str p ∧ wordIn "ea" p = true
      · obtain ⟨p, rfl, w1⟩ := ha
        have t2' := t2.trans (show _ = Res.ok false st from by show Res.ok (!wordIn "ea" p) st = _; rw [w1]; rfl)
        refine (ev_bor t2').trans ((if_neg Bool.false_ne_true).trans ?_)
        by_cases hb : ∃ gs, b = .tuple gs
        · obtain ⟨gs, rfl⟩ := hb
          have w2 : gs.isEmpty = true := by
            by_cases w2 : gs.isEmpty = true
            · exact w2
            · exact absurd ⟨p, gs, rfl, rfl, w1, by simpa using w2⟩ hw
          refine (ev_bor (t3.trans (show _ = Res.ok false st from rfl))).trans ((if_neg Bool.false_ne_true).trans ?_)
          exact ev_bOf ((ev_bin (y := .d (.tuple [])) (st2 := st) e1 rfl).trans ((eq_unit sb).trans (by rw [w2])))
        · have : isT b = false := by
            cases b with
            | tuple gs => exact absurd ⟨gs, rfl⟩ hb
            | _ => rfl
          exact (ev_bor (t3.trans (show _ = Res.ok true st from by rw [this]; rfl))).trans (if_pos rfl)
      · refine (ev_bor (t2.trans (show _ = Res.ok true st from ?_))).trans (if_pos rfl)
        cases a with
        | str p =>
          show Res.ok (!wordIn "ea" p) st = _
          rw [(Bool.not_eq_true _).mp fun w1 => ha ⟨p, rfl, w1⟩]
          rfl
        | dict kvs => exact absurd (shaped_noDic sa) (by simp [noDic])
        | _ => rfl
  · have fin0 : bNot (bOf (gCall m_is_tuple (gaCons (gVar 0) (gaCons (gC (.int 2)) gaNil)))) ρ st = .ok true st → isCirc x = false → sSeq (sIf (bOr (bNot (bOf (gCall m_is_tuple (gaCons (gVar 0) (gaCons (gC (.int 2)) gaNil))))) (bOr (bNot (bOf (gCall m_is_word_of (gaCons (gBin vIx (gVar 0) (gC (.int 0))) (gaCons (gC (.str "ea")) gaNil))))) (bOr (bNot (bOf (gUn (vIsi "tuple") (gBin vIx (gVar 0) (gC (.int 1)))))) (bOf (gBin vEq (gBin vIx (gVar 0) (gC (.int 1))) (gTup gaNil)))))) (sRet (gC (.bool false))) sSkip)
        (sRet (gUn vAll (gComp (iEnu (gaCons (gBin vIx (gVar 0) (gC (.int 1))) gaNil)) (gtTup [gtName 1, gtName 2]) bTrue (gCall m_is_gate (gaCons (gVar 2) (gaCons (gUn vLen (gBin vIx (gVar 0) (gC (.int 0)))) (gaCons (gVar 1) gaNil)))) [1, 2]))) ρ st = .ok (.rt (.d (.bool (isCirc x)))) st := fun t hc => by
      rw [hc]
      exact ev_seq_rt ((ev_sif ((ev_bor t).trans (if_pos rfl))).trans ((if_pos rfl).trans (ev_ret (ev_c (x := .bool false)))))
    cases x with
    | tuple xs =>
      have hl : ¬ ((xs.length : Int) = 2) := fun e => hx (by
        match xs, e with
        | [a, b], _ => exact ⟨a, b, rfl⟩
        | [], e => simp at e
        | [a], e => simp at e
        | a :: b :: c :: r, e => simp only [List.length_cons] at e; omega)
      refine fin0 (t1.trans (by show Res.ok (!decide ((xs.length : Int) = 2)) st = _; rw [decide_eq_false hl]; rfl)) ?_
      unfold isCirc
      split
      · rename_i heq
        cases heq
        exact absurd rfl hl
      · rfl
    | dict kvs => exact absurd (shaped_noDic F.sh) (by simp [noDic])
    | _ => exact fin0 (t1.trans rfl) rfl
end Zv.K76
set_option Elab.async false
set_option linter.all false
set_option maxRecDepth 100000
set_option maxHeartbeats 1000000
namespace Zv.K76
open PySem L2 Zv
/-- a def that made objects of its own and gives back data -/
theorem ev_fnx {n : Nat} {b : SG} {args : List Vl} {st st1 : Store} {y : PyData} (h : b (args.map some ++ List.replicate (n - args.length) none) st = .ok (.rt (.d y)) (st ++ st1)) : fnM false n b args st = .ok (.d y) st := by
  unfold fnM
  rw [h]
  show Res.ok (Vl.d y) ((st ++ st1).take st.length) = _
  rw [List.take_left]
theorem chk_ok {t : Vl → Store → Bool} {x : Vl} {st : Store} (h : t x st = true) : chk t x st = .ok () st := if_pos h
theorem ev_if {t : GB} {a b : G} {ρ : Env} {st st1 : Store} {k : Bool} (h : t ρ st = .ok k st1) : gIf t a b ρ st = if k = true then a ρ st1 else b ρ st1 := by
  unfold gIf; rw [bind_ok h]; split <;> rfl
theorem shaped_ones' (xs : List PyData) (p : PyData → Bool) : SeqAt.shaped (.list ((xs.filter p).map fun _ => PyData.int 1)) = true := shaped_ones _
/-- [1 for .. if p] == [] -/
theorem ev_none {w : GI} {t : TGv} {c : GB} {vs : List Nat} {ρ : Env} {st : Store} {p : PyData → Bool} {ds : List PyData} (neg : Bool) (hw : w ρ st = .ok ds st) (hz : ds.length ≤ sizeLine)
    (h : ∀ d ∈ ds, ∃ ρ1, t (.d d) (wipeE ρ vs) = some ρ1 ∧ c ρ1 st = .ok (!p d) st) : gBin (vEqB neg) (gComp w t c (gC (.int 1)) vs) (gLst gaNil) ρ st = .ok (.d (.bool (if neg = true then !ds.all p else ds.all p))) st := by
  have e1 := ev_comp (t := t) (c := c) (g := gC (.int 1)) (vs := vs) (p := fun d => !p d) (f := fun _ => .int 1) hw hz fun d hd => by
    obtain ⟨ρ1, h1, h2⟩ := h d hd
    exact ⟨ρ1, h1, h2, fun _ => rfl⟩
  refine (ev_bin (f := vEqB neg) e1 (show gLst gaNil ρ st = .ok (.own []) st from rfl)).trans ?_
  rw [ev_eq_nil (shaped_ones' ds _) neg]
  have e : ((ds.filter fun d => !p d).map fun _ => PyData.int 1).isEmpty = ds.all p := by
    clear hw hz h e1
    induction ds with
    | nil => rfl
    | cons d ds ih =>
      rw [List.all_cons, List.filter_cons]
      cases hp : p d with
      | false => rfl
      | true => rw [Bool.true_and, ← ih]; rfl
  rw [e]
end Zv.K76
namespace Zv.K76
open PySem L2 Zv
def sizesD : Ob := .dic [(.inr "yes", .d (.int 1)), (.inr "v", .d (.int 2)), (.inr "not", .d (.int 2)), (.inr "and", .d (.int 3)), (.inr "or", .d (.int 3))]
def sizeOf (w : Str) : Int := if w = "yes" then 1 else if w = "v" then 2 else if w = "not" then 2 else if w = "and" then 3 else if w = "or" then 3 else 0
theorem get_size {st : Store} {w : Str} : dicAt (st ++ [sizesD]) (.ref st.length) = some (st.length, [(.inr "yes", .d (.int 1)), (.inr "v", .d (.int 2)), (.inr "not", .d (.int 2)), (.inr "and", .d (.int 3)), (.inr "or", .d (.int 3))]) ∧
    (valG [((.inr "yes" : Key), Vl.d (.int 1)), (.inr "v", .d (.int 2)), (.inr "not", .d (.int 2)), (.inr "and", .d (.int 3)), (.inr "or", .d (.int 3))] (.inr w)).getD (.d (.int 0)) = .d (.int (sizeOf w)) := by
  constructor
  · show (match (st ++ [sizesD])[st.length]? with | some (.dic kvs) => some (st.length, kvs) | _ => none) = _
    rw [List.getElem?_concat_length]; rfl
  · unfold sizeOf
    by_cases h1 : w = "yes"
    · subst h1; rfl
    rw [if_neg h1]
    by_cases h2 : w = "v"
    · subst h2; rfl
    rw [if_neg h2]
    by_cases h3 : w = "not"
    · subst h3; rfl
    rw [if_neg h3]
    by_cases h4 : w = "and"
    · subst h4; rfl
    rw [if_neg h4]
    by_cases h5 : w = "or"
    · subst h5; rfl
    rw [if_neg h5]
    have n : ∀ s : Str, w ≠ s → decide ((Sum.inr s : Key) = .inr w) = false := fun s hs => decide_eq_false fun e => hs (Sum.inr.inj e).symm
    unfold valG
    simp only [List.find?_cons, List.find?_nil, n _ h1, n _ h2, n _ h3, n _ h4, n _ h5]
    rfl
/-- what the law's own look at a gate tells -/
def lawGate (m g : Int) : PyData → Bool
  | .tuple (.str w :: r) => (sizeOf w == ((r.length + 1 : Nat) : Int)) && (r.all isI && r.all (inR (if w = "v" then m else g)))
  | _ => false
theorem inR_isI {n : Int} {x : PyData} (h : inR n x = true) : isI x = true := by
  cases x <;> first | rfl | cases h
theorem all_inR {n : Int} (r : List PyData) : (r.all isI && r.all (inR n)) = r.all (inR n) := by
  cases h : r.all (inR n) with
  | false => rw [Bool.and_false]
  | true =>
    rw [Bool.and_true, List.all_eq_true]
    exact fun x hx => inR_isI (List.all_eq_true.mp h x hx)
theorem lawGate_eq (m g : Int) (x : PyData) : lawGate m g x = isGate m g x := by
  unfold lawGate isGate
  split
  · rename_i w r
    rw [all_inR]
    simp only [beq_iff_eq]
    unfold sizeOf
    by_cases h1 : w = "yes"
    · subst h1
      rw [if_pos rfl]
      cases r with
      | nil => rfl
      | cons a r =>
        have : ((1 : Int) == (((a :: r).length + 1 : Nat) : Int)) = false := by
          rw [beq_eq_false_iff_ne]; simp only [List.length_cons]; omega
        rw [this, Bool.false_and, if_pos rfl]
        symm
        rw [beq_eq_false_iff_ne]; simp only [List.length_cons]; omega
    rw [if_neg h1, if_neg h1]
    by_cases h2 : w = "v"
    · subst h2
      rw [if_pos rfl, if_pos rfl, if_pos rfl, BEq.comm]
    rw [if_neg h2, if_neg h2, if_neg h2]
    by_cases h3 : w = "not"
    · subst h3
      rw [if_pos rfl, if_pos rfl, BEq.comm]
    rw [if_neg h3, if_neg h3]
    have e : ∀ s : Str, PyData.eqv (.str s) (.str w) = decide (w = s) := fun s => by
      show (s == w) = _
      by_cases hs : w = s
      · subst hs; rw [decide_eq_true rfl, beq_self_eq_true]
      · rw [decide_eq_false hs, beq_eq_false_iff_ne]; exact fun e => hs e.symm
    simp only [List.any_cons, List.any_nil, e, Bool.or_false]
    by_cases h4 : w = "and"
    · subst h4
      rw [if_pos rfl, decide_eq_true rfl, Bool.true_or, BEq.comm]
      cases ((((r.length + 1 : Nat) : Int)) == 3) <;> simp
    rw [if_neg h4, decide_eq_false h4]
    by_cases h5 : w = "or"
    · subst h5
      rw [if_pos rfl, decide_eq_true rfl, BEq.comm]
      cases ((((r.length + 1 : Nat) : Int)) == 3) <;> simp
    rw [if_neg h5, decide_eq_false h5]
    have : ((0 : Int) == ((r.length + 1 : Nat) : Int)) = false := by
      rw [beq_eq_false_iff_ne]; omega
    rw [this]
    simp
  · rename_i hn
    first
      | rfl
      | (split
         · exact absurd rfl (hn _ _)
         · rfl)
theorem e_law_is_gate {x : PyData} {m g : Int} {st : Store} (h : SeqAt.shaped x = true) (hz : ∀ xs, x = .tuple xs → xs.length ≤ sizeLine) : m__law_is_gate [.d (.int m), .d (.int g), .d x] st = .ok (.d (.bool (isGate m g x))) st := by
  rw [← lawGate_eq]
  have l0 := first_look (a := gVar 2) (ρ := [some (.d (.int m)), some (.d (.int g)), some (.d x), none, none]) (st := st) h (ev_var rfl)
  by_cases hx : noWord x = true
  · rw [hx] at l0
    have hf : lawGate m g x = false := by
      unfold lawGate
      split
      · cases hx
      · rfl
    refine ev_fn ?_
    show b__law_is_gate [some (.d (.int m)), some (.d (.int g)), some (.d x), none, none] st = _
    unfold b__law_is_gate
    refine (ev_seq_rt ((ev_sif l0).trans ((if_pos rfl).trans (ev_ret (ev_c (x := .bool false)))))).trans ?_
    rw [hf]
  · have hx' := (Bool.not_eq_true _).mp hx
    rw [hx'] at l0
    obtain ⟨w, r, rfl⟩ : ∃ w r, x = .tuple (.str w :: r) := by
      unfold noWord at hx'
      split at hx'
      · exact ⟨_, _, rfl⟩
      · cases hx'
    refine ev_fnx (st1 := [sizesD]) ?_
    show b__law_is_gate [some (.d (.int m)), some (.d (.int g)), some (.d (.tuple (.str w :: r))), none, none] st = _
    obtain ⟨hr, hs⟩ := shaped_tail h
    have hrl : r.length ≤ sizeLine := by have := hz _ rfl; rw [List.length_cons] at this; omega
    unfold b__law_is_gate
    refine (ev_seq ((ev_sif l0).trans rfl)).trans ?_
    have ed : sSet 3 (gDict [.inr "yes", .inr "v", .inr "not", .inr "and", .inr "or"] (gaCons (gC (.int 1)) (gaCons (gC (.int 2)) (gaCons (gC (.int 2)) (gaCons (gC (.int 3)) (gaCons (gC (.int 3)) gaNil)))))) [some (.d (.int m)), some (.d (.int g)), some (.d (.tuple (.str w :: r))), none, none] st =
        .ok (.nx [some (.d (.int m)), some (.d (.int g)), some (.d (.tuple (.str w :: r))), some (.ref st.length), none]) (st ++ [sizesD]) := rfl
    refine (ev_seq ed).trans ?_
    obtain ⟨g1, g2⟩ := get_size (st := st) (w := w)
    generalize hst : st ++ [sizesD] = s2 at g1
    generalize hn : st.length = n at g1
    have hd : noDic (.tuple (.str w :: r)) = true := rfl
    have e0 : ∀ o : Option Vl, gBin vIx (gVar 2) (gC (.int 0)) [some (.d (.int m)), some (.d (.int g)), some (.d (.tuple (.str w :: r))), some (.ref n), o] s2 = .ok (.d (.str w)) s2 := fun o => (ev_bin (ev_var rfl) ev_c).trans (ix_tup (i := 0) rfl)
    have el : gUn vLen (gVar 2) [some (.d (.int m)), some (.d (.int g)), some (.d (.tuple (.str w :: r))), some (.ref n), none] s2 = .ok (.d (.int ((r.length + 1 : Nat) : Int))) s2 := rfl
    have eg : gDGet2 (gVar 3) (gBin vIx (gVar 2) (gC (.int 0))) (gC (.int 0)) [some (.d (.int m)), some (.d (.int g)), some (.d (.tuple (.str w :: r))), some (.ref n), none] s2 = .ok (.d (.int (sizeOf w))) s2 := by
      unfold gDGet2
      rw [bind_ok (ev_var (x := .ref n) rfl)]
      rw [bind_ok (show chk (fun x st => (dicAt st x).isSome) (.ref n) s2 = .ok () s2 from chk_ok (by show (dicAt s2 (.ref n)).isSome = true; rw [g1]; rfl))]
      rw [bind_ok (e0 none), bind_ok (ev_c (x := .int 0))]
      rw [g1]
      show Res.ok _ s2 = _
      rw [g2]
    have ei : iSeq (gCut (gVar 2) (some (gC (.int 1))) none) [some (.d (.int m)), some (.d (.int g)), some (.d (.tuple (.str w :: r))), some (.ref n), none] s2 = .ok r s2 := by
      have : gCut (gVar 2) (some (gC (.int 1))) none [some (.d (.int m)), some (.d (.int g)), some (.d (.tuple (.str w :: r))), some (.ref n), none] s2 = .ok (.d (.tuple (cutL (.str w :: r) (some 1) none))) s2 := rfl
      unfold iSeq
      rw [bind_ok this, cut1]
      rfl
    have c1 : bOf (gBin vNe (gDGet2 (gVar 3) (gBin vIx (gVar 2) (gC (.int 0))) (gC (.int 0))) (gUn vLen (gVar 2))) [some (.d (.int m)), some (.d (.int g)), some (.d (.tuple (.str w :: r))), some (.ref n), none] s2 = .ok (!(sizeOf w == ((r.length + 1 : Nat) : Int))) s2 := ev_bOf ((ev_bin (f := vNe) eg el).trans rfl)
    have c2 : bOf (gBin vNe (gComp (iSeq (gCut (gVar 2) (some (gC (.int 1))) none)) (gtName 4) (bNot (bOf (gCall m__law_is_whole (gaCons (gVar 4) gaNil)))) (gC (.int 1)) [4]) (gLst gaNil)) [some (.d (.int m)), some (.d (.int g)), some (.d (.tuple (.str w :: r))), some (.ref n), none] s2 = .ok (!r.all isI) s2 := by
      refine ev_bOf ((ev_none (p := isI) true ei hrl fun d hd => ⟨_, rfl, ?_⟩).trans rfl)
      exact ev_bnot (ev_bOf (ev_call (m := m__law_is_whole) (ev_cons (ev_var (x := .d d) rfl) ev_nil) (e_law_is_whole (hr d hd))))
    show _ = Res.ok (Flow.rt (Vl.d (.bool ((sizeOf w == ((r.length + 1 : Nat) : Int)) && (r.all isI && r.all (inR (if w = "v" then m else g))))))) s2
    by_cases k1 : (sizeOf w == ((r.length + 1 : Nat) : Int)) = true
    · by_cases k2 : r.all isI = true
      · have c3 := (ev_bor (u := bOf (gBin vNe (gComp (iSeq (gCut (gVar 2) (some (gC (.int 1))) none)) (gtName 4) (bNot (bOf (gCall m__law_is_whole (gaCons (gVar 4) gaNil)))) (gC (.int 1)) [4]) (gLst gaNil))) c1).trans ((if_neg (by rw [k1]; exact Bool.false_ne_true)).trans c2)
        rw [k2] at c3
        refine (ev_seq ((ev_sif c3).trans rfl)).trans ?_
        rw [k1, k2, Bool.true_and, Bool.true_and]
        refine ev_ret ((ev_none (p := inR (if w = "v" then m else g)) false ei hrl fun d hd => ⟨[some (.d (.int m)), some (.d (.int g)), some (.d (.tuple (.str w :: r))), some (.ref n), some (.d d)], rfl, ?_⟩).trans rfl)
        have hi := List.all_eq_true.mp k2 d hd
        cases d with
        | int i =>
          have ec : gIf (bOf (gBin vEq (gBin vIx (gVar 2) (gC (.int 0))) (gC (.str "v")))) (gVar 0) (gVar 1) [some (.d (.int m)), some (.d (.int g)), some (.d (.tuple (.str w :: r))), some (.ref n), some (.d (.int i))] s2 = .ok (.d (.int (if w = "v" then m else g))) s2 := by
            refine (ev_if (ev_bOf ((ev_bin (f := vEq) (e0 _) (ev_c (x := .str "v"))).trans (show _ = Res.ok (Vl.d (.bool (w == ("v" : Str)))) s2 from rfl)))).trans ?_
            by_cases hw : w = "v"
            · rw [if_pos hw, if_pos (beq_iff_eq.mpr hw)]; rfl
            · rw [if_neg hw, if_neg fun e => hw (beq_iff_eq.mp e)]; rfl
          refine ev_bnot (ev_bOf ?_)
          unfold gChain
          rw [bind_ok (ev_c (x := .int 0)), bind_ok (ev_var (x := .d (.int i)) rfl)]
          by_cases h0 : 0 ≤ i
          · rw [bind_ok (show vLe (.d (.int 0)) (.d (.int i)) s2 = .ok (.d (.bool true)) s2 from by show Res.ok (Vl.d (.bool (decide (0 ≤ i)))) s2 = _; rw [decide_eq_true h0])]
            show M.bind _ _ s2 = _
            rw [bind_ok ec]
            show _ = Res.ok (Vl.d (.bool (decide (0 ≤ i) && _))) s2
            rw [decide_eq_true h0, Bool.true_and]
            rfl
          · rw [bind_ok (show vLe (.d (.int 0)) (.d (.int i)) s2 = .ok (.d (.bool false)) s2 from by show Res.ok (Vl.d (.bool (decide (0 ≤ i)))) s2 = _; rw [decide_eq_false h0])]
            show Res.ok _ s2 = Res.ok (Vl.d (.bool (decide (0 ≤ i) && _))) s2
            rw [decide_eq_false h0, Bool.false_and]
        | _ => cases hi
      · have k2 := (Bool.not_eq_true _).mp k2
        have c3 := (ev_bor (u := bOf (gBin vNe (gComp (iSeq (gCut (gVar 2) (some (gC (.int 1))) none)) (gtName 4) (bNot (bOf (gCall m__law_is_whole (gaCons (gVar 4) gaNil)))) (gC (.int 1)) [4]) (gLst gaNil))) c1).trans ((if_neg (by rw [k1]; exact Bool.false_ne_true)).trans c2)
        rw [k2] at c3
        refine (ev_seq_rt ((ev_sif c3).trans ((if_pos rfl).trans (ev_ret (ev_c (x := .bool false)))))).trans ?_
        rw [k2, Bool.false_and, Bool.and_false]
    · have k1 := (Bool.not_eq_true _).mp k1
      rw [k1] at c1
      refine (ev_seq_rt ((ev_sif ((ev_bor c1).trans (if_pos rfl))).trans ((if_pos rfl).trans (ev_ret (ev_c (x := .bool false)))))).trans ?_
      rw [k1, Bool.false_and]
end Zv.K76
set_option Elab.async false
set_option linter.all false
set_option maxRecDepth 100000
set_option maxHeartbeats 1000000
namespace Zv.K76
open PySem L2 Zv
def inEA : PyData → Bool
  | .str s => hasStr "ea" s
  | _ => false
theorem e_law_is_circuit {x : PyData} {st : Store} (F : Fit x) : m__law_is_circuit [.d x] st = .ok (.d (.bool (isCirc x))) st := by
  refine ev_fn ?_
  show b__law_is_circuit [some (.d x), none, none, none] st = _
  generalize hρ : [some (Vl.d x), none, none, none] = ρ
  have h0 : ρ[0]? = some (some (.d x)) := by rw [← hρ]; rfl
  have t1 := ev_bnot (ev_bOf ((ev_un (f := vIsi "tuple") (ev_var h0)).trans (isi_tuple (st := st) (shaped_noDic F.sh))))
  unfold b__law_is_circuit
  by_cases hx : ∃ p gs, x = .tuple [.str p, .tuple gs]
  · obtain ⟨p, gs, rfl⟩ := hx
    obtain ⟨sa, sb⟩ := shaped_two F.sh
    have e0 : gBin vIx (gVar 0) (gC (.int 0)) ρ st = .ok (.d (.str p)) st := (ev_bin (ev_var h0) ev_c).trans (ix_tup (i := 0) rfl)
    have e1 : gBin vIx (gVar 0) (gC (.int 1)) ρ st = .ok (.d (.tuple gs)) st := (ev_bin (ev_var h0) ev_c).trans (ix_tup (i := 1) rfl)
    have c1 : bOr (bNot (bOf (gUn (vIsi "tuple") (gVar 0)))) (bOr (bOf (gBin vNe (gUn vLen (gVar 0)) (gC (.int 2)))) (bOr (bNot (bOf (gUn (vIsi "str") (gBin vIx (gVar 0) (gC (.int 0)))))) (bNot (bOf (gUn (vIsi "tuple") (gBin vIx (gVar 0) (gC (.int 1)))))))) ρ st = .ok false st := by
      refine (ev_bor t1).trans ?_
      refine (ev_bor (show bOf (gBin vNe (gUn vLen (gVar 0)) (gC (.int 2))) ρ st = .ok false st from ev_bOf ((ev_bin (f := vNe) ((ev_un (f := vLen) (ev_var h0)).trans rfl) (ev_c (x := .int 2))).trans rfl))).trans ?_
      refine (ev_bor (show bNot (bOf (gUn (vIsi "str") (gBin vIx (gVar 0) (gC (.int 0))))) ρ st = .ok false st from ev_bnot (k := true) (ev_bOf ((ev_un e0).trans (isi_str (st := st) rfl))))).trans ?_
      exact ev_bnot (k := true) (ev_bOf ((ev_un e1).trans (isi_tuple (st := st) rfl)))
    refine (ev_seq ((ev_sif c1).trans rfl)).trans ?_
    have t4 : bOf (gBin vEq (gBin vIx (gVar 0) (gC (.int 1))) (gTup gaNil)) ρ st = .ok gs.isEmpty st := ev_bOf ((ev_bin (y := .d (.tuple [])) (st2 := st) e1 rfl).trans (eq_unit sb))
    have ei : iSeq (gBin vIx (gVar 0) (gC (.int 0))) ρ st = .ok (signs p) st := by
      unfold iSeq
      rw [bind_ok e0]
      rfl
    have hwl : (signs p).all inEA = wordIn "ea" p := by
      unfold signs wordIn
      rw [List.all_map]
      rfl
    have t5 : bOf (gBin vNe (gComp (iSeq (gBin vIx (gVar 0) (gC (.int 0)))) (gtName 1) (bOf (gBin (vInB true) (gVar 1) (gC (.str "ea")))) (gC (.int 1)) [1]) (gLst gaNil)) ρ st = .ok (!wordIn "ea" p) st := by
      rw [← hwl]
      refine ev_bOf ((ev_none (p := inEA) true ei (by unfold signs; rw [List.length_map, Array.length_toList]; exact (F.st p _ rfl).2) fun d hd => ?_).trans rfl)
      unfold signs at hd
      obtain ⟨c, _, rfl⟩ := List.mem_map.mp hd
      exact ⟨_, rfl, by rw [← hρ]; rfl⟩
    have c2 : bOr (bOf (gBin vEq (gBin vIx (gVar 0) (gC (.int 1))) (gTup gaNil))) (bOf (gBin vNe (gComp (iSeq (gBin vIx (gVar 0) (gC (.int 0)))) (gtName 1) (bOf (gBin (vInB true) (gVar 1) (gC (.str "ea")))) (gC (.int 1)) [1]) (gLst gaNil))) ρ st = .ok (gs.isEmpty || !wordIn "ea" p) st := by
      refine (ev_bor t4).trans ?_
      rw [t5]
      cases gs.isEmpty <;> rfl
    show _ = Res.ok (Flow.rt (Vl.d (.bool (wordIn "ea" p && (!gs.isEmpty && (enumD gs).all (gateAt p.length)))))) st
    by_cases k : (gs.isEmpty || !wordIn "ea" p) = true
    · rw [k] at c2
      refine (ev_seq_rt ((ev_sif c2).trans ((if_pos rfl).trans (ev_ret (ev_c (x := .bool false)))))).trans ?_
      have : (wordIn "ea" p && (!gs.isEmpty && (enumD gs).all (gateAt p.length))) = false := by
        revert k
        cases gs.isEmpty <;> cases wordIn "ea" p <;> simp
      rw [this]
    · have k := (Bool.not_eq_true _).mp k
      rw [k] at c2
      refine (ev_seq ((ev_sif c2).trans rfl)).trans ?_
      have : (wordIn "ea" p && (!gs.isEmpty && (enumD gs).all (gateAt p.length))) = (enumD gs).all (gateAt p.length) := by
        revert k
        cases gs.isEmpty <;> cases wordIn "ea" p <;> simp
      rw [this]
      refine ev_ret ((ev_none (p := gateAt p.length) (ds := enumD gs) false ?_ (by unfold enumD; rw [List.length_mapIdx]; exact (F.tu _ gs rfl).1) fun d hd => ?_).trans rfl)
      · unfold iEnu
        rw [bind_ok (ev_cons e1 ev_nil)]
        rfl
      · obtain ⟨j, hj⟩ := List.mem_iff_getElem?.mp hd
        unfold enumD at hj
        rw [List.getElem?_mapIdx] at hj
        obtain ⟨g, hg, rfl⟩ := Option.map_eq_some_iff.mp hj
        have gm := List.mem_of_getElem? hg
        refine ⟨[some (.d (.tuple [.str p, .tuple gs])), none, some (.d (.int (j : Nat))), some (.d g)], by rw [← hρ]; rfl, ?_⟩
        have el : gUn vLen (gBin vIx (gVar 0) (gC (.int 0))) [some (.d (.tuple [.str p, .tuple gs])), none, some (.d (.int (j : Nat))), some (.d g)] st = .ok (.d (.int p.length)) st := by
          refine (ev_un (f := vLen) ((ev_bin (x := .d (.tuple [.str p, .tuple gs])) (st1 := st) rfl ev_c).trans (ix_tup (i := 0) rfl))).trans ?_
          show (if p.length ≤ sizeLine then _ else Res.stuck) = _
          rw [if_pos (F.st p _ rfl).1]
        exact ev_bnot (ev_bOf (ev_call (m := m__law_is_gate) (ev_cons el (ev_cons (ev_var (x := .d (.int (j : Nat))) rfl) (ev_cons (ev_var (x := .d g) rfl) ev_nil))) (e_law_is_gate (shaped_mem sb g gm) ((F.tu _ gs rfl).2 g gm))))
  · have hc : isCirc x = false := by
      unfold isCirc
      split
      · exact absurd ⟨_, _, rfl⟩ hx
      · rfl
    have c1 : bOr (bNot (bOf (gUn (vIsi "tuple") (gVar 0)))) (bOr (bOf (gBin vNe (gUn vLen (gVar 0)) (gC (.int 2)))) (bOr (bNot (bOf (gUn (vIsi "str") (gBin vIx (gVar 0) (gC (.int 0)))))) (bNot (bOf (gUn (vIsi "tuple") (gBin vIx (gVar 0) (gC (.int 1)))))))) ρ st = .ok true st := by
      refine (ev_bor t1).trans ?_
      cases x with
      | tuple xs =>
        show bOr _ _ ρ st = _
        refine (ev_bor (show bOf (gBin vNe (gUn vLen (gVar 0)) (gC (.int 2))) ρ st = .ok (!((xs.length : Int) == 2)) st from ev_bOf ((ev_bin (f := vNe) ((ev_un (f := vLen) (ev_var h0)).trans rfl) (ev_c (x := .int 2))).trans rfl))).trans ?_
        by_cases hl : (xs.length : Int) = 2
        · obtain ⟨a, b, rfl⟩ : ∃ a b, xs = [a, b] := by
            match xs, hl with
            | [a, b], _ => exact ⟨a, b, rfl⟩
            | [], e => simp at e
            | [a], e => simp at e
            | a :: b :: c :: r, e => simp only [List.length_cons] at e; omega
          obtain ⟨sa, sb⟩ := shaped_two F.sh
          have e0 : gBin vIx (gVar 0) (gC (.int 0)) ρ st = .ok (.d a) st := (ev_bin (ev_var h0) ev_c).trans (ix_tup (i := 0) rfl)
          have e1 : gBin vIx (gVar 0) (gC (.int 1)) ρ st = .ok (.d b) st := (ev_bin (ev_var h0) ev_c).trans (ix_tup (i := 1) rfl)
          show bOr _ _ ρ st = _
          refine (ev_bor (ev_bnot (ev_bOf ((ev_un (f := vIsi "str") e0).trans (isi_str (st := st) (shaped_noDic sa)))))).trans ?_
          have e3 := ev_bnot (ev_bOf ((ev_un (f := vIsi "tuple") e1).trans (isi_tuple (st := st) (shaped_noDic sb))))
          by_cases ha : ∃ p, a = .str p
          · obtain ⟨p, rfl⟩ := ha
            refine e3.trans ?_
            cases b with
            | tuple gs => exact absurd ⟨_, _, rfl⟩ hx
            | _ => rfl
          · have : isS a = false := by
              cases a with
              | str p => exact absurd ⟨_, rfl⟩ ha
              | _ => rfl
            rw [this]
            rfl
        · rw [beq_eq_false_iff_ne.mpr hl]
          rfl
      | _ => rfl
    rw [hc]
    exact ev_seq_rt ((ev_sif c1).trans ((if_pos rfl).trans (ev_ret (ev_c (x := .bool false)))))
end Zv.K76
set_option Elab.async false
set_option linter.all false
set_option maxRecDepth 100000
set_option maxHeartbeats 1000000
namespace Zv
open PySem L2
/-! ### sizes of data -/
theorem layAll_iff (xs : List PyData) : PyData.canLayAll0 xs = xs.all PyData.canLay0 := by
  induction xs with
  | nil => rfl
  | cons x xs ih => rw [PyData.canLayAll0, ih, List.all_cons]
theorem shortAll_iff (B : Nat) (xs : List PyData) : PyData.intsShortAll B xs = xs.all (PyData.intsShort B) := by
  induction xs with
  | nil => rfl
  | cons x xs ih => rw [PyData.intsShortAll, ih, List.all_cons]
theorem depthAll_iff (k : Nat) (xs : List PyData) : PyData.depthAll xs ≤ k ↔ ∀ x ∈ xs, x.depth ≤ k := by
  induction xs with
  | nil => simp [PyData.depthAll]
  | cons x xs ih => rw [PyData.depthAll, Nat.max_le, ih]; simp
theorem weightAll_append (xs ys : List PyData) : PyData.weightAll (xs ++ ys) = PyData.weightAll xs + PyData.weightAll ys := by
  induction xs with
  | nil => simp [PyData.weightAll]
  | cons x xs ih => rw [List.cons_append, PyData.weightAll, PyData.weightAll, ih]; omega
theorem weightAll_len (xs : List PyData) : xs.length ≤ PyData.weightAll xs := by
  induction xs with
  | nil => simp
  | cons x xs ih => rw [PyData.weightAll, List.length_cons]; omega
theorem weight_mem {xs : List PyData} {x : PyData} (h : x ∈ xs) : x.weight + 1 ≤ PyData.weightAll xs := by
  induction xs with
  | nil => cases h
  | cons y ys ih =>
    rw [PyData.weightAll]
    rcases List.mem_cons.mp h with rfl | h
    · omega
    · have := ih h; omega
theorem showAll_iff (xs : List PyData) : PyData.showableAll xs = xs.all PyData.showable := by
  induction xs with
  | nil => rfl
  | cons x xs ih => rw [PyData.showableAll, ih, List.all_cons]
/-- a leaf that may stand in small data -/
def lf (d : PyData) : Prop := d.canLay0 = true ∧ d.intsShort 13 = true ∧ d.showable = true
/-- data without dicts, texts and numbers short enough to be shown; no deeper than k, no heavier than w -/
structure Sm (k w : Nat) (d : PyData) : Prop where
  lf : lf d
  dep : d.depth ≤ k
  wt : d.weight ≤ w
structure Sms (k w : Nat) (xs : List PyData) : Prop where
  lf : ∀ x ∈ xs, Zv.lf x
  dep : ∀ x ∈ xs, x.depth ≤ k
  wt : PyData.weightAll xs ≤ w
theorem lf_tup {xs : List PyData} : lf (.tuple xs) ↔ ∀ x ∈ xs, lf x := by
  unfold lf
  rw [PyData.canLay0, layAll_iff, List.all_eq_true, PyData.intsShort, shortAll_iff, List.all_eq_true, PyData.showable, showAll_iff, List.all_eq_true]
  exact ⟨fun h x hx => ⟨h.1 x hx, h.2.1 x hx, h.2.2 x hx⟩, fun h => ⟨fun x hx => (h x hx).1, fun x hx => (h x hx).2.1, fun x hx => (h x hx).2.2⟩⟩
theorem lf_lst {xs : List PyData} : lf (.list xs) ↔ ∀ x ∈ xs, lf x := by
  unfold lf
  rw [PyData.canLay0, layAll_iff, List.all_eq_true, PyData.intsShort, shortAll_iff, List.all_eq_true, PyData.showable, showAll_iff, List.all_eq_true]
  exact ⟨fun h x hx => ⟨h.1 x hx, h.2.1 x hx, h.2.2 x hx⟩, fun h => ⟨fun x hx => (h x hx).1, fun x hx => (h x hx).2.1, fun x hx => (h x hx).2.2⟩⟩
theorem Sms.tup {k w : Nat} {xs : List PyData} (h : Sms k w xs) : Sm (k + 1) w (.tuple xs) := ⟨lf_tup.mpr h.lf, by have := (depthAll_iff k xs).mpr h.dep; simp only [PyData.depth]; omega, by simp only [PyData.weight]; exact h.wt⟩
theorem Sms.lst {k w : Nat} {xs : List PyData} (h : Sms k w xs) : Sm (k + 1) w (.list xs) := ⟨lf_lst.mpr h.lf, by have := (depthAll_iff k xs).mpr h.dep; simp only [PyData.depth]; omega, by simp only [PyData.weight]; exact h.wt⟩
theorem Sm.ofTup {k w : Nat} {xs : List PyData} (h : Sm k w (.tuple xs)) : Sms (k - 1) w xs := by
  obtain ⟨h1, h3, h4⟩ := h
  simp only [PyData.depth] at h3
  simp only [PyData.weight] at h4
  exact ⟨lf_tup.mp h1, (depthAll_iff _ _).mp (by omega), h4⟩
theorem Sm.tupPos {k w : Nat} {xs : List PyData} (h : Sm k w (.tuple xs)) : 1 ≤ k := by
  have := h.dep
  simp only [PyData.depth] at this
  omega
theorem Sms.nil {k w : Nat} : Sms k w [] := ⟨fun _ h => (by cases h), fun _ h => (by cases h), by simp [PyData.weightAll]⟩
theorem Sms.cons {k w u : Nat} {x : PyData} {xs : List PyData} (h : Sm k w x) (r : Sms k u xs) : Sms k (w + 1 + u) (x :: xs) := ⟨fun y hy => (List.mem_cons.mp hy).elim (fun e => e ▸ h.lf) (r.lf y), fun y hy => (List.mem_cons.mp hy).elim (fun e => e ▸ h.dep) (r.dep y), by
    have := h.wt; have := r.wt; rw [PyData.weightAll]; omega⟩
theorem Sms.app {k w u : Nat} {xs ys : List PyData} (h : Sms k w xs) (r : Sms k u ys) : Sms k (w + u) (xs ++ ys) := ⟨fun y hy => (List.mem_append.mp hy).elim (h.lf y) (r.lf y), fun y hy => (List.mem_append.mp hy).elim (h.dep y) (r.dep y), by
    have := h.wt; have := r.wt; rw [weightAll_append]; omega⟩
theorem Sms.sub {k w w' : Nat} {xs ys : List PyData} (h : Sms k w xs) (hs : ∀ y ∈ ys, y ∈ xs) (hw : PyData.weightAll ys ≤ w') : Sms k w' ys := ⟨fun y hy => h.lf y (hs y hy), fun y hy => h.dep y (hs y hy), hw⟩
theorem Sms.mem {k w : Nat} {xs : List PyData} {x : PyData} (h : Sms k w xs) (hx : x ∈ xs) : Sm k w x := ⟨h.lf x hx, h.dep x hx, by have := weight_mem hx; have := h.wt; omega⟩
theorem Sm.more {k w k' w' : Nat} {d : PyData} (h : Sm k w d) (hk : k ≤ k') (hw : w ≤ w') : Sm k' w' d := ⟨h.lf, Nat.le_trans h.dep hk, Nat.le_trans h.wt hw⟩
theorem Sms.more {k w k' w' : Nat} {d : List PyData} (h : Sms k w d) (hk : k ≤ k') (hw : w ≤ w') : Sms k' w' d := ⟨h.lf, fun x hx => Nat.le_trans (h.dep x hx) hk, Nat.le_trans h.wt hw⟩
theorem Sm.str {k w : Nat} {s : Str} (h1 : ∀ c ∈ s.cps.toList, c < 1114112) (h2 : s.cps.size ≤ w) : Sm k w (.str s) := ⟨⟨by
  rw [PyData.canLay0]
  show (s.cps.all fun c => decide (c < 0x110000)) = true
  rw [Array.all_eq_true_iff_forall_mem]
  exact fun c hc => decide_eq_true (h1 c (Array.mem_toList_iff.mpr hc)), rfl, rfl⟩, by simp [PyData.depth], by simpa [PyData.weight] using h2⟩
theorem Sm.ofInt {k w : Nat} {i : Int} (h : i.natAbs < 10 ^ 12) (hw : 40 ≤ w) : Sm k w (.int i) := by
  have hl : i.natAbs = 0 ∨ i.natAbs.log2 < 40 := by
    by_cases h0 : i.natAbs = 0
    · exact .inl h0
    · exact .inr ((Nat.log2_lt h0 (k := 40)).mpr (Nat.lt_trans h (by decide)))
  refine ⟨⟨rfl, ?_, ?_⟩, by simp [PyData.depth], ?_⟩
  · rw [PyData.intsShort]; exact decide_eq_true (PyData.shown_int_le h)
  · rw [PyData.showable]
    refine decide_eq_true ?_
    rcases hl with e | e
    · rw [e]; decide
    · omega
  · simp only [PyData.weight]
    split
    · omega
    · rcases hl with e | e
      · rw [e]; rw [show Nat.log2 0 = 0 from by decide]; omega
      · omega
theorem Sm.none {k w : Nat} : Sm k w .none := ⟨⟨rfl, rfl, rfl⟩, by simp [PyData.depth], by simp [PyData.weight]⟩
theorem Sm.bool {k w : Nat} {b : Bool} : Sm k w (.bool b) := ⟨⟨rfl, rfl, rfl⟩, by simp [PyData.depth], by simp [PyData.weight]⟩
/-! what small data allows -/
theorem Sm.shaped {k w : Nat} {d : PyData} (h : Sm k w d) (hk : k ≤ 64) : SeqAt.shaped d = true := by
  unfold SeqAt.shaped
  rw [h.lf.1, Bool.true_and]
  exact decide_eq_true (Nat.le_trans h.dep hk)
theorem Sm.show {k w : Nat} {d : PyData} (h : Sm k w d) (hk : k ≤ 31) (hw : w ≤ 2 ^ 20) : showOk d = true := by
  unfold showOk
  have h1 : d.hasDict = false := PyData.hasDict_of_canLay d h.lf.1
  have h2 : PyData.layable0 d = true := by
    unfold PyData.layable0
    rw [h.lf.1, decide_eq_true (show d.depth ≤ 64 from by have := h.dep; omega), decide_eq_true (Nat.le_trans h.wt hw)]
    rfl
  have h3 := PyData.shown_fits_of_layable0 (B := 13) (by decide) (by decide) h2 h.lf.2.1
  rw [h.lf.2.2, h1, decide_eq_true (show d.depth < 32 from by have := h.dep; omega), decide_eq_true h3]
  rfl
end Zv
set_option Elab.async false
set_option linter.all false
set_option maxRecDepth 100000
set_option maxHeartbeats 1000000
namespace Zv
open PySem L2
theorem placed_list (x : Str) (f : Nat → List Nat) : (placed x fun _ c => f c).toList = x.cps.toList.flatMap f := by
  unfold placed
  have h : ∀ l : List Nat, l.mapIdx (fun _ c => (f c).toArray) = l.map fun c => (f c).toArray := fun l => by
    apply List.ext_getElem?
    intro i
    simp
  rw [Array.toList_flatten]
  simp only [Array.toList_mapIdx, h, List.map_map, List.flatMap_def]
  rfl
theorem upperOf_low : ∀ c, 97 ≤ c → c ≤ 122 → Unicode.upperOf c = [c - 32] := by
  have h : ∀ i : Fin 26, Unicode.upperOf (97 + i.val) = [97 + i.val - 32] := by decide +kernel
  intro c h1 h2
  have := h ⟨c - 97, by omega⟩
  rw [show 97 + (c - 97) = c from by omega] at this
  exact this
/-- a text of few small letters -/
def low (s : Str) : Prop := (∀ c ∈ s.cps.toList, 97 ≤ c ∧ c ≤ 122) ∧ s.cps.size ≤ 64
theorem upper_list {s : Str} (h : ∀ c ∈ s.cps.toList, 97 ≤ c ∧ c ≤ 122) : (Txt.upper s).cps.toList = s.cps.toList.map (· - 32) := by
  show (placed s fun _ c => Unicode.upperOf c).toList = _
  rw [placed_list]
  generalize s.cps.toList = l at h
  induction l with
  | nil => rfl
  | cons c l ih =>
    rw [List.flatMap_cons, List.map_cons, ih (fun d hd => h d (List.mem_cons_of_mem _ hd)), upperOf_low c (h c List.mem_cons_self).1 (h c List.mem_cons_self).2]
    rfl
theorem sm_upper {s : Str} {k w : Nat} (h : low s) (hw : 64 ≤ w) : Sm k w (.str (Txt.upper s)) := by
  refine Sm.str ?_ ?_
  · rw [upper_list h.1]
    intro c hc
    obtain ⟨d, hd, rfl⟩ := List.mem_map.mp hc
    have := h.1 d hd
    omega
  · rw [← Array.length_toList, upper_list h.1, List.length_map, Array.length_toList]
    exact Nat.le_trans h.2 hw
theorem sm_low {s : Str} {k w : Nat} (h : low s) (hw : s.cps.size ≤ w) : Sm k w (.str s) := Sm.str (fun c hc => by have := h.1 c hc; omega) hw
theorem sm_cat {s t : Str} {k w u v : Nat} (h : Sm k w (.str s)) (r : Sm k u (.str t)) (hv : w + u ≤ v) : Sm k v (.str (s ++ t)) := by
  have h1 := h.lf.1
  have h2 := r.lf.1
  have h3 := h.wt
  have h4 := r.wt
  rw [PyData.canLay0] at h1 h2
  simp only [PyData.weight] at h3 h4
  refine Sm.str ?_ ?_
  · intro c hc
    rw [PySem.Str.cps_append, Array.toList_append, List.mem_append] at hc
    rcases hc with hc | hc
    · exact of_decide_eq_true ((Array.all_eq_true_iff_forall_mem.mp (show (s.cps.all fun c => decide (c < 0x110000)) = true from h1)) c (Array.mem_toList_iff.mp hc))
    · exact of_decide_eq_true ((Array.all_eq_true_iff_forall_mem.mp (show (t.cps.all fun c => decide (c < 0x110000)) = true from h2)) c (Array.mem_toList_iff.mp hc))
  · rw [PySem.Str.cps_append, Array.size_append]
    omega
theorem sm_cut {s : Str} {k w : Nat} {lo hi : Option Int} (h : Sm k w (.str s)) : Sm k w (.str (cutS s lo hi)) := by
  have h1 := h.lf.1
  have h3 := h.wt
  rw [PyData.canLay0] at h1
  simp only [PyData.weight] at h3
  refine Sm.str ?_ ?_
  · intro c hc
    unfold cutS at hc
    have hc := List.mem_of_mem_drop (List.mem_of_mem_take (by simpa using hc))
    exact of_decide_eq_true ((Array.all_eq_true_iff_forall_mem.mp (show (s.cps.all fun c => decide (c < 0x110000)) = true from h1)) c (Array.mem_toList_iff.mp hc))
  · unfold cutS
    simp only [List.size_toArray, List.length_take, List.length_drop, Array.length_toList]
    omega
theorem ofString_list (s : String) : (Str.ofString s).cps.toList = s.toList.map Char.toNat := by
  unfold Str.ofString
  simp only [cpsOfBytes_string]
theorem sm_ofString {s : String} {k w : Nat} (h : s.length ≤ w) : Sm k w (.str (Str.ofString s)) := by
  refine Sm.str ?_ ?_
  · rw [ofString_list]
    intro c hc
    obtain ⟨d, _, rfl⟩ := List.mem_map.mp hc
    have h := d.valid
    simp only [UInt32.isValidChar, Nat.isValidChar] at h
    show d.val.toNat < _
    omega
  · rw [← Array.length_toList, ofString_list, List.length_map]
    rw [String.length_toList]; exact h
theorem sm_text {i : Int} {k w : Nat} (h : i.natAbs < 10 ^ 12) (hw : 13 ≤ w) : Sm k w (.str (Str.ofString (toString i))) := by
  refine sm_ofString (Nat.le_trans ?_ hw)
  have := PyData.shown_int_le h
  rw [show PyData.shown (.int i) = Str.ofString (toString i) from rfl, ofString_length] at this
  exact this
/-- plain data: nothing but small texts, numbers and tuples -/
inductive Pl : PyData → Prop
  | int {i : Int} (h : i.natAbs < 2 ^ 31) : Pl (.int i)
  | str {s : Str} (h : low s) : Pl (.str s)
  | tup {xs : List PyData} (h : ∀ x ∈ xs, Pl x) (hl : xs.length ≤ 2 ^ 20) : Pl (.tuple xs)
theorem Pl.lf {d : PyData} (h : Pl d) : lf d := by
  induction h with
  | int h => exact (Sm.ofInt (k := 0) (w := 40) (by omega) (by omega)).lf
  | str h => exact (sm_low (k := 0) (w := 64) h h.2).lf
  | tup h hl ih => exact lf_tup.mpr ih
end Zv
set_option Elab.async false
set_option linter.all false
set_option maxRecDepth 100000
set_option maxHeartbeats 1000000
namespace Zv.K76
open PySem L2 Zv
theorem datsOf_map (ds : List PyData) : datsOf (ds.map Vl.d) = some ds := by
  induction ds with
  | nil => rfl
  | cons d ds ih => rw [List.map_cons, datsOf, ih]; rfl
theorem ev_lst {gs : GA} {ρ : Env} {st st1 : Store} {ds : List PyData} (h : gs ρ st = .ok (ds.map .d) st1) (hz : ds.length ≤ sizeLine) : gLst gs ρ st = .ok (.own ds) st1 := by
  unfold gLst
  rw [bind_ok h, datsOf_map]
  exact if_pos hz
theorem ev_tup {gs : GA} {ρ : Env} {st st1 : Store} {ds : List PyData} (h : gs ρ st = .ok (ds.map .d) st1) (hz : ds.length ≤ sizeLine) : gTup gs ρ st = .ok (.d (.tuple ds)) st1 := by
  unfold gTup
  rw [bind_ok h, datsOf_map]
  exact if_pos hz
/-- a pick among what a display lists -/
theorem epick {ρ : Env} {st : Store} {n l : Nat} {k : Int} {a : G} {gs : GA} {ds : List PyData} {Q : Vl → Store → Prop} (D : Dk st n l k) (ha : a ρ st = .ok (.ref n) st) (hg : gs ρ st = .ok (ds.map .d) st) (h0 : ds ≠ []) (hz : ds.length ≤ 1000) (hk : k < 2 ^ 40)
    (q : ∀ x ∈ ds, ∀ st', Dk st' n l (k + 1) → Fr n l st st' → Q (.d x) st') : Ok (gCall m__law_pick (gaCons a (gaCons (gLst gs) gaNil)) ρ st) Q := by
  refine ok_call ?_
  rw [ev_cons ha (ev_cons (ev_lst hg (by rw [sizeLine_eq]; omega)) (show gaNil ρ st = .ok [] st from rfl))]
  refine ok_ok.mpr (ok_mono (pick_ok D h0 (Nat.lt_of_le_of_lt hz (by decide)) hk) fun v st' ⟨x, hx, e, h3, h4⟩ => ?_)
  subst e
  exact q x hx st' h3 h4
theorem finQ_f {n0 : Nat} {v : Vl} {x : PyData} {st : Store} {Q : Vl → Store → Prop} (hv : frz v = .d x) (hr : ∀ i, v ≠ .ref i) (h : Q v (st.take n0)) : finQ false n0 Q (.rt v) st := by
  cases v with
  | d y => exact h
  | own xs => exact h
  | ref i => exact absurd rfl (hr i)
  | scr ns => cases hv
theorem cut_take {α : Type} (xs : List α) (i : Nat) (h : i ≤ xs.length) : cutL xs none (some (i : Int)) = xs.take i := by
  unfold cutL
  rw [HT.sIx_nat, HT.sIx_none, List.drop_zero, Nat.sub_zero, Nat.min_eq_left h]
theorem cut_drop {α : Type} (xs : List α) (i : Nat) (h : i ≤ xs.length) : cutL xs (some (i : Int)) none = xs.drop i := by
  unfold cutL
  rw [HT.sIx_nat, HT.sIx_none, Nat.min_eq_left h, List.take_of_length_le]
  rw [List.length_drop]
  exact Nat.le_refl _
theorem ev_part1 {b : G} {ρ : Env} {st : Store} {i : Int} (hb : b ρ st = .ok (.d (.int i)) st) : gPart (some b) ρ st = .ok (some i) st := by
  show M.bind (b ρ) _ st = _
  rw [bind_ok hb]
theorem ev_to {a b : G} {ρ : Env} {st : Store} {xs : List PyData} {i : Nat} (ha : a ρ st = .ok (.d (.tuple xs)) st) (hb : b ρ st = .ok (.d (.int i)) st) (h : i ≤ xs.length) : gCut a none (some b) ρ st = .ok (.d (.tuple (xs.take i))) st := by
  unfold gCut
  rw [bind_ok ha, bind_ok (show gPart none ρ st = .ok none st from rfl), bind_ok (ev_part1 hb)]
  show Res.ok (Vl.d (.tuple (cutL xs none (some (i : Int))))) st = _
  rw [cut_take xs i h]
theorem ev_from {a b : G} {ρ : Env} {st : Store} {xs : List PyData} {i : Nat} (ha : a ρ st = .ok (.d (.tuple xs)) st) (hb : b ρ st = .ok (.d (.int i)) st) (h : i ≤ xs.length) : gCut a (some b) none ρ st = .ok (.d (.tuple (xs.drop i))) st := by
  unfold gCut
  rw [bind_ok ha, bind_ok (ev_part1 hb), bind_ok (show gPart none ρ st = .ok none st from rfl)]
  show Res.ok (Vl.d (.tuple (cutL xs (some (i : Int)) none))) st = _
  rw [cut_drop xs i h]
theorem add_tup {xs ys : List PyData} {st : Store} (h : xs.length + ys.length ≤ sizeLine) : vAdd (.d (.tuple xs)) (.d (.tuple ys)) st = .ok (.d (.tuple (xs ++ ys))) st := if_pos h
theorem add_str {s t : Str} {st : Store} (h : s.length + t.length ≤ sizeLine) : vAdd (.d (.str s)) (.d (.str t)) st = .ok (.d (.str (s ++ t))) st := if_pos h
/-- what the law's bending needs to know of what was handed in, and tells -/
def Bent (n l : Nat) (k : Int) (st : Store) (kd w : Nat) (v : Vl) (st' : Store) : Prop := ∃ d, frz v = .d d ∧ (∀ i, v ≠ .ref i) ∧ Sm kd w d ∧ Dk st' n l k ∧ Fr n l st st'
theorem ints_list {i : Int} (hi : i.natAbs < 2 ^ 31) {w : Nat} (hw : 40 ≤ w) : ∀ x ∈ [PyData.int (i + 1), .int (i - 1), .bool (i == 1), .bool (i == 0), .int (-1), .str (Str.ofString (toString i)), .none, .int (i + 7)], Sm 0 w x := by
  simp only [List.forall_mem_cons]
  exact ⟨Sm.ofInt (by omega) hw, Sm.ofInt (by omega) hw, Sm.bool, Sm.bool, Sm.ofInt (by decide) hw, sm_text (by omega) (by omega), Sm.none, Sm.ofInt (by omega) hw, fun _ h => by cases h⟩
theorem strs_list {s : Str} (h : low s) {w : Nat} (hw : 90 ≤ w) : ∀ x ∈ [PyData.str (s ++ ("e" : Str)), .str (cutS s (some 1) none), .str (Txt.upper s), .str "v", .str "yes", .str "not", .str "and", .str "xor", .str "E", .str "", .none, .str (s ++ (" " : Str))], Sm 0 w x := by
  have c : ∀ z : String, z.length ≤ 20 → Sm 0 20 (.str (Str.ofString z)) := fun z hz => sm_ofString hz
  have c' : ∀ z : String, z.length ≤ 20 → Sm 0 w (.str (Str.ofString z)) := fun z hz => (c z hz).more (Nat.le_refl _) (by omega)
  have hs : Sm 0 64 (.str s) := sm_low h h.2
  simp only [List.forall_mem_cons]
  exact ⟨sm_cat hs (c "e" (by decide)) (by omega), (sm_cut hs).more (Nat.le_refl _) (by omega), sm_upper h (by omega), c' "v" (by decide), c' "yes" (by decide), c' "not" (by decide), c' "and" (by decide), c' "xor" (by decide), c' "E" (by decide), c' "" (by decide), Sm.none, sm_cat hs (c " " (by decide)) (by omega), fun _ h => by cases h⟩
theorem rest_list : ∀ x ∈ [PyData.none, .tuple [], .int 0, .list [], .str "", .tuple [.str "yes"], .tuple [.tuple [.str "yes"]], .bool true, .tuple [.str ""], .tuple [.str "e", .tuple []]], Sm 3 60 x := by
  have c' : ∀ (z : String) (k : Nat), z.length ≤ 20 → Sm k 20 (.str (Str.ofString z)) := fun z k hz => sm_ofString hz
  simp only [List.forall_mem_cons]
  refine ⟨Sm.none, Sms.nil.tup, Sm.ofInt (by decide) (by decide), Sms.nil.lst, (c' "" 3 (by decide)).more (Nat.le_refl _) (by decide), (Sms.cons (c' "yes" 2 (by decide)) (Sms.nil (w := 0))).tup.more (Nat.le_refl _) (by decide), ?_, Sm.bool, (Sms.cons (c' "" 2 (by decide)) (Sms.nil (w := 0))).tup.more (Nat.le_refl _) (by decide), ?_, fun _ h => by cases h⟩
  · exact (Sms.cons (Sms.cons (c' "yes" 1 (by decide)) (Sms.nil (w := 0))).tup (Sms.nil (w := 0))).tup.more (Nat.le_refl _) (by decide)
  · exact (Sms.cons (c' "e" 2 (by decide)) (Sms.cons (Sms.nil (k := 1) (w := 0)).tup (Sms.nil (w := 0)))).tup.more (Nat.le_refl _) (by decide)
end Zv.K76
set_option Elab.async false
set_option linter.all false
set_option maxRecDepth 100000
set_option maxHeartbeats 1000000
namespace Zv.K76
open PySem L2 Zv
theorem eqv_pl {i j : Int} {st : Store} : vEq (.d (.int i)) (.d (.int j)) st = .ok (.d (.bool (i == j))) st := rfl
/-- the pick of a number otherwise -/
theorem bent_int {ρ : Env} {st : Store} {n l : Nat} {k : Int} {i : Int} {Q : Vl → Store → Prop} (h0 : ρ[0]? = some (some (.ref n))) (h1 : ρ[1]? = some (some (.d (.int i)))) (D : Dk st n l k) (hi : i.natAbs < 2 ^ 31) (hk : k < 2 ^ 40)
    (q : ∀ x st', Sm 0 40 x → Dk st' n l (k + 1) → Fr n l st st' → Q (.d x) st') :
    Ok (gCall m__law_pick (gaCons (gVar 0) (gaCons (gLst (gaCons (gBin vAdd (gVar 1) (gC (.int 1))) (gaCons (gBin vSub (gVar 1) (gC (.int 1))) (gaCons (gBin vEq (gVar 1) (gC (.int 1))) (gaCons (gBin vEq (gVar 1) (gC (.int 0))) (gaCons (gUn vNeg (gC (.int 1))) (gaCons (gUn vStr (gVar 1)) (gaCons (gC .none) (gaCons (gBin vAdd (gVar 1) (gC (.int 7))) (gaNil)))))))))) (gaNil))) ρ st) Q := by
  have e1 := ev_var (st := st) h1
  have es : gUn vStr (gVar 1) ρ st = .ok (.d (.str (Str.ofString (toString i)))) st := by
    refine (ev_un (f := vStr) e1).trans ?_
    have : i.natAbs.log2 < 1920 := by
      have h := (Sm.ofInt (k := 0) (w := 40) (show i.natAbs < 10 ^ 12 from by omega) (by omega)).lf.2.2
      rw [PyData.showable] at h
      exact of_decide_eq_true h
    show (if i.natAbs.log2 < 1920 then Res.ok (Vl.d (.str (toString i))) st else Res.stuck) = _
    rw [if_pos this]
  exact epick D (ev_var h0) (ev_cons ((ev_bin (f := vAdd) e1 (ev_c (x := .int 1))).trans rfl) (ev_cons ((ev_bin (f := vSub) e1 (ev_c (x := .int 1))).trans rfl) (ev_cons ((ev_bin (f := vEq) e1 (ev_c (x := .int 1))).trans rfl) (ev_cons ((ev_bin (f := vEq) e1 (ev_c (x := .int 0))).trans rfl)
    (ev_cons (show gUn vNeg (gC (.int 1)) ρ st = .ok (.d (.int (-1))) st from rfl) (ev_cons es (ev_cons ev_c (ev_cons ((ev_bin (f := vAdd) e1 (ev_c (x := .int 7))).trans rfl) ev_nil)))))))) (ds := [PyData.int (i + 1), .int (i - 1), .bool (i == 1), .bool (i == 0), .int (-1), .str (Str.ofString (toString i)), .none, .int (i + 7)])
    (by simp) (by simp) hk fun x hx st' D' F' => q x st' (ints_list hi (Nat.le_refl _) x hx) D' F'
theorem bent_str {ρ : Env} {st : Store} {n l : Nat} {k : Int} {s : Str} {Q : Vl → Store → Prop} (h0 : ρ[0]? = some (some (.ref n))) (h1 : ρ[1]? = some (some (.d (.str s)))) (D : Dk st n l k) (hs : low s) (hk : k < 2 ^ 40)
    (q : ∀ x st', Sm 0 90 x → Dk st' n l (k + 1) → Fr n l st st' → Q (.d x) st') :
    Ok (gCall m__law_pick (gaCons (gVar 0) (gaCons (gLst (gaCons (gBin vAdd (gVar 1) (gC (.str "e"))) (gaCons (gCut (gVar 1) (some (gC (.int 1))) none) (gaCons (gMeth isStr mUpper (gVar 1) gaNil) (gaCons (gC (.str "v")) (gaCons (gC (.str "yes")) (gaCons (gC (.str "not")) (gaCons (gC (.str "and")) (gaCons (gC (.str "xor")) (gaCons (gC (.str "E")) (gaCons (gC (.str "")) (gaCons (gC .none) (gaCons (gBin vAdd (gVar 1) (gC (.str " "))) (gaNil)))))))))))))) (gaNil))) ρ st) Q := by
  have e1 := ev_var (st := st) h1
  have hl : s.length ≤ 64 := hs.2
  have ec : gCut (gVar 1) (some (gC (.int 1))) none ρ st = .ok (.d (.str (cutS s (some 1) none))) st := by
    unfold gCut
    rw [bind_ok e1, bind_ok (ev_part1 (b := gC (.int 1)) (i := 1) rfl), bind_ok (show gPart none ρ st = .ok none st from rfl)]
    show (if s.length ≤ sizeLine then _ else Res.stuck) = _
    rw [if_pos (by rw [sizeLine_eq]; omega)]
  have eu : gMeth isStr mUpper (gVar 1) gaNil ρ st = .ok (.d (.str (Txt.upper s))) st := by
    refine (ev_meth e1 (chk_ok rfl) ev_nil).trans ?_
    show (if s.length ≤ 5592405 then _ else Res.stuck) = _
    rw [if_pos (by omega)]
  have ea : ∀ z : Str, z.length ≤ 100 → gBin vAdd (gVar 1) (gC (.str z)) ρ st = .ok (.d (.str (s ++ z))) st := fun z hz => (ev_bin (f := vAdd) e1 (ev_c (x := .str z))).trans (add_str (by rw [sizeLine_eq]; omega))
  exact epick D (ev_var h0) (ev_cons (ea "e" (by decide)) (ev_cons ec (ev_cons eu (ev_cons ev_c (ev_cons ev_c (ev_cons ev_c (ev_cons ev_c (ev_cons ev_c (ev_cons ev_c (ev_cons ev_c (ev_cons ev_c (ev_cons (ea " " (by decide)) ev_nil))))))))))))
    (ds := [PyData.str (s ++ ("e" : Str)), .str (cutS s (some 1) none), .str (Txt.upper s), .str "v", .str "yes", .str "not", .str "and", .str "xor", .str "E", .str "", .none, .str (s ++ (" " : Str))])
    (by simp) (by simp) hk fun x hx st' D' F' => q x st' (strs_list hs (Nat.le_refl _) x hx) D' F'
theorem bent_rest {ρ : Env} {st : Store} {n l : Nat} {k : Int} {Q : Vl → Store → Prop} (h0 : ρ[0]? = some (some (.ref n))) (D : Dk st n l k) (hk : k < 2 ^ 40)
    (q : ∀ x st', Sm 3 60 x → Dk st' n l (k + 1) → Fr n l st st' → Q (.d x) st') :
    Ok (gCall m__law_pick (gaCons (gVar 0) (gaCons (gLst (gaCons (gC .none) (gaCons (gTup (gaNil)) (gaCons (gC (.int 0)) (gaCons (gLst (gaNil)) (gaCons (gC (.str "")) (gaCons (gTup (gaCons (gC (.str "yes")) (gaNil))) (gaCons (gTup (gaCons (gTup (gaCons (gC (.str "yes")) (gaNil))) (gaNil))) (gaCons (gC (.bool true)) (gaCons (gTup (gaCons (gC (.str "")) (gaNil))) (gaCons (gTup (gaCons (gC (.str "e")) (gaCons (gTup (gaNil)) (gaNil)))) (gaNil)))))))))))) (gaNil))) ρ st) Q :=
  epick D (ev_var h0) (show _ = Res.ok _ st from rfl) (ds := [PyData.none, .tuple [], .int 0, .list [], .str "", .tuple [.str "yes"], .tuple [.tuple [.str "yes"]], .bool true, .tuple [.str ""], .tuple [.str "e", .tuple []]])
    (by simp) (by simp) hk fun x hx st' D' F' => q x st' (rest_list x hx) D' F'
end Zv.K76
set_option Elab.async false
set_option linter.all false
set_option maxRecDepth 100000
set_option maxHeartbeats 1000000
namespace Zv.K76
open PySem L2 Zv
def tailB : SG := (sSeq (sIf (bOf (gUn (vIsi "int") (gVar 1))) (sRet (gCall m__law_pick (gaCons (gVar 0) (gaCons (gLst (gaCons (gBin vAdd (gVar 1) (gC (.int 1))) (gaCons (gBin vSub (gVar 1) (gC (.int 1))) (gaCons (gBin vEq (gVar 1) (gC (.int 1))) (gaCons (gBin vEq (gVar 1) (gC (.int 0))) (gaCons (gUn vNeg (gC (.int 1))) (gaCons (gUn vStr (gVar 1)) (gaCons (gC .none) (gaCons (gBin vAdd (gVar 1) (gC (.int 7))) (gaNil)))))))))) (gaNil))))) (sSkip))
  (sSeq (sIf (bOf (gUn (vIsi "str") (gVar 1))) (sRet (gCall m__law_pick (gaCons (gVar 0) (gaCons (gLst (gaCons (gBin vAdd (gVar 1) (gC (.str "e"))) (gaCons (gCut (gVar 1) (some (gC (.int 1))) none) (gaCons (gMeth isStr mUpper (gVar 1) gaNil) (gaCons (gC (.str "v")) (gaCons (gC (.str "yes")) (gaCons (gC (.str "not")) (gaCons (gC (.str "and")) (gaCons (gC (.str "xor")) (gaCons (gC (.str "E")) (gaCons (gC (.str "")) (gaCons (gC .none) (gaCons (gBin vAdd (gVar 1) (gC (.str " "))) (gaNil)))))))))))))) (gaNil))))) (sSkip))
  (sRet (gCall m__law_pick (gaCons (gVar 0) (gaCons (gLst (gaCons (gC .none) (gaCons (gTup (gaNil)) (gaCons (gC (.int 0)) (gaCons (gLst (gaNil)) (gaCons (gC (.str "")) (gaCons (gTup (gaCons (gC (.str "yes")) (gaNil))) (gaCons (gTup (gaCons (gTup (gaCons (gC (.str "yes")) (gaNil))) (gaNil))) (gaCons (gC (.bool true)) (gaCons (gTup (gaCons (gC (.str "")) (gaNil))) (gaCons (gTup (gaCons (gC (.str "e")) (gaCons (gTup (gaNil)) (gaNil)))) (gaNil)))))))))))) (gaNil)))))))
theorem ok_eq {α : Type} {r r' : Res α} {Q : α → Store → Prop} (e : r = r') (h : Ok r' Q) : Ok r Q := e ▸ h
theorem tailB_ok {ρ : Env} {st : Store} {n l : Nat} {k : Int} {d : PyData} {R : Flow → Store → Prop} (h0 : ρ[0]? = some (some (.ref n))) (h1 : ρ[1]? = some (some (.d d))) (hp : Pl d) (D : Dk st n l k) (hk : k < 2 ^ 40)
    (q : ∀ x st', Sm 3 90 x → Dk st' n l (k + 1) → Fr n l st st' → R (.rt (.d x)) st') : Ok (tailB ρ st) R := by
  have e1 := ev_var (st := st) h1
  unfold tailB
  cases hp with
  | int hi =>
    refine ok_seq (ok_eq ((ev_sif (ev_bOf ((ev_un (f := vIsi "int") e1).trans (isi_int (st := st) rfl)))).trans (if_pos rfl)) (ok_ret ?_))
    exact bent_int h0 h1 D hi hk fun x st' hx D' F' => q x st' (hx.more (by omega) (by omega)) D' F'
  | str hs =>
    refine ok_seq (ok_eq ((ev_sif (ev_bOf ((ev_un (f := vIsi "int") e1).trans (isi_int (st := st) rfl)))).trans rfl) ?_)
    refine ok_ok.mpr (ok_seq (ok_eq ((ev_sif (ev_bOf ((ev_un (f := vIsi "str") e1).trans (isi_str (st := st) rfl)))).trans (if_pos rfl)) (ok_ret ?_)))
    exact bent_str h0 h1 D hs hk fun x st' hx D' F' => q x st' (hx.more (by omega) (by omega)) D' F'
  | tup h hl =>
    refine ok_seq (ok_eq ((ev_sif (ev_bOf ((ev_un (f := vIsi "int") e1).trans (isi_int (st := st) rfl)))).trans rfl) ?_)
    refine ok_ok.mpr (ok_seq (ok_eq ((ev_sif (ev_bOf ((ev_un (f := vIsi "str") e1).trans (isi_str (st := st) rfl)))).trans rfl) ?_))
    refine ok_ok.mpr (ok_ret ?_)
    exact bent_rest h0 D hk fun x st' hx D' F' => q x st' (hx.more (by omega) (by omega)) D' F'
theorem finQ_bent {st0 st : Store} {n l n0 : Nat} {k : Int} {kd w : Nat} {v : Vl} (hn : st.length = n0) (h : Bent n l k st0 kd w v st) : finQ false n0 (Bent n l k st0 kd w) (.rt v) st := by
  obtain ⟨d, h1, h2, h3, h4, h5⟩ := h
  refine finQ_f h1 h2 ?_
  rw [List.take_of_length_le (Nat.le_of_eq hn)]
  exact ⟨d, h1, h2, h3, h4, h5⟩
theorem sms_take {k w : Nat} {xs : List PyData} (i : Nat) (h : Sms k w xs) : Sms k (PyData.weightAll (xs.take i)) (xs.take i) := h.sub (fun y hy => List.mem_of_mem_take hy) (Nat.le_refl _)
theorem sms_drop {k w : Nat} {xs : List PyData} (i : Nat) (h : Sms k w xs) : Sms k (PyData.weightAll (xs.drop i)) (xs.drop i) := h.sub (fun y hy => List.mem_of_mem_drop hy) (Nat.le_refl _)
theorem weight_cut (xs : List PyData) (i : Nat) : PyData.weightAll (xs.take i) + PyData.weightAll (xs.drop i) = PyData.weightAll xs := by
  rw [← weightAll_append, List.take_append_drop]
theorem weight_at {xs : List PyData} {i : Nat} {x : PyData} (h : xs[i]? = some x) : PyData.weightAll (xs.drop i) = x.weight + 1 + PyData.weightAll (xs.drop (i + 1)) := by
  obtain ⟨hl, e⟩ := List.getElem?_eq_some_iff.mp h
  rw [List.drop_eq_getElem_cons hl, e, PyData.weightAll]
theorem seqQ_rt {s : SG} {R : Flow → Store → Prop} {x : Vl} {st : Store} (h : R (.rt x) st) : seqQ s R (.rt x) st := h
theorem ok_tup {gs : GA} {ρ : Env} {st : Store} {Q : Vl → Store → Prop} (h : Ok (gs ρ st) fun vs st1 => ∃ ds : List PyData, vs = ds.map .d ∧ ds.length ≤ sizeLine ∧ Q (.d (.tuple ds)) st1) : Ok (gTup gs ρ st) Q := by
  obtain ⟨vs, st1, e, ds, rfl, hz, q⟩ := ok_at h
  rw [ev_tup e hz]
  exact q
theorem ok_lst {gs : GA} {ρ : Env} {st : Store} {Q : Vl → Store → Prop} (h : Ok (gs ρ st) fun vs st1 => ∃ ds : List PyData, vs = ds.map .d ∧ ds.length ≤ sizeLine ∧ Q (.own ds) st1) : Ok (gLst gs ρ st) Q := by
  obtain ⟨vs, st1, e, ds, rfl, hz, q⟩ := ok_at h
  rw [ev_lst e hz]
  exact q
theorem ok_par {is : List Nat} {gs : GA} {ρ : Env} {st : Store} {R : Flow → Store → Prop} (h : Ok (gs ρ st) fun xs st1 => xs.length = is.length ∧ R (.nx ((is.zip xs).foldl (fun ρ p => ρ.set p.1 (some p.2)) ρ)) st1) : Ok (sPar is gs ρ st) R := by
  obtain ⟨xs, st1, e, hl, q⟩ := ok_at h
  unfold sPar
  rw [bind_ok e, if_pos hl]
  exact q
theorem bent_ok : ∀ (i : Nat) {d : PyData} {st : Store} {n l : Nat} {k : Int} {kd w : Nat}, Pl d → Sm kd w d → d.depth < i → i ≤ 60 → w ≤ 100000 → Dk st n l k → k + 4 * i < 2 ^ 40 →
    Ok (m__law_bent i [.ref n, .d d] st) (Bent n l (k + 4 * i) st (kd + 3) (2 * w + 100))
  | 0, _, _, _, _, _, _, _, _, _, h, _, _, _, _ => absurd h (by omega)
  | i + 1, d, st, n, l, k, kd, w, hp, hs, hd, hi, hw, D, hk => by
    refine ok_fn ?_
    show Ok (b__law_bent (m__law_bent i) [some (.ref n), some (.d d), none, none] st) _
    unfold b__law_bent
    have tl : ∀ (o1 o2 : Option Vl) (st1 : Store) (j : Int), Dk st1 n l j → Fr n l st st1 → j ≤ k + 1 → Ok (tailB [some (.ref n), some (.d d), o1, o2] st1) (finQ false st.length (Bent n l (k + 4 * ((i + 1 : Nat) : Int)) st (kd + 3) (2 * w + 100))) := fun o1 o2 st1 j D1 F1 hj => by
      refine tailB_ok rfl rfl hp D1 (by omega) fun x st' hx D' F' => ?_
      exact finQ_bent ((F1.trans F').1) ⟨x, rfl, fun _ => by simp, hx.more (by omega) (by omega), D'.more (by omega), F1.trans F'⟩
    have e1 : ∀ (o1 o2 : Option Vl) st1, gVar 1 [some (.ref n), some (.d d), o1, o2] st1 = .ok (.d d) st1 := fun _ _ _ => rfl
    by_cases hx : ∃ y ys, d = .tuple (y :: ys)
    · obtain ⟨y, ys, rfl⟩ := hx
      generalize hxs : y :: ys = xs at *
      have hne : xs.isEmpty = false := by rw [← hxs]; rfl
      have hlen : 0 < xs.length := by rw [← hxs]; simp
      have hsm := hs.ofTup
      have hkd := hs.tupPos
      have hwl : xs.length ≤ w := Nat.le_trans (weightAll_len xs) hsm.wt
      have hpl : ∀ x ∈ xs, Pl x := by cases hp with | tup h _ => exact h
      have hdep : ∀ x ∈ xs, x.depth < i := fun x hx => by
        have h1 : PyData.depthAll xs ≤ i - 1 := by simp only [PyData.depth] at hd; omega
        have h2 := (depthAll_iff _ _).mp h1 x hx
        simp only [PyData.depth] at hd
        omega
      -- the first test
      refine ok_seq (ok_sif ?_)
      refine ok_eq (ev_band (ev_bOf ((ev_un (f := vIsi "tuple") (e1 none none st)).trans (isi_tuple (st := st) rfl)))) ?_
      show Ok (bAnd _ _ _ st) _
      have ene : bOf (gBin vNe (gVar 1) (gTup gaNil)) [some (.ref n), some (.d (.tuple xs)), none, none] st = .ok true st := by
        refine ev_bOf ((ev_bin (f := vNe) (e1 none none st) (show gTup gaNil _ st = .ok (.d (.tuple [])) st from rfl)).trans ?_)
        have hsh : eqOk (.tuple xs) (.tuple []) = true := by
          show (SeqAt.shaped (.tuple xs) && SeqAt.shaped (.tuple [])) = true
          have h1 : PyData.canLay0 (.tuple xs) = true := hs.lf.1
          have h3 : SeqAt.shaped (.tuple xs) = true := by
            unfold SeqAt.shaped
            rw [h1, Bool.true_and]
            exact decide_eq_true (by omega)
          rw [h3]
          rfl
        have e3 : PyData.eqv (.tuple xs) (.tuple []) = false := by rw [← hxs]; rfl
        show (if eqOk (.tuple xs) (.tuple []) = true then Res.ok (Vl.d (.bool (!PyData.eqv (.tuple xs) (.tuple [])))) st else Res.stuck) = _
        rw [if_pos hsh, e3]
        rfl
      refine ok_eq (ev_band ene) ?_
      show Ok (bOf _ _ st) _
      refine ok_bOf (ok_bin (edraw (many := 5) D rfl rfl (by decide) (by decide) (by omega) fun r st1 r0 r1 D1 F1 => ok_const ⟨decide (0 < r), rfl, ?_⟩))
      by_cases hr : 0 < r
      · rw [decide_eq_true hr, if_pos rfl]
        refine ok_seq (ok_par (ok_cons (edraw (many := xs.length) D1 rfl rfl (by omega) (by omega) (by omega) fun a st2 a0 a1 D2 F2 => ok_cons (edraw (many := 8) D2 rfl rfl (by decide) (by decide) (by omega) fun b st3 b0 b1 D3 F3 => ok_nil ⟨rfl, ?_⟩))))
        have F := (F1.trans F2).trans F3
        obtain ⟨j, rfl⟩ : ∃ j : Nat, a = (j : Int) := ⟨a.toNat, by omega⟩
        have hj : j < xs.length := by omega
        obtain ⟨z, hz⟩ : ∃ z, xs[j]? = some z := ⟨_, List.getElem?_eq_getElem hj⟩
        have hzm := List.mem_of_getElem? hz
        have hwz := weight_at hz
        have hwc := weight_cut xs j
        have hwt := hsm.wt
        have hsz : Sm (kd - 1) z.weight z := ⟨(hsm.mem hzm).lf, (hsm.mem hzm).dep, Nat.le_refl _⟩
        show Ok (sSeq _ _ [some (.ref n), some (.d (.tuple xs)), some (.d (.int j)), some (.d (.int b))] st3) _
        have v1 : ∀ st4, gVar 1 [some (.ref n), some (.d (.tuple xs)), some (.d (.int j)), some (.d (.int b))] st4 = .ok (.d (.tuple xs)) st4 := fun _ => rfl
        have v2 : ∀ st4, gVar 2 [some (.ref n), some (.d (.tuple xs)), some (.d (.int j)), some (.d (.int b))] st4 = .ok (.d (.int j)) st4 := fun _ => rfl
        have v21 : ∀ st4, gBin vAdd (gVar 2) (gC (.int 1)) [some (.ref n), some (.d (.tuple xs)), some (.d (.int j)), some (.d (.int b))] st4 = .ok (.d (.int ((j + 1 : Nat) : Int))) st4 := fun _ => rfl
        have tk : (xs.take j).length ≤ xs.length := by rw [List.length_take]; omega
        have dr : (xs.drop (j + 1)).length ≤ xs.length := by rw [List.length_drop]; omega
        have dr0 : (xs.drop j).length ≤ xs.length := by rw [List.length_drop]; omega
        have tk1 : (xs.take (j + 1)).length ≤ xs.length := by rw [List.length_take]; omega
        have hSL : (sizeLine : Nat) = 16777216 := sizeLine_eq
        by_cases hb : b < 5
        · refine ok_seq (ok_eq ((ev_sif (ev_bOf (show gBin vLt (gVar 3) (gC (.int 5)) [some (.ref n), some (.d (.tuple xs)), some (.d (.int j)), some (.d (.int b))] st3 = .ok (.d (.bool true)) st3 from by show Res.ok (Vl.d (.bool (decide (b < 5)))) st3 = _; rw [decide_eq_true hb]))).trans (if_pos rfl)) (ok_ret (ok_bin (ok_bin ?_))))
          rw [ev_to (v1 st3) (v2 st3) (by omega)]
          refine ok_ok.mpr (ok_tup (ok_cons (ok_call ?_)))
          have ea : (gaCons (gVar 0) (gaCons (gBin vIx (gVar 1) (gVar 2)) gaNil)) [some (.ref n), some (.d (.tuple xs)), some (.d (.int j)), some (.d (.int b))] st3 = .ok [.ref n, .d z] st3 := ev_cons (x := .ref n) rfl (ev_cons ((ev_bin (v1 st3) (v2 st3)).trans (ix_tup hz)) ev_nil)
          rw [ea]
          refine ok_ok.mpr (ok_mono (bent_ok i (hpl z hzm) hsz (hdep z hzm) (by omega) (by omega) D3 (by omega)) fun v st4 ⟨d', f1, f2, f3, f4, f5⟩ => ?_)
          rw [f1]
          refine ok_nil ⟨[d'], rfl, by rw [hSL, List.length_singleton]; omega, ?_⟩
          rw [add_tup (by rw [List.length_singleton]; omega)]
          refine ok_ok.mpr ?_
          rw [ev_from (v1 st4) (v21 st4) (by omega)]
          refine ok_ok.mpr ?_
          rw [add_tup (by rw [List.length_append, List.length_singleton]; omega)]
          refine ok_ok.mpr (seqQ_rt (seqQ_rt ?_))
          refine finQ_bent (F.trans f5).1 ⟨_, rfl, fun _ => by simp, ?_, f4.more (by omega), F.trans f5⟩
          have s1 := (((sms_take j hsm).more (k' := kd - 1 + 3) (by omega) (Nat.le_refl _)).app (Sms.cons f3 (Sms.nil (w := 0)))).app ((sms_drop (j + 1) hsm).more (k' := kd - 1 + 3) (by omega) (Nat.le_refl _))
          exact s1.tup.more (by omega) (by omega)
        · refine ok_seq (ok_eq ((ev_sif (ev_bOf (show gBin vLt (gVar 3) (gC (.int 5)) [some (.ref n), some (.d (.tuple xs)), some (.d (.int j)), some (.d (.int b))] st3 = .ok (.d (.bool false)) st3 from by show Res.ok (Vl.d (.bool (decide (b < 5)))) st3 = _; rw [decide_eq_false hb]))).trans rfl) (ok_ok.mpr (ok_ret ?_)))
          have cc : ∀ c : Int, bOf (gBin vEq (gVar 3) (gC (.int c))) [some (.ref n), some (.d (.tuple xs)), some (.d (.int j)), some (.d (.int b))] st3 = .ok (b == c) st3 := fun c => rfl
          have e2 := ev_bin (f := vAdd) (ev_to (v1 st3) (v2 st3) (by omega)) (ev_from (v1 st3) (v21 st3) (by omega))
          have e3 := ev_bin (f := vAdd) (ev_to (v1 st3) (v21 st3) (by omega)) (ev_from (v1 st3) (v2 st3) (by omega))
          have D4 := D3.more (j := k + 4 * ((i + 1 : Nat) : Int)) (by omega)
          refine ok_eq (ev_if (cc 5)) ?_
          by_cases h5 : (b == 5) = true
          · rw [if_pos h5, e2, add_tup (by omega)]
            refine ok_ok.mpr (seqQ_rt ?_)
            refine finQ_bent F.1 ⟨_, rfl, fun _ => by simp, ?_, D4, F⟩
            exact ((sms_take j hsm).app (sms_drop (j + 1) hsm)).tup.more (by omega) (by omega)
          · rw [if_neg h5]
            refine ok_eq (ev_if (cc 6)) ?_
            by_cases h6 : (b == 6) = true
            · rw [if_pos h6, e3, add_tup (by omega)]
              refine ok_ok.mpr (seqQ_rt ?_)
              refine finQ_bent F.1 ⟨_, rfl, fun _ => by simp, ?_, D4, F⟩
              have hw1 := weight_cut xs (j + 1)
              exact ((sms_take (j + 1) hsm).app (sms_drop j hsm)).tup.more (by omega) (by omega)
            · rw [if_neg h6]
              have e4 : gUn vList (gVar 1) [some (.ref n), some (.d (.tuple xs)), some (.d (.int j)), some (.d (.int b))] st3 = .ok (.own xs) st3 := rfl
              rw [e4]
              refine ok_ok.mpr (seqQ_rt ?_)
              refine finQ_bent F.1 ⟨_, rfl, fun _ => by simp, ?_, D4, F⟩
              exact hsm.lst.more (by omega) (by omega)
      · rw [decide_eq_false hr, if_neg Bool.false_ne_true]
        exact ok_ok.mpr (tl none none st1 _ D1 F1 (by omega))
    · have hc : bAnd (bOf (gUn (vIsi "tuple") (gVar 1))) (bAnd (bOf (gBin vNe (gVar 1) (gTup (gaNil)))) (bOf (gBin vGt (gCall m__law_draw (gaCons (gVar 0) (gaCons (gC (.int 5)) (gaNil)))) (gC (.int 0))))) [some (.ref n), some (.d d), none, none] st = .ok false st := by
        cases hp with
        | int => rfl
        | str => rfl
        | tup h hl =>
          rename_i xs
          cases xs with
          | nil => rfl
          | cons y ys => exact absurd ⟨y, ys, rfl⟩ hx
      refine ok_seq (ok_eq ((ev_sif hc).trans rfl) ?_)
      exact ok_ok.mpr (tl none none st k D (Fr.refl _ _ _) (by omega))
end Zv.K76
set_option Elab.async false
set_option linter.all false
set_option maxRecDepth 100000
set_option maxHeartbeats 1000000
namespace Zv.K76
open PySem L2 Zv
theorem Sm.fit {k w : Nat} {d : PyData} (h : Sm k w d) (hk : k ≤ 64) (hw : w ≤ 2 ^ 20) : Fit d := by
  have hs : (sizeLine : Nat) = 16777216 := sizeLine_eq
  refine ⟨h.shaped hk, ?_, ?_⟩
  · rintro p b rfl
    have h1 := h.wt
    simp only [PyData.weight, PyData.weightAll] at h1
    have : p.length = p.cps.size := rfl
    omega
  · rintro a gs rfl
    have h1 := h.wt
    simp only [PyData.weight, PyData.weightAll] at h1
    have h2 := weightAll_len gs
    refine ⟨by omega, fun g hg ys e => ?_⟩
    subst e
    have h3 := weight_mem hg
    simp only [PyData.weight] at h3
    have h4 := weightAll_len ys
    omega
theorem ev_range1 {ρ : Env} {st : Store} {i : Int} {a : G} (ha : a ρ st = .ok (.d (.int i)) st) (h : inRg i = true) : iRange1 (gaCons a gaNil) ρ st = .ok (rgD 0 i) st := by
  unfold iRange1
  rw [bind_ok (ev_cons ha ev_nil)]
  show (if inRg i = true then M.pure (rgD 0 i) else M.stuck) st = _
  rw [if_pos h]
theorem seqQ_nx {s : SG} {R : Flow → Store → Prop} {ρ : Env} {st : Store} (h : Ok (s ρ st) R) : seqQ s R (.nx ρ) st := h
theorem rgD_len (i : Int) : (rgD 0 i).length = i.toNat := by
  unfold rgD
  rw [List.length_map, List.length_range, Int.sub_zero]
theorem no_circuit_ok {st : Store} {n l : Nat} {k : Int} {w : Nat} {p : Str} {gs : List PyData} (D : Dk st n l k) (hp : Pl (.tuple [.str p, .tuple gs])) (hs : Sm 3 w (.tuple [.str p, .tuple gs])) (hw : w ≤ 100000) (hk : k + 200 < 2 ^ 40) :
    Ok (m__law_no_circuit [.ref n, .d (.tuple [.str p, .tuple gs])] st) fun v st' => ∃ d, v = .d d ∧ Sm 6 (2 * w + 100) d ∧ isCirc d = false ∧ Dk st' n l (k + 192) ∧ Fr n l st st' := by
  refine ok_fn ?_
  show Ok (b__law_no_circuit [some (.ref n), some (.d (.tuple [.str p, .tuple gs])), none, none] st) _
  unfold b__law_no_circuit
  refine ok_seq (ok_sfor ?_)
  rw [ev_range1 (i := 6) rfl rfl]
  refine ok_ok.mpr (ok_for (P := fun ds ρ st' => ∃ o1 o2, ρ = [some (.ref n), some (.d (.tuple [.str p, .tuple gs])), o1, o2] ∧ ds.length ≤ 6 ∧ Dk st' n l (k + 32 * (6 - ds.length)) ∧ Fr n l st st') ?_ ?_ _ _ _ ⟨none, none, rfl, by decide, D.more (by rw [rgD_len]; omega), Fr.refl _ _ _⟩)
  · rintro ρ st' ⟨o1, o2, rfl, h6, D', F⟩
    refine seqQ_nx (ok_ret ?_)
    have e : gTup (gaCons (gBin vIx (gVar 1) (gC (.int 0))) (gaCons (gTup (gaNil)) (gaNil))) [some (.ref n), some (.d (.tuple [.str p, .tuple gs])), o1, o2] st' = .ok (.d (.tuple [.str p, .tuple []])) st' := rfl
    rw [e]
    refine ok_ok.mpr (finQ_d ?_)
    rw [List.take_of_length_le (Nat.le_of_eq F.1)]
    refine ⟨_, rfl, ?_, ?_, D'.more (by simp), F⟩
    · have h1 := hs.ofTup
      have h2 := h1.mem (x := .str p) (by simp)
      exact (Sms.cons (⟨h2.lf, h2.dep, Nat.le_refl _⟩ : Sm 2 (PyData.weight (.str p)) (.str p)) (Sms.cons (Sms.nil (k := 1) (w := 0)).tup (Sms.nil (w := 0)))).tup.more (by omega) (by
        have := h1.wt
        simp only [PyData.weightAll] at this
        omega)
    · show (wordIn "ea" p && (!([] : List PyData).isEmpty && _)) = false
      simp
  · rintro d ds ρ st' ⟨o1, o2, rfl, h6, D', F⟩
    rw [List.length_cons] at h6 D'
    refine ⟨_, rfl, ok_seq (ok_set (ok_call ?_))⟩
    show Ok (gaCons (gVar 0) (gaCons (gVar 1) gaNil) [some (.ref n), some (.d (.tuple [.str p, .tuple gs])), some (.d d), o2] st') _
    have ea : gaCons (gVar 0) (gaCons (gVar 1) gaNil) [some (.ref n), some (.d (.tuple [.str p, .tuple gs])), some (.d d), o2] st' = .ok [.ref n, .d (.tuple [.str p, .tuple gs])] st' := rfl
    rw [ea]
    refine ok_ok.mpr (ok_mono (bent_ok 8 hp hs (by have := hs.dep; omega) (by omega) hw D' (by omega)) fun v st2 ⟨d', f1, f2, f3, f4, f5⟩ => ?_)
    rw [f1]
    show Ok (sIf _ _ _ [some (.ref n), some (.d (.tuple [.str p, .tuple gs])), some (.d d), some (.d d')] st2) _
    have et := ev_bnot (ev_bOf (ev_call (m := m__law_is_circuit) (ρ := [some (.ref n), some (.d (.tuple [.str p, .tuple gs])), some (.d d), some (.d d')]) (ev_cons (ev_var (i := 3) (x := .d d') rfl) ev_nil) (e_law_is_circuit (st := st2) (Sm.fit f3 (by omega) (by omega)))))
    refine ok_eq (ev_sif et) ?_
    have D2 : Dk st2 n l (k + 32 * (6 - (ds.length : Int))) := f4.more (by omega)
    by_cases hc : isCirc d' = true
    · rw [hc]
      exact ok_ok.mpr ⟨_, _, rfl, by omega, D2, F.trans f5⟩
    · have hc := (Bool.not_eq_true _).mp hc
      rw [hc]
      refine ok_ret (ok_ok.mpr ?_)
      refine seqQ_rt (finQ_d ?_)
      rw [List.take_of_length_le (Nat.le_of_eq (F.trans f5).1)]
      exact ⟨d', rfl, f3, hc, D2.more (by omega), F.trans f5⟩
end Zv.K76
set_option Elab.async false
set_option linter.all false
set_option maxRecDepth 100000
set_option maxHeartbeats 1000000
namespace Zv.K76
open PySem L2 Zv
/-- a comprehension that draws -/
theorem ok_compL {t : TGv} {g : G} {ρ : Env} {I : Nat → Store → Prop} {A : PyData → Prop} : ∀ (ds : List PyData) (st : Store) (acc : List PyData),
    (∀ j d st', d ∈ ds → I j st' → j < acc.length + ds.length → ∃ ρ1, t (.d d) ρ = some ρ1 ∧ Ok (g ρ1 st') fun x st2 => ∃ y, frz x = .d y ∧ A y ∧ I (j + 1) st2) → I acc.length st → (∀ y ∈ acc, A y) → acc.length + ds.length ≤ sizeLine →
    Ok (compL t bTrue g ρ ds acc st) fun ys st' => ys.length = acc.length + ds.length ∧ (∀ y ∈ ys, A y) ∧ I ys.length st'
  | [], st, acc, _, hI, hA, _ => ⟨by simp, hA, hI⟩
  | d :: ds, st, acc, hs, hI, hA, hz => by
    rw [List.length_cons] at hz
    obtain ⟨ρ1, h1, h2⟩ := hs _ d st List.mem_cons_self hI (by rw [List.length_cons]; omega)
    unfold compL
    rw [h1]
    refine ok_bind ?_
    show Ok (M.bind (g ρ1) _ st) _
    refine ok_bind (ok_mono h2 fun x st2 ⟨y, e, hy, hI2⟩ => ?_)
    rw [e]
    show Ok ((if acc.length < sizeLine then compL t bTrue g ρ ds (acc ++ [y]) else M.stuck) st2) _
    rw [if_pos (by omega)]
    have ih := ok_compL (t := t) (g := g) (ρ := ρ) (I := I) (A := A) ds st2 (acc ++ [y]) (fun j d' st' hd hI' hj => hs j d' st' (List.mem_cons_of_mem _ hd) hI' (by rw [List.length_append, List.length_singleton] at hj; rw [List.length_cons]; omega))
      (by rw [List.length_append, List.length_singleton]; exact hI2) (fun z hz => (List.mem_append.mp hz).elim (hA z) fun hz => by rw [List.mem_singleton.mp hz]; exact hy) (by rw [List.length_append, List.length_singleton]; omega)
    refine ok_mono ih fun ys st' ⟨q1, q2, q3⟩ => ⟨?_, q2, q3⟩
    rw [q1, List.length_append, List.length_singleton, List.length_cons]
    omega
theorem ok_comp {w : GI} {t : TGv} {g : G} {vs : List Nat} {ρ : Env} {st : Store} {ds : List PyData} {I : Nat → Store → Prop} {A : PyData → Prop} {Q : Vl → Store → Prop} (hw : w ρ st = .ok ds st) (hz : ds.length ≤ sizeLine) (h0 : I 0 st)
    (hs : ∀ j d st', d ∈ ds → I j st' → j < ds.length → ∃ ρ1, t (.d d) (wipeE ρ vs) = some ρ1 ∧ Ok (g ρ1 st') fun x st2 => ∃ y, frz x = .d y ∧ A y ∧ I (j + 1) st2)
    (q : ∀ ys st', ys.length = ds.length → (∀ y ∈ ys, A y) → I ds.length st' → Q (.own ys) st') : Ok (gComp w t bTrue g vs ρ st) Q := by
  have h := ok_compL (t := t) (g := g) (ρ := wipeE ρ vs) (I := I) (A := A) ds st [] (fun j d st' hd hI hj => hs j d st' hd hI (by simpa using hj)) h0 (fun _ hy => by cases hy) (by simpa using hz)
  obtain ⟨ys, st', e, h1, h2, h3⟩ := ok_at h
  unfold gComp
  rw [bind_ok hw]
  have e2 : noExc (compL t bTrue g (wipeE ρ vs) ds []) st = .ok ys st' := by
    unfold noExc
    rw [e]
  rw [bind_ok e2]
  have hl : ys.length = ds.length := by simpa using h1
  exact q ys st' hl h2 (hl ▸ h3)
theorem strs_map (cs : List Nat) : strsOf (cs.map fun c => PyData.str ⟨#[c]⟩) = some (cs.map fun c => ⟨#[c]⟩) := by
  induction cs with
  | nil => rfl
  | cons c cs ih => rw [List.map_cons, strsOf, ih]; rfl
theorem join_letters (cs : List Nat) : Txt.join "" (cs.map fun c => (⟨#[c]⟩ : Str)) = ⟨cs.toArray⟩ := by
  rw [show Txt.join "" (cs.map fun c => (⟨#[c]⟩ : Str)) = Str.join "" (cs.map fun c => (⟨#[c]⟩ : Str)) from StrLaws.glued_eq_join _ _]
  have h := PyProof.Rows.join_nil_signs ⟨cs.toArray⟩
  unfold PyProof.Rows.signs at h
  rw [show Str.ofString "" = ⟨#[]⟩ from by decide]
  simpa using h
theorem sum_ones (cs : List Nat) : ((cs.map fun c => (⟨#[c]⟩ : Str)).map (·.length)).sum = cs.length := by
  induction cs with
  | nil => rfl
  | cons c cs ih => rw [List.map_cons, List.map_cons, List.sum_cons, ih, List.length_cons]; show 1 + cs.length = _; omega
theorem join_ok {a : Str} {ys : List PyData} {zs : List Str} {st : Store} (h : strsOf ys = some zs) (hs : (zs.map (·.length)).sum + zs.length * a.length ≤ 16777216) : mJoin (.d (.str a)) [.d (.list ys)] st = .ok (.d (.str (Txt.join a zs))) st := by
  unfold mJoin
  simp only [lstOf, Option.bind_some, h]
  exact if_pos hs
theorem letters_of {A : PyData → Prop} {x y : Nat} (hA : ∀ d, A d → d = .str ⟨#[x]⟩ ∨ d = .str ⟨#[y]⟩) : ∀ ys : List PyData, (∀ d ∈ ys, A d) → ∃ cs : List Nat, ys = cs.map (fun c => .str ⟨#[c]⟩) ∧ ∀ c ∈ cs, c = x ∨ c = y
  | [], _ => ⟨[], rfl, fun _ h => by cases h⟩
  | d :: ys, h => by
    obtain ⟨cs, e, hc⟩ := letters_of hA ys fun z hz => h z (List.mem_cons_of_mem _ hz)
    rcases hA d (h d List.mem_cons_self) with rfl | rfl
    · exact ⟨x :: cs, by rw [List.map_cons, e], fun c hm => (List.mem_cons.mp hm).elim .inl (hc c)⟩
    · exact ⟨y :: cs, by rw [List.map_cons, e], fun c hm => (List.mem_cons.mp hm).elim .inr (hc c)⟩
/-- ''.join([pick(deck, [x, y]) for _ in range(m)]) -/
theorem ok_word {ρ : Env} {st : Store} {n l v dv : Nat} {k : Int} {m : Nat} {x y : Nat} {A B : Str} {a : G} {Q : Vl → Store → Prop} (D : Dk st n l k) (ha : a ρ st = .ok (.d (.int m)) st) (hm : m ≤ 1000) (hk : k + m < 2 ^ 40) (hA : A = ⟨#[x]⟩) (hB : B = ⟨#[y]⟩) (hd : ∀ d, ((wipeE ρ [v]).set v (some (.d d)))[dv]? = some (some (.ref n)))
    (q : ∀ (cs : List Nat) (st' : Store), cs.length = m → (∀ c ∈ cs, c = x ∨ c = y) → Dk st' n l (k + m) → Fr n l st st' → Q (.d (.str ⟨cs.toArray⟩)) st') :
    Ok (gMeth isStr mJoin (gC (.str "")) (gaCons (gComp (iRange1 (gaCons a gaNil)) (gtName v) bTrue (gCall m__law_pick (gaCons (gVar dv) (gaCons (gLst (gaCons (gC (.str A)) (gaCons (gC (.str B)) gaNil))) gaNil))) [v]) gaNil) ρ st) Q := by
  subst hA hB
  unfold gMeth
  refine ok_bind ?_
  rw [show gC (.str "") ρ st = .ok (.d (.str "")) st from rfl]
  refine ok_ok.mpr (ok_bind ?_)
  rw [show chk isStr (.d (.str "")) st = .ok () st from rfl]
  refine ok_ok.mpr (ok_bind (ok_cons ?_))
  refine ok_comp (ds := rgD 0 m) (I := fun j st' => Dk st' n l (k + j) ∧ Fr n l st st') (A := fun d => d = .str ⟨#[x]⟩ ∨ d = .str ⟨#[y]⟩) (ev_range1 ha (by unfold inRg; rw [decide_eq_true (by omega), decide_eq_true (by omega)]; rfl)) (by rw [rgD_len, sizeLine_eq]; omega) ⟨D.more (by omega), Fr.refl _ _ _⟩ ?_ ?_
  · intro j d st' _ ⟨D', F⟩ hj
    rw [rgD_len] at hj
    refine ⟨_, rfl, ?_⟩
    refine epick (ds := [.str ⟨#[x]⟩, .str ⟨#[y]⟩]) D' (ev_var (hd d)) rfl (by simp) (by simp) (by omega) fun z hz st2 D2 F2 => ⟨z, rfl, by simpa using hz, D2.more (by omega), F.trans F2⟩
  · intro ys st' hl hA ⟨D', F⟩
    rw [rgD_len] at hl D'
    obtain ⟨cs, rfl, hc⟩ := letters_of (fun _ h => h) ys hA
    have hl : cs.length = m := by rw [List.length_map] at hl; omega
    refine ok_nil ?_
    have hs : ((cs.map fun c => (⟨#[c]⟩ : Str)).map (·.length)).sum + (cs.map fun c => (⟨#[c]⟩ : Str)).length * (Str.length "") ≤ 16777216 := by
      have h1 := sum_ones cs
      have h2 : Str.length "" = 0 := by decide
      rw [h1, h2]
      omega
    have e : mJoin (.d (.str "")) [frz (.own (cs.map fun c => .str ⟨#[c]⟩))] st' = .ok (.d (.str ⟨cs.toArray⟩)) st' := by
      exact (join_ok (strs_map cs) hs).trans (by rw [join_letters])
    rw [e]
    exact q cs st' hl hc (D'.more (by omega)) F
end Zv.K76
set_option Elab.async false
set_option linter.all false
set_option maxRecDepth 100000
set_option maxHeartbeats 1000000
namespace Zv.K76
open PySem L2 Zv
theorem Dk.n_lt {st : Store} {n l : Nat} {k : Int} (D : Dk st n l k) : n < st.length := by
  obtain ⟨m, c, h, _⟩ := D.dic
  exact (List.getElem?_eq_some_iff.mp h).1
theorem Dk.of {st st' : Store} {n l : Nat} {k : Int} (D : Dk st n l k) (h : ∀ j, j < st.length → st'[j]? = st[j]?) : Dk st' n l k := by
  have h1 := D.n_lt
  refine ⟨D.lt, ?_, ?_⟩
  · obtain ⟨m, c, e, r⟩ := D.dic
    exact ⟨m, c, (h n h1).trans e, r⟩
  · obtain ⟨ns, e, r⟩ := D.lst
    exact ⟨ns, (h l (by have := D.lt; omega)).trans e, r⟩
/-- a list of its own, at the end of the store, while the deck is drawn from -/
structure Gt (n l : Nat) (k : Int) (st0 : Store) (gs : List PyData) (st : Store) : Prop where
  len : st.length = st0.length + 1
  dk : Dk st n l k
  lst : st[st0.length]? = some (.lst gs)
  fr : ∀ j, j < st0.length → j ≠ n → j ≠ l → st[j]? = st0[j]?
  n0 : n < st0.length
theorem Gt.start {n l : Nat} {k : Int} {st0 st1 : Store} (D : Dk st1 n l k) (F : Fr n l st0 st1) : Gt n l k st0 [] (st1 ++ [.lst []]) := by
  have hn := D.n_lt
  have hl := D.lt
  have h1 := F.1
  refine ⟨by rw [List.length_append, List.length_singleton, F.1], D.of fun j hj => List.getElem?_append_left hj, ?_, fun j hj h2 h3 => ?_, by omega⟩
  · rw [← h1, List.getElem?_concat_length]
  · rw [List.getElem?_append_left (by omega)]
    exact F.2 j h2 h3
theorem Gt.draw {n l : Nat} {k k' : Int} {st0 st st' : Store} {gs : List PyData} (h : Gt n l k st0 gs st) (D : Dk st' n l k') (F : Fr n l st st') : Gt n l k' st0 gs st' := by
  have hl := D.lt
  have hn := h.n0
  exact ⟨by rw [F.1]; exact h.len, D, by rw [F.2 _ (by omega) (by omega)]; exact h.lst, fun j hj h1 h2 => by rw [F.2 j h1 h2]; exact h.fr j hj h1 h2, hn⟩
theorem Gt.app {n l : Nat} {k : Int} {st0 st : Store} {gs gs' : List PyData} (h : Gt n l k st0 gs st) : Gt n l k st0 gs' (st.set st0.length (.lst gs')) := by
  have hl := h.dk.lt
  have hn := h.n0
  refine ⟨by rw [List.length_set]; exact h.len, ⟨hl, ?_, ?_⟩, set_self h.lst, fun j hj h1 h2 => by rw [List.getElem?_set_ne (by omega)]; exact h.fr j hj h1 h2, hn⟩
  · obtain ⟨m, c, e, r⟩ := h.dk.dic
    exact ⟨m, c, by rw [List.getElem?_set_ne (by omega)]; exact e, r⟩
  · obtain ⟨ns, e, r⟩ := h.dk.lst
    exact ⟨ns, by rw [List.getElem?_set_ne (by omega)]; exact e, r⟩
theorem Gt.more {n l : Nat} {k k' : Int} {st0 st : Store} {gs : List PyData} (h : Gt n l k st0 gs st) (hk : k ≤ k') : Gt n l k' st0 gs st := ⟨h.len, h.dk.more hk, h.lst, h.fr, h.n0⟩
theorem Gt.fin {n l : Nat} {k : Int} {st0 st : Store} {gs : List PyData} (h : Gt n l k st0 gs st) : Fr n l st0 (st.take st0.length) ∧ Dk (st.take st0.length) n l k := by
  have hl := h.dk.lt
  have hn := h.n0
  refine ⟨⟨?_, fun j h1 h2 => ?_⟩, ⟨hl, ?_, ?_⟩⟩
  · rw [List.length_take, h.len]; omega
  · by_cases hj : j < st0.length
    · rw [List.getElem?_take_of_lt hj]; exact h.fr j hj h1 h2
    · rw [List.getElem?_eq_none (by rw [List.length_take]; omega), List.getElem?_eq_none (by omega)]
  · obtain ⟨m, c, e, r⟩ := h.dk.dic
    exact ⟨m, c, by rw [List.getElem?_take_of_lt hn]; exact e, r⟩
  · obtain ⟨ns, e, r⟩ := h.dk.lst
    exact ⟨ns, by rw [List.getElem?_take_of_lt (by omega)]; exact e, r⟩
theorem ok_append {ρ : Env} {st : Store} {i L : Nat} {gs0 : List PyData} {e : G} {R : Flow → Store → Prop} (h0 : ρ[i]? = some (some (.ref L))) (hl : st[L]? = some (.lst gs0))
    (he : Ok (e ρ st) fun v st1 => ∃ y gs, frz v = .d y ∧ st1[L]? = some (.lst gs) ∧ gs.length < sizeLine ∧ R (.nx ρ) (st1.set L (.lst (gs ++ [y])))) : Ok (sDrop (gMeth isLst mAppend (gVar i) (gaCons e gaNil)) ρ st) R := by
  refine ok_drop ?_
  unfold gMeth
  refine ok_bind ?_
  rw [ev_var h0]
  refine ok_ok.mpr (ok_bind ?_)
  rw [isLst_ok hl]
  refine ok_ok.mpr (ok_bind (ok_cons (ok_mono he fun v st1 ⟨y, gs, e1, e2, e3, r⟩ => ?_)))
  rw [e1]
  refine ok_nil ?_
  rw [append_ok e2 e3]
  exact r
theorem rgD_drop {N : Int} {i : Nat} {d : PyData} {ds : List PyData} (h : (rgD 0 N).drop i = d :: ds) : d = .int i ∧ ds = (rgD 0 N).drop (i + 1) ∧ i < N.toNat := by
  have hl : i < (rgD 0 N).length := by
    by_cases hl : i < (rgD 0 N).length
    · exact hl
    · rw [List.drop_eq_nil_of_le (by omega)] at h; cases h
  rw [List.drop_eq_getElem_cons hl] at h
  injection h with h1 h2
  rw [rgD_len] at hl
  refine ⟨?_, h2.symm, hl⟩
  rw [← h1]
  unfold rgD
  simp
inductive Gate (m j : Int) : PyData → Prop
  | yes : Gate m j (.tuple [.str "yes"])
  | v {r : Int} (h0 : 0 ≤ r) (h1 : r < m) : Gate m j (.tuple [.str "v", .int r])
  | not {r : Int} (h0 : 0 ≤ r) (h1 : r < j) : Gate m j (.tuple [.str "not", .int r])
  | and {r q : Int} (h0 : 0 ≤ r) (h1 : r < j) (h2 : 0 ≤ q) (h3 : q < j) : Gate m j (.tuple [.str "and", .int r, .int q])
  | or {r q : Int} (h0 : 0 ≤ r) (h1 : r < j) (h2 : 0 ≤ q) (h3 : q < j) : Gate m j (.tuple [.str "or", .int r, .int q])
theorem Gate.is {m j : Int} {g : PyData} (h : Gate m j g) : isGate m j g = true := by
  cases h with
  | yes => rfl
  | v h0 h1 =>
    show (true && ((decide (0 ≤ _) && decide (_ < m)) && true)) = true
    rw [decide_eq_true h0, decide_eq_true h1]
    rfl
  | not h0 h1 =>
    show (true && ((decide (0 ≤ _) && decide (_ < j)) && true)) = true
    rw [decide_eq_true h0, decide_eq_true h1]
    rfl
  | and h0 h1 h2 h3 =>
    show ((decide (0 ≤ _) && decide (_ < j)) && ((decide (0 ≤ _) && decide (_ < j)) && true)) = true
    rw [decide_eq_true h0, decide_eq_true h1, decide_eq_true h2, decide_eq_true h3]
    rfl
  | or h0 h1 h2 h3 =>
    show ((decide (0 ≤ _) && decide (_ < j)) && ((decide (0 ≤ _) && decide (_ < j)) && true)) = true
    rw [decide_eq_true h0, decide_eq_true h1, decide_eq_true h2, decide_eq_true h3]
    rfl
/-- gates as they are drawn -/
def GG (m : Int) (gs : List PyData) : Prop := ∀ (j : Nat) (g : PyData), gs[j]? = some g → Gate m j g ∧ Pl g ∧ Sm 1 100 g
theorem GG.app {m : Int} {gs : List PyData} {y : PyData} (h : GG m gs) (h1 : Gate m gs.length y) (h2 : Pl y) (h3 : Sm 1 100 y) : GG m (gs ++ [y]) := by
  intro j g hg
  rcases Nat.lt_trichotomy j gs.length with hj | hj | hj
  · rw [List.getElem?_append_left hj] at hg
    exact h j g hg
  · subst hj
    rw [List.getElem?_concat_length] at hg
    cases hg
    exact ⟨h1, h2, h3⟩
  · rw [List.getElem?_eq_none (by rw [List.length_append, List.length_singleton]; omega)] at hg
    cases hg
structure Circ (m : Nat) (p : Str) (gs : List PyData) : Prop where
  len : p.cps.size = m
  let_ : ∀ c ∈ p.cps.toList, c = 101 ∨ c = 97
  gg : GG m gs
  ne : gs ≠ []
  few : gs.length ≤ 60
  m8 : m ≤ 60
theorem low_of {s : String} (h : ((Str.ofString s).cps.toList.all fun c => decide (97 ≤ c) && decide (c ≤ 122)) = true) (h2 : (Str.ofString s).cps.size ≤ 64) : low (Str.ofString s) := ⟨fun c hc => by
  have := List.all_eq_true.mp h c hc
  simpa using this, h2⟩
theorem gate_yes (m j : Int) : Gate m j (.tuple [.str "yes"]) ∧ Pl (.tuple [.str "yes"]) ∧ Sm 1 100 (.tuple [.str "yes"]) := by
  have h := low_of (s := "yes") (by decide) (by decide)
  exact ⟨.yes, .tup (by simpa using Pl.str h) (by simp), (Sms.cons (sm_low (w := 8) h (by decide)) (Sms.nil (k := 0) (w := 0))).tup.more (by omega) (by omega)⟩
theorem gate_v {m j r : Int} (h0 : 0 ≤ r) (h1 : r < m) (h2 : m < 2 ^ 31) : Gate m j (.tuple [.str "v", .int r]) ∧ Pl (.tuple [.str "v", .int r]) ∧ Sm 1 100 (.tuple [.str "v", .int r]) := by
  have h := low_of (s := "v") (by decide) (by decide)
  refine ⟨?_, .tup (by simpa using ⟨Pl.str h, Pl.int (show r.natAbs < 2 ^ 31 by omega)⟩) (by simp), (Sms.cons (sm_low (w := 8) h (by decide)) (Sms.cons (Sm.ofInt (show r.natAbs < 10 ^ 12 by omega) (Nat.le_refl 40)) (Sms.nil (k := 0) (w := 0)))).tup.more (by omega) (by omega)⟩
  exact .v h0 h1
theorem gate_not {m j r : Int} (h0 : 0 ≤ r) (h1 : r < j) (h2 : j < 2 ^ 31) : Gate m j (.tuple [.str "not", .int r]) ∧ Pl (.tuple [.str "not", .int r]) ∧ Sm 1 100 (.tuple [.str "not", .int r]) := by
  have h := low_of (s := "not") (by decide) (by decide)
  refine ⟨?_, .tup (by simpa using ⟨Pl.str h, Pl.int (show r.natAbs < 2 ^ 31 by omega)⟩) (by simp), (Sms.cons (sm_low (w := 8) h (by decide)) (Sms.cons (Sm.ofInt (show r.natAbs < 10 ^ 12 by omega) (Nat.le_refl 40)) (Sms.nil (k := 0) (w := 0)))).tup.more (by omega) (by omega)⟩
  exact .not h0 h1
theorem gate_two {m j r q : Int} {w : PyData} (hw : w = .str "and" ∨ w = .str "or") (h0 : 0 ≤ r) (h1 : r < j) (h0' : 0 ≤ q) (h1' : q < j) (h2 : j < 2 ^ 31) : Gate m j (.tuple [w, .int r, .int q]) ∧ Pl (.tuple [w, .int r, .int q]) ∧ Sm 1 100 (.tuple [w, .int r, .int q]) := by
  have ha := low_of (s := "and") (by decide) (by decide)
  have ho := low_of (s := "or") (by decide) (by decide)
  have hp : Pl w := by rcases hw with rfl | rfl <;> exact .str (by assumption)
  have hs : Sm 0 8 w := by rcases hw with rfl | rfl <;> exact sm_low (by assumption) (by decide)
  refine ⟨?_, .tup (by simpa using ⟨hp, Pl.int (show r.natAbs < 2 ^ 31 by omega), Pl.int (show q.natAbs < 2 ^ 31 by omega)⟩) (by simp), (Sms.cons hs (Sms.cons (Sm.ofInt (show r.natAbs < 10 ^ 12 by omega) (Nat.le_refl 40)) (Sms.cons (Sm.ofInt (show q.natAbs < 10 ^ 12 by omega) (Nat.le_refl 40)) (Sms.nil (k := 0) (w := 0))))).tup.more (by omega) (by omega)⟩
  rcases hw with rfl | rfl
  · exact .and h0 h1 h0' h1'
  · exact .or h0 h1 h0' h1'
end Zv.K76
set_option Elab.async false
set_option linter.all false
set_option maxRecDepth 100000
set_option maxHeartbeats 1000000
namespace Zv.K76
open PySem L2 Zv
theorem GG.weight {m : Int} : ∀ {gs : List PyData}, (∀ g ∈ gs, Sm 1 100 g) → PyData.weightAll gs ≤ 101 * gs.length
  | [], _ => by simp [PyData.weightAll]
  | g :: gs, h => by
    have ih := GG.weight (m := m) fun x hx => h x (List.mem_cons_of_mem _ hx)
    have := (h g List.mem_cons_self).wt
    rw [PyData.weightAll, List.length_cons]
    omega
theorem GG.mem {m : Int} {gs : List PyData} (h : GG m gs) : ∀ g ∈ gs, Pl g ∧ Sm 1 100 g := fun g hg => by
  obtain ⟨j, hj⟩ := List.mem_iff_getElem?.mp hg
  exact (h j g hj).2
theorem Circ.low {m : Nat} {p : Str} {gs : List PyData} (h : Circ m p gs) : low p := ⟨fun c hc => by have := h.let_ c hc; omega, by have := h.len; have := h.m8; omega⟩
theorem Circ.pl {m : Nat} {p : Str} {gs : List PyData} (h : Circ m p gs) : Pl (.tuple [.str p, .tuple gs]) := .tup (by
  simp only [List.forall_mem_cons]
  exact ⟨.str h.low, .tup (fun g hg => (h.gg.mem g hg).1) (by have := h.few; omega), fun _ h => by cases h⟩) (by simp)
theorem Circ.sm {m : Nat} {p : Str} {gs : List PyData} (h : Circ m p gs) : Sm 3 7000 (.tuple [.str p, .tuple gs]) := by
  have h1 : Sms 1 6060 gs := ⟨fun g hg => (h.gg.mem g hg).2.lf, fun g hg => (h.gg.mem g hg).2.dep, by have := GG.weight (m := m) fun g hg => (h.gg.mem g hg).2; have := h.few; omega⟩
  exact (Sms.cons (sm_low (w := 64) h.low h.low.2) (Sms.cons h1.tup (Sms.nil (k := 2) (w := 0)))).tup.more (by omega) (by omega)
theorem wordIn_of {s p : Str} (h : ∀ c ∈ p.cps.toList, hasStr s (sg c) = true) : wordIn s p = true := List.all_eq_true.mpr h
theorem Circ.word {m : Nat} {p : Str} {gs : List PyData} (h : Circ m p gs) : wordIn "ea" p = true := wordIn_of fun c hc => by
  rcases h.let_ c hc with rfl | rfl <;> decide +kernel
theorem Circ.circ {m : Nat} {p : Str} {gs : List PyData} (h : Circ m p gs) : isCirc (.tuple [.str p, .tuple gs]) = true := by
  show (wordIn "ea" p && (!gs.isEmpty && (enumD gs).all (gateAt p.length))) = true
  have h1 : gs.isEmpty = false := by
    cases gs with
    | nil => exact absurd rfl h.ne
    | cons => rfl
  rw [h.word, h1]
  simp only [Bool.true_and, Bool.not_false]
  rw [List.all_eq_true]
  intro x hx
  obtain ⟨j, hj⟩ := List.mem_iff_getElem?.mp hx
  unfold enumD at hj
  rw [List.getElem?_mapIdx] at hj
  obtain ⟨g, hg, rfl⟩ := Option.map_eq_some_iff.mp hj
  have hp : (p.length : Int) = m := by have := h.len; show (p.cps.size : Int) = m; omega
  show isGate p.length j g = true
  rw [hp]
  exact (h.gg j g hg).1.is
theorem yesE {ρ : Env} {st : Store} : gTup (gaCons (gC (.str "yes")) gaNil) ρ st = .ok (.d (.tuple [.str "yes"])) st := rfl
theorem drawn_circuit_ok {st : Store} {n l m N : Nat} {mi Ni k : Int} (hmi : (m : Int) = mi) (hNi : (N : Int) = Ni) (D : Dk st n l k) (hm : m ≤ 60) (hN : 1 ≤ N ∧ N ≤ 50) (hk : k + 500 < 2 ^ 40) :
    Ok (m__law_drawn_circuit [.ref n, .d (.int mi), .d (.int Ni)] st) fun v st' => ∃ p gs, v = .d (.tuple [.str p, .tuple gs]) ∧ Circ m p gs ∧ Dk st' n l (k + 500) ∧ Fr n l st st' ∧ gs.length ≤ 50 := by
  refine ok_fn ?_
  show Ok (b__law_drawn_circuit [some (.ref n), some (.d (.int mi)), some (.d (.int Ni)), none, none, none, none, none] st) _
  unfold b__law_drawn_circuit
  have hSL : (sizeLine : Nat) = 16777216 := sizeLine_eq
  refine ok_seq (ok_par (ok_cons (ok_word (x := 101) (y := 97) D (by rw [hmi]; rfl) (by omega) (by omega) (by decide) (by decide) (fun _ => rfl) fun cs st1 c1 c2 D1 F1 => ?_)))
  refine ok_consE (xs := []) (st1 := st1) rfl (ok_nil ⟨rfl, ?_⟩)
  have G0 : Gt n l (k + m) st [] (st1 ++ [.lst []]) := Gt.start D1 F1
  have hL : st1.length = st.length := F1.1
  generalize st1 ++ [.lst []] = st2 at G0
  show Ok (sSeq _ _ [some (.ref n), some (.d (.int mi)), some (.d (.int Ni)), some (.d (.str ⟨cs.toArray⟩)), some (.ref st1.length), none, none, none] st2) _
  rw [hL]
  generalize hp : (⟨cs.toArray⟩ : Str) = p
  have hp1 : p.cps.size = m := by rw [← hp]; simpa using c1
  have hp2 : ∀ c ∈ p.cps.toList, c = 101 ∨ c = 97 := by rw [← hp]; simpa using c2
  refine ok_seq (ok_sfor ?_)
  have draw1 : Ok (iRange1 (gaCons (gBin vAdd (gC (.int 1)) (gCall m__law_draw (gaCons (gVar 0) (gaCons (gVar 2) (gaNil))))) gaNil) [some (.ref n), some (.d (.int mi)), some (.d (.int Ni)), some (.d (.str p)), some (.ref st.length), none, none, none] st2)
      fun ds st3 => ∃ M : Nat, ds = rgD 0 M ∧ 1 ≤ M ∧ M ≤ 50 ∧ Gt n l (k + m + 1) st [] st3 := by
    unfold iRange1
    refine ok_bind (ok_cons (ok_bin (ok_const (edraw (many := Ni) G0.dk rfl rfl (by omega) (by omega) (by omega) fun r st3 r0 r1 D3 F3 => ok_ok.mpr (ok_nil ?_)))))
    obtain ⟨r, rfl⟩ : ∃ r' : Nat, r = (r' : Int) := ⟨r.toNat, by omega⟩
    show Ok ((if inRg (1 + (r : Int)) = true then M.pure (rgD 0 (1 + (r : Int))) else M.stuck) st3) _
    rw [if_pos (by unfold inRg; rw [decide_eq_true (by omega), decide_eq_true (by omega)]; rfl)]
    exact ⟨1 + r, by rw [show ((1 + r : Nat) : Int) = 1 + (r : Int) from by omega], by omega, by omega, G0.draw D3 F3⟩
  refine ok_mono draw1 fun ds st3 ⟨M, hds, M1, M2, G1⟩ => ?_
  subst hds
  refine ok_for (P := fun ds ρ st' => ∃ gs o5 o6, ρ = [some (.ref n), some (.d (.int mi)), some (.d (.int Ni)), some (.d (.str p)), some (.ref st.length), o5, o6, none] ∧ ds = (rgD 0 M).drop gs.length ∧ gs.length ≤ M ∧ Gt n l (k + m + 1 + 6 * gs.length) st gs st' ∧ GG m gs) ?_ ?_ _ _ _
    ⟨[], none, none, rfl, rfl, by simp, G1.more (by simp), fun j g hg => by simp at hg⟩
  · rintro ρ st' ⟨gs, o5, o6, rfl, hd, hM, G, hg⟩
    have hlen : gs.length = M := by
      have := congrArg List.length hd
      rw [List.length_drop, rgD_len, List.length_nil] at this
      omega
    refine seqQ_nx (ok_ret ?_)
    have e : gTup (gaCons (gVar 3) (gaCons (gUn vTuple (gVar 4)) gaNil)) [some (.ref n), some (.d (.int mi)), some (.d (.int Ni)), some (.d (.str p)), some (.ref st.length), o5, o6, none] st' = .ok (.d (.tuple [.str p, .tuple gs])) st' := by
      refine ev_tup (ds := [.str p, .tuple gs]) (ev_cons (x := .d (.str p)) rfl (ev_cons (x := .d (.tuple gs)) ?_ ev_nil)) (by rw [hSL]; simp)
      refine (ev_un (f := vTuple) (ev_var (x := .ref st.length) rfl)).trans ?_
      show (match lstAt st' st.length with
        | some xs => Res.ok (Vl.d (.tuple xs)) st'
        | none => Res.stuck) = _
      rw [lstAt_of G.lst]
    rw [e]
    refine ok_ok.mpr (finQ_d ?_)
    obtain ⟨f1, f2⟩ := G.fin
    exact ⟨p, gs, rfl, ⟨hp1, hp2, hg, fun e => by rw [e] at hlen; simp at hlen; omega, by omega, hm⟩, f2.more (by omega), f1, by omega⟩
  · rintro d ds ρ st' ⟨gs, o5, o6, rfl, hd, hM, G, hg⟩
    obtain ⟨rfl, rfl, hj⟩ := rgD_drop hd.symm
    refine ⟨_, rfl, ?_⟩
    show Ok (sSeq _ _ [some (.ref n), some (.d (.int mi)), some (.d (.int Ni)), some (.d (.str p)), some (.ref st.length), some (.d (.int gs.length)), o6, none] st') _
    generalize hji : (gs.length : Int) = ji
    refine ok_seq (ok_set (edraw (many := 8) G.dk rfl rfl (by decide) (by decide) (by omega) fun way st4 w0 w1 D4 F4 => ?_))
    have G4 := G.draw D4 F4
    show Ok (sIf _ _ _ [some (.ref n), some (.d (.int mi)), some (.d (.int Ni)), some (.d (.str p)), some (.ref st.length), some (.d (.int ji)), some (.d (.int way)), none] st4) _
    -- what each append ends with
    have done : ∀ (y : PyData) st5 k', Gate m ji y ∧ Pl y ∧ Sm 1 100 y → Gt n l k' st gs st5 → k' ≤ k + m + 1 + 6 * (gs.length + 1) → ∃ y' gs', Vl.d y = .d y' ∧ st5[st.length]? = some (.lst gs') ∧ gs'.length < sizeLine ∧
        ∃ g2 o5 o6, [some (Vl.ref n), some (.d (.int mi)), some (.d (.int Ni)), some (.d (.str p)), some (.ref st.length), some (.d (.int ji)), some (.d (.int way)), none] = [some (.ref n), some (.d (.int mi)), some (.d (.int Ni)), some (.d (.str p)), some (.ref st.length), o5, o6, none] ∧ (rgD 0 M).drop (gs.length + 1) = (rgD 0 M).drop g2.length ∧ g2.length ≤ M ∧ Gt n l (k + m + 1 + 6 * g2.length) st g2 (st5.set st.length (.lst (gs' ++ [y']))) ∧ GG m g2 := fun y st5 k' hy G5 hk' => by
      refine ⟨y, gs, rfl, G5.lst, by rw [hSL]; omega, gs ++ [y], _, _, rfl, by rw [List.length_append, List.length_singleton], by rw [List.length_append, List.length_singleton]; omega, ?_, hg.app (by rw [hji]; exact hy.1) hy.2.1 hy.2.2⟩
      exact (G5.app).more (by rw [List.length_append, List.length_singleton]; omega)
    refine ok_sif ?_
    have c1 : bOr (bOf (gBin vEq (gVar 5) (gC (.int 0)))) (bOf (gBin vLt (gVar 6) (gC (.int 3)))) [some (.ref n), some (.d (.int mi)), some (.d (.int Ni)), some (.d (.str p)), some (.ref st.length), some (.d (.int ji)), some (.d (.int way)), none] st4 = .ok (ji == 0 || decide (way < 3)) st4 := by
      refine (ev_bor (show bOf (gBin vEq (gVar 5) (gC (.int 0))) _ st4 = .ok (ji == 0) st4 from rfl)).trans ?_
      cases (ji == 0) <;> rfl
    rw [c1]
    refine ok_ok.mpr ?_
    by_cases k1 : (ji == 0 || decide (way < 3)) = true
    · rw [if_pos k1]
      refine ok_append (L := st.length) rfl G4.lst (ok_if ?_)
      by_cases hm0 : mi = 0
      · have c2 : bOf (gBin vEq (gVar 1) (gC (.int 0))) [some (.ref n), some (.d (.int mi)), some (.d (.int Ni)), some (.d (.str p)), some (.ref st.length), some (.d (.int ji)), some (.d (.int way)), none] st4 = .ok true st4 := by rw [hm0]; rfl
        refine ok_eq ((ev_bor c2).trans (if_pos rfl)) (ok_ok.mpr ?_)
        rw [if_pos rfl, yesE]
        exact done _ st4 _ (gate_yes m ji) G4 (by omega)
      · have c2 : bOf (gBin vEq (gVar 1) (gC (.int 0))) [some (.ref n), some (.d (.int mi)), some (.d (.int Ni)), some (.d (.str p)), some (.ref st.length), some (.d (.int ji)), some (.d (.int way)), none] st4 = .ok false st4 := by
          show Res.ok (mi == 0) st4 = _
          rw [beq_eq_false_iff_ne.mpr hm0]
        refine ok_eq ((ev_bor c2).trans (if_neg Bool.false_ne_true)) ?_
        have vv : ∀ st5 k' (Q : Vl → Store → Prop), Gt n l k' st gs st5 → k' ≤ k + m + 3 + 6 * gs.length → (∀ r st6, 0 ≤ r → r < mi → Gt n l (k' + 1) st gs st6 → Q (.d (.tuple [.str "v", .int r])) st6) → Ok (gTup (gaCons (gC (.str "v")) (gaCons (gCall m__law_draw (gaCons (gVar 0) (gaCons (gVar 1) (gaNil)))) (gaNil))) [some (.ref n), some (.d (.int mi)), some (.d (.int Ni)), some (.d (.str p)), some (.ref st.length), some (.d (.int ji)), some (.d (.int way)), none] st5) Q := fun st5 k' Q G5 hk' q =>
          ok_tup (ok_cons (ok_const (ok_cons (edraw (many := mi) G5.dk rfl rfl (by omega) (by omega) (by omega) fun r st6 r0 r1 D6 F6 => ok_nil ⟨[.str "v", .int r], rfl, by rw [hSL]; simp, q r st6 r0 r1 (G5.draw D6 F6)⟩))))
        by_cases hw2 : way = 2
        · have c3 : bOf (gBin vEq (gVar 6) (gC (.int 2))) [some (.ref n), some (.d (.int mi)), some (.d (.int Ni)), some (.d (.str p)), some (.ref st.length), some (.d (.int ji)), some (.d (.int way)), none] st4 = .ok true st4 := by rw [hw2]; rfl
          refine ok_eq ((ev_band c3).trans (if_pos rfl)) ?_
          refine ok_bOf (ok_bin (edraw (many := 3) G4.dk rfl rfl (by decide) (by decide) (by omega) fun r st5 r0 r1 D5 F5 => ok_const ⟨r == 0, rfl, ?_⟩))
          cases hr : r == 0 with
          | true =>
            rw [if_pos rfl, yesE]
            exact done _ st5 _ (gate_yes m ji) (G4.draw D5 F5) (by omega)
          | false =>
            rw [if_neg Bool.false_ne_true]
            exact vv st5 _ _ (G4.draw D5 F5) (by omega) fun r st6 r0 r1 G6 => done _ st6 _ (gate_v r0 (by omega) (by omega)) G6 (by omega)
        · have c3 : bOf (gBin vEq (gVar 6) (gC (.int 2))) [some (.ref n), some (.d (.int mi)), some (.d (.int Ni)), some (.d (.str p)), some (.ref st.length), some (.d (.int ji)), some (.d (.int way)), none] st4 = .ok false st4 := by
            show Res.ok (way == 2) st4 = _
            rw [beq_eq_false_iff_ne.mpr hw2]
          refine ok_eq ((ev_band c3).trans (if_neg Bool.false_ne_true)) (ok_ok.mpr ?_)
          rw [if_neg Bool.false_ne_true]
          exact vv st4 _ _ G4 (by omega) fun r st6 r0 r1 G6 => done _ st6 _ (gate_v r0 (by omega) (by omega)) G6 (by omega)
    · rw [if_neg k1]
      have k1 := (Bool.not_eq_true _).mp k1
      rw [Bool.or_eq_false_iff] at k1
      have hj0 : ji ≠ 0 := by simpa using k1.1
      refine ok_sif ?_
      rw [show bOf (gBin vEq (gVar 6) (gC (.int 3))) [some (.ref n), some (.d (.int mi)), some (.d (.int Ni)), some (.d (.str p)), some (.ref st.length), some (.d (.int ji)), some (.d (.int way)), none] st4 = .ok (way == 3) st4 from rfl]
      refine ok_ok.mpr ?_
      have near : ∀ st5 k' (Q : Vl → Store → Prop), Gt n l k' st gs st5 → k' ≤ k + m + 5 + 6 * gs.length → (∀ r st6, 0 ≤ r → r < ji → Gt n l (k' + 2) st gs st6 → Q (.d (.int r)) st6) → Ok (gCall m__law_near_number (gaCons (gVar 0) (gaCons (gVar 5) (gaNil))) [some (.ref n), some (.d (.int mi)), some (.d (.int Ni)), some (.d (.str p)), some (.ref st.length), some (.d (.int ji)), some (.d (.int way)), none] st5) Q := fun st5 k' Q G5 hk' q => by
        refine ok_call ?_
        rw [show (gaCons (gVar 0) (gaCons (gVar 5) (gaNil))) [some (.ref n), some (.d (.int mi)), some (.d (.int Ni)), some (.d (.str p)), some (.ref st.length), some (.d (.int ji)), some (.d (.int way)), none] st5 = .ok [.ref n, .d (.int ji)] st5 from rfl]
        refine ok_ok.mpr (ok_mono (near_ok G5.dk (by omega) (by omega) (by omega)) fun v st6 ⟨r, e, r0, r1, D6, F6⟩ => ?_)
        subst e
        exact q r st6 r0 r1 (G5.draw D6 F6)
      cases hw3 : way == 3 with
      | true =>
        rw [if_pos rfl]
        refine ok_append (L := st.length) rfl G4.lst (ok_tup (ok_cons (ok_const (ok_cons (near st4 _ _ G4 (by omega) fun r st5 r0 r1 G5 => ok_nil ⟨[.str "not", .int r], rfl, by rw [hSL]; simp, ?_⟩)))))
        exact done _ st5 _ (gate_not r0 r1 (by omega)) G5 (by omega)
      | false =>
        rw [if_neg Bool.false_ne_true]
        refine ok_append (L := st.length) rfl G4.lst (ok_tup (ok_cons (epick (ds := [.str "and", .str "or"]) G4.dk rfl rfl (by simp) (by simp) (by omega) fun w hw st5 D5 F5 => ok_cons (near st5 _ _ (G4.draw D5 F5) (by omega) fun r st6 r0 r1 G6 => ok_cons (near st6 _ _ G6 (by omega) fun q st7 q0 q1 G7 => ok_nil ⟨[w, .int r, .int q], rfl, by rw [hSL]; simp, ?_⟩)))))
        exact done _ st7 _ (gate_two (by simpa using hw) r0 r1 q0 q1 (by omega)) G7 (by omega)
end Zv.K76
set_option Elab.async false
set_option linter.all false
set_option maxRecDepth 100000
set_option maxHeartbeats 1000000
namespace Zv.K76
open PySem L2 Zv
theorem ix_ref {st : Store} {L : Nat} {xs : List PyData} {r : Int} {x : PyData} (h : st[L]? = some (.lst xs)) (h0 : 0 ≤ r) (hx : xs[r.toNat]? = some x) : vIx (.ref L) (.d (.int r)) st = .ok (.d x) st := by
  have hl := (List.getElem?_eq_some_iff.mp hx).1
  have e : L2.atI xs r = some x := by
    unfold L2.atI L2.ixN
    rw [if_pos h0, if_pos (by omega)]
    exact hx
  show (match (lstAt st L).bind (fun xs => L2.atI xs r) with
    | some d => Res.ok (Vl.d d) st
    | none => Res.stuck) = _
  rw [lstAt_of h, Option.bind_some, e]
theorem ix_str {s : Str} {r : Int} {c : Nat} {st : Store} (hs : s.length ≤ sizeLine) (h0 : 0 ≤ r) (hx : s.cps.toList[r.toNat]? = some c) : vIx (.d (.str s)) (.d (.int r)) st = .ok (.d (.str ⟨#[c]⟩)) st := by
  have hl := (List.getElem?_eq_some_iff.mp hx).1
  have e : L2.atI s.cps.toList r = some c := by
    unfold L2.atI L2.ixN
    rw [if_pos h0, if_pos (by omega)]
    exact hx
  show (if s.length ≤ sizeLine then (match L2.atI s.cps.toList r with
    | some c => Res.ok (Vl.d (.str ⟨#[c]⟩)) st
    | none => Res.stuck) else Res.stuck) = _
  rw [if_pos hs, e]
theorem ix_tupI {xs : List PyData} {r : Int} {x : PyData} {st : Store} (h0 : 0 ≤ r) (h : xs[r.toNat]? = some x) : vIx (.d (.tuple xs)) (.d (.int r)) st = .ok (.d x) st := by
  have := ix_tup (st := st) h
  rw [show ((r.toNat : Nat) : Int) = r from by omega] at this
  exact this
theorem set_end {st : Store} {x y : Ob} : (st ++ [x]).set st.length y = st ++ [y] := by
  induction st with
  | nil => rfl
  | cons a st ih => exact congrArg (a :: ·) ih
theorem get_end {st : Store} {x : Ob} : (st ++ [x])[st.length]? = some x := List.getElem?_concat_length
def badC (x : PyData) : Exn := ⟨"BadCircuit", some ("thing", x)⟩
def badF (x : PyData) : Exn := ⟨"BadFilling", some ("thing", x)⟩
theorem bind_exc {α β : Type} {x : M α} {f : α → M β} {st st' : Store} {e : Exn} {ρ : Env} (h : x st = .exc e ρ st') : M.bind x f st = .exc e ρ st' := by unfold M.bind; rw [h]
theorem exc_fn {keep : Bool} {n : Nat} {b : SG} {args : List Vl} {st : Store} {e : Exn} {ρ : Env} (h : b (args.map some ++ List.replicate (n - args.length) none) st = .exc e ρ st) : fnM keep n b args st = .exc e [] st := by
  unfold fnM
  rw [h]
  show Res.exc e [] (st.take st.length) = _
  rw [List.take_length]
theorem exc_call {m : List Vl → M Vl} {gs : GA} {ρ ρ' : Env} {st st1 st2 : Store} {xs : List Vl} {e : Exn} (h : gs ρ st = .ok xs st1) (hm : m xs st1 = .exc e ρ' st2) : gCall m gs ρ st = .exc e ρ st2 := by
  unfold gCall
  rw [bind_ok h]
  unfold atE
  rw [hm]
theorem exc_drop {a : G} {ρ ρ' : Env} {st st1 : Store} {e : Exn} (h : a ρ st = .exc e ρ' st1) : sDrop a ρ st = .exc e ρ' st1 := bind_exc h
theorem exc_seq {a b : SG} {ρ ρ' : Env} {st st1 : Store} {e : Exn} (h : a ρ st = .exc e ρ' st1) : sSeq a b ρ st = .exc e ρ' st1 := bind_exc h
theorem e_need_good {x : PyData} {st : Store} (F : Fit x) (h : isCirc x = true) : m_need_circuit [.d x] st = .ok (.d .none) st := by
  have e : b_need_circuit [some (.d x)] st = .ok (.nx [some (.d x)]) st := by
    unfold b_need_circuit
    have t := ev_bnot (ev_bOf (ev_call (m := m_is_circuit_value) (ρ := [some (.d x)]) (ev_cons (ev_var (i := 0) (x := .d x) rfl) ev_nil) (e_is_circuit_value (st := st) F)))
    rw [h] at t
    exact (ev_sif t).trans rfl
  unfold m_need_circuit fnM
  rw [show ([Vl.d x].map some ++ List.replicate ((N_need_circuit).length - [Vl.d x].length) none) = [some (.d x)] from rfl, e]
  show Res.ok (Vl.d .none) (st.take st.length) = _
  rw [List.take_length]
theorem e_need_bad {x : PyData} {st : Store} (F : Fit x) (h : isCirc x = false) : m_need_circuit [.d x] st = .exc (badC x) [] st := by
  refine exc_fn (ρ := [some (.d x)]) ?_
  show b_need_circuit [some (.d x)] st = _
  unfold b_need_circuit
  have t := ev_bnot (ev_bOf (ev_call (m := m_is_circuit_value) (ρ := [some (.d x)]) (ev_cons (ev_var (i := 0) (x := .d x) rfl) ev_nil) (e_is_circuit_value (st := st) F)))
  rw [h] at t
  exact (ev_sif t).trans rfl
theorem Sm.size {k w : Nat} {z : Str} (h : Sm k w (.str z)) (hw : w ≤ 2 ^ 20) : z.cps.size ≤ sizeLine := by
  have := h.wt
  simp only [PyData.weight] at this
  rw [sizeLine_eq]
  omega
/-- len(circuit[0]) -/
theorem e_len0 {m : Nat} {p : Str} {gs : List PyData} {st : Store} {y : Vl} (C : Circ m p gs) : gUn vLen (gBin vIx (gVar 0) (gC (.int 0))) [some (.d (.tuple [.str p, .tuple gs])), some y] st = .ok (.d (.int m)) st := by
  refine (ev_un (f := vLen) ((ev_bin (x := .d (.tuple [.str p, .tuple gs])) (st1 := st) rfl ev_c).trans (ix_tup (i := 0) rfl))).trans ?_
  have hl : p.length = m := C.len
  show (if p.length ≤ sizeLine then Res.ok (Vl.d (.int p.length)) st else Res.stuck) = _
  rw [if_pos (by rw [hl, sizeLine_eq]; have := C.m8; omega), hl]
/-- what the law hears -/
theorem e_heard {m : M Vl} {e : Exn} {ρ : Env} {st : Store} {x : PyData} {w : String} (h : m st = .exc e ρ st) (hs : showOk x = true) (he : e = badC x ∧ w = "circuit" ∨ e = badF x ∧ w = "filling") :
    fnM false 2 (b__law_heard m) [] st = .ok (.d (.tuple [.str w, .str x.shown, .bool true])) st := by
  refine ev_fn ?_
  show b__law_heard m [none, none] st = _
  unfold b__law_heard
  have ea : sDrop (gAct m) [none, none] st = .exc e [none, none] st := by
    refine exc_drop (ρ' := [none, none]) ?_
    unfold gAct atE
    rw [h]
  have er : ∀ (ρ : Env) (st : Store), gUn vRepr (gC x) ρ st = .ok (.d (.str x.shown)) st := fun ρ st => by
    refine (ev_un (f := vRepr) (ev_c (x := x))).trans ?_
    show (if showOk x = true then Res.ok (Vl.d (.str x.shown)) st else Res.stuck) = _
    rw [if_pos hs]
  have es : ∀ (w : String) (ρ : Env), noExc (sRet (gTup (gaCons (gC (.str w)) (gaCons (gUn vRepr (gC x)) (gaCons (gC (.bool true)) gaNil)))) ρ) st = .ok (.rt (.d (.tuple [.str w, .str x.shown, .bool true]))) st := fun w ρ => by
    have := ev_ret (ev_tup (ds := [.str w, .str x.shown, .bool true]) (ρ := ρ) (st := st) (ev_cons (ev_c (x := .str w)) (ev_cons (er ρ st) (ev_cons (ev_c (x := .bool true)) ev_nil))) (by rw [sizeLine_eq]; simp))
    unfold noExc
    rw [this]
  refine ev_seq_rt ?_
  unfold sTry
  rw [ea]
  rcases he with ⟨rfl, rfl⟩ | ⟨rfl, rfl⟩
  · show M.bind (noExc _) _ st = _
    exact (bind_ok (es "circuit" [none, none])).trans rfl
  · show M.bind (noExc _) _ st = _
    exact (bind_ok (es "filling" [none, none])).trans rfl
end Zv.K76
set_option Elab.async false
set_option linter.all false
set_option maxRecDepth 100000
set_option maxHeartbeats 1000000
namespace Zv.K76
open PySem L2 Zv
theorem popD_ok {st : Store} {l : Nat} {init : List PyData} {y : PyData} (h : st[l]? = some (.lst (init ++ [y]))) : mPop (.ref l) [] st = .ok (.d y) (st.set l (.lst init)) := by
  have e : lstAt st l = some (init ++ [y]) := lstAt_of h
  have e2 : (init ++ [y])[(init ++ [y]).length - 1]? = some y := by
    rw [List.length_append, List.length_singleton, Nat.add_sub_cancel, List.getElem?_concat_length]
  show (match lstAt st l with
    | some xs => match xs[xs.length - 1]? with
      | some y => Res.ok (Vl.d y) (st.set l (.lst xs.dropLast))
      | none => .stuck
    | none => .stuck) = _
  rw [e]
  simp only [e2, List.dropLast_concat]
theorem extend_ok {st : Store} {l : Nat} {xs zs : List PyData} (h : st[l]? = some (.lst xs)) (hz : xs.length + zs.length ≤ sizeLine) : mExtend (.ref l) [.d (.list zs)] st = .ok (.d .none) (st.set l (.lst (xs ++ zs))) := by
  show (match lstAt st l, some zs with
    | some xs, some zs => if xs.length + zs.length ≤ sizeLine then Res.ok (Vl.d .none) (st.set l (.lst (xs ++ zs))) else .stuck
    | _, _ => .stuck) = _
  rw [lstAt_of h]
  exact if_pos hz
theorem ne_nilD {st : Store} {l : Nat} {xs : List PyData} (h : st[l]? = some (.lst xs)) (hs : SeqAt.shaped (.list xs) = true) : vNe (.ref l) (.own []) st = .ok (.d (.bool (!xs.isEmpty))) st := by
  have e1 : datOf (.ref l) st = some (.list xs) := by show (lstAt st l).map PyData.list = _; rw [lstAt_of h]; rfl
  have e2 : eqOk (.list xs) (.list []) = true := by
    show (SeqAt.shaped _ && SeqAt.shaped _) = true
    rw [hs]; rfl
  have e3 : PyData.eqv (.list xs) (.list []) = xs.isEmpty := by cases xs <;> rfl
  unfold vNe vEqB
  rw [e1]
  show (if eqOk (.list xs) (.list []) = true then _ else _) = _
  rw [if_pos e2, e3]
  rfl
def prs (as : List PyData) : List PyData := as.map fun a => .tuple [a, a]
theorem zip_self : ∀ xs : List PyData, zipD xs xs = prs xs
  | [] => rfl
  | x :: xs => by
    have := zip_self xs
    unfold zipD prs at *
    rw [List.zip_cons_cons, List.map_cons, List.map_cons, this]
/-- what stands in the pile -/
structure Pile (as : List PyData) : Prop where
  lf : ∀ a ∈ as, Zv.lf a
  dep : ∀ a ∈ as, a.depth ≤ 40
  wt : PyData.weightAll as ≤ 2 ^ 22
theorem Pile.shaped {as : List PyData} (h : Pile as) : SeqAt.shaped (.list (prs as)) = true := by
  unfold SeqAt.shaped
  rw [Bool.and_eq_true]
  refine ⟨?_, decide_eq_true ?_⟩
  · rw [PyData.canLay0, layAll_iff, List.all_eq_true]
    intro x hx
    obtain ⟨a, ha, rfl⟩ := List.mem_map.mp hx
    rw [PyData.canLay0, layAll_iff]
    simp [(h.lf a ha).1]
  · simp only [PyData.depth]
    have : PyData.depthAll (prs as) ≤ 41 := (depthAll_iff _ _).mpr fun x hx => by
      obtain ⟨a, ha, rfl⟩ := List.mem_map.mp hx
      have := h.dep a ha
      simp only [PyData.depth, PyData.depthAll]
      omega
    omega
theorem Pile.init {as : List PyData} {a : PyData} (h : Pile (as ++ [a])) : Pile as := ⟨fun x hx => h.lf x (List.mem_append_left _ hx), fun x hx => h.dep x (List.mem_append_left _ hx), by have := h.wt; rw [weightAll_append] at this; omega⟩
theorem weight_one (a : PyData) : PyData.weightAll [a] = a.weight + 1 := by simp only [PyData.weightAll]
def sameB : SG := (sSeq (sAsg (gtTup [gtName 3, gtName 4]) (gMeth isLst mPop (gVar 2) gaNil))
  (sIf (bOf (gUn (vIsiT ["tuple", "list"]) (gVar 3))) (sSeq (sIf (bOr (bNot (bOf (gUn (vIsiT ["tuple", "list"]) (gVar 4)))) (bOr (bOf (gBin vNe (gUn (vIsi "tuple") (gVar 3)) (gUn (vIsi "tuple") (gVar 4)))) (bOf (gBin vNe (gUn vLen (gVar 3)) (gUn vLen (gVar 4)))))) (sRet (gC (.bool false))) (sSkip))
  (sDrop (gMeth isLst mExtend (gVar 2) (gaCons (gListZip (gaCons (gVar 3) (gaCons (gVar 4) (gaNil)))) (gaNil))))) (sIf (bOf (gUn (vIsiT ["int", "str"]) (gVar 3))) (sIf (bOr (bNot (bOf (gUn (vIsiT ["int", "str"]) (gVar 4)))) (bOr (bOf (gBin vNe (gUn (vIsi "bool") (gVar 3)) (gUn (vIsi "bool") (gVar 4)))) (bOf (gBin vNe (gVar 3) (gVar 4))))) (sRet (gC (.bool false))) (sSkip)) (sIf (bOr (bOf (gUn vNotN (gVar 3))) (bOf (gUn vNotN (gVar 4)))) (sRet (gC (.bool false))) (sSkip)))))
theorem ne_self_int {i : Int} {st : Store} : vNe (.d (.int i)) (.d (.int i)) st = .ok (.d (.bool false)) st := by
  show Res.ok (Vl.d (.bool (!(i == i)))) st = _
  rw [beq_self_eq_true]
  rfl
/-- a round of the pile -/
theorem same_round {st : Store} {o0 o1 o3 o4 : Option Vl} {as : List PyData} {a : PyData} (h : Pile (as ++ [a])) : ∃ bs, sameB [o0, o1, some (.ref st.length), o3, o4] (st ++ [.lst (prs (as ++ [a]))]) = .ok (.nx [o0, o1, some (.ref st.length), some (.d a), some (.d a)]) (st ++ [.lst (prs bs)]) ∧ Pile bs ∧ PyData.weightAll bs < PyData.weightAll (as ++ [a]) := by
  have ha := h.lf a (List.mem_append_right _ (List.mem_singleton.mpr rfl))
  have hd := h.dep a (List.mem_append_right _ (List.mem_singleton.mpr rfl))
  have hw := h.wt
  have hwa : PyData.weightAll (as ++ [a]) = PyData.weightAll as + (a.weight + 1) := by rw [weightAll_append, weight_one]
  have e1 : sAsg (gtTup [gtName 3, gtName 4]) (gMeth isLst mPop (gVar 2) gaNil) [o0, o1, some (.ref st.length), o3, o4] (st ++ [.lst (prs (as ++ [a]))]) = .ok (.nx [o0, o1, some (.ref st.length), some (.d a), some (.d a)]) (st ++ [.lst (prs as)]) := by
    have e : gMeth isLst mPop (gVar 2) gaNil [o0, o1, some (.ref st.length), o3, o4] (st ++ [.lst (prs (as ++ [a]))]) = .ok (.d (.tuple [a, a])) (st ++ [.lst (prs as)]) := by
      refine (ev_meth (ev_var rfl) (isLst_ok get_end) ev_nil).trans ?_
      rw [popD_ok (init := prs as) (y := .tuple [a, a]) (by rw [get_end]; unfold prs; rw [List.map_append]; rfl), set_end]
    unfold sAsg
    rw [bind_ok e]
    rfl
  have leaf : ∀ {s : SG}, s [o0, o1, some (.ref st.length), some (.d a), some (.d a)] (st ++ [.lst (prs as)]) = .ok (.nx [o0, o1, some (.ref st.length), some (.d a), some (.d a)]) (st ++ [.lst (prs as)]) → ∃ bs, s [o0, o1, some (.ref st.length), some (.d a), some (.d a)] (st ++ [.lst (prs as)]) = .ok (.nx [o0, o1, some (.ref st.length), some (.d a), some (.d a)]) (st ++ [.lst (prs bs)]) ∧ Pile bs ∧ PyData.weightAll bs < PyData.weightAll (as ++ [a]) :=
    fun hs => ⟨as, hs, h.init, by omega⟩
  have seqs : ∀ xs : List PyData, a.weight = PyData.weightAll xs → (∀ x ∈ xs, Zv.lf x) → (∀ x ∈ xs, x.depth ≤ 40) → Pile (as ++ xs) ∧ PyData.weightAll (as ++ xs) < PyData.weightAll (as ++ [a]) := fun xs hx h1 h2 =>
    ⟨⟨fun y hy => (List.mem_append.mp hy).elim (h.init.lf y) (h1 y), fun y hy => (List.mem_append.mp hy).elim (h.init.dep y) (h2 y), by rw [weightAll_append]; omega⟩, by rw [weightAll_append]; omega⟩
  have ext : ∀ xs : List PyData, a.weight = PyData.weightAll xs → ∀ {e : G}, e [o0, o1, some (.ref st.length), some (.d a), some (.d a)] (st ++ [.lst (prs as)]) = .ok (.own (zipD xs xs)) (st ++ [.lst (prs as)]) →
      sDrop (gMeth isLst mExtend (gVar 2) (gaCons e gaNil)) [o0, o1, some (.ref st.length), some (.d a), some (.d a)] (st ++ [.lst (prs as)]) = .ok (.nx [o0, o1, some (.ref st.length), some (.d a), some (.d a)]) (st ++ [.lst (prs (as ++ xs))]) := fun xs hx e he => by
    refine ev_drop (x := .d .none) ((ev_meth (ev_var rfl) (isLst_ok get_end) (ev_cons he ev_nil)).trans ?_)
    have l1 := weightAll_len as
    have l2 := weightAll_len xs
    refine (extend_ok (zs := zipD xs xs) get_end ?_).trans ?_
    · rw [zip_self]
      unfold prs
      rw [List.length_map, List.length_map, sizeLine_eq]
      omega
    · rw [set_end, zip_self]
      unfold prs
      rw [List.map_append]
  unfold sameB
  rw [ev_seq e1]
  cases a with
  | none => exact leaf rfl
  | bool b => cases b <;> exact leaf rfl
  | int i =>
    refine leaf ((ev_sif (k := false) rfl).trans ((if_neg Bool.false_ne_true).trans ((ev_sif (k := true) rfl).trans ((if_pos rfl).trans ((ev_sif (k := false) ?_).trans rfl)))))
    refine (ev_bor (k := false) rfl).trans ((if_neg Bool.false_ne_true).trans ((ev_bor (k := false) rfl).trans ((if_neg Bool.false_ne_true).trans (ev_bOf ((ev_bin (f := vNe) (ev_var rfl) (ev_var rfl)).trans ne_self_int)))))
  | str s =>
    refine leaf ((ev_sif (k := false) rfl).trans ((if_neg Bool.false_ne_true).trans ((ev_sif (k := true) rfl).trans ((if_pos rfl).trans ((ev_sif (k := false) ?_).trans rfl)))))
    refine (ev_bor (k := false) rfl).trans ((if_neg Bool.false_ne_true).trans ((ev_bor (k := false) rfl).trans ((if_neg Bool.false_ne_true).trans (ev_bOf ((ev_bin (f := vNe) (ev_var rfl) (ev_var rfl)).trans ?_)))))
    show Res.ok (Vl.d (.bool (!(s == s)))) _ = _
    rw [beq_self_eq_true]
    rfl
  | tuple xs =>
    simp only [PyData.depth] at hd
    obtain ⟨q1, q2⟩ := seqs xs (by simp only [PyData.weight]) (lf_tup.mp ha) ((depthAll_iff 40 xs).mp (by omega))
    have hl : xs.length ≤ sizeLine := by have := weightAll_len xs; simp only [PyData.weight] at hwa; rw [sizeLine_eq]; omega
    refine ⟨as ++ xs, ?_, q1, q2⟩
    refine (ev_sif (k := true) rfl).trans ((if_pos rfl).trans ((ev_seq ((ev_sif (k := false) ?_).trans rfl)).trans (ext xs (by simp only [PyData.weight]) ?_)))
    · refine (ev_bor (k := false) rfl).trans ((if_neg Bool.false_ne_true).trans ((ev_bor (k := false) rfl).trans ((if_neg Bool.false_ne_true).trans (ev_bOf ((ev_bin (f := vNe) (x := .d (.int xs.length)) (y := .d (.int xs.length)) rfl rfl).trans ne_self_int)))))
    · unfold gListZip
      rw [bind_ok (ev_cons (x := .d (.tuple xs)) (ev_var rfl) (ev_cons (x := .d (.tuple xs)) (ev_var rfl) ev_nil))]
      show (if min xs.length xs.length ≤ sizeLine then M.pure (Vl.own (zipD xs xs)) else M.stuck) _ = _
      rw [if_pos (by omega)]
  | list xs =>
    simp only [PyData.depth] at hd
    obtain ⟨q1, q2⟩ := seqs xs (by simp only [PyData.weight]) (lf_lst.mp ha) ((depthAll_iff 40 xs).mp (by omega))
    have hl : xs.length ≤ sizeLine := by have := weightAll_len xs; simp only [PyData.weight] at hwa; rw [sizeLine_eq]; omega
    refine ⟨as ++ xs, ?_, q1, q2⟩
    refine (ev_sif (k := true) rfl).trans ((if_pos rfl).trans ((ev_seq ((ev_sif (k := false) ?_).trans rfl)).trans (ext xs (by simp only [PyData.weight]) ?_)))
    · refine (ev_bor (k := false) rfl).trans ((if_neg Bool.false_ne_true).trans ((ev_bor (k := false) rfl).trans ((if_neg Bool.false_ne_true).trans (ev_bOf ((ev_bin (f := vNe) (x := .d (.int xs.length)) (y := .d (.int xs.length)) rfl rfl).trans ne_self_int)))))
    · unfold gListZip
      rw [bind_ok (ev_cons (x := .d (.list xs)) (ev_var rfl) (ev_cons (x := .d (.list xs)) (ev_var rfl) ev_nil))]
      show (if min xs.length xs.length ≤ sizeLine then M.pure (Vl.own (zipD xs xs)) else M.stuck) _ = _
      rw [if_pos (by omega)]
  | dict kvs => exact absurd ha.1 (by simp [PyData.canLay0])
theorem same_loop {st : Store} {o0 o1 : Option Vl} {R : Flow → Store → Prop} (q : ∀ o3 o4, R (.nx [o0, o1, some (.ref st.length), o3, o4]) (st ++ [.lst []])) : ∀ (n : Nat) (as : List PyData) (o3 o4 : Option Vl), Pile as → PyData.weightAll as < n →
    Ok (whileL (bOf (gBin vNe (gVar 2) (gLst (gaNil)))) sameB n [o0, o1, some (.ref st.length), o3, o4] (st ++ [.lst (prs as)])) R
  | 0, _, _, _, _, h => absurd h (by omega)
  | n + 1, as, o3, o4, hp, hn => by
    have hc : bOf (gBin vNe (gVar 2) (gLst (gaNil))) [o0, o1, some (.ref st.length), o3, o4] (st ++ [.lst (prs as)]) = .ok (!(prs as).isEmpty) (st ++ [.lst (prs as)]) := ev_bOf ((ev_bin (f := vNe) (ev_var rfl) (show gLst gaNil _ _ = .ok (.own []) _ from rfl)).trans (ne_nilD get_end hp.shaped))
    unfold whileL
    refine ok_eq (bind_ok hc) ?_
    rcases List.eq_nil_or_concat as with rfl | ⟨init, a, rfl⟩
    · exact q o3 o4
    · rw [List.concat_eq_append] at *
      have hne : (!(prs (init ++ [a])).isEmpty) = true := by unfold prs; cases init <;> rfl
      rw [hne, if_pos rfl]
      obtain ⟨bs, e, h1, h2⟩ := same_round (st := st) (o0 := o0) (o1 := o1) (o3 := o3) (o4 := o4) hp
      refine ok_eq (bind_ok e) ?_
      exact same_loop q n bs _ _ h1 (by omega)
/-- two that are one are the same -/
theorem e_same {x : PyData} {st : Store} {k w : Nat} (h : Sm k w x) (hk : k ≤ 40) (hw : w ≤ 2 ^ 20) : m__law_same [.d x, .d x] st = .ok (.d (.bool true)) st := by
  have hp : Pile [x] := ⟨fun a ha => by rw [List.mem_singleton.mp ha]; exact h.lf, fun a ha => by rw [List.mem_singleton.mp ha]; exact Nat.le_trans h.dep hk, by rw [weight_one]; have := h.wt; omega⟩
  have g : Ok (m__law_same [.d x, .d x] st) fun v st' => v = .d (.bool true) ∧ st' = st := by
    refine ok_fn ?_
    show Ok (b__law_same [some (.d x), some (.d x), none, none, none] st) _
    unfold b__law_same
    refine ok_seq (ok_setE (xs := prs [x]) (st1 := st) rfl ?_)
    refine seqQ_nx (ok_seq ?_)
    show Ok (whileL (bOf (gBin vNe (gVar 2) (gLst (gaNil)))) sameB wFuel [some (.d x), some (.d x), some (.ref st.length), none, none] (st ++ [.lst (prs [x])])) _
    refine same_loop (fun o3 o4 => ?_) wFuel [x] none none hp ?_
    · refine seqQ_nx (ok_ret (ok_const ?_))
      refine finQ_d ?_
      rw [List.take_left]
      exact ⟨rfl, rfl⟩
    · have h1 := hp.wt
      exact Nat.lt_of_le_of_lt h1 (by decide)
  obtain ⟨v, st', e, rfl, rfl⟩ := ok_at g
  exact e
end Zv.K76
set_option Elab.async false
set_option linter.all false
set_option maxRecDepth 100000
set_option maxHeartbeats 1000000
namespace Zv
open PySem L2
/-! ### texts that repr gives are texts -/
def okS (s : Str) : Prop := ∀ c ∈ s.cps.toList, c < 1114112
theorem okS_app {a b : Str} (h : okS a) (k : okS b) : okS (a ++ b) := fun c hc => by
  rw [PySem.Str.cps_append, Array.toList_append, List.mem_append] at hc
  exact hc.elim (h c) (k c)
theorem char_lt (d : Char) : d.toNat < 1114112 := by
  have h := d.valid
  simp only [UInt32.isValidChar, Nat.isValidChar] at h
  show d.val.toNat < _
  omega
theorem okS_of (s : String) : okS (Str.ofString s) := fun c hc => by
  rw [ofString_list] at hc
  obtain ⟨d, _, rfl⟩ := List.mem_map.mp hc
  exact char_lt d
theorem reprChar_lt {q c : Nat} (hc : c < 1114112) : ∀ x ∈ Builtin.Str.reprChar q c, x < 1114112 := by
  have hx : ∀ w : Nat, ∀ x ∈ (List.replicate (w - ((Nat.toDigits 16 c).map Char.toNat).length) 48 ++ (Nat.toDigits 16 c).map Char.toNat), x < 1114112 := fun w x hx => by
    rcases List.mem_append.mp hx with h | h
    · have := List.eq_of_mem_replicate h; omega
    · obtain ⟨d, _, rfl⟩ := List.mem_map.mp h
      exact char_lt d
  intro x hm
  unfold Builtin.Str.reprChar at hm
  dsimp only at hm
  have two : ∀ a b : Nat, a < 1114112 → b < 1114112 → x ∈ [a, b] → x < 1114112 := fun a b ha hb h => by
    rcases List.mem_cons.mp h with e | h
    · omega
    · rw [List.mem_singleton.mp h]; exact hb
  split at hm
  · exact two _ _ (by decide) hc hm
  split at hm
  · exact two _ _ (by decide) (by decide) hm
  split at hm
  · exact two _ _ (by decide) (by decide) hm
  split at hm
  · exact two _ _ (by decide) (by decide) hm
  split at hm
  · rw [List.mem_singleton.mp hm]; exact hc
  split at hm
  · rcases List.mem_append.mp hm with h | h
    · exact two _ _ (by decide) (by decide) h
    · exact hx 2 x h
  split at hm
  · rcases List.mem_append.mp hm with h | h
    · exact two _ _ (by decide) (by decide) h
    · exact hx 4 x h
  · rcases List.mem_append.mp hm with h | h
    · exact two _ _ (by decide) (by decide) h
    · exact hx 8 x h
theorem repr_fold {q : Nat} : ∀ (l : List Nat) (acc : Array Nat), (∀ c ∈ l, c < 1114112) → (∀ c ∈ acc.toList, c < 1114112) → ∀ c ∈ (l.foldl (fun out c => out ++ (Builtin.Str.reprChar q c).toArray) acc).toList, c < 1114112
  | [], acc, _, h2 => h2
  | c :: r, acc, h1, h2 => repr_fold r _ (fun d hd => h1 d (List.mem_cons_of_mem _ hd)) fun d hd => by
    rw [Array.toList_append, List.mem_append] at hd
    exact hd.elim (h2 d) fun h => reprChar_lt (h1 c List.mem_cons_self) d (by simpa using h)
theorem okS_repr {x : Str} (h : okS x) : okS (reprText x) := by
  have hq : reprQuote x < 1114112 := by unfold reprQuote; split <;> decide
  intro c hc
  unfold reprText at hc
  rw [Array.toList_push, List.mem_append] at hc
  rcases hc with hc | hc
  · rw [← Array.foldl_toList] at hc
    exact repr_fold _ _ h (fun d hd => by simp at hd; omega) c hc
  · rw [List.mem_singleton.mp hc]; exact hq
theorem okS_from : ∀ (ts : List Str) (k : Nat) (acc : Str), (∀ t ∈ ts, okS t) → okS acc → okS (textFrom k acc ts)
  | [], k, acc, _, h => h
  | t :: ts, k, acc, h, ha => by
    unfold textFrom
    refine okS_from ts _ _ (fun u hu => h u (List.mem_cons_of_mem _ hu)) (okS_app (okS_app ha ?_) (h t List.mem_cons_self))
    exact okS_of _
theorem okS_join {sep : Str} (hs : okS sep) : ∀ ts : List Str, (∀ t ∈ ts, okS t) → okS (Str.join sep ts)
  | [], _ => fun c hc => by simp [Str.join, Str.empty] at hc
  | [t], h => h t List.mem_cons_self
  | t :: u :: r, h => okS_app (okS_app (h t List.mem_cons_self) hs) (okS_join hs (u :: r) fun x hx => h x (List.mem_cons_of_mem _ hx))
mutual
theorem okS_shown : ∀ d : PyData, d.canLay0 = true → okS d.shown
  | .none, _ => okS_of "None"
  | .bool b, _ => by cases b <;> exact okS_of _
  | .int i, _ => okS_of _
  | .str x, h => okS_repr fun c hc => by
    rw [PyData.canLay0] at h
    exact of_decide_eq_true ((Array.all_eq_true_iff_forall_mem.mp (show (x.cps.all fun c => decide (c < 0x110000)) = true from h)) c (Array.mem_toList_iff.mp hc))
  | .list xs, h => by
    rw [PyData.shown]
    exact okS_app (okS_from _ _ _ (okS_all xs (by simpa [PyData.canLay0] using h)) (okS_of "[")) (okS_of "]")
  | .tuple xs, h => by
    rw [PyData.shown]
    exact okS_app (okS_app (okS_of "(") (okS_join (okS_of ", ") _ (okS_all xs (by simpa [PyData.canLay0] using h)))) (okS_of _)
  | .dict _, h => by simp [PyData.canLay0] at h
theorem okS_all : ∀ xs : List PyData, PyData.canLayAll0 xs = true → ∀ t ∈ PyData.shownAll xs, okS t
  | [], _ => fun t h => by rw [PyData.shownAll] at h; cases h
  | x :: xs, h => fun t ht => by
    rw [PyData.canLayAll0, Bool.and_eq_true] at h
    rw [PyData.shownAll] at ht
    rcases List.mem_cons.mp ht with rfl | ht
    · exact okS_shown x h.1
    · exact okS_all xs h.2 t ht
end
theorem okS_lay {s : Str} (h : okS s) : PyData.canLay0 (.str s) = true := by
  rw [PyData.canLay0]
  show (s.cps.all fun c => decide (c < 0x110000)) = true
  rw [Array.all_eq_true_iff_forall_mem]
  exact fun c hc => decide_eq_true (h c (Array.mem_toList_iff.mpr hc))
end Zv
set_option Elab.async false
set_option linter.all false
set_option maxRecDepth 100000
set_option maxHeartbeats 1000000
/-! U1: texts of plain signs: cut, split, joined, replaced, upper; numbers in texts. -/
namespace Zv.K76
open PySem L2
/-- a text of plain signs, of at most W of them -/
structure Asc (W : Nat) (s : Str) : Prop where
  lt : ∀ c ∈ s.cps.toList, c < 128
  sz : s.cps.size ≤ W
theorem Asc.more {V W : Nat} {s : Str} (h : Asc V s) (hw : V ≤ W) : Asc W s := ⟨h.lt, Nat.le_trans h.sz hw⟩
theorem Asc.app {V W X : Nat} {s t : Str} (h : Asc V s) (k : Asc W t) (hx : V + W ≤ X) : Asc X (s ++ t) := ⟨fun c hc => by
  rw [PySem.Str.cps_append, Array.toList_append, List.mem_append] at hc
  exact hc.elim (h.lt c) (k.lt c), by have := h.sz; have := k.sz; rw [PySem.Str.cps_append, Array.size_append]; omega⟩
theorem Asc.cut {W : Nat} {s : Str} {lo hi : Option Int} (h : Asc W s) : Asc W (cutS s lo hi) := ⟨fun c hc => by
  unfold cutS at hc
  exact h.lt c (List.mem_of_mem_drop (List.mem_of_mem_take (by simpa using hc))), by
  have := h.sz
  unfold cutS
  simp only [List.size_toArray, List.length_take, List.length_drop, Array.length_toList]
  omega⟩
theorem asc_of {s : Str} {W : Nat} (h : (s.cps.toList.all fun c => decide (c < 128)) = true) (hw : s.cps.size ≤ W) : Asc W s := ⟨fun c hc => by simpa using List.all_eq_true.mp h c hc, hw⟩
theorem upperOf_asc : ∀ c, c < 128 → (Unicode.upperOf c).length = 1 ∧ ∀ d ∈ Unicode.upperOf c, d < 128 := by
  have h : ∀ i : Fin 128, ((Unicode.upperOf i.val).length == 1 && (Unicode.upperOf i.val).all fun d => decide (d < 128)) = true := by decide +kernel
  intro c hc
  have := h ⟨c, hc⟩
  rw [Bool.and_eq_true, beq_iff_eq, List.all_eq_true] at this
  exact ⟨this.1, fun d hd => by simpa using this.2 d hd⟩
theorem Asc.upper {W : Nat} {s : Str} (h : Asc W s) : Asc W (Txt.upper s) := by
  have e : (Txt.upper s).cps.toList = s.cps.toList.flatMap Unicode.upperOf := placed_list s _
  refine ⟨fun c hc => ?_, ?_⟩
  · rw [e, List.mem_flatMap] at hc
    obtain ⟨d, hd, hc⟩ := hc
    exact (upperOf_asc d (h.lt d hd)).2 c hc
  · rw [← Array.length_toList, e]
    have hl : ∀ l : List Nat, (∀ c ∈ l, c < 128) → (l.flatMap Unicode.upperOf).length = l.length := fun l => by
      induction l with
      | nil => intro _; rfl
      | cons c l ih =>
        intro hc
        rw [List.flatMap_cons, List.length_append, ih fun d hd => hc d (List.mem_cons_of_mem _ hd), (upperOf_asc c (hc c List.mem_cons_self)).1, List.length_cons, Nat.add_comm]
    rw [hl _ h.lt, Array.length_toList]
    exact h.sz
theorem replS_mem {y z : List Nat} : ∀ (l : List Nat) (s : Nat), ∀ c ∈ StrLaws.replS y z s l, c ∈ z ∨ c ∈ l
  | [], s, c, h => by cases s <;> simp [StrLaws.replS] at h
  | d :: r, 0, c, h => by
    rw [StrLaws.replS] at h
    split at h
    · rcases List.mem_append.mp h with h | h
      · exact .inl h
      · exact (replS_mem r _ c h).imp_right (List.mem_cons_of_mem _)
    · rcases List.mem_cons.mp h with rfl | h
      · exact .inr List.mem_cons_self
      · exact (replS_mem r _ c h).imp_right (List.mem_cons_of_mem _)
  | d :: r, s + 1, c, h => by
    rw [StrLaws.replS] at h
    exact (replS_mem r _ c h).imp_right (List.mem_cons_of_mem _)
theorem Asc.repl {W V : Nat} {x y z : Str} (h : Asc W x) (hz : Asc V z) (hy : 1 ≤ y.length) : Asc (W + (W + 1) * V) (Txt.replace x y z) := ⟨fun c hc => by
  rw [StrLaws.replace_list hy] at hc
  exact (replS_mem _ _ c hc).elim (hz.lt c) (h.lt c), by
  have h1 := TK.replace_len x y z
  have h2 : (x.length + 1) * z.length ≤ (W + 1) * V := Nat.mul_le_mul (Nat.succ_le_succ h.sz) hz.sz
  have h3 : x.length ≤ W := h.sz
  show (Txt.replace x y z).length ≤ _
  omega⟩
/-! split -/
theorem spl_mem (S : List Nat) : ∀ (l : List Nat) (k : Nat) (acc : List Nat), ∀ p ∈ TL.spl S k acc l, p.length ≤ acc.length + l.length ∧ ∀ c ∈ p, c ∈ acc ∨ c ∈ l
  | [], k, acc, p, hp => by
    rw [TL.spl_nil, List.mem_singleton] at hp
    subst hp
    exact ⟨by simp, fun c hc => .inl hc⟩
  | c :: r, 0, acc, p, hp => by
    by_cases h : TL.pre S (c :: r) = true
    · rw [TL.spl_hit h, List.mem_cons] at hp
      rcases hp with rfl | hp
      · exact ⟨by simp, fun c hc => .inl hc⟩
      · obtain ⟨h1, h2⟩ := spl_mem S r _ _ p hp
        exact ⟨by simp at h1 ⊢; omega, fun d hd => .inr (List.mem_cons_of_mem _ ((h2 d hd).resolve_left (by simp)))⟩
    · rw [TL.spl_miss ((Bool.not_eq_true _).mp h)] at hp
      obtain ⟨h1, h2⟩ := spl_mem S r _ _ p hp
      refine ⟨by simp at h1 ⊢; omega, fun d hd => ?_⟩
      rcases h2 d hd with q | q
      · rcases List.mem_append.mp q with q | q
        · exact .inl q
        · rw [List.mem_singleton.mp q]; exact .inr List.mem_cons_self
      · exact .inr (List.mem_cons_of_mem _ q)
  | c :: r, k + 1, acc, p, hp => by
    obtain ⟨h1, h2⟩ := spl_mem S r k acc p (show p ∈ TL.spl S k acc r from hp)
    exact ⟨by simp at h1 ⊢; omega, fun d hd => (h2 d hd).imp_right (List.mem_cons_of_mem _)⟩
theorem spl_len (S : List Nat) : ∀ (l : List Nat) (k : Nat) (acc : List Nat), 1 ≤ (TL.spl S k acc l).length ∧ (TL.spl S k acc l).length ≤ l.length + 1
  | [], k, acc => by rw [TL.spl_nil]; simp
  | c :: r, 0, acc => by
    by_cases h : TL.pre S (c :: r) = true
    · rw [TL.spl_hit h]
      have := spl_len S r (S.length - 1) []
      simp only [List.length_cons]
      omega
    · rw [TL.spl_miss ((Bool.not_eq_true _).mp h)]
      have := spl_len S r 0 (acc ++ [c])
      simp only [List.length_cons]
      omega
  | c :: r, k + 1, acc => by
    have := spl_len S r k acc
    show 1 ≤ (TL.spl S k acc r).length ∧ (TL.spl S k acc r).length ≤ _
    simp only [List.length_cons]
    omega
theorem split_of {x y : Str} {s : Nat} {S : List Nat} (ey : TL.tl y = s :: S) (hk : y.cps.all (· < 256) = true) : (Txt.split x y).map TL.tl = TL.spl (s :: S) 0 [] (TL.tl x) := by
  rw [TL.split_spl x y (by rw [ey]; simp) (TL.kind_ok hk), ey]
theorem Asc.split {W : Nat} {x y : Str} {s : Nat} {S : List Nat} (h : Asc W x) (ey : TL.tl y = s :: S) (hk : y.cps.all (· < 256) = true) : ∀ p ∈ Txt.split x y, Asc W p := fun p hp => by
  have hm : TL.tl p ∈ TL.spl (s :: S) 0 [] (TL.tl x) := by rw [← split_of ey hk]; exact List.mem_map_of_mem hp
  obtain ⟨h1, h2⟩ := spl_mem _ _ _ _ _ hm
  exact ⟨fun c hc => h.lt c ((h2 c hc).resolve_left (by simp)), by
    have := h.sz
    rw [← Array.length_toList] at this ⊢
    exact Nat.le_trans (by simpa using h1) this⟩
theorem split_count {x y : Str} {s : Nat} {S : List Nat} (ey : TL.tl y = s :: S) (hk : y.cps.all (· < 256) = true) : 1 ≤ (Txt.split x y).length ∧ (Txt.split x y).length ≤ x.cps.size + 1 := by
  have e : (Txt.split x y).length = (TL.spl (s :: S) 0 [] (TL.tl x)).length := by rw [← split_of ey hk, List.length_map]
  rw [e, ← Array.length_toList]
  exact spl_len _ _ _ _
/-! joined -/
theorem joinL_len (S : List Nat) : ∀ ps : List (List Nat), (TL.joinL S ps).length ≤ (ps.map List.length).sum + ps.length * S.length
  | [] => by simp [TL.joinL]
  | [p] => by simp [TL.joinL]
  | p :: q :: r => by
    have := joinL_len S (q :: r)
    simp only [TL.joinL, List.length_append, List.map_cons, List.sum_cons, List.length_cons, Nat.add_mul, Nat.one_mul] at this ⊢
    omega
theorem joinL_mem (S : List Nat) : ∀ (ps : List (List Nat)), ∀ c ∈ TL.joinL S ps, c ∈ S ∨ ∃ p ∈ ps, c ∈ p
  | [], c, h => by simp [TL.joinL] at h
  | [p], c, h => .inr ⟨p, List.mem_cons_self, h⟩
  | p :: q :: r, c, h => by
    simp only [TL.joinL, List.mem_append] at h
    rcases h with h | h | h
    · exact .inr ⟨p, List.mem_cons_self, h⟩
    · exact .inl h
    · rcases joinL_mem S (q :: r) c h with h | ⟨p', hp, h⟩
      · exact .inl h
      · exact .inr ⟨p', List.mem_cons_of_mem _ hp, h⟩
theorem join_list (y : Str) (zs : List Str) : (Txt.join y zs).cps.toList = TL.joinL (TL.tl y) (zs.map TL.tl) := by
  rw [TL.join_eq]
  exact TL.tl_join y zs
theorem Asc.join {W : Nat} {y : Str} {zs : List Str} (hy : Asc 1 y) (h : ∀ z ∈ zs, Asc W z) : Asc (zs.length * (W + 1)) (Txt.join y zs) := by
  refine ⟨fun c hc => ?_, ?_⟩
  · rw [join_list] at hc
    rcases joinL_mem _ _ c hc with q | ⟨p, hp, q⟩
    · exact hy.lt c q
    · obtain ⟨z, hz, rfl⟩ := List.mem_map.mp hp
      exact (h z hz).lt c q
  · rw [← Array.length_toList, join_list]
    refine Nat.le_trans (joinL_len _ _) ?_
    rw [List.length_map]
    have h1 : (TL.tl y).length ≤ 1 := by rw [Array.length_toList]; exact hy.sz
    have h2 : ((zs.map TL.tl).map List.length).sum ≤ zs.length * W := by
      clear hy h1
      induction zs with
      | nil => simp
      | cons z zs ih =>
        have := ih fun u hu => h u (List.mem_cons_of_mem _ hu)
        have hz := (h z List.mem_cons_self).sz
        simp only [List.map_cons, List.sum_cons, List.length_cons, Nat.add_mul, Nat.one_mul]
        rw [Array.length_toList]
        omega
    have h3 : zs.length * (TL.tl y).length ≤ zs.length * 1 := Nat.mul_le_mul_left _ h1
    rw [Nat.mul_add]
    omega
/-! numbers -/
def digs (w : Str) : Bool := w.cps.toList.all fun c => decide (48 ≤ c) && decide (c ≤ 57)
def valOf (w : Str) : Nat := PySem.NumText.digitsVal w.cps.toList
def numT (n : Nat) : Str := Str.ofString (toString ((n : Nat) : Int))
def numOf (w : Str) : Option Nat := if w.cps.size = 0 then none else if 6 < w.cps.size then none else if digs w = false then none else if numT (valOf w) = w then some (valOf w) else none
theorem digs_all {w : Str} : digs w = true ↔ PySem.NumText.AllDigits w.cps.toList := by
  unfold digs
  rw [List.all_eq_true]
  exact ⟨fun h c hc => by simpa using h c hc, fun h c hc => by simpa using h c hc⟩
theorem numT_tl (n : Nat) : TL.tl (numT n) = TL.numL n := TL.tl_num n
theorem numOf_num {n : Nat} (h : n < 10 ^ 6) : numOf (numT n) = some n := by
  have e : (numT n).cps.toList = TL.numL n := numT_tl n
  have hs : (numT n).cps.size = (TL.numL n).length := by rw [← e, Array.length_toList]
  have h1 := TL.numL_len (k := 6) (by decide) h
  have h0 : (TL.numL n).length ≠ 0 := fun q => TL.numL_ne n (List.length_eq_zero_iff.mp q)
  have hd : digs (numT n) = true := digs_all.mpr (by rw [e]; exact TL.numL_digits n)
  have hv : valOf (numT n) = n := by unfold valOf; rw [e]; exact TL.numL_val n
  unfold numOf
  rw [if_neg (by omega), if_neg (by omega), hd, hv, if_neg (by decide), if_pos rfl]
theorem foldl_lt : ∀ (l : List Nat) (a : Nat), (∀ c ∈ l, c ≤ 57) → l.foldl (fun acc c => acc * 10 + (c - 48)) a < (a + 1) * 10 ^ l.length
  | [], a, _ => by simp
  | c :: l, a, h => by
    have h1 := foldl_lt l (a * 10 + (c - 48)) fun d hd => h d (List.mem_cons_of_mem _ hd)
    have h2 := h c List.mem_cons_self
    rw [List.foldl_cons, List.length_cons, Nat.pow_succ]
    refine Nat.lt_of_lt_of_le h1 ?_
    calc (a * 10 + (c - 48) + 1) * 10 ^ l.length ≤ ((a + 1) * 10) * 10 ^ l.length := Nat.mul_le_mul_right _ (by omega)
      _ = (a + 1) * (10 ^ l.length * 10) := by rw [Nat.mul_assoc, Nat.mul_comm 10]
theorem valOf_lt {w : Str} (h : digs w = true) (hs : w.cps.size ≤ 6) : valOf w < 10 ^ 6 := by
  have h1 := foldl_lt w.cps.toList 0 fun c hc => (digs_all.mp h c hc).2
  have h2 : (10 : Nat) ^ w.cps.toList.length ≤ 10 ^ 6 := Nat.pow_le_pow_right (by decide) (by rw [Array.length_toList]; exact hs)
  unfold valOf PySem.NumText.digitsVal
  omega
theorem numOf_lt {w : Str} {n : Nat} (h : numOf w = some n) : n < 10 ^ 6 := by
  unfold numOf at h
  split at h
  · cases h
  · split at h
    · cases h
    · split at h
      · cases h
      · rename_i h2 h3
        split at h
        · cases h
          exact valOf_lt (by simpa using h3) (by omega)
        · cases h
theorem numT_asc {n : Nat} (h : n < 10 ^ 6) : Asc 6 (numT n) := by
  have e : (numT n).cps.toList = TL.numL n := numT_tl n
  refine ⟨fun c hc => ?_, by rw [← Array.length_toList, e]; exact TL.numL_len (by decide) h⟩
  rw [e] at hc
  have := TL.numL_digits n c hc
  omega
theorem intText_val {w : Str} (h : digs w = true) (h0 : w.cps.size ≠ 0) (h6 : w.cps.size ≤ 6) : PySem.intText? w = some ((valOf w : Nat) : Int) :=
  PySem.intText_digits (digs_all.mp h) (fun q => h0 (by rw [← Array.length_toList, q]; rfl)) (by show w.cps.size ≤ 4300; omega)
/-! heads -/
theorem starts_cut {x y : Str} : Txt.startswith x y = (cutS x none (some (y.length : Nat)) == y) := by
  have e : (cutS x none (some (y.length : Nat))).cps.toList = x.cps.toList.take y.length := by
    unfold cutS
    rw [HT.sIx_nat, HT.sIx_none]
    show ((x.cps.toList.drop 0).take (min y.length x.length - 0)) = _
    rw [List.drop_zero, Nat.sub_zero]
    by_cases h : y.length ≤ x.length
    · rw [Nat.min_eq_left h]
    · rw [Nat.min_eq_right (by omega), List.take_of_length_le (by rw [Array.length_toList]; exact Nat.le_refl _), List.take_of_length_le (by rw [Array.length_toList]; show x.length ≤ _; omega)]
  unfold Txt.startswith
  rw [PySem.StrLaws.subAt_eq, List.drop_zero, ← e]
  by_cases h : cutS x none (some (y.length : Nat)) = y
  · rw [h, beq_self_eq_true, beq_self_eq_true, Bool.and_true]
    have : y.cps.toList.length ≤ x.cps.toList.length := by
      rw [← h, e, List.length_take]
      omega
    rw [Array.length_toList, Array.length_toList] at this
    exact decide_eq_true (by show 0 + y.cps.size ≤ x.cps.size; omega)
  · rw [beq_eq_false_iff_ne.mpr h, beq_eq_false_iff_ne.mpr fun q => h (TL.ext_tl q), Bool.and_false]
end Zv.K76
set_option Elab.async false
set_option linter.all false
set_option maxRecDepth 100000
set_option maxHeartbeats 1000000
/-! U2: numbers in texts, read by the program and by the law. -/
namespace Zv.K76
open PySem L2 Zv
theorem hasD {c : Nat} : hasStr "0123456789" (sg c) = (decide (48 ≤ c) && decide (c ≤ 57)) := by
  unfold hasStr sg
  rw [PySem.StrLaws.found_one]
  have e : (("0123456789" : Str)).cps.toList = [48, 49, 50, 51, 52, 53, 54, 55, 56, 57] := by decide +kernel
  rw [e]
  by_cases h : 48 ≤ c ∧ c ≤ 57
  · rw [decide_eq_true h.1, decide_eq_true h.2]
    refine decide_eq_true ?_
    simp only [List.mem_cons, List.not_mem_nil, or_false]
    omega
  · have h2 : (decide (48 ≤ c) && decide (c ≤ 57)) = false := by
      rw [Bool.and_eq_false_iff]
      by_cases h3 : 48 ≤ c
      · exact .inr (decide_eq_false (by omega))
      · exact .inl (decide_eq_false h3)
    rw [h2]
    refine decide_eq_false ?_
    simp only [List.mem_cons, List.not_mem_nil, or_false]
    omega
theorem word_digs (w : Str) : wordIn "0123456789" w = digs w := by
  unfold wordIn digs
  congr 1
  funext c
  exact hasD
theorem idxD {c : Nat} {st : Store} (h : 48 ≤ c ∧ c ≤ 57) : mSIndex (.d (.str "0123456789")) [.d (.str (sg c))] st = .ok (.d (.int ((c - 48 : Nat) : Int))) st := by
  have k : ∀ i : Fin 10, Builtin.Str.occurrences "0123456789" (sg (48 + i.val)) 0 (("0123456789" : Str)).length 1 = [i.val] := by decide +kernel
  have k1 := k ⟨c - 48, by omega⟩
  rw [show 48 + (⟨c - 48, by omega⟩ : Fin 10).val = c from by show 48 + (c - 48) = c; omega] at k1
  unfold mSIndex
  show (match Builtin.Str.occurrences "0123456789" (sg c) 0 (("0123456789" : Str)).length 1 with
    | i :: _ => Res.ok (Vl.d (.int (i : Nat))) st
    | [] => .stuck) = _
  rw [k1]
/-- all([sign in z for sign in w]) -/
theorem ev_word {ρ : Env} {st : Store} {w z : Str} {i j : Nat} {b : G} (h : ρ[i]? = some (some (.d (.str w)))) (hl : j < ρ.length) (hb : ∀ ρ', b ρ' st = .ok (.d (.str z)) st) (hz : w.cps.size ≤ sizeLine) :
    gUn vAll (gComp (iSeq (gVar i)) (gtName j) bTrue (gBin (vInB false) (gVar j) b) [j]) ρ st = .ok (.d (.bool (wordIn z w))) st := by
  have e2 := ev_comp (t := gtName j) (c := bTrue) (g := gBin (vInB false) (gVar j) b) (vs := [j]) (ρ := ρ) (st := st) (p := fun _ => true) (f := fun d => match d with | .str s => .bool (hasStr z s) | _ => .none) (w := iSeq (gVar i)) (ds := signs w)
    (by unfold iSeq; rw [bind_ok (ev_var h)]; rfl) (by unfold signs; rw [List.length_map, Array.length_toList]; exact hz) fun d hd => by
      unfold signs at hd
      obtain ⟨c, _, rfl⟩ := List.mem_map.mp hd
      refine ⟨(wipeE ρ [j]).set j (some (.d (.str ⟨#[c]⟩))), rfl, rfl, fun _ => ?_⟩
      refine (ev_bin (f := vInB false) (x := .d (.str ⟨#[c]⟩)) (st1 := st) (ev_var ?_) (hb _)).trans rfl
      exact List.getElem?_set_self (show j < (ρ.set j none).length by rw [List.length_set]; exact hl)
  refine (ev_un e2).trans ?_
  have e3 : ((signs w).filter fun _ => true).map (fun d => match d with | .str s => PyData.bool (hasStr z s) | _ => .none) = w.cps.toList.map fun c => PyData.bool (hasStr z (sg c)) := by
    rw [List.filter_eq_self.mpr fun _ _ => rfl]
    unfold signs
    rw [List.map_map]
    rfl
  rw [e3]
  unfold vAll
  show (match (some (w.cps.toList.map fun c => PyData.bool (hasStr z (sg c)))).bind boolsOf with
    | some bs => Res.ok (Vl.d (.bool (bs.all id))) st
    | none => Res.stuck) = _
  rw [Option.bind_some, bools_map]
  show Res.ok (Vl.d (.bool ((w.cps.toList.map fun c => hasStr z (sg c)).all id))) st = _
  rw [List.all_map]
  rfl
def numP (w : Str) : Int := match numOf w with
  | some n => (n : Nat)
  | none => -1
def numL (w : Str) : PyData := match numOf w with
  | some n => .int (n : Nat)
  | none => .none
theorem inR_num {n : Int} (w : Str) : inR n (.int (numP w)) = inR n (numL w) := by
  unfold numP numL
  cases numOf w with
  | some k => rfl
  | none => rfl
theorem str_num {n : Nat} {a : G} {ρ : Env} {st : Store} (h : n < 10 ^ 12) (ha : a ρ st = .ok (.d (.int (n : Nat))) st) : gUn vStr a ρ st = .ok (.d (.str (numT n))) st := by
  refine (ev_un (f := vStr) ha).trans ?_
  have hl : ((n : Int)).natAbs.log2 < 1920 := by
    by_cases h0 : n = 0
    · subst h0; decide
    · have : n.log2 < 40 := (Nat.log2_lt h0).mpr (by omega)
      show n.log2 < 1920
      omega
  show (if ((n : Int)).natAbs.log2 < 1920 then Res.ok (Vl.d (.str (toString (n : Int)))) st else Res.stuck) = _
  rw [if_pos hl]
  rfl
theorem len_gt {w : Str} {a : G} {ρ : Env} {st : Store} (ha : a ρ st = .ok (.d (.str w)) st) (hz : w.cps.size ≤ sizeLine) : bOf (gBin vGt (gUn vLen a) (gC (.int 6))) ρ st = .ok (decide (6 < w.cps.size)) st := by
  have e : gUn vLen a ρ st = .ok (.d (.int w.length)) st := by
    refine (ev_un (f := vLen) ha).trans ?_
    show (if w.length ≤ sizeLine then Res.ok (Vl.d (.int w.length)) st else Res.stuck) = _
    rw [if_pos (show w.length ≤ sizeLine from hz)]
  refine ev_bOf ((ev_bin (f := vGt) e (ev_c (x := .int 6))).trans ?_)
  show Res.ok (Vl.d (.bool (decide ((6 : Int) < (w.length : Int))))) st = _
  have : decide ((6 : Int) < (w.length : Int)) = decide (6 < w.cps.size) := by
    show decide ((6 : Int) < (w.cps.size : Int)) = _
    by_cases q : 6 < w.cps.size
    · rw [decide_eq_true q, decide_eq_true (by omega)]
    · rw [decide_eq_false q, decide_eq_false (by omega)]
  rw [this]
theorem numOf_emp : numOf "" = none := by decide +kernel
theorem size_emp {w : Str} (h : w ≠ "") : w.cps.size ≠ 0 := fun q => h (Str.ext' (by
  have : w.cps = #[] := Array.eq_empty_of_size_eq_zero q
  rw [this]; rfl))
theorem e_number_read {w : Str} {st : Store} (hz : w.cps.size ≤ sizeLine) : m_number_read [.d (.str w)] st = .ok (.d (.int (numP w))) st := by
  refine ev_fn ?_
  show b_number_read [some (.d (.str w)), none] st = _
  generalize hρ : [some (Vl.d (.str w)), none] = ρ
  have h0 : ρ[0]? = some (some (.d (.str w))) := by rw [← hρ]; rfl
  have hl : 1 < ρ.length := by rw [← hρ]; simp
  have t1 : bOf (gBin vEq (gVar 0) (gC (.str ""))) ρ st = .ok (w == "") st := ev_bOf ((ev_bin (f := vEq) (ev_var h0) ev_c).trans rfl)
  have t2 := len_gt (st := st) (ev_var h0) hz
  have t3 : bNot (bOf (gUn vAll (gComp (iSeq (gVar 0)) (gtName 1) bTrue (gBin (vInB false) (gVar 1) (gC (.str "0123456789"))) [1]))) ρ st = .ok (!digs w) st := by
    rw [← word_digs]
    exact ev_bnot (ev_bOf (ev_word h0 hl (fun _ => rfl) hz))
  unfold b_number_read
  by_cases c1 : w = ""
  · subst c1
    refine (ev_seq_rt ((ev_sif ((ev_bor t1).trans rfl)).trans ((if_pos rfl).trans rfl))).trans ?_
    unfold numP
    rw [numOf_emp]
  · have n1 : (w == "") = false := beq_eq_false_iff_ne.mpr c1
    rw [n1] at t1
    by_cases c2 : 6 < w.cps.size
    · rw [decide_eq_true c2] at t2
      refine (ev_seq_rt ((ev_sif ((ev_bor t1).trans ((if_neg Bool.false_ne_true).trans ((ev_bor t2).trans rfl)))).trans ((if_pos rfl).trans rfl))).trans ?_
      unfold numP numOf
      rw [if_neg (size_emp c1), if_pos c2]
    · rw [decide_eq_false c2] at t2
      have t4 := (ev_bor t1).trans ((if_neg Bool.false_ne_true).trans ((ev_bor t2).trans ((if_neg Bool.false_ne_true).trans t3)))
      by_cases c3 : digs w = false
      · rw [c3] at t4
        refine (ev_seq_rt ((ev_sif t4).trans ((if_pos rfl).trans rfl))).trans ?_
        unfold numP numOf
        rw [if_neg (size_emp c1), if_neg c2, if_pos c3]
      · have d1 : digs w = true := by simpa using c3
        rw [d1] at t4
        refine (ev_seq ((ev_sif t4).trans rfl)).trans ?_
        have ei : gUn vIntS (gVar 0) ρ st = .ok (.d (.int ((valOf w : Nat) : Int))) st := by
          refine (ev_un (ev_var h0)).trans ?_
          unfold vIntS
          show (match PySem.intText? w with
            | some n => if w.length ≤ 640 then Res.ok (Vl.d (.int n)) st else .stuck
            | none => .stuck) = _
          rw [intText_val d1 (size_emp c1) (by omega)]
          exact if_pos (by show w.cps.size ≤ 640; omega)
        have es := str_num (by have := valOf_lt d1 (by omega); omega) ei
        have t5 : bOf (gBin vEq (gUn vStr (gUn vIntS (gVar 0))) (gVar 0)) ρ st = .ok (numT (valOf w) == w) st := ev_bOf ((ev_bin (f := vEq) es (ev_var h0)).trans rfl)
        refine (ev_ret ((ev_if t5).trans ?_)).trans rfl
        unfold numP numOf
        rw [if_neg (size_emp c1), if_neg c2, if_neg c3]
        by_cases c4 : numT (valOf w) = w
        · rw [if_pos (beq_iff_eq.mpr c4), if_pos c4]
          exact ei
        · rw [if_neg (fun q => c4 (beq_iff_eq.mp q)), if_neg c4]
          rfl
theorem mul10 {i : Int} {st : Store} (h0 : 0 ≤ i) (h1 : i < 10 ^ 7) : vMul (.d (.int i)) (.d (.int 10)) st = .ok (.d (.int (i * 10))) st := by
  have hc : cMul i 10 = true := by
    unfold cMul
    rw [Bool.or_eq_true]
    left
    exact decide_eq_true (by constructor <;> omega)
  show (if cMul i 10 = true then Res.ok (Vl.d (.int (i * 10))) st else .stuck) = _
  rw [if_pos hc]
theorem found_step {o0 : Option Vl} {st : Store} {ai di r : Int} {c : Nat} (hd : mSIndex (.d (.str "0123456789")) [.d (.str (sg c))] st = .ok (.d (.int di)) st) (h0 : 0 ≤ ai) (h1 : ai < 10 ^ 7) (hr : r = ai * 10 + di) :
    sSet 1 (gBin vAdd (gBin vMul (gVar 1) (gC (.int 10))) (gMeth isStr mSIndex (gC (.str "0123456789")) (gaCons (gVar 2) gaNil))) [o0, some (.d (.int ai)), some (.d (.str (sg c)))] st = .ok (.nx [o0, some (.d (.int r)), some (.d (.str (sg c)))]) st := by
  subst hr
  have e1 : gMeth isStr mSIndex (gC (.str "0123456789")) (gaCons (gVar 2) gaNil) [o0, some (.d (.int ai)), some (.d (.str (sg c)))] st = .ok (.d (.int di)) st :=
    (ev_meth (x := .d (.str "0123456789")) (ys := [.d (.str (sg c))]) rfl rfl (ev_cons (ev_var (x := .d (.str (sg c))) rfl) ev_nil)).trans hd
  have e2 : gBin vMul (gVar 1) (gC (.int 10)) [o0, some (.d (.int ai)), some (.d (.str (sg c)))] st = .ok (.d (.int (ai * 10))) st := (ev_bin (f := vMul) (x := .d (.int ai)) (st1 := st) (ev_var rfl) ev_c).trans (mul10 h0 h1)
  exact (ev_set (x := .d (.int (ai * 10 + di))) (st1 := st) ((ev_bin (f := vAdd) e2 e1).trans rfl)).trans rfl
theorem found_loop {o0 : Option Vl} {st : Store} : ∀ (l : List Nat) (a : Nat) (ai : Int) (o2 : Option Vl), (∀ c ∈ l, 48 ≤ c ∧ c ≤ 57) → (a : Int) = ai → (a + 1) * 10 ^ l.length ≤ 10 ^ 6 → ∃ o2' r, ((l.foldl (fun acc c => acc * 10 + (c - 48)) a : Nat) : Int) = r ∧
    forL (gtName 2) (sSet 1 (gBin vAdd (gBin vMul (gVar 1) (gC (.int 10))) (gMeth isStr mSIndex (gC (.str "0123456789")) (gaCons (gVar 2) gaNil)))) (l.map fun c => .str (sg c)) [o0, some (.d (.int ai)), o2] st =
      .ok (.nx [o0, some (.d (.int r)), o2']) st
  | [], a, ai, o2, _, ha, _ => ⟨o2, ai, ha, rfl⟩
  | c :: l, a, ai, o2, h, ha, hb => by
    have hc := h c List.mem_cons_self
    have hp : 1 ≤ 10 ^ l.length := Nat.pow_pos (by decide)
    rw [List.length_cons, Nat.pow_succ] at hb
    have hb2 : (a * 10 + (c - 48) + 1) * 10 ^ l.length ≤ 10 ^ 6 := by
      refine Nat.le_trans ?_ hb
      calc (a * 10 + (c - 48) + 1) * 10 ^ l.length ≤ ((a + 1) * 10) * 10 ^ l.length := Nat.mul_le_mul_right _ (by omega)
        _ = (a + 1) * (10 ^ l.length * 10) := by rw [Nat.mul_assoc, Nat.mul_comm 10]
    have ha2 : a < 10 ^ 6 := by
      have : (a + 1) * 1 ≤ (a + 1) * (10 ^ l.length * 10) := Nat.mul_le_mul_left _ (by omega)
      omega
    obtain ⟨o2', r, hr, ih⟩ := found_loop (st := st) (o0 := o0) l (a * 10 + (c - 48)) (ai * 10 + ((c - 48 : Nat) : Int)) (some (.d (.str (sg c)))) (fun d hd => h d (List.mem_cons_of_mem _ hd)) (by omega) hb2
    refine ⟨o2', r, hr, ?_⟩
    rw [List.map_cons]
    exact (bind_ok (found_step (idxD hc) (by omega) (by omega) rfl)).trans ih
theorem e_law_number {w : Str} {st : Store} (hz : w.cps.size ≤ sizeLine) : m__law_number [.d (.str w)] st = .ok (.d (numL w)) st := by
  refine ev_fn ?_
  show b__law_number [some (.d (.str w)), none, none] st = _
  generalize hρ : [some (Vl.d (.str w)), none, none] = ρ
  have h0 : ρ[0]? = some (some (.d (.str w))) := by rw [← hρ]; rfl
  have t1 : bOf (gBin vEq (gVar 0) (gC (.str ""))) ρ st = .ok (w == "") st := ev_bOf ((ev_bin (f := vEq) (ev_var h0) ev_c).trans rfl)
  have t2 := len_gt (st := st) (ev_var h0) hz
  have t3 : bOf (gBin vNe (gComp (iSeq (gVar 0)) (gtName 2) (bOf (gBin (vInB true) (gVar 2) (gC (.str "0123456789")))) (gC (.int 1)) [2]) (gLst gaNil)) ρ st = .ok (!digs w) st := by
    have e := ev_none (w := iSeq (gVar 0)) (t := gtName 2) (c := bOf (gBin (vInB true) (gVar 2) (gC (.str "0123456789")))) (vs := [2]) (ρ := ρ) (st := st) (p := fun d => match d with | .str s => hasStr "0123456789" s | _ => false) (ds := signs w) true
      (by unfold iSeq; rw [bind_ok (ev_var h0)]; rfl) (by unfold signs; rw [List.length_map, Array.length_toList]; exact hz) fun d hd => by
        unfold signs at hd
        obtain ⟨c, _, rfl⟩ := List.mem_map.mp hd
        exact ⟨[some (.d (.str w)), none, some (.d (.str ⟨#[c]⟩))], by rw [← hρ]; rfl, rfl⟩
    refine ev_bOf (e.trans ?_)
    rw [← word_digs]
    unfold signs wordIn
    rw [List.all_map]
    rfl
  unfold b__law_number
  by_cases c1 : w = ""
  · subst c1
    refine (ev_seq_rt ((ev_sif ((ev_bor t1).trans rfl)).trans ((if_pos rfl).trans rfl))).trans ?_
    unfold numL
    rw [numOf_emp]
  · have n1 : (w == "") = false := beq_eq_false_iff_ne.mpr c1
    rw [n1] at t1
    by_cases c2 : 6 < w.cps.size
    · rw [decide_eq_true c2] at t2
      refine (ev_seq_rt ((ev_sif ((ev_bor t1).trans ((if_neg Bool.false_ne_true).trans ((ev_bor t2).trans rfl)))).trans ((if_pos rfl).trans rfl))).trans ?_
      unfold numL numOf
      rw [if_neg (size_emp c1), if_pos c2]
    · rw [decide_eq_false c2] at t2
      have t4 := (ev_bor t1).trans ((if_neg Bool.false_ne_true).trans ((ev_bor t2).trans ((if_neg Bool.false_ne_true).trans t3)))
      by_cases c3 : digs w = false
      · rw [c3] at t4
        refine (ev_seq_rt ((ev_sif t4).trans ((if_pos rfl).trans rfl))).trans ?_
        unfold numL numOf
        rw [if_neg (size_emp c1), if_neg c2, if_pos c3]
      · have d1 : digs w = true := by simpa using c3
        rw [d1] at t4
        refine (ev_seq ((ev_sif t4).trans rfl)).trans ?_
        rw [← hρ]
        have hp : (0 + 1) * 10 ^ w.cps.toList.length ≤ 10 ^ 6 := by
          rw [Array.length_toList, Nat.zero_add, Nat.one_mul]
          exact Nat.pow_le_pow_right (by decide) (by omega)
        obtain ⟨o2, r, hr, lp⟩ := found_loop (o0 := some (.d (.str w))) (st := st) w.cps.toList 0 0 none (digs_all.mp d1) rfl hp
        have hr : ((valOf w : Nat) : Int) = r := hr
        refine (ev_seq (show sSet 1 (gC (.int 0)) [some (.d (.str w)), none, none] st = .ok (.nx [some (.d (.str w)), some (.d (.int 0)), none]) st from rfl)).trans ?_
        refine (ev_seq (show sFor (iSeq (gVar 0)) (gtName 2) _ [some (.d (.str w)), some (.d (.int 0)), none] st = _ from (bind_ok (show iSeq (gVar 0) [some (.d (.str w)), some (.d (.int 0)), none] st = .ok (signs w) st from rfl)).trans lp)).trans ?_
        have es := str_num (a := gVar 1) (ρ := [some (.d (.str w)), some (.d (.int r)), o2]) (st := st) (n := valOf w) (by have := valOf_lt d1 (by omega); omega) (by rw [hr]; rfl)
        have t5 : bOf (gBin vEq (gUn vStr (gVar 1)) (gVar 0)) [some (.d (.str w)), some (.d (.int r)), o2] st = .ok (numT (valOf w) == w) st := ev_bOf ((ev_bin (f := vEq) (y := .d (.str w)) (st2 := st) es rfl).trans rfl)
        refine (ev_ret ((ev_if t5).trans ?_)).trans rfl
        rw [← hr]
        unfold numL numOf
        rw [if_neg (size_emp c1), if_neg c2, if_neg c3]
        by_cases c4 : numT (valOf w) = w
        · rw [if_pos (beq_iff_eq.mpr c4), if_pos c4]
          rfl
        · rw [if_neg (fun q => c4 (beq_iff_eq.mp q)), if_neg c4]
          rfl
end Zv.K76
set_option Elab.async false
set_option linter.all false
set_option maxRecDepth 100000
set_option maxHeartbeats 1000000
/-! U3: the words of a line, the gate that they make. -/
namespace Zv.K76
open PySem L2 Zv
theorem ev_split {ρ : Env} {st : Store} {i : Nat} {l z : Str} (h : ρ[i]? = some (some (.d (.str l)))) (hz : (z.length == 0) = false) (hl : l.cps.size ≤ 100000) : gMeth isStr mSplit (gVar i) (gaCons (gC (.str z)) gaNil) ρ st = .ok (.own ((Txt.split l z).map PyData.str)) st := by
  refine (ev_meth (x := .d (.str l)) (ys := [.d (.str z)]) (ev_var h) rfl rfl).trans ?_
  show (if (z.length == 0) = false ∧ l.length + 2 ≤ sizeLine then Res.ok (Vl.own ((Txt.split l z).map PyData.str)) st else Res.stuck) = _
  rw [if_pos ⟨hz, by rw [sizeLine_eq]; show l.cps.size + 2 ≤ _; omega⟩]
theorem ev_lenL {ρ : Env} {st : Store} {i : Nat} {xs : List PyData} (h : ρ[i]? = some (some (.d (.list xs)))) : gUn vLen (gVar i) ρ st = .ok (.d (.int xs.length)) st := (ev_un (ev_var h)).trans rfl
theorem atI_nat {α : Type} {xs : List α} {k : Nat} {ki : Int} {x : α} (hk : (k : Int) = ki) (hx : xs[k]? = some x) : L2.atI xs ki = some x := by
  subst hk
  have hl := (List.getElem?_eq_some_iff.mp hx).1
  unfold L2.atI L2.ixN
  rw [if_pos (by omega), if_pos (by omega)]
  exact hx
theorem ev_ixL {ρ : Env} {st : Store} {i k : Nat} {ki : Int} {xs : List PyData} {x : PyData} (hk : (k : Int) = ki) (h : ρ[i]? = some (some (.d (.list xs)))) (hx : xs[k]? = some x) : gBin vIx (gVar i) (gC (.int ki)) ρ st = .ok (.d x) st := by
  refine (ev_bin (f := vIx) (ev_var h) ev_c).trans ?_
  show (match (some xs).bind (fun xs => L2.atI xs ki) with
    | some d => Res.ok (Vl.d d) st
    | none => Res.stuck) = _
  rw [Option.bind_some, atI_nat hk hx]
/-- the words of a line tell no gate number n -/
def badW (n : Nat) : List Str → Bool
  | w0 :: _ :: _ => !(w0 == numT n)
  | _ => true
theorem ev_badW {ρ : Env} {st : Store} {i j n : Nat} {ni : Int} {ws : List Str} (hn : (n : Int) = ni) (hb : n < 10 ^ 12) (h : ρ[i]? = some (some (.d (.list (ws.map PyData.str))))) (hj : ρ[j]? = some (some (.d (.int ni)))) :
    bOr (bOf (gBin vLt (gUn vLen (gVar i)) (gC (.int 2)))) (bOf (gBin vNe (gBin vIx (gVar i) (gC (.int 0))) (gUn vStr (gVar j)))) ρ st = .ok (badW n ws) st := by
  have e1 : bOf (gBin vLt (gUn vLen (gVar i)) (gC (.int 2))) ρ st = .ok (decide (((ws.map PyData.str).length : Int) < 2)) st := ev_bOf ((ev_bin (f := vLt) (ev_lenL h) (ev_c (x := .int 2))).trans rfl)
  refine (ev_bor e1).trans ?_
  match ws, h with
  | [], _ => rfl
  | [w], _ => rfl
  | w0 :: w1 :: r, h =>
    rw [List.length_map, decide_eq_false (by simp only [List.length_cons]; omega), if_neg Bool.false_ne_true]
    subst hn
    exact ev_bOf ((ev_bin (f := vNe) (ev_ixL (k := 0) (ki := 0) (x := .str w0) rfl h rfl) (str_num hb (ev_var hj))).trans rfl)
theorem cut2 {α : Type} (a b : α) (r : List α) : cutL (a :: b :: r) (some 2) none = r := by
  unfold cutL
  rw [show (2 : Int) = ((2 : Nat) : Int) from rfl, HT.sIx_nat, HT.sIx_none, List.length_cons, List.length_cons, Nat.min_eq_left (by omega)]
  show List.take _ (List.drop 2 (a :: b :: r)) = r
  rw [List.drop_succ_cons, List.drop_succ_cons, List.drop_zero, show r.length + 1 + 1 - 2 = r.length from by omega, List.take_length]
theorem ev_words {ρ : Env} {st : Store} {i k : Nat} {w0 w1 : Str} {r : List Str} {m : List Vl → M Vl} {f : Str → PyData} (h : ρ[i]? = some (some (.d (.list ((w0 :: w1 :: r).map PyData.str))))) (hk : k < ρ.length) (hl : r.length ≤ 1000000)
    (hm : ∀ w ∈ r, m [.d (.str w)] st = .ok (.d (f w)) st) :
    gBin vAdd (gTup (gaCons (gBin vIx (gVar i) (gC (.int 1))) gaNil)) (gUn vTuple (gComp (iSeq (gCut (gVar i) (some (gC (.int 2))) none)) (gtName k) bTrue (gCall m (gaCons (gVar k) gaNil)) [k])) ρ st = .ok (.d (.tuple (.str w1 :: r.map f))) st := by
  have hSL : (sizeLine : Nat) = 16777216 := sizeLine_eq
  have e1 : gTup (gaCons (gBin vIx (gVar i) (gC (.int 1))) gaNil) ρ st = .ok (.d (.tuple [.str w1])) st :=
    ev_tup (ds := [.str w1]) (ev_cons (x := .d (.str w1)) (ev_ixL (k := 1) (ki := 1) (x := .str w1) rfl h rfl) ev_nil) (by rw [hSL]; simp)
  have ec : iSeq (gCut (gVar i) (some (gC (.int 2))) none) ρ st = .ok (r.map PyData.str) st := by
    have e : gCut (gVar i) (some (gC (.int 2))) none ρ st = .ok (.own (r.map PyData.str)) st := by
      unfold gCut
      rw [bind_ok (ev_var h), bind_ok (show gPart (some (gC (.int 2))) ρ st = .ok (some 2) st from rfl), bind_ok (show gPart none ρ st = .ok none st from rfl)]
      show Res.ok (Vl.own (cutL ((w0 :: w1 :: r).map PyData.str) (some 2) none)) st = _
      rw [List.map_cons, List.map_cons, cut2]
    unfold iSeq
    rw [bind_ok e]
    rfl
  have e2 := ev_comp (t := gtName k) (c := bTrue) (g := gCall m (gaCons (gVar k) gaNil)) (vs := [k]) (ρ := ρ) (st := st) (p := fun _ => true) (f := fun d => match d with | .str s => f s | _ => .none) ec (by rw [List.length_map, hSL]; omega) fun d hd => by
    obtain ⟨w, hw, rfl⟩ := List.mem_map.mp hd
    refine ⟨(wipeE ρ [k]).set k (some (.d (.str w))), rfl, rfl, fun _ => ?_⟩
    exact ev_call (ev_cons (x := .d (.str w)) (ev_var (List.getElem?_set_self (show k < (ρ.set k none).length by rw [List.length_set]; exact hk))) ev_nil) (hm w hw)
  have e3 : ((r.map PyData.str).filter fun _ => true).map (fun d => match d with | .str s => f s | _ => .none) = r.map f := by
    rw [List.filter_eq_self.mpr fun _ _ => rfl, List.map_map]
    rfl
  rw [e3] at e2
  have e4 : gUn vTuple (gComp (iSeq (gCut (gVar i) (some (gC (.int 2))) none)) (gtName k) bTrue (gCall m (gaCons (gVar k) gaNil)) [k]) ρ st = .ok (.d (.tuple (r.map f))) st := (ev_un e2).trans rfl
  refine (ev_bin (f := vAdd) e1 e4).trans ?_
  show (if [PyData.str w1].length + (r.map f).length ≤ sizeLine then Res.ok (Vl.d (.tuple ([PyData.str w1] ++ r.map f))) st else Res.stuck) = _
  rw [if_pos (by rw [hSL, List.length_map]; simp only [List.length_singleton]; omega)]
  rfl
/-! the gate of a line -/
def items (l : Str) : List Str := Txt.split l " "
def lines (t : Str) : List Str := Txt.split t "\n"
theorem sp_tl : TL.tl (" " : Str) = [32] := by decide +kernel
theorem nl_tl : TL.tl ("\n" : Str) = [10] := by decide +kernel
theorem items_asc {W : Nat} {l : Str} (h : Asc W l) : ∀ p ∈ items l, Asc W p := h.split sp_tl (by decide +kernel)
theorem lines_asc {W : Nat} {l : Str} (h : Asc W l) : ∀ p ∈ lines l, Asc W p := h.split nl_tl (by decide +kernel)
theorem items_len {W : Nat} {l : Str} (h : Asc W l) : 1 ≤ (items l).length ∧ (items l).length ≤ W + 1 := by
  have := split_count (x := l) sp_tl (by decide +kernel)
  have := h.sz
  unfold items
  omega
theorem lines_len {W : Nat} {l : Str} (h : Asc W l) : 1 ≤ (lines l).length ∧ (lines l).length ≤ W + 1 := by
  have := split_count (x := l) nl_tl (by decide +kernel)
  have := h.sz
  unfold lines
  omega
def wordsG (f : Str → PyData) : List Str → PyData
  | _ :: w1 :: r => .tuple (.str w1 :: r.map f)
  | _ => .tuple []
def gateP (n : Nat) (l : Str) : PyData := if badW n (items l) = true then .tuple [] else wordsG (fun w => .int (numP w)) (items l)
def gateL (l : Str) : PyData := wordsG numL (items l)
theorem badW_two {n : Nat} {ws : List Str} (h : badW n ws = false) : ∃ w0 w1 r, ws = w0 :: w1 :: r := by
  match ws, h with
  | [], h => cases h
  | [w], h => cases h
  | w0 :: w1 :: r, _ => exact ⟨w0, w1, r, rfl⟩
theorem e_gate_read {l : Str} {n W : Nat} {ni : Int} {st : Store} (hn : (n : Int) = ni) (hb : n < 10 ^ 12) (h : Asc W l) (hW : W ≤ 90000) : m_gate_read [.d (.int ni), .d (.str l)] st = .ok (.d (gateP n l)) st := by
  have hSL : (sizeLine : Nat) = 16777216 := sizeLine_eq
  refine ev_fn ?_
  show b_gate_read [some (.d (.int ni)), some (.d (.str l)), none, none] st = _
  unfold b_gate_read
  have hz := h.sz
  refine (ev_seq ((ev_set (ev_split (i := 1) (z := " ") rfl (by decide +kernel) (by omega))).trans rfl)).trans ?_
  show sSeq _ _ [some (.d (.int ni)), some (.d (.str l)), some (.d (.list ((items l).map PyData.str))), none] st = _
  have t := ev_badW (i := 2) (j := 0) (st := st) (ρ := [some (.d (.int ni)), some (.d (.str l)), some (.d (.list ((items l).map PyData.str))), none]) hn hb rfl rfl
  unfold gateP
  cases hbw : badW n (items l) with
  | true =>
    rw [hbw] at t
    exact ev_seq_rt ((ev_sif t).trans ((if_pos rfl).trans rfl))
  | false =>
    rw [hbw] at t
    refine (ev_seq ((ev_sif t).trans rfl)).trans ?_
    rw [if_neg Bool.false_ne_true]
    have hi := items_asc h
    have hil := (items_len h).2
    obtain ⟨w0, w1, r, e⟩ := badW_two hbw
    rw [e] at hi hil ⊢
    refine ev_ret (ev_words (i := 2) (k := 3) (f := fun w => .int (numP w)) rfl (by simp) (by simp only [List.length_cons] at hil; omega) fun w hw => ?_)
    have := (hi w (List.mem_cons_of_mem _ (List.mem_cons_of_mem _ hw))).sz
    exact e_number_read (by omega)
/-! the program's and the law's gates are alike -/
theorem gate_none {m j : Int} : isGate m j (.tuple []) = false := rfl
theorem all_num {n : Int} (r : List Str) : (r.map fun w => PyData.int (numP w)).all (inR n) = (r.map numL).all (inR n) := by
  rw [List.all_map, List.all_map]
  congr 1
  funext w
  exact inR_num w
theorem gate_same {m j : Int} (ws : List Str) : isGate m j (wordsG (fun w => .int (numP w)) ws) = isGate m j (wordsG numL ws) := by
  match ws with
  | [] => rfl
  | [w] => rfl
  | w0 :: w1 :: r =>
    show isGate m j (.tuple (.str w1 :: r.map fun w => .int (numP w))) = isGate m j (.tuple (.str w1 :: r.map numL))
    unfold isGate
    simp only [all_num, List.length_map]
theorem gate_parts {m j : Int} {w : Str} {r : List PyData} (h : isGate m j (.tuple (.str w :: r)) = true) : (w = "yes" ∨ w = "v" ∨ w = "not" ∨ w = "and" ∨ w = "or") ∧ r.length ≤ 2 ∧ (r = [] ∨ ∃ n, r.all (inR n) = true) := by
  rw [isGate] at h
  split at h
  · rename_i c
    refine ⟨.inl (beq_iff_eq.mp c), ?_⟩
    have h := of_decide_eq_true h
    have : r.length = 0 := by omega
    exact ⟨by omega, .inl (List.length_eq_zero_iff.mp this)⟩
  · split at h
    · rename_i c
      rw [Bool.and_eq_true] at h
      have h1 := of_decide_eq_true h.1
      exact ⟨.inr (.inl (beq_iff_eq.mp c)), by omega, .inr ⟨_, h.2⟩⟩
    · split at h
      · rename_i c
        rw [Bool.and_eq_true] at h
        have h1 := of_decide_eq_true h.1
        exact ⟨.inr (.inr (.inl (beq_iff_eq.mp c))), by omega, .inr ⟨_, h.2⟩⟩
      · split at h
        · cases h
        · rename_i c
          have c := (Bool.not_eq_true _).mp c
          rw [Bool.or_eq_false_iff] at c
          have c1 : ([PyData.str "and", .str "or"].any fun z => PyData.eqv z (.str w)) = true := by rw [← Bool.not_not (List.any _ _), c.1]; rfl
          have c2 : (((r.length + 1 : Nat) : Int) == 3) = true := by simpa using c.2
          have h1 := of_decide_eq_true c2
          refine ⟨.inr (.inr (.inr ?_)), by omega, .inr ⟨_, h⟩⟩
          simp only [List.any_cons, List.any_nil, Bool.or_false, Bool.or_eq_true, PyData.eqv, beq_iff_eq] at c1
          rcases c1 with c1 | c1
          · exact .inl c1.symm
          · exact .inr c1.symm
theorem num_eq {n : Int} {w : Str} (h : inR n (.int (numP w)) = true) : PyData.int (numP w) = numL w ∧ (numP w).natAbs < 10 ^ 6 := by
  unfold numP numL at *
  cases e : numOf w with
  | some k =>
    have := numOf_lt e
    exact ⟨rfl, by simpa using this⟩
  | none =>
    rw [e] at h
    cases h
theorem gate_eq {m j : Int} {ws : List Str} (h : isGate m j (wordsG (fun w => .int (numP w)) ws) = true) : wordsG (fun w => .int (numP w)) ws = wordsG numL ws ∧ Sm 1 100 (wordsG (fun w => .int (numP w)) ws) := by
  match ws, h with
  | [], h => cases h
  | [w], h => cases h
  | w0 :: w1 :: r, h =>
    obtain ⟨h1, h2, h3⟩ := gate_parts (w := w1) (r := r.map fun w => .int (numP w)) h
    have key : ∀ w ∈ r, PyData.int (numP w) = numL w ∧ (numP w).natAbs < 10 ^ 6 := fun w hw => by
      rcases h3 with h3 | ⟨n, h3⟩
      · rw [List.map_eq_nil_iff] at h3
        subst h3
        cases hw
      · exact num_eq (List.all_eq_true.mp h3 _ (List.mem_map_of_mem hw))
    constructor
    · show PyData.tuple (.str w1 :: r.map fun w => .int (numP w)) = .tuple (.str w1 :: r.map numL)
      rw [List.map_congr_left fun w hw => (key w hw).1]
    · have hw : Sm 0 4 (.str w1) := by
        rcases h1 with rfl | rfl | rfl | rfl | rfl <;> exact Sm.str (by decide +kernel) (by decide +kernel)
      have hr : Sms 0 (r.length * 41) (r.map fun w => .int (numP w)) := by
        clear h h1 h2 h3 hw
        induction r with
        | nil => exact Sms.nil
        | cons w r ih =>
          refine (Sms.cons (Sm.ofInt (k := 0) (w := 40) (by have := (key w List.mem_cons_self).2; omega) (Nat.le_refl _)) (ih fun u hu => key u (List.mem_cons_of_mem _ hu))).more (Nat.le_refl _) ?_
          rw [List.length_cons]
          omega
      rw [List.length_map] at h2
      exact ((Sms.cons hw hr).tup).more (Nat.le_refl _) (by omega)
end Zv.K76
set_option Elab.async false
set_option linter.all false
set_option maxRecDepth 100000
set_option maxHeartbeats 1000000
/-! U4: the lines of a text, read one by one. -/
namespace Zv.K76
open PySem L2 Zv
def rdG (m : Int) : Nat → List Str → List PyData → Nat ⊕ List PyData
  | _, [], acc => .inr acc
  | j, l :: ls, acc => if (!badW j (items l) && isGate m j (gateL l)) = true then rdG m (j + 1) ls (acc ++ [gateL l]) else .inl (j + 2)
def enF : Nat → List PyData → List PyData
  | _, [] => []
  | j, x :: xs => .tuple [.int (j : Nat), x] :: enF (j + 1) xs
theorem enF_eq : ∀ (xs : List PyData) (j : Nat), xs.mapIdx (fun i x => PyData.tuple [.int ((i + j : Nat) : Int), x]) = enF j xs
  | [], _ => rfl
  | x :: xs, j => by
    rw [List.mapIdx_cons]
    show _ = PyData.tuple [.int (j : Nat), x] :: enF (j + 1) xs
    rw [← enF_eq xs (j + 1), Nat.zero_add]
    congr 1
    apply List.ext_getElem?
    intro i
    rw [List.getElem?_mapIdx, List.getElem?_mapIdx]
    simp only [show i + 1 + j = i + (j + 1) from by omega]
theorem enumD_eq (xs : List PyData) : enumD xs = enF 0 xs := enF_eq xs 0
theorem enumD_snoc (xs : List PyData) (x : PyData) : enumD (xs ++ [x]) = enumD xs ++ [.tuple [.int (xs.length : Nat), x]] := by
  unfold enumD
  rw [List.mapIdx_append]
  simp
theorem gateP_is {m : Int} {j : Nat} {l : Str} : isGate m j (gateP j l) = (!badW j (items l) && isGate m j (gateL l)) := by
  unfold gateP gateL
  cases badW j (items l) with
  | true => rfl
  | false =>
    rw [if_neg Bool.false_ne_true, gate_same]
    rfl
theorem gateP_eq {m : Int} {j : Nat} {l : Str} (h : isGate m j (gateP j l) = true) : gateP j l = gateL l ∧ Sm 1 100 (gateP j l) := by
  unfold gateP gateL at *
  split at h
  · cases h
  · rename_i c
    rw [if_neg c]
    exact gate_eq h
theorem numP_lt (w : Str) : (numP w).natAbs < 10 ^ 6 := by
  unfold numP
  cases e : numOf w with
  | some k => have := numOf_lt e; simpa using this
  | none => decide
theorem Asc.sm {W k : Nat} {s : Str} (h : Asc W s) : Sm k W (.str s) := Sm.str (fun c hc => by have := h.lt c hc; omega) h.sz
theorem sms_nums {f : Str → PyData} (hf : ∀ w, Sm 0 40 (f w)) : ∀ r : List Str, Sms 0 (r.length * 41) (r.map f)
  | [] => Sms.nil
  | w :: r => (Sms.cons (hf w) (sms_nums hf r)).more (Nat.le_refl _) (by rw [List.length_cons]; omega)
theorem words_sm {f : Str → PyData} (hf : ∀ w, Sm 0 40 (f w)) {W : Nat} : ∀ ws : List Str, (∀ w ∈ ws, Asc W w) → Sm 1 (W + 1 + ws.length * 41) (wordsG f ws)
  | [], _ => (Sms.nil (w := 0) (k := 0)).tup.more (by omega) (by omega)
  | [w], _ => (Sms.nil (w := 0) (k := 0)).tup.more (by omega) (by omega)
  | w0 :: w1 :: r, h => ((Sms.cons (h w1 (by simp)).sm (sms_nums hf r)).tup).more (Nat.le_refl _) (by simp only [List.length_cons]; omega)
theorem numL_sm (w : Str) : Sm 0 40 (numL w) := by
  unfold numL
  cases e : numOf w with
  | some k => exact Sm.ofInt (by have := numOf_lt e; simpa using (show k < 10 ^ 12 by omega)) (Nat.le_refl _)
  | none => exact Sm.none
theorem gateP_sm {W j : Nat} {l : Str} (h : Asc W l) : Sm 1 (W + 1 + (W + 1) * 41) (gateP j l) := by
  unfold gateP
  split
  · exact (Sms.nil (w := 0) (k := 0)).tup.more (by omega) (by omega)
  · have := (items_len h).2
    exact (words_sm (fun w => Sm.ofInt (by have := numP_lt w; omega) (Nat.le_refl 40)) _ (items_asc h)).more (Nat.le_refl _) (by have := Nat.mul_le_mul_right 41 this; omega)
theorem gateL_sm {W : Nat} {l : Str} (h : Asc W l) : Sm 1 (W + 1 + (W + 1) * 41) (gateL l) := by
  unfold gateL
  have := (items_len h).2
  exact (words_sm numL_sm _ (items_asc h)).more (Nat.le_refl _) (by have := Nat.mul_le_mul_right 41 this; omega)
theorem gates_sms : ∀ acc : List PyData, (∀ g ∈ acc, Sm 1 100 g) → Sms 1 (acc.length * 101) acc
  | [], _ => Sms.nil
  | g :: acc, h => (Sms.cons (h g List.mem_cons_self) (gates_sms acc fun x hx => h x (List.mem_cons_of_mem _ hx))).more (Nat.le_refl _) (by rw [List.length_cons]; omega)
theorem circ_sm {W : Nat} {p : Str} {acc : List PyData} (hp : Asc W p) (h : ∀ g ∈ acc, Sm 1 100 g) : Sm 3 (W + 1 + (acc.length * 101 + 1)) (.tuple [.str p, .tuple acc]) :=
  ((Sms.cons hp.sm (Sms.cons (gates_sms acc h).tup (Sms.nil (k := 2) (w := 0)))).tup).more (Nat.le_refl _) (by omega)
theorem circ_sm1 {W V : Nat} {p : Str} {acc : List PyData} {g : PyData} (hp : Asc W p) (h : ∀ g ∈ acc, Sm 1 100 g) (hg : Sm 1 V g) : Sm 3 (W + 1 + (acc.length * 101 + (V + 1) + 1)) (.tuple [.str p, .tuple (acc ++ [g])]) :=
  ((Sms.cons hp.sm (Sms.cons ((gates_sms acc h).app (Sms.cons hg (Sms.nil (k := 1) (w := 0)))).tup (Sms.nil (k := 2) (w := 0)))).tup).more (Nat.le_refl _) (by omega)
theorem isCirc_snoc {p : Str} {acc : List PyData} {g : PyData} (hp : wordIn "ea" p = true) (h : (enumD acc).all (gateAt p.length) = true) : isCirc (.tuple [.str p, .tuple (acc ++ [g])]) = isGate p.length acc.length g := by
  show (wordIn "ea" p && (!(acc ++ [g]).isEmpty && (enumD (acc ++ [g])).all (gateAt p.length))) = _
  rw [hp, enumD_snoc, List.all_append, h]
  have : (acc ++ [g]).isEmpty = false := by cases acc <;> rfl
  rw [this]
  simp only [List.all_cons, List.all_nil, Bool.and_true, Bool.true_and, Bool.not_false]
  rfl
def badT (n : Nat) : Exn := ⟨"BadText", some ("at", .int (n : Nat))⟩
def bodyP : SG := sSeq (sSet 3 (gBin vAdd (gVar 3) (gTup (gaCons (gCall m_gate_read (gaCons (gVar 4) (gaCons (gVar 5) (gaNil)))) (gaNil)))))
  (sIf (bNot (bOf (gCall m_is_circuit_value (gaCons (gTup (gaCons (gVar 2) (gaCons (gVar 3) (gaNil)))) (gaNil))))) (sRaiseA "BadText" (gaCons (gBin vAdd (gVar 4) (gC (.int 2))) (gaNil))) (sSkip))
theorem stepP {t L : Vl} {p l : Str} {st : Store} {acc : List PyData} {j : Nat} {ji : Int} (hji : (j : Int) = ji) (hp : wordIn "ea" p = true) (hpA : Asc 4000 p) (hl : Asc 4000 l) (hj : acc.length = j) (hz : j ≤ 4001) (hs : ∀ g ∈ acc, Sm 1 100 g) (ha : (enumD acc).all (gateAt p.length) = true) :
    bodyP [some t, some L, some (.d (.str p)), some (.d (.tuple acc)), some (.d (.int ji)), some (.d (.str l))] st = if isGate p.length j (gateP j l) = true then .ok (.nx [some t, some L, some (.d (.str p)), some (.d (.tuple (acc ++ [gateP j l]))), some (.d (.int ji)), some (.d (.str l))]) st
      else .exc (badT (j + 2)) [some t, some L, some (.d (.str p)), some (.d (.tuple (acc ++ [gateP j l]))), some (.d (.int ji)), some (.d (.str l))] st := by
  have hSL : (sizeLine : Nat) = 16777216 := sizeLine_eq
  have hb := isCirc_snoc (g := gateP j l) hp ha
  have hf := Sm.fit (circ_sm1 hpA hs (gateP_sm (j := j) hl)) (by decide) (by omega)
  have e1 := e_gate_read (st := st) hji (by omega) hl (by decide)
  rw [hj] at hb
  generalize gateP j l = g at hb hf e1
  unfold bodyP
  have e2 : gTup (gaCons (gCall m_gate_read (gaCons (gVar 4) (gaCons (gVar 5) (gaNil)))) (gaNil)) [some t, some L, some (.d (.str p)), some (.d (.tuple acc)), some (.d (.int ji)), some (.d (.str l))] st = .ok (.d (.tuple [g])) st :=
    ev_tup (ds := [g]) (ev_cons (x := .d g) (ev_call (ev_cons (x := .d (.int ji)) rfl (ev_cons (x := .d (.str l)) rfl ev_nil)) e1) ev_nil) (by rw [hSL]; simp)
  refine (ev_seq (ev_set (x := .d (.tuple (acc ++ [g]))) (st1 := st) ((ev_bin (f := vAdd) (x := .d (.tuple acc)) (st1 := st) rfl e2).trans ?_))).trans ?_
  · show (if acc.length + [g].length ≤ sizeLine then Res.ok (Vl.d (.tuple (acc ++ [g]))) st else Res.stuck) = _
    rw [if_pos (by rw [hSL, hj, List.length_singleton]; omega)]
  show sIf _ _ _ [some t, some L, some (.d (.str p)), some (.d (.tuple (acc ++ [g]))), some (.d (.int ji)), some (.d (.str l))] st = _
  have e3 : bNot (bOf (gCall m_is_circuit_value (gaCons (gTup (gaCons (gVar 2) (gaCons (gVar 3) (gaNil)))) (gaNil)))) [some t, some L, some (.d (.str p)), some (.d (.tuple (acc ++ [g]))), some (.d (.int ji)), some (.d (.str l))] st = .ok (!isCirc (.tuple [.str p, .tuple (acc ++ [g])])) st :=
    ev_bnot (ev_bOf (ev_call (ev_cons (x := .d (.tuple [.str p, .tuple (acc ++ [g])])) (ev_tup (ds := [.str p, .tuple (acc ++ [g])]) (ev_cons (x := .d (.str p)) rfl (ev_cons (x := .d (.tuple (acc ++ [g]))) rfl ev_nil)) (by rw [hSL]; simp)) ev_nil) (e_is_circuit_value hf)))
  rw [hb] at e3
  refine (ev_sif e3).trans ?_
  cases isGate p.length j g with
  | true => rfl
  | false =>
    rw [if_neg Bool.false_ne_true]
    refine (if_pos rfl).trans ?_
    have e4 : gBin vAdd (gVar 4) (gC (.int 2)) [some t, some L, some (.d (.str p)), some (.d (.tuple (acc ++ [g]))), some (.d (.int ji)), some (.d (.str l))] st = .ok (.d (.int (ji + 2))) st := (ev_bin (f := vAdd) (x := .d (.int ji)) (st1 := st) rfl ev_c).trans rfl
    unfold sRaiseA
    refine (bind_ok (ev_cons e4 ev_nil)).trans ?_
    show Res.exc ⟨"BadText", some ("at", .int (ji + 2))⟩ _ st = _
    unfold badT
    rw [show ((j + 2 : Nat) : Int) = ji + 2 from by omega]
theorem loopP {t L : Vl} {p : Str} {st : Store} (hp : wordIn "ea" p = true) (hpA : Asc 4000 p) : ∀ (ls : List Str) (acc : List PyData) (j : Nat) (o4 o5 : Option Vl), acc.length = j → (∀ l ∈ ls, Asc 4000 l) → j + ls.length ≤ 4001 → (∀ g ∈ acc, Sm 1 100 g) → (enumD acc).all (gateAt p.length) = true →
    match rdG p.length j ls acc with
    | .inl n => ∃ ρ', forL (gtTup [gtName 4, gtName 5]) bodyP (enF j (ls.map .str)) [some t, some L, some (.d (.str p)), some (.d (.tuple acc)), o4, o5] st = .exc (badT n) ρ' st
    | .inr acc' => ∃ o4' o5', forL (gtTup [gtName 4, gtName 5]) bodyP (enF j (ls.map .str)) [some t, some L, some (.d (.str p)), some (.d (.tuple acc)), o4, o5] st = .ok (.nx [some t, some L, some (.d (.str p)), some (.d (.tuple acc')), o4', o5']) st ∧ (∀ g ∈ acc', Sm 1 100 g) ∧ acc'.length ≤ 4001
  | [], acc, j, o4, o5, hj, _, hz, hs, _ => ⟨o4, o5, rfl, hs, by rw [List.length_nil] at hz; omega⟩
  | l :: ls, acc, j, o4, o5, hj, hA, hz, hs, ha => by
    rw [List.length_cons] at hz
    have hstep := stepP (t := t) (L := L) (st := st) (j := j) rfl hp hpA (hA l List.mem_cons_self) hj (by omega) hs ha
    have hfor : ∀ r, bodyP [some t, some L, some (.d (.str p)), some (.d (.tuple acc)), some (.d (.int (j : Nat))), some (.d (.str l))] st = r → forL (gtTup [gtName 4, gtName 5]) bodyP (enF j ((l :: ls).map .str)) [some t, some L, some (.d (.str p)), some (.d (.tuple acc)), o4, o5] st =
        (match r with
        | .ok f st1 => (match f with
          | .nx ρ' => forL (gtTup [gtName 4, gtName 5]) bodyP (enF (j + 1) (ls.map .str)) ρ'
          | .ct ρ' => forL (gtTup [gtName 4, gtName 5]) bodyP (enF (j + 1) (ls.map .str)) ρ'
          | .bk ρ' => M.pure (.nx ρ')
          | .rt x => M.pure (.rt x)) st1
        | .exc e ρ st1 => .exc e ρ st1
        | .stuck => .stuck) := fun r hr => by
      show M.bind (bodyP [some t, some L, some (.d (.str p)), some (.d (.tuple acc)), some (.d (.int (j : Nat))), some (.d (.str l))]) _ st = _
      unfold M.bind
      rw [hr]
      cases r <;> rfl
    have hrd : rdG p.length j (l :: ls) acc = if (!badW j (items l) && isGate p.length j (gateL l)) = true then rdG p.length (j + 1) ls (acc ++ [gateL l]) else .inl (j + 2) := rfl
    rw [hrd]
    rw [← gateP_is]
    have h2 := hfor _ hstep
    by_cases c : isGate p.length j (gateP j l) = true
    · rw [if_pos c] at h2 ⊢
      obtain ⟨g1, g2⟩ := gateP_eq c
      rw [g1] at h2 g2
      have ih := loopP (t := t) (L := L) (st := st) hp hpA ls (acc ++ [gateL l]) (j + 1) (some (.d (.int (j : Nat)))) (some (.d (.str l))) (by rw [List.length_append, hj]; rfl) (fun x hx => hA x (List.mem_cons_of_mem _ hx)) (by omega)
        (fun g hg => (List.mem_append.mp hg).elim (hs g) fun q => by rw [List.mem_singleton.mp q]; exact g2)
        (by rw [enumD_snoc, List.all_append, ha, hj]; simp only [List.all_cons, List.all_nil, Bool.and_true, Bool.true_and]; rw [← g1]; exact c)
      rw [h2]
      exact ih
    · rw [if_neg c] at h2 ⊢
      rw [h2]
      exact ⟨_, rfl⟩
end Zv.K76
set_option Elab.async false
set_option linter.all false
set_option maxRecDepth 100000
set_option maxHeartbeats 1000000
/-! U5: the law's loop over the lines; the two readings are alike. -/
namespace Zv.K76
open PySem L2 Zv
theorem append_end {st : Store} {acc : List PyData} {g : PyData} (h : acc.length < sizeLine) : mAppend (.ref st.length) [.d g] (st ++ [.lst acc]) = .ok (.d .none) (st ++ [.lst (acc ++ [g])]) := by
  unfold mAppend
  show (match lstAt (st ++ [.lst acc]) st.length with
    | some xs => if xs.length < sizeLine then Res.ok (Vl.d .none) ((st ++ [Ob.lst acc]).set st.length (.lst (xs ++ [g]))) else .stuck
    | none => .stuck) = _
  rw [lstAt_of get_end]
  show (if acc.length < sizeLine then Res.ok (Vl.d .none) ((st ++ [Ob.lst acc]).set st.length (.lst (acc ++ [g]))) else .stuck) = _
  rw [if_pos h, set_end]
theorem ev_appendE {ρ : Env} {st : Store} {i : Nat} {acc : List PyData} {a : G} {g : PyData} (h0 : ρ[i]? = some (some (.ref st.length))) (ha : a ρ (st ++ [.lst acc]) = .ok (.d g) (st ++ [.lst acc])) (h : acc.length < sizeLine) :
    sDrop (gMeth isLst mAppend (gVar i) (gaCons a gaNil)) ρ (st ++ [.lst acc]) = .ok (.nx ρ) (st ++ [.lst (acc ++ [g])]) := by
  have e : gMeth isLst mAppend (gVar i) (gaCons a gaNil) ρ (st ++ [.lst acc]) = .ok (.d .none) (st ++ [.lst (acc ++ [g])]) := by
    refine (ev_meth (x := .ref st.length) (ys := [.d g]) (ev_var h0) (chk_ok ?_) (ev_cons (x := .d g) ha ev_nil)).trans (append_end h)
    unfold isLst
    show (lstAt (st ++ [.lst acc]) st.length).isSome = true
    rw [lstAt_of get_end]
    rfl
  exact (bind_ok e).trans rfl
def bodyL : SG := (sSeq (sSet 6 (gMeth isStr mSplit (gVar 5) (gaCons (gC (.str " ")) (gaNil))))
  (sSeq (sIf (bOr (bOf (gBin vLt (gUn vLen (gVar 6)) (gC (.int 2)))) (bOf (gBin vNe (gBin vIx (gVar 6) (gC (.int 0))) (gUn vStr (gVar 4))))) (sRet (gBin vAdd (gVar 4) (gC (.int 2)))) (sSkip))
  (sSeq (sSet 7 (gBin vAdd (gTup (gaCons (gBin vIx (gVar 6) (gC (.int 1))) (gaNil))) (gUn vTuple (gComp (iSeq (gCut (gVar 6) (some (gC (.int 2))) none)) (gtName 9) (bTrue) (gCall m__law_number (gaCons (gVar 9) (gaNil))) [9]))))
  (sSeq (sIf (bNot (bOf (gCall m__law_is_gate (gaCons (gUn vLen (gVar 3)) (gaCons (gVar 4) (gaCons (gVar 7) (gaNil))))))) (sRet (gBin vAdd (gVar 4) (gC (.int 2)))) (sSkip))
  (sDrop (gMeth isLst mAppend (gVar 2) (gaCons (gVar 7) (gaNil))))))))
abbrev EJ (t L : Vl) (n : Nat) (p : Str) (o4 o5 o6 o7 : Option Vl) : Env := [some t, some L, some (.ref n), some (.d (.str p)), o4, o5, o6, o7, none, none]
theorem stepL {t L : Vl} {p l : Str} {st : Store} {acc : List PyData} {j : Nat} {ji : Int} {o6 o7 : Option Vl} (hji : (j : Int) = ji) (hpA : Asc 4000 p) (hl : Asc 4000 l) (hj : acc.length = j) (hz : j ≤ 4001) :
    ∃ o6' o7', bodyL (EJ t L st.length p (some (.d (.int ji))) (some (.d (.str l))) o6 o7) (st ++ [.lst acc]) = if (!badW j (items l) && isGate p.length j (gateL l)) = true then .ok (.nx (EJ t L st.length p (some (.d (.int ji))) (some (.d (.str l))) o6' o7')) (st ++ [.lst (acc ++ [gateL l])])
      else .ok (.rt (.d (.int ((j + 2 : Nat) : Int)))) (st ++ [.lst acc]) := by
  have hSL : (sizeLine : Nat) = 16777216 := sizeLine_eq
  have hlz := hl.sz
  generalize hS : st ++ [.lst acc] = S
  have ret : ∀ o6 o7, sRet (gBin vAdd (gVar 4) (gC (.int 2))) (EJ t L st.length p (some (.d (.int ji))) (some (.d (.str l))) o6 o7) S = .ok (.rt (.d (.int ((j + 2 : Nat) : Int)))) S := fun o6 o7 => by
    refine (ev_ret ((ev_bin (f := vAdd) (x := .d (.int ji)) (st1 := S) rfl ev_c).trans (show _ = Res.ok (Vl.d (.int (ji + 2))) S from rfl))).trans ?_
    rw [show ((j + 2 : Nat) : Int) = ji + 2 from by omega]
  have e1 : ∀ o7, bodyL (EJ t L st.length p (some (.d (.int ji))) (some (.d (.str l))) o6 o7) S = _ := fun o7 => (ev_seq ((ev_set (ev_split (i := 5) (z := " ") rfl (by decide +kernel) (by omega))).trans rfl))
  have tb := ev_badW (i := 6) (j := 4) (st := S) (ρ := EJ t L st.length p (some (.d (.int ji))) (some (.d (.str l))) (some (.d (.list ((items l).map PyData.str)))) o7) hji (by omega) rfl rfl
  cases hbw : badW j (items l) with
  | true =>
    refine ⟨none, none, (e1 o7).trans ?_⟩
    rw [hbw] at tb
    rw [Bool.not_true, Bool.false_and, if_neg Bool.false_ne_true]
    exact ev_seq_rt ((ev_sif tb).trans ((if_pos rfl).trans (ret _ _)))
  | false =>
    rw [hbw] at tb
    have hi := items_asc hl
    have hil := (items_len hl).2
    have hsm := gateL_sm hl
    obtain ⟨w0, w1, r, e⟩ := badW_two hbw
    have eg : gateL l = .tuple (.str w1 :: r.map numL) := by unfold gateL; rw [e]; rfl
    rw [e] at hi hil
    have hrl : r.length ≤ 4000 := by simp only [List.length_cons] at hil; omega
    have ew := ev_words (i := 6) (k := 9) (st := S) (m := m__law_number) (f := numL) (ρ := EJ t L st.length p (some (.d (.int ji))) (some (.d (.str l))) (some (.d (.list ((w0 :: w1 :: r).map PyData.str)))) o7) rfl (by simp) (by omega) fun w hw => by
      have := (hi w (List.mem_cons_of_mem _ (List.mem_cons_of_mem _ hw))).sz
      exact e_law_number (by omega)
    rw [← eg, ← e] at ew
    have el : gUn vLen (gVar 3) (EJ t L st.length p (some (.d (.int ji))) (some (.d (.str l))) (some (.d (.list ((items l).map PyData.str)))) (some (.d (gateL l)))) S = .ok (.d (.int (p.length : Nat))) S := by
      refine (ev_un (f := vLen) (ev_var (x := .d (.str p)) rfl)).trans ?_
      show (if p.length ≤ sizeLine then Res.ok (Vl.d (.int p.length)) S else Res.stuck) = _
      rw [if_pos (by rw [hSL]; have := hpA.sz; show p.cps.size ≤ _; omega)]
    have eq := e_law_is_gate (st := S) (x := gateL l) (m := p.length) (g := j) (hsm.shaped (by decide)) (fun xs hx => by
      rw [eg] at hx
      cases hx
      rw [hSL, List.length_cons, List.length_map]
      omega)
    generalize hm : ((p.length : Nat) : Int) = mi at *
    rw [hji] at eq
    have tg : bNot (bOf (gCall m__law_is_gate (gaCons (gUn vLen (gVar 3)) (gaCons (gVar 4) (gaCons (gVar 7) (gaNil)))))) (EJ t L st.length p (some (.d (.int ji))) (some (.d (.str l))) (some (.d (.list ((items l).map PyData.str)))) (some (.d (gateL l)))) S = .ok (!isGate mi ji (gateL l)) S :=
      ev_bnot (ev_bOf (ev_call (ev_cons el (ev_cons (x := .d (.int ji)) rfl (ev_cons (x := .d (gateL l)) rfl ev_nil))) eq))
    refine ⟨some (.d (.list ((items l).map PyData.str))), some (.d (gateL l)), (e1 o7).trans ((ev_seq ((ev_sif tb).trans rfl)).trans ((ev_seq ((ev_set ew).trans rfl)).trans ?_))⟩
    rw [hji, Bool.not_false, Bool.true_and]
    cases hg : isGate mi ji (gateL l) with
    | true =>
      rw [hg] at tg
      refine (ev_seq ((ev_sif tg).trans rfl)).trans ?_
      rw [if_pos rfl, ← hS]
      exact ev_appendE (st := st) rfl rfl (by rw [hSL, hj]; omega)
    | false =>
      rw [hg] at tg
      rw [if_neg Bool.false_ne_true]
      exact ev_seq_rt ((ev_sif tg).trans ((if_pos rfl).trans (ret _ _)))
theorem loopL {t L : Vl} {p : Str} {st : Store} (hpA : Asc 4000 p) : ∀ (ls : List Str) (acc : List PyData) (j : Nat) (o4 o5 o6 o7 : Option Vl), acc.length = j → (∀ l ∈ ls, Asc 4000 l) → j + ls.length ≤ 4001 →
    match rdG p.length j ls acc with
    | .inl n => ∃ acc', forL (gtTup [gtName 4, gtName 5]) bodyL (enF j (ls.map .str)) (EJ t L st.length p o4 o5 o6 o7) (st ++ [.lst acc]) = .ok (.rt (.d (.int (n : Nat)))) (st ++ [.lst acc'])
    | .inr acc' => ∃ o4' o5' o6' o7', forL (gtTup [gtName 4, gtName 5]) bodyL (enF j (ls.map .str)) (EJ t L st.length p o4 o5 o6 o7) (st ++ [.lst acc]) = .ok (.nx (EJ t L st.length p o4' o5' o6' o7')) (st ++ [.lst acc'])
  | [], acc, j, o4, o5, o6, o7, hj, _, hz => ⟨o4, o5, o6, o7, rfl⟩
  | l :: ls, acc, j, o4, o5, o6, o7, hj, hA, hz => by
    rw [List.length_cons] at hz
    obtain ⟨o6', o7', hstep⟩ := stepL (t := t) (L := L) (st := st) (j := j) (o6 := o6) (o7 := o7) rfl hpA (hA l List.mem_cons_self) hj (by omega)
    have hfor : ∀ f st1, bodyL (EJ t L st.length p (some (.d (.int (j : Nat)))) (some (.d (.str l))) o6 o7) (st ++ [.lst acc]) = .ok f st1 → forL (gtTup [gtName 4, gtName 5]) bodyL (enF j ((l :: ls).map .str)) (EJ t L st.length p o4 o5 o6 o7) (st ++ [.lst acc]) =
        (match f with
          | .nx ρ' => forL (gtTup [gtName 4, gtName 5]) bodyL (enF (j + 1) (ls.map .str)) ρ'
          | .ct ρ' => forL (gtTup [gtName 4, gtName 5]) bodyL (enF (j + 1) (ls.map .str)) ρ'
          | .bk ρ' => M.pure (.nx ρ')
          | .rt x => M.pure (.rt x)) st1 := fun f st1 hr => bind_ok hr
    have hrd : rdG p.length j (l :: ls) acc = if (!badW j (items l) && isGate p.length j (gateL l)) = true then rdG p.length (j + 1) ls (acc ++ [gateL l]) else .inl (j + 2) := rfl
    rw [hrd]
    by_cases c : (!badW j (items l) && isGate p.length j (gateL l)) = true
    · rw [if_pos c] at hstep ⊢
      have h2 := hfor _ _ hstep
      have ih := loopL (t := t) (L := L) (st := st) hpA ls (acc ++ [gateL l]) (j + 1) (some (.d (.int (j : Nat)))) (some (.d (.str l))) o6' o7' (by rw [List.length_append, hj]; rfl) (fun x hx => hA x (List.mem_cons_of_mem _ hx)) (by omega)
      rw [h2]
      exact ih
    · rw [if_neg c] at hstep ⊢
      have h2 := hfor _ _ hstep
      rw [h2]
      exact ⟨_, rfl⟩
end Zv.K76
set_option Elab.async false
set_option linter.all false
set_option maxRecDepth 100000
set_option maxHeartbeats 1000000
/-! U6: what is heard; tables; keywords (as at k72). -/
namespace Zv.K76
open PySem L2 Zv
theorem ev_par2 {i j : Nat} {a b : G} {ρ : Env} {st : Store} {x y : Vl} (ha : a ρ st = .ok x st) (hb : b ρ st = .ok y st) : sPar [i, j] (gaCons a (gaCons b gaNil)) ρ st = .ok (.nx ((ρ.set i (some (frz x))).set j (some (frz y)))) st := by
  unfold sPar
  rw [bind_ok (ev_cons ha (ev_cons hb ev_nil))]
  rfl
theorem ev_callK1 {m : List Vl → M Vl} {gs gk : GA} {o : Ord} {k : Nat} {ρ : Env} {st : Store} {xs ys zs : List Vl} {v : Vl} (h1 : gs ρ st = .ok xs st) (h2 : gk ρ st = .ok ys st) (ho : o xs ys = zs) (hl : zs.length = k) (hm : m zs st = .ok v st) : gCallK k o m gs gk ρ st = .ok v st := by
  unfold gCallK
  rw [bind_ok h1, bind_ok h2]
  show (if (o xs ys).length = k then atE ρ (m (o xs ys)) else M.stuck) st = _
  rw [ho, if_pos hl]
  unfold atE
  rw [hm]
theorem exc_callK1 {m : List Vl → M Vl} {gs gk : GA} {o : Ord} {k : Nat} {ρ ρ' : Env} {st : Store} {xs ys zs : List Vl} {e : Exn} (h1 : gs ρ st = .ok xs st) (h2 : gk ρ st = .ok ys st) (ho : o xs ys = zs) (hl : zs.length = k) (hm : m zs st = .exc e ρ' st) : gCallK k o m gs gk ρ st = .exc e ρ st := by
  unfold gCallK
  rw [bind_ok h1, bind_ok h2]
  show (if (o xs ys).length = k then atE ρ (m (o xs ys)) else M.stuck) st = _
  rw [ho, if_pos hl]
  unfold atE
  rw [hm]
/-! the tables stay -/
def Tabs (P : Addr) (q : Str) (st : Store) : Prop := (∀ (j : Nat) P' q', st[j]? = some (.tab P' q') → P' = P ∧ q' = q) ∧ ∃ j : Nat, st[j]? = some (.tab P q)
theorem Tabs.ok {P : Addr} {q : Str} {st : Store} (h : Tabs P q st) : tabsOk P q st = true := by
  obtain ⟨h1, j, h2⟩ := h
  unfold tabsOk
  rw [Bool.and_eq_true]
  constructor
  · rw [List.all_eq_true]
    intro o ho
    obtain ⟨i, hi⟩ := List.mem_iff_getElem?.mp ho
    cases o with
    | tab P' q' =>
      obtain ⟨rfl, rfl⟩ := h1 i P' q' hi
      simp
    | _ => rfl
  · rw [List.any_eq_true]
    exact ⟨_, List.mem_of_getElem? h2, rfl⟩
theorem Dk.notTab {st : Store} {n l : Nat} {k : Int} (D : Dk st n l k) {P : Addr} {q : Str} : st[n]? ≠ some (.tab P q) ∧ st[l]? ≠ some (.tab P q) := by
  obtain ⟨m, c, e, _⟩ := D.dic
  obtain ⟨ns, e2, _⟩ := D.lst
  exact ⟨fun h => (by rw [e] at h; cases h), fun h => (by rw [e2] at h; cases h)⟩
theorem Tabs.fr {P : Addr} {q : Str} {st st' : Store} {n l : Nat} {k k' : Int} (h : Tabs P q st) (D : Dk st n l k) (D' : Dk st' n l k') (F : Fr n l st st') : Tabs P q st' := by
  obtain ⟨h1, j, h2⟩ := h
  refine ⟨fun i P' q' e => ?_, j, ?_⟩
  · have n1 : i ≠ n := fun z => (D'.notTab (P := P') (q := q')).1 (by rw [← z]; exact e)
    have n2 : i ≠ l := fun z => (D'.notTab (P := P') (q := q')).2 (by rw [← z]; exact e)
    rw [F.2 i n1 n2] at e
    exact h1 i P' q' e
  · have n1 : j ≠ n := fun z => (D.notTab (P := P) (q := q)).1 (by rw [← z]; exact h2)
    have n2 : j ≠ l := fun z => (D.notTab (P := P) (q := q)).2 (by rw [← z]; exact h2)
    rw [F.2 j n1 n2]
    exact h2
theorem Tabs.push {P : Addr} {q : Str} {st : Store} {xs : List PyData} (h : Tabs P q st) : Tabs P q (st ++ [.lst xs]) := by
  obtain ⟨h1, j, h2⟩ := h
  have hj := (List.getElem?_eq_some_iff.mp h2).1
  refine ⟨fun i P' q' e => ?_, j, by rw [List.getElem?_append_left hj]; exact h2⟩
  by_cases hi : i < st.length
  · rw [List.getElem?_append_left hi] at e; exact h1 i P' q' e
  · rw [List.getElem?_append_right (by omega)] at e
    rcases hx : i - st.length with _ | x
    · rw [hx] at e; cases e
    · rw [hx] at e; cases e
theorem Dk.push {st : Store} {n l : Nat} {k : Int} {xs : List PyData} (D : Dk st n l k) : Dk (st ++ [.lst xs]) n l k := D.of fun j hj => List.getElem?_append_left hj
theorem ok_asg {t : TGv} {g : G} {ρ : Env} {st : Store} {R : Flow → Store → Prop} (h : Ok (g ρ st) fun v st1 => ∃ ρ', t (frz v) ρ = some ρ' ∧ R (.nx ρ') st1) : Ok (sAsg t g ρ st) R := by
  obtain ⟨v, st1, e, ρ', e2, r⟩ := ok_at h
  unfold sAsg
  rw [bind_ok e, e2]
  exact r
abbrev QL : Str := "law.<locals>.<lambda>"
theorem e_lam {P : Addr} {st : Store} {gb : G} {ρ ρ' : Env} {e : Exn} {x : PyData} {w : String} (T : Tabs P QL st) (h : gb ρ st = .exc e ρ' st) (hs : showOk x = true) (he : e = badC x ∧ w = "circuit" ∨ e = badF x ∧ w = "filling") :
    gLam P QL 2 b__law_heard gb ρ st = .ok (.d (.tuple [.str w, .str x.shown, .bool true])) st := by
  unfold gLam
  rw [if_pos T.ok]
  unfold noExc
  rw [e_heard h hs he]
theorem ev_repr {a : G} {ρ : Env} {st : Store} {x : PyData} (h : a ρ st = .ok (.d x) st) (hs : showOk x = true) : gUn vRepr a ρ st = .ok (.d (.str x.shown)) st := by
  refine (ev_un (f := vRepr) h).trans ?_
  show (if showOk x = true then Res.ok (Vl.d (.str x.shown)) st else Res.stuck) = _
  rw [if_pos hs]
theorem ne_self_str {s : Str} {st : Store} : vNe (.d (.str s)) (.d (.str s)) st = .ok (.d (.bool false)) st := by
  show Res.ok (Vl.d (.bool (!(s == s)))) st = _
  rw [beq_self_eq_true]
  rfl
def heardD (w : String) (x : PyData) : PyData := .tuple [.str w, .str x.shown, .bool true]
theorem ev_heardD {w : String} {a : G} {x : PyData} {ρ : Env} {st : Store} (h : a ρ st = .ok (.d x) st) (hs : showOk x = true) : gTup (gaCons (gC (.str w)) (gaCons (gUn vRepr a) (gaCons (gC (.bool true)) gaNil))) ρ st = .ok (.d (heardD w x)) st :=
  ev_tup (ds := [.str w, .str x.shown, .bool true]) (ev_cons (x := .d (.str w)) rfl (ev_cons (ev_repr h hs) (ev_cons (x := .d (.bool true)) rfl ev_nil))) (by rw [sizeLine_eq]; simp)
end Zv.K76
set_option Elab.async false
set_option linter.all false
set_option maxRecDepth 100000
set_option maxHeartbeats 1000000
/-! U7: a text read by the program and by the law. -/
namespace Zv.K76
open PySem L2 Zv
abbrev preS : Str := "prefix "
def rdT (t : Str) : Nat ⊕ (Str × List PyData) :=
  match lines t with
  | [] => .inl 1
  | l0 :: ls => if (cutS l0 none (some 7) == preS && wordIn "ea" (cutS l0 (some 7) none)) = true then
      (match rdG (cutS l0 (some 7) none).length 0 ls [] with
       | .inl n => .inl n
       | .inr gs => if gs.isEmpty = true then .inl 2 else .inr (cutS l0 (some 7) none, gs))
    else .inl 1
theorem rdG_sm {m : Int} : ∀ (ls : List Str) (acc acc' : List PyData) (j : Nat), rdG m j ls acc = .inr acc' → (∀ g ∈ acc, Sm 1 100 g) → (∀ g ∈ acc', Sm 1 100 g) ∧ acc'.length ≤ acc.length + ls.length
  | [], acc, acc', j, h, hs => by
    cases h
    exact ⟨hs, by simp⟩
  | l :: ls, acc, acc', j, h, hs => by
    have hrd : rdG m j (l :: ls) acc = if (!badW j (items l) && isGate m j (gateL l)) = true then rdG m (j + 1) ls (acc ++ [gateL l]) else .inl (j + 2) := rfl
    rw [hrd] at h
    by_cases c : (!badW j (items l) && isGate m j (gateL l)) = true
    · rw [if_pos c] at h
      rw [← gateP_is] at c
      obtain ⟨g1, g2⟩ := gateP_eq c
      rw [g1] at g2
      obtain ⟨h1, h2⟩ := rdG_sm ls (acc ++ [gateL l]) acc' (j + 1) h fun g hg => (List.mem_append.mp hg).elim (hs g) fun q => by rw [List.mem_singleton.mp q]; exact g2
      refine ⟨h1, ?_⟩
      rw [List.length_append, List.length_singleton] at h2
      rw [List.length_cons]
      omega
    · rw [if_neg c] at h
      cases h
theorem ev_fnO {n : Nat} {b : SG} {args : List Vl} {st : Store} {xs : List PyData} (h : b (args.map some ++ List.replicate (n - args.length) none) st = .ok (.rt (.own xs)) st) : fnM false n b args st = .ok (.own xs) st := by
  unfold fnM
  rw [h]
  show Res.ok (Vl.own xs) (st.take st.length) = _
  rw [List.take_length]
theorem exc_raiseA {gs : GA} {ρ : Env} {st : Store} {x : PyData} {nm : Str} (h : gs ρ st = .ok [.d x] st) : sRaiseA nm gs ρ st = .exc ⟨nm, some ("at", x)⟩ ρ st := bind_ok h
theorem ev_lines {t : Str} {st : Store} (h : t.cps.size ≤ 100000) : m_lines_to_read [.d (.str t)] st = .ok (.own ((lines t).map PyData.str)) st := by
  refine ev_fnO ?_
  show b_lines_to_read [some (.d (.str t))] st = _
  unfold b_lines_to_read
  refine (ev_seq ((ev_sif (k := false) (ev_bnot (k := true) (ev_bOf ((ev_un (x := .d (.str t)) (st1 := st) rfl).trans (isi_str (st := st) rfl))))).trans rfl)).trans ?_
  exact ev_ret (ev_split (i := 0) (z := "\n") rfl (by decide +kernel) h)
theorem exc_lines {x : PyData} {st : Store} (h : noDic x = true) (hs : isS x = false) : m_lines_to_read [.d x] st = .exc (badT 0) [] st := by
  refine exc_fn (ρ := [some (.d x)]) ?_
  show b_lines_to_read [some (.d x)] st = _
  unfold b_lines_to_read
  have t := ev_bnot (ev_bOf ((ev_un (f := vIsi "str") (a := gVar 0) (ρ := [some (.d x)]) (x := .d x) (st1 := st) rfl).trans (isi_str (st := st) h)))
  rw [hs] at t
  exact exc_seq ((ev_sif t).trans ((if_pos rfl).trans (exc_raiseA (ev_cons (x := .d (.int 0)) rfl ev_nil))))
theorem exc_set {i : Nat} {a : G} {ρ ρ' : Env} {st st1 : Store} {e : Exn} (h : a ρ st = .exc e ρ' st1) : sSet i a ρ st = .exc e ρ' st1 := bind_exc h
theorem exc_read {x : PyData} {st : Store} (h : noDic x = true) (hs : isS x = false) : m_read_circuit [.d x] st = .exc (badT 0) [] st := by
  refine exc_fn (ρ := [some (.d x), none, none, none, none, none]) ?_
  show b_read_circuit [some (.d x), none, none, none, none, none] st = _
  unfold b_read_circuit
  exact exc_seq (exc_set (exc_call (ev_cons (x := .d x) rfl ev_nil) (exc_lines h hs)))
theorem isCirc_yes {p : Str} : isCirc (.tuple [.str p, .tuple [.tuple [.str "yes"]]]) = wordIn "ea" p := by
  show (wordIn "ea" p && (!([PyData.tuple [.str "yes"]] : List PyData).isEmpty && (enumD [PyData.tuple [.str "yes"]]).all (gateAt p.length))) = _
  have : (enumD [PyData.tuple [.str "yes"]]).all (gateAt p.length) = true := by
    show (isGate p.length ((0 : Nat) : Int) (.tuple [.str "yes"]) && true) = true
    rfl
  rw [this]
  simp
theorem cut1L {l0 : PyData} {ls : List PyData} {ρ : Env} {st : Store} {i : Nat} (h : ρ[i]? = some (some (.d (.list (l0 :: ls))))) : iEnu (gaCons (gCut (gVar i) (some (gC (.int 1))) none) gaNil) ρ st = .ok (enF 0 ls) st := by
  have e : gCut (gVar i) (some (gC (.int 1))) none ρ st = .ok (.own ls) st := by
    unfold gCut
    rw [bind_ok (ev_var h), bind_ok (show gPart (some (gC (.int 1))) ρ st = .ok (some 1) st from rfl), bind_ok (show gPart none ρ st = .ok none st from rfl)]
    show Res.ok (Vl.own (cutL (l0 :: ls) (some 1) none)) st = _
    rw [cut1]
  unfold iEnu
  rw [bind_ok (ev_cons e ev_nil), ← enumD_eq]
  rfl
theorem cutHead {l0 : Str} {ls : List PyData} {ρ : Env} {st : Store} {i : Nat} {lo hi : Option G} {lo' hi' : Option Int} (h : ρ[i]? = some (some (.d (.list (.str l0 :: ls))))) (hl : l0.cps.size ≤ 100000) (h1 : gPart lo ρ st = .ok lo' st) (h2 : gPart hi ρ st = .ok hi' st) :
    gCut (gBin vIx (gVar i) (gC (.int 0))) lo hi ρ st = .ok (.d (.str (cutS l0 lo' hi'))) st := by
  unfold gCut
  rw [bind_ok (ev_ixL (k := 0) (ki := 0) (x := .str l0) rfl h rfl), bind_ok h1, bind_ok h2]
  show (if l0.length ≤ sizeLine then Res.ok (Vl.d (.str (cutS l0 lo' hi'))) st else Res.stuck) = _
  rw [if_pos (by rw [sizeLine_eq]; show l0.cps.size ≤ _; omega)]
theorem len_pre : ((preS.length : Nat) : Int) = 7 := by decide +kernel
theorem part_pre {ρ : Env} {st : Store} : gPart (some (gUn vLen (gC d_PREFIX))) ρ st = .ok (some 7) st := by
  rw [← len_pre]
  rfl
theorem starts7 (l0 : Str) : Txt.startswith l0 preS = (cutS l0 none (some 7) == preS) := by
  rw [starts_cut, len_pre]
theorem e_read_circuit {t : Str} {st : Store} (h : Asc 4000 t) : m_read_circuit [.d (.str t)] st = (match rdT t with
    | .inl n => .exc (badT n) [] st
    | .inr pg => .ok (.d (.tuple [.str pg.1, .tuple pg.2])) st) := by
  have hSL : (sizeLine : Nat) = 16777216 := sizeLine_eq
  have hA := lines_asc h
  have hlen := lines_len h
  have hz := h.sz
  have e1 := ev_lines (st := st) (t := t) (by omega)
  have fin : ∀ (r : Nat ⊕ (Str × List PyData)), (match r with
      | .inl n => ∃ ρ', b_read_circuit [some (.d (.str t)), none, none, none, none, none] st = .exc (badT n) ρ' st
      | .inr pg => b_read_circuit [some (.d (.str t)), none, none, none, none, none] st = .ok (.rt (.d (.tuple [.str pg.1, .tuple pg.2]))) st) → m_read_circuit [.d (.str t)] st = (match r with
      | .inl n => .exc (badT n) [] st
      | .inr pg => .ok (.d (.tuple [.str pg.1, .tuple pg.2])) st) := fun r hr => by
    cases r with
    | inl n => obtain ⟨ρ', e⟩ := hr; exact exc_fn (ρ := ρ') e
    | inr pg => exact ev_fn hr
  refine fin _ ?_
  unfold rdT
  generalize lines t = Ls at e1 hA hlen
  match Ls, e1, hA, hlen with
  | [], _, _, hlen => simp at hlen
  | l0 :: ls, e1, hA, hlen =>
    have h0 := hA l0 List.mem_cons_self
    have h0z := h0.sz
    have hp : Asc 4000 (cutS l0 (some 7) none) := h0.cut
    simp only
    have b1 : ∀ rest, sSeq (sSet 1 (gCall m_lines_to_read (gaCons (gVar 0) (gaNil)))) (sSeq (sSet 2 (gCut (gBin vIx (gVar 1) (gC (.int 0))) (some (gUn vLen (gC d_PREFIX))) none)) rest) [some (.d (.str t)), none, none, none, none, none] st =
        rest [some (.d (.str t)), some (.d (.list ((l0 :: ls).map PyData.str))), some (.d (.str (cutS l0 (some 7) none))), none, none, none] st := fun rest => by
      refine (ev_seq ((ev_set (ev_call (ev_cons (x := .d (.str t)) rfl ev_nil) e1)).trans rfl)).trans ?_
      exact ev_seq ((ev_set (cutHead (i := 1) (l0 := l0) (ls := ls.map PyData.str) rfl (by omega) part_pre rfl)).trans rfl)
    unfold b_read_circuit
    rw [b1]
    generalize cutS l0 (some 7) none = p at hp
    have c1 : bNot (bOf (gMeth isStr mStarts (gBin vIx (gVar 1) (gC (.int 0))) (gaCons (gC d_PREFIX) (gaNil)))) [some (.d (.str t)), some (.d (.list ((l0 :: ls).map PyData.str))), some (.d (.str p)), none, none, none] st = .ok (!(cutS l0 none (some 7) == preS)) st := by
      rw [← starts7]
      exact ev_bnot (ev_bOf ((ev_meth (x := .d (.str l0)) (ys := [.d d_PREFIX]) (ev_ixL (k := 0) (ki := 0) (x := .str l0) rfl rfl rfl) rfl (ev_cons (x := .d d_PREFIX) rfl ev_nil)).trans rfl))
    have c2 : bNot (bOf (gCall m_is_circuit_value (gaCons (gTup (gaCons (gVar 2) (gaCons (gTup (gaCons (gTup (gaCons (gC (.str "yes")) (gaNil))) (gaNil))) (gaNil)))) (gaNil)))) [some (.d (.str t)), some (.d (.list ((l0 :: ls).map PyData.str))), some (.d (.str p)), none, none, none] st = .ok (!wordIn "ea" p) st := by
      rw [← isCirc_yes]
      refine ev_bnot (ev_bOf (ev_call (ev_cons (x := .d (.tuple [.str p, .tuple [.tuple [.str "yes"]]])) (ev_tup (ds := [.str p, .tuple [.tuple [.str "yes"]]]) (ev_cons (x := .d (.str p)) rfl (ev_cons (x := .d (.tuple [.tuple [.str "yes"]])) ?_ ev_nil)) (by rw [hSL]; simp)) ev_nil) (e_is_circuit_value ?_)))
      · exact ev_tup (ds := [.tuple [.str "yes"]]) (ev_cons (x := .d (.tuple [.str "yes"])) yesE ev_nil) (by rw [hSL]; simp)
      · refine Sm.fit (circ_sm (acc := [.tuple [.str "yes"]]) hp fun g hg => ?_) (by decide) (by simp)
        rw [List.mem_singleton.mp hg]
        exact (gate_yes 0 0).2.2
    have c3 : bOr (bNot (bOf (gMeth isStr mStarts (gBin vIx (gVar 1) (gC (.int 0))) (gaCons (gC d_PREFIX) (gaNil))))) (bNot (bOf (gCall m_is_circuit_value (gaCons (gTup (gaCons (gVar 2) (gaCons (gTup (gaCons (gTup (gaCons (gC (.str "yes")) (gaNil))) (gaNil))) (gaNil)))) (gaNil))))) [some (.d (.str t)), some (.d (.list ((l0 :: ls).map PyData.str))), some (.d (.str p)), none, none, none] st = .ok (!(cutS l0 none (some 7) == preS && wordIn "ea" p)) st := by
      refine (ev_bor c1).trans ?_
      rw [c2]
      cases (cutS l0 none (some 7) == preS) <;> cases (wordIn "ea" p) <;> rfl
    cases hc : (cutS l0 none (some 7) == preS && wordIn "ea" p) with
    | false =>
      rw [hc] at c3
      rw [if_neg Bool.false_ne_true]
      exact ⟨_, exc_seq ((ev_sif c3).trans ((if_pos rfl).trans (exc_raiseA (ev_cons (x := .d (.int 1)) rfl ev_nil))))⟩
    | true =>
      rw [hc] at c3
      rw [Bool.and_eq_true] at hc
      rw [if_pos rfl]
      rw [ev_seq ((ev_sif c3).trans rfl), ev_seq (show sSet 3 (gTup (gaNil)) _ st = .ok (.nx [some (.d (.str t)), some (.d (.list ((l0 :: ls).map PyData.str))), some (.d (.str p)), some (.d (.tuple [])), none, none]) st from rfl)]
      have hf : ∀ b, sFor (iEnu (gaCons (gCut (gVar 1) (some (gC (.int 1))) none) (gaNil))) (gtTup [gtName 4, gtName 5]) b [some (.d (.str t)), some (.d (.list ((l0 :: ls).map PyData.str))), some (.d (.str p)), some (.d (.tuple [])), none, none] st =
          forL (gtTup [gtName 4, gtName 5]) b (enF 0 (ls.map .str)) [some (.d (.str t)), some (.d (.list ((l0 :: ls).map PyData.str))), some (.d (.str p)), some (.d (.tuple [])), none, none] st := fun b => bind_ok (cut1L (i := 1) (l0 := .str l0) (ls := ls.map PyData.str) rfl)
      have lp := loopP (t := .d (.str t)) (L := .d (.list ((l0 :: ls).map PyData.str))) (st := st) hc.2 hp ls [] 0 none none rfl (fun l hl => hA l (List.mem_cons_of_mem _ hl)) (by simp only [List.length_cons] at hlen; omega) (fun g hg => by cases hg) rfl
      cases hr : rdG p.length 0 ls [] with
      | inl n =>
        rw [hr] at lp
        obtain ⟨ρ', lp⟩ := lp
        exact ⟨ρ', exc_seq ((hf bodyP).trans lp)⟩
      | inr gs =>
        rw [hr] at lp
        obtain ⟨o4, o5, lp, hgs, hgl⟩ := lp
        have hsg : SeqAt.shaped (.tuple gs) = true := ((gates_sms gs hgs).tup).shaped (by decide)
        have c4 : bOf (gBin vEq (gVar 3) (gTup (gaNil))) [some (.d (.str t)), some (.d (.list ((l0 :: ls).map PyData.str))), some (.d (.str p)), some (.d (.tuple gs)), o4, o5] st = .ok gs.isEmpty st := ev_bOf ((ev_bin (x := .d (.tuple gs)) (y := .d (.tuple [])) (st1 := st) (st2 := st) rfl rfl).trans (eq_unit hsg))
        have e5 := ev_seq (b := (sSeq (sIf (bOf (gBin vEq (gVar 3) (gTup (gaNil)))) (sRaiseA "BadText" (gaCons (gC (.int 2)) (gaNil))) (sSkip)) (sRet (gTup (gaCons (gVar 2) (gaCons (gVar 3) (gaNil))))))) ((hf bodyP).trans lp)
        cases he : gs.isEmpty with
        | true =>
          rw [he] at c4
          simp only [he, if_true]
          exact ⟨_, e5.trans (exc_seq ((ev_sif c4).trans ((if_pos rfl).trans (exc_raiseA (ev_cons (x := .d (.int 2)) rfl ev_nil)))))⟩
        | false =>
          rw [he] at c4
          simp only [he, Bool.false_eq_true, if_false]
          exact e5.trans ((ev_seq ((ev_sif c4).trans rfl)).trans (ev_ret (ev_tup (ds := [.str p, .tuple gs]) (ev_cons (x := .d (.str p)) rfl (ev_cons (x := .d (.tuple gs)) rfl ev_nil)) (by rw [hSL]; simp))))
end Zv.K76
set_option Elab.async false
set_option linter.all false
set_option maxRecDepth 100000
set_option maxHeartbeats 1000000
/-! U8: the law's reading; what is told. -/
namespace Zv.K76
open PySem L2 Zv
def tellD : Nat ⊕ (Str × List PyData) → PyData
  | .inl n => .int (n : Nat)
  | .inr pg => .tuple [.str pg.1, .tuple pg.2]
theorem e_law_read {t : Str} {st : Store} (h : Asc 4000 t) : m__law_read [.d (.str t)] st = .ok (.d (tellD (rdT t))) st := by
  have hSL : (sizeLine : Nat) = 16777216 := sizeLine_eq
  have hA := lines_asc h
  have hlen := lines_len h
  have hz := h.sz
  suffices hh : ∃ st1, b__law_read [some (.d (.str t)), none, none, none, none, none, none, none, none, none] st = .ok (.rt (.d (tellD (rdT t)))) (st ++ st1) by
    obtain ⟨st1, e⟩ := hh
    exact ev_fnx e
  unfold rdT
  have es : gMeth isStr mSplit (gVar 0) (gaCons (gC (.str "\n")) (gaNil)) [some (.d (.str t)), none, none, none, none, none, none, none, none, none] st = .ok (.own ((lines t).map PyData.str)) st := ev_split (i := 0) (z := "\n") rfl (by decide +kernel) (by omega)
  generalize lines t = Ls at es hA hlen
  match Ls, es, hA, hlen with
  | [], _, _, hlen => simp at hlen
  | l0 :: ls, es, hA, hlen =>
    have h0 := hA l0 List.mem_cons_self
    have h0z := h0.sz
    have hp : Asc 4000 (cutS l0 (some 7) none) := h0.cut
    simp only
    have e1 : sPar [1, 2] (gaCons (gMeth isStr mSplit (gVar 0) (gaCons (gC (.str "\n")) (gaNil))) (gaConsE (gLst (gaNil)) (gaNil))) [some (.d (.str t)), none, none, none, none, none, none, none, none, none] st =
        .ok (.nx [some (.d (.str t)), some (.d (.list ((l0 :: ls).map PyData.str))), some (.ref st.length), none, none, none, none, none, none, none]) (st ++ [.lst []]) := by
      have e2 : gaCons (gMeth isStr mSplit (gVar 0) (gaCons (gC (.str "\n")) (gaNil))) (gaConsE (gLst (gaNil)) (gaNil)) [some (.d (.str t)), none, none, none, none, none, none, none, none, none] st = .ok [.d (.list ((l0 :: ls).map PyData.str)), .ref st.length] (st ++ [.lst []]) :=
        ev_cons (st1 := st) (x := .own ((l0 :: ls).map PyData.str)) es rfl
      exact (bind_ok e2).trans rfl
    have b1 : ∀ rest, sSeq (sPar [1, 2] (gaCons (gMeth isStr mSplit (gVar 0) (gaCons (gC (.str "\n")) (gaNil))) (gaConsE (gLst (gaNil)) (gaNil)))) (sSeq (sSet 3 (gCut (gBin vIx (gVar 1) (gC (.int 0))) (some (gC (.int 7))) none)) rest) [some (.d (.str t)), none, none, none, none, none, none, none, none, none] st =
        rest [some (.d (.str t)), some (.d (.list ((l0 :: ls).map PyData.str))), some (.ref st.length), some (.d (.str (cutS l0 (some 7) none))), none, none, none, none, none, none] (st ++ [.lst []]) := fun rest => by
      refine (ev_seq e1).trans ?_
      exact ev_seq ((ev_set (cutHead (i := 1) (l0 := l0) (ls := ls.map PyData.str) rfl (by omega) rfl rfl)).trans rfl)
    unfold b__law_read
    rw [b1]
    generalize cutS l0 (some 7) none = p at hp
    have hpz := hp.sz
    generalize hS : st ++ [Ob.lst []] = S
    have c1 : bOf (gBin vNe (gCut (gBin vIx (gVar 1) (gC (.int 0))) none (some (gC (.int 7)))) (gC (.str "prefix "))) [some (.d (.str t)), some (.d (.list ((l0 :: ls).map PyData.str))), some (.ref st.length), some (.d (.str p)), none, none, none, none, none, none] S = .ok (!(cutS l0 none (some 7) == preS)) S :=
      ev_bOf ((ev_bin (f := vNe) (cutHead (i := 1) (l0 := l0) (ls := ls.map PyData.str) rfl (by omega) rfl rfl) ev_c).trans rfl)
    have c2 : bOf (gBin vNe (gComp (iSeq (gVar 3)) (gtName 8) (bOf (gBin (vInB true) (gVar 8) (gC (.str "ea")))) (gC (.int 1)) [8]) (gLst (gaNil))) [some (.d (.str t)), some (.d (.list ((l0 :: ls).map PyData.str))), some (.ref st.length), some (.d (.str p)), none, none, none, none, none, none] S = .ok (!wordIn "ea" p) S := by
      have hwl : (signs p).all inEA = wordIn "ea" p := by
        unfold signs wordIn
        rw [List.all_map]
        rfl
      rw [← hwl]
      refine ev_bOf ((ev_none (p := inEA) (ds := signs p) true rfl (by unfold signs; rw [List.length_map, Array.length_toList, hSL]; omega) fun d hd => ?_).trans rfl)
      unfold signs at hd
      obtain ⟨c, _, rfl⟩ := List.mem_map.mp hd
      exact ⟨_, rfl, rfl⟩
    have c3 : bOr (bOf (gBin vNe (gCut (gBin vIx (gVar 1) (gC (.int 0))) none (some (gC (.int 7)))) (gC (.str "prefix ")))) (bOf (gBin vNe (gComp (iSeq (gVar 3)) (gtName 8) (bOf (gBin (vInB true) (gVar 8) (gC (.str "ea")))) (gC (.int 1)) [8]) (gLst (gaNil)))) [some (.d (.str t)), some (.d (.list ((l0 :: ls).map PyData.str))), some (.ref st.length), some (.d (.str p)), none, none, none, none, none, none] S = .ok (!(cutS l0 none (some 7) == preS && wordIn "ea" p)) S := by
      refine (ev_bor c1).trans ?_
      rw [c2]
      cases (cutS l0 none (some 7) == preS) <;> cases (wordIn "ea" p) <;> rfl
    cases hc : (cutS l0 none (some 7) == preS && wordIn "ea" p) with
    | false =>
      rw [hc] at c3
      rw [if_neg Bool.false_ne_true]
      exact ⟨[.lst []], by rw [hS]; exact ev_seq_rt ((ev_sif c3).trans ((if_pos rfl).trans rfl))⟩
    | true =>
      rw [hc] at c3
      rw [Bool.and_eq_true] at hc
      rw [if_pos rfl]
      rw [ev_seq ((ev_sif c3).trans rfl)]
      have hf : ∀ b, sFor (iEnu (gaCons (gCut (gVar 1) (some (gC (.int 1))) none) (gaNil))) (gtTup [gtName 4, gtName 5]) b [some (.d (.str t)), some (.d (.list ((l0 :: ls).map PyData.str))), some (.ref st.length), some (.d (.str p)), none, none, none, none, none, none] S =
          forL (gtTup [gtName 4, gtName 5]) b (enF 0 (ls.map .str)) (EJ (.d (.str t)) (.d (.list ((l0 :: ls).map PyData.str))) st.length p none none none none) S := fun b => bind_ok (cut1L (i := 1) (l0 := .str l0) (ls := ls.map PyData.str) rfl)
      have lp := loopL (t := .d (.str t)) (L := .d (.list ((l0 :: ls).map PyData.str))) (st := st) hp ls [] 0 none none none none rfl (fun l hl => hA l (List.mem_cons_of_mem _ hl)) (by simp only [List.length_cons] at hlen; omega)
      rw [hS] at lp
      cases hr : rdG p.length 0 ls [] with
      | inl n =>
        rw [hr] at lp
        obtain ⟨acc', lp⟩ := lp
        exact ⟨[.lst acc'], ev_seq_rt ((hf bodyL).trans lp)⟩
      | inr gs =>
        rw [hr] at lp
        obtain ⟨o4, o5, o6, o7, lp⟩ := lp
        obtain ⟨hgs, hgl⟩ := rdG_sm ls [] gs 0 hr fun g hg => by cases hg
        have hsg : SeqAt.shaped (.list gs) = true := ((gates_sms gs hgs).lst).shaped (by decide)
        have c4 : bOf (gBin vNe (gVar 2) (gLst (gaNil))) (EJ (.d (.str t)) (.d (.list ((l0 :: ls).map PyData.str))) st.length p o4 o5 o6 o7) (st ++ [.lst gs]) = .ok (!gs.isEmpty) (st ++ [.lst gs]) := ev_bOf ((ev_bin (x := .ref st.length) (y := .own []) (st1 := st ++ [.lst gs]) (st2 := st ++ [.lst gs]) rfl rfl).trans (ne_nilD get_end hsg))
        have e5 := ev_seq (b := (sRet (gIf (bOf (gBin vNe (gVar 2) (gLst (gaNil)))) (gTup (gaCons (gVar 3) (gaCons (gUn vTuple (gVar 2)) (gaNil)))) (gC (.int 2))))) ((hf bodyL).trans lp)
        refine ⟨[.lst gs], e5.trans (ev_ret ((ev_if c4).trans ?_))⟩
        cases he : gs.isEmpty with
        | true =>
          simp only [he, if_true]
          rfl
        | false =>
          simp only [he, Bool.false_eq_true, if_false]
          refine (if_pos rfl).trans ?_
          refine ev_tup (ds := [.str p, .tuple gs]) (ev_cons (x := .d (.str p)) rfl (ev_cons (x := .d (.tuple gs)) ?_ ev_nil)) (by rw [hSL]; simp)
          refine (ev_un (f := vTuple) (x := .ref st.length) (st1 := st ++ [.lst gs]) rfl).trans ?_
          show (match lstAt (st ++ [Ob.lst gs]) st.length with
            | some xs => Res.ok (Vl.d (.tuple xs)) (st ++ [Ob.lst gs])
            | none => Res.stuck) = _
          rw [lstAt_of get_end]
/-! what is told -/
def lineD (n : Nat) : PyData := .list [.str "line", .int (n : Nat), .bool true]
theorem callR {x : PyData} {b : Bool} {st : Store} {y : Vl} (h : m_read_circuit [.d x] st = .ok y st) : gIf (bOf (gVar 1)) (gCallK 1 o0 m_read_circuit gaNil (gaCons (gVar 0) (gaNil))) (gCall m_read_circuit (gaCons (gVar 0) (gaNil))) [some (.d x), some (.d (.bool b)), none] st = .ok y st := by
  refine (ev_if (k := b) rfl).trans ?_
  cases b with
  | true => exact ev_callK1 (zs := [.d x]) ev_nil (ev_cons (x := .d x) rfl ev_nil) rfl rfl h
  | false => exact ev_call (ev_cons (x := .d x) rfl ev_nil) h
theorem e_told_ok {x : PyData} {b : Bool} {st : Store} {y : PyData} (h : m_read_circuit [.d x] st = .ok (.d y) st) : m__law_told [.d x, .d (.bool b)] st = .ok (.d y) st := by
  refine ev_fn ?_
  show b__law_told [some (.d x), some (.d (.bool b)), none] st = _
  unfold b__law_told sTry
  rw [ev_ret (callR h)]
theorem e_told_bad {x : PyData} {b : Bool} {st : Store} {n : Nat} (h : m_read_circuit [.d x] st = .exc (badT n) [] st) : m__law_told [.d x, .d (.bool b)] st = .ok (.own [.str "line", .int (n : Nat), .bool true]) st := by
  refine ev_fnO ?_
  show b__law_told [some (.d x), some (.d (.bool b)), none] st = _
  have e : sRet (gIf (bOf (gVar 1)) (gCallK 1 o0 m_read_circuit gaNil (gaCons (gVar 0) (gaNil))) (gCall m_read_circuit (gaCons (gVar 0) (gaNil)))) [some (.d x), some (.d (.bool b)), none] st = .exc (badT n) [some (.d x), some (.d (.bool b)), none] st := by
    refine bind_exc ((ev_if (k := b) rfl).trans ?_)
    cases b with
    | true => exact exc_callK1 (zs := [.d x]) ev_nil (ev_cons (x := .d x) rfl ev_nil) rfl rfl h
    | false => exact exc_call (ev_cons (x := .d x) rfl ev_nil) h
  have es : ∀ ni : Int, noExc (sRet (gLst (gaCons (gC (.str "line")) (gaCons (gC (.int ni)) (gaCons (gC (.bool true)) gaNil)))) [some (.d x), some (.d (.bool b)), none]) st = .ok (.rt (.own [.str "line", .int ni, .bool true])) st := fun ni => by
    have := ev_ret (ev_lst (ds := [.str "line", .int ni, .bool true]) (ρ := [some (.d x), some (.d (.bool b)), none]) (st := st) (ev_cons (ev_c (x := .str "line")) (ev_cons (ev_c (x := .int ni)) (ev_cons (ev_c (x := .bool true)) ev_nil))) (by rw [sizeLine_eq]; simp))
    unfold noExc
    rw [this]
  have er : ∀ ni : Int, runH 2 [⟨"BadText", "at", [], fun x => sRet (gLst (gaCons (gC (.str "line")) (gaCons (gC x) (gaCons (gC (.bool true)) (gaNil)))))⟩] ⟨"BadText", some ("at", .int ni)⟩ [some (.d x), some (.d (.bool b)), none] st = .ok (.rt (.own [.str "line", .int ni, .bool true])) st := fun ni => by
    unfold runH
    refine (congrFun (if_pos rfl) st).trans ?_
    refine (congrFun (if_pos ⟨rfl, by simp⟩) st).trans ?_
    exact (bind_ok (es ni)).trans rfl
  unfold b__law_told sTry
  rw [e]
  exact er _
end Zv.K76
set_option Elab.async false
set_option linter.all false
set_option maxRecDepth 100000
set_option maxHeartbeats 1000000
/-! U9: the text of a circuit, read again. -/
namespace Zv.K76
open PySem L2 Zv
def strP : PyData → Str
  | .str s => s
  | .int i => Str.ofString (toString i)
  | _ => ""
def lineW : PyData → List Str
  | .tuple xs => xs.map strP
  | _ => []
def lineT (j : Nat) (g : PyData) : Str := Txt.join " " (numT j :: lineW g)
def linesC : Nat → List PyData → List Str
  | _, [] => []
  | j, g :: gs => lineT j g :: linesC (j + 1) gs
def textC (p : Str) (gs : List PyData) : Str := Txt.join "\n" ((preS ++ p) :: linesC 0 gs)
/-- a gate as it is written -/
structure GoodG (g : PyData) (w : Str) (ns : List Nat) : Prop where
  e : g = .tuple (.str w :: ns.map fun n => .int (n : Nat))
  lw : ∀ c ∈ w.cps.toList, 97 ≤ c ∧ c ≤ 122
  sz : w.cps.size ≤ 4
  ln : ns.length ≤ 2
  lt : ∀ n ∈ ns, n < 100
theorem nat_of {r m : Int} (h0 : 0 ≤ r) (h1 : r < m) (hm : m ≤ 100) : ∃ n : Nat, r = (n : Int) ∧ n < 100 := ⟨r.toNat, by omega, by omega⟩
theorem Gate.good {m j : Int} {g : PyData} (h : Gate m j g) (hm : m ≤ 100) (hj : j ≤ 100) : ∃ w ns, GoodG g w ns := by
  cases h with
  | yes => exact ⟨"yes", [], rfl, by decide +kernel, by decide +kernel, by simp, by simp⟩
  | v h0 h1 =>
    obtain ⟨n, rfl, hn⟩ := nat_of h0 h1 hm
    exact ⟨"v", [n], rfl, by decide +kernel, by decide +kernel, by simp, by simpa using hn⟩
  | not h0 h1 =>
    obtain ⟨n, rfl, hn⟩ := nat_of h0 h1 hj
    exact ⟨"not", [n], rfl, by decide +kernel, by decide +kernel, by simp, by simpa using hn⟩
  | and h0 h1 h2 h3 =>
    obtain ⟨n, rfl, hn⟩ := nat_of h0 h1 hj
    obtain ⟨k, rfl, hk⟩ := nat_of h2 h3 hj
    exact ⟨"and", [n, k], rfl, by decide +kernel, by decide +kernel, by simp, by simpa using ⟨hn, hk⟩⟩
  | or h0 h1 h2 h3 =>
    obtain ⟨n, rfl, hn⟩ := nat_of h0 h1 hj
    obtain ⟨k, rfl, hk⟩ := nat_of h2 h3 hj
    exact ⟨"or", [n, k], rfl, by decide +kernel, by decide +kernel, by simp, by simpa using ⟨hn, hk⟩⟩
theorem GoodG.words {g : PyData} {w : Str} {ns : List Nat} (h : GoodG g w ns) : lineW g = w :: ns.map numT := by
  rw [h.e]
  show strP (.str w) :: (ns.map fun n => PyData.int (n : Nat)).map strP = _
  rw [List.map_map]
  rfl
theorem numT_digit {n : Nat} : ∀ c ∈ TL.tl (numT n), 48 ≤ c ∧ c ≤ 57 := fun c hc => by
  rw [numT_tl] at hc
  exact TL.numL_digits n c hc
theorem GoodG.free {g : PyData} {w : Str} {ns : List Nat} (h : GoodG g w ns) : ∀ j, ∀ p ∈ numT j :: lineW g, ∀ c ∈ TL.tl p, 48 ≤ c := fun j p hp c hc => by
  rw [h.words] at hp
  rcases List.mem_cons.mp hp with rfl | hp
  · exact (numT_digit c hc).1
  · rcases List.mem_cons.mp hp with rfl | hp
    · have := (h.lw c hc).1; omega
    · obtain ⟨n, _, rfl⟩ := List.mem_map.mp hp
      exact (numT_digit c hc).1
theorem GoodG.items {g : PyData} {w : Str} {ns : List Nat} {j : Nat} (h : GoodG g w ns) : items (lineT j g) = numT j :: w :: ns.map numT := by
  unfold Zv.K76.items lineT
  rw [TL.split_join sp_tl (by decide +kernel) (by simp) fun p hp hc => by have := h.free j p hp 32 hc; omega, h.words]
theorem GoodG.gateL {g : PyData} {w : Str} {ns : List Nat} {j : Nat} (h : GoodG g w ns) : gateL (lineT j g) = g := by
  unfold Zv.K76.gateL
  rw [h.items, h.e]
  show PyData.tuple (.str w :: (ns.map numT).map numL) = _
  rw [List.map_map]
  congr 2
  refine List.map_congr_left fun n hn => ?_
  show numL (numT n) = _
  unfold numL
  rw [numOf_num (by have := h.lt n hn; omega)]
theorem GoodG.badW {g : PyData} {w : Str} {ns : List Nat} {j : Nat} (h : GoodG g w ns) : badW j (Zv.K76.items (lineT j g)) = false := by
  rw [h.items]
  show (!(numT j == numT j)) = false
  rw [beq_self_eq_true]
  rfl
theorem rdG_back {m : Int} : ∀ (gs : List PyData) (j : Nat) (acc : List PyData), (∀ (i : Nat) (g : PyData), gs[i]? = some g → isGate m ((j + i : Nat) : Int) g = true ∧ ∃ w ns, GoodG g w ns) → rdG m j (linesC j gs) acc = .inr (acc ++ gs)
  | [], j, acc, _ => by rw [List.append_nil]; rfl
  | g :: gs, j, acc, h => by
    obtain ⟨h1, w, ns, hg⟩ := h 0 g rfl
    show (if (!badW j (items (lineT j g)) && isGate m j (gateL (lineT j g))) = true then rdG m (j + 1) (linesC (j + 1) gs) (acc ++ [gateL (lineT j g)]) else .inl (j + 2)) = _
    rw [hg.badW, hg.gateL, show isGate m (j : Nat) g = true from h1, if_pos (show (!false && true) = true from rfl), rdG_back gs (j + 1) (acc ++ [g]) fun i x hx => by
      have := h (i + 1) x hx
      rw [show j + (i + 1) = j + 1 + i from by omega] at this
      exact this]
    rw [List.append_assoc]
    rfl
/-! sizes -/
theorem joinW (y : Str) (hy : Asc 1 y) : ∀ zs : List Str, (Txt.join y zs).cps.size ≤ (zs.map fun z => z.cps.size + 1).sum := fun zs => by
  rw [← Array.length_toList, join_list]
  refine Nat.le_trans (joinL_len _ _) ?_
  rw [List.length_map]
  have h1 : (TL.tl y).length ≤ 1 := by rw [Array.length_toList]; exact hy.sz
  have h3 : zs.length * (TL.tl y).length ≤ zs.length * 1 := Nat.mul_le_mul_left _ h1
  have h2 : ((zs.map TL.tl).map List.length).sum + zs.length * 1 = (zs.map fun z => z.cps.size + 1).sum := by
    clear h1 h3
    induction zs with
    | nil => rfl
    | cons z zs ih =>
      simp only [List.map_cons, List.sum_cons, List.length_cons] at ih ⊢
      rw [Array.length_toList]
      omega
  omega
theorem sumW {W : Nat} : ∀ zs : List Str, (∀ z ∈ zs, Asc W z) → (zs.map fun z => z.cps.size + 1).sum ≤ zs.length * (W + 1)
  | [], _ => by simp
  | z :: zs, h => by
    have h1 := sumW zs fun u hu => h u (List.mem_cons_of_mem _ hu)
    have h2 := (h z List.mem_cons_self).sz
    rw [List.map_cons, List.sum_cons, List.length_cons, Nat.add_mul, Nat.one_mul]
    omega
theorem join_lt {y : Str} {zs : List Str} {W : Nat} (hy : Asc 1 y) (h : ∀ z ∈ zs, ∀ c ∈ z.cps.toList, c < 128) (hs : (zs.map fun z => z.cps.size + 1).sum ≤ W) : Asc W (Txt.join y zs) := ⟨fun c hc => by
  rw [join_list] at hc
  rcases joinL_mem _ _ c hc with q | ⟨p, hp, q⟩
  · exact hy.lt c q
  · obtain ⟨z, hz, rfl⟩ := List.mem_map.mp hp
    exact h z hz c q, Nat.le_trans (joinW y hy zs) hs⟩
theorem sp_asc : Asc 1 (" " : Str) := asc_of (by decide +kernel) (by decide +kernel)
theorem nl_asc : Asc 1 ("\n" : Str) := asc_of (by decide +kernel) (by decide +kernel)
theorem pre_asc : Asc 7 preS := asc_of (by decide +kernel) (by decide +kernel)
theorem GoodG.wasc {g : PyData} {w : Str} {ns : List Nat} {j : Nat} (h : GoodG g w ns) (hj : j < 10 ^ 6) : ∀ z ∈ numT j :: lineW g, Asc 6 z := fun z hz => by
  rw [h.words] at hz
  rcases List.mem_cons.mp hz with rfl | hz
  · exact numT_asc hj
  · rcases List.mem_cons.mp hz with rfl | hz
    · exact ⟨fun c hc => by have := h.lw c hc; omega, by have := h.sz; omega⟩
    · obtain ⟨n, hn, rfl⟩ := List.mem_map.mp hz
      exact numT_asc (by have := h.lt n hn; omega)
theorem GoodG.count {g : PyData} {w : Str} {ns : List Nat} (h : GoodG g w ns) : (lineW g).length ≤ 3 := by
  rw [h.words, List.length_cons, List.length_map]
  have := h.ln
  omega
theorem GoodG.asc {g : PyData} {w : Str} {ns : List Nat} {j : Nat} (h : GoodG g w ns) (hj : j < 10 ^ 6) : Asc 28 (lineT j g) := by
  refine (Asc.join sp_asc (h.wasc hj)).more ?_
  have := h.count
  rw [List.length_cons]
  omega
theorem linesC_len : ∀ (gs : List PyData) (j : Nat), (linesC j gs).length = gs.length
  | [], _ => rfl
  | g :: gs, j => by
    show (linesC (j + 1) gs).length + 1 = _
    rw [linesC_len gs]
    rfl
theorem linesC_all {P : Str → Prop} : ∀ (gs : List PyData) (j : Nat), (∀ (i : Nat) (g : PyData), gs[i]? = some g → P (lineT (j + i) g)) → ∀ l ∈ linesC j gs, P l
  | [], _, _, l, hl => by cases hl
  | g :: gs, j, h, l, hl => by
    rcases List.mem_cons.mp (show l ∈ lineT j g :: linesC (j + 1) gs from hl) with rfl | hl
    · exact h 0 g rfl
    · exact linesC_all gs (j + 1) (fun i x hx => by
        have := h (i + 1) x hx
        rw [show j + (i + 1) = j + 1 + i from by omega] at this
        exact this) l hl
section
variable {m : Nat} {p : Str} {gs : List PyData}
theorem Circ.good (C : Circ m p gs) : ∀ (i : Nat) (g : PyData), gs[i]? = some g → isGate m ((i : Nat) : Int) g = true ∧ ∃ w ns, GoodG g w ns := fun i g hg => by
  have h1 := (C.gg i g hg).1
  have hi := (List.getElem?_eq_some_iff.mp hg).1
  exact ⟨h1.is, h1.good (by have := C.m8; omega) (by have := C.few; omega)⟩
theorem Circ.pasc (C : Circ m p gs) : Asc 60 p := ⟨fun c hc => by rcases C.let_ c hc with rfl | rfl <;> decide, by have := C.len; have := C.m8; omega⟩
theorem Circ.line (C : Circ m p gs) : ∀ l ∈ (preS ++ p) :: linesC 0 gs, Asc 67 l := fun l hl => by
  rcases List.mem_cons.mp hl with rfl | hl
  · exact pre_asc.app C.pasc (by decide)
  · refine linesC_all (P := Asc 67) gs 0 (fun i g hg => ?_) l hl
    obtain ⟨_, w, ns, h⟩ := C.good i g hg
    have hi := (List.getElem?_eq_some_iff.mp hg).1
    exact (h.asc (by have := C.few; omega)).more (by decide)
theorem Circ.text_asc (C : Circ m p gs) (hl : gs.length ≤ 50) : Asc 1600 (textC p gs) := by
  refine join_lt nl_asc (fun z hz => (C.line z hz).lt) ?_
  rw [List.map_cons, List.sum_cons]
  have h1 := (C.line (preS ++ p) List.mem_cons_self).sz
  have h2 := sumW (W := 28) (linesC 0 gs) fun z hz => linesC_all (P := Asc 28) gs 0 (fun i g hg => by
    obtain ⟨_, w, ns, h⟩ := C.good i g hg
    have hi := (List.getElem?_eq_some_iff.mp hg).1
    exact h.asc (by have := C.few; omega)) z hz
  rw [linesC_len] at h2
  omega
theorem mem_join {y : Str} {zs : List Str} {c : Nat} (h : c ∈ TL.tl (Txt.join y zs)) : c ∈ TL.tl y ∨ ∃ z ∈ zs, c ∈ TL.tl z := by
  rw [show TL.tl (Txt.join y zs) = _ from join_list y zs] at h
  rcases joinL_mem _ _ c h with q | ⟨p, hp, q⟩
  · exact .inl q
  · obtain ⟨z, hz, rfl⟩ := List.mem_map.mp hp
    exact .inr ⟨z, hz, q⟩
theorem Circ.lines (C : Circ m p gs) : lines (textC p gs) = (preS ++ p) :: linesC 0 gs := by
  unfold Zv.K76.lines textC
  refine TL.split_join nl_tl (by decide +kernel) (by simp) fun l hl hc => ?_
  rcases List.mem_cons.mp hl with rfl | hl
  · rw [TL.tl_append] at hc
    rcases List.mem_append.mp hc with hc | hc
    · exact absurd hc (by decide +kernel)
    · rcases C.let_ 10 hc with h | h <;> omega
  · revert hc
    refine linesC_all (P := fun l => 10 ∈ TL.tl l → False) gs 0 (fun i g hg hc => ?_) l hl
    obtain ⟨_, w, ns, h⟩ := C.good i g hg
    rcases mem_join hc with q | ⟨z, hz, q⟩
    · exact absurd q (by decide +kernel)
    · have := h.free _ z hz 10 q
      omega
theorem cut7 {a : Str} (h : a.cps.size = 7) : cutS (a ++ p) none (some 7) = a ∧ cutS (a ++ p) (some 7) none = p := by
  have hl : (a ++ p).cps.toList = a.cps.toList ++ p.cps.toList := TL.tl_append a p
  have ha : a.cps.toList.length = 7 := by rw [Array.length_toList]; exact h
  have hz : (a ++ p).length = 7 + p.cps.toList.length := by
    show (a ++ p).cps.size = _
    rw [← Array.length_toList, hl, List.length_append, ha]
  constructor
  · refine TL.ext_tl ?_
    show ((((a ++ p).cps.toList.drop _).take _).toArray).toList = _
    rw [List.toList_toArray, hz, show (7 : Int) = ((7 : Nat) : Int) from rfl, HT.sIx_nat, HT.sIx_none, hl, List.drop_zero, Nat.sub_zero, Nat.min_eq_left (by omega), ← ha, List.take_left]
  · refine TL.ext_tl ?_
    show ((((a ++ p).cps.toList.drop _).take _).toArray).toList = _
    rw [List.toList_toArray, hz, show (7 : Int) = ((7 : Nat) : Int) from rfl, HT.sIx_nat, HT.sIx_none, hl, Nat.min_eq_left (by omega), ← ha, List.drop_left, Nat.add_sub_cancel_left, List.take_length]
theorem Circ.back (C : Circ m p gs) : rdT (textC p gs) = .inr (p, gs) := by
  unfold rdT
  rw [C.lines]
  obtain ⟨c1, c2⟩ := cut7 (p := p) (a := preS) (by decide +kernel)
  simp only [c1, c2]
  have hr := rdG_back (m := p.length) gs 0 [] fun i g hg => by
    obtain ⟨h1, h2⟩ := C.good i g hg
    refine ⟨?_, h2⟩
    have e : ((p.length : Nat) : Int) = (m : Int) := by have := C.len; show ((p.cps.size : Nat) : Int) = _; omega
    rw [e, Nat.zero_add]
    exact h1
  rw [C.word, hr, beq_self_eq_true]
  have : gs.isEmpty = false := by
    cases gs with
    | nil => exact absurd rfl C.ne
    | cons => rfl
  simp [this]
end
end Zv.K76
set_option Elab.async false
set_option linter.all false
set_option maxRecDepth 100000
set_option maxHeartbeats 1000000
/-! U10: the text of a circuit, by the program and by the law. -/
namespace Zv.K76
open PySem L2 Zv
theorem strs_mapT : ∀ zs : List Str, strsOf (zs.map PyData.str) = some zs
  | [] => rfl
  | z :: zs => by
    show (strsOf (zs.map PyData.str)).map (z :: ·) = _
    rw [strs_mapT zs]
    rfl
theorem join_room {W : Nat} {zs : List Str} (y : Str) (hy : Asc 1 y) (h : ∀ z ∈ zs, Asc W z) (hw : zs.length * (W + 1) ≤ 1000000) : (zs.map (·.length)).sum + zs.length * y.length ≤ 16777216 := by
  have h1 : (zs.map (·.length)).sum ≤ zs.length * W := by
    clear hw
    induction zs with
    | nil => simp
    | cons z zs ih =>
      have h2 := ih fun u hu => h u (List.mem_cons_of_mem _ hu)
      have h3 : z.length ≤ W := (h z List.mem_cons_self).sz
      rw [List.map_cons, List.sum_cons, List.length_cons, Nat.add_mul, Nat.one_mul]
      omega
  have h2 : zs.length * y.length ≤ zs.length * 1 := Nat.mul_le_mul_left _ hy.sz
  rw [Nat.mul_add] at hw
  omega
theorem ev_joinL {a : G} {y : Str} {zs : List Str} {ρ : Env} {st : Store} {W : Nat} (ha : a ρ st = .ok (.own (zs.map PyData.str)) st) (hy : Asc 1 y) (h : ∀ z ∈ zs, Asc W z) (hw : zs.length * (W + 1) ≤ 1000000) : gMeth isStr mJoin (gC (.str y)) (gaCons a gaNil) ρ st = .ok (.d (.str (Txt.join y zs))) st :=
  (ev_meth (x := .d (.str y)) (ys := [.d (.list (zs.map PyData.str))]) rfl rfl (ev_cons ha ev_nil)).trans (join_ok (strs_mapT zs) (join_room y hy h hw))
/-- a comprehension over parts -/
theorem ev_parts {w : GI} {g : G} {k : Nat} {ρ : Env} {st : Store} {ds : List PyData} {f : PyData → PyData} (hw : w ρ st = .ok ds st) (hz : ds.length ≤ 1000) (hk : k < ρ.length)
    (h : ∀ d ∈ ds, ∀ ρ', ρ'[k]? = some (some (.d d)) → g ρ' st = .ok (.d (f d)) st) : gComp w (gtName k) bTrue g [k] ρ st = .ok (.own (ds.map f)) st := by
  have e := ev_comp (t := gtName k) (c := bTrue) (g := g) (vs := [k]) (ρ := ρ) (st := st) (p := fun _ => true) (f := f) hw (by rw [sizeLine_eq]; omega) fun d hd =>
    ⟨(wipeE ρ [k]).set k (some (.d d)), rfl, rfl, fun _ => h d hd _ (List.getElem?_set_self (show k < (ρ.set k none).length by rw [List.length_set]; exact hk))⟩
  rw [List.filter_eq_self.mpr fun _ _ => rfl] at e
  exact e
theorem str2 {d : PyData} {a : G} {ρ : Env} {st : Store} (h : (∃ s, d = .str s) ∨ ∃ n : Nat, d = .int (n : Nat) ∧ n < 10 ^ 6) (ha : a ρ st = .ok (.d d) st) : gUn vStr2 a ρ st = .ok (.d (.str (strP d))) st := by
  rcases h with ⟨s, rfl⟩ | ⟨n, rfl, hn⟩
  · exact (ev_un ha).trans rfl
  · refine (ev_un (f := vStr2) ha).trans ?_
    have hl : ((n : Int)).natAbs.log2 < 1920 := by
      by_cases h0 : n = 0
      · subst h0; decide
      · have : n.log2 < 40 := (Nat.log2_lt h0).mpr (by omega)
        show n.log2 < 1920
        omega
    show (if ((n : Int)).natAbs.log2 < 1920 then Res.ok (Vl.d (.str (toString (n : Int)))) st else Res.stuck) = _
    rw [if_pos hl]
    rfl
theorem add_own {xs ys : List PyData} {st : Store} (h : xs.length + ys.length ≤ 1000) : vAdd (.own xs) (.own ys) st = .ok (.own (xs ++ ys)) st := by
  show (if xs.length + ys.length ≤ sizeLine then Res.ok (Vl.own (xs ++ ys)) st else Res.stuck) = _
  rw [if_pos (by rw [sizeLine_eq]; omega)]
section
variable {g : PyData} {w : Str} {ns : List Nat} {j : Nat} {ji : Int} {st : Store}
theorem e_gate_line (h : GoodG g w ns) (hj : (j : Int) = ji) (hb : j < 10 ^ 6) : m_gate_line [.d (.int ji), .d g] st = .ok (.d (.str (lineT j g))) st := by
  refine ev_fn (ev_ret ?_)
  have hc := h.count
  have e1 : gLst (gaCons (gUn vStr (gVar 0)) gaNil) [some (.d (.int ji)), some (.d g), none] st = .ok (.own [.str (numT j)]) st :=
    ev_lst (ds := [.str (numT j)]) (ev_cons (x := .d (.str (numT j))) (str_num (by omega) (by rw [hj]; rfl)) ev_nil) (by rw [sizeLine_eq]; simp)
  have e2 : gComp (iSeq (gVar 1)) (gtName 2) bTrue (gUn vStr2 (gVar 2)) [2] [some (.d (.int ji)), some (.d g), none] st = .ok (.own ((lineW g).map .str)) st := by
    have e := ev_parts (w := iSeq (gVar 1)) (g := gUn vStr2 (gVar 2)) (k := 2) (ρ := [some (.d (.int ji)), some (.d g), none]) (st := st) (ds := .str w :: ns.map fun n => .int (n : Nat)) (f := fun d => .str (strP d)) (by rw [h.e]; rfl)
      (by have := h.ln; simp only [List.length_cons, List.length_map]; omega) (by simp) fun d hd ρ' hρ => str2 (by
        rcases List.mem_cons.mp hd with rfl | hd
        · exact .inl ⟨w, rfl⟩
        · obtain ⟨n, hn, rfl⟩ := List.mem_map.mp hd
          exact .inr ⟨n, rfl, by have := h.lt n hn; omega⟩) (ev_var hρ)
    rw [e]
    show Res.ok (Vl.own _) st = _
    rw [h.e]
    show Res.ok (Vl.own _) st = Res.ok (Vl.own (((PyData.str w :: ns.map fun n => PyData.int (n : Nat)).map strP).map PyData.str)) st
    rw [List.map_map]
    rfl
  have e3 := (ev_bin (f := vAdd) e1 e2).trans (add_own (by rw [List.length_map]; simp only [List.length_singleton]; omega))
  exact ev_joinL (y := " ") (zs := numT j :: lineW g) e3 sp_asc (h.wasc hb) (by rw [List.length_cons]; omega)
def lineLG : G := gMeth isStr mJoin (gC (.str " ")) (gaCons (gBin vAdd (gLst (gaCons (gUn vStr (gVar 2)) (gaCons (gBin vIx (gVar 3) (gC (.int 0))) (gaNil)))) (gComp (iSeq (gCut (gVar 3) (some (gC (.int 1))) none)) (gtName 4) (bTrue) (gUn vStr (gVar 4)) [4])) (gaNil))
theorem e_line_law {o0 o1 : Option Vl} (h : GoodG g w ns) (hj : (j : Int) = ji) (hb : j < 10 ^ 6) : lineLG [o0, o1, some (.d (.int ji)), some (.d g), none] st = .ok (.d (.str (lineT j g))) st := by
  have hc := h.count
  have e1 : gLst (gaCons (gUn vStr (gVar 2)) (gaCons (gBin vIx (gVar 3) (gC (.int 0))) gaNil)) [o0, o1, some (.d (.int ji)), some (.d g), none] st = .ok (.own [.str (numT j), .str w]) st := by
    refine ev_lst (ds := [.str (numT j), .str w]) (ev_cons (x := .d (.str (numT j))) (str_num (by omega) (by rw [hj]; rfl)) (ev_cons (x := .d (.str w)) ?_ ev_nil)) (by rw [sizeLine_eq]; simp)
    rw [h.e]
    exact (ev_bin (f := vIx) (ev_var (x := .d (.tuple (.str w :: ns.map fun n => .int (n : Nat)))) rfl) ev_c).trans (ix_tup (i := 0) rfl)
  have e2 : gComp (iSeq (gCut (gVar 3) (some (gC (.int 1))) none)) (gtName 4) bTrue (gUn vStr (gVar 4)) [4] [o0, o1, some (.d (.int ji)), some (.d g), none] st = .ok (.own ((ns.map numT).map .str)) st := by
    have ec : iSeq (gCut (gVar 3) (some (gC (.int 1))) none) [o0, o1, some (.d (.int ji)), some (.d g), none] st = .ok (ns.map fun n => .int (n : Nat)) st := by
      have e : gCut (gVar 3) (some (gC (.int 1))) none [o0, o1, some (.d (.int ji)), some (.d g), none] st = .ok (.d (.tuple (ns.map fun n => .int (n : Nat)))) st := by
        rw [h.e]
        unfold gCut
        rw [bind_ok (ev_var (x := .d (.tuple (.str w :: ns.map fun n => .int (n : Nat)))) rfl), bind_ok (show gPart (some (gC (.int 1))) _ st = .ok (some 1) st from rfl), bind_ok (show gPart none _ st = .ok none st from rfl)]
        show Res.ok (Vl.d (.tuple (cutL (PyData.str w :: ns.map fun n => PyData.int (n : Nat)) (some 1) none))) st = _
        rw [cut1]
      unfold iSeq
      rw [bind_ok e]
      rfl
    have e := ev_parts (w := iSeq (gCut (gVar 3) (some (gC (.int 1))) none)) (g := gUn vStr (gVar 4)) (k := 4) (ρ := [o0, o1, some (.d (.int ji)), some (.d g), none]) (st := st) (ds := ns.map fun n => .int (n : Nat)) (f := fun d => .str (strP d)) ec
      (by have := h.ln; simp only [List.length_map]; omega) (by simp) fun d hd ρ' hρ => by
        obtain ⟨n, hn, rfl⟩ := List.mem_map.mp hd
        exact str_num (by have := h.lt n hn; omega) (ev_var hρ)
    rw [e, List.map_map, List.map_map]
    rfl
  have e3 := (ev_bin (f := vAdd) e1 e2).trans (add_own (by rw [List.length_map, List.length_map]; have := h.ln; simp only [List.length_cons, List.length_nil]; omega))
  have hw := h.words
  have e4 := ev_joinL (y := " ") (zs := numT j :: lineW g) (W := 6) (st := st) (a := gBin vAdd (gLst (gaCons (gUn vStr (gVar 2)) (gaCons (gBin vIx (gVar 3) (gC (.int 0))) (gaNil)))) (gComp (iSeq (gCut (gVar 3) (some (gC (.int 1))) none)) (gtName 4) (bTrue) (gUn vStr (gVar 4)) [4])) (ρ := [o0, o1, some (.d (.int ji)), some (.d g), none]) (by rw [e3, hw]; rfl) sp_asc (h.wasc hb) (by rw [List.length_cons]; omega)
  exact e4
end
/-- the lines are put one behind the other -/
theorem loopT {st : Store} {a b i : Nat} {E : G} {R : Option Vl → Option Vl → Env} (hi : ∀ x y, (R x y)[i]? = some (some (.ref st.length))) (ht : ∀ x y u v, gtTup [gtName a, gtName b] (.d (.tuple [u, v])) (R x y) = some (R (some (.d u)) (some (.d v))))
    (hE : ∀ (j : Nat) (g : PyData) (w : Str) (ns : List Nat) (S : Store), GoodG g w ns → j < 10 ^ 6 → E (R (some (.d (.int (j : Nat)))) (some (.d g))) S = .ok (.d (.str (lineT j g))) S) :
    ∀ (gs : List PyData) (j : Nat) (acc : List PyData) (x y : Option Vl), (∀ g ∈ gs, ∃ w ns, GoodG g w ns) → j + gs.length ≤ 1000 → acc.length + gs.length ≤ 2000 →
      ∃ x' y', forL (gtTup [gtName a, gtName b]) (sDrop (gMeth isLst mAppend (gVar i) (gaCons E gaNil))) (enF j gs) (R x y) (st ++ [.lst acc]) = .ok (.nx (R x' y')) (st ++ [.lst (acc ++ (linesC j gs).map .str)])
  | [], j, acc, x, y, _, _, _ => ⟨x, y, by rw [show (linesC j []).map PyData.str = [] from rfl, List.append_nil]; rfl⟩
  | g :: gs, j, acc, x, y, hg, hj, hz => by
    rw [List.length_cons] at hj hz
    obtain ⟨w, ns, h⟩ := hg g List.mem_cons_self
    obtain ⟨x', y', ih⟩ := loopT (E := E) (st := st) (i := i) hi ht hE gs (j + 1) (acc ++ [.str (lineT j g)]) (some (.d (.int (j : Nat)))) (some (.d g)) (fun z hz => hg z (List.mem_cons_of_mem _ hz)) (by omega) (by rw [List.length_append, List.length_singleton]; omega)
    refine ⟨x', y', ?_⟩
    have e := ev_appendE (st := st) (i := i) (acc := acc) (a := E) (hi (some (.d (.int (j : Nat)))) (some (.d g))) (hE j g w ns _ h (by omega)) (by rw [sizeLine_eq]; omega)
    show forL _ _ (.tuple [.int (j : Nat), g] :: enF (j + 1) gs) _ _ = _
    unfold forL
    rw [ht]
    refine (bind_ok e).trans (ih.trans ?_)
    rw [List.append_assoc]
    rfl
theorem ev_joinR {y : Str} {zs : List Str} {ρ : Env} {st : Store} {W n i : Nat} (hi : ρ[i]? = some (some (.ref n))) (hs : st[n]? = some (.lst (zs.map .str))) (hy : Asc 1 y) (h : ∀ z ∈ zs, Asc W z) (hw : zs.length * (W + 1) ≤ 1000000) : gMeth isStr mJoin (gC (.str y)) (gaCons (gVar i) gaNil) ρ st = .ok (.d (.str (Txt.join y zs))) st := by
  refine (ev_meth (x := .d (.str y)) (ys := [.ref n]) rfl rfl (ev_cons (x := .ref n) (ev_var hi) ev_nil)).trans ?_
  unfold mJoin
  show (match (lstAt st n).bind strsOf with
    | some zs => if (zs.map (fun z : Str => z.length)).sum + zs.length * y.length ≤ 16777216 then Res.ok (Vl.d (.str (Txt.join y zs))) st else .stuck
    | none => .stuck) = _
  rw [lstAt_of hs, Option.bind_some, strs_mapT]
  exact if_pos (join_room y hy h hw)
section
variable {m : Nat} {p : Str} {gs : List PyData} {st : Store}
theorem head_ev {a : G} {ρ : Env} (C : Circ m p gs) (hc : ρ[0]? = some (some (.d (.tuple [.str p, .tuple gs])))) (ha : a ρ st = .ok (.d (.str preS)) st) : gLst (gaCons (gBin vAdd a (gBin vIx (gVar 0) (gC (.int 0)))) gaNil) ρ st = .ok (.own [.str (preS ++ p)]) st := by
  refine ev_lst (ds := [.str (preS ++ p)]) (ev_cons (x := .d (.str (preS ++ p))) ?_ ev_nil) (by rw [sizeLine_eq]; simp)
  refine (ev_bin (f := vAdd) ha ((ev_bin (f := vIx) (ev_var hc) ev_c).trans (ix_tup (i := 0) (x := .str p) rfl))).trans ?_
  show (if preS.length + p.length ≤ sizeLine then Res.ok (Vl.d (.str (preS ++ p))) st else Res.stuck) = _
  rw [if_pos (by rw [sizeLine_eq]; have h1 := pre_asc.sz; have h2 := C.pasc.sz; show preS.cps.size + p.cps.size ≤ _; omega)]
theorem enum_gs {ρ : Env} {S : Store} (hc : ρ[0]? = some (some (.d (.tuple [.str p, .tuple gs])))) : iEnu (gaCons (gBin vIx (gVar 0) (gC (.int 1))) gaNil) ρ S = .ok (enF 0 gs) S := by
  have e : gBin vIx (gVar 0) (gC (.int 1)) ρ S = .ok (.d (.tuple gs)) S := (ev_bin (f := vIx) (ev_var hc) ev_c).trans (ix_tup (i := 1) rfl)
  unfold iEnu
  rw [bind_ok (ev_cons e ev_nil), ← enumD_eq]
  rfl
theorem ev_setE {i : Nat} {a : G} {ρ : Env} {xs : List PyData} (h : a ρ st = .ok (.own xs) st) : sSetE i a ρ st = .ok (.nx (ρ.set i (some (.ref st.length)))) (st ++ [.lst xs]) := by
  exact (bind_ok (x := M.bind (a ρ) enter) ((bind_ok h).trans rfl)).trans rfl
theorem e_law_text (C : Circ m p gs) : m__law_text [.d (.tuple [.str p, .tuple gs])] st = .ok (.d (.str (textC p gs))) st := by
  have hg : ∀ g ∈ gs, ∃ w ns, GoodG g w ns := fun g h => by
    obtain ⟨i, hi⟩ := List.mem_iff_getElem?.mp h
    exact (C.good i g hi).2
  have hf := C.few
  obtain ⟨x, y, lp⟩ := loopT (st := st) (a := 2) (b := 3) (i := 1) (E := lineLG) (R := fun x y => [some (.d (.tuple [.str p, .tuple gs])), some (.ref st.length), x, y, none]) (fun _ _ => rfl) (fun _ _ _ _ => rfl)
    (fun j g w ns S h hj => e_line_law h rfl hj) gs 0 [.str (preS ++ p)] none none hg (by omega) (by simp only [List.length_singleton]; omega)
  refine ev_fnx (st1 := [.lst (((preS ++ p) :: linesC 0 gs).map .str)]) ?_
  show b__law_text [some (.d (.tuple [.str p, .tuple gs])), none, none, none, none] st = _
  unfold b__law_text
  refine (ev_seq ((ev_setE (head_ev C rfl rfl)).trans rfl)).trans ?_
  refine (ev_seq ((bind_ok (enum_gs (p := p) (gs := gs) rfl)).trans lp)).trans ?_
  exact ev_ret (ev_joinR (zs := (preS ++ p) :: linesC 0 gs) (W := 67) rfl get_end nl_asc C.line (by rw [List.length_cons, linesC_len]; omega))
theorem e_circuit_text (C : Circ m p gs) : m_circuit_text [.d (.tuple [.str p, .tuple gs])] st = .ok (.d (.str (textC p gs))) st := by
  have hg : ∀ g ∈ gs, ∃ w ns, GoodG g w ns := fun g h => by
    obtain ⟨i, hi⟩ := List.mem_iff_getElem?.mp h
    exact (C.good i g hi).2
  have hf := C.few
  obtain ⟨x, y, lp⟩ := loopT (st := st) (a := 2) (b := 3) (i := 1) (E := gCall m_gate_line (gaCons (gVar 2) (gaCons (gVar 3) gaNil))) (R := fun x y => [some (.d (.tuple [.str p, .tuple gs])), some (.ref st.length), x, y]) (fun _ _ => rfl) (fun _ _ _ _ => rfl)
    (fun j g w ns S h hj => by
      generalize hji : ((j : Nat) : Int) = ji
      exact ev_call (ev_cons (x := .d (.int ji)) rfl (ev_cons (x := .d g) rfl ev_nil)) (e_gate_line h hji hj)) gs 0 [.str (preS ++ p)] none none hg (by omega) (by simp only [List.length_singleton]; omega)
  refine ev_fnx (st1 := [.lst (((preS ++ p) :: linesC 0 gs).map .str)]) ?_
  show b_circuit_text [some (.d (.tuple [.str p, .tuple gs])), none, none, none] st = _
  unfold b_circuit_text
  have hn := e_need_good (st := st) (Sm.fit C.sm (by decide) (by decide)) C.circ
  refine (ev_seq ((bind_ok (ev_call (ev_cons (x := .d (.tuple [.str p, .tuple gs])) rfl ev_nil) hn)).trans rfl)).trans ?_
  refine (ev_seq ((ev_setE (head_ev C rfl rfl)).trans rfl)).trans ?_
  refine (ev_seq ((bind_ok (enum_gs (p := p) (gs := gs) rfl)).trans lp)).trans ?_
  exact ev_ret (ev_joinR (zs := (preS ++ p) :: linesC 0 gs) (W := 67) rfl get_end nl_asc C.line (by rw [List.length_cons, linesC_len]; omega))
theorem circuit_text_bad {x : PyData} (F : Fit x) (h : isCirc x = false) : m_circuit_text [.d x] st = .exc (badC x) [] st := by
  refine exc_fn (ρ := [some (.d x), none, none, none]) ?_
  show b_circuit_text [some (.d x), none, none, none] st = _
  unfold b_circuit_text
  exact exc_seq (exc_drop (exc_call (ev_cons (x := .d x) rfl ev_nil) (e_need_bad F h)))
end
end Zv.K76
set_option Elab.async false
set_option linter.all false
set_option maxRecDepth 100000
set_option maxHeartbeats 1000000
/-! U11: texts made of texts; the lists of lines that are put in. -/
namespace Zv.K76
open PySem L2 Zv
/-- an expression that is a text of at most V plain signs -/
def SA (V : Nat) (a : G) (ρ : Env) (S : Store) : Prop := ∃ z, a ρ S = .ok (.d (.str z)) S ∧ Asc V z
section
variable {ρ : Env} {S : Store} {V W U : Nat} {a b : G} {z : Str}
theorem sa_var {i : Nat} (h : ρ[i]? = some (some (.d (.str z)))) (hz : Asc V z) : SA V (gVar i) ρ S := ⟨z, ev_var h, hz⟩
theorem sa_c (h : (z.cps.toList.all fun c => decide (c < 128)) = true) (hw : z.cps.size ≤ V) : SA V (gC (.str z)) ρ S := ⟨z, rfl, asc_of h hw⟩
theorem cat_ev {x y : Str} (ha : a ρ S = .ok (.d (.str x)) S) (hb : b ρ S = .ok (.d (.str y)) S) (hx : x.cps.size + y.cps.size ≤ 100000) : gBin vAdd a b ρ S = .ok (.d (.str (x ++ y))) S := by
  refine (ev_bin (f := vAdd) ha hb).trans ?_
  show (if x.length + y.length ≤ sizeLine then Res.ok (Vl.d (.str (x ++ y))) S else Res.stuck) = _
  rw [if_pos (by rw [sizeLine_eq]; show x.cps.size + y.cps.size ≤ _; omega)]
theorem sa_cat (ha : SA V a ρ S) (hb : SA W b ρ S) (hu : V + W ≤ U) (h : U ≤ 100000) : SA U (gBin vAdd a b) ρ S := by
  obtain ⟨x, ex, hx⟩ := ha
  obtain ⟨y, ey, hy⟩ := hb
  exact ⟨x ++ y, cat_ev ex ey (by have := hx.sz; have := hy.sz; omega), hx.app hy hu⟩
theorem cut_ev {x : Str} {lo hi : Option G} {lo' hi' : Option Int} (ha : a ρ S = .ok (.d (.str x)) S) (h1 : gPart lo ρ S = .ok lo' S) (h2 : gPart hi ρ S = .ok hi' S) (hx : x.cps.size ≤ 100000) : gCut a lo hi ρ S = .ok (.d (.str (cutS x lo' hi'))) S := by
  unfold gCut
  rw [bind_ok ha, bind_ok h1, bind_ok h2]
  show (if x.length ≤ sizeLine then Res.ok (Vl.d (.str (cutS x lo' hi'))) S else Res.stuck) = _
  rw [if_pos (by rw [sizeLine_eq]; show x.cps.size ≤ _; omega)]
theorem sa_cut {lo hi : Option G} {lo' hi' : Option Int} (ha : SA V a ρ S) (h1 : gPart lo ρ S = .ok lo' S) (h2 : gPart hi ρ S = .ok hi' S) (h : V ≤ 100000) : SA V (gCut a lo hi) ρ S := by
  obtain ⟨x, ex, hx⟩ := ha
  exact ⟨_, cut_ev ex h1 h2 (by have := hx.sz; omega), hx.cut⟩
theorem part_ev {i : Int} (ha : a ρ S = .ok (.d (.int i)) S) : gPart (some a) ρ S = .ok (some i) S := by
  unfold gPart
  exact (bind_ok ha).trans rfl
theorem sa_upper (ha : SA V a ρ S) (h : V ≤ 100000) : SA V (gMeth isStr mUpper a gaNil) ρ S := by
  obtain ⟨x, ex, hx⟩ := ha
  refine ⟨Txt.upper x, (ev_meth (x := .d (.str x)) (ys := []) ex rfl ev_nil).trans ?_, hx.upper⟩
  show (if x.length ≤ 5592405 then Res.ok (Vl.d (.str (Txt.upper x))) S else Res.stuck) = _
  rw [if_pos (by have := hx.sz; show x.cps.size ≤ _; omega)]
theorem sa_repl {y z : Str} (ha : SA V a ρ S) (hy : 1 ≤ y.length) (hz : Asc 2 z) (h : V ≤ 1000) : SA (V + (V + 1) * 2) (gUn (vRepl y z) a) ρ S := by
  obtain ⟨x, ex, hx⟩ := ha
  refine ⟨Txt.replace x y z, (ev_un (f := vRepl y z) ex).trans ?_, hx.repl hz hy⟩
  show (if x.length + (x.length + 1) * z.length ≤ 16777216 then Res.ok (Vl.d (.str (Txt.replace x y z))) S else Res.stuck) = _
  have h1 : x.length ≤ 1000 := Nat.le_trans hx.sz h
  have h2 : (x.length + 1) * z.length ≤ 1001 * 2 := Nat.mul_le_mul (by omega) hz.sz
  rw [if_pos (by omega)]
theorem sa_num {n : Nat} (h : n < 10 ^ 6) (ha : a ρ S = .ok (.d (.int (n : Nat))) S) : SA 6 (gUn vStr a) ρ S := ⟨numT n, str_num (by omega) ha, numT_asc h⟩
theorem SA.more (h : SA V a ρ S) (hw : V ≤ W) : SA W a ρ S := by
  obtain ⟨x, ex, hx⟩ := h
  exact ⟨x, ex, hx.more hw⟩
/-- an expression that is a list of at most two such texts -/
def SL (V : Nat) (a : G) (ρ : Env) (S : Store) : Prop := ∃ zs : List Str, a ρ S = .ok (.own (zs.map .str)) S ∧ zs.length ≤ 2 ∧ ∀ z ∈ zs, Asc V z
theorem sl0 : SL V (gLst gaNil) ρ S := ⟨[], rfl, by simp, fun z h => by cases h⟩
theorem sl1 (h : SA V a ρ S) : SL V (gLst (gaCons a gaNil)) ρ S := by
  obtain ⟨x, ex, hx⟩ := h
  exact ⟨[x], ev_lst (ds := [.str x]) (ev_cons ex ev_nil) (by rw [sizeLine_eq]; simp), by simp, fun z h => by rw [List.mem_singleton.mp h]; exact hx⟩
theorem sl2 (h : SA V a ρ S) (k : SA V b ρ S) : SL V (gLst (gaCons a (gaCons b gaNil))) ρ S := by
  obtain ⟨x, ex, hx⟩ := h
  obtain ⟨y, ey, hy⟩ := k
  exact ⟨[x, y], ev_lst (ds := [.str x, .str y]) (ev_cons ex (ev_cons ey ev_nil)) (by rw [sizeLine_eq]; simp), by simp, fun z h => by
    rcases List.mem_cons.mp h with rfl | h
    · exact hx
    · rw [List.mem_singleton.mp h]; exact hy⟩
def listD (zs : List Str) : PyData := .list (zs.map .str)
/-- arguments that are such lists -/
def SLs (V n : Nat) (gs : GA) (ρ : Env) (S : Store) : Prop := ∃ zss : List (List Str), gs ρ S = .ok ((zss.map listD).map .d) S ∧ zss.length = n ∧ ∀ zs ∈ zss, zs.length ≤ 2 ∧ ∀ z ∈ zs, Asc V z
theorem sls_nil : SLs V 0 gaNil ρ S := ⟨[], rfl, rfl, fun z h => by cases h⟩
theorem sls_cons {gs : GA} {n : Nat} (h : SL V a ρ S) (r : SLs V n gs ρ S) : SLs V (n + 1) (gaCons a gs) ρ S := by
  obtain ⟨zs, e, h1, h2⟩ := h
  obtain ⟨zss, es, hn, hs⟩ := r
  refine ⟨zs :: zss, ev_cons (x := .own (zs.map .str)) e es, by rw [List.length_cons, hn], fun u hu => ?_⟩
  rcases List.mem_cons.mp hu with rfl | hu
  · exact ⟨h1, h2⟩
  · exact hs u hu
/-- arguments that are texts -/
def SAs (V n : Nat) (gs : GA) (ρ : Env) (S : Store) : Prop := ∃ zs : List Str, gs ρ S = .ok ((zs.map PyData.str).map .d) S ∧ zs.length = n ∧ ∀ z ∈ zs, Asc V z
theorem sas_nil : SAs V 0 gaNil ρ S := ⟨[], rfl, rfl, fun z h => by cases h⟩
theorem sas_cons {gs : GA} {n : Nat} (h : SA V a ρ S) (r : SAs V n gs ρ S) : SAs V (n + 1) (gaCons a gs) ρ S := by
  obtain ⟨z, e, h1⟩ := h
  obtain ⟨zs, es, hn, hs⟩ := r
  refine ⟨z :: zs, ev_cons (x := .d (.str z)) e es, by rw [List.length_cons, hn], fun u hu => ?_⟩
  rcases List.mem_cons.mp hu with rfl | hu
  · exact h1
  · exact hs u hu
end
/-! lines with others in their place -/
theorem cutL_map {α β : Type} (f : α → β) (xs : List α) (lo hi : Option Int) : cutL (xs.map f) lo hi = (cutL xs lo hi).map f := by
  unfold cutL
  rw [List.length_map, List.map_take, List.map_drop]
theorem cut_to {α : Type} (xs : List α) (r : Nat) (ri : Int) (h : (r : Int) = ri) (hr : r ≤ xs.length) : cutL xs none (some ri) = xs.take r := by
  subst h
  unfold cutL
  rw [HT.sIx_nat, HT.sIx_none, List.drop_zero, Nat.sub_zero, Nat.min_eq_left hr]
theorem cut_from {α : Type} (xs : List α) (r : Nat) (ri : Int) (h : (r : Int) = ri) (hr : r ≤ xs.length) : cutL xs (some ri) none = xs.drop r := by
  subst h
  unfold cutL
  rw [HT.sIx_nat, HT.sIx_none, Nat.min_eq_left hr, List.take_of_length_le (by rw [List.length_drop]; exact Nat.le_refl _)]
theorem add_lists {xs ys : List PyData} {v w : Vl} {st : Store} (hv : lstOf v st = some xs) (hw : lstOf w st = some ys) (hv2 : ∀ d, v = .d d → ∃ zs, d = .list zs) (h : xs.length + ys.length ≤ 100000) : vAdd v w st = .ok (.own (xs ++ ys)) st := by
  have hz : xs.length + ys.length ≤ sizeLine := by rw [sizeLine_eq]; omega
  unfold vAdd
  split
  · obtain ⟨zs, e⟩ := hv2 _ rfl; cases e
  · obtain ⟨zs, e⟩ := hv2 _ rfl; cases e
  · obtain ⟨zs, e⟩ := hv2 _ rfl; cases e
  · rw [hv, hw]
    exact if_pos hz
theorem sub_lines {W : Nat} {L zs : List Str} {r : Nat} (h : ∀ l ∈ L, Asc 67 l) (hl : L.length ≤ 51) (hr : r < L.length) (hz : zs.length ≤ 2) (hz2 : ∀ z ∈ zs, Asc 203 z) : ∀ c ∈ [L.take r ++ zs ++ L.drop (r + 1)], (∀ z ∈ c, Asc 203 z) ∧ (c.map fun z => z.cps.size + 1).sum ≤ 4000 ∧ c.length ≤ 60 := fun c hc => by
  rw [List.mem_singleton.mp hc]
  have h1 : ∀ z ∈ L.take r, Asc 67 z := fun z hz => h z (List.mem_of_mem_take hz)
  have h2 : ∀ z ∈ L.drop (r + 1), Asc 67 z := fun z hz => h z (List.mem_of_mem_drop hz)
  refine ⟨fun z hz => ?_, ?_, ?_⟩
  · rcases List.mem_append.mp hz with hz | hz
    · rcases List.mem_append.mp hz with hz | hz
      · exact (h1 z hz).more (by decide)
      · exact hz2 z hz
    · exact (h2 z hz).more (by decide)
  · have s1 := sumW _ h1
    have s2 := sumW _ hz2
    have s3 := sumW _ h2
    rw [List.length_take, Nat.min_eq_left (by omega)] at s1
    rw [List.length_drop] at s3
    rw [List.map_append, List.map_append, List.sum_append, List.sum_append]
    omega
  · rw [List.length_append, List.length_append, List.length_take, List.length_drop]
    omega
end Zv.K76
set_option Elab.async false
set_option linter.all false
set_option maxRecDepth 100000
set_option maxHeartbeats 1000000
/-! U12: a text near another one is a short text of plain signs. -/
namespace Zv.K76
open PySem L2 Zv
def joinB : G := gMeth isStr mJoin (gC (.str "\n")) (gaCons (gBin vAdd (gBin vAdd (gCut (gVar 2) none (some (gVar 3))) (gVar 8)) (gCut (gVar 2) (some (gBin vAdd (gVar 3) (gC (.int 1)))) none)) (gaNil))
theorem join_sum {c : List Str} (h : ∀ z ∈ c, Asc 4000 z) (hs : (c.map fun z => z.cps.size + 1).sum ≤ 4000) (hl : c.length ≤ 60) {a : G} {ρ : Env} {S : Store} (ha : a ρ S = .ok (.own (c.map PyData.str)) S) : SA 4000 (gMeth isStr mJoin (gC (.str "\n")) (gaCons a gaNil)) ρ S :=
  ⟨_, ev_joinL ha nl_asc h (by have := Nat.mul_le_mul_right 4001 hl; omega), join_lt nl_asc (fun z hz => (h z hz).lt) hs⟩
theorem joinB_ev {ρ : Env} {S : Store} {L zs : List Str} {r : Nat} {ri : Int} (hri : (r : Int) = ri) (h2 : ρ[2]? = some (some (.d (.list (L.map .str))))) (h3 : ρ[3]? = some (some (.d (.int ri)))) (h8 : ρ[8]? = some (some (.d (listD zs))))
    (h : ∀ l ∈ L, Asc 67 l) (hl : L.length ≤ 51) (hr : r < L.length) (hz : zs.length ≤ 2) (hz2 : ∀ z ∈ zs, Asc 203 z) : SA 4000 joinB ρ S := by
  obtain ⟨q1, q2, q3⟩ := sub_lines (W := 0) h hl hr hz hz2 _ List.mem_cons_self
  have cut : ∀ lo hi : Option G, ∀ lo' hi' : Option Int, gPart lo ρ S = .ok lo' S → gPart hi ρ S = .ok hi' S → gCut (gVar 2) lo hi ρ S = .ok (.own (cutL (L.map PyData.str) lo' hi')) S := fun lo hi lo' hi' e1 e2 => by
    unfold gCut
    rw [bind_ok (ev_var h2), bind_ok e1, bind_ok e2]
    rfl
  have e1 := cut none (some (gVar 3)) none (some ri) rfl (part_ev (ev_var h3))
  have ep : gBin vAdd (gVar 3) (gC (.int 1)) ρ S = .ok (.d (.int (ri + 1))) S := (ev_bin (f := vAdd) (ev_var h3) ev_c).trans rfl
  have e2 := cut (some (gBin vAdd (gVar 3) (gC (.int 1)))) none (some (ri + 1)) none (part_ev ep) rfl
  rw [cutL_map, cut_to L r ri hri (by omega)] at e1
  rw [cutL_map, cut_from L (r + 1) (ri + 1) (by omega) (by omega)] at e2
  have l1 : (L.take r).length ≤ 51 := by rw [List.length_take]; omega
  have l2 : (L.drop (r + 1)).length ≤ 51 := by rw [List.length_drop]; omega
  have e3 : gBin vAdd (gCut (gVar 2) none (some (gVar 3))) (gVar 8) ρ S = .ok (.own ((L.take r).map PyData.str ++ zs.map .str)) S :=
    (ev_bin (f := vAdd) e1 (ev_var h8)).trans (add_lists (xs := (L.take r).map .str) (ys := zs.map .str) rfl rfl (fun d hd => by cases hd) (by rw [List.length_map, List.length_map]; omega))
  have e4 : gBin vAdd (gBin vAdd (gCut (gVar 2) none (some (gVar 3))) (gVar 8)) (gCut (gVar 2) (some (gBin vAdd (gVar 3) (gC (.int 1)))) none) ρ S = .ok (.own ((L.take r ++ zs ++ L.drop (r + 1)).map PyData.str)) S := by
    refine ((ev_bin (f := vAdd) e3 e2).trans (add_lists (xs := (L.take r).map PyData.str ++ zs.map .str) (ys := (L.drop (r + 1)).map .str) rfl rfl (fun d hd => by cases hd) (by rw [List.length_append, List.length_map, List.length_map, List.length_map]; omega))).trans ?_
    rw [List.map_append, List.map_append]
  exact join_sum (fun z hz => (q1 z hz).more (by decide)) q2 q3 e4
abbrev E9 (n : Nat) (t : Str) (L : List Str) (at_ spot : Int) (line : Str) (cut : Int) (o7 o8 : Option Vl) : Env := [some (.ref n), some (.d (.str t)), some (.d (.list (L.map .str))), some (.d (.int at_)), some (.d (.int spot)), some (.d (.str line)), some (.d (.int cut)), o7, o8]
def itG : GA := (gaCons (gLst (gaNil)) (gaCons (gLst (gaCons (gVar 5) (gaCons (gVar 5) (gaNil)))) (gaCons (gLst (gaCons (gBin vAdd (gVar 5) (gC (.str " "))) (gaNil))) (gaCons (gLst (gaCons (gBin vAdd (gC (.str " ")) (gVar 5)) (gaNil))) (gaCons (gLst (gaCons (gBin vAdd (gVar 5) (gC (.str " 0"))) (gaNil))) (gaCons (gLst (gaCons (gBin vAdd (gBin vAdd (gCut (gVar 5) none (some (gVar 6))) (gC (.str " "))) (gCut (gVar 5) (some (gVar 6)) none)) (gaNil))) (gaCons (gLst (gaCons (gMeth isStr mUpper (gVar 5) gaNil) (gaNil))) (gaCons (gLst (gaCons (gC (.str "")) (gaNil))) (gaCons (gLst (gaCons (gBin vAdd (gCut (gVar 5) none (some (gUn vNeg (gC (.int 1))))) (gC (.str "0"))) (gaNil))) (gaCons (gLst (gaCons (gBin vAdd (gCut (gVar 5) none (some (gUn vNeg (gC (.int 1))))) (gC (.str "99"))) (gaNil))) (gaCons (gLst (gaCons (gUn (vRepl " " "  ") (gVar 5)) (gaNil))) (gaCons (gLst (gaCons (gUn (vRepl " " " 0") (gVar 5)) (gaNil))) (gaCons (gLst (gaCons (gUn (vRepl " " " -") (gVar 5)) (gaNil))) (gaCons (gLst (gaCons (gUn (vRepl " " " +") (gVar 5)) (gaNil))) (gaCons (gLst (gaCons (gBin vAdd (gUn vStr (gVar 3)) (gC (.str " yes"))) (gaNil))) (gaCons (gLst (gaCons (gUn (vRepl "and" "or") (gVar 5)) (gaNil))) (gaNil)))))))))))))))))
theorem itG_ev {n : Nat} {t line : Str} {L : List Str} {r : Nat} {ri spot cut : Int} {o7 o8 : Option Vl} {S : Store} (hri : (r : Int) = ri) (hr : r < 100) (hl : Asc 67 line) : SLs 203 16 itG (E9 n t L ri spot line cut o7 o8) S := by
  have v5 : SA 67 (gVar 5) (E9 n t L ri spot line cut o7 o8) S := sa_var rfl hl
  have c : ∀ {z : Str} {V : Nat}, (z.cps.toList.all fun c => decide (c < 128)) = true → z.cps.size ≤ V → SA V (gC (.str z)) (E9 n t L ri spot line cut o7 o8) S := fun h k => sa_c h k
  have neg : gPart (some (gUn vNeg (gC (.int 1)))) (E9 n t L ri spot line cut o7 o8) S = .ok (some (-1)) S := part_ev rfl
  have rep : ∀ {y z : Str}, 1 ≤ y.length → Asc 2 z → SA 203 (gUn (vRepl y z) (gVar 5)) (E9 n t L ri spot line cut o7 o8) S := fun h k => sa_repl v5 h k (by decide)
  unfold itG
  refine sls_cons sl0 (sls_cons (sl2 (v5.more (by decide)) (v5.more (by decide))) ?_)
  refine sls_cons (sl1 (sa_cat v5 (c (V := 1) (by decide +kernel) (by decide +kernel)) (by decide) (by decide))) ?_
  refine sls_cons (sl1 (sa_cat (c (V := 1) (by decide +kernel) (by decide +kernel)) v5 (by decide) (by decide))) ?_
  refine sls_cons (sl1 (sa_cat v5 (c (V := 2) (by decide +kernel) (by decide +kernel)) (by decide) (by decide))) ?_
  refine sls_cons (sl1 (sa_cat (sa_cat (U := 68) (sa_cut v5 (lo' := none) (hi' := some cut) rfl (part_ev rfl) (by decide)) (c (V := 1) (by decide +kernel) (by decide +kernel)) (by decide) (by decide)) (sa_cut v5 (lo' := some cut) (hi' := none) (part_ev rfl) rfl (by decide)) (by decide) (by decide))) ?_
  refine sls_cons (sl1 ((sa_upper v5 (by decide)).more (by decide))) ?_
  refine sls_cons (sl1 (c (by decide +kernel) (by decide +kernel))) ?_
  refine sls_cons (sl1 (sa_cat (sa_cut v5 (lo' := none) (hi' := some (-1)) rfl neg (by decide)) (c (V := 1) (by decide +kernel) (by decide +kernel)) (by decide) (by decide))) ?_
  refine sls_cons (sl1 (sa_cat (sa_cut v5 (lo' := none) (hi' := some (-1)) rfl neg (by decide)) (c (V := 2) (by decide +kernel) (by decide +kernel)) (by decide) (by decide))) ?_
  refine sls_cons (sl1 (rep (by decide +kernel) (asc_of (by decide +kernel) (by decide +kernel)))) ?_
  refine sls_cons (sl1 (rep (by decide +kernel) (asc_of (by decide +kernel) (by decide +kernel)))) ?_
  refine sls_cons (sl1 (rep (by decide +kernel) (asc_of (by decide +kernel) (by decide +kernel)))) ?_
  refine sls_cons (sl1 (rep (by decide +kernel) (asc_of (by decide +kernel) (by decide +kernel)))) ?_
  refine sls_cons (sl1 (sa_cat (sa_num (n := r) (by omega) (by rw [hri]; rfl)) (c (V := 4) (by decide +kernel) (by decide +kernel)) (by decide) (by decide))) ?_
  exact sls_cons (sl1 (rep (by decide +kernel) (asc_of (by decide +kernel) (by decide +kernel)))) sls_nil
/-- texts, as data -/
def Txs (xs : List PyData) : Prop := ∀ x ∈ xs, ∃ z, x = .str z ∧ Asc 4000 z
theorem Txs.app {xs : List PyData} {z : Str} (h : Txs xs) (hz : Asc 4000 z) : Txs (xs ++ [.str z]) := fun x hx => (List.mem_append.mp hx).elim (h x) fun q => ⟨z, List.mem_singleton.mp q, hz⟩
theorem put_text {n l : Nat} {k : Int} {st0 st : Store} {xs : List PyData} {ρ : Env} {a : G} {R : Flow → Store → Prop} (h7 : ρ[7]? = some (some (.ref st0.length))) (G : Gt n l k st0 xs st) (hx : Txs xs) (hl : xs.length < 1000) (ha : SA 4000 a ρ st)
    (r : ∀ z st', Asc 4000 z → Gt n l k st0 (xs ++ [.str z]) st' → R (.nx ρ) st') : Ok (sDrop (gMeth isLst mAppend (gVar 7) (gaCons a gaNil)) ρ st) R := by
  obtain ⟨z, e, hz⟩ := ha
  refine ok_append h7 G.lst ?_
  rw [e]
  exact ok_ok.mpr ⟨.str z, xs, rfl, G.lst, by rw [sizeLine_eq]; omega, r z _ hz G.app⟩
end Zv.K76
set_option Elab.async false
set_option linter.all false
set_option maxRecDepth 100000
set_option maxHeartbeats 4000000
/-! U13: a text near another one. -/
namespace Zv.K76
open PySem L2 Zv
theorem three_ok {n l : Nat} {t line : Str} {L : List Str} {ri spot cut k : Int} {st3 : Store} (ht : Asc 1600 t) (D3 : Dk st3 n l (k + 1 + 1 + 1)) (hk : k + 100 < 2 ^ 40) :
    Ok (gLst (gaCons (gBin vAdd (gBin vAdd (gCut (gVar 1) none (some (gVar 4))) (gCall m__law_pick (gaCons (gVar 0) (gaCons (gLst (gaCons (gC (.str " ")) (gaCons (gC (.str "\n")) (gaCons (gC (.str "0")) (gaCons (gC (.str "1")) (gaCons (gC (.str "v")) (gaCons (gC (.str "e")) (gaCons (gC (.str "a")) (gaCons (gC (.str "-")) (gaCons (gC (.str "+")) (gaCons (gC (.str "_")) (gaCons (gC (.str ".")) (gaCons (gC (.str "E")) (gaCons (gC (.str "yes")) (gaNil))))))))))))))) (gaNil))))) (gCut (gVar 1) (some (gVar 4)) none)) (gaCons (gBin vAdd (gCut (gVar 1) none (some (gVar 4))) (gCut (gVar 1) (some (gBin vAdd (gVar 4) (gC (.int 1)))) none)) (gaCons (gCut (gVar 1) none (some (gVar 4))) (gaNil)))) (E9 n t L ri spot line cut none none) st3)
      fun v st4 => ∃ xs, v = .own xs ∧ Txs xs ∧ xs.length = 3 ∧ Dk st4 n l (k + 1 + 1 + 1 + 1) ∧ Fr n l st3 st4 := by
  have hSL : (sizeLine : Nat) = 16777216 := sizeLine_eq
  have v1 : ∀ S, SA 1600 (gVar 1) (E9 n t L ri spot line cut none none) S := fun S => sa_var rfl ht
  unfold gLst
  refine ok_bind (ok_mono (P := fun vs st4 => ∃ zs : List Str, vs = (zs.map PyData.str).map .d ∧ zs.length = 3 ∧ (∀ z ∈ zs, Asc 4000 z) ∧ Dk st4 n l (k + 1 + 1 + 1 + 1) ∧ Fr n l st3 st4) ?_ ?_)
  · obtain ⟨c1, e1, k1⟩ := sa_cut (v1 st3) (lo := none) (hi := some (gVar 4)) (lo' := none) (hi' := some spot) rfl (part_ev rfl) (by decide)
    refine ok_cons (ok_bin (ok_bin (ok_eq e1 (ok_ok.mpr (epick (ds := [.str " ", .str "\n", .str "0", .str "1", .str "v", .str "e", .str "a", .str "-", .str "+", .str "_", .str ".", .str "E", .str "yes"]) D3 rfl rfl (by simp) (by simp) (by omega) fun x hx st4 D4 F4 => ?_)))))
    obtain ⟨z, rfl, hz⟩ : ∃ z, x = .str z ∧ Asc 3 z := by
      simp only [List.mem_cons, List.not_mem_nil, or_false] at hx
      rcases hx with rfl | rfl | rfl | rfl | rfl | rfl | rfl | rfl | rfl | rfl | rfl | rfl | rfl <;> exact ⟨_, rfl, asc_of (by decide +kernel) (by decide +kernel)⟩
    have e2 : vAdd (.d (.str c1)) (.d (.str z)) st4 = .ok (.d (.str (c1 ++ z))) st4 := by
      show (if c1.length + z.length ≤ sizeLine then Res.ok (Vl.d (.str (c1 ++ z))) st4 else Res.stuck) = _
      rw [if_pos (by rw [hSL]; have := k1.sz; have := hz.sz; show c1.cps.size + z.cps.size ≤ _; omega)]
    obtain ⟨c2, e3, k2⟩ := sa_cut (v1 st4) (lo := some (gVar 4)) (hi := none) (lo' := some spot) (hi' := none) (part_ev rfl) rfl (by decide)
    have k12 := (k1.app hz (X := 1603) (by decide)).app k2 (X := 3203) (by decide)
    have e4 : vAdd (.d (.str (c1 ++ z))) (.d (.str c2)) st4 = .ok (.d (.str (c1 ++ z ++ c2))) st4 := by
      show (if (c1 ++ z).length + c2.length ≤ sizeLine then Res.ok (Vl.d (.str (c1 ++ z ++ c2))) st4 else Res.stuck) = _
      rw [if_pos (by rw [hSL]; have := (k1.app hz (X := 1603) (by decide)).sz; have := k2.sz; show (c1 ++ z).cps.size + c2.cps.size ≤ _; omega)]
    rw [e2]
    refine ok_ok.mpr (ok_eq e3 (ok_ok.mpr ?_))
    rw [e4]
    have s2 : SAs 4000 2 (gaCons (gBin vAdd (gCut (gVar 1) none (some (gVar 4))) (gCut (gVar 1) (some (gBin vAdd (gVar 4) (gC (.int 1)))) none)) (gaCons (gCut (gVar 1) none (some (gVar 4))) (gaNil))) (E9 n t L ri spot line cut none none) st4 := by
      have w1 := sa_cut (v1 st4) (lo := none) (hi := some (gVar 4)) (lo' := none) (hi' := some spot) rfl (part_ev rfl) (by decide)
      have w2 := sa_cut (v1 st4) (lo := some (gBin vAdd (gVar 4) (gC (.int 1)))) (hi := none) (lo' := some (spot + 1)) (hi' := none) (part_ev rfl) rfl (by decide)
      exact sas_cons (sa_cat w1 w2 (by decide) (by decide)) (sas_cons (w1.more (by decide)) sas_nil)
    obtain ⟨zs, ez, hzl, hza⟩ := s2
    refine ok_ok.mpr (ok_eq ez (ok_ok.mpr ⟨(c1 ++ z ++ c2) :: zs, rfl, by rw [List.length_cons, hzl], fun u hu => ?_, D4, F4⟩))
    rcases List.mem_cons.mp hu with rfl | hu
    · exact k12.more (by decide)
    · exact hza u hu
  · rintro vs st4 ⟨zs, rfl, hzl, hza, D4, F4⟩
    have ed : datsOf ((zs.map PyData.str).map Vl.d) = some (zs.map .str) := by
      clear hzl hza
      induction zs with
      | nil => rfl
      | cons z zs ih =>
        show (datsOf ((zs.map PyData.str).map Vl.d)).map (PyData.str z :: ·) = _
        rw [ih]
        rfl
    show Ok ((match datsOf ((zs.map PyData.str).map Vl.d) with
      | some ds => if ds.length ≤ sizeLine then Res.ok (Vl.own ds) st4 else .stuck
      | none => .stuck)) _
    rw [ed]
    show Ok (if (zs.map PyData.str).length ≤ sizeLine then Res.ok (Vl.own (zs.map PyData.str)) st4 else .stuck) _
    rw [if_pos (by rw [List.length_map, hzl, hSL]; decide)]
    exact ok_ok.mpr ⟨_, rfl, fun x hx => by obtain ⟨z, hz, rfl⟩ := List.mem_map.mp hx; exact ⟨z, rfl, hza z hz⟩, by rw [List.length_map, hzl], D4, F4⟩
theorem near_loop {n l r : Nat} {t line : Str} {L : List Str} {ri spot cut k : Int} {st st5 : Store} {xs : List PyData} (hri : (r : Int) = ri) (hL : ∀ l ∈ L, Asc 67 l) (hLl : L.length ≤ 51) (hrL : r < L.length) (hA : Asc 67 line) (hx : Txs xs) (hxl : xs.length = 3) (G0 : Gt n l (k + 1 + 1 + 1 + 1) st xs st5) :
    Ok (sFor (iSeq (gTup itG)) (gtName 8) (sDrop (gMeth isLst mAppend (gVar 7) (gaCons joinB (gaNil)))) (E9 n t L ri spot line cut (some (.ref st.length)) none) st5) fun f st6 => ∃ o8 ys, f = .nx (E9 n t L ri spot line cut (some (.ref st.length)) o8) ∧ Txs ys ∧ ys.length = 19 ∧ Gt n l (k + 1 + 1 + 1 + 1) st ys st6 := by
  have hSL : (sizeLine : Nat) = 16777216 := sizeLine_eq
  obtain ⟨zss, ez, hzl, hzs⟩ := itG_ev (n := n) (t := t) (L := L) (spot := spot) (cut := cut) (o7 := some (.ref st.length)) (o8 := none) (S := st5) hri (by omega) hA
  have ei : iSeq (gTup itG) (E9 n t L ri spot line cut (some (.ref st.length)) none) st5 = .ok (zss.map listD) st5 := by
    unfold iSeq
    rw [bind_ok (ev_tup ez (by rw [List.length_map, hzl, hSL]; decide))]
    rfl
  refine ok_sfor (ok_eq ei (ok_ok.mpr ?_))
  refine ok_for (P := fun ds ρ st6 => ∃ zss' o8 ys, ds = zss'.map listD ∧ (∀ zs ∈ zss', zs.length ≤ 2 ∧ ∀ z ∈ zs, Asc 203 z) ∧ ρ = E9 n t L ri spot line cut (some (.ref st.length)) o8 ∧ Txs ys ∧ ys.length + zss'.length = 19 ∧ Gt n l (k + 1 + 1 + 1 + 1) st ys st6) ?_ ?_ _ _ _ ⟨zss, none, xs, rfl, hzs, rfl, hx, by omega, G0⟩
  · rintro ρ st6 ⟨zss', o8, ys, e, _, rfl, hy, hyl, G⟩
    have : zss' = [] := by cases zss' with
      | nil => rfl
      | cons a b => cases e
    subst this
    exact ⟨o8, ys, rfl, hy, hyl, G⟩
  · rintro d ds ρ st6 ⟨zss', o8, ys, e, hs, rfl, hy, hyl, G⟩
    cases zss' with
    | nil => cases e
    | cons zs zss' =>
      rw [List.map_cons] at e
      injection e with e1 e2
      subst e1 e2
      rw [List.length_cons] at hyl
      obtain ⟨q1, q2⟩ := hs zs List.mem_cons_self
      refine ⟨E9 n t L ri spot line cut (some (.ref st.length)) (some (.d (listD zs))), rfl, ?_⟩
      refine put_text rfl G hy (by omega) (joinB_ev hri rfl rfl rfl hL (by omega) hrL q1 q2) fun z st' hz G' => ?_
      exact ⟨zss', _, ys ++ [.str z], rfl, fun u hu => hs u (List.mem_cons_of_mem _ hu), rfl, hy.app hz, by rw [List.length_append, List.length_singleton]; omega, G'⟩
end Zv.K76
set_option Elab.async false
set_option linter.all false
set_option maxRecDepth 100000
set_option maxHeartbeats 4000000
/-! U14: a text near another one. -/
namespace Zv.K76
open PySem L2 Zv
theorem near_text_ok {st : Store} {n l m : Nat} {k : Int} {p : Str} {gs : List PyData} (C : Circ m p gs) (hl : gs.length ≤ 50) (D : Dk st n l k) (hk : k + 100 < 2 ^ 40) :
    Ok (m__law_near_text [.ref n, .d (.str (textC p gs))] st) fun v st' => ∃ z, v = .d (.str z) ∧ Asc 4000 z ∧ Dk st' n l (k + 5) ∧ Fr n l st st' := by
  have hSL : (sizeLine : Nat) = 16777216 := sizeLine_eq
  refine ok_fn ?_
  have ht := C.text_asc hl
  have htz := ht.sz
  have es : ∀ ρ : Env, ρ[1]? = some (some (.d (.str (textC p gs)))) → gMeth isStr mSplit (gVar 1) (gaCons (gC (.str "\n")) (gaNil)) ρ st = .ok (.own (((preS ++ p) :: linesC 0 gs).map PyData.str)) st := fun ρ h => by
    rw [← C.lines]
    exact ev_split (i := 1) (z := "\n") h (by decide +kernel) (by omega)
  have hL : ∀ l ∈ (preS ++ p) :: linesC 0 gs, Asc 67 l := C.line
  have hLl : ((preS ++ p) :: linesC 0 gs).length = gs.length + 1 := by rw [List.length_cons, linesC_len]
  generalize (preS ++ p) :: linesC 0 gs = L at es hL hLl
  generalize textC p gs = t at es ht htz
  show Ok (b__law_near_text [some (.ref n), some (.d (.str t)), none, none, none, none, none, none, none] st) _
  unfold b__law_near_text
  refine ok_eq (ev_seq ((ev_set (es _ rfl)).trans rfl)) ?_
  -- two draws
  have lenL : ∀ (ρ : Env) (S : Store), ρ[2]? = some (some (.d (.list (L.map .str)))) → gUn vLen (gVar 2) ρ S = .ok (.d (.int ((L.length : Nat) : Int))) S := fun ρ S h => by
    have := ev_lenL (st := S) h
    rw [List.length_map] at this
    exact this
  have lenS : ∀ (i : Nat) (z : Str) (ρ : Env) (S : Store), ρ[i]? = some (some (.d (.str z))) → z.cps.size ≤ 4000 → gBin vAdd (gUn vLen (gVar i)) (gC (.int 1)) ρ S = .ok (.d (.int ((z.cps.size : Nat) + 1 : Int))) S := fun i z ρ S h hz => by
    have e : gUn vLen (gVar i) ρ S = .ok (.d (.int ((z.cps.size : Nat) : Int))) S := by
      refine (ev_un (f := vLen) (ev_var h)).trans ?_
      show (if z.length ≤ sizeLine then Res.ok (Vl.d (.int z.length)) S else Res.stuck) = _
      rw [if_pos (by rw [hSL]; show z.cps.size ≤ _; omega)]
      rfl
    exact (ev_bin (f := vAdd) e ev_c).trans rfl
  refine ok_seq (ok_par (ok_cons (edraw D rfl (lenL _ _ rfl) (by omega) (by omega) (by omega) fun ri st1 r0 r1 D1 F1 => ok_cons (edraw D1 rfl (lenS 1 t _ _ rfl (by omega)) (by omega) (by omega) (by omega) fun spot st2 s0 s1 D2 F2 => ok_nil ⟨rfl, ?_⟩))))
  obtain ⟨r, hri⟩ : ∃ r : Nat, (r : Int) = ri := ⟨ri.toNat, by omega⟩
  refine seqQ_nx ?_
  show Ok (sSeq _ _ [some (.ref n), some (.d (.str t)), some (.d (.list (L.map .str))), some (.d (.int ri)), some (.d (.int spot)), none, none, none, none] st2) _
  have hrL : r < L.length := by omega
  obtain ⟨line, hline⟩ : ∃ line, L[r]? = some line := ⟨L[r], List.getElem?_eq_getElem hrL⟩
  have hA : Asc 67 line := hL line (List.mem_of_getElem? hline)
  have hAz := hA.sz
  have e5 : gBin vIx (gVar 2) (gVar 3) [some (.ref n), some (.d (.str t)), some (.d (.list (L.map .str))), some (.d (.int ri)), some (.d (.int spot)), none, none, none, none] st2 = .ok (.d (.str line)) st2 := by
    refine (ev_bin (f := vIx) (ev_var rfl) (ev_var (x := .d (.int ri)) rfl)).trans ?_
    show (match (some (L.map PyData.str)).bind (fun xs => L2.atI xs ri) with
      | some d => Res.ok (Vl.d d) st2
      | none => Res.stuck) = _
    rw [Option.bind_some, atI_nat hri (x := .str line) (by rw [List.getElem?_map, hline]; rfl)]
  refine ok_eq (ev_seq ((ev_set e5).trans rfl)) ?_
  refine ok_seq (ok_set (edraw D2 rfl (lenS 5 line _ _ rfl (by omega)) (by omega) (by omega) (by omega) fun cut st3 u0 u1 D3 F3 => ?_))
  refine seqQ_nx ?_
  show Ok (sSeq _ _ (E9 n t L ri spot line cut none none) st3) _
  have F03 : Fr n l st st3 := (F1.trans F2).trans F3
  -- the first three
  have v1 : ∀ S, SA 1600 (gVar 1) (E9 n t L ri spot line cut none none) S := fun S => sa_var rfl ht
  have a3 := three_ok (L := L) (ri := ri) (spot := spot) (line := line) (cut := cut) ht D3 hk
  obtain ⟨v, st4, ea, xs, rfl, hx, hxl, D4, F4⟩ := ok_at a3
  refine ok_seq (ok_setE ea ?_)
  have F04 : Fr n l st st4 := F03.trans F4
  have hlen4 : st4.length = st.length := F04.1
  have G0 : Gt n l (k + 1 + 1 + 1 + 1) st xs (st4 ++ [.lst xs]) := by
    have h := (Gt.start D4 F04).app (gs' := xs)
    rw [← hlen4, set_end] at h
    exact h
  rw [hlen4]
  generalize st4 ++ [Ob.lst xs] = st5 at G0
  refine seqQ_nx ?_
  show Ok (sSeq _ _ (E9 n t L ri spot line cut (some (.ref st.length)) none) st5) _
  -- the loop
  have hloop := near_loop (t := t) (spot := spot) (cut := cut) hri hL (by omega) hrL hA hx hxl G0
  refine ok_seq (ok_mono hloop fun f st6 ⟨o8, ys, e, hy, hyl, G6⟩ => ?_)
  subst e
  refine seqQ_nx ?_
  -- the lines backwards
  have hrev : SA 4000 (gMeth isStr mJoin (gC (.str "\n")) (gaCons (gUn vRev2 (gVar 2)) (gaNil))) (E9 n t L ri spot line cut (some (.ref st.length)) o8) st6 := by
    refine join_sum (c := L.reverse) (fun z hz => (hL z (List.mem_reverse.mp hz)).more (by decide)) ?_ (by rw [List.length_reverse]; omega) ?_
    · have := sumW L.reverse fun z hz => hL z (List.mem_reverse.mp hz)
      rw [List.length_reverse] at this
      omega
    · rw [List.map_reverse]
      exact (ev_un (x := .d (.list (L.map .str))) (st1 := st6) rfl).trans rfl
  refine ok_seq (put_text rfl G6 hy (by omega) hrev fun z st7 hz G7 => ?_)
  refine seqQ_nx ?_
  -- the last ten
  have v1' : SA 1600 (gVar 1) (E9 n t L ri spot line cut (some (.ref st.length)) o8) st7 := sa_var rfl ht
  have c : ∀ {z : Str}, (z.cps.toList.all fun c => decide (c < 128)) = true → z.cps.size ≤ 4000 → SA 4000 (gC (.str z)) (E9 n t L ri spot line cut (some (.ref st.length)) o8) st7 := fun h k => sa_c h k
  have hten : SAs 4000 10 (gaCons (gC (.str "")) (gaCons (gC (.str "prefix ")) (gaCons (gC (.str "prefix")) (gaCons (gC (.str "prefix e")) (gaCons (gBin vAdd (gVar 1) (gC (.str "\n"))) (gaCons (gBin vAdd (gC (.str "\n")) (gVar 1)) (gaCons (gC (.str "prefix  \n0 yes")) (gaCons (gC (.str "prefix e\n0 v 1")) (gaCons (gC (.str "prefix e\n0 v 0\n1 not 1")) (gaCons (gC (.str "prefix \n1 yes")) (gaNil)))))))))))
      (E9 n t L ri spot line cut (some (.ref st.length)) o8) st7 := by
    refine sas_cons (c (by decide +kernel) (by decide +kernel)) (sas_cons (c (by decide +kernel) (by decide +kernel)) (sas_cons (c (by decide +kernel) (by decide +kernel)) (sas_cons (c (by decide +kernel) (by decide +kernel)) ?_)))
    refine sas_cons (sa_cat v1' (sa_c (V := 1) (by decide +kernel) (by decide +kernel)) (by decide) (by decide)) (sas_cons (sa_cat (sa_c (V := 1) (by decide +kernel) (by decide +kernel)) v1' (by decide) (by decide)) ?_)
    exact sas_cons (c (by decide +kernel) (by decide +kernel)) (sas_cons (c (by decide +kernel) (by decide +kernel)) (sas_cons (c (by decide +kernel) (by decide +kernel)) (sas_cons (c (by decide +kernel) (by decide +kernel)) sas_nil)))
  obtain ⟨zs, ez, hzl, hza⟩ := hten
  have e8 := (ev_bin (f := vAdd) (ev_var (i := 7) (x := .ref st.length) rfl) (ev_lst ez (by rw [List.length_map, hzl, hSL]; decide))).trans (add_lists (xs := ys ++ [.str z]) (ys := zs.map .str) (lstAt_of G7.lst) rfl (fun d hd => by cases hd) (by rw [List.length_append, List.length_map, List.length_singleton]; omega))
  refine ok_eq (ev_seq ((ev_set e8).trans rfl)) ?_
  have hxs : Txs (ys ++ [.str z] ++ zs.map PyData.str) := fun x hm => by
    rcases List.mem_append.mp hm with hm | hm
    · exact hy.app hz x hm
    · obtain ⟨u, hu, rfl⟩ := List.mem_map.mp hm
      exact ⟨u, rfl, hza u hu⟩
  have hne : ys ++ [PyData.str z] ++ zs.map PyData.str ≠ [] := by simp
  have hzz : (ys ++ [PyData.str z] ++ zs.map PyData.str).length < 2 ^ 60 := by rw [List.length_append, List.length_append, List.length_map, List.length_singleton]; omega
  clear e8 ez
  generalize ys ++ [PyData.str z] ++ zs.map PyData.str = us at hxs hne hzz ⊢
  have hp : Ok (sRet (gCall m__law_pick (gaCons (gVar 0) (gaCons (gVar 7) gaNil))) (E9 n t L ri spot line cut (some (.d (.list us))) o8) st7) fun f st8 => ∃ u, f = .rt (.d (.str u)) ∧ Asc 4000 u ∧ Dk st8 n l (k + 1 + 1 + 1 + 1 + 1) ∧ Fr n l st7 st8 := by
    refine ok_ret (ok_call (ok_eq (ev_cons (x := .ref n) rfl (ev_cons (x := .d (.list us)) rfl ev_nil)) (ok_ok.mpr ?_)))
    show Ok (m__law_pick [.ref n, .d (.list us)] st7) _
    refine ok_mono (pick_ok G7.dk hne hzz (by omega)) fun v st8 ⟨x, hxm, e, D8, F8⟩ => ?_
    subst e
    obtain ⟨u, rfl, hu⟩ := hxs x hxm
    exact ⟨u, rfl, hu, D8, F8⟩
  refine ok_mono hp fun f st8 ⟨u, e, hu, D8, F8⟩ => ?_
  subst e
  obtain ⟨f1, f2⟩ := (G7.draw D8 F8).fin
  exact finQ_d ⟨u, rfl, hu, f2.more (by omega), f1⟩
end Zv.K76
set_option Elab.async false
set_option linter.all false
set_option maxRecDepth 100000
set_option maxHeartbeats 1000000
/-! U15: the pieces of a turn. -/
namespace Zv.K76
open PySem L2 Zv
abbrev EL (ns : List Int) (n : Nat) (o2 o3 o4 o5 o6 o7 o8 o9 o10 o11 : Option Vl) : Env := [some (.scr ns), some (.ref n), o2, o3, o4, o5, o6, o7, o8, o9, o10, o11]
def sameB1 : SG := sIf (bNot (bOf (gCall m__law_same (gaCons (gLst (gaCons (gCall m_circuit_text (gaCons (gVar 4) (gaNil))) (gaCons (gCallK 1 o1 m_circuit_text gaNil (gaCons (gVar 4) (gaNil))) (gaCons (gCall m_read_circuit (gaCons (gVar 6) (gaNil))) (gaCons (gCallK 1 o0 m_read_circuit gaNil (gaCons (gVar 6) (gaNil))) (gaNil)))))) (gaCons (gLst (gaCons (gVar 6) (gaCons (gVar 6) (gaCons (gVar 4) (gaCons (gVar 4) (gaNil)))))) (gaNil)))))) (sRet (gC (.bool false))) (sSkip)
def oddB : SG := sIf (bNot (bOf (gCall m__law_same (gaCons (gCall m__law_told (gaCons (gVar 10) (gaCons (gC (.bool false)) (gaNil)))) (gaCons (gLst (gaCons (gC (.str "line")) (gaCons (gC (.int 0)) (gaCons (gC (.bool true)) (gaNil))))) (gaNil)))))) (sRet (gC (.bool false))) (sSkip)
def goB : SG := sSeq (sSet 8 (gCall m__law_near_text (gaCons (gVar 1) (gaCons (gVar 6) (gaNil))))) (sSeq (sSet 9 (gCall m__law_read (gaCons (gVar 8) (gaNil)))) (sSeq (sSet 9 (gIf (bOf (gUn (vIsi "int") (gVar 9))) (gLst (gaCons (gC (.str "line")) (gaCons (gVar 9) (gaCons (gC (.bool true)) (gaNil))))) (gVar 9))) (sIf (bNot (bOf (gCall m__law_same (gaCons (gCall m__law_told (gaCons (gVar 8) (gaCons (gBin vEq (gBin vModP (gUn vInt (gVar 7)) (gC (.int 2))) (gC (.int 1))) (gaNil)))) (gaCons (gVar 9) (gaNil)))))) (sRet (gC (.bool false))) (sSkip))))
def lastB (Pt : Addr) : SG := sIf (bOr (bOf (gBin vNe (gLam Pt "law.<locals>.<lambda>" 2 b__law_heard (gCall m_circuit_text (gaCons (gVar 11) (gaNil)))) (gTup (gaCons (gC (.str "circuit")) (gaCons (gUn vRepr (gVar 11)) (gaCons (gC (.bool true)) (gaNil))))))) (bOf (gBin vNe (gUn vRepr (gVar 4)) (gVar 5)))) (sRet (gC (.bool false))) (sSkip)
def turnB (Pt : Addr) : SG := sSeq (sSet 3 (gCall m__law_pick (gaCons (gVar 1) (gaCons (gLst (gaCons (gC (.int 0)) (gaCons (gC (.int 1)) (gaCons (gC (.int 2)) (gaCons (gC (.int 3)) (gaCons (gC (.int 5)) (gaCons (gC (.int 12)) (gaCons (gC (.int 59)) (gaNil))))))))) (gaNil))))) (sSeq (sSet 4 (gCall m__law_drawn_circuit (gaCons (gVar 1) (gaCons (gVar 3) (gaCons (gCall m__law_pick (gaCons (gVar 1) (gaCons (gLst (gaCons (gC (.int 1)) (gaCons (gC (.int 4)) (gaCons (gC (.int 12)) (gaCons (gC (.int 40)) (gaNil)))))) (gaNil)))) (gaNil)))))) (sSeq (sPar [5, 6] (gaCons (gUn vRepr (gVar 4)) (gaCons (gCall m__law_text (gaCons (gVar 4) (gaNil))) (gaNil)))) (sSeq (sameB1) (sSeq (sFor (iRange1 (gaCons (gC (.int 10)) (gaNil))) (gtName 7) goB) (sSeq (sSet 10 (gCall m__law_pick (gaCons (gVar 1) (gaCons (gLst (gaCons (gC .none) (gaCons (gC (.int 0)) (gaCons (gTup (gaCons (gVar 6) (gaNil))) (gaCons (gLst (gaCons (gVar 6) (gaNil))) (gaCons (gC (.bool true)) (gaCons (gVar 4) (gaCons (gTup (gaNil)) (gaNil))))))))) (gaNil))))) (sSeq (oddB) (sSeq (sSet 11 (gCall m__law_no_circuit (gaCons (gVar 1) (gaCons (gVar 4) (gaNil))))) (lastB Pt))))))))
end Zv.K76
set_option Elab.async false
set_option linter.all false
set_option maxRecDepth 100000
set_option maxHeartbeats 1000000
/-! U16: the pieces of a turn, each. -/
namespace Zv.K76
open PySem L2 Zv
def cD (p : Str) (gs : List PyData) : PyData := .tuple [.str p, .tuple gs]
section
variable {ns : List Int} {n l m : Nat} {p : Str} {gs : List PyData} {st : Store} {o2 o3 o4 o5 o6 o7 o8 o9 o10 o11 : Option Vl}
theorem lst4 {ρ : Env} {a b c d : G} {x y z u : PyData} (ha : a ρ st = .ok (.d x) st) (hb : b ρ st = .ok (.d y) st) (hc : c ρ st = .ok (.d z) st) (hd : d ρ st = .ok (.d u) st) : gLst (gaCons a (gaCons b (gaCons c (gaCons d gaNil)))) ρ st = .ok (.own [x, y, z, u]) st :=
  ev_lst (ds := [x, y, z, u]) (ev_cons ha (ev_cons hb (ev_cons hc (ev_cons hd ev_nil)))) (by rw [sizeLine_eq]; simp)
theorem sameB1_ev (C : Circ m p gs) (hl : gs.length ≤ 50) : sameB1 (EL ns n o2 o3 (some (.d (cD p gs))) o5 (some (.d (.str (textC p gs)))) o7 o8 o9 o10 o11) st = .ok (.nx (EL ns n o2 o3 (some (.d (cD p gs))) o5 (some (.d (.str (textC p gs)))) o7 o8 o9 o10 o11)) st := by
  have ht := C.text_asc hl
  have er : m_read_circuit [.d (.str (textC p gs))] st = .ok (.d (cD p gs)) st := by
    have := e_read_circuit (st := st) (ht.more (by decide : 1600 ≤ 4000))
    rw [C.back] at this
    exact this
  have sm4 : Sm 4 40000 (.list [.str (textC p gs), .str (textC p gs), cD p gs, cD p gs]) := (Sms.cons ht.sm (Sms.cons ht.sm (Sms.cons C.sm (Sms.cons C.sm (Sms.nil (w := 0)))))).lst.more (by omega) (by omega)
  unfold sameB1
  refine (ev_sif (k := false) (ev_bnot (k := true) (ev_bOf (ev_call (ev_cons (st1 := st) (x := .own [.str (textC p gs), .str (textC p gs), cD p gs, cD p gs]) ?_ (ev_cons (st1 := st) (x := .own [.str (textC p gs), .str (textC p gs), cD p gs, cD p gs]) ?_ ev_nil)) (e_same sm4 (by decide) (by decide)))))).trans rfl
  · refine lst4 ?_ ?_ ?_ ?_
    · exact ev_call (ev_cons (x := .d (cD p gs)) rfl ev_nil) (e_circuit_text C)
    · exact ev_callK1 (zs := [.d (cD p gs)]) ev_nil (ev_cons (x := .d (cD p gs)) rfl ev_nil) rfl rfl (e_circuit_text C)
    · exact ev_call (ev_cons (x := .d (.str (textC p gs))) rfl ev_nil) er
    · exact ev_callK1 (zs := [.d (.str (textC p gs))]) ev_nil (ev_cons (x := .d (.str (textC p gs))) rfl ev_nil) rfl rfl er
  · exact lst4 rfl rfl rfl rfl
theorem rdG_lt {m : Int} : ∀ (ls : List Str) (acc : List PyData) (j k : Nat), rdG m j ls acc = .inl k → k ≤ j + ls.length + 1
  | [], acc, j, k, h => by cases h
  | l :: ls, acc, j, k, h => by
    have hrd : rdG m j (l :: ls) acc = if (!badW j (items l) && isGate m j (gateL l)) = true then rdG m (j + 1) ls (acc ++ [gateL l]) else .inl (j + 2) := rfl
    rw [hrd] at h
    by_cases c : (!badW j (items l) && isGate m j (gateL l)) = true
    · rw [if_pos c] at h
      have := rdG_lt ls _ _ _ h
      rw [List.length_cons]
      omega
    · rw [if_neg c] at h
      cases h
      rw [List.length_cons]
      omega
theorem rdT_facts {t : Str} (h : Asc 4000 t) : match rdT t with
    | .inl k => k ≤ 5000
    | .inr pg => Asc 4000 pg.1 ∧ (∀ g ∈ pg.2, Sm 1 100 g) ∧ pg.2.length ≤ 4001 := by
  have hA := lines_asc h
  have hlen := lines_len h
  unfold rdT
  generalize lines t = Ls at hA hlen
  match Ls, hA, hlen with
  | [], _, hlen => simp at hlen
  | l0 :: ls, hA, hlen =>
    simp only [List.length_cons] at hlen
    simp only
    by_cases hc : (cutS l0 none (some 7) == preS && wordIn "ea" (cutS l0 (some 7) none)) = true
    · rw [if_pos hc]
      cases hr : rdG (cutS l0 (some 7) none).length 0 ls [] with
      | inl k =>
        have := rdG_lt _ _ _ _ hr
        show k ≤ 5000
        omega
      | inr gs =>
        obtain ⟨h1, h2⟩ := rdG_sm ls [] gs 0 hr fun g hg => by cases hg
        simp only
        by_cases he : gs.isEmpty = true
        · rw [if_pos he]
          show 2 ≤ 5000
          decide
        · rw [if_neg he]
          exact ⟨(hA l0 List.mem_cons_self).cut, h1, show gs.length ≤ 4001 by simp only [List.length_nil] at h2; omega⟩
    · rw [if_neg hc]
      show 1 ≤ 5000
      decide
def dueD : Nat ⊕ (Str × List PyData) → PyData
  | .inl k => lineD k
  | .inr pg => .tuple [.str pg.1, .tuple pg.2]
theorem dueD_sm {t : Str} (h : Asc 4000 t) : Sm 3 900000 (dueD (rdT t)) := by
  have hf := rdT_facts h
  cases hr : rdT t with
  | inl k =>
    rw [hr] at hf
    have hf : k ≤ 5000 := hf
    exact (Sms.cons (Sm.str (k := 1) (w := 10) (by decide +kernel) (by decide +kernel)) (Sms.cons (Sm.ofInt (k := 1) (w := 40) (i := (k : Nat)) (by have : ((k : Nat) : Int).natAbs = k := rfl; omega) (Nat.le_refl _)) (Sms.cons (Sm.bool (w := 0)) (Sms.nil (w := 0))))).lst.more (by decide) (by decide)
  | inr pg =>
    rw [hr] at hf
    obtain ⟨h1, h2, h3⟩ := hf
    exact (circ_sm h1 h2).more (by decide) (by omega)
theorem told_ev {t : Str} (h : Asc 4000 t) {b : Bool} {a c : G} {ρ : Env} (ha : a ρ st = .ok (.d (.str t)) st) (hc : c ρ st = .ok (.d (.bool b)) st) : ∃ v, gCall m__law_told (gaCons a (gaCons c gaNil)) ρ st = .ok v st ∧ frz v = .d (dueD (rdT t)) := by
  have er := e_read_circuit (st := st) h
  cases hr : rdT t with
  | inl k =>
    rw [hr] at er
    exact ⟨_, ev_call (ev_cons ha (ev_cons hc ev_nil)) (e_told_bad er), rfl⟩
  | inr pg =>
    rw [hr] at er
    exact ⟨_, ev_call (ev_cons ha (ev_cons hc ev_nil)) (e_told_ok er), rfl⟩
theorem frz_cons {a : G} {r : GA} {ρ : Env} {v : Vl} {x : PyData} {xs : List Vl} (ha : a ρ st = .ok v st) (hv : frz v = .d x) (hr : r ρ st = .ok xs st) : gaCons a r ρ st = .ok (.d x :: xs) st := by
  have := ev_cons ha hr
  rw [hv] at this
  exact this
theorem go_ok {k gi : Int} {o5 o9 o8 : Option Vl} (C : Circ m p gs) (hl : gs.length ≤ 50) (D : Dk st n l k) (hk : k + 100 < 2 ^ 40) :
    Ok (goB (EL ns n o2 o3 o4 o5 (some (.d (.str (textC p gs)))) (some (.d (.int gi))) o8 o9 o10 o11) st) fun f st' => ∃ o8 o9, f = .nx (EL ns n o2 o3 o4 o5 (some (.d (.str (textC p gs)))) (some (.d (.int gi))) o8 o9 o10 o11) ∧ Dk st' n l (k + 5) ∧ Fr n l st st' := by
  unfold goB
  refine ok_seq (ok_set (ok_call (ok_eq (ev_cons (x := .ref n) rfl (ev_cons (x := .d (.str (textC p gs))) rfl ev_nil)) (ok_ok.mpr ?_))))
  show Ok (m__law_near_text [.ref n, .d (.str (textC p gs))] st) _
  refine ok_mono (near_text_ok C hl D hk) fun v st1 ⟨z, e, hz, D1, F1⟩ => ?_
  subst e
  refine seqQ_nx ?_
  generalize textC p gs = tx
  show Ok (sSeq _ _ (EL ns n o2 o3 o4 o5 (some (.d (.str tx))) (some (.d (.int gi))) (some (.d (.str z))) o9 o10 o11) st1) _
  refine ok_eq (ev_seq ((ev_set (ev_call (ev_cons (x := .d (.str z)) rfl ev_nil) (e_law_read hz))).trans rfl)) ?_
  show Ok (sSeq _ _ (EL ns n o2 o3 o4 o5 (some (.d (.str tx))) (some (.d (.int gi))) (some (.d (.str z))) (some (.d (tellD (rdT z)))) o10 o11) st1) _
  have ed : sSet 9 (gIf (bOf (gUn (vIsi "int") (gVar 9))) (gLst (gaCons (gC (.str "line")) (gaCons (gVar 9) (gaCons (gC (.bool true)) (gaNil))))) (gVar 9)) (EL ns n o2 o3 o4 o5 (some (.d (.str tx))) (some (.d (.int gi))) (some (.d (.str z))) (some (.d (tellD (rdT z)))) o10 o11) st1 =
      .ok (.nx (EL ns n o2 o3 o4 o5 (some (.d (.str tx))) (some (.d (.int gi))) (some (.d (.str z))) (some (.d (dueD (rdT z)))) o10 o11)) st1 := by
    cases rdT z with
    | inl j =>
      show sSet 9 _ (EL ns n o2 o3 o4 o5 (some (.d (.str tx))) (some (.d (.int gi))) (some (.d (.str z))) (some (.d (.int (j : Nat)))) o10 o11) st1 = .ok (.nx (EL ns n o2 o3 o4 o5 (some (.d (.str tx))) (some (.d (.int gi))) (some (.d (.str z))) (some (.d (.list [.str "line", .int (j : Nat), .bool true]))) o10 o11)) st1
      generalize ((j : Nat) : Int) = ji
      refine (ev_set (x := .own [.str "line", .int ji, .bool true]) (st1 := st1) ((ev_if (k := true) (ev_bOf ((ev_un (x := .d (.int ji)) (st1 := st1) rfl).trans (isi_int (st := st1) rfl)))).trans ((if_pos rfl).trans ?_))).trans rfl
      exact ev_lst (ds := [.str "line", .int ji, .bool true]) (ev_cons (x := .d (.str "line")) rfl (ev_cons (x := .d (.int ji)) rfl (ev_cons (x := .d (.bool true)) rfl ev_nil))) (by rw [sizeLine_eq]; simp)
    | inr pg =>
      show sSet 9 _ (EL ns n o2 o3 o4 o5 (some (.d (.str tx))) (some (.d (.int gi))) (some (.d (.str z))) (some (.d (.tuple [.str pg.1, .tuple pg.2]))) o10 o11) st1 = .ok (.nx (EL ns n o2 o3 o4 o5 (some (.d (.str tx))) (some (.d (.int gi))) (some (.d (.str z))) (some (.d (.tuple [.str pg.1, .tuple pg.2]))) o10 o11)) st1
      exact (ev_set (x := .d (.tuple [.str pg.1, .tuple pg.2])) (st1 := st1) ((ev_if (k := false) (ev_bOf ((ev_un (x := .d (.tuple [.str pg.1, .tuple pg.2])) (st1 := st1) rfl).trans (isi_int (st := st1) rfl)))).trans rfl)).trans rfl
  refine ok_eq (ev_seq ed) ?_
  have ei : gUn vInt (gVar 7) (EL ns n o2 o3 o4 o5 (some (.d (.str tx))) (some (.d (.int gi))) (some (.d (.str z))) (some (.d (dueD (rdT z)))) o10 o11) st1 = .ok (.d (.int gi)) st1 := (ev_un (f := vInt) (x := .d (.int gi)) (st1 := st1) rfl).trans rfl
  have em : gBin vModP (gUn vInt (gVar 7)) (gC (.int 2)) (EL ns n o2 o3 o4 o5 (some (.d (.str tx))) (some (.d (.int gi))) (some (.d (.str z))) (some (.d (dueD (rdT z)))) o10 o11) st1 = .ok (.d (.int (gi % 2))) st1 := (ev_bin (f := vModP) ei (ev_c (x := .int 2))).trans rfl
  have eb : gBin vEq (gBin vModP (gUn vInt (gVar 7)) (gC (.int 2))) (gC (.int 1)) (EL ns n o2 o3 o4 o5 (some (.d (.str tx))) (some (.d (.int gi))) (some (.d (.str z))) (some (.d (dueD (rdT z)))) o10 o11) st1 = .ok (.d (.bool (gi % 2 == 1))) st1 := (ev_bin (f := vEq) em (ev_c (x := .int 1))).trans rfl
  obtain ⟨v, e1, e2⟩ := told_ev (st := st1) (ρ := EL ns n o2 o3 o4 o5 (some (.d (.str tx))) (some (.d (.int gi))) (some (.d (.str z))) (some (.d (dueD (rdT z)))) o10 o11) (a := gVar 8) (c := gBin vEq (gBin vModP (gUn vInt (gVar 7)) (gC (.int 2))) (gC (.int 1))) (b := gi % 2 == 1) hz rfl eb
  have sm := dueD_sm hz
  have es := e_same (st := st1) sm (by decide) (by decide)
  generalize dueD (rdT z) = due at *
  refine ok_eq ((ev_sif (k := false) (ev_bnot (k := true) (ev_bOf (ev_call (frz_cons e1 e2 (ev_cons (x := .d due) rfl ev_nil)) es)))).trans rfl) ?_
  exact ⟨_, _, rfl, D1, F1⟩
theorem oddB_ev {x : PyData} (h : noDic x = true) (hs : isS x = false) : oddB (EL ns n o2 o3 o4 o5 o6 o7 o8 o9 (some (.d x)) o11) st = .ok (.nx (EL ns n o2 o3 o4 o5 o6 o7 o8 o9 (some (.d x)) o11)) st := by
  have e1 : gCall m__law_told (gaCons (gVar 10) (gaCons (gC (.bool false)) (gaNil))) (EL ns n o2 o3 o4 o5 o6 o7 o8 o9 (some (.d x)) o11) st = .ok (.own [.str "line", .int 0, .bool true]) st :=
    ev_call (ev_cons (x := .d x) rfl (ev_cons (x := .d (.bool false)) rfl ev_nil)) (e_told_bad (n := 0) (exc_read h hs))
  have e2 : gLst (gaCons (gC (.str "line")) (gaCons (gC (.int 0)) (gaCons (gC (.bool true)) (gaNil)))) (EL ns n o2 o3 o4 o5 o6 o7 o8 o9 (some (.d x)) o11) st = .ok (.own [.str "line", .int 0, .bool true]) st :=
    ev_lst (ds := [.str "line", .int 0, .bool true]) (ev_cons (x := .d (.str "line")) rfl (ev_cons (x := .d (.int 0)) rfl (ev_cons (x := .d (.bool true)) rfl ev_nil))) (by rw [sizeLine_eq]; simp)
  have sm : Sm 3 100 (.list [.str "line", .int 0, .bool true]) := (Sms.cons (Sm.str (k := 1) (w := 10) (by decide +kernel) (by decide +kernel)) (Sms.cons (Sm.ofInt (k := 1) (w := 40) (i := 0) (by decide) (Nat.le_refl _)) (Sms.cons (Sm.bool (w := 0)) (Sms.nil (w := 0))))).lst.more (by decide) (by decide)
  unfold oddB
  exact (ev_sif (k := false) (ev_bnot (k := true) (ev_bOf (ev_call (ev_cons e1 (ev_cons e2 ev_nil)) (e_same sm (by decide) (by decide)))))).trans rfl
theorem heardD_shaped {x : PyData} (hx : x.canLay0 = true) : SeqAt.shaped (heardD "circuit" x) = true := by
  have h1 := okS_lay (okS_shown x hx)
  have h3 := okS_lay (okS_of "circuit")
  unfold SeqAt.shaped heardD
  rw [Bool.and_eq_true]
  refine ⟨?_, decide_eq_true (by simp [PyData.depth, PyData.depthAll])⟩
  simp only [PyData.canLay0, PyData.canLayAll0, Bool.and_true] at h1 h3 ⊢
  rw [h1, h3]
  rfl
theorem heardD_eqv (x : PyData) : PyData.eqv (heardD "circuit" x) (heardD "circuit" x) = true := by
  unfold heardD
  simp only [PyData.eqv, PyData.eqvAll, beq_self_eq_true, Bool.and_self]
theorem lastB_ev {P : Addr} {c x : PyData} (T : Tabs P QL st) (hc : showOk c = true) (hx : showOk x = true) (lx : x.canLay0 = true) (F : Fit x) (hb : isCirc x = false) :
    lastB P (EL ns n o2 o3 (some (.d c)) (some (.d (.str c.shown))) o6 o7 o8 o9 o10 (some (.d x))) st = .ok (.nx (EL ns n o2 o3 (some (.d c)) (some (.d (.str c.shown))) o6 o7 o8 o9 o10 (some (.d x)))) st := by
  have l1 : gLam P QL 2 b__law_heard (gCall m_circuit_text (gaCons (gVar 11) (gaNil))) (EL ns n o2 o3 (some (.d c)) (some (.d (.str c.shown))) o6 o7 o8 o9 o10 (some (.d x))) st = .ok (.d (heardD "circuit" x)) st :=
    e_lam T (exc_call (ev_cons (x := .d x) rfl ev_nil) (circuit_text_bad F hb)) hx (.inl ⟨rfl, rfl⟩)
  unfold lastB
  refine (ev_sif (k := false) ?_).trans rfl
  refine (ev_bor (k := false) (ev_bOf ((ev_bin (f := vNe) (y := .d (heardD "circuit" x)) (st2 := st) l1 (ev_heardD rfl hx)).trans ?_))).trans ((if_neg Bool.false_ne_true).trans (ev_bOf ((ev_bin (f := vNe) (ev_repr (x := c) rfl hc) (ev_var (i := 5) rfl)).trans ne_self_str)))
  show (if (SeqAt.shaped (heardD "circuit" x) && SeqAt.shaped (heardD "circuit" x)) = true then Res.ok (Vl.d (.bool (!PyData.eqv (heardD "circuit" x) (heardD "circuit" x)))) st else Res.stuck) = _
  rw [heardD_shaped lx, heardD_eqv]
  rfl
end
end Zv.K76
set_option Elab.async false
set_option linter.all false
set_option maxRecDepth 100000
set_option maxHeartbeats 4000000
/-! U17: a turn; the law. -/
namespace Zv.K76
open PySem L2 Zv
theorem turn_ok {P : Addr} {ns : List Int} {n l : Nat} {k : Int} {o2 o3 o4 o5 o6 o7 o8 o9 o10 o11 : Option Vl} {st : Store} (D : Dk st n l k) (T : Tabs P QL st) (hk : k + 1000 < 2 ^ 40) :
    Ok (turnB P (EL ns n o2 o3 o4 o5 o6 o7 o8 o9 o10 o11) st) fun f st' => ∃ o2 o3 o4 o5 o6 o7 o8 o9 o10 o11, f = .nx (EL ns n o2 o3 o4 o5 o6 o7 o8 o9 o10 o11) ∧ Dk st' n l (k + 1000) ∧ Tabs P QL st' := by
  have hSL : (sizeLine : Nat) = 16777216 := sizeLine_eq
  unfold turnB
  refine ok_seq (ok_set (epick (ds := [.int 0, .int 1, .int 2, .int 3, .int 5, .int 12, .int 59]) D rfl rfl (by simp) (by simp) (by omega) fun x hx st1 D1 F1 => ?_))
  have T1 := T.fr D D1 F1
  obtain ⟨m, hm, mz, hmi, rfl⟩ : ∃ m : Nat, m ≤ 60 ∧ ∃ mz : Int, (m : Int) = mz ∧ x = .int mz := by
    simp only [List.mem_cons, List.not_mem_nil, or_false] at hx
    rcases hx with rfl | rfl | rfl | rfl | rfl | rfl | rfl
    · exact ⟨0, by decide, _, rfl, rfl⟩
    · exact ⟨1, by decide, _, rfl, rfl⟩
    · exact ⟨2, by decide, _, rfl, rfl⟩
    · exact ⟨3, by decide, _, rfl, rfl⟩
    · exact ⟨5, by decide, _, rfl, rfl⟩
    · exact ⟨12, by decide, _, rfl, rfl⟩
    · exact ⟨59, by decide, _, rfl, rfl⟩
  refine seqQ_nx ?_
  show Ok (sSeq _ _ (EL ns n o2 (some (.d (.int mz))) o4 o5 o6 o7 o8 o9 o10 o11) st1) _
  refine ok_seq (ok_set (ok_call (ok_cons ?_)))
  show Ok (Res.ok (Vl.ref n) st1) _
  refine ok_ok.mpr (ok_cons ?_)
  show Ok (Res.ok (Vl.d (.int mz)) st1) _
  refine ok_ok.mpr (ok_cons (epick (ds := [.int 1, .int 4, .int 12, .int 40]) D1 rfl rfl (by simp) (by simp) (by omega) fun x hx st2 D2 F2 => ok_nil ?_))
  have T2 := T1.fr D1 D2 F2
  obtain ⟨N, hN, Ni, hNi, rfl⟩ : ∃ N : Nat, (1 ≤ N ∧ N ≤ 50) ∧ ∃ Ni : Int, (N : Int) = Ni ∧ x = .int Ni := by
    simp only [List.mem_cons, List.not_mem_nil, or_false] at hx
    rcases hx with rfl | rfl | rfl | rfl
    · exact ⟨1, by decide, _, rfl, rfl⟩
    · exact ⟨4, by decide, _, rfl, rfl⟩
    · exact ⟨12, by decide, _, rfl, rfl⟩
    · exact ⟨40, by decide, _, rfl, rfl⟩
  refine ok_mono (drawn_circuit_ok hmi hNi D2 hm hN (by omega)) fun v st3 ⟨p, gs, e, C, D3, F3, hl⟩ => ?_
  subst e
  have T3 := T2.fr D2 D3 F3
  refine seqQ_nx ?_
  show Ok (sSeq _ _ (EL ns n o2 (some (.d (.int mz))) (some (.d (cD p gs))) o5 o6 o7 o8 o9 o10 o11) st3) _
  have hC : showOk (cD p gs) = true := C.sm.show (by decide) (by decide)
  have e1 : sPar [5, 6] (gaCons (gUn vRepr (gVar 4)) (gaCons (gCall m__law_text (gaCons (gVar 4) (gaNil))) (gaNil))) (EL ns n o2 (some (.d (.int mz))) (some (.d (cD p gs))) o5 o6 o7 o8 o9 o10 o11) st3 =
      .ok (.nx (EL ns n o2 (some (.d (.int mz))) (some (.d (cD p gs))) (some (.d (.str (cD p gs).shown))) (some (.d (.str (textC p gs)))) o7 o8 o9 o10 o11)) st3 :=
    (ev_par2 (ev_repr (x := cD p gs) rfl hC) (ev_call (ev_cons (x := .d (cD p gs)) rfl ev_nil) (e_law_text C))).trans rfl
  refine ok_eq (ev_seq e1) ?_
  refine ok_eq (ev_seq (sameB1_ev C hl)) ?_
  generalize hsh : (cD p gs).shown = sh
  have hgo : Ok (sFor (iRange1 (gaCons (gC (.int 10)) (gaNil))) (gtName 7) goB (EL ns n o2 (some (.d (.int mz))) (some (.d (cD p gs))) (some (.d (.str sh))) (some (.d (.str (textC p gs)))) o7 o8 o9 o10 o11) st3) fun f st' => ∃ o7 o8 o9,
      f = .nx (EL ns n o2 (some (.d (.int mz))) (some (.d (cD p gs))) (some (.d (.str sh))) (some (.d (.str (textC p gs)))) o7 o8 o9 o10 o11) ∧ Dk st' n l (k + 1 + 1 + 500 + 50) ∧ Fr n l st3 st' := by
    refine ok_sfor ?_
    rw [ev_range1 (i := 10) rfl rfl]
    refine ok_ok.mpr (ok_for (P := fun ds ρ st' => (∀ d ∈ ds, ∃ i : Int, d = .int i) ∧ ds.length ≤ 10 ∧ Dk st' n l (k + 1 + 1 + 500 + 5 * (10 - ds.length)) ∧ Fr n l st3 st' ∧ ∃ o7 o8 o9, ρ = EL ns n o2 (some (.d (.int mz))) (some (.d (cD p gs))) (some (.d (.str sh))) (some (.d (.str (textC p gs)))) o7 o8 o9 o10 o11) ?_ ?_ _ _ _
      ⟨fun d hd => by unfold rgD at hd; obtain ⟨i, _, rfl⟩ := List.mem_map.mp hd; exact ⟨_, rfl⟩, by decide, D3.more (by rw [rgD_len]; omega), Fr.refl _ _ _, _, _, _, rfl⟩)
    · rintro ρ st' ⟨_, _, D', F, o7, o8, o9, rfl⟩
      exact ⟨o7, o8, o9, rfl, D'.more (by simp), F⟩
    · rintro d ds ρ st' ⟨hi, h4, D', F, o7, o8, o9, rfl⟩
      rw [List.length_cons] at h4 D'
      obtain ⟨gi, rfl⟩ := hi d List.mem_cons_self
      refine ⟨EL ns n o2 (some (.d (.int mz))) (some (.d (cD p gs))) (some (.d (.str sh))) (some (.d (.str (textC p gs)))) (some (.d (.int gi))) o8 o9 o10 o11, rfl, ?_⟩
      refine ok_mono (go_ok C hl D' (by omega)) fun f st2 ⟨o8, o9, e, D2, F2⟩ => ?_
      subst e
      exact ⟨fun d hd => hi d (List.mem_cons_of_mem _ hd), by omega, D2.more (by omega), F.trans F2, _, _, _, rfl⟩
  refine ok_seq (ok_mono hgo fun f st5 ⟨o7, o8, o9, e, D5, F5⟩ => ?_)
  subst e
  have T5 := T3.fr D3 D5 F5
  refine seqQ_nx ?_
  generalize textC p gs = tx
  refine ok_seq (ok_set (epick (ds := [.none, .int 0, .tuple [.str tx], .list [.str tx], .bool true, cD p gs, .tuple []]) D5 rfl rfl (by simp) (by simp) (by omega) fun x hx st6 D6 F6 => ?_))
  have T6 := T5.fr D5 D6 F6
  refine seqQ_nx ?_
  show Ok (sSeq _ _ (EL ns n o2 (some (.d (.int mz))) (some (.d (cD p gs))) (some (.d (.str sh))) (some (.d (.str tx))) o7 o8 o9 (some (.d x)) o11) st6) _
  have hxx : noDic x = true ∧ isS x = false := by
    simp only [List.mem_cons, List.not_mem_nil, or_false] at hx
    rcases hx with rfl | rfl | rfl | rfl | rfl | rfl | rfl <;> exact ⟨rfl, rfl⟩
  refine ok_eq (ev_seq (oddB_ev hxx.1 hxx.2)) ?_
  refine ok_seq (ok_set (ok_call (ok_eq (ev_cons (x := .ref n) rfl (ev_cons (x := .d (cD p gs)) rfl ev_nil)) (ok_ok.mpr ?_))))
  show Ok (m__law_no_circuit [.ref n, .d (.tuple [.str p, .tuple gs])] st6) _
  refine ok_mono (no_circuit_ok D6 C.pl C.sm (by decide) (by omega)) fun v st7 ⟨bad, e, hb, hbc, D7, F7⟩ => ?_
  subst e
  have T7 := T6.fr D6 D7 F7
  have sb := hb.show (by decide) (by decide)
  have fb := Sm.fit hb (by decide) (by decide)
  refine seqQ_nx ?_
  show Ok (lastB P (EL ns n o2 (some (.d (.int mz))) (some (.d (cD p gs))) (some (.d (.str sh))) (some (.d (.str tx))) o7 o8 o9 (some (.d x)) (some (.d bad))) st7) _
  have hlast := lastB_ev (ns := ns) (n := n) (o2 := o2) (o3 := some (.d (.int mz))) (o6 := some (.d (.str tx))) (o7 := o7) (o8 := o8) (o9 := o9) (o10 := some (.d x)) (c := cD p gs) T7 hC sb hb.lf.1 fb hbc
  rw [hsh] at hlast
  refine ok_eq hlast ?_
  exact ⟨_, _, _, _, _, _, _, _, _, _, rfl, D7.more (by omega), T7⟩
theorem law_math (Pt c : Addr) (ns : List Int) (hl : ns.length ≤ 63) (hb : ∀ z ∈ ns, Builtin.Int.intBits z ≤ 1048576) : ∃ st, fnM true N_law.length (b_law Pt) [.scr ns] (tab0 [(c, Pt)] "law.<locals>.<lambda>") = .ok (.d (.bool true)) st := by
  have g : Ok (fnM true N_law.length (b_law Pt) [.scr ns] (tab0 [(c, Pt)] "law.<locals>.<lambda>")) fun v _ => v = .d (.bool true) := by
    refine ok_fn ?_
    show Ok (b_law Pt [some (.scr ns), none, none, none, none, none, none, none, none, none, none, none] _) _
    unfold b_law
    refine ok_seq (ok_set (ok_call ?_))
    have T0 : Tabs Pt QL (tab0 [(c, Pt)] QL) := by
      refine ⟨fun j P' q' e => ?_, 0, rfl⟩
      cases j with
      | zero => cases e; exact ⟨rfl, rfl⟩
      | succ j => cases e
    generalize tab0 [(c, Pt)] QL = st0 at T0
    show Ok (Res.ok [Vl.scr ns, Vl.d (.int 20130076)] st0) _
    refine ok_ok.mpr (ok_mono (deck_ok (by decide) (by decide)) fun v st1 ⟨e, h1, D, h2⟩ => ?_)
    subst e
    have T1 : Tabs Pt QL st1 := by
      obtain ⟨t1, j, t2⟩ := T0
      have hj := (List.getElem?_eq_some_iff.mp t2).1
      refine ⟨fun i P' q' e => ?_, j, by rw [h2 j hj]; exact t2⟩
      by_cases hi : i < st0.length
      · rw [h2 i hi] at e; exact t1 i P' q' e
      · have hi2 := (List.getElem?_eq_some_iff.mp e).1
        have : i = st0.length ∨ i = st0.length + 1 := by omega
        rcases this with rfl | rfl
        · exact absurd e (D.notTab).2
        · exact absurd e (D.notTab).1
    generalize st0.length + 1 = n at D
    generalize st0.length = l at D
    refine seqQ_nx (ok_seq (ok_sfor ?_))
    show Ok (iRange1 _ (EL ns n none none none none none none none none none none) st1) _
    rw [ev_range1 (i := 4) rfl rfl]
    refine ok_ok.mpr (ok_for (P := fun ds ρ st' => ds.length ≤ 4 ∧ Dk st' n l (1000 * (4 - ds.length)) ∧ Tabs Pt QL st' ∧ ∃ o2 o3 o4 o5 o6 o7 o8 o9 o10 o11, ρ = EL ns n o2 o3 o4 o5 o6 o7 o8 o9 o10 o11) ?_ ?_ _ _ _ ⟨by decide, D.more (by rw [rgD_len]; omega), T1, _, _, _, _, _, _, _, _, _, _, rfl⟩)
    · rintro ρ st' ⟨_, D', T', _⟩
      exact seqQ_nx (ok_ret (ok_const rfl))
    · rintro d ds ρ st' ⟨h4, D', T', o2, o3, o4, o5, o6, o7, o8, o9, o10, o11, rfl⟩
      rw [List.length_cons] at h4 D'
      refine ⟨EL ns n (some (.d d)) o3 o4 o5 o6 o7 o8 o9 o10 o11, rfl, ok_mono (turn_ok D' T' (by omega)) fun f st2 h => ?_⟩
      obtain ⟨o2, o3, o4, o5, o6, o7, o8, o9, o10, o11, rfl, D2, T2⟩ := h
      exact ⟨by omega, D2.more (by omega), T2, _, _, _, _, _, _, _, _, _, _, rfl⟩
  obtain ⟨v, st, e, rfl⟩ := ok_at g
  exact ⟨st, e⟩
end Zv.K76
set_option Elab.async false
set_option linter.all false
set_option maxRecDepth 100000
set_option maxHeartbeats 4000000
namespace Zv.K76
open PySem PySem.Spec PyProof.Rows L2 Zv
theorem bd_is_integer : ∀ (kV doc pm : Value) (an : Option Addr) (cdv ct : Value) (us : List Value), us.length = (["thing"] : List Str).length → bindArgs (PySem.W.fnOf "is_integer" "is_integer" (defArgs (top 1)) (defBody (top 1)) (defScope (top 1)) .none kV doc pm an cdv ct) ⟨us, []⟩ = pure ((["thing"] : List Str).zip us) :=
  fun _ _ _ _ _ _ us hl => match us, hl with | [_], _ => rfl
theorem bd_is_from : ∀ (kV doc pm : Value) (an : Option Addr) (cdv ct : Value) (us : List Value), us.length = (["thing", "least"] : List Str).length → bindArgs (PySem.W.fnOf "is_from" "is_from" (defArgs (top 2)) (defBody (top 2)) (defScope (top 2)) .none kV doc pm an cdv ct) ⟨us, []⟩ = pure ((["thing", "least"] : List Str).zip us) :=
  fun _ _ _ _ _ _ us hl => match us, hl with | [_, _], _ => rfl
theorem bd_is_tuple : ∀ (kV doc pm : Value) (an : Option Addr) (cdv ct : Value) (us : List Value), us.length = (["thing", "many"] : List Str).length → bindArgs (PySem.W.fnOf "is_tuple" "is_tuple" (defArgs (top 3)) (defBody (top 3)) (defScope (top 3)) .none kV doc pm an cdv ct) ⟨us, []⟩ = pure ((["thing", "many"] : List Str).zip us) :=
  fun _ _ _ _ _ _ us hl => match us, hl with | [_, _], _ => rfl
theorem bd_is_word_of : ∀ (kV doc pm : Value) (an : Option Addr) (cdv ct : Value) (us : List Value), us.length = (["thing", "signs"] : List Str).length → bindArgs (PySem.W.fnOf "is_word_of" "is_word_of" (defArgs (top 4)) (defBody (top 4)) (defScope (top 4)) .none kV doc pm an cdv ct) ⟨us, []⟩ = pure ((["thing", "signs"] : List Str).zip us) :=
  fun _ _ _ _ _ _ us hl => match us, hl with | [_, _], _ => rfl
theorem bd_is_gate : ∀ (kV doc pm : Value) (an : Option Addr) (cdv ct : Value) (us : List Value), us.length = (["thing", "many", "number"] : List Str).length → bindArgs (PySem.W.fnOf "is_gate" "is_gate" (defArgs (top 7)) (defBody (top 7)) (defScope (top 7)) .none kV doc pm an cdv ct) ⟨us, []⟩ = pure ((["thing", "many", "number"] : List Str).zip us) :=
  fun _ _ _ _ _ _ us hl => match us, hl with | [_, _, _], _ => rfl
theorem bd_is_circuit_value : ∀ (kV doc pm : Value) (an : Option Addr) (cdv ct : Value) (us : List Value), us.length = (["thing"] : List Str).length → bindArgs (PySem.W.fnOf "is_circuit_value" "is_circuit_value" (defArgs (top 8)) (defBody (top 8)) (defScope (top 8)) .none kV doc pm an cdv ct) ⟨us, []⟩ = pure ((["thing"] : List Str).zip us) :=
  fun _ _ _ _ _ _ us hl => match us, hl with | [_], _ => rfl
theorem bd_need_circuit : ∀ (kV doc pm : Value) (an : Option Addr) (cdv ct : Value) (us : List Value), us.length = (["circuit"] : List Str).length → bindArgs (PySem.W.fnOf "need_circuit" "need_circuit" (defArgs (top 15)) (defBody (top 15)) (defScope (top 15)) .none kV doc pm an cdv ct) ⟨us, []⟩ = pure ((["circuit"] : List Str).zip us) :=
  fun _ _ _ _ _ _ us hl => match us, hl with | [_], _ => rfl
theorem bd_gate_line : ∀ (kV doc pm : Value) (an : Option Addr) (cdv ct : Value) (us : List Value), us.length = (["number", "gate"] : List Str).length → bindArgs (PySem.W.fnOf "gate_line" "gate_line" (defArgs (top 18)) (defBody (top 18)) (defScope (top 18)) .none kV doc pm an cdv ct) ⟨us, []⟩ = pure ((["number", "gate"] : List Str).zip us) :=
  fun _ _ _ _ _ _ us hl => match us, hl with | [_, _], _ => rfl
theorem bd_number_read : ∀ (kV doc pm : Value) (an : Option Addr) (cdv ct : Value) (us : List Value), us.length = (["word"] : List Str).length → bindArgs (PySem.W.fnOf "number_read" "number_read" (defArgs (top 19)) (defBody (top 19)) (defScope (top 19)) .none kV doc pm an cdv ct) ⟨us, []⟩ = pure ((["word"] : List Str).zip us) :=
  fun _ _ _ _ _ _ us hl => match us, hl with | [_], _ => rfl
theorem bd_gate_read : ∀ (kV doc pm : Value) (an : Option Addr) (cdv ct : Value) (us : List Value), us.length = (["number", "line"] : List Str).length → bindArgs (PySem.W.fnOf "gate_read" "gate_read" (defArgs (top 20)) (defBody (top 20)) (defScope (top 20)) .none kV doc pm an cdv ct) ⟨us, []⟩ = pure ((["number", "line"] : List Str).zip us) :=
  fun _ _ _ _ _ _ us hl => match us, hl with | [_, _], _ => rfl
theorem bd_circuit_text : ∀ (kV doc pm : Value) (an : Option Addr) (cdv ct : Value) (us : List Value), us.length = (["circuit"] : List Str).length → bindArgs (PySem.W.fnOf "circuit_text" "circuit_text" (defArgs (top 21)) (defBody (top 21)) (defScope (top 21)) .none kV doc pm an cdv ct) ⟨us, []⟩ = pure ((["circuit"] : List Str).zip us) :=
  fun _ _ _ _ _ _ us hl => match us, hl with | [_], _ => rfl
theorem bd_lines_to_read : ∀ (kV doc pm : Value) (an : Option Addr) (cdv ct : Value) (us : List Value), us.length = (["text"] : List Str).length → bindArgs (PySem.W.fnOf "lines_to_read" "lines_to_read" (defArgs (top 22)) (defBody (top 22)) (defScope (top 22)) .none kV doc pm an cdv ct) ⟨us, []⟩ = pure ((["text"] : List Str).zip us) :=
  fun _ _ _ _ _ _ us hl => match us, hl with | [_], _ => rfl
theorem bd_read_circuit : ∀ (kV doc pm : Value) (an : Option Addr) (cdv ct : Value) (us : List Value), us.length = (["text"] : List Str).length → bindArgs (PySem.W.fnOf "read_circuit" "read_circuit" (defArgs (top 23)) (defBody (top 23)) (defScope (top 23)) .none kV doc pm an cdv ct) ⟨us, []⟩ = pure ((["text"] : List Str).zip us) :=
  fun _ _ _ _ _ _ us hl => match us, hl with | [_], _ => rfl
theorem bd__law_deck : ∀ (kV doc pm : Value) (an : Option Addr) (cdv ct : Value) (us : List Value), us.length = (["script", "mixed"] : List Str).length → bindArgs (PySem.W.fnOf "_law_deck" "_law_deck" (defArgs (top 25)) (defBody (top 25)) (defScope (top 25)) .none kV doc pm an cdv ct) ⟨us, []⟩ = pure ((["script", "mixed"] : List Str).zip us) :=
  fun _ _ _ _ _ _ us hl => match us, hl with | [_, _], _ => rfl
theorem bd__law_draw : ∀ (kV doc pm : Value) (an : Option Addr) (cdv ct : Value) (us : List Value), us.length = (["deck", "many"] : List Str).length → bindArgs (PySem.W.fnOf "_law_draw" "_law_draw" (defArgs (top 26)) (defBody (top 26)) (defScope (top 26)) .none kV doc pm an cdv ct) ⟨us, []⟩ = pure ((["deck", "many"] : List Str).zip us) :=
  fun _ _ _ _ _ _ us hl => match us, hl with | [_, _], _ => rfl
theorem bd__law_pick : ∀ (kV doc pm : Value) (an : Option Addr) (cdv ct : Value) (us : List Value), us.length = (["deck", "some"] : List Str).length → bindArgs (PySem.W.fnOf "_law_pick" "_law_pick" (defArgs (top 27)) (defBody (top 27)) (defScope (top 27)) .none kV doc pm an cdv ct) ⟨us, []⟩ = pure ((["deck", "some"] : List Str).zip us) :=
  fun _ _ _ _ _ _ us hl => match us, hl with | [_, _], _ => rfl
theorem bd__law_same : ∀ (kV doc pm : Value) (an : Option Addr) (cdv ct : Value) (us : List Value), us.length = (["told", "due"] : List Str).length → bindArgs (PySem.W.fnOf "_law_same" "_law_same" (defArgs (top 28)) (defBody (top 28)) (defScope (top 28)) .none kV doc pm an cdv ct) ⟨us, []⟩ = pure ((["told", "due"] : List Str).zip us) :=
  fun _ _ _ _ _ _ us hl => match us, hl with | [_, _], _ => rfl
theorem bd__law_near_number : ∀ (kV doc pm : Value) (an : Option Addr) (cdv ct : Value) (us : List Value), us.length = (["deck", "g"] : List Str).length → bindArgs (PySem.W.fnOf "_law_near_number" "_law_near_number" (defArgs (top 30)) (defBody (top 30)) (defScope (top 30)) .none kV doc pm an cdv ct) ⟨us, []⟩ = pure ((["deck", "g"] : List Str).zip us) :=
  fun _ _ _ _ _ _ us hl => match us, hl with | [_, _], _ => rfl
theorem bd__law_drawn_circuit : ∀ (kV doc pm : Value) (an : Option Addr) (cdv ct : Value) (us : List Value), us.length = (["deck", "m", "many"] : List Str).length → bindArgs (PySem.W.fnOf "_law_drawn_circuit" "_law_drawn_circuit" (defArgs (top 29)) (defBody (top 29)) (defScope (top 29)) .none kV doc pm an cdv ct) ⟨us, []⟩ = pure ((["deck", "m", "many"] : List Str).zip us) :=
  fun _ _ _ _ _ _ us hl => match us, hl with | [_, _, _], _ => rfl
theorem bd__law_is_whole : ∀ (kV doc pm : Value) (an : Option Addr) (cdv ct : Value) (us : List Value), us.length = (["thing"] : List Str).length → bindArgs (PySem.W.fnOf "_law_is_whole" "_law_is_whole" (defArgs (top 31)) (defBody (top 31)) (defScope (top 31)) .none kV doc pm an cdv ct) ⟨us, []⟩ = pure ((["thing"] : List Str).zip us) :=
  fun _ _ _ _ _ _ us hl => match us, hl with | [_], _ => rfl
theorem bd__law_is_gate : ∀ (kV doc pm : Value) (an : Option Addr) (cdv ct : Value) (us : List Value), us.length = (["m", "g", "thing"] : List Str).length → bindArgs (PySem.W.fnOf "_law_is_gate" "_law_is_gate" (defArgs (top 32)) (defBody (top 32)) (defScope (top 32)) .none kV doc pm an cdv ct) ⟨us, []⟩ = pure ((["m", "g", "thing"] : List Str).zip us) :=
  fun _ _ _ _ _ _ us hl => match us, hl with | [_, _, _], _ => rfl
theorem bd__law_is_circuit : ∀ (kV doc pm : Value) (an : Option Addr) (cdv ct : Value) (us : List Value), us.length = (["thing"] : List Str).length → bindArgs (PySem.W.fnOf "_law_is_circuit" "_law_is_circuit" (defArgs (top 33)) (defBody (top 33)) (defScope (top 33)) .none kV doc pm an cdv ct) ⟨us, []⟩ = pure ((["thing"] : List Str).zip us) :=
  fun _ _ _ _ _ _ us hl => match us, hl with | [_], _ => rfl
theorem bd__law_bent : ∀ (kV doc pm : Value) (an : Option Addr) (cdv ct : Value) (us : List Value), us.length = (["deck", "thing"] : List Str).length → bindArgs (PySem.W.fnOf "_law_bent" "_law_bent" (defArgs (top 34)) (defBody (top 34)) (defScope (top 34)) .none kV doc pm an cdv ct) ⟨us, []⟩ = pure ((["deck", "thing"] : List Str).zip us) :=
  fun _ _ _ _ _ _ us hl => match us, hl with | [_, _], _ => rfl
theorem bd__law_no_circuit : ∀ (kV doc pm : Value) (an : Option Addr) (cdv ct : Value) (us : List Value), us.length = (["deck", "circuit"] : List Str).length → bindArgs (PySem.W.fnOf "_law_no_circuit" "_law_no_circuit" (defArgs (top 35)) (defBody (top 35)) (defScope (top 35)) .none kV doc pm an cdv ct) ⟨us, []⟩ = pure ((["deck", "circuit"] : List Str).zip us) :=
  fun _ _ _ _ _ _ us hl => match us, hl with | [_, _], _ => rfl
theorem bd__law_heard : ∀ (kV doc pm : Value) (an : Option Addr) (cdv ct : Value) (us : List Value), us.length = (["call"] : List Str).length → bindArgs (PySem.W.fnOf "_law_heard" "_law_heard" (defArgs (top 36)) (defBody (top 36)) (defScope (top 36)) .none kV doc pm an cdv ct) ⟨us, []⟩ = pure ((["call"] : List Str).zip us) :=
  fun _ _ _ _ _ _ us hl => match us, hl with | [_], _ => rfl
theorem bd__law_text : ∀ (kV doc pm : Value) (an : Option Addr) (cdv ct : Value) (us : List Value), us.length = (["circuit"] : List Str).length → bindArgs (PySem.W.fnOf "_law_text" "_law_text" (defArgs (top 37)) (defBody (top 37)) (defScope (top 37)) .none kV doc pm an cdv ct) ⟨us, []⟩ = pure ((["circuit"] : List Str).zip us) :=
  fun _ _ _ _ _ _ us hl => match us, hl with | [_], _ => rfl
theorem bd__law_number : ∀ (kV doc pm : Value) (an : Option Addr) (cdv ct : Value) (us : List Value), us.length = (["text"] : List Str).length → bindArgs (PySem.W.fnOf "_law_number" "_law_number" (defArgs (top 38)) (defBody (top 38)) (defScope (top 38)) .none kV doc pm an cdv ct) ⟨us, []⟩ = pure ((["text"] : List Str).zip us) :=
  fun _ _ _ _ _ _ us hl => match us, hl with | [_], _ => rfl
theorem bd__law_read : ∀ (kV doc pm : Value) (an : Option Addr) (cdv ct : Value) (us : List Value), us.length = (["text"] : List Str).length → bindArgs (PySem.W.fnOf "_law_read" "_law_read" (defArgs (top 39)) (defBody (top 39)) (defScope (top 39)) .none kV doc pm an cdv ct) ⟨us, []⟩ = pure ((["text"] : List Str).zip us) :=
  fun _ _ _ _ _ _ us hl => match us, hl with | [_], _ => rfl
theorem bd__law_near_text : ∀ (kV doc pm : Value) (an : Option Addr) (cdv ct : Value) (us : List Value), us.length = (["deck", "text"] : List Str).length → bindArgs (PySem.W.fnOf "_law_near_text" "_law_near_text" (defArgs (top 40)) (defBody (top 40)) (defScope (top 40)) .none kV doc pm an cdv ct) ⟨us, []⟩ = pure ((["deck", "text"] : List Str).zip us) :=
  fun _ _ _ _ _ _ us hl => match us, hl with | [_, _], _ => rfl
theorem bd__law_told : ∀ (kV doc pm : Value) (an : Option Addr) (cdv ct : Value) (us : List Value), us.length = (["text", "is_named"] : List Str).length → bindArgs (PySem.W.fnOf "_law_told" "_law_told" (defArgs (top 41)) (defBody (top 41)) (defScope (top 41)) .none kV doc pm an cdv ct) ⟨us, []⟩ = pure ((["text", "is_named"] : List Str).zip us) :=
  fun _ _ _ _ _ _ us hl => match us, hl with | [_, _], _ => rfl
theorem all_mk {P : Program} {w : World} {K : PySem.W.Frag} {h : Heap} {mg : Str → Option Value} {fa c Pt f0 : Addr} (X : K.In h) (G : h.Ns mainGlobals mg) (hfa : mg "law" = some (.ref fa)) (hPt : h.get? Pt = some tblO) (nPt : K.lookup Pt = none)
    (b_all : PySem.W.nsIn K mainGlobals "all" = some none)
    (b_bool : PySem.W.nsIn K mainGlobals "bool" = some none)
    (b_enumerate : PySem.W.nsIn K mainGlobals "enumerate" = some none)
    (b_int : PySem.W.nsIn K mainGlobals "int" = some none)
    (b_isinstance : PySem.W.nsIn K mainGlobals "isinstance" = some none)
    (b_len : PySem.W.nsIn K mainGlobals "len" = some none)
    (b_list : PySem.W.nsIn K mainGlobals "list" = some none)
    (b_max : PySem.W.nsIn K mainGlobals "max" = some none)
    (b_range : PySem.W.nsIn K mainGlobals "range" = some none)
    (b_repr : PySem.W.nsIn K mainGlobals "repr" = some none)
    (b_str : PySem.W.nsIn K mainGlobals "str" = some none)
    (b_tuple : PySem.W.nsIn K mainGlobals "tuple" = some none)
    (b_zip : PySem.W.nsIn K mainGlobals "zip" = some none)
    (c_JOINING : CoT K mg "JOINING" l_JOINING)
    (c_PREFIX : CoV K mg "PREFIX" d_PREFIX)
    {C_BadFilling f_BadFilling Q_BadFilling : Addr} (y_BadFilling : ClsF K "BadFilling" "BadFilling.__init__" "PlayError" C_BadFilling f_BadFilling Q_BadFilling)
    {C_BadCircuit f_BadCircuit Q_BadCircuit : Addr} (y_BadCircuit : ClsF K "BadCircuit" "BadCircuit.__init__" "PlayError" C_BadCircuit f_BadCircuit Q_BadCircuit)
    {C_BadText f_BadText Q_BadText : Addr} (y_BadText : ClsA K "BadText" "BadText.__init__" "PlayError" C_BadText f_BadText Q_BadText)
    (hs : PySem.W.subIn K (.ref C_BadFilling) (.ref C_BadCircuit) = some false)
    (T_is_integer : Tx K mg "is_integer" (top 1) ["thing"])
    (T_is_from : Tx K mg "is_from" (top 2) ["thing", "least"])
    (T_is_tuple : Tx K mg "is_tuple" (top 3) ["thing", "many"])
    (T_is_word_of : Tx K mg "is_word_of" (top 4) ["thing", "signs"])
    (T_is_gate : Tx K mg "is_gate" (top 7) ["thing", "many", "number"])
    (T_is_circuit_value : Tx K mg "is_circuit_value" (top 8) ["thing"])
    (T_need_circuit : Tx K mg "need_circuit" (top 15) ["circuit"])
    (T_gate_line : Tx K mg "gate_line" (top 18) ["number", "gate"])
    (T_number_read : Tx K mg "number_read" (top 19) ["word"])
    (T_gate_read : Tx K mg "gate_read" (top 20) ["number", "line"])
    (T_circuit_text : Tx K mg "circuit_text" (top 21) ["circuit"])
    (T_lines_to_read : Tx K mg "lines_to_read" (top 22) ["text"])
    (T_read_circuit : Tx K mg "read_circuit" (top 23) ["text"])
    (T__law_deck : Tx K mg "_law_deck" (top 25) ["script", "mixed"])
    (T__law_draw : Tx K mg "_law_draw" (top 26) ["deck", "many"])
    (T__law_pick : Tx K mg "_law_pick" (top 27) ["deck", "some"])
    (T__law_same : Tx K mg "_law_same" (top 28) ["told", "due"])
    (T__law_near_number : Tx K mg "_law_near_number" (top 30) ["deck", "g"])
    (T__law_drawn_circuit : Tx K mg "_law_drawn_circuit" (top 29) ["deck", "m", "many"])
    (T__law_is_whole : Tx K mg "_law_is_whole" (top 31) ["thing"])
    (T__law_is_gate : Tx K mg "_law_is_gate" (top 32) ["m", "g", "thing"])
    (T__law_is_circuit : Tx K mg "_law_is_circuit" (top 33) ["thing"])
    (T__law_bent : Tx K mg "_law_bent" (top 34) ["deck", "thing"])
    (T__law_no_circuit : Tx K mg "_law_no_circuit" (top 35) ["deck", "circuit"])
    (T__law_heard : Tx K mg "_law_heard" (top 36) ["call"])
    (T__law_text : Tx K mg "_law_text" (top 37) ["circuit"])
    (T__law_number : Tx K mg "_law_number" (top 38) ["text"])
    (T__law_read : Tx K mg "_law_read" (top 39) ["text"])
    (T__law_near_text : Tx K mg "_law_near_text" (top 40) ["deck", "text"])
    (T__law_told : Tx K mg "_law_told" (top 41) ["text", "is_named"])
    {oc kV dc pm ct : Value} {od an : Option Addr} {sl : Array (Option Value)} (a0 : PySem.W.nsIn K mainGlobals "law" = some (some (.ref f0))) (l0 : K.lookup f0 = some ⟨oc, od, .func (PySem.W.fnOf "law" "law" (defArgs (top 42)) (defBody (top 42)) (defScope (top 42)) .none kV dc pm an (.ref c) ct), sl⟩) (c0 : PySem.W.codeIn K (.ref c) "law" = true) (hCd : PySem.W.CodeHd h c Pt) :
    ∃ (K : PySem.W.Frag) (cs : List (Addr × Addr)), K.In h ∧ (∀ p ∈ cs, h.get? p.2 = some tblO) ∧ (∀ p ∈ cs, K.lookup p.2 = none) ∧ (∀ p ∈ cs, PySem.W.CodeHd h p.1 p.2) ∧
      ∀ (s1 : Shared) (a : Addr) (ns : List Int), ns.length ≤ 63 → (∀ z ∈ ns, Builtin.Int.intBits z ≤ 1048576) → WalkG P w K mg fa a cs ns s1 := by
  have e0 := hfa.symm.trans (PySem.W.mg_of X G a0)
  cases e0
  refine ⟨K, [(c, Pt)], X, fun p hp => by rw [List.mem_singleton.mp hp]; exact hPt, fun p hp => by rw [List.mem_singleton.mp hp]; exact nPt, fun p hp => by rw [List.mem_singleton.mp hp]; exact hCd, fun s1 a ns hl hb => ?_⟩
  have B : BT K mg := {
    b_all := PySem.W.mg_none_of X G b_all, b_bool := PySem.W.mg_none_of X G b_bool, b_enumerate := PySem.W.mg_none_of X G b_enumerate, b_int := PySem.W.mg_none_of X G b_int, b_isinstance := PySem.W.mg_none_of X G b_isinstance, b_len := PySem.W.mg_none_of X G b_len, b_list := PySem.W.mg_none_of X G b_list, b_max := PySem.W.mg_none_of X G b_max, b_range := PySem.W.mg_none_of X G b_range, b_repr := PySem.W.mg_none_of X G b_repr, b_str := PySem.W.mg_none_of X G b_str, b_tuple := PySem.W.mg_none_of X G b_tuple, b_zip := PySem.W.mg_none_of X G b_zip, c_JOINING := c_JOINING, c_PREFIX := c_PREFIX, x_BadFilling := y_BadFilling.xc X G, y_BadFilling := y_BadFilling.yc X G, x_BadCircuit := y_BadCircuit.xc X G, y_BadCircuit := y_BadCircuit.yc X G, x_BadText := y_BadText.xc X G, y_BadText := y_BadText.yc X G, n_BadFilling_BadCircuit := y_BadFilling.nc y_BadCircuit X G hs }
  refine walkG_of (k := 14) (N := N_law) (q := "law.<locals>.<lambda>") (b := b_law Pt) l0 c0 sc_law ⟨rfl, by decide, by decide⟩ (by simp) (fun s v => .of_eq rfl) (fun base s H E inK glob TB hr => ?_) (law_math Pt c ns hl hb)
  have TB0 := TB (c, Pt) List.mem_cons_self
  have c_is_integer := cl_is_integer (P := P) (w := w) (base := base) B  T_is_integer
  have c_is_from := cl_is_from (P := P) (w := w) (base := base) B c_is_integer T_is_from
  have c_is_tuple := cl_is_tuple (P := P) (w := w) (base := base) B  T_is_tuple
  have c_is_word_of := cl_is_word_of (P := P) (w := w) (base := base) B  T_is_word_of
  have c_is_gate := cl_is_gate (P := P) (w := w) (base := base) B c_is_from T_is_gate
  have c_is_circuit_value := cl_is_circuit_value (P := P) (w := w) (base := base) B c_is_tuple c_is_word_of c_is_gate T_is_circuit_value
  have c_need_circuit := cl_need_circuit (P := P) (w := w) (base := base) B c_is_circuit_value T_need_circuit
  have c_gate_line := cl_gate_line (P := P) (w := w) (base := base) B  T_gate_line
  have c_number_read := cl_number_read (P := P) (w := w) (base := base) B  T_number_read
  have c_gate_read := cl_gate_read (P := P) (w := w) (base := base) B c_number_read T_gate_read
  have c_circuit_text := cl_circuit_text (P := P) (w := w) (base := base) B c_need_circuit c_gate_line T_circuit_text
  have c_lines_to_read := cl_lines_to_read (P := P) (w := w) (base := base) B  T_lines_to_read
  have c_read_circuit := cl_read_circuit (P := P) (w := w) (base := base) B c_lines_to_read c_is_circuit_value c_gate_read T_read_circuit
  have c__law_deck := cl__law_deck (P := P) (w := w) (base := base) B  T__law_deck
  have c__law_draw := cl__law_draw (P := P) (w := w) (base := base) B  T__law_draw
  have c__law_pick := cl__law_pick (P := P) (w := w) (base := base) B c__law_draw T__law_pick
  have c__law_same := cl__law_same (P := P) (w := w) (base := base) B  T__law_same
  have c__law_near_number := cl__law_near_number (P := P) (w := w) (base := base) B c__law_draw T__law_near_number
  have c__law_drawn_circuit := cl__law_drawn_circuit (P := P) (w := w) (base := base) B c__law_pick c__law_draw c__law_near_number T__law_drawn_circuit
  have c__law_is_whole := cl__law_is_whole (P := P) (w := w) (base := base) B  T__law_is_whole
  have c__law_is_gate := cl__law_is_gate (P := P) (w := w) (base := base) B c__law_is_whole T__law_is_gate
  have c__law_is_circuit := cl__law_is_circuit (P := P) (w := w) (base := base) B c__law_is_gate T__law_is_circuit
  have c__law_bent := cl__law_bent (P := P) (w := w) (base := base) B c__law_draw c__law_pick T__law_bent 8
  have c__law_no_circuit := cl__law_no_circuit (P := P) (w := w) (base := base) B c__law_bent c__law_is_circuit T__law_no_circuit
  have c__law_text := cl__law_text (P := P) (w := w) (base := base) B  T__law_text
  have c__law_number := cl__law_number (P := P) (w := w) (base := base) B  T__law_number
  have c__law_read := cl__law_read (P := P) (w := w) (base := base) B c__law_number c__law_is_gate T__law_read
  have c__law_near_text := cl__law_near_text (P := P) (w := w) (base := base) B c__law_draw c__law_pick T__law_near_text
  have c__law_told := cl__law_told (P := P) (w := w) (base := base) B c_read_circuit T__law_told
  exact ok_law B c__law_deck c__law_pick c__law_drawn_circuit c__law_text c_read_circuit c_circuit_text c__law_same c__law_near_text c__law_read c__law_told c__law_no_circuit T__law_heard TB0 hr
end Zv.K76
open PySem PySem.W PyProof.Rows in
set_option maxRecDepth 100000 in
set_option maxHeartbeats 0 in
theorem PySem.Challenge.cw_provenplay_k76_texts_of_circuits_holds : PySem.Challenge.rw_provenplay_k76_texts_of_circuits.Holds := by
  w_on; o_law; k_head; (case hw => w_witness2)
  k_fill
  refine Zv.walk_g (l := PySem.Challenge.rw_provenplay_k76_texts_of_circuits) (n := 63) rfl (by rw [sizeLine_eq]; decide) rfl ?F
  case F =>
    intro w mg fa h Y G hmg
    have KX := PySem.W.km_in_of Y
    have hTab := PySem.W.km_tabs_of Y
    refine' Zv.K76.all_mk KX G hmg (hTab 271 (by decide)) ?nPt ?b_all ?b_bool ?b_enumerate ?b_int ?b_isinstance ?b_len ?b_list ?b_max ?b_range ?b_repr ?b_str ?b_tuple ?b_zip (Zv.cov_tup (vs := [.str "and", .str "or"]) KX G ?k_JOINING ?l_JOINING ?z_JOINING (.cons ⟨_, rfl⟩ (.cons ⟨_, rfl⟩ .nil)) (fun F => (.cons (.str _) (.cons (.str _) .nil)))) (Zv.cov_str KX G ?k_PREFIX) ⟨?aC_BadFilling, ?aQ_BadFilling, ⟨_, _, _, _, _, _, _, _, _, _, _, _, _, _, _, ?xL_BadFilling, ?tl_BadFilling⟩, ?sa_BadFilling, ?ga_BadFilling, ?gg_BadFilling, ?nT_BadFilling, ?iC_BadFilling, ?tI_BadFilling, ⟨_, _, _, _, _, _, _, _, _, _, _, _, _, _, ?lI_BadFilling, ?cI_BadFilling⟩, ?kC_BadFilling, ?eC_BadFilling, ?tC_BadFilling, ?hC_BadFilling, ?kcC_BadFilling, ?sC_BadFilling, ?tQ_BadFilling, ?kcQ_BadFilling, ?sQ_BadFilling, ?hc_BadFilling, ?sg_BadFilling, ?tk_BadFilling, ?mo_BadFilling⟩ ⟨?aC_BadCircuit, ?aQ_BadCircuit, ⟨_, _, _, _, _, _, _, _, _, _, _, _, _, _, _, ?xL_BadCircuit, ?tl_BadCircuit⟩, ?sa_BadCircuit, ?ga_BadCircuit, ?gg_BadCircuit, ?nT_BadCircuit, ?iC_BadCircuit, ?tI_BadCircuit, ⟨_, _, _, _, _, _, _, _, _, _, _, _, _, _, ?lI_BadCircuit, ?cI_BadCircuit⟩, ?kC_BadCircuit, ?eC_BadCircuit, ?tC_BadCircuit, ?hC_BadCircuit, ?kcC_BadCircuit, ?sC_BadCircuit, ?tQ_BadCircuit, ?kcQ_BadCircuit, ?sQ_BadCircuit, ?hc_BadCircuit, ?sg_BadCircuit, ?tk_BadCircuit, ?mo_BadCircuit⟩ ⟨?aC_BadText, ?aQ_BadText, ⟨_, _, _, _, _, _, _, _, _, _, _, _, _, _, _, ?xL_BadText, ?tl_BadText⟩, ?sa_BadText, ?ga_BadText, ?gg_BadText, ?nT_BadText, ?iC_BadText, ?tI_BadText, ⟨_, _, _, _, _, _, _, _, _, _, _, _, _, _, ?lI_BadText, ?cI_BadText⟩, ?kC_BadText, ?eC_BadText, ?tC_BadText, ?hC_BadText, ?kcC_BadText, ?sC_BadText, ?tQ_BadText, ?kcQ_BadText, ?sQ_BadText, ?hc_BadText, ?sg_BadText, ?tk_BadText, ?mo_BadText⟩ ?hs (Zv.tx_of KX G ?a_is_integer ?l_is_integer ?c_is_integer ?k_is_integer Zv.K76.bd_is_integer) (Zv.tx_of KX G ?a_is_from ?l_is_from ?c_is_from ?k_is_from Zv.K76.bd_is_from) (Zv.tx_of KX G ?a_is_tuple ?l_is_tuple ?c_is_tuple ?k_is_tuple Zv.K76.bd_is_tuple) (Zv.tx_of KX G ?a_is_word_of ?l_is_word_of ?c_is_word_of ?k_is_word_of Zv.K76.bd_is_word_of) (Zv.tx_of KX G ?a_is_gate ?l_is_gate ?c_is_gate ?k_is_gate Zv.K76.bd_is_gate) (Zv.tx_of KX G ?a_is_circuit_value ?l_is_circuit_value ?c_is_circuit_value ?k_is_circuit_value Zv.K76.bd_is_circuit_value) (Zv.tx_of KX G ?a_need_circuit ?l_need_circuit ?c_need_circuit ?k_need_circuit Zv.K76.bd_need_circuit) (Zv.tx_of KX G ?a_gate_line ?l_gate_line ?c_gate_line ?k_gate_line Zv.K76.bd_gate_line) (Zv.tx_of KX G ?a_number_read ?l_number_read ?c_number_read ?k_number_read Zv.K76.bd_number_read) (Zv.tx_of KX G ?a_gate_read ?l_gate_read ?c_gate_read ?k_gate_read Zv.K76.bd_gate_read) (Zv.tx_of KX G ?a_circuit_text ?l_circuit_text ?c_circuit_text ?k_circuit_text Zv.K76.bd_circuit_text) (Zv.tx_of KX G ?a_lines_to_read ?l_lines_to_read ?c_lines_to_read ?k_lines_to_read Zv.K76.bd_lines_to_read) (Zv.tx_of KX G ?a_read_circuit ?l_read_circuit ?c_read_circuit ?k_read_circuit Zv.K76.bd_read_circuit) (Zv.tx_of KX G ?a__law_deck ?l__law_deck ?c__law_deck ?k__law_deck Zv.K76.bd__law_deck) (Zv.tx_of KX G ?a__law_draw ?l__law_draw ?c__law_draw ?k__law_draw Zv.K76.bd__law_draw) (Zv.tx_of KX G ?a__law_pick ?l__law_pick ?c__law_pick ?k__law_pick Zv.K76.bd__law_pick) (Zv.tx_of KX G ?a__law_same ?l__law_same ?c__law_same ?k__law_same Zv.K76.bd__law_same) (Zv.tx_of KX G ?a__law_near_number ?l__law_near_number ?c__law_near_number ?k__law_near_number Zv.K76.bd__law_near_number) (Zv.tx_of KX G ?a__law_drawn_circuit ?l__law_drawn_circuit ?c__law_drawn_circuit ?k__law_drawn_circuit Zv.K76.bd__law_drawn_circuit) (Zv.tx_of KX G ?a__law_is_whole ?l__law_is_whole ?c__law_is_whole ?k__law_is_whole Zv.K76.bd__law_is_whole) (Zv.tx_of KX G ?a__law_is_gate ?l__law_is_gate ?c__law_is_gate ?k__law_is_gate Zv.K76.bd__law_is_gate) (Zv.tx_of KX G ?a__law_is_circuit ?l__law_is_circuit ?c__law_is_circuit ?k__law_is_circuit Zv.K76.bd__law_is_circuit) (Zv.tx_of KX G ?a__law_bent ?l__law_bent ?c__law_bent ?k__law_bent Zv.K76.bd__law_bent) (Zv.tx_of KX G ?a__law_no_circuit ?l__law_no_circuit ?c__law_no_circuit ?k__law_no_circuit Zv.K76.bd__law_no_circuit) (Zv.tx_of KX G ?a__law_heard ?l__law_heard ?c__law_heard ?k__law_heard Zv.K76.bd__law_heard) (Zv.tx_of KX G ?a__law_text ?l__law_text ?c__law_text ?k__law_text Zv.K76.bd__law_text) (Zv.tx_of KX G ?a__law_number ?l__law_number ?c__law_number ?k__law_number Zv.K76.bd__law_number) (Zv.tx_of KX G ?a__law_read ?l__law_read ?c__law_read ?k__law_read Zv.K76.bd__law_read) (Zv.tx_of KX G ?a__law_near_text ?l__law_near_text ?c__law_near_text ?k__law_near_text Zv.K76.bd__law_near_text) (Zv.tx_of KX G ?a__law_told ?l__law_told ?c__law_told ?k__law_told Zv.K76.bd__law_told) ?a0 ?l0 ?c0 (PySem.W.codeHd_of_K KX ?hCd)
    (case nPt => first | k_is | rfl | kernel_rfl | decide +kernel)
    (case b_all => first | k_is | rfl | kernel_rfl | decide +kernel)
    (case b_bool => first | k_is | rfl | kernel_rfl | decide +kernel)
    (case b_enumerate => first | k_is | rfl | kernel_rfl | decide +kernel)
    (case b_int => first | k_is | rfl | kernel_rfl | decide +kernel)
    (case b_isinstance => first | k_is | rfl | kernel_rfl | decide +kernel)
    (case b_len => first | k_is | rfl | kernel_rfl | decide +kernel)
    (case b_list => first | k_is | rfl | kernel_rfl | decide +kernel)
    (case b_max => first | k_is | rfl | kernel_rfl | decide +kernel)
    (case b_range => first | k_is | rfl | kernel_rfl | decide +kernel)
    (case b_repr => first | k_is | rfl | kernel_rfl | decide +kernel)
    (case b_str => first | k_is | rfl | kernel_rfl | decide +kernel)
    (case b_tuple => first | k_is | rfl | kernel_rfl | decide +kernel)
    (case b_zip => first | k_is | rfl | kernel_rfl | decide +kernel)
    (case k_JOINING => first | k_is | rfl | kernel_rfl | decide +kernel)
    (case l_JOINING => first | k_is | rfl | kernel_rfl | decide +kernel)
    (case k_PREFIX => first | k_is | rfl | kernel_rfl | decide +kernel)
    (case aC_BadFilling => first | k_is | rfl | kernel_rfl | decide +kernel)
    (case aQ_BadFilling => first | k_is | rfl | kernel_rfl | decide +kernel)
    (case xL_BadFilling => first | k_is | rfl | kernel_rfl | decide +kernel)
    (case tl_BadFilling => first | k_is | rfl | kernel_rfl | decide +kernel)
    (case sa_BadFilling => first | k_is | rfl | kernel_rfl | decide +kernel)
    (case ga_BadFilling => first | k_is | rfl | kernel_rfl | decide +kernel)
    (case gg_BadFilling => first | k_is | rfl | kernel_rfl | decide +kernel)
    (case nT_BadFilling => first | k_is | rfl | kernel_rfl | decide +kernel)
    (case iC_BadFilling => first | k_is | rfl | kernel_rfl | decide +kernel)
    (case tI_BadFilling => first | k_is | rfl | kernel_rfl | decide +kernel)
    (case lI_BadFilling => first | k_is | rfl | kernel_rfl | decide +kernel)
    (case cI_BadFilling => first | k_is | rfl | kernel_rfl | decide +kernel)
    (case kC_BadFilling => first | k_is | rfl | kernel_rfl | decide +kernel)
    (case eC_BadFilling => first | k_is | rfl | kernel_rfl | decide +kernel)
    (case tC_BadFilling => first | k_is | rfl | kernel_rfl | decide +kernel)
    (case hC_BadFilling => first | k_is | rfl | kernel_rfl | decide +kernel)
    (case kcC_BadFilling => first | k_is | rfl | kernel_rfl | decide +kernel)
    (case sC_BadFilling => first | k_is | rfl | kernel_rfl | decide +kernel)
    (case tQ_BadFilling => first | k_is | rfl | kernel_rfl | decide +kernel)
    (case kcQ_BadFilling => first | k_is | rfl | kernel_rfl | decide +kernel)
    (case sQ_BadFilling => first | k_is | rfl | kernel_rfl | decide +kernel)
    (case hc_BadFilling => first | k_is | rfl | kernel_rfl | decide +kernel)
    (case sg_BadFilling => first | k_is | rfl | kernel_rfl | decide +kernel)
    (case tk_BadFilling => first | k_is | rfl | kernel_rfl | decide +kernel)
    (case mo_BadFilling => first | k_is | rfl | kernel_rfl | decide +kernel)
    (case aC_BadCircuit => first | k_is | rfl | kernel_rfl | decide +kernel)
    (case aQ_BadCircuit => first | k_is | rfl | kernel_rfl | decide +kernel)
    (case xL_BadCircuit => first | k_is | rfl | kernel_rfl | decide +kernel)
    (case tl_BadCircuit => first | k_is | rfl | kernel_rfl | decide +kernel)
    (case sa_BadCircuit => first | k_is | rfl | kernel_rfl | decide +kernel)
    (case ga_BadCircuit => first | k_is | rfl | kernel_rfl | decide +kernel)
    (case gg_BadCircuit => first | k_is | rfl | kernel_rfl | decide +kernel)
    (case nT_BadCircuit => first | k_is | rfl | kernel_rfl | decide +kernel)
    (case iC_BadCircuit => first | k_is | rfl | kernel_rfl | decide +kernel)
    (case tI_BadCircuit => first | k_is | rfl | kernel_rfl | decide +kernel)
    (case lI_BadCircuit => first | k_is | rfl | kernel_rfl | decide +kernel)
    (case cI_BadCircuit => first | k_is | rfl | kernel_rfl | decide +kernel)
    (case kC_BadCircuit => first | k_is | rfl | kernel_rfl | decide +kernel)
    (case eC_BadCircuit => first | k_is | rfl | kernel_rfl | decide +kernel)
    (case tC_BadCircuit => first | k_is | rfl | kernel_rfl | decide +kernel)
    (case hC_BadCircuit => first | k_is | rfl | kernel_rfl | decide +kernel)
    (case kcC_BadCircuit => first | k_is | rfl | kernel_rfl | decide +kernel)
    (case sC_BadCircuit => first | k_is | rfl | kernel_rfl | decide +kernel)
    (case tQ_BadCircuit => first | k_is | rfl | kernel_rfl | decide +kernel)
    (case kcQ_BadCircuit => first | k_is | rfl | kernel_rfl | decide +kernel)
    (case sQ_BadCircuit => first | k_is | rfl | kernel_rfl | decide +kernel)
    (case hc_BadCircuit => first | k_is | rfl | kernel_rfl | decide +kernel)
    (case sg_BadCircuit => first | k_is | rfl | kernel_rfl | decide +kernel)
    (case tk_BadCircuit => first | k_is | rfl | kernel_rfl | decide +kernel)
    (case mo_BadCircuit => first | k_is | rfl | kernel_rfl | decide +kernel)
    (case aC_BadText => first | k_is | rfl | kernel_rfl | decide +kernel)
    (case aQ_BadText => first | k_is | rfl | kernel_rfl | decide +kernel)
    (case xL_BadText => first | k_is | rfl | kernel_rfl | decide +kernel)
    (case tl_BadText => first | k_is | rfl | kernel_rfl | decide +kernel)
    (case sa_BadText => first | k_is | rfl | kernel_rfl | decide +kernel)
    (case ga_BadText => first | k_is | rfl | kernel_rfl | decide +kernel)
    (case gg_BadText => first | k_is | rfl | kernel_rfl | decide +kernel)
    (case nT_BadText => first | k_is | rfl | kernel_rfl | decide +kernel)
    (case iC_BadText => first | k_is | rfl | kernel_rfl | decide +kernel)
    (case tI_BadText => first | k_is | rfl | kernel_rfl | decide +kernel)
    (case lI_BadText => first | k_is | rfl | kernel_rfl | decide +kernel)
    (case cI_BadText => first | k_is | rfl | kernel_rfl | decide +kernel)
    (case kC_BadText => first | k_is | rfl | kernel_rfl | decide +kernel)
    (case eC_BadText => first | k_is | rfl | kernel_rfl | decide +kernel)
    (case tC_BadText => first | k_is | rfl | kernel_rfl | decide +kernel)
    (case hC_BadText => first | k_is | rfl | kernel_rfl | decide +kernel)
    (case kcC_BadText => first | k_is | rfl | kernel_rfl | decide +kernel)
    (case sC_BadText => first | k_is | rfl | kernel_rfl | decide +kernel)
    (case tQ_BadText => first | k_is | rfl | kernel_rfl | decide +kernel)
    (case kcQ_BadText => first | k_is | rfl | kernel_rfl | decide +kernel)
    (case sQ_BadText => first | k_is | rfl | kernel_rfl | decide +kernel)
    (case hc_BadText => first | k_is | rfl | kernel_rfl | decide +kernel)
    (case sg_BadText => first | k_is | rfl | kernel_rfl | decide +kernel)
    (case tk_BadText => first | k_is | rfl | kernel_rfl | decide +kernel)
    (case mo_BadText => first | k_is | rfl | kernel_rfl | decide +kernel)
    (case hs => first | k_is | rfl | kernel_rfl | decide +kernel)
    (case a_is_integer => first | k_is | rfl | kernel_rfl | decide +kernel)
    (case l_is_integer => first | k_is | rfl | kernel_rfl | decide +kernel)
    (case c_is_integer => first | k_is | rfl | kernel_rfl | decide +kernel)
    (case k_is_integer => first | k_is | rfl | kernel_rfl | decide +kernel)
    (case a_is_from => first | k_is | rfl | kernel_rfl | decide +kernel)
    (case l_is_from => first | k_is | rfl | kernel_rfl | decide +kernel)
    (case c_is_from => first | k_is | rfl | kernel_rfl | decide +kernel)
    (case k_is_from => first | k_is | rfl | kernel_rfl | decide +kernel)
    (case a_is_tuple => first | k_is | rfl | kernel_rfl | decide +kernel)
    (case l_is_tuple => first | k_is | rfl | kernel_rfl | decide +kernel)
    (case c_is_tuple => first | k_is | rfl | kernel_rfl | decide +kernel)
    (case k_is_tuple => first | k_is | rfl | kernel_rfl | decide +kernel)
    (case a_is_word_of => first | k_is | rfl | kernel_rfl | decide +kernel)
    (case l_is_word_of => first | k_is | rfl | kernel_rfl | decide +kernel)
    (case c_is_word_of => first | k_is | rfl | kernel_rfl | decide +kernel)
    (case k_is_word_of => first | k_is | rfl | kernel_rfl | decide +kernel)
    (case a_is_gate => first | k_is | rfl | kernel_rfl | decide +kernel)
    (case l_is_gate => first | k_is | rfl | kernel_rfl | decide +kernel)
    (case c_is_gate => first | k_is | rfl | kernel_rfl | decide +kernel)
    (case k_is_gate => first | k_is | rfl | kernel_rfl | decide +kernel)
    (case a_is_circuit_value => first | k_is | rfl | kernel_rfl | decide +kernel)
    (case l_is_circuit_value => first | k_is | rfl | kernel_rfl | decide +kernel)
    (case c_is_circuit_value => first | k_is | rfl | kernel_rfl | decide +kernel)
    (case k_is_circuit_value => first | k_is | rfl | kernel_rfl | decide +kernel)
    (case a_need_circuit => first | k_is | rfl | kernel_rfl | decide +kernel)
    (case l_need_circuit => first | k_is | rfl | kernel_rfl | decide +kernel)
    (case c_need_circuit => first | k_is | rfl | kernel_rfl | decide +kernel)
    (case k_need_circuit => first | k_is | rfl | kernel_rfl | decide +kernel)
    (case a_gate_line => first | k_is | rfl | kernel_rfl | decide +kernel)
    (case l_gate_line => first | k_is | rfl | kernel_rfl | decide +kernel)
    (case c_gate_line => first | k_is | rfl | kernel_rfl | decide +kernel)
    (case k_gate_line => first | k_is | rfl | kernel_rfl | decide +kernel)
    (case a_number_read => first | k_is | rfl | kernel_rfl | decide +kernel)
    (case l_number_read => first | k_is | rfl | kernel_rfl | decide +kernel)
    (case c_number_read => first | k_is | rfl | kernel_rfl | decide +kernel)
    (case k_number_read => first | k_is | rfl | kernel_rfl | decide +kernel)
    (case a_gate_read => first | k_is | rfl | kernel_rfl | decide +kernel)
    (case l_gate_read => first | k_is | rfl | kernel_rfl | decide +kernel)
    (case c_gate_read => first | k_is | rfl | kernel_rfl | decide +kernel)
    (case k_gate_read => first | k_is | rfl | kernel_rfl | decide +kernel)
    (case a_circuit_text => first | k_is | rfl | kernel_rfl | decide +kernel)
    (case l_circuit_text => first | k_is | rfl | kernel_rfl | decide +kernel)
    (case c_circuit_text => first | k_is | rfl | kernel_rfl | decide +kernel)
    (case k_circuit_text => first | k_is | rfl | kernel_rfl | decide +kernel)
    (case a_lines_to_read => first | k_is | rfl | kernel_rfl | decide +kernel)
    (case l_lines_to_read => first | k_is | rfl | kernel_rfl | decide +kernel)
    (case c_lines_to_read => first | k_is | rfl | kernel_rfl | decide +kernel)
    (case k_lines_to_read => first | k_is | rfl | kernel_rfl | decide +kernel)
    (case a_read_circuit => first | k_is | rfl | kernel_rfl | decide +kernel)
    (case l_read_circuit => first | k_is | rfl | kernel_rfl | decide +kernel)
    (case c_read_circuit => first | k_is | rfl | kernel_rfl | decide +kernel)
    (case k_read_circuit => first | k_is | rfl | kernel_rfl | decide +kernel)
    (case a__law_deck => first | k_is | rfl | kernel_rfl | decide +kernel)
    (case l__law_deck => first | k_is | rfl | kernel_rfl | decide +kernel)
    (case c__law_deck => first | k_is | rfl | kernel_rfl | decide +kernel)
    (case k__law_deck => first | k_is | rfl | kernel_rfl | decide +kernel)
    (case a__law_draw => first | k_is | rfl | kernel_rfl | decide +kernel)
    (case l__law_draw => first | k_is | rfl | kernel_rfl | decide +kernel)
    (case c__law_draw => first | k_is | rfl | kernel_rfl | decide +kernel)
    (case k__law_draw => first | k_is | rfl | kernel_rfl | decide +kernel)
    (case a__law_pick => first | k_is | rfl | kernel_rfl | decide +kernel)
    (case l__law_pick => first | k_is | rfl | kernel_rfl | decide +kernel)
    (case c__law_pick => first | k_is | rfl | kernel_rfl | decide +kernel)
    (case k__law_pick => first | k_is | rfl | kernel_rfl | decide +kernel)
    (case a__law_same => first | k_is | rfl | kernel_rfl | decide +kernel)
    (case l__law_same => first | k_is | rfl | kernel_rfl | decide +kernel)
    (case c__law_same => first | k_is | rfl | kernel_rfl | decide +kernel)
    (case k__law_same => first | k_is | rfl | kernel_rfl | decide +kernel)
    (case a__law_near_number => first | k_is | rfl | kernel_rfl | decide +kernel)
    (case l__law_near_number => first | k_is | rfl | kernel_rfl | decide +kernel)
    (case c__law_near_number => first | k_is | rfl | kernel_rfl | decide +kernel)
    (case k__law_near_number => first | k_is | rfl | kernel_rfl | decide +kernel)
    (case a__law_drawn_circuit => first | k_is | rfl | kernel_rfl | decide +kernel)
    (case l__law_drawn_circuit => first | k_is | rfl | kernel_rfl | decide +kernel)
    (case c__law_drawn_circuit => first | k_is | rfl | kernel_rfl | decide +kernel)
    (case k__law_drawn_circuit => first | k_is | rfl | kernel_rfl | decide +kernel)
    (case a__law_is_whole => first | k_is | rfl | kernel_rfl | decide +kernel)
    (case l__law_is_whole => first | k_is | rfl | kernel_rfl | decide +kernel)
    (case c__law_is_whole => first | k_is | rfl | kernel_rfl | decide +kernel)
    (case k__law_is_whole => first | k_is | rfl | kernel_rfl | decide +kernel)
    (case a__law_is_gate => first | k_is | rfl | kernel_rfl | decide +kernel)
    (case l__law_is_gate => first | k_is | rfl | kernel_rfl | decide +kernel)
    (case c__law_is_gate => first | k_is | rfl | kernel_rfl | decide +kernel)
    (case k__law_is_gate => first | k_is | rfl | kernel_rfl | decide +kernel)
    (case a__law_is_circuit => first | k_is | rfl | kernel_rfl | decide +kernel)
    (case l__law_is_circuit => first | k_is | rfl | kernel_rfl | decide +kernel)
    (case c__law_is_circuit => first | k_is | rfl | kernel_rfl | decide +kernel)
    (case k__law_is_circuit => first | k_is | rfl | kernel_rfl | decide +kernel)
    (case a__law_bent => first | k_is | rfl | kernel_rfl | decide +kernel)
    (case l__law_bent => first | k_is | rfl | kernel_rfl | decide +kernel)
    (case c__law_bent => first | k_is | rfl | kernel_rfl | decide +kernel)
    (case k__law_bent => first | k_is | rfl | kernel_rfl | decide +kernel)
    (case a__law_no_circuit => first | k_is | rfl | kernel_rfl | decide +kernel)
    (case l__law_no_circuit => first | k_is | rfl | kernel_rfl | decide +kernel)
    (case c__law_no_circuit => first | k_is | rfl | kernel_rfl | decide +kernel)
    (case k__law_no_circuit => first | k_is | rfl | kernel_rfl | decide +kernel)
    (case a__law_heard => first | k_is | rfl | kernel_rfl | decide +kernel)
    (case l__law_heard => first | k_is | rfl | kernel_rfl | decide +kernel)
    (case c__law_heard => first | k_is | rfl | kernel_rfl | decide +kernel)
    (case k__law_heard => first | k_is | rfl | kernel_rfl | decide +kernel)
    (case a__law_text => first | k_is | rfl | kernel_rfl | decide +kernel)
    (case l__law_text => first | k_is | rfl | kernel_rfl | decide +kernel)
    (case c__law_text => first | k_is | rfl | kernel_rfl | decide +kernel)
    (case k__law_text => first | k_is | rfl | kernel_rfl | decide +kernel)
    (case a__law_number => first | k_is | rfl | kernel_rfl | decide +kernel)
    (case l__law_number => first | k_is | rfl | kernel_rfl | decide +kernel)
    (case c__law_number => first | k_is | rfl | kernel_rfl | decide +kernel)
    (case k__law_number => first | k_is | rfl | kernel_rfl | decide +kernel)
    (case a__law_read => first | k_is | rfl | kernel_rfl | decide +kernel)
    (case l__law_read => first | k_is | rfl | kernel_rfl | decide +kernel)
    (case c__law_read => first | k_is | rfl | kernel_rfl | decide +kernel)
    (case k__law_read => first | k_is | rfl | kernel_rfl | decide +kernel)
    (case a__law_near_text => first | k_is | rfl | kernel_rfl | decide +kernel)
    (case l__law_near_text => first | k_is | rfl | kernel_rfl | decide +kernel)
    (case c__law_near_text => first | k_is | rfl | kernel_rfl | decide +kernel)
    (case k__law_near_text => first | k_is | rfl | kernel_rfl | decide +kernel)
    (case a__law_told => first | k_is | rfl | kernel_rfl | decide +kernel)
    (case l__law_told => first | k_is | rfl | kernel_rfl | decide +kernel)
    (case c__law_told => first | k_is | rfl | kernel_rfl | decide +kernel)
    (case k__law_told => first | k_is | rfl | kernel_rfl | decide +kernel)
    (case a0 => first | k_is | rfl | kernel_rfl | decide +kernel)
    (case l0 => first | k_is | rfl | kernel_rfl | decide +kernel)
    (case c0 => first | k_is | rfl | kernel_rfl | decide +kernel)
    (case hCd => first | k_is | rfl | kernel_rfl | decide +kernel)
    (case z_JOINING => rw [sizeLine_eq]; decide)
