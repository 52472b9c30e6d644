import PyProof.Rows.All
import Wide.All
import OpenK.AllK
import Wide.FinOn
import HandS.ForMost
import HandS.Walk
import KE.SortData
import HandS.TupAny
import HandS.Style
import HandS.Wide
import HandS.IsInst
import HandS.SortInts
import HandS.Strs
import HandS.Zip
import HandS.TupLen
import HandS.Conv
import KE.DataEq
import KE.DataCmp
import KE.DataMinMax
import KE.KDictCopyH
import KE.KDictKeyed
import KE.GoesZip
import KE.GoesEnum
import KE.GoesMore
import PySem.Challenge.RW_fewclues_k67_whole_words_that_tell_faces
set_option Elab.async false
set_option linter.all false
set_option maxRecDepth 100000
set_option maxHeartbeats 4000000
/-! VI: a layer of our own over HandS: values as plain data (D), readings as plain functions. -/
namespace L2.VI
open PySem PySem.Spec PyProof.Rows L2

/-- plain data -/
inductive D where
  | non | bl (b : Bool) | int (i : Int) | str (s : List Nat)
  | tup (xs : List D) | lst (xs : List D) | dct (t : Bool) (kvs : List (D × D)) | hnd
  deriving Inhabited

/-- the hand of a law: its cells and its four numbers -/
structure Hnd where
  cells : List Int
  i : Nat
  b : Int
  s : Int
  c : Int
  deriving Inhabited, DecidableEq

abbrev Sl := List (Option D)
abbrev EF := Sl → Hnd → Option (D × Hnd)

def keyD : Key → D
  | .inl i => .int i
  | .inr s => .str s.cps.toList

mutual
inductive DV (K : PySem.W.Frag) (ho : Option Addr) (G : Hp) : V → D → Prop
  | non : DV K ho G .non .non
  | bl (b : Bool) : DV K ho G (.bl b) (.bl b)
  | int (i : Int) : DV K ho G (.int i) (.int i)
  | str (s : List Nat) : DV K ho G (.str ⟨s.toArray⟩) (.str s)
  | tup {a : Addr} {vs : List V} {ds : List D} : G a = some (.tup vs) → DVs K ho G vs ds → DV K ho G (.ref a) (.tup ds)
  | lst {a : Addr} {vs : List V} {ds : List D} : G a = some (.lst vs) → DVs K ho G vs ds → DV K ho G (.ref a) (.lst ds)
  | dK {a : Addr} {kvs : List (Key × V)} {ps : List (D × D)} : G a = some (.dK kvs) → DKs K ho G kvs ps → DV K ho G (.ref a) (.dct false ps)
  | dT {a : Addr} {kvs : List (List Key × V)} {ps : List (D × D)} : G a = some (.dT kvs) → DTs K ho G kvs ps → DV K ho G (.ref a) (.dct true ps)
  | hnd {a : Addr} : ho = some a → DV K ho G (.ref a) .hnd
inductive DVs (K : PySem.W.Frag) (ho : Option Addr) (G : Hp) : List V → List D → Prop
  | nil : DVs K ho G [] []
  | cons {v : V} {vs : List V} {d : D} {ds : List D} : DV K ho G v d → DVs K ho G vs ds → DVs K ho G (v :: vs) (d :: ds)
inductive DKs (K : PySem.W.Frag) (ho : Option Addr) (G : Hp) : List (Key × V) → List (D × D) → Prop
  | nil : DKs K ho G [] []
  | cons {k : Key} {v : V} {vs : List (Key × V)} {d : D} {ds : List (D × D)} : DV K ho G v d → DKs K ho G vs ds → DKs K ho G ((k, v) :: vs) ((keyD k, d) :: ds)
inductive DTs (K : PySem.W.Frag) (ho : Option Addr) (G : Hp) : List (List Key × V) → List (D × D) → Prop
  | nil : DTs K ho G [] []
  | cons {k : List Key} {v : V} {vs : List (List Key × V)} {d : D} {ds : List (D × D)} : DV K ho G v d → DTs K ho G vs ds → DTs K ho G ((k, v) :: vs) ((.tup (k.map keyD), d) :: ds)
end

theorem sqT_same {K : PySem.W.Frag} {H H' : Hp} {a : Addr} {xs : List V} (e : Same H H') (h : SqT K H a xs) : SqT K H' a xs := by
  rcases h with (h | ⟨o, h⟩) | h
  · exact .inl (.inl (e _ _ h))
  · exact .inl (.inr ⟨o, e _ _ h⟩)
  · exact .inr h

section
variable {K : PySem.W.Frag} {ho : Option Addr} {G G' : Hp}
mutual
theorem DV.mono (e : Same G G') : ∀ (d : D) (v : V), DV K ho G v d → DV K ho G' v d
  | .non, _, h => by cases h; exact .non
  | .bl _, _, h => by cases h; exact .bl _
  | .int _, _, h => by cases h; exact .int _
  | .str _, _, h => by cases h; exact .str _
  | .tup ds, _, h => by cases h with | tup h1 h2 => exact .tup (e _ _ h1) (DVs.mono e ds _ h2)
  | .lst ds, _, h => by cases h with | lst h1 h2 => exact .lst (e _ _ h1) (DVs.mono e ds _ h2)
  | .dct _ ps, _, h => by
    cases h with
    | dK h1 h2 => exact .dK (e _ _ h1) (DKs.mono e ps _ h2)
    | dT h1 h2 => exact .dT (e _ _ h1) (DTs.mono e ps _ h2)
  | .hnd, _, h => by cases h with | hnd h1 => exact .hnd h1
theorem DVs.mono (e : Same G G') : ∀ (ds : List D) (vs : List V), DVs K ho G vs ds → DVs K ho G' vs ds
  | [], _, h => by cases h; exact .nil
  | d :: ds, _, h => by cases h with | cons h1 h2 => exact .cons (DV.mono e d _ h1) (DVs.mono e ds _ h2)
theorem DKs.mono (e : Same G G') : ∀ (ds : List (D × D)) (vs : List (Key × V)), DKs K ho G vs ds → DKs K ho G' vs ds
  | [], _, h => by cases h; exact .nil
  | (k, d) :: ds, _, h => by cases h with | cons h1 h2 => exact .cons (DV.mono e d _ h1) (DKs.mono e ds _ h2)
theorem DTs.mono (e : Same G G') : ∀ (ds : List (D × D)) (vs : List (List Key × V)), DTs K ho G vs ds → DTs K ho G' vs ds
  | [], _, h => by cases h; exact .nil
  | (k, d) :: ds, _, h => by cases h with | cons h1 h2 => exact .cons (DV.mono e d _ h1) (DTs.mono e ds _ h2)
end
mutual
theorem DV.hand (a : Addr) : ∀ (d : D) (v : V), DV K none G v d → DV K (some a) G v d
  | .non, _, h => by cases h; exact .non
  | .bl _, _, h => by cases h; exact .bl _
  | .int _, _, h => by cases h; exact .int _
  | .str _, _, h => by cases h; exact .str _
  | .tup ds, _, h => by cases h with | tup h1 h2 => exact .tup h1 (DVs.hand a ds _ h2)
  | .lst ds, _, h => by cases h with | lst h1 h2 => exact .lst h1 (DVs.hand a ds _ h2)
  | .dct _ ps, _, h => by
    cases h with
    | dK h1 h2 => exact .dK h1 (DKs.hand a ps _ h2)
    | dT h1 h2 => exact .dT h1 (DTs.hand a ps _ h2)
  | .hnd, _, h => by cases h with | hnd h1 => cases h1
theorem DVs.hand (a : Addr) : ∀ (ds : List D) (vs : List V), DVs K none G vs ds → DVs K (some a) G vs ds
  | [], _, h => by cases h; exact .nil
  | d :: ds, _, h => by cases h with | cons h1 h2 => exact .cons (DV.hand a d _ h1) (DVs.hand a ds _ h2)
theorem DKs.hand (a : Addr) : ∀ (ds : List (D × D)) (vs : List (Key × V)), DKs K none G vs ds → DKs K (some a) G vs ds
  | [], _, h => by cases h; exact .nil
  | (k, d) :: ds, _, h => by cases h with | cons h1 h2 => exact .cons (DV.hand a d _ h1) (DKs.hand a ds _ h2)
theorem DTs.hand (a : Addr) : ∀ (ds : List (D × D)) (vs : List (List Key × V)), DTs K none G vs ds → DTs K (some a) G vs ds
  | [], _, h => by cases h; exact .nil
  | (k, d) :: ds, _, h => by cases h with | cons h1 h2 => exact .cons (DV.hand a d _ h1) (DTs.hand a ds _ h2)
end
theorem DVs.length : ∀ {ds : List D} {vs : List V}, DVs K ho G vs ds → vs.length = ds.length
  | [], _, h => by cases h; rfl
  | _ :: _, _, h => by cases h with | cons _ h2 => simp [DVs.length h2]
theorem DVs.get : ∀ {ds : List D} {vs : List V} {i : Nat} {d : D}, DVs K ho G vs ds → ds[i]? = some d → ∃ v, vs[i]? = some v ∧ DV K ho G v d
  | [], _, _, _, _, h => by simp at h
  | _ :: _, _, 0, _, h, e => by cases h with | cons h1 _ => simp at e; subst e; exact ⟨_, rfl, h1⟩
  | _ :: _, _, i + 1, _, h, e => by
    cases h with
    | cons _ h2 =>
      obtain ⟨v, h3, h4⟩ := DVs.get (i := i) h2 (by simpa using e)
      exact ⟨v, by simpa using h3, h4⟩
theorem DVs.get' : ∀ {ds : List D} {vs : List V} {i : Nat} {v : V}, DVs K ho G vs ds → vs[i]? = some v → ∃ d, ds[i]? = some d ∧ DV K ho G v d
  | _, [], _, _, _, h => by simp at h
  | _, _ :: _, 0, _, h, e => by cases h with | cons h1 _ => simp at e; subst e; exact ⟨_, rfl, h1⟩
  | _, _ :: _, i + 1, _, h, e => by
    cases h with
    | cons _ h2 =>
      obtain ⟨v, h3, h4⟩ := DVs.get' (i := i) h2 (by simpa using e)
      exact ⟨v, by simpa using h3, h4⟩
theorem DVs.append : ∀ {ds es : List D} {vs ws : List V}, DVs K ho G vs ds → DVs K ho G ws es → DVs K ho G (vs ++ ws) (ds ++ es)
  | [], _, _, _, h, k => by cases h; exact k
  | _ :: _, _, _, _, h, k => by cases h with | cons h1 h2 => exact .cons h1 (DVs.append h2 k)
theorem DVs.take : ∀ {ds : List D} {vs : List V} (n : Nat), DVs K ho G vs ds → DVs K ho G (vs.take n) (ds.take n)
  | _, _, 0, _ => by simp; exact .nil
  | [], _, n + 1, h => by cases h; simp; exact .nil
  | _ :: _, _, n + 1, h => by cases h with | cons h1 h2 => simp; exact .cons h1 (DVs.take n h2)
theorem DVs.drop : ∀ {ds : List D} {vs : List V} (n : Nat), DVs K ho G vs ds → DVs K ho G (vs.drop n) (ds.drop n)
  | _, _, 0, h => by simpa using h
  | [], _, n + 1, h => by cases h; simp; exact .nil
  | _ :: _, _, n + 1, h => by cases h with | cons h1 h2 => simp; exact DVs.drop n h2
theorem DVs.set {d : D} {v : V} (hd : DV K ho G v d) : ∀ {ds : List D} {vs : List V} (n : Nat), DVs K ho G vs ds → DVs K ho G (vs.set n v) (ds.set n d)
  | [], _, _, h => by cases h; simp; exact .nil
  | _ :: _, _, 0, h => by cases h with | cons h1 h2 => simp; exact .cons hd h2
  | _ :: _, _, n + 1, h => by cases h with | cons h1 h2 => simp; exact .cons h1 (DVs.set hd n h2)
theorem DVs.reverse {ds : List D} {vs : List V} (h : DVs K ho G vs ds) : DVs K ho G vs.reverse ds.reverse := by
  induction ds generalizing vs with
  | nil => cases h; exact .nil
  | cons d ds ih => cases h with | cons h1 h2 => simp only [List.reverse_cons]; exact (ih h2).append (.cons h1 .nil)
theorem DVs.ints : ∀ {ns : List Int}, DVs K ho G (ns.map V.int) (ns.map D.int)
  | [] => .nil
  | _ :: _ => .cons (.int _) DVs.ints
theorem DVs.of_ints : ∀ {ns : List Int} {vs : List V}, DVs K ho G vs (ns.map D.int) → vs = ns.map V.int
  | [], _, h => by cases h; rfl
  | _ :: _, _, h => by cases h with | cons h1 h2 => cases h1; rw [DVs.of_ints h2]; rfl
end

/-! ### states -/
def HandOk (K : PySem.W.Frag) (G H : Hp) (hs : Hnd) : Option Addr → Prop
  | none => True
  | some a => G a = none ∧ ∃ ca, H a = some (.lst [.ref ca, .int hs.i, .int hs.b, .int hs.s, .int hs.c]) ∧ G ca = some (.lst (hs.cells.map V.int))

theorem sameAt {G G' : Hp} {a : Addr} {u : HO} (h : Same G G') (e : G a = some u) : G' a = some u := h _ _ e
/-- how things stand behind an expression: nothing that stood has changed but the hand; what is new in G is new in H -/
structure CallEnd (K : PySem.W.Frag) (ho : Option Addr) (hs : Hnd) (G H G' H' : Hp) : Prop where
  g : Same G G'
  gh : Same G' H'
  frame : ∀ a o, H a = some o → ho ≠ some a → H' a = some o
  fresh : ∀ a o, H a = some o → (∀ vs, o ≠ .tup vs) → G a = none → G' a = none
  there : ∀ a, H a ≠ none → H' a ≠ none
  hand : HandOk K G' H' hs ho

/-- what an own slot holds -/
def OwnAt (K : PySem.W.Frag) (ho : Option Addr) (G : Hp) (o : Option HO) : D → Prop
  | .lst ds => ∃ vs, o = some (.lst vs) ∧ DVs K ho G vs ds
  | .dct false ps => ∃ kvs, o = some (.dK kvs) ∧ DKs K ho G kvs ps
  | .dct true ps => ∃ kvs, o = some (.dT kvs) ∧ DTs K ho G kvs ps
  | _ => False

structure Rl (K : PySem.W.Frag) (ho : Option Addr) (O : List Nat) (sl : Sl) (hs : Hnd) (σ : St) (G H : Hp) : Prop where
  gh : Same G H
  len : sl.length = σ.length
  dat : ∀ i d, sl[i]? = some (some d) → i ∉ O → ∃ v, σ[i]? = some (some v) ∧ DV K ho G v d
  own : ∀ i d, sl[i]? = some (some d) → i ∈ O → ∃ a, σ[i]? = some (some (.ref a)) ∧ G a = none ∧ ho ≠ some a ∧ OwnAt K ho G (H a) d
  sep : ∀ i j a, i ∈ O → j ∈ O → i ≠ j → sl[i]? ≠ some none → sl[j]? ≠ some none → σ[i]? = some (some (.ref a)) → σ[j]? ≠ some (some (.ref a))
  hand : HandOk K G H hs ho

theorem OwnAt.notTup {K : PySem.W.Frag} {ho : Option Addr} {G : Hp} {o : HO} {d : D} (h : OwnAt K ho G (Option.some o) d) : ∀ vs, o ≠ .tup vs := by
  rintro vs rfl
  cases d <;> first | exact h.elim | skip
  · obtain ⟨vs, e, _⟩ := h; cases e
  · rename_i t ps
    cases t <;> (obtain ⟨kvs, e, _⟩ := h; cases e)
theorem OwnAt.some {K : PySem.W.Frag} {ho : Option Addr} {G : Hp} {o : Option HO} {d : D} (h : OwnAt K ho G o d) : ∃ u, o = Option.some u := by
  cases d <;> first | exact h.elim | skip
  · obtain ⟨vs, e, _⟩ := h; exact ⟨_, e⟩
  · rename_i t ps
    cases t <;> (obtain ⟨kvs, e, _⟩ := h; exact ⟨_, e⟩)
theorem OwnAt.mono {K : PySem.W.Frag} {ho : Option Addr} {G G' : Hp} {o : Option HO} {d : D} (e : Same G G') (h : OwnAt K ho G o d) : OwnAt K ho G' o d := by
  cases d <;> first | exact h.elim | skip
  · obtain ⟨vs, e1, h1⟩ := h; exact ⟨_, e1, h1.mono e _ _⟩
  · rename_i t ps
    cases t <;> (obtain ⟨kvs, e1, h1⟩ := h; exact ⟨_, e1, h1.mono e _ _⟩)

section
variable {K : PySem.W.Frag} {ho : Option Addr} {O : List Nat} {sl : Sl} {hs hs' hs2 : Hnd} {σ : St} {G H G' H' G2 H2 : Hp}
theorem CallEnd.refl (h : Same G H) (hh : HandOk K G H hs ho) : CallEnd K ho hs G H G H := ⟨Same.refl _, h, fun _ _ e _ => e, fun _ _ _ _ e => e, fun _ e => e, hh⟩
theorem CallEnd.trans (a : CallEnd K ho hs G H G' H') (b : CallEnd K ho hs' G' H' G2 H2) : CallEnd K ho hs' G H G2 H2 :=
  ⟨a.g.trans b.g, b.gh, fun x o e n => b.frame x o (a.frame x o e n) n, fun x o e t n => (by
    by_cases hx : ho = some x
    · subst hx; exact b.hand.1
    · exact b.fresh x o (a.frame x o e hx) t (a.fresh x o e t n)), fun x e => b.there x (a.there x e), b.hand⟩
theorem Rl.refl (r : Rl K ho O sl hs σ G H) : CallEnd K ho hs G H G H := .refl r.gh r.hand
theorem Rl.after (r : Rl K ho O sl hs σ G H) (e : CallEnd K ho hs' G H G' H') : Rl K ho O sl hs' σ G' H' where
  gh := e.gh
  len := r.len
  dat := fun i d h n => by obtain ⟨v, h1, h2⟩ := r.dat i d h n; exact ⟨v, h1, h2.mono e.g _ _⟩
  own := fun i d h n => by
    obtain ⟨a, h1, h2, h3, h4⟩ := r.own i d h n
    obtain ⟨u, hu⟩ := h4.some
    refine ⟨a, h1, e.fresh a u hu (by rw [hu] at h4; exact h4.notTup) h2, h3, ?_⟩
    rw [e.frame a u hu h3, ← hu]; exact h4.mono e.g
  sep := r.sep
  hand := e.hand
/-- a new object is laid, as data -/
theorem laidG {p : Addr} {o : HO} (gh : Same G H) (hh : HandOk K G H hs ho) (hp : H p = none) : CallEnd K ho hs G H (upd G p o) (upd H p o) where
  g := fun b u e => by rw [upd_ne (ne_of_none (gh b u e) hp)]; exact e
  gh := fun b u e => by
    by_cases q : b = p
    · subst q; rw [upd_same] at e ⊢; exact e
    · rw [upd_ne q] at e ⊢; exact gh b u e
  frame := fun b u e _ => by rw [upd_ne (ne_of_none e hp)]; exact e
  fresh := fun b o e _ n => by rw [upd_ne (ne_of_none e hp)]; exact n
  there := fun b e => by rw [upd_ne (fun z => by subst z; exact e hp)]; exact e
  hand := by
    cases ho with
    | none => trivial
    | some a =>
      obtain ⟨h1, ca, h2, h3⟩ := hh
      have hne : a ≠ p := ne_of_none h2 hp
      refine ⟨by rw [upd_ne hne]; exact h1, ca, by rw [upd_ne hne]; exact h2, sameAt (fun b u e => ?_) h3⟩
      rw [upd_ne (ne_of_none (gh b u e) hp)]; exact e
/-- a new object is laid, not as data (an own one) -/
theorem laidH {p : Addr} {o : HO} (gh : Same G H) (hh : HandOk K G H hs ho) (hp : H p = none) : CallEnd K ho hs G H G (upd H p o) where
  g := Same.refl _
  gh := fun b u e => by rw [upd_ne (ne_of_none (gh b u e) hp)]; exact gh b u e
  frame := fun b u e _ => by rw [upd_ne (ne_of_none e hp)]; exact e
  fresh := fun b _ _ _ n => n
  there := fun b e => by rw [upd_ne (fun z => by subst z; exact e hp)]; exact e
  hand := by
    cases ho with
    | none => trivial
    | some a =>
      obtain ⟨h1, ca, h2, h3⟩ := hh
      exact ⟨h1, ca, by rw [upd_ne (ne_of_none h2 hp)]; exact h2, h3⟩
theorem G_none (gh : Same G H) {p : Addr} (hp : H p = none) : G p = none := gh.free hp
end

/-! ### judgements of expressions -/
def tE (K : PySem.W.Frag) (O : List Nat) (f : EF) : TE := fun σ H Q => ∃ ho sl hs G d hs', Rl K ho O sl hs σ G H ∧ f sl hs = some (d, hs') ∧
  ∀ v G' H', CallEnd K ho hs' G H G' H' → DV K ho G' v d → Q v H'
structure QE (X : Cx) (O : List Nat) (e : Expr) (f : EF) : Prop where
  pe : PE X e (tE X.K O f)
theorem PE.imp {X : Cx} {e : Expr} {t u : TE} (h : PE X e t) (i : ∀ σ H Q, u σ H Q → t σ H Q) : PE X e u := ⟨fun pins s σ H Q I q => h.run pins s σ H Q I (i σ H Q q)⟩
theorem PT.imp {X : Cx} {e : Expr} {t u : TT} (h : PT X e t) (i : ∀ σ H Q, u σ H Q → t σ H Q) : PT X e u := ⟨fun pins s σ H Q I q => h.run pins s σ H Q I (i σ H Q q)⟩
theorem PW.imp {X : Cx} {e : Expr} {t u : TT} (h : PW X e t) (i : ∀ σ H Q, u σ H Q → t σ H Q) : PW X e u := ⟨fun wh pins s σ H Q I q => h.run wh pins s σ H Q I (i σ H Q q)⟩
theorem PA.imp {X : Cx} {e : List Expr} {t u : TA} (h : PA X e t) (i : ∀ σ H Q, u σ H Q → t σ H Q) : PA X e u := ⟨fun pos pins s σ H Q I q => h.run pos pins s σ H Q I (i σ H Q q)⟩
/-- a test -/
abbrev TF := Sl → Hnd → Option (Bool × Hnd)
def tT (K : PySem.W.Frag) (O : List Nat) (f : TF) : TT := fun σ H Q => ∃ ho sl hs G b hs', Rl K ho O sl hs σ G H ∧ f sl hs = some (b, hs') ∧
  ∀ G' H', CallEnd K ho hs' G H G' H' → Q b H'
structure QT (X : Cx) (O : List Nat) (e : Expr) (f : TF) : Prop where
  pt : PT X e (tT X.K O f)
structure QW (X : Cx) (O : List Nat) (e : Expr) (f : TF) : Prop where
  pw : PW X e (tT X.K O f)
theorem QW.qt {X : Cx} {O : List Nat} {e : Expr} {f : TF} (h : QW X O e f) : QT X O e f := ⟨h.pw.pt⟩
/-- argument lists -/
abbrev AF := Sl → Hnd → Option (List D × Hnd)
def tA (K : PySem.W.Frag) (O : List Nat) (f : AF) : TA := fun σ H Q => ∃ ho sl hs G ds hs', Rl K ho O sl hs σ G H ∧ f sl hs = some (ds, hs') ∧
  ∀ vs G' H', CallEnd K ho hs' G H G' H' → DVs K ho G' vs ds → Q vs H'
structure QA (X : Cx) (O : List Nat) (es : List Expr) (f : AF) : Prop where
  pa : PA X es (tA X.K O f)
  len : ∀ sl hs ds hs', f sl hs = some (ds, hs') → ds.length = es.length
/-- an expression that gives a new list or dict of its own -/
def tN (K : PySem.W.Frag) (O : List Nat) (f : EF) : TE := fun σ H Q => ∃ ho sl hs G d hs', Rl K ho O sl hs σ G H ∧ f sl hs = some (d, hs') ∧
  ∀ a G' H', CallEnd K ho hs' G H G' H' → H a = none → G' a = none → ho ≠ some a → OwnAt K ho G' (H' a) d → Q (.ref a) H'
structure QN (X : Cx) (O : List Nat) (e : Expr) (f : EF) : Prop where
  pe : PE X e (tN X.K O f)

/-! ### the plain functions -/
def eVar (i : Nat) : EF := fun sl hs => match sl[i]? with | some (some d) => some (d, hs) | _ => none
def eC (d : D) : EF := fun _ hs => some (d, hs)
def eBin (op : D → D → Option D) (f g : EF) : EF := fun sl hs => match f sl hs with
  | some (x, hs1) => (match g sl hs1 with | some (y, hs2) => (op x y).map fun r => (r, hs2) | none => none)
  | none => none
def eUn (op : D → Option D) (f : EF) : EF := fun sl hs => match f sl hs with
  | some (x, hs1) => (op x).map fun r => (r, hs1)
  | none => none
def aNil : AF := fun _ hs => some ([], hs)
def aCons (f : EF) (g : AF) : AF := fun sl hs => match f sl hs with
  | some (x, hs1) => (match g sl hs1 with | some (ys, hs2) => some (x :: ys, hs2) | none => none)
  | none => none
def eAp (op : List D → Option D) (f : AF) : EF := fun sl hs => match f sl hs with
  | some (xs, hs1) => (op xs).map fun r => (r, hs1)
  | none => none
def eIf (t : TF) (f g : EF) : EF := fun sl hs => match t sl hs with
  | some (true, hs1) => f sl hs1
  | some (false, hs1) => g sl hs1
  | none => none
def dBool : D → Option Bool | .bl b => some b | _ => none
def tV (f : EF) : TF := fun sl hs => match f sl hs with
  | some (.bl b, hs1) => some (b, hs1)
  | _ => none
def tAnd (f g : TF) : TF := fun sl hs => match f sl hs with
  | some (true, hs1) => g sl hs1
  | some (false, hs1) => some (false, hs1)
  | none => none
def tOr (f g : TF) : TF := fun sl hs => match f sl hs with
  | some (true, hs1) => some (true, hs1)
  | some (false, hs1) => g sl hs1
  | none => none
def tNot (f : TF) : TF := fun sl hs => match f sl hs with
  | some (b, hs1) => some (!b, hs1)
  | none => none
def eT (f : TF) : EF := fun sl hs => match f sl hs with
  | some (b, hs1) => some (.bl b, hs1)
  | none => none
end L2.VI

/-! VI: the rules of expressions. -/
namespace L2.VI
open PySem PySem.Spec PyProof.Rows L2

/-! ### data with data -/
def rD (K : PySem.W.Frag) (op : D → D → Option D) : R2 := fun x y H Q => ∃ G ho hs d e z, Same G H ∧ HandOk K G H hs ho ∧ DV K ho G x d ∧ DV K ho G y e ∧ op d e = some z ∧
  ∀ v G' H', CallEnd K ho hs G H G' H' → DV K ho G' v z → Q v H'
abbrev OpQ (X : Cx) (f : Value → Value → Sem Value) (op : D → D → Option D) : Prop := OpR X f (rD X.K op)
def rU1 (K : PySem.W.Frag) (op : D → Option D) : V → Hp → VK → Prop := fun x H Q => ∃ G ho hs d z, Same G H ∧ HandOk K G H hs ho ∧ DV K ho G x d ∧ op d = some z ∧
  ∀ v G' H', CallEnd K ho hs G H G' H' → DV K ho G' v z → Q v H'
def rC (K : PySem.W.Frag) (op : List D → Option D) : List V → Hp → VK → Prop := fun xs H Q => ∃ G ho hs ds z, Same G H ∧ HandOk K G H hs ho ∧ DVs K ho G xs ds ∧ op ds = some z ∧
  ∀ v G' H', CallEnd K ho hs G H G' H' → DV K ho G' v z → Q v H'
abbrev CallQ (X : Cx) (f : Value) (op : List D → Option D) : Prop := CallR X f (rC X.K op)
/-- .. that gives a new list of its own -/
def rCN (K : PySem.W.Frag) (op : List D → Option D) : List V → Hp → VK → Prop := fun xs H Q => ∃ G ho hs ds z, Same G H ∧ HandOk K G H hs ho ∧ DVs K ho G xs ds ∧ op ds = some z ∧
  ∀ a G' H', CallEnd K ho hs G H G' H' → H a = none → G' a = none → ho ≠ some a → OwnAt K ho G' (H' a) z → Q (.ref a) H'
abbrev CallN (X : Cx) (f : Value) (op : List D → Option D) : Prop := CallR X f (rCN X.K op)

section
variable {X : Cx} {O : List Nat} {a b c e : Expr} {es : List Expr} {fa fb fc : EF} {pos : Pos} {σ : L2.St} {H : Hp} {K : PySem.W.Frag}

theorem ho_ne {ho : Option Addr} {G H : Hp} {hs : Hnd} {p : Addr} (hh : HandOk K G H hs ho) (hp : H p = none) : ho ≠ some p := by
  rintro rfl
  obtain ⟨_, ca, h2, _⟩ := hh
  rw [hp] at h2; cases h2

/-- an own list becomes data -/
theorem freeze {ho : Option Addr} {hs : Hnd} {G H G' H' : Hp} {p : Addr} {d : D} (c : CallEnd K ho hs G H G' H') (h0 : H p = none) (hg : G' p = none) (hn : ho ≠ some p) (w : OwnAt K ho G' (H' p) d) :
    ∃ G2, CallEnd K ho hs G H G2 H' ∧ DV K ho G2 (.ref p) d ∧ Same G' G2 ∧ ∀ b, b ≠ p → G2 b = G' b := by
  obtain ⟨u, hu⟩ := w.some
  have sm : Same G' (upd G' p u) := fun b o q => by rw [upd_ne (ne_of_none q hg)]; exact q
  refine ⟨upd G' p u, ⟨c.g.trans sm, fun b o q => ?_, c.frame, fun b o q t n => ?_, c.there, ?_⟩, ?_, sm, fun b z => upd_ne z⟩
  · by_cases z : b = p
    · subst z; rw [upd_same] at q; cases q; exact hu
    · rw [upd_ne z] at q; exact c.gh b o q
  · rw [upd_ne (ne_of_none q h0)]; exact c.fresh b o q t n
  · have hh := c.hand
    cases ho with
    | none => trivial
    | some x =>
      obtain ⟨h1, ca, h2, h3⟩ := hh
      exact ⟨by rw [upd_ne (fun z => hn (by rw [z]))]; exact h1, ca, h2, sameAt sm h3⟩
  · cases d <;> first | exact w.elim | skip
    · obtain ⟨vs, e1, h1⟩ := w
      rw [hu] at e1; cases e1
      exact .lst upd_same (h1.mono sm _ _)
    · rename_i t ps
      cases t with
      | false =>
        obtain ⟨kvs, e1, h1⟩ := w
        rw [hu] at e1; cases e1
        exact .dK upd_same (h1.mono sm _ _)
      | true =>
        obtain ⟨kvs, e1, h1⟩ := w
        rw [hu] at e1; cases e1
        exact .dT upd_same (h1.mono sm _ _)
theorem qe_n {f : EF} (h : QN X O e f) : QE X O e f := ⟨PE.imp h.pe fun σ H Q ⟨ho, sl, hs, G, d, hs', r, q, k⟩ => ⟨ho, sl, hs, G, d, hs', r, q, fun p G' H' c0 h0 hg hn w => by
  obtain ⟨G2, c2, dv, _, _⟩ := freeze c0 h0 hg hn w
  exact k _ G2 H' c2 dv⟩⟩

theorem qe_var (i : Nat) {x : Str} {pos : Pos} (hO : O.contains i = false := by rfl) (hN : X.N[i]? = some x := by rfl) (hv : Vis X.env.scope x := by first | exact Or.inl rfl | exact Or.inr (Or.inl rfl) | exact Or.inr (Or.inr rfl)) (hd : (x == ("__debug__" : Str)) = false := by decide)
    (hcd : (x == ("__classdict__" : Str)) = false := by decide) : QE X O (.Name x pos) (eVar i) :=
  ⟨PE.imp (pe_var hN hv hd hcd) fun σ H Q ⟨ho, sl, hs, G, d, hs', r, q, k⟩ => by
    unfold eVar at q
    split at q
    · rename_i d' hd'
      cases q
      obtain ⟨v, h1, h2⟩ := r.dat i _ hd' (by simpa using hO)
      exact ⟨v, h1, k v G H r.refl h2⟩
    · cases q⟩
theorem qe_int {i j pos} : QE X O (.Constant (.int i) j pos) (eC (.int i)) := ⟨PE.imp pe_int fun σ H Q ⟨ho, sl, hs, G, d, hs', r, q, k⟩ => by cases q; exact k _ G H r.refl (.int _)⟩
theorem qe_bl {i j pos} : QE X O (.Constant (.bool i) j pos) (eC (.bl i)) := ⟨PE.imp pe_bl fun σ H Q ⟨ho, sl, hs, G, d, hs', r, q, k⟩ => by cases q; exact k _ G H r.refl (.bl _)⟩
theorem qe_non {j pos} : QE X O (.Constant .none j pos) (eC .non) := ⟨PE.imp pe_non fun σ H Q ⟨ho, sl, hs, G, d, hs', r, q, k⟩ => by cases q; exact k _ G H r.refl .non⟩
theorem qe_str (s : List Nat) {x : Str} {j pos} (hx : x = ⟨s.toArray⟩ := by rfl) : QE X O (.Constant (.str x) j pos) (eC (.str s)) := ⟨PE.imp pe_str fun σ H Q ⟨ho, sl, hs, G, d, hs', r, q, k⟩ => by cases q; rw [hx]; exact k _ G H r.refl (.str _)⟩
/-- a module's constant -/
theorem qe_gint (i : Int) {x : Str} {pos : Pos} (hm : ∃ t, X.mg x = some (.int i t)) (hg : Gl X x := by rfl) (hd : (x == ("__debug__" : Str)) = false := by decide) : QE X O (.Name x pos) (eC (.int i)) := by
  obtain ⟨t, hm⟩ := hm
  exact ⟨PE.imp (pe_glob (v := .int i) hg hm ⟨t, rfl⟩ hd) fun σ H Q ⟨ho, sl, hs, G, d, hs', r, q, k⟩ => by cases q; exact k _ G H r.refl (.int _)⟩
theorem qe_gstr (s : List Nat) {x : Str} {pos : Pos} (hm : ∃ t, X.mg x = some (.str ⟨s.toArray⟩ t)) (hg : Gl X x := by rfl) (hd : (x == ("__debug__" : Str)) = false := by decide) : QE X O (.Name x pos) (eC (.str s)) := by
  obtain ⟨t, hm⟩ := hm
  exact ⟨PE.imp (pe_glob (v := .str ⟨s.toArray⟩) hg hm ⟨t, rfl⟩ hd) fun σ H Q ⟨ho, sl, hs, G, d, hs', r, q, k⟩ => by cases q; exact k _ G H r.refl (.str _)⟩

theorem eBin_some {op : D → D → Option D} {f g : EF} {sl : Sl} {hs hs' : Hnd} {d : D} (h : eBin op f g sl hs = some (d, hs')) : ∃ x hs1 y, f sl hs = some (x, hs1) ∧ g sl hs1 = some (y, hs') ∧ op x y = some d := by
  unfold eBin at h
  split at h
  · rename_i x hs1 e1
    split at h
    · rename_i y hs2 e2
      cases e3 : op x y with
      | none => rw [e3] at h; cases h
      | some z => rw [e3] at h; cases h; exact ⟨x, hs1, y, e1, e2, e3⟩
    · cases h
  · cases h
theorem tE_bin {op : D → D → Option D} {Q : VK} (h : tE K O (eBin op fa fb) σ H Q) : tOp (rD K op) (tE K O fa) (tE K O fb) σ H Q := by
  obtain ⟨ho, sl, hs, G, d, hs', r, q, k⟩ := h
  obtain ⟨x, hs1, y, e1, e2, e3⟩ := eBin_some q
  exact ⟨ho, sl, hs, G, x, hs1, r, e1, fun v G1 H1 c1 d1 => ⟨ho, sl, hs1, G1, y, hs', r.after c1, e2, fun w G2 H2 c2 d2 => ⟨G2, ho, hs', x, y, d, c2.gh, c2.hand, d1.mono c2.g _ _, d2, e3, fun z G' H' c3 d3 => k z G' H' ((c1.trans c2).trans c3) d3⟩⟩⟩
theorem qe_bin {op : D → D → Option D} {o : Operator} (ho : OpQ X (binaryOp o) op) (ha : QE X O a fa) (hb : QE X O b fb) : QE X O (.BinOp a o b pos) (eBin op fa fb) :=
  ⟨PE.imp (pe_op ho ha.pe hb.pe) fun _ _ _ h => tE_bin h⟩
theorem qe_cmp {op : D → D → Option D} {o : CmpOp} (ho : OpQ X (compareOp o) op) (ha : QE X O a fa) (hb : QE X O b fb) (hm : behindInMarks o b = false) : QE X O (.Compare a [o] [b] pos) (eBin op fa fb) :=
  ⟨PE.imp (pe_cmpR ho ha.pe hb.pe hm) fun _ _ _ h => tE_bin h⟩
theorem tV_some {f : EF} {sl : Sl} {hs hs' : Hnd} {b : Bool} (h : tV f sl hs = some (b, hs')) : f sl hs = some (.bl b, hs') := by
  unfold tV at h
  split at h
  · cases h; assumption
  · cases h
theorem DV_bl {ho : Option Addr} {G : Hp} {v : V} {b : Bool} (h : DV K ho G v (.bl b)) : v = .bl b := by cases h; rfl
theorem DV_int {ho : Option Addr} {G : Hp} {v : V} {b : Int} (h : DV K ho G v (.int b)) : v = .int b := by cases h; rfl
theorem tE_of_tV {f : EF} {Q : Bool → Hp → Prop} (h : tT K O (tV f) σ H Q) : tE K O f σ H (fun x H' => ∃ k, x = .bl k ∧ Q k H') := by
  obtain ⟨ho, sl, hs, G, d, hs', r, q, k⟩ := h
  exact ⟨ho, sl, hs, G, _, hs', r, tV_some q, fun v G' H' c dv => ⟨_, DV_bl dv, k G' H' c⟩⟩
theorem qt_cmp {op : D → D → Option D} {o : CmpOp} (ho : OpQ X (compareOp o) op) (ha : QE X O a fa) (hb : QE X O b fb) (hm : behindInMarks o b = false) : QT X O (.Compare a [o] [b] pos) (tV (eBin op fa fb)) :=
  ⟨PT.imp (pt_cmpR ho ha.pe hb.pe hm) fun _ _ _ h => by
    obtain ⟨ho, sl, hs, G, d, hs', r, q, k⟩ := h
    exact tE_bin ⟨ho, sl, hs, G, _, hs', r, tV_some q, fun v G' H' c dv => ⟨_, DV_bl dv, k G' H' c⟩⟩⟩
/-- an expression whose value is a bool, as a test -/
theorem qt_val {f : EF} (h : QE X O e f) (he : ∀ whole, isTrue e X.env whole = (do let v ← whole; standAt e.pos; holding [v] (truthy v)) := by intro _; rfl) : QT X O e (tV f) :=
  ⟨PT.imp (pt_val h.pe he) fun _ _ _ h => tE_of_tV h⟩
/-- a op b op' c -/
def eChain (op op' : D → D → Option D) (f g h : EF) : EF := fun sl hs => match f sl hs with
  | some (x, hs1) => (match g sl hs1 with
    | some (y, hs2) => (match op x y with
      | some (.bl true) => (match h sl hs2 with | some (z, hs3) => (op' y z).map fun r => (r, hs3) | none => none)
      | some (.bl false) => some (.bl false, hs2)
      | _ => none)
    | none => none)
  | none => none
theorem tE_chain {op op' : D → D → Option D} {Q : VK} (h : tE K O (eChain op op' fa fb fc) σ H Q) : tChain (rD K op) (rD K op') (tE K O fa) (tE K O fb) (tE K O fc) σ H Q := by
  obtain ⟨ho, sl, hs, G, d, hs', r, q, k⟩ := h
  unfold eChain at q
  split at q
  · rename_i x hs1 e1
    split at q
    · rename_i y hs2 e2
      refine ⟨ho, sl, hs, G, x, hs1, r, e1, fun v G1 H1 c1 d1 => ⟨ho, sl, hs1, G1, y, hs2, r.after c1, e2, fun w G2 H2 c2 d2 => ?_⟩⟩
      split at q
      · rename_i e3
        refine ⟨G2, ho, hs2, x, y, _, c2.gh, c2.hand, d1.mono c2.g _ _, d2, e3, fun z G3 H3 c3 d3 => ⟨true, DV_bl d3, ?_⟩⟩
        refine iteT ?_
        split at q
        · rename_i z' hs3 e4
          cases e5 : op' y z' with
          | none => rw [e5] at q; cases q
          | some t =>
            rw [e5] at q; cases q
            refine ⟨ho, sl, hs2, G3, z', hs', ((r.after c1).after c2).after c3, e4, fun u G4 H4 c4 d4 => ⟨G4, ho, hs', y, z', _, c4.gh, c4.hand, (d2.mono c3.g _ _).mono c4.g _ _, d4, e5, fun t' G5 H5 c5 d5 => k t' G5 H5 ((((c1.trans c2).trans c3).trans c4).trans c5) d5⟩⟩
        · cases q
      · rename_i e3
        cases q
        refine ⟨G2, ho, _, x, y, _, c2.gh, c2.hand, d1.mono c2.g _ _, d2, e3, fun z G3 H3 c3 d3 => ⟨false, DV_bl d3, ?_⟩⟩
        refine iteF ?_
        exact k _ G3 H3 ((c1.trans c2).trans c3) (.bl _)
      · cases q
    · cases q
  · cases q
theorem qe_chain {op op' : D → D → Option D} {o o' : CmpOp} (ho : OpQ X (compareOp o) op) (ho' : OpQ X (compareOp o') op') (ha : QE X O a fa) (hb : QE X O b fb) (hc : QE X O c fc)
    (hm : lastMarks [o, o'] [b, c] = false := by with_unfolding_all rfl) : QE X O (.Compare a [o, o'] [b, c] pos) (eChain op op' fa fb fc) :=
  ⟨PE.imp (pe_chain ho ho' ha.pe hb.pe hc.pe hm) fun _ _ _ h => tE_chain h⟩
theorem qt_chain {op op' : D → D → Option D} {o o' : CmpOp} (ho : OpQ X (compareOp o) op) (ho' : OpQ X (compareOp o') op') (ha : QE X O a fa) (hb : QE X O b fb) (hc : QE X O c fc)
    (hm : lastMarks [o, o'] [b, c] = false := by with_unfolding_all rfl) : QT X O (.Compare a [o, o'] [b, c] pos) (tV (eChain op op' fa fb fc)) :=
  ⟨PT.imp (pt_chain ho ho' ha.pe hb.pe hc.pe hm) fun _ _ _ h => by
    obtain ⟨ho, sl, hs, G, d, hs', r, q, k⟩ := h
    exact tE_chain ⟨ho, sl, hs, G, _, hs', r, tV_some q, fun v G' H' c dv => ⟨_, DV_bl dv, k G' H' c⟩⟩⟩

/-! ### and, or, not -/
variable {rest : List Expr} {ta tb : TF}
theorem tT_and {f g : TF} {Q : Bool → Hp → Prop} (h : tT K O (VI.tAnd f g) σ H Q) : L2.tAnd (tT K O f) (tT K O g) σ H Q := by
  obtain ⟨ho, sl, hs, G, d, hs', r, q, k⟩ := h
  unfold VI.tAnd at q
  split at q
  · rename_i hs1 e1
    refine ⟨ho, sl, hs, G, _, hs1, r, e1, fun G1 H1 c1 => ?_⟩
    refine iteT ?_
    exact ⟨ho, sl, hs1, G1, d, hs', r.after c1, q, fun G2 H2 c2 => k G2 H2 (c1.trans c2)⟩
  · rename_i hs1 e1
    cases q
    refine ⟨ho, sl, hs, G, _, _, r, e1, fun G1 H1 c1 => ?_⟩
    refine iteF ?_
    exact k G1 H1 c1
  · cases q
theorem tT_or {f g : TF} {Q : Bool → Hp → Prop} (h : tT K O (VI.tOr f g) σ H Q) : L2.tOr (tT K O f) (tT K O g) σ H Q := by
  obtain ⟨ho, sl, hs, G, d, hs', r, q, k⟩ := h
  unfold VI.tOr at q
  split at q
  · rename_i hs1 e1
    cases q
    refine ⟨ho, sl, hs, G, _, _, r, e1, fun G1 H1 c1 => ?_⟩
    refine iteT ?_
    exact k G1 H1 c1
  · rename_i hs1 e1
    refine ⟨ho, sl, hs, G, _, hs1, r, e1, fun G1 H1 c1 => ?_⟩
    refine iteF ?_
    exact ⟨ho, sl, hs1, G1, d, hs', r.after c1, q, fun G2 H2 c2 => k G2 H2 (c1.trans c2)⟩
  · cases q
theorem tNot_some {f : TF} {sl : Sl} {hs hs' : Hnd} {b : Bool} (h : VI.tNot f sl hs = some (b, hs')) : f sl hs = some (!b, hs') := by
  unfold VI.tNot at h
  split at h
  · rename_i c hs1 e; cases h; simpa using e
  · cases h
theorem qw_and1 (ha : QT X O a ta) : QW X O (.BoolOp .And [a] pos) ta := ⟨pw_and1 ha.pt⟩
theorem qw_or1 (ha : QT X O a ta) : QW X O (.BoolOp .Or [a] pos) ta := ⟨pw_or1 ha.pt⟩
theorem qw_and (ha : QT X O a ta) (hb : QW X O (.BoolOp .And (b :: rest) pos) tb) : QW X O (.BoolOp .And (a :: b :: rest) pos) (VI.tAnd ta tb) := ⟨PW.imp (pw_and ha.pt hb.pw) fun _ _ _ h => tT_and h⟩
theorem qw_or (ha : QT X O a ta) (hb : QW X O (.BoolOp .Or (b :: rest) pos) tb) : QW X O (.BoolOp .Or (a :: b :: rest) pos) (VI.tOr ta tb) := ⟨PW.imp (pw_or ha.pt hb.pw) fun _ _ _ h => tT_or h⟩
theorem qt_not (ha : QT X O a ta) : QT X O (.UnaryOp .Not a pos) (VI.tNot ta) := ⟨PT.imp (pt_not ha.pt) fun σ H Q ⟨ho, sl, hs, G, d, hs', r, q, k⟩ => ⟨ho, sl, hs, G, _, hs', r, tNot_some q, fun G' H' c => by show Q (!!d) H'; rw [Bool.not_not]; exact k G' H' c⟩⟩
/-- .. as values -/
theorem eT_some {f : TF} {sl : Sl} {hs hs' : Hnd} {d : D} (h : eT f sl hs = some (d, hs')) : ∃ b, f sl hs = some (b, hs') ∧ d = .bl b := by
  unfold eT at h
  split at h
  · cases h; exact ⟨_, by assumption, rfl⟩
  · cases h
theorem tV_val {f : EF} {sl : Sl} {hs hs1 : Hnd} {b : Bool} (h : f sl hs = some (.bl b, hs1)) : tV f sl hs = some (b, hs1) := by unfold tV; rw [h]
theorem qe_one {op} {f : EF} (h : QE X O a f) : QE X O (.BoolOp op [a] pos) f := ⟨pe_one h.pe⟩
theorem qe_and (ha : QE X O a fa) (hb : QE X O (.BoolOp .And (b :: rest) pos) fb) : QE X O (.BoolOp .And (a :: b :: rest) pos) (eIf (tV fa) fb (eC (.bl false))) :=
  ⟨PE.imp (pe_and ha.pe hb.pe) fun σ H Q ⟨ho, sl, hs, G, d, hs', r, q, k⟩ => by
    unfold eIf at q
    split at q
    · rename_i hs1 e1
      exact ⟨ho, sl, hs, G, _, hs1, r, tV_some e1, fun v G1 H1 c1 d1 => ⟨true, DV_bl d1, iteT ⟨ho, sl, hs1, G1, d, hs', r.after c1, q, fun w G2 H2 c2 d2 => k w G2 H2 (c1.trans c2) d2⟩⟩⟩
    · rename_i hs1 e1
      cases q
      exact ⟨ho, sl, hs, G, _, _, r, tV_some e1, fun v G1 H1 c1 d1 => ⟨false, DV_bl d1, iteF (k _ G1 H1 c1 (.bl _))⟩⟩
    · cases q⟩
theorem qe_or (ha : QE X O a fa) (hb : QE X O (.BoolOp .Or (b :: rest) pos) fb) : QE X O (.BoolOp .Or (a :: b :: rest) pos) (eIf (tV fa) (eC (.bl true)) fb) :=
  ⟨PE.imp (pe_or ha.pe hb.pe) fun σ H Q ⟨ho, sl, hs, G, d, hs', r, q, k⟩ => by
    unfold eIf at q
    split at q
    · rename_i hs1 e1
      cases q
      exact ⟨ho, sl, hs, G, _, _, r, tV_some e1, fun v G1 H1 c1 d1 => ⟨true, DV_bl d1, iteT (k _ G1 H1 c1 (.bl _))⟩⟩
    · rename_i hs1 e1
      exact ⟨ho, sl, hs, G, _, hs1, r, tV_some e1, fun v G1 H1 c1 d1 => ⟨false, DV_bl d1, iteF ⟨ho, sl, hs1, G1, d, hs', r.after c1, q, fun w G2 H2 c2 d2 => k w G2 H2 (c1.trans c2) d2⟩⟩⟩
    · cases q⟩
theorem qe_not (ha : QE X O a fa) : QE X O (.UnaryOp .Not a pos) (eT (VI.tNot (tV fa))) :=
  ⟨PE.imp (L2.pe_not ha.pe) fun σ H Q ⟨ho, sl, hs, G, d, hs', r, q, k⟩ => by
    obtain ⟨b, e1, rfl⟩ := eT_some q
    exact ⟨ho, sl, hs, G, _, hs', r, tV_some (tNot_some e1), fun v G1 H1 c1 d1 => ⟨!b, DV_bl d1, by rw [Bool.not_not]; exact k _ G1 H1 c1 (.bl _)⟩⟩⟩
theorem qe_ifExp (hc : QT X O c ta) (ha : QE X O a fa) (hb : QE X O b fb) : QE X O (.IfExp c a b pos) (eIf ta fa fb) :=
  ⟨PE.imp (pe_ifExp hc.pt ha.pe hb.pe) fun σ H Q ⟨ho, sl, hs, G, d, hs', r, q, k⟩ => by
    unfold eIf at q
    split at q
    · rename_i hs1 e1
      exact ⟨ho, sl, hs, G, _, hs1, r, e1, fun G1 H1 c1 => iteT ⟨ho, sl, hs1, G1, d, hs', r.after c1, q, fun w G2 H2 c2 d2 => k w G2 H2 (c1.trans c2) d2⟩⟩
    · rename_i hs1 e1
      exact ⟨ho, sl, hs, G, _, hs1, r, e1, fun G1 H1 c1 => iteF ⟨ho, sl, hs1, G1, d, hs', r.after c1, q, fun w G2 H2 c2 d2 => k w G2 H2 (c1.trans c2) d2⟩⟩
    · cases q⟩

/-! ### argument lists, displays -/
variable {t : AF}
theorem qa_nil : QA X O [] aNil := ⟨PA.imp pa_nil fun σ H Q ⟨ho, sl, hs, G, d, hs', r, q, k⟩ => by cases q; exact k _ G H r.refl .nil, fun _ _ _ _ h => by cases h; rfl⟩
theorem aCons_some {f : EF} {g : AF} {sl : Sl} {hs hs' : Hnd} {ds : List D} (h : aCons f g sl hs = some (ds, hs')) : ∃ x hs1 ys, f sl hs = some (x, hs1) ∧ g sl hs1 = some (ys, hs') ∧ ds = x :: ys := by
  unfold aCons at h
  split at h
  · rename_i x hs1 e1
    split at h
    · rename_i ys hs2 e2; cases h; exact ⟨x, hs1, ys, e1, e2, rfl⟩
    · cases h
  · cases h
theorem qa_cons (ha : QE X O a fa) (hr : QA X O es t) (hs : starEach (a :: es) X.env = (false, eval a X.env) :: starEach es X.env := by rfl) : QA X O (a :: es) (aCons fa t) :=
  ⟨PA.imp (pa_cons ha.pe hr.pa hs) fun σ H Q ⟨ho, sl, hs, G, d, hs', r, q, k⟩ => by
    obtain ⟨x, hs1, ys, e1, e2, rfl⟩ := aCons_some q
    exact ⟨ho, sl, hs, G, x, hs1, r, e1, fun v G1 H1 c1 d1 => ⟨ho, sl, hs1, G1, ys, hs', r.after c1, e2, fun ws G2 H2 c2 d2 => k _ G2 H2 (c1.trans c2) (.cons (d1.mono c2.g _ _) d2)⟩⟩, fun sl hs ds hs' h => by
    obtain ⟨x, hs1, ys, _, e2, rfl⟩ := aCons_some h
    simp [hr.len _ _ _ _ e2]⟩
theorem eAp_some {op : List D → Option D} {f : AF} {sl : Sl} {hs hs' : Hnd} {d : D} (h : eAp op f sl hs = some (d, hs')) : ∃ xs, f sl hs = some (xs, hs') ∧ op xs = some d := by
  unfold eAp at h
  split at h
  · rename_i xs hs1 e1
    cases e2 : op xs with
    | none => rw [e2] at h; cases h
    | some z => rw [e2] at h; cases h; exact ⟨xs, e1, e2⟩
  · cases h
def oTup (xs : List D) : Option D := if xs.length ≤ 16777216 then some (.tup xs) else none
def oLst (xs : List D) : Option D := if xs.length ≤ 16777216 then some (.lst xs) else none
theorem line_le {n : Nat} (h : n ≤ 16777216) : n ≤ sizeLine := by rw [sizeLine_eq]; exact h
theorem line_lt {n : Nat} (h : n < 16777216) : n < sizeLine := by rw [sizeLine_eq]; exact h
theorem laidTup {ho : Option Addr} {hs : Hnd} {G H : Hp} {vs : List V} {ds : List D} {p : Addr} (gh : Same G H) (hh : HandOk K G H hs ho) (dv : DVs K ho G vs ds) (hp : H p = none) :
    CallEnd K ho hs G H (upd G p (.tup vs)) (upd H p (.tup vs)) ∧ DV K ho (upd G p (.tup vs)) (.ref p) (.tup ds) :=
  have c := laidG (o := .tup vs) gh hh hp
  ⟨c, .tup upd_same (dv.mono c.g _ _)⟩
theorem laidLst {ho : Option Addr} {hs : Hnd} {G H : Hp} {vs : List V} {ds : List D} {p : Addr} (gh : Same G H) (hh : HandOk K G H hs ho) (dv : DVs K ho G vs ds) (hp : H p = none) :
    CallEnd K ho hs G H (upd G p (.lst vs)) (upd H p (.lst vs)) ∧ DV K ho (upd G p (.lst vs)) (.ref p) (.lst ds) :=
  have c := laidG (o := .lst vs) gh hh hp
  ⟨c, .lst upd_same (dv.mono c.g _ _)⟩
theorem qe_tup {x1} (h : QA X O es t) : QE X O (.Tuple es x1 pos) (eAp oTup t) :=
  ⟨PE.imp (pe_tup h.pa) fun σ H Q ⟨ho, sl, hs, G, d, hs', r, q, k⟩ => by
    obtain ⟨xs, e1, e2⟩ := eAp_some q
    unfold oTup at e2
    split at e2
    · rename_i hl
      cases e2
      refine ⟨ho, sl, hs, G, xs, hs', r, e1, fun vs G1 H1 c1 d1 => ⟨by rw [d1.length]; exact line_le hl, fun p hp => ?_⟩⟩
      obtain ⟨c2, d2⟩ := laidTup c1.gh c1.hand d1 hp
      exact k _ _ _ (c1.trans c2) d2
    · cases e2⟩
theorem qn_lst (h : QA X O es t) : QN X O (.List es pos) (eAp oLst t) :=
  ⟨PE.imp (pe_lst h.pa) fun σ H Q ⟨ho, sl, hs, G, d, hs', r, q, k⟩ => by
    obtain ⟨xs, e1, e2⟩ := eAp_some q
    unfold oLst at e2
    split at e2
    · rename_i hl
      cases e2
      refine ⟨ho, sl, hs, G, xs, hs', r, e1, fun vs G1 H1 c1 d1 => ⟨by rw [d1.length]; exact line_le hl, fun p hp => ?_⟩⟩
      have hp0 : H p = none := by
        cases z : H p with
        | none => rfl
        | some u => exact absurd hp (c1.there p (by rw [z]; simp))
      exact k p G1 _ (c1.trans (laidH c1.gh c1.hand hp)) hp0 (G_none c1.gh hp) (ho_ne c1.hand hp) ⟨vs, upd_same, d1⟩
    · cases e2⟩
theorem CallEnd.new {ho : Option Addr} {hs : Hnd} {G H G' H' : Hp} {p : Addr} (c : CallEnd K ho hs G H G' H') (hp : H' p = none) : H p = none := by
  cases z : H p with
  | none => rfl
  | some u => exact absurd hp (c.there p (by rw [z]; simp))

/-! ### subscripts -/
theorem qe_ix {op : D → D → Option D} (hr : IxR X (rD X.K op)) (ha : QE X O a fa) (hb : QE X O b fb) (hs : PlainIx b := by intro _ _; rfl) : QE X O (.Subscript a b pos) (eBin op fa fb) :=
  ⟨PE.imp (pe_ix hr ha.pe hb.pe hs) fun _ _ _ h => tE_bin h⟩

/-! ### calls of built-ins -/
variable {x : Str} {p : Pos} {id T : String}
theorem tE_call {op : List D → Option D} {Q : VK} (h : tE K O (eAp op t) σ H Q) : tCB (rC K op) (tA K O t) σ H Q := by
  obtain ⟨ho, sl, hs, G, d, hs', r, q, k⟩ := h
  obtain ⟨xs, e1, e2⟩ := eAp_some q
  exact ⟨ho, sl, hs, G, xs, hs', r, e1, fun vs G1 H1 c1 d1 => ⟨G1, ho, hs', xs, d, c1.gh, c1.hand, d1, e2, fun v G2 H2 c2 d2 => k v G2 H2 (c1.trans c2) d2⟩⟩
theorem tN_call {op : List D → Option D} {Q : VK} (h : tN K O (eAp op t) σ H Q) : tCB (rCN K op) (tA K O t) σ H Q := by
  obtain ⟨ho, sl, hs, G, d, hs', r, q, k⟩ := h
  obtain ⟨xs, e1, e2⟩ := eAp_some q
  exact ⟨ho, sl, hs, G, xs, hs', r, e1, fun vs G1 H1 c1 d1 => ⟨G1, ho, hs', xs, d, c1.gh, c1.hand, d1, e2, fun v G2 H2 c2 h0 hg hn w => k v G2 H2 (c1.trans c2) (c1.new h0) hg hn w⟩⟩
theorem qe_callB {op : List D → Option D} (hc : CallQ X (.builtin id) op) (hm : X.mg x = none) (ha : QA X O (a :: es) t) (hv : bootBuiltins x = some (.builtin id)) (hg : Gl X x := by rfl) (hn : x ≠ "__name__" := by decide) (hdb : (x == ("__debug__" : Str)) = false := by decide)
    (he : starEach (a :: es) X.env = (false, eval a X.env) :: starEach es X.env := by rfl) (hpl : (backTo pos (starEach es X.env)).any (·.1) = false := by rfl) : QE X O (.Call (.Name x p) (a :: es) [] pos) (eAp op t) :=
  ⟨PE.imp (pe_callB hc hg hm hv ha.pa hn hdb he hpl) fun _ _ _ h => tE_call h⟩
theorem qe_callTy {op : List D → Option D} (hc : CallQ X (.type T) op) (hm : X.mg x = none) (ha : QA X O (a :: es) t) (hv : bootBuiltins x = some (.type T)) (hg : Gl X x := by rfl) (hn : x ≠ "__name__" := by decide) (hdb : (x == ("__debug__" : Str)) = false := by decide)
    (he : starEach (a :: es) X.env = (false, eval a X.env) :: starEach es X.env := by rfl) (hpl : (backTo pos (starEach es X.env)).any (·.1) = false := by rfl) : QE X O (.Call (.Name x p) (a :: es) [] pos) (eAp op t) :=
  ⟨PE.imp (pe_callTy hc hg hm hv ha.pa hn hdb he hpl) fun _ _ _ h => tE_call h⟩
theorem qn_callB {op : List D → Option D} (hc : CallN X (.builtin id) op) (hm : X.mg x = none) (ha : QA X O (a :: es) t) (hv : bootBuiltins x = some (.builtin id)) (hg : Gl X x := by rfl) (hn : x ≠ "__name__" := by decide) (hdb : (x == ("__debug__" : Str)) = false := by decide)
    (he : starEach (a :: es) X.env = (false, eval a X.env) :: starEach es X.env := by rfl) (hpl : (backTo pos (starEach es X.env)).any (·.1) = false := by rfl) : QN X O (.Call (.Name x p) (a :: es) [] pos) (eAp op t) :=
  ⟨PE.imp (pe_callB hc hg hm hv ha.pa hn hdb he hpl) fun _ _ _ h => tN_call h⟩
theorem qn_callTy {op : List D → Option D} (hc : CallN X (.type T) op) (hm : X.mg x = none) (ha : QA X O (a :: es) t) (hv : bootBuiltins x = some (.type T)) (hg : Gl X x := by rfl) (hn : x ≠ "__name__" := by decide) (hdb : (x == ("__debug__" : Str)) = false := by decide)
    (he : starEach (a :: es) X.env = (false, eval a X.env) :: starEach es X.env := by rfl) (hpl : (backTo pos (starEach es X.env)).any (·.1) = false := by rfl) : QN X O (.Call (.Name x p) (a :: es) [] pos) (eAp op t) :=
  ⟨PE.imp (pe_callTy hc hg hm hv ha.pa hn hdb he hpl) fun _ _ _ h => tN_call h⟩
end
end L2.VI

/-! VI: operators, comparisons, subscripts, built-ins on plain data. -/
namespace L2.VI
open PySem PySem.Spec PyProof.Rows L2

/-! ### equality -/
mutual
def D.eqv : D → D → Bool
  | .non, .non => true
  | .bl a, .bl b => a == b
  | .bl a, .int j => (if a then 1 else 0) == j
  | .int i, .bl b => i == (if b then 1 else 0)
  | .int i, .int j => decide (i = j)
  | .str x, .str y => decide (x = y)
  | .lst xs, .lst ys => D.eqvs xs ys
  | .tup xs, .tup ys => D.eqvs xs ys
  | _, _ => false
def D.eqvs : List D → List D → Bool
  | [], [] => true
  | x :: xs, y :: ys => D.eqv x y && D.eqvs xs ys
  | _, _ => false
end
mutual
/-- plain, of at most that depth -/
def sh : Nat → D → Bool
  | _, .non => true
  | _, .bl _ => true
  | _, .int _ => true
  | _, .str s => s.all fun c => decide (c < 1114112)
  | 0, .tup _ => false
  | n + 1, .tup xs => shs n xs
  | 0, .lst _ => false
  | n + 1, .lst xs => shs n xs
  | _, .dct _ _ => false
  | _, .hnd => false
def shs : Nat → List D → Bool
  | _, [] => true
  | n, x :: xs => sh n x && shs n xs
end
mutual
def toP : D → PyData
  | .non => .none
  | .bl b => .bool b
  | .int i => .int i
  | .str s => .str ⟨s.toArray⟩
  | .tup xs => .tuple (toPs xs)
  | .lst xs => .list (toPs xs)
  | .dct _ _ => .none
  | .hnd => .none
def toPs : List D → List PyData
  | [] => []
  | x :: xs => toP x :: toPs xs
end
theorem strEq (x y : List Nat) : ((⟨x.toArray⟩ : Str) == ⟨y.toArray⟩) = decide (x = y) := by
  by_cases h : x = y
  · subst h; simp
  · rw [decide_eq_false h]
    exact beq_eq_false_iff_ne.mpr fun e => h (by have := congrArg Str.cps e; simpa using this)
mutual
theorem eqv_toP : ∀ (n m : Nat) (d e : D), sh n d = true → sh m e = true → PyData.eqv (toP d) (toP e) = D.eqv d e
  | n, m, .non, e, _, k => by cases e <;> first | rfl | (simp [sh] at k; done) | (simp [sh] at k)
  | n, m, .bl a, e, _, k => by cases e <;> first | rfl | (simp [sh] at k; done) | (simp [sh] at k)
  | n, m, .int i, e, _, k => by
    cases e <;> first
      | (rename_i j; show (i == j) = decide (i = j); exact Bool.beq_eq_decide_eq _ _)
      | rfl | (simp [sh] at k; done) | (simp [sh] at k)
  | n, m, .str s, e, _, k => by
    cases e <;> first
      | (rename_i t; exact strEq s t)
      | rfl | (simp [sh] at k; done) | (simp [sh] at k)
  | n, m, .tup xs, e, h, k => by
    cases e with
    | tup ys =>
      cases n with
      | zero => simp [sh] at h
      | succ n =>
        cases m with
        | zero => simp [sh] at k
        | succ m => exact eqvs_toP n m xs ys (by simpa [sh] using h) (by simpa [sh] using k)
    | dct _ _ => simp [sh] at k
    | hnd => simp [sh] at k
    | _ => rfl
  | n, m, .lst xs, e, h, k => by
    cases e with
    | lst ys =>
      cases n with
      | zero => simp [sh] at h
      | succ n =>
        cases m with
        | zero => simp [sh] at k
        | succ m => exact eqvs_toP n m xs ys (by simpa [sh] using h) (by simpa [sh] using k)
    | dct _ _ => simp [sh] at k
    | hnd => simp [sh] at k
    | _ => rfl
  | n, m, .dct _ _, e, h, _ => by simp [sh] at h
  | n, m, .hnd, e, h, _ => by simp [sh] at h
theorem eqvs_toP : ∀ (n m : Nat) (xs ys : List D), shs n xs = true → shs m ys = true → PyData.eqvAll (toPs xs) (toPs ys) = D.eqvs xs ys
  | n, m, [], [], _, _ => rfl
  | n, m, [], y :: ys, _, _ => rfl
  | n, m, x :: xs, [], _, _ => rfl
  | n, m, x :: xs, y :: ys, h, k => by
    simp only [shs, Bool.and_eq_true] at h k
    show (PyData.eqv (toP x) (toP y) && PyData.eqvAll (toPs xs) (toPs ys)) = (D.eqv x y && D.eqvs xs ys)
    rw [eqv_toP n m x y h.1 k.1, eqvs_toP n m xs ys h.2 k.2]
end
mutual
theorem sh_depth : ∀ (n : Nat) (d : D), sh n d = true → (toP d).depth ≤ n ∧ (toP d).canLay0 = true
  | n, .non, _ => ⟨Nat.zero_le _, rfl⟩
  | n, .bl _, _ => ⟨Nat.zero_le _, rfl⟩
  | n, .int _, _ => ⟨Nat.zero_le _, rfl⟩
  | n, .str s, h => ⟨Nat.zero_le _, by
    simp only [sh, List.all_eq_true, decide_eq_true_eq] at h
    show PyData.strOk ⟨s.toArray⟩ = true
    unfold PyData.strOk
    simp only [List.all_toArray, List.all_eq_true, decide_eq_true_eq]
    exact h⟩
  | 0, .tup _, h => by simp [sh] at h
  | n + 1, .tup xs, h => by
    have q := shs_depth n xs (by simpa [sh] using h)
    exact ⟨Nat.succ_le_succ q.1, q.2⟩
  | 0, .lst _, h => by simp [sh] at h
  | n + 1, .lst xs, h => by
    have q := shs_depth n xs (by simpa [sh] using h)
    exact ⟨Nat.succ_le_succ q.1, q.2⟩
  | n, .dct _ _, h => by simp [sh] at h
  | n, .hnd, h => by simp [sh] at h
theorem shs_depth : ∀ (n : Nat) (ds : List D), shs n ds = true → PyData.depthAll (toPs ds) ≤ n ∧ PyData.canLayAll0 (toPs ds) = true
  | n, [], _ => ⟨Nat.zero_le _, rfl⟩
  | n, d :: ds, h => by
    simp only [shs, Bool.and_eq_true] at h
    have q1 := sh_depth n d h.1
    have q2 := shs_depth n ds h.2
    refine ⟨Nat.max_le.mpr ⟨q1.1, q2.1⟩, ?_⟩
    show (PyData.canLay0 (toP d) && PyData.canLayAll0 (toPs ds)) = true
    rw [q1.2, q2.2]; rfl
end
section
variable {K : PySem.W.Frag} {ho : Option Addr} {G H : Hp}
mutual
theorem dp_of (e : Same G H) : ∀ (n : Nat) (d : D) (v : V), sh n d = true → DV K ho G v d → Dp K H v (toP d)
  | n, .non, _, _, h => by cases h; exact .non
  | n, .bl _, _, _, h => by cases h; exact .bl _
  | n, .int _, _, _, h => by cases h; exact .int _
  | n, .str _, _, _, h => by cases h; exact .str _
  | 0, .tup _, _, k, _ => by simp [sh] at k
  | n + 1, .tup xs, _, k, h => by
    cases h with | tup h1 h2 => exact .tup (SqT.of (e _ _ h1)) (dps_of e n xs _ (by simpa [sh] using k) h2)
  | 0, .lst _, _, k, _ => by simp [sh] at k
  | n + 1, .lst xs, _, k, h => by
    cases h with | lst h1 h2 => exact .lst (SqL.of (e _ _ h1)) (dps_of e n xs _ (by simpa [sh] using k) h2)
  | n, .dct _ _, _, k, _ => by simp [sh] at k
  | n, .hnd, _, k, _ => by simp [sh] at k
theorem dps_of (e : Same G H) : ∀ (n : Nat) (ds : List D) (vs : List V), shs n ds = true → DVs K ho G vs ds → DpAll K H vs (toPs ds)
  | n, [], _, _, h => by cases h; exact .nil
  | n, d :: ds, _, k, h => by
    simp only [shs, Bool.and_eq_true] at k
    cases h with | cons h1 h2 => exact .cons (dp_of e n d _ k.1 h1) (dps_of e n ds _ k.2 h2)
end
end
theorem shaped_of {d : D} (h : sh 64 d = true) : SeqAt.shaped (toP d) = true := by
  have q := sh_depth 64 d h
  unfold SeqAt.shaped
  rw [q.2, decide_eq_true q.1]; rfl

def oEq (d e : D) : Option D := if sh 64 d && sh 64 e then some (.bl (D.eqv d e)) else none
def oNe (d e : D) : Option D := if sh 64 d && sh 64 e then some (.bl (!D.eqv d e)) else none
section
variable {X : Cx}
theorem opq_eq (hu : X.A.units + 64 < cLine) : OpQ X (compareOp .Eq) oEq := by
  intro pins s σ H x y v u Q I rx ry ⟨G, ho, hs, d, e, z, gh, hh, dx, dy, ez, k⟩
  unfold oEq at ez
  split at ez
  · rename_i hz
    simp only [Bool.and_eq_true] at hz
    cases ez
    exact op_eqD hu pins s σ H x y v u Q I rx ry ⟨_, _, dp_of gh 64 d x hz.1 dx, dp_of gh 64 e y hz.2 dy, shaped_of hz.1, shaped_of hz.2, by rw [eqv_toP 64 64 d e hz.1 hz.2]; exact k _ G H (.refl gh hh) (.bl _)⟩
  · cases ez
theorem opq_ne (hu : X.A.units + 64 < cLine) : OpQ X (compareOp .NotEq) oNe := by
  intro pins s σ H x y v u Q I rx ry ⟨G, ho, hs, d, e, z, gh, hh, dx, dy, ez, k⟩
  unfold oNe at ez
  split at ez
  · rename_i hz
    simp only [Bool.and_eq_true] at hz
    cases ez
    exact op_neD hu pins s σ H x y v u Q I rx ry ⟨_, _, dp_of gh 64 d x hz.1 dx, dp_of gh 64 e y hz.2 dy, shaped_of hz.1, shaped_of hz.2, by rw [eqv_toP 64 64 d e hz.1 hz.2]; exact k _ G H (.refl gh hh) (.bl _)⟩
  · cases ez

/-! ### arithmetic -/
def mulOk (i j : Int) : Bool := decide ((-(2 ^ 64) < i ∧ i < 2 ^ 64) ∨ (-(2 ^ 64) < j ∧ j < 2 ^ 64) ∨ i.natAbs.log2 + j.natAbs.log2 < 1000000)
def oAdd : D → D → Option D
  | .int i, .int j => some (.int (i + j))
  | .str a, .str b => if a.length + b.length ≤ 16777216 then some (.str (a ++ b)) else none
  | .tup a, .tup b => if a.length + b.length ≤ 16777216 then some (.tup (a ++ b)) else none
  | .lst a, .lst b => if a.length + b.length ≤ 16777216 then some (.lst (a ++ b)) else none
  | _, _ => none
def oSub : D → D → Option D
  | .int i, .int j => some (.int (i - j))
  | _, _ => none
def oMul : D → D → Option D
  | .int i, .int j => if mulOk i j then some (.int (i * j)) else none
  | .lst a, .int k => if 0 ≤ k ∧ k < 16777217 ∧ a.length * k.toNat ≤ 16777216 then some (.lst (List.replicate k.toNat a).flatten) else none
  | _, _ => none
def oFdiv : D → D → Option D
  | .int i, .int j => if 0 < j ∧ j.natAbs.log2 < 9000 then some (.int (i / j)) else none
  | _, _ => none
def oMod : D → D → Option D
  | .int i, .int j => if 0 < j then some (.int (i % j)) else none
  | _, _ => none
def oPow : D → D → Option D
  | .int i, .int j => if 0 ≤ j ∧ j ≤ 1000000 ∧ i.natAbs < 2 ^ 64 then some (.int (i ^ j.toNat)) else none
  | _, _ => none
theorem DV_str {K : PySem.W.Frag} {ho : Option Addr} {G : Hp} {v : V} {s : List Nat} (h : DV K ho G v (.str s)) : v = .str ⟨s.toArray⟩ := by cases h; rfl
theorem str_len (s : List Nat) : (⟨s.toArray⟩ : Str).length = s.length := by simp [Str.length]
theorem str_app (a b : List Nat) : ((⟨a.toArray⟩ : Str) ++ ⟨b.toArray⟩) = ⟨(a ++ b).toArray⟩ := by
  show Str.append _ _ = _
  simp [Str.append]
theorem line_eq : sizeLine = 16777216 := sizeLine_eq
theorem opq_add : OpQ X (binaryOp .Add) oAdd := by
  intro pins s σ H x y v u Q I rx ry ⟨G, ho, hs, d, e, z, gh, hh, dx, dy, ez, k⟩
  unfold oAdd at ez
  split at ez
  · cases ez; cases dx; cases dy
    exact op_add pins s σ H _ _ v u Q I rx ry ⟨_, _, rfl, rfl, k _ G H (.refl gh hh) (.int _)⟩
  · rename_i a b
    split at ez
    · rename_i hl
      cases ez; cases dx; cases dy
      exact op_add_str pins s σ H _ _ v u Q I rx ry ⟨_, _, rfl, rfl, by rw [str_len, str_len, line_eq]; exact hl, by rw [str_app]; exact k _ G H (.refl gh hh) (.str _)⟩
    · cases ez
  · rename_i a b
    split at ez
    · rename_i hl
      cases ez
      cases dx with
      | @tup p xs _ h1 h2 =>
        cases dy with
        | @tup q ys _ h3 h4 =>
          have l1 := h2.length
          have l2 := h4.length
          refine op_catA pins s σ H _ _ v u Q I rx ry ⟨p, q, xs, ys, rfl, rfl, SqT.of (gh _ _ h1), SqT.of (gh _ _ h3), by rw [l1, l2, line_eq]; exact hl, fun e0 => ?_, fun e0 e1 => ?_, fun e0 e1 r hr => ?_⟩
          · subst e0
            have : a = [] := by cases a <;> simp_all
            subst this
            exact k _ G H (.refl gh hh) (.tup h3 (by simpa using h4))
          · subst e1
            have : b = [] := by cases b <;> simp_all
            subst this
            exact k _ G H (.refl gh hh) (.tup h1 (by simpa using h2))
          · obtain ⟨c, dv⟩ := laidTup gh hh (h2.append h4) hr
            exact k _ _ _ c dv
    · cases ez
  · rename_i a b
    split at ez
    · rename_i hl
      cases ez
      cases dx with
      | @lst p xs _ h1 h2 =>
        cases dy with
        | @lst q ys _ h3 h4 =>
          have l1 := h2.length
          have l2 := h4.length
          refine op_cat pins s σ H _ _ v u Q I rx ry ⟨p, q, xs, ys, rfl, rfl, gh _ _ h1, gh _ _ h3, by rw [l1, l2, line_eq]; exact hl, fun r hr => ?_⟩
          obtain ⟨c, dv⟩ := laidLst gh hh (h2.append h4) hr
          exact k _ _ _ c dv
    · cases ez
  · cases ez
theorem opq_sub : OpQ X (binaryOp .Sub) oSub := by
  intro pins s σ H x y v u Q I rx ry ⟨G, ho, hs, d, e, z, gh, hh, dx, dy, ez, k⟩
  unfold oSub at ez
  split at ez
  · cases ez; cases dx; cases dy
    exact op_sub pins s σ H _ _ v u Q I rx ry ⟨_, _, rfl, rfl, k _ G H (.refl gh hh) (.int _)⟩
  · cases ez
theorem DVs.rep {K : PySem.W.Frag} {ho : Option Addr} {G : Hp} {ds : List D} {vs : List V} (h : DVs K ho G vs ds) : ∀ n : Nat, DVs K ho G (List.replicate n vs).flatten (List.replicate n ds).flatten
  | 0 => .nil
  | n + 1 => by rw [List.replicate_succ, List.replicate_succ, List.flatten_cons, List.flatten_cons]; exact h.append (DVs.rep h n)
theorem opq_mul : OpQ X (binaryOp .Mult) oMul := by
  intro pins s σ H x y v u Q I rx ry ⟨G, ho, hs, d, e, z, gh, hh, dx, dy, ez, k⟩
  unfold oMul at ez
  split at ez
  · rename_i i j
    split at ez
    · rename_i hm
      cases ez; cases dx; cases dy
      unfold mulOk at hm
      rcases of_decide_eq_true hm with h | h | h
      · exact op_mul pins s σ H _ _ v u Q I rx ry ⟨_, _, rfl, rfl, .inl h, k _ G H (.refl gh hh) (.int _)⟩
      · exact op_mul pins s σ H _ _ v u Q I rx ry ⟨_, _, rfl, rfl, .inr h, k _ G H (.refl gh hh) (.int _)⟩
      · exact op_mulW pins s σ H _ _ v u Q I rx ry ⟨_, _, rfl, rfl, h, k _ G H (.refl gh hh) (.int _)⟩
    · cases ez
  · rename_i a i
    split at ez
    · rename_i hm
      cases ez
      cases dx with
      | @lst p xs _ h1 h2 =>
        cases dy
        have l1 := h2.length
        refine op_rep pins s σ H _ _ v u Q I rx ry ⟨p, i, xs, rfl, rfl, gh _ _ h1, by omega, by omega, by rw [l1, line_eq]; exact hm.2.2, fun r hr => ?_⟩
        obtain ⟨c, dv⟩ := laidLst gh hh (h2.rep i.toNat) hr
        exact k _ _ _ c dv
    · cases ez
  · cases ez
theorem opq_fdiv : OpQ X (binaryOp .FloorDiv) oFdiv := by
  intro pins s σ H x y v u Q I rx ry ⟨G, ho, hs, d, e, z, gh, hh, dx, dy, ez, k⟩
  unfold oFdiv at ez
  split at ez
  · split at ez
    · rename_i hm
      cases ez; cases dx; cases dy
      exact op_fdivW pins s σ H _ _ v u Q I rx ry ⟨_, _, rfl, rfl, hm, k _ G H (.refl gh hh) (.int _)⟩
    · cases ez
  · cases ez
theorem opq_mod : OpQ X (binaryOp .Mod) oMod := by
  intro pins s σ H x y v u Q I rx ry ⟨G, ho, hs, d, e, z, gh, hh, dx, dy, ez, k⟩
  unfold oMod at ez
  split at ez
  · split at ez
    · rename_i hm
      cases ez; cases dx; cases dy
      exact op_mod pins s σ H _ _ v u Q I rx ry ⟨_, _, rfl, rfl, hm, k _ G H (.refl gh hh) (.int _)⟩
    · cases ez
  · cases ez
theorem opq_pow : OpQ X (binaryOp .Pow) oPow := by
  intro pins s σ H x y v u Q I rx ry ⟨G, ho, hs, d, e, z, gh, hh, dx, dy, ez, k⟩
  unfold oPow at ez
  split at ez
  · split at ez
    · rename_i hm
      cases ez; cases dx; cases dy
      exact op_pow pins s σ H _ _ v u Q I rx ry ⟨_, _, rfl, rfl, hm, k _ G H (.refl gh hh) (.int _)⟩
    · cases ez
  · cases ez

/-! ### order of numbers and texts -/
def oLt : D → D → Option D
  | .int i, .int j => some (.bl (decide (i < j)))
  | .str a, .str b => some (.bl (decide (a < b)))
  | _, _ => none
def oLe : D → D → Option D
  | .int i, .int j => some (.bl (decide (i ≤ j)))
  | .str a, .str b => some (.bl (!decide (b < a)))
  | _, _ => none
def oGt : D → D → Option D
  | .int i, .int j => some (.bl (decide (j < i)))
  | .str a, .str b => some (.bl (decide (b < a)))
  | _, _ => none
def oGe : D → D → Option D
  | .int i, .int j => some (.bl (decide (j ≤ i)))
  | .str a, .str b => some (.bl (!decide (a < b)))
  | _, _ => none
theorem opq_lt : OpQ X (compareOp .Lt) oLt := by
  intro pins s σ H x y v u Q I rx ry ⟨G, ho, hs, d, e, z, gh, hh, dx, dy, ez, k⟩
  unfold oLt at ez
  split at ez
  · cases ez; cases dx; cases dy
    exact op_lt pins s σ H _ _ v u Q I rx ry ⟨_, _, rfl, rfl, k _ G H (.refl gh hh) (.bl _)⟩
  · cases ez; cases dx; cases dy
    exact op_lt_str pins s σ H _ _ v u Q I rx ry ⟨_, _, rfl, rfl, k _ G H (.refl gh hh) (.bl _)⟩
  · cases ez
theorem opq_le : OpQ X (compareOp .LtE) oLe := by
  intro pins s σ H x y v u Q I rx ry ⟨G, ho, hs, d, e, z, gh, hh, dx, dy, ez, k⟩
  unfold oLe at ez
  split at ez
  · cases ez; cases dx; cases dy
    exact op_le pins s σ H _ _ v u Q I rx ry ⟨_, _, rfl, rfl, k _ G H (.refl gh hh) (.bl _)⟩
  · cases ez; cases dx; cases dy
    exact op_le_str pins s σ H _ _ v u Q I rx ry ⟨_, _, rfl, rfl, k _ G H (.refl gh hh) (.bl _)⟩
  · cases ez
theorem opq_gt : OpQ X (compareOp .Gt) oGt := by
  intro pins s σ H x y v u Q I rx ry ⟨G, ho, hs, d, e, z, gh, hh, dx, dy, ez, k⟩
  unfold oGt at ez
  split at ez
  · cases ez; cases dx; cases dy
    exact op_gt pins s σ H _ _ v u Q I rx ry ⟨_, _, rfl, rfl, k _ G H (.refl gh hh) (.bl _)⟩
  · cases ez; cases dx; cases dy
    exact op_gt_str pins s σ H _ _ v u Q I rx ry ⟨_, _, rfl, rfl, k _ G H (.refl gh hh) (.bl _)⟩
  · cases ez
theorem opq_ge : OpQ X (compareOp .GtE) oGe := by
  intro pins s σ H x y v u Q I rx ry ⟨G, ho, hs, d, e, z, gh, hh, dx, dy, ez, k⟩
  unfold oGe at ez
  split at ez
  · cases ez; cases dx; cases dy
    exact op_ge pins s σ H _ _ v u Q I rx ry ⟨_, _, rfl, rfl, k _ G H (.refl gh hh) (.bl _)⟩
  · cases ez; cases dx; cases dy
    exact op_ge_str pins s σ H _ _ v u Q I rx ry ⟨_, _, rfl, rfl, k _ G H (.refl gh hh) (.bl _)⟩
  · cases ez

/-! ### is -/
def oIs : D → D → Option D
  | .non, .non => some (.bl true)
  | .bl a, .bl b => some (.bl (a == b))
  | .hnd, _ => none
  | _, .non => some (.bl false)
  | _, _ => none
def oIsNot : D → D → Option D
  | .non, .non => some (.bl false)
  | .bl a, .bl b => some (.bl (!(a == b)))
  | .hnd, _ => none
  | _, .non => some (.bl true)
  | _, _ => none
theorem opq_is : OpQ X (compareOp .Is) oIs := by
  intro pins s σ H x y v u Q I rx ry ⟨G, ho, hs, d, e, z, gh, hh, dx, dy, ez, k⟩
  unfold oIs at ez
  split at ez
  · cases ez; cases dx; cases dy
    exact op_isN pins s σ H _ _ v u Q I rx ry ⟨rfl, k _ G H (.refl gh hh) (.bl _)⟩
  · rename_i a b
    cases ez; cases dx; cases dy
    exact op_isBl pins s σ H _ _ v u Q I rx ry ⟨_, _, rfl, rfl, by rw [← Bool.beq_eq_decide_eq]; exact k _ G H (.refl gh hh) (.bl _)⟩
  · cases ez
  · rename_i h1 h2 h3
    cases ez; cases dy
    have e : decide (x = V.non) = false := by
      cases dx <;> first | rfl | (exact absurd rfl (by first | exact h1 rfl | simp_all)) | simp_all
    exact op_isN pins s σ H _ _ v u Q I rx ry ⟨rfl, by rw [e]; exact k _ G H (.refl gh hh) (.bl _)⟩
  · cases ez
theorem opq_isnot : OpQ X (compareOp .IsNot) oIsNot := by
  intro pins s σ H x y v u Q I rx ry ⟨G, ho, hs, d, e, z, gh, hh, dx, dy, ez, k⟩
  unfold oIsNot at ez
  split at ez
  · cases ez; cases dx; cases dy
    exact op_notN pins s σ H _ _ v u Q I rx ry ⟨rfl, k _ G H (.refl gh hh) (.bl _)⟩
  · rename_i a b
    cases ez; cases dx; cases dy
    exact op_notBl pins s σ H _ _ v u Q I rx ry ⟨_, _, rfl, rfl, by rw [← Bool.beq_eq_decide_eq]; exact k _ G H (.refl gh hh) (.bl _)⟩
  · cases ez
  · rename_i h1 h2 h3
    cases ez; cases dy
    have e : decide (x = V.non) = false := by
      cases dx <;> first | rfl | (exact absurd rfl (by first | exact h1 rfl | simp_all)) | simp_all
    exact op_notN pins s σ H _ _ v u Q I rx ry ⟨rfl, by rw [e]; exact k _ G H (.refl gh hh) (.bl _)⟩
  · cases ez
end
end L2.VI

/-! VI: subscripts, slices, built-ins on plain data. -/
namespace L2.VI
open PySem PySem.Spec PyProof.Rows L2

/-! ### dicts as pairs -/
def kOf : D → Option Key
  | .int i => some (.inl i)
  | .str s => some (.inr ⟨s.toArray⟩)
  | _ => none
def ksOf : List D → Option (List Key)
  | [] => some []
  | d :: ds => (match kOf d, ksOf ds with | some k, some ks => some (k :: ks) | _, _ => none)
def keyOk (t : Bool) (k : D) : Bool := match t, k with
  | false, k => (kOf k).isSome
  | true, .tup ks => (ksOf ks).isSome
  | true, _ => false
def dlook (ps : List (D × D)) (k : D) : Option D := (ps.find? fun p => D.eqv p.1 k).map (·.2)
def dput (ps : List (D × D)) (k v : D) : List (D × D) := if (ps.any fun p => D.eqv p.1 k) = true then ps.map (fun p => if D.eqv p.1 k = true then (p.1, v) else p) else ps ++ [(k, v)]
theorem kOf_keyD {d : D} {k : Key} (h : kOf d = some k) : keyD k = d := by
  cases d <;> simp [kOf] at h <;> subst h <;> simp [keyD]
theorem kV_of {K : PySem.W.Frag} {ho : Option Addr} {G : Hp} {d : D} {k : Key} {v : V} (h : kOf d = some k) (dv : DV K ho G v d) : v = kV k := by
  cases d <;> simp [kOf] at h <;> subst h <;> cases dv <;> rfl
theorem ksOf_keyD : ∀ {ds : List D} {ks : List Key}, ksOf ds = some ks → ks.map keyD = ds
  | [], ks, h => by cases h; rfl
  | d :: ds, ks, h => by
    unfold ksOf at h
    split at h
    · rename_i k ks' e1 e2
      cases h
      simp [kOf_keyD e1, ksOf_keyD e2]
    · cases h
theorem ksV_of {K : PySem.W.Frag} {ho : Option Addr} {G : Hp} : ∀ {ds : List D} {ks : List Key} {vs : List V}, ksOf ds = some ks → DVs K ho G vs ds → vs = ks.map kV
  | [], ks, _, h, dv => by cases h; cases dv; rfl
  | d :: ds, ks, _, h, dv => by
    unfold ksOf at h
    split at h
    · rename_i k ks' e1 e2
      cases h
      cases dv with | cons h1 h2 => rw [kV_of e1 h1, ksV_of e2 h2]; rfl
    · cases h
theorem eqv_keyD (a b : Key) : D.eqv (keyD a) (keyD b) = decide (a = b) := by
  cases a <;> cases b <;> simp [keyD, D.eqv]
  rename_i x y
  constructor
  · intro h; cases x; cases y; simp at h; simp [h]
  · intro h; rw [h]
theorem eqvs_keyD : ∀ (a b : List Key), D.eqvs (a.map keyD) (b.map keyD) = decide (a = b)
  | [], [] => rfl
  | [], _ :: _ => by simp [D.eqvs]
  | _ :: _, [] => by simp [D.eqvs]
  | x :: a, y :: b => by
    show (D.eqv (keyD x) (keyD y) && D.eqvs (a.map keyD) (b.map keyD)) = _
    rw [eqv_keyD, eqvs_keyD a b, ← Bool.decide_and]
    exact decide_eq_decide.mpr (by simp)
section
variable {K : PySem.W.Frag} {ho : Option Addr} {G : Hp}
theorem dk_look {k : Key} : ∀ {kvs : List (Key × V)} {ps : List (D × D)}, DKs K ho G kvs ps → (∀ v, valV kvs k = some v → ∃ d, dlook ps (keyD k) = some d ∧ DV K ho G v d) ∧ (valV kvs k = none → dlook ps (keyD k) = none)
  | [], _, h => by cases h; exact ⟨fun v e => by simp [valV] at e, fun _ => rfl⟩
  | (k', v') :: kvs, _, h => by
    cases h with
    | cons h1 h2 =>
      have ih := dk_look (k := k) h2
      by_cases e : k' = k
      · subst e
        refine ⟨fun v q => ?_, fun q => ?_⟩
        · rw [valV_pos rfl] at q; cases q
          exact ⟨_, by simp [dlook, eqv_keyD], h1⟩
        · rw [valV_pos rfl] at q; cases q
      · refine ⟨fun v q => ?_, fun q => ?_⟩
        · rw [valV_neg e] at q
          obtain ⟨d, e1, e2⟩ := ih.1 v q
          exact ⟨d, by simpa [dlook, eqv_keyD, e] using e1, e2⟩
        · rw [valV_neg e] at q
          simpa [dlook, eqv_keyD, e] using ih.2 q
theorem dt_look {k : List Key} : ∀ {kvs : List (List Key × V)} {ps : List (D × D)}, DTs K ho G kvs ps → (∀ v, valV kvs k = some v → ∃ d, dlook ps (.tup (k.map keyD)) = some d ∧ DV K ho G v d) ∧ (valV kvs k = none → dlook ps (.tup (k.map keyD)) = none)
  | [], _, h => by cases h; exact ⟨fun v e => by simp [valV] at e, fun _ => rfl⟩
  | (k', v') :: kvs, _, h => by
    cases h with
    | cons h1 h2 =>
      have ih := dt_look (k := k) h2
      by_cases e : k' = k
      · subst e
        refine ⟨fun v q => ?_, fun q => ?_⟩
        · rw [valV_pos rfl] at q; cases q
          exact ⟨_, by simp [dlook, D.eqv, eqvs_keyD], h1⟩
        · rw [valV_pos rfl] at q; cases q
      · refine ⟨fun v q => ?_, fun q => ?_⟩
        · rw [valV_neg e] at q
          obtain ⟨d, e1, e2⟩ := ih.1 v q
          exact ⟨d, by simpa [dlook, D.eqv, eqvs_keyD, e] using e1, e2⟩
        · rw [valV_neg e] at q
          simpa [dlook, D.eqv, eqvs_keyD, e] using ih.2 q
theorem dk_any {k : Key} : ∀ {kvs : List (Key × V)} {ps : List (D × D)}, DKs K ho G kvs ps → (ps.any fun p => D.eqv p.1 (keyD k)) = (kvs.any fun kv => decide (kv.1 = k))
  | [], _, h => by cases h; rfl
  | (k', v') :: kvs, _, h => by cases h with | cons h1 h2 => simp only [List.any_cons, eqv_keyD, dk_any h2]
theorem dt_any {k : List Key} : ∀ {kvs : List (List Key × V)} {ps : List (D × D)}, DTs K ho G kvs ps → (ps.any fun p => D.eqv p.1 (.tup (k.map keyD))) = (kvs.any fun kv => decide (kv.1 = k))
  | [], _, h => by cases h; rfl
  | (k', v') :: kvs, _, h => by cases h with | cons h1 h2 => simp only [List.any_cons, D.eqv, eqvs_keyD, dt_any h2]
theorem dk_map {k : Key} {v : V} {d : D} (hd : DV K ho G v d) : ∀ {kvs : List (Key × V)} {ps : List (D × D)}, DKs K ho G kvs ps →
    DKs K ho G (kvs.map fun kv => if kv.1 = k then (kv.1, v) else kv) (ps.map fun p => if D.eqv p.1 (keyD k) = true then (p.1, d) else p)
  | [], _, h => by cases h; exact .nil
  | (k', v') :: kvs, _, h => by
    cases h with
    | cons h1 h2 =>
      simp only [List.map_cons, eqv_keyD, decide_eq_true_eq]
      by_cases e : k' = k
      · rw [if_pos e, if_pos e]; exact .cons hd (dk_map hd h2)
      · rw [if_neg e, if_neg e]; exact .cons h1 (dk_map hd h2)
theorem dt_map {k : List Key} {v : V} {d : D} (hd : DV K ho G v d) : ∀ {kvs : List (List Key × V)} {ps : List (D × D)}, DTs K ho G kvs ps →
    DTs K ho G (kvs.map fun kv => if kv.1 = k then (kv.1, v) else kv) (ps.map fun p => if D.eqv p.1 (.tup (k.map keyD)) = true then (p.1, d) else p)
  | [], _, h => by cases h; exact .nil
  | (k', v') :: kvs, _, h => by
    cases h with
    | cons h1 h2 =>
      simp only [List.map_cons, D.eqv, eqvs_keyD, decide_eq_true_eq]
      by_cases e : k' = k
      · rw [if_pos e, if_pos e]; exact .cons hd (by simpa only [D.eqv, eqvs_keyD, decide_eq_true_eq] using dt_map hd h2)
      · rw [if_neg e, if_neg e]; exact .cons h1 (by simpa only [D.eqv, eqvs_keyD, decide_eq_true_eq] using dt_map hd h2)
theorem DKs.snoc {k : Key} {v : V} {d : D} (hd : DV K ho G v d) : ∀ {kvs : List (Key × V)} {ps : List (D × D)}, DKs K ho G kvs ps → DKs K ho G (kvs ++ [(k, v)]) (ps ++ [(keyD k, d)])
  | [], _, h => by cases h; exact .cons hd .nil
  | _ :: _, _, h => by cases h with | cons h1 h2 => exact .cons h1 (DKs.snoc hd h2)
theorem DTs.snoc {k : List Key} {v : V} {d : D} (hd : DV K ho G v d) : ∀ {kvs : List (List Key × V)} {ps : List (D × D)}, DTs K ho G kvs ps → DTs K ho G (kvs ++ [(k, v)]) (ps ++ [(.tup (k.map keyD), d)])
  | [], _, h => by cases h; exact .cons hd .nil
  | _ :: _, _, h => by cases h with | cons h1 h2 => exact .cons h1 (DTs.snoc hd h2)
theorem dk_put {k : Key} {v : V} {d : D} {kvs : List (Key × V)} {ps : List (D × D)} (hd : DV K ho G v d) (h : DKs K ho G kvs ps) : DKs K ho G (putK kvs k v) (dput ps (keyD k) d) := by
  unfold putK dput
  rw [dk_any h]
  split
  · exact dk_map hd h
  · exact h.snoc hd
theorem dt_put {k : List Key} {v : V} {d : D} {kvs : List (List Key × V)} {ps : List (D × D)} (hd : DV K ho G v d) (h : DTs K ho G kvs ps) : DTs K ho G (putK kvs k v) (dput ps (.tup (k.map keyD)) d) := by
  unfold putK dput
  rw [dt_any h]
  split
  · exact dt_map hd h
  · exact h.snoc hd
theorem DKs.length : ∀ {kvs : List (Key × V)} {ps : List (D × D)}, DKs K ho G kvs ps → kvs.length = ps.length
  | [], _, h => by cases h; rfl
  | _ :: _, _, h => by cases h with | cons _ h2 => simp [DKs.length h2]
theorem DTs.length : ∀ {kvs : List (List Key × V)} {ps : List (D × D)}, DTs K ho G kvs ps → kvs.length = ps.length
  | [], _, h => by cases h; rfl
  | _ :: _, _, h => by cases h with | cons _ h2 => simp [DTs.length h2]
/-- what a dict holds at a key -/
theorem dget_of {H : Hp} {a : Addr} {t : Bool} {ps : List (D × D)} {y : V} {k : D} (gh : Same G H) (w : OwnAt K ho G (H a) (.dct t ps)) (hk : keyOk t k = true) (dk : DV K ho G y k) :
    (∀ d, dlook ps k = some d → ∃ v, DGet H a y (some v) ∧ DV K ho G v d) ∧ (dlook ps k = none → DGet H a y none) := by
  cases t with
  | false =>
    obtain ⟨kvs, e, h⟩ := w
    have hk' : (kOf k).isSome = true := hk
    obtain ⟨kk, e2⟩ := Option.isSome_iff_exists.mp hk'
    have e3 := kV_of e2 dk
    subst e3
    have l := dk_look (k := kk) h
    rw [kOf_keyD e2] at l
    have g := DGet.k (k := kk) e
    cases q : valV kvs kk with
    | none => exact ⟨fun d z => (by rw [l.2 q] at z; cases z), fun _ => by rw [q] at g; exact g⟩
    | some v =>
      obtain ⟨d, z1, z2⟩ := l.1 v q
      rw [q] at g
      exact ⟨fun d' z => by rw [z1] at z; cases z; exact ⟨v, g, z2⟩, fun z => by rw [z1] at z; cases z⟩
  | true =>
    obtain ⟨kvs, e, h⟩ := w
    cases k with
    | tup ks =>
      have hk' : (ksOf ks).isSome = true := hk
      obtain ⟨kk, e2⟩ := Option.isSome_iff_exists.mp hk'
      cases dk with
      | @tup b vs _ h1 h2 =>
        have e3 := ksV_of e2 h2
        subst e3
        have l := dt_look (k := kk) h
        rw [ksOf_keyD e2] at l
        have g := DGet.t (k := kk) e (gh _ _ h1)
        cases q : valV kvs kk with
        | none => exact ⟨fun d z => (by rw [l.2 q] at z; cases z), fun _ => by rw [q] at g; exact g⟩
        | some v =>
          obtain ⟨d, z1, z2⟩ := l.1 v q
          rw [q] at g
          exact ⟨fun d' z => by rw [z1] at z; cases z; exact ⟨v, g, z2⟩, fun z => by rw [z1] at z; cases z⟩
    | _ => cases hk
/-- a store into a dict -/
theorem dput_of {H : Hp} {a : Addr} {t : Bool} {ps : List (D × D)} {y v : V} {k d : D} (gh : Same G H) (w : OwnAt K ho G (H a) (.dct t ps)) (hk : keyOk t k = true) (dk : DV K ho G y k) (dv : DV K ho G v d) (hl : ps.length < 16777216) :
    ∃ o, DPut H a y v (upd H a o) ∧ OwnAt K ho G (some o) (.dct t (dput ps k d)) := by
  cases t with
  | false =>
    obtain ⟨kvs, e, h⟩ := w
    have hk' : (kOf k).isSome = true := hk
    obtain ⟨kk, e2⟩ := Option.isSome_iff_exists.mp hk'
    have e3 := kV_of e2 dk
    subst e3
    exact ⟨_, DPut.k e (line_lt (by rw [h.length]; exact hl)), _, rfl, by rw [← kOf_keyD e2]; exact dk_put dv h⟩
  | true =>
    obtain ⟨kvs, e, h⟩ := w
    cases k with
    | tup ks =>
      have hk' : (ksOf ks).isSome = true := hk
      obtain ⟨kk, e2⟩ := Option.isSome_iff_exists.mp hk'
      cases dk with
      | @tup b vs _ h1 h2 =>
        have e3 := ksV_of e2 h2
        subst e3
        exact ⟨_, DPut.t e (gh _ _ h1) (line_lt (by rw [h.length]; exact hl)), _, rfl, by rw [← ksOf_keyD e2]; exact dt_put dv h⟩
    | _ => cases hk
/-- a dict that is data -/
theorem own_dct {H : Hp} {a : Addr} {t : Bool} {ps : List (D × D)} (gh : Same G H) (h : DV K ho G (.ref a) (.dct t ps)) : OwnAt K ho G (H a) (.dct t ps) := by
  cases h with
  | dK h1 h2 => exact ⟨_, gh _ _ h1, h2⟩
  | dT h1 h2 => exact ⟨_, gh _ _ h1, h2⟩
theorem dct_ref {v : V} {t : Bool} {ps : List (D × D)} (h : DV K ho G v (.dct t ps)) : ∃ a, v = .ref a := by
  cases h <;> exact ⟨_, rfl⟩
end

/-! ### subscripts -/
theorem atI_map {α β : Type} (f : α → β) (xs : List α) (i : Int) : atI (xs.map f) i = (atI xs i).map f := by
  unfold atI
  rw [List.length_map]
  cases ixN xs.length i <;> simp
theorem DVs.atI {K : PySem.W.Frag} {ho : Option Addr} {G : Hp} {ds : List D} {vs : List V} {i : Int} {d : D} (h : DVs K ho G vs ds) (e : L2.atI ds i = some d) : ∃ v, L2.atI vs i = some v ∧ DV K ho G v d := by
  unfold L2.atI at e ⊢
  rw [h.length]
  cases q : ixN ds.length i with
  | none => rw [q] at e; cases e
  | some j => rw [q] at e; exact h.get e
def oIx : D → D → Option D
  | .lst xs, .int i => atI xs i
  | .tup xs, .int i => atI xs i
  | .str s, .int i => if s.length ≤ 16777216 then (atI s i).map (fun c => .str [c]) else none
  | .dct t ps, k => if keyOk t k then dlook ps k else none
  | _, _ => none
section
variable {X : Cx}
theorem ixq (hu : X.A.units + 1 < cLine) : IxR X (rD X.K oIx) := by
  intro value slice pins s σ H x y v u Q I rx ry ⟨G, ho, hs, d, e, z, gh, hh, dx, dy, ez, k⟩ hsub
  unfold oIx at ez
  split at ez
  · cases dy
    cases dx with
    | @lst a vs _ h1 h2 =>
      obtain ⟨w, e1, e2⟩ := h2.atI ez
      exact ix_list value slice pins s σ H _ _ v u Q I rx ry ⟨a, vs, _, w, rfl, rfl, SqL.of (gh _ _ h1), e1, k w G H (.refl gh hh) e2⟩ hsub
  · cases dy
    cases dx with
    | @tup a vs _ h1 h2 =>
      obtain ⟨w, e1, e2⟩ := h2.atI ez
      exact ix_tup value slice pins s σ H _ _ v u Q I rx ry ⟨a, vs, _, w, rfl, rfl, SqT.of (gh _ _ h1), e1, k w G H (.refl gh hh) e2⟩ hsub
  · cases dy
    cases dx
    split at ez
    · rename_i s' i hl
      obtain ⟨c, e1, e2⟩ := Option.map_eq_some_iff.mp ez
      subst e2
      exact ix_str value slice pins s σ H _ _ v u Q I rx ry ⟨_, _, c, rfl, rfl, by rw [str_len, line_eq]; exact hl, by simpa using e1, k _ G H (.refl gh hh) (.str [c])⟩ hsub
    · cases ez
  · split at ez
    · rename_i t ps kk hk
      obtain ⟨a, rfl⟩ := dct_ref dx
      obtain ⟨w, g, dw⟩ := (dget_of gh (own_dct gh dx) hk dy).1 z ez
      obtain rfl : v = Value.ref a := rx
      exact tail_any (dict_typeIs I g) PySem.F.slot_dict_getitem.lookup (d_getItem hu I g ry fun w' s3 I3 rw' => ⟨w, H, I3, rw', k w G H (.refl gh hh) dw⟩) hsub
    · cases ez
  · cases ez

/-! ### slices -/
abbrev PF := Sl → Hnd → Option (Option Int × Hnd)
def pNone : PF := fun _ hs => some (none, hs)
def pSome (f : EF) : PF := fun sl hs => match f sl hs with
  | some (.int i, hs1) => some (some i, hs1)
  | _ => none
def cut {α : Type} (xs : List α) (lo hi : Option Int) : List α := (xs.drop (HT.sIx xs.length 0 lo)).take (HT.sIx xs.length xs.length hi - HT.sIx xs.length 0 lo)
def oSl (d : D) (lo hi : Option Int) : Option D := match d with
  | .lst xs => some (.lst (cut xs lo hi))
  | .tup xs => some (.tup (cut xs lo hi))
  | .str s => if s.length ≤ 16777216 then some (.str (cut s lo hi)) else none
  | _ => none
def eSl (f : EF) (p q : PF) : EF := fun sl hs => match f sl hs with
  | some (x, hs1) => (match p sl hs1 with
    | some (lo, hs2) => (match q sl hs2 with
      | some (hi, hs3) => (oSl x lo hi).map fun r => (r, hs3)
      | none => none)
    | none => none)
  | none => none
def tPO (K : PySem.W.Frag) (O : List Nat) (f : PF) : TO := fun σ H Q => ∃ ho sl hs G o hs', Rl K ho O sl hs σ G H ∧ f sl hs = some (o, hs') ∧ ∀ G' H', CallEnd K ho hs' G H G' H' → Q o H'
structure QP (X : Cx) (O : List Nat) (e : Option Expr) (f : PF) : Prop where
  po : PO X e (tPO X.K O f)
theorem PO.imp {e : Option Expr} {t u : TO} (h : PO X e t) (i : ∀ σ H Q, u σ H Q → t σ H Q) : PO X e u := ⟨fun pins s σ H Q I q => h.run pins s σ H Q I (i σ H Q q)⟩
variable {O : List Nat} {e : Expr} {fe : EF}
theorem qp_none : QP X O none pNone := ⟨PO.imp po_none fun σ H Q ⟨ho, sl, hs, G, o, hs', r, q, k⟩ => by cases q; exact k G H r.refl⟩
theorem qp_some (h : QE X O e fe) : QP X O (some e) (pSome fe) := ⟨PO.imp (po_some h.pe) fun σ H Q ⟨ho, sl, hs, G, o, hs', r, q, k⟩ => by
  unfold pSome at q
  split at q
  · rename_i i hs1 e1
    cases q
    exact ⟨ho, sl, hs, G, _, _, r, e1, fun v G' H' c dv => ⟨i, DV_int dv, k G' H' c⟩⟩
  · cases q⟩
theorem cut_str (s : List Nat) (lo hi : Option Int) : cutS ⟨s.toArray⟩ lo hi = ⟨(cut s lo hi).toArray⟩ := by
  unfold cutS cut
  simp [Str.length]
theorem DVs.cut {K : PySem.W.Frag} {ho : Option Addr} {G : Hp} {ds : List D} {vs : List V} (h : DVs K ho G vs ds) (lo hi : Option Int) : DVs K ho G (cutV vs lo hi) (VI.cut ds lo hi) := by
  unfold cutV VI.cut
  rw [h.length]
  exact (h.drop _).take _
theorem cut_all {α : Type} {xs : List α} {lo hi : Option Int} (h : HT.sIx xs.length 0 lo = 0 ∧ HT.sIx xs.length xs.length hi = xs.length) : cut xs lo hi = xs := by
  unfold cut
  rw [h.1, h.2]; simp
theorem qe_slice {lo hi : Option Expr} {p q : PF} {pos p2 : Pos} (he : QE X O e fe) (hl : QP X O lo p) (hu : QP X O hi q) : QE X O (.Subscript e (.Slice lo hi none p2) pos) (eSl fe p q) := by
  refine ⟨PE.imp (pe_slice (r := fun x lo hi H Q => rSlL X.K x lo hi H Q ∨ (rSlA X.K x lo hi H Q ∨ rSlS x lo hi H Q)) (sl_list.or (sl_tupA.or sl_str)) he.pe hl.po hu.po) fun σ H Q ⟨ho, sl, hs, G, d, hs', r, ez, k⟩ => ?_⟩
  unfold eSl at ez
  split at ez
  · rename_i x hs1 e1
    split at ez
    · rename_i l hs2 e2
      split at ez
      · rename_i u hs3 e3
        cases e4 : oSl x l u with
        | none => rw [e4] at ez; cases ez
        | some z =>
          rw [e4] at ez; cases ez
          refine ⟨ho, sl, hs, G, x, hs1, r, e1, fun v G1 H1 c1 d1 => ⟨ho, sl, hs1, G1, l, hs2, r.after c1, e2, fun G2 H2 c2 => ⟨ho, sl, hs2, G2, u, _, (r.after c1).after c2, e3, fun G3 H3 c3 => ?_⟩⟩⟩
          have c123 := (c1.trans c2).trans c3
          have d3 := (d1.mono c2.g _ _).mono c3.g _ _
          unfold oSl at e4
          split at e4
          · cases e4
            cases d3 with
            | @lst a vs _ h1 h2 =>
              refine .inl ⟨a, vs, rfl, SqL.of (c3.gh _ _ h1), fun p hp => ?_⟩
              obtain ⟨c, dv⟩ := laidLst c3.gh c3.hand (h2.cut l u) hp
              exact k _ _ _ (c123.trans c) dv
          · cases e4
            cases d3 with
            | @tup a vs ds h1 h2 =>
              have hlen := h2.length
              refine .inr (.inl ⟨a, vs, rfl, SqT.of (c3.gh _ _ h1), fun hw => ?_, fun hw p hp => ?_⟩)
              · rw [hlen] at hw
                rw [cut_all hw] at k
                exact k _ G3 H3 c123 (.tup h1 h2)
              · obtain ⟨c, dv⟩ := laidTup c3.gh c3.hand (h2.cut l u) hp
                exact k _ _ _ (c123.trans c) dv
          · split at e4
            · rename_i hl2
              cases e4
              cases d3
              exact .inr (.inr ⟨_, rfl, by rw [str_len, line_eq]; exact hl2, by rw [cut_str]; exact k _ G3 H3 c123 (.str _)⟩)
            · cases e4
          · cases e4
      · cases ez
    · cases ez
  · cases ez

/-! ### isinstance -/
def tyN : D → Option String
  | .non => some "NoneType" | .bl _ => some "bool" | .int _ => some "int" | .str _ => some "str"
  | .tup _ => some "tuple" | .lst _ => some "list" | .dct _ _ => some "dict" | .hnd => none
def isT (a b : String) : Bool := a == b || (a == "bool" && b == "int") || b == "object"
def oIsi (ts : List String) (d : D) : Option D := (tyN d).map fun a => .bl (ts.any fun b => isT a b)
theorem kitB_ok : ∀ a ∈ ["NoneType", "bool", "int", "str", "tuple", "list", "dict"], ∀ b ∈ ["bool", "int", "str", "tuple", "list", "dict"], kitB a b = some (isT a b) := by decide +kernel
theorem tyX_of {K : PySem.W.Frag} {ho : Option Addr} {G H : Hp} {v : V} {d : D} {a : String} (gh : Same G H) (h : tyN d = some a) (dv : DV K ho G v d) : TyX K H v (.type a) ∧ a ∈ ["NoneType", "bool", "int", "str", "tuple", "list", "dict"] := by
  cases dv <;> simp only [tyN, Option.some.injEq, reduceCtorEq] at h <;> subst h
  · exact ⟨.base .non, by simp⟩
  · exact ⟨.base (.bl _), by simp⟩
  · exact ⟨.base (.int _), by simp⟩
  · exact ⟨.base (.str _), by simp⟩
  · rename_i h1 _; exact ⟨.base (.tup (gh _ _ h1)), by simp⟩
  · rename_i h1 _; exact ⟨.base (.lst (gh _ _ h1)), by simp⟩
  · rename_i h1 _; exact ⟨.base (.dK (gh _ _ h1)), by simp⟩
  · rename_i h1 _; exact ⟨.base (.dT (gh _ _ h1)), by simp⟩
theorem qe_isi (T : String) {t : Str} {p p1 pos : Pos} (hm : X.mg "isinstance" = none) (hmt : X.mg t = none) (he : QE X O e fe) (hT : T ∈ ["bool", "int", "str", "tuple", "list", "dict"] := by decide) (hv : bootBuiltins t = some (.type T) := by decide +kernel)
    (hv0 : bootBuiltins "isinstance" = some (.builtin "isinstance") := by decide +kernel) (hg : Gl X "isinstance" := by rfl) (hgt : Gl X t := by rfl) (hn : t ≠ "__name__" := by decide) (hd : (t == ("__debug__" : Str)) = false := by decide)
    (he1 : starEach [e, .Name t p1] X.env = (false, eval e X.env) :: starEach [.Name t p1] X.env := by rfl) (he2 : starEach [.Name t p1] X.env = (false, eval (.Name t p1) X.env) :: starEach [] X.env := by rfl)
    (hpl : (backTo pos (starEach [.Name t p1] X.env)).any (·.1) = false := by rfl) : QE X O (.Call (.Name "isinstance" p) [e, .Name t p1] [] pos) (eUn (oIsi [T]) fe) :=
  ⟨PE.imp (pe_callB call_isi hg hm hv0 (pa_cons he.pe (pa_cons (pe_bltn (v := .ty T) hgt hmt hv rfl hn hd) pa_nil he2) he1) (by decide) (by decide) he1 hpl) fun σ H Q ⟨ho, sl, hs, G, d, hs', r, q, k⟩ => by
    unfold eUn at q
    split at q
    · rename_i x hs1 e1
      cases e2 : oIsi [T] x with
      | none => rw [e2] at q; cases q
      | some z =>
        rw [e2] at q; cases q
        refine ⟨ho, sl, hs, G, x, _, r, e1, fun v G1 H1 c1 d1 => ?_⟩
        unfold oIsi at e2
        cases e3 : tyN x with
        | none => rw [e3] at e2; cases e2
        | some a =>
          rw [e3] at e2; cases e2
          obtain ⟨t1, t2⟩ := tyX_of c1.gh e3 d1
          exact ⟨v, .ty T, .type a, .type T, _, rfl, .ty T, t1, kit_ty (kitB_ok a t2 T hT), k _ G1 H1 c1 (by simp; exact .bl _)⟩
    · cases q⟩
end
end L2.VI

/-! VI: statements, targets, loops, comprehensions. -/
namespace L2.VI
open PySem PySem.Spec PyProof.Rows L2

/-- the entry of a def: its heap, its data, its hand -/
structure Bs where
  H0 : Hp
  G0 : Hp
  hs0 : Hnd
  ha : Option Addr

structure Rel (K : PySem.W.Frag) (B : Bs) (O : List Nat) (sl : Sl) (hs : Hnd) (σ : L2.St) (G H : Hp) : Prop where
  rl : Rl K B.ha O sl hs σ G H
  ce : CallEnd K B.ha hs B.G0 B.H0 G H
  fr : ∀ i a, i ∈ O → sl[i]? ≠ some none → σ[i]? = some (some (.ref a)) → B.H0 a = none

inductive Out where
  | nx (sl : Sl) (hs : Hnd)
  | rt (d : D) (hs : Hnd)
  | bk (sl : Sl) (hs : Hnd)
  | ct (sl : Sl) (hs : Hnd)
abbrev SF := Sl → Hnd → Option Out
def Post (K : PySem.W.Frag) (B : Bs) (O L : List Nat) (Dn : Ends) (G0 : Hp) : Out → Prop
  | .nx sl hs => ∀ σ G H, Same G0 G → Rel K B O sl hs σ G H → Dn.nx σ H
  | .rt d hs => ∀ v G H, CallEnd K B.ha hs B.G0 B.H0 G H → DV K B.ha G v d → Dn.rt v H
  | .bk sl hs => ∀ σ G H, Same G0 G → Rel K B L sl hs σ G H → Dn.bk σ H
  | .ct sl hs => ∀ σ G H, Same G0 G → Rel K B L sl hs σ G H → Dn.ct σ H
theorem Post.mono {K : PySem.W.Frag} {B : Bs} {O L : List Nat} {Dn : Ends} {G0 G1 : Hp} (e : Same G0 G1) : ∀ {o : Out}, Post K B O L Dn G0 o → Post K B O L Dn G1 o
  | .nx _ _, h => fun σ G H s r => h σ G H (e.trans s) r
  | .rt _ _, h => h
  | .bk _ _, h => fun σ G H s r => h σ G H (e.trans s) r
  | .ct _ _, h => fun σ G H s r => h σ G H (e.trans s) r
def tS (K : PySem.W.Frag) (B : Bs) (O O' L : List Nat) (f : SF) : TS := fun Dn σ H => ∃ sl hs G o, Rel K B O sl hs σ G H ∧ f sl hs = some o ∧ Post K B O' L Dn G o
structure QS (X : Cx) (B : Bs) (O O' L : List Nat) (st : Stmt) (f : SF) : Prop where
  ps : PS X st (tS X.K B O O' L f)
structure QSs (X : Cx) (B : Bs) (O O' L : List Nat) (sts : List Stmt) (f : SF) : Prop where
  ps : PSs X sts (tS X.K B O O' L f)
theorem PS.imp {X : Cx} {e : Stmt} {t u : TS} (h : PS X e t) (i : ∀ D σ H, u D σ H → t D σ H) : PS X e u := ⟨fun pins s σ H D I q => h.run pins s σ H D I (i D σ H q)⟩
theorem PSs.imp {X : Cx} {e : List Stmt} {t u : TS} (h : PSs X e t) (i : ∀ D σ H, u D σ H → t D σ H) : PSs X e u := ⟨fun pins s σ H D I q => h.run pins s σ H D I (i D σ H q)⟩

section
variable {K : PySem.W.Frag} {B : Bs} {O O' L : List Nat} {sl : Sl} {hs hs' : Hnd} {σ : L2.St} {G H G' H' : Hp}
theorem Rel.after (r : Rel K B O sl hs σ G H) (e : CallEnd K B.ha hs' G H G' H') : Rel K B O sl hs' σ G' H' := ⟨r.rl.after e, r.ce.trans e, r.fr⟩
/-- own slots are forgotten to be own -/
theorem Rel.freeze (r : Rel K B O sl hs σ G H) (k : Nat) : ∃ G', Same G G' ∧ Rel K B (O.filter fun j => j != k) sl hs σ G' H := by
  by_cases hk : k ∈ O ∧ ∃ d, sl[k]? = some (some d)
  · obtain ⟨hk, d, hd⟩ := hk
    obtain ⟨a, h1, h2, h3, h4⟩ := r.rl.own k d hd hk
    have h0 : B.H0 a = none := r.fr k a hk (by rw [hd]; simp) h1
    obtain ⟨u, hu⟩ := h4.some
    obtain ⟨G2, c2, dv, s2, ne2⟩ := VI.freeze (p := a) r.ce h0 h2 h3 h4
    refine ⟨G2, s2, ⟨⟨c2.gh, r.rl.len, fun i e he hn => ?_, fun i e he hi => ?_, fun i j b hi hj hij z1 z2 z3 => ?_, c2.hand⟩, c2, fun i b hi z1 z2 => r.fr i b (List.mem_filter.mp hi).1 z1 z2⟩⟩
    · by_cases hik : i = k
      · subst hik
        rw [hd] at he; cases he
        exact ⟨_, h1, dv⟩
      · obtain ⟨v, q1, q2⟩ := r.rl.dat i e he fun z => hn (List.mem_filter.mpr ⟨z, by simpa using hik⟩)
        exact ⟨v, q1, q2.mono s2 _ _⟩
    · obtain ⟨hi1, hi2⟩ := List.mem_filter.mp hi
      have hik : i ≠ k := by simpa using hi2
      obtain ⟨b, q1, q2, q3, q4⟩ := r.rl.own i e he hi1
      have hab : b ≠ a := fun z => by
        subst z
        exact r.rl.sep k i b hk hi1 (Ne.symm hik) (by rw [hd]; simp) (by rw [he]; simp) h1 q1
      exact ⟨b, q1, by rw [ne2 b hab]; exact q2, q3, q4.mono s2⟩
    · exact r.rl.sep i j b (List.mem_filter.mp hi).1 (List.mem_filter.mp hj).1 hij z1 z2 z3
  · refine ⟨G, Same.refl _, ⟨⟨r.rl.gh, r.rl.len, fun i d hd hn => ?_, fun i d hd hi => r.rl.own i d hd (List.mem_filter.mp hi).1, fun i j b hi hj => r.rl.sep i j b (List.mem_filter.mp hi).1 (List.mem_filter.mp hj).1, r.rl.hand⟩, r.ce, fun i a hi => r.fr i a (List.mem_filter.mp hi).1⟩⟩
    by_cases hi : i ∈ O
    · by_cases hik : i = k
      · subst hik; exact absurd ⟨hi, d, hd⟩ hk
      · exact absurd (List.mem_filter.mpr ⟨hi, by simpa using hik⟩) hn
    · exact r.rl.dat i d hd hi
theorem Rel.perm {O2 : List Nat} (r : Rel K B O sl hs σ G H) (h : ∀ j, j ∈ O ↔ j ∈ O2) : Rel K B O2 sl hs σ G H :=
  ⟨⟨r.rl.gh, r.rl.len, fun i d hd hn => r.rl.dat i d hd fun z => hn ((h i).mp z), fun i d hd hi => r.rl.own i d hd ((h i).mpr hi), fun i j b hi hj => r.rl.sep i j b ((h i).mpr hi) ((h j).mpr hj), r.rl.hand⟩, r.ce, fun i a hi => r.fr i a ((h i).mpr hi)⟩
theorem Rel.drop : ∀ (ks : List Nat) {O : List Nat} {G : Hp}, Rel K B O sl hs σ G H → ∃ G', Same G G' ∧ Rel K B (O.filter fun j => !ks.contains j) sl hs σ G' H
  | [], O, G, r => ⟨G, Same.refl _, r.perm fun j => by simp⟩
  | k :: ks, O, G, r => by
    obtain ⟨G1, s1, r1⟩ := r.freeze k
    obtain ⟨G2, s2, r2⟩ := Rel.drop ks r1
    refine ⟨G2, s1.trans s2, r2.perm fun j => ?_⟩
    simp only [List.mem_filter, List.contains_cons, Bool.not_or, Bool.and_eq_true, bne, and_assoc]
/-- fewer own slots -/
theorem Rel.to (O2 : List Nat) (h : (O2.all fun j => O.contains j) = true) (r : Rel K B O sl hs σ G H) : ∃ G', Same G G' ∧ Rel K B O2 sl hs σ G' H := by
  obtain ⟨G', s1, r1⟩ := r.drop (O.filter fun j => !O2.contains j)
  refine ⟨G', s1, r1.perm fun j => ?_⟩
  simp only [List.all_eq_true, List.contains_iff_mem] at h
  simp only [List.mem_filter, Bool.not_eq_true', List.contains_eq_mem, decide_eq_false_iff_not]
  constructor
  · rintro ⟨h1, h2⟩
    have h2' : ¬ (j ∈ O ∧ ¬ j ∈ O2) := by simpa using h2
    exact Classical.byContradiction fun z => h2' ⟨h1, z⟩
  · intro h1
    exact ⟨h j h1, by simpa using fun _ => h1⟩
end

/-! ### blocks -/
section
variable {X : Cx} {B : Bs} {O O1 O2 O' L : List Nat} {st : Stmt} {rest : List Stmt} {e : Expr} {fe : EF} {f g : SF} {pos : Pos}
def sNil : SF := fun sl hs => some (.nx sl hs)
def sSeq (f g : SF) : SF := fun sl hs => match f sl hs with
  | some (.nx sl1 hs1) => g sl1 hs1
  | r => r
def sNever : SF := fun _ _ => none
theorem qss_nil : QSs X B O O L [] sNil := ⟨PSs.imp pss_nil fun D σ H ⟨sl, hs, G, o, r, q, k⟩ => by cases q; exact k σ G H (Same.refl _) r⟩
theorem qss_one (h : QS X B O O' L st f) : QSs X B O O' L [st] f := ⟨pss_one h.ps⟩
theorem qss_cons (h1 : QS X B O O1 L st f) (h2 : QSs X B O1 O' L rest g) : QSs X B O O' L (st :: rest) (sSeq f g) :=
  ⟨PSs.imp (pss_cons h1.ps h2.ps) fun D σ H ⟨sl, hs, G, o, r, q, k⟩ => by
    unfold sSeq at q
    split at q
    · rename_i sl1 hs1 e1
      exact ⟨sl, hs, G, _, r, e1, fun σ1 G1 H1 s1 r1 => ⟨sl1, hs1, G1, o, r1, q, k.mono s1⟩⟩
    · rename_i hne
      cases o with
      | nx sl1 hs1 => exact absurd q (hne sl1 hs1)
      | rt d hs1 => exact ⟨sl, hs, G, _, r, q, k⟩
      | bk sl1 hs1 => exact ⟨sl, hs, G, _, r, q, k⟩
      | ct sl1 hs1 => exact ⟨sl, hs, G, _, r, q, k⟩⟩
/-- behind a block fewer own slots are wanted -/
theorem qss_to (O2 : List Nat) (h : QSs X B O O1 L rest f) (hO : (O2.all fun j => O1.contains j) = true := by rfl) : QSs X B O O2 L rest f :=
  ⟨PSs.imp h.ps fun D σ H ⟨sl, hs, G, o, r, q, k⟩ => ⟨sl, hs, G, o, r, q, by
    cases o with
    | nx sl1 hs1 => exact fun σ1 G1 H1 s1 r1 => (let ⟨G2, s2, r2⟩ := Rel.to O2 hO r1; k σ1 G2 H1 (s1.trans s2) r2)
    | rt d hs1 => exact k
    | bk sl1 hs1 => exact k
    | ct sl1 hs1 => exact k⟩⟩
/-- ahead of a statement own slots become data -/
theorem qs_frz (O1 : List Nat) (h : QS X B O1 O' L st f) (hO : (O1.all fun j => O.contains j) = true := by rfl) : QS X B O O' L st f :=
  ⟨PS.imp h.ps fun D σ H ⟨sl, hs, G, o, r, q, k⟩ => (let ⟨G2, s2, r2⟩ := Rel.to O1 hO r; ⟨sl, hs, G2, o, r2, q, k.mono s2⟩)⟩
theorem qs_never : QS X B O O' L st sNever := ⟨PS.imp ps_never fun D σ H ⟨sl, hs, G, o, r, q, k⟩ => by cases q⟩
theorem qs_pass : QS X B O O L (.Pass pos) sNil := ⟨PS.imp ps_pass fun D σ H ⟨sl, hs, G, o, r, q, k⟩ => by cases q; exact k σ G H (Same.refl _) r⟩
def sBreak : SF := fun sl hs => some (.bk sl hs)
theorem qs_break (hO : (L.all fun j => O.contains j) = true := by rfl) : QS X B O O' L (.Break pos) sBreak := ⟨PS.imp ps_break fun D σ H ⟨sl, hs, G, o, r, q, k⟩ => by cases q; exact (let ⟨G2, s2, r2⟩ := Rel.to L hO r; k σ G2 H s2 r2)⟩
def sExpr (f : EF) : SF := fun sl hs => match f sl hs with
  | some (_, hs1) => some (.nx sl hs1)
  | none => none
theorem qs_expr (he : QE X O e fe) (hs : swapsWith e none pos.line X.env = pure false := by rfl) : QS X B O O L (.Expr e pos) (sExpr fe) :=
  ⟨PS.imp (ps_expr he.pe hs) fun D σ H ⟨sl, hs, G, o, r, q, k⟩ => by
    unfold sExpr at q
    split at q
    · rename_i d hs1 e1
      cases q
      exact ⟨_, sl, hs, G, d, hs1, r.rl, e1, fun v G1 H1 c1 d1 => k σ G1 H1 c1.g (r.after c1)⟩
    · cases q⟩
def sRet (f : EF) : SF := fun sl hs => match f sl hs with
  | some (d, hs1) => some (.rt d hs1)
  | none => none
theorem qs_ret (he : QE X O e fe) : QS X B O O' L (.Return (some e) pos) (sRet fe) :=
  ⟨PS.imp (ps_ret he.pe) fun D σ H ⟨sl, hs, G, o, r, q, k⟩ => by
    unfold sRet at q
    split at q
    · rename_i d hs1 e1
      cases q
      exact ⟨_, sl, hs, G, d, hs1, r.rl, e1, fun v G1 H1 c1 d1 => k v G1 H1 (r.ce.trans c1) d1⟩
    · cases q⟩
def sIf (t : TF) (f g : SF) : SF := fun sl hs => match t sl hs with
  | some (true, hs1) => f sl hs1
  | some (false, hs1) => g sl hs1
  | none => none
theorem qs_if {c : Expr} {a b : List Stmt} {t : TF} (hc : QT X O c t) (ha : QSs X B O O' L a f) (hb : QSs X B O O' L b g) : QS X B O O' L (.If c a b pos) (sIf t f g) :=
  ⟨PS.imp (ps_if hc.pt ha.ps hb.ps) fun D σ H ⟨sl, hs, G, o, r, q, k⟩ => by
    unfold sIf at q
    split at q
    · rename_i hs1 e1
      exact ⟨_, sl, hs, G, _, hs1, r.rl, e1, fun G1 H1 c1 => iteT ⟨sl, hs1, G1, o, r.after c1, q, k.mono c1.g⟩⟩
    · rename_i hs1 e1
      exact ⟨_, sl, hs, G, _, hs1, r.rl, e1, fun G1 H1 c1 => iteF ⟨sl, hs1, G1, o, r.after c1, q, k.mono c1.g⟩⟩
    · cases q⟩

/-! ### stores to names -/
def rm (O : List Nat) (i : Nat) : List Nat := O.filter fun j => j != i
theorem mem_rm {O : List Nat} {i j : Nat} : j ∈ rm O i ↔ j ∈ O ∧ j ≠ i := by simp [rm]
theorem set_get {α : Type} {l : List α} {i j : Nat} {x y : α} (h : (l.set i x)[j]? = some y) : (j = i ∧ y = x ∧ i < l.length) ∨ (j ≠ i ∧ l[j]? = some y) := by
  by_cases e : i = j
  · subst e
    by_cases hl : i < l.length
    · rw [List.getElem?_set_self hl] at h; cases h; exact .inl ⟨rfl, rfl, hl⟩
    · rw [List.getElem?_eq_none (by simpa using hl)] at h; cases h
  · rw [List.getElem?_set_ne e] at h; exact .inr ⟨fun z => e z.symm, h⟩
theorem set_ne {α : Type} {l : List α} {i j : Nat} {x : α} (h : j ≠ i) : (l.set i x)[j]? = l[j]? := List.getElem?_set_ne (Ne.symm h)
theorem Rl.set {K : PySem.W.Frag} {ho : Option Addr} {sl : Sl} {hs : Hnd} {σ : L2.St} {G H : Hp} (r : Rl K ho O sl hs σ G H) (i : Nat) {v : V} {d : D} (dv : DV K ho G v d) : Rl K ho (rm O i) (sl.set i (some d)) hs (σ.set i (some v)) G H where
  gh := r.gh
  len := by rw [List.length_set, List.length_set]; exact r.len
  dat := fun j e h n => by
    rcases set_get h with ⟨h1, h2, h3⟩ | ⟨h1, h2⟩
    · subst h1; cases h2
      exact ⟨v, List.getElem?_set_self (by rw [← r.len]; exact h3), dv⟩
    · rw [set_ne h1]
      exact r.dat j e h2 fun z => n (mem_rm.mpr ⟨z, h1⟩)
  own := fun j e h n => by
    obtain ⟨n1, n2⟩ := mem_rm.mp n
    rw [set_ne n2] at h ⊢
    exact r.own j e h n1
  sep := fun j k a hj hk hjk z1 z2 z3 => by
    obtain ⟨j1, j2⟩ := mem_rm.mp hj
    obtain ⟨k1, k2⟩ := mem_rm.mp hk
    rw [set_ne j2] at z1 z3
    rw [set_ne k2] at z2 ⊢
    exact r.sep j k a j1 k1 hjk z1 z2 z3
  hand := r.hand
theorem Rel.set {K : PySem.W.Frag} {sl : Sl} {hs : Hnd} {σ : L2.St} {G H : Hp} (r : Rel K B O sl hs σ G H) (i : Nat) {v : V} {d : D} (dv : DV K B.ha G v d) : Rel K B (rm O i) (sl.set i (some d)) hs (σ.set i (some v)) G H :=
  ⟨r.rl.set i dv, r.ce, fun j a hj z1 z2 => by
    obtain ⟨j1, j2⟩ := mem_rm.mp hj
    rw [set_ne j2] at z1 z2
    exact r.fr j a j1 z1 z2⟩
/-- an own list at a name -/
theorem Rel.setN {K : PySem.W.Frag} {sl : Sl} {hs : Hnd} {σ : L2.St} {G H : Hp} (r : Rel K B O sl hs σ G H) (i : Nat) {a : Addr} {d : D} (hg : G a = none) (h0 : B.H0 a = none) (hn : B.ha ≠ some a) (w : OwnAt K B.ha G (H a) d)
    (hne : ∀ j, j ∈ O → sl[j]? ≠ some none → σ[j]? ≠ some (some (.ref a))) : Rel K B (i :: rm O i) (sl.set i (some d)) hs (σ.set i (some (.ref a))) G H where
  ce := r.ce
  rl := {
    gh := r.rl.gh
    len := by rw [List.length_set, List.length_set]; exact r.rl.len
    dat := fun j e h n => by
      rcases set_get h with ⟨h1, h2, h3⟩ | ⟨h1, h2⟩
      · subst h1; exact absurd List.mem_cons_self n
      · rw [set_ne h1]
        exact r.rl.dat j e h2 fun z => n (List.mem_cons_of_mem _ (mem_rm.mpr ⟨z, h1⟩))
    own := fun j e h n => by
      rcases set_get h with ⟨h1, h2, h3⟩ | ⟨h1, h2⟩
      · subst h1; cases h2
        exact ⟨a, List.getElem?_set_self (by rw [← r.rl.len]; exact h3), hg, hn, w⟩
      · rw [set_ne h1]
        rcases List.mem_cons.mp n with z | z
        · exact absurd z h1
        · exact r.rl.own j e h2 (mem_rm.mp z).1
    sep := fun j k b hj hk hjk z1 z2 z3 z4 => by
      rcases List.mem_cons.mp hj with e1 | e1
      · rcases List.mem_cons.mp hk with e2 | e2
        · exact hjk (e1.trans e2.symm)
        · obtain ⟨k1, k2⟩ := mem_rm.mp e2
          rw [set_ne k2] at z2 z4
          subst e1
          rcases set_get z3 with ⟨_, q, _⟩ | ⟨q, _⟩
          · cases q; exact hne k k1 z2 z4
          · exact q rfl
      · obtain ⟨j1, j2⟩ := mem_rm.mp e1
        rw [set_ne j2] at z1 z3
        rcases List.mem_cons.mp hk with e2 | e2
        · subst e2
          rcases set_get z4 with ⟨_, q, _⟩ | ⟨q, _⟩
          · cases q; exact hne j j1 z1 z3
          · exact q rfl
        · obtain ⟨k1, k2⟩ := mem_rm.mp e2
          rw [set_ne k2] at z2 z4
          exact r.rl.sep j k b j1 k1 hjk z1 z2 z3 z4
    hand := r.rl.hand }
  fr := fun j b hj z1 z2 => by
    rcases List.mem_cons.mp hj with e1 | e1
    · subst e1
      rcases set_get z2 with ⟨_, q, _⟩ | ⟨q, _⟩
      · cases q; exact h0
      · exact absurd rfl q
    · obtain ⟨j1, j2⟩ := mem_rm.mp e1
      rw [set_ne j2] at z1 z2
      exact r.fr j b j1 z1 z2
/-- the address of an own slot is not a new one -/
theorem Rel.new_ne {K : PySem.W.Frag} {sl : Sl} {hs : Hnd} {σ : L2.St} {G H : Hp} (r : Rel K B O sl hs σ G H) {a : Addr} (ha : H a = none) : ∀ j, j ∈ O → sl[j]? ≠ some none → σ[j]? ≠ some (some (.ref a)) := fun j hj hn e => by
  have hl : j < sl.length := by
    rw [r.rl.len]
    exact (List.getElem?_eq_some_iff.mp e).1
  cases q : sl[j]'hl with
  | none => exact hn (by rw [List.getElem?_eq_getElem hl, q])
  | some d =>
    obtain ⟨b, h1, _, _, h4⟩ := r.rl.own j d (by rw [List.getElem?_eq_getElem hl, q]) hj
    rw [e] at h1; cases h1
    obtain ⟨u, hu⟩ := h4.some
    rw [ha] at hu; cases hu
theorem H0_none {K : PySem.W.Frag} {sl : Sl} {hs : Hnd} {σ : L2.St} {G H : Hp} (r : Rel K B O sl hs σ G H) {a : Addr} (ha : H a = none) : B.H0 a = none := r.ce.new ha
def sSet (i : Nat) (f : EF) : SF := fun sl hs => match f sl hs with
  | some (d, hs1) => some (.nx (sl.set i (some d)) hs1)
  | none => none
theorem qs_set (i : Nat) {x : Str} {pos' : Pos} (he : QE X O e fe) (hN : X.N.Nodup) (hi : X.N[i]? = some x := by rfl) (hx : Loc X.env.scope x := by first | exact Or.inl rfl | exact Or.inr rfl) (hs : swapsWith e (some (.Name x pos')) pos.line X.env = pure false := by rfl)
    (hf : X.fn x = true ∨ X.env.scope.names.lookup x = some .local := by first | exact .inl rfl | exact .inr rfl) : QS X B O (rm O i) L (.Assign [.Name x pos'] e pos) (sSet i fe) :=
  ⟨PS.imp (ps_set hN hi hx he.pe hs hf) fun D σ H ⟨sl, hs, G, o, r, q, k⟩ => by
    unfold sSet at q
    split at q
    · rename_i d hs1 e1
      cases q
      exact ⟨_, sl, hs, G, d, hs1, r.rl, e1, fun v G1 H1 c1 d1 => k _ G1 H1 c1.g ((r.after c1).set i d1)⟩
    · cases q⟩
theorem qs_setN (i : Nat) {x : Str} {pos' : Pos} (he : QN X O e fe) (hN : X.N.Nodup) (hi : X.N[i]? = some x := by rfl) (hx : Loc X.env.scope x := by first | exact Or.inl rfl | exact Or.inr rfl) (hs : swapsWith e (some (.Name x pos')) pos.line X.env = pure false := by rfl)
    (hf : X.fn x = true ∨ X.env.scope.names.lookup x = some .local := by first | exact .inl rfl | exact .inr rfl) : QS X B O (i :: rm O i) L (.Assign [.Name x pos'] e pos) (sSet i fe) :=
  ⟨PS.imp (ps_set hN hi hx he.pe hs hf) fun D σ H ⟨sl, hs, G, o, r, q, k⟩ => by
    unfold sSet at q
    split at q
    · rename_i d hs1 e1
      cases q
      exact ⟨_, sl, hs, G, d, hs1, r.rl, e1, fun a G1 H1 c1 h0 hg hn w => k _ G1 H1 c1.g ((r.after c1).setN i hg (r.ce.new h0) hn w fun j hj z1 z2 => r.new_ne h0 j hj z1 z2)⟩
    · cases q⟩

/-! ### targets -/
abbrev GF := D → Sl → Option Sl
def tG (K : PySem.W.Frag) (O O' : List Nat) (ts : List Nat) (gf : GF) : TG := fun v σ H Q => ∃ ho sl hs G d sl', Rl K ho O sl hs σ G H ∧ DV K ho G v d ∧ gf d sl = some sl' ∧
  ∀ σ', Rl K ho O' sl' hs σ' G H → (σ'.length = σ.length ∧ ∀ j, j ∉ ts → σ'[j]? = σ[j]? ∧ sl'[j]? = sl[j]?) → Q σ' H
structure QG (X : Cx) (O O' : List Nat) (e : Expr) (ts : List Nat) (gf : GF) : Prop where
  pg : PG X e (tG X.K O O' ts gf)
abbrev GsF := List D → Sl → Option Sl
def tGs (K : PySem.W.Frag) (O O' : List Nat) (ts : List Nat) (gf : GsF) : TGs := fun vs σ H Q => ∃ ho sl hs G ds sl', Rl K ho O sl hs σ G H ∧ DVs K ho G vs ds ∧ gf ds sl = some sl' ∧
  ∀ σ', Rl K ho O' sl' hs σ' G H → (σ'.length = σ.length ∧ ∀ j, j ∉ ts → σ'[j]? = σ[j]? ∧ sl'[j]? = sl[j]?) → Q σ' H
structure QGs (X : Cx) (O O' : List Nat) (es : List Expr) (ts : List Nat) (gf : GsF) : Prop where
  pg : PGs X es (tGs X.K O O' ts gf)
theorem PG.imp {e : Expr} {t u : TG} (h : PG X e t) (i : ∀ v σ H Q, u v σ H Q → t v σ H Q) : PG X e u := ⟨fun pins s σ H v w Q I r q => h.run pins s σ H v w Q I r (i v σ H Q q)⟩
theorem PGs.imp {es : List Expr} {t u : TGs} (h : PGs X es t) (i : ∀ v σ H Q, u v σ H Q → t v σ H Q) : PGs X es u := ⟨fun pins s σ H v w Q I r q => h.run pins s σ H v w Q I r (i v σ H Q q)⟩
def gName (i : Nat) : GF := fun d sl => some (sl.set i (some d))
def gNil : GsF := fun ds sl => match ds with | [] => some sl | _ => none
def gCons (g : GF) (gs : GsF) : GsF := fun ds sl => match ds with
  | d :: ds => (match g d sl with | some sl1 => gs ds sl1 | none => none)
  | [] => none
def gTup (n : Nat) (gs : GsF) : GF := fun d sl => match d with
  | .tup ds => if ds.length = n then gs ds sl else none
  | _ => none
theorem qg_name (i : Nat) {x : Str} (hN : X.N.Nodup) (hi : X.N[i]? = some x := by rfl) (hx : Loc X.env.scope x := by first | exact Or.inl rfl | exact Or.inr rfl) (hf : X.fn x = true ∨ X.env.scope.names.lookup x = some .local := by first | exact .inl rfl | exact .inr rfl) :
    QG X O (rm O i) (.Name x pos) [i] (gName i) :=
  ⟨PG.imp (pg_name hN hi hx hf) fun v σ H Q ⟨ho, sl, hs, G, d, sl', r, dv, q, k⟩ => by
    cases q
    exact k _ (r.set i dv) ⟨List.length_set, fun j hj => ⟨set_ne (by simpa using hj), set_ne (by simpa using hj)⟩⟩⟩
theorem qgs_nil : QGs X O O [] [] gNil :=
  ⟨PGs.imp pgs_nil fun v σ H Q ⟨ho, sl, hs, G, ds, sl', r, dv, q, k⟩ => by
    unfold gNil at q
    split at q
    · cases q; cases dv
      exact ⟨rfl, k σ r ⟨rfl, fun _ _ => ⟨rfl, rfl⟩⟩⟩
    · cases q⟩
theorem qgs_cons {a : Expr} {es : List Expr} {ts ts' : List Nat} {gf : GF} {gs : GsF} (h1 : QG X O O1 a ts gf) (h2 : QGs X O1 O' es ts' gs) (hs : (assignEach (a :: es) X.env).map (·.2) = assign a X.env :: (assignEach es X.env).map (·.2) := by rfl) :
    QGs X O O' (a :: es) (ts ++ ts') (gCons gf gs) :=
  ⟨PGs.imp (pgs_cons h1.pg h2.pg hs) fun v σ H Q ⟨ho, sl, hs, G, ds, sl', r, dv, q, k⟩ => by
    unfold gCons at q
    split at q
    · rename_i d ds'
      split at q
      · rename_i sl1 e1
        cases dv with
        | cons h1 h2 =>
          refine ⟨_, _, rfl, ho, sl, hs, G, d, sl1, r, h1, e1, fun σ1 r1 w1 => ⟨ho, sl1, hs, G, ds', sl', r1, h2, q, fun σ2 r2 w2 => k σ2 r2 ⟨w2.1.trans w1.1, fun j hj => ?_⟩⟩⟩
          simp only [List.mem_append, not_or] at hj
          exact ⟨(w2.2 j hj.2).1.trans (w1.2 j hj.1).1, (w2.2 j hj.2).2.trans (w1.2 j hj.1).2⟩
      · cases q
    · cases q⟩
theorem gs_len {gs : GsF} {es : List Expr} {ts : List Nat} (h : QGs X O O' es ts gs) : True := trivial
theorem qg_tup {es : List Expr} {k : Nat} {ts : List Nat} {gs : GsF} (n : Nat) (hc : X.calm = true) (h : QGs X O O' es ts gs) (hn : (assignEach es X.env).length = n := by rfl) (hst : (assignEach es X.env).findIdx? (·.1) = none := by rfl) :
    QG X O O' (.Tuple es k pos) ts (VI.gTup n gs) :=
  ⟨PG.imp (pg_tup hc h.pg hn hst) fun v σ H Q ⟨ho, sl, hs, G, d, sl', r, dv, q, kk⟩ => by
    unfold VI.gTup at q
    split at q
    · split at q
      · rename_i ds hl
        cases dv with
        | @tup a vs _ h1 h2 => exact ⟨a, vs, rfl, SqT.of (r.gh _ _ h1), by rw [h2.length]; exact hl, ho, sl, hs, G, ds, sl', r, h2, q, kk⟩
      · cases q
    · cases q⟩
end
end L2.VI

/-! VI: walks, for, while, comprehensions, calls of defs, own lists and dicts. -/
namespace L2.VI
open PySem PySem.Spec PyProof.Rows L2

/-! ### walks -/
abbrev IF := Sl → Hnd → Option (List D × Hnd)
/-- what a walk gives, turn by turn, while what was data stands -/
structure WalkD (K : PySem.W.Frag) (ho : Option Addr) (G0 : Hp) (J : It) (ds : List D) : Prop where
  goes : ∀ i G H, i < ds.length → Same G0 G → Same G H → J.go i H
  stops : ∀ G H, Same G0 G → Same G H → J.stop ds.length H
  yields : ∀ i G H x H' d, Same G0 G → Same G H → ds[i]? = some d → J.yld i H x H' →
    (H' = H ∧ DV K ho G x d) ∨ (∃ T vs es, H T = none ∧ H' = upd H T (.tup vs) ∧ x = .ref T ∧ d = .tup es ∧ DVs K ho G vs es)
theorem WalkD.next {K : PySem.W.Frag} {ho : Option Addr} {hs : Hnd} {G0 G H H' : Hp} {J : It} {ds : List D} {i : Nat} {x : V} {d : D} (w : WalkD K ho G0 J ds) (s0 : Same G0 G) (gh : Same G H) (hh : HandOk K G H hs ho) (hd : ds[i]? = some d) (y : J.yld i H x H') :
    ∃ G', CallEnd K ho hs G H G' H' ∧ DV K ho G' x d := by
  rcases w.yields i G H x H' d s0 gh hd y with ⟨e, dv⟩ | ⟨T, vs, es, hT, e, ex, ed, dv⟩
  · subst e; exact ⟨G, .refl gh hh, dv⟩
  · subst e ex ed
    obtain ⟨c, d2⟩ := laidTup gh hh dv hT
    exact ⟨_, c, d2⟩
def tI (K : PySem.W.Frag) (O : List Nat) (f : IF) : TI := fun σ H R => ∃ ho sl hs G ds hs', Rl K ho O sl hs σ G H ∧ f sl hs = some (ds, hs') ∧
  ∀ J G' H', CallEnd K ho hs' G H G' H' → WalkD K ho G' J ds → R J H'
structure QI (X : Cx) (O : List Nat) (tg iter : Expr) (f : IF) : Prop where
  pi : PI X tg iter (tI X.K O f)
theorem PI.imp {X : Cx} {tg e : Expr} {t u : TI} (h : PI X tg e t) (i : ∀ σ H R, u σ H R → t σ H R) : PI X tg e u := ⟨fun pins s σ H R I q => h.run pins s σ H R I (i σ H R q)⟩

section
variable {X : Cx} {B : Bs} {O O1 O' L : List Nat} {tg iter e : Expr} {fe : EF} {it : IF} {gf : GF} {ts : List Nat} {f g : SF} {body : List Stmt} {pos : Pos}

/-- the items of a list, a tuple, a text -/
def seqD : D → Option (List D)
  | .lst xs => some xs
  | .tup xs => some xs
  | .str s => some (s.map fun c => .str [c])
  | _ => none
def iSeq (f : EF) : IF := fun sl hs => match f sl hs with
  | some (d, hs1) => (seqD d).map fun xs => (xs, hs1)
  | none => none
theorem walkD_list {K : PySem.W.Frag} {ho : Option Addr} {G : Hp} {a : Addr} {vs : List V} {ds : List D} (h1 : G a = some (.lst vs)) (h2 : DVs K ho G vs ds) : WalkD K ho G (Itl K a) ds where
  goes := fun i G1 H hi s1 s2 => by
    have hi' : i < vs.length := by rw [h2.length]; exact hi
    exact ⟨vs, vs[i], SqL.of (s2 _ _ (s1 _ _ h1)), by simp [hi']⟩
  stops := fun G1 H s1 s2 => ⟨vs, SqL.of (s2 _ _ (s1 _ _ h1)), by rw [h2.length]; exact Nat.le_refl _⟩
  yields := fun i G1 H x H' d s1 s2 hd y => by
    obtain ⟨e, y⟩ := y
    have hx := y vs (SqL.of (s2 _ _ (s1 _ _ h1)))
    obtain ⟨d', e1, e2⟩ := h2.get' hx
    rw [hd] at e1; cases e1
    exact .inl ⟨e, e2.mono s1 _ _⟩
theorem walkD_tup {K : PySem.W.Frag} {ho : Option Addr} {G : Hp} {a : Addr} {vs : List V} {ds : List D} (h1 : G a = some (.tup vs)) (h2 : DVs K ho G vs ds) : WalkD K ho G (Itt K a) ds where
  goes := fun i G1 H hi s1 s2 => by
    have hi' : i < vs.length := by rw [h2.length]; exact hi
    exact ⟨vs, vs[i], SqT.of (s2 _ _ (s1 _ _ h1)), by simp [hi']⟩
  stops := fun G1 H s1 s2 => ⟨vs, SqT.of (s2 _ _ (s1 _ _ h1)), by rw [h2.length]; exact Nat.le_refl _⟩
  yields := fun i G1 H x H' d s1 s2 hd y => by
    obtain ⟨e, y⟩ := y
    have hx := y vs (SqT.of (s2 _ _ (s1 _ _ h1)))
    obtain ⟨d', e1, e2⟩ := h2.get' hx
    rw [hd] at e1; cases e1
    exact .inl ⟨e, e2.mono s1 _ _⟩
theorem walkD_str {K : PySem.W.Frag} {ho : Option Addr} {G : Hp} {s : List Nat} : WalkD K ho G (Its ⟨s.toArray⟩) (s.map fun c => .str [c]) where
  goes := fun i G1 H hi _ _ => by
    have : i < (⟨s.toArray⟩ : Str).cps.size := by simpa using hi
    exact (walk_str (z := ⟨s.toArray⟩)).goes i H this trivial
  stops := fun G1 H _ _ => by
    have := (walk_str (z := ⟨s.toArray⟩)).stops H trivial
    simpa using this
  yields := fun i G1 H x H' d _ _ hd y => by
    have hi : i < s.length := by
      have := (List.getElem?_eq_some_iff.mp hd).1
      simpa using this
    obtain ⟨e, c, e1, e2⟩ := (walk_str (z := ⟨s.toArray⟩)).yields i H x H' (by simpa using hi) trivial y
    simp only [List.getElem?_toArray] at e1
    rw [List.getElem?_map, e1] at hd
    cases hd
    rw [e2]
    exact .inl ⟨e, .str [c]⟩
theorem qi_seq (he : QE X O iter fe) : QI X O tg iter (iSeq fe) := by
  have hl := he.pe
  refine ⟨⟨fun pins s σ H R I h => ?_⟩⟩
  obtain ⟨ho, sl, hs, G, ds, hs', r, q, k⟩ := h
  unfold iSeq at q
  split at q
  · rename_i d hs1 e1
    cases e2 : seqD d with
    | none => rw [e2] at q; cases q
    | some xs =>
      rw [e2] at q; cases q
      refine thn (hl.run pins s σ H (fun x H1 => ∃ G1, CallEnd X.K ho _ G H G1 H1 ∧ DV X.K ho G1 x d) I ⟨ho, sl, hs, G, d, _, r, e1, fun v G1 H1 c1 d1 => ⟨G1, c1, d1⟩⟩) fun v s1 ⟨x, H1, I1, r1, G1, c1, d1⟩ => ?_
      unfold seqD at e2
      split at e2
      · cases e2
        cases d1 with
        | @lst a vs _ h1 h2 =>
          cases r1
          obtain ⟨its, rv, p, hz⟩ := I1.list (SqL.of (K := X.K) (c1.gh _ _ h1))
          refine wpAny_pyIter_list p.isList ?_
          refine ⟨s1.heap.objs.size, [s1.heap.objs.size], _, _, H1, rfl, I1.kept (t' := s1.toks) fun b o e => Heap.get?_push_of_some _ e, turn_list a _, ⟨_, Heap.get?_push_size _ rfl, rfl, rfl⟩, fun b hb => ?_, k _ G1 H1 c1 (walkD_list h1 h2)⟩
          have e : b = s1.heap.objs.size := by simpa using hb
          subst e
          exact I1.fpOk (Nat.le_refl _) (I1.hok.fresh (Nat.le_refl _))
      · cases e2
        cases d1 with
        | @tup a vs _ h1 h2 =>
          cases r1
          obtain ⟨its, rv, p, hz⟩ := I1.tuple (SqT.of (K := X.K) (c1.gh _ _ h1))
          refine wpAny_pyIter_tuple (show s1.heap.IsTuple a its.toArray from p) ?_
          refine ⟨s1.heap.objs.size, [s1.heap.objs.size], _, _, H1, rfl, I1.kept (t' := s1.toks) fun b o e => Heap.get?_push_of_some _ e, turn_tuple a _, ⟨_, Heap.get?_push_size _ rfl, rfl, rfl⟩, fun b hb => ?_, k _ G1 H1 c1 (walkD_tup h1 h2)⟩
          have e : b = s1.heap.objs.size := by simpa using hb
          subst e
          exact I1.fpOk (Nat.le_refl _) (I1.hok.fresh (Nat.le_refl _))
      · cases e2
        cases d1
        obtain ⟨t, rfl⟩ := r1
        have q := k _ G1 H1 c1 walkD_str
        rename_i z _
        cases ha : (⟨z.toArray⟩ : Str).cps.all (· < 128)
        · exact wpAny_pyIter_wide ha (pi_one (tk := s1.toks) I1 _ (turn_str _ _ t "str_iterator" (.inr rfl)) ⟨_, Heap.get?_push_size _ rfl, rfl, rfl⟩ q)
        · exact wpAny_pyIter_ascii ha (pi_one (tk := s1.toks) I1 _ (turn_str _ _ t "str_ascii_iterator" (.inl rfl)) ⟨_, Heap.get?_push_size _ rfl, rfl, rfl⟩ q)
      · cases e2
  · cases q
def rng (lo : Int) (n : Nat) : List D := (List.range n).map fun i => .int (lo + (i : Nat))
theorem walkD_rng {K : PySem.W.Frag} {ho : Option Addr} {G : Hp} {lo : Int} {n : Nat} : WalkD K ho G (Itr lo n) (rng lo n) where
  goes := fun i G1 H hi _ _ => by
    have : i < n := by simpa [rng] using hi
    exact this
  stops := fun G1 H _ _ => by
    show n ≤ (rng lo n).length
    simp [rng]
  yields := fun i G1 H x H' d _ _ hd y => by
    obtain ⟨e1, e2⟩ := y
    subst e2
    unfold rng at hd
    rw [List.getElem?_map] at hd
    obtain ⟨j, h1, h2⟩ := Option.map_eq_some_iff.mp hd
    obtain ⟨h3, h4⟩ := List.getElem?_eq_some_iff.mp h1
    simp at h4
    subst h4 h2
    exact .inl ⟨e1, .int _⟩
def smallI (i : Int) : Bool := decide (-(2 ^ 62) ≤ i ∧ i < 2 ^ 62)
def iR1 (f : EF) : IF := fun sl hs => match f sl hs with
  | some (.int n, hs1) => if smallI n then some (rng 0 n.toNat, hs1) else none
  | _ => none
def iR2 (f g : EF) : IF := fun sl hs => match f sl hs with
  | some (.int i, hs1) => (match g sl hs1 with
    | some (.int j, hs2) => if smallI i && smallI j then some (rng i (j - i).toNat, hs2) else none
    | _ => none)
  | _ => none
theorem aOne {f : EF} {sl : Sl} {hs hs1 : Hnd} {d : D} (h : f sl hs = some (d, hs1)) : aCons f aNil sl hs = some ([d], hs1) := by unfold aCons; rw [h]; rfl
theorem aTwo {f g : EF} {sl : Sl} {hs hs1 hs2 : Hnd} {d e : D} (h : f sl hs = some (d, hs1)) (h2 : g sl hs1 = some (e, hs2)) : aCons f (aCons g aNil) sl hs = some ([d, e], hs2) := by unfold aCons; rw [h]; simp only; rw [h2]; rfl
theorem qi_range1 {a : Expr} {fa : EF} {p pos : Pos} (hm : X.mg "range" = none) (ha : QE X O a fa) (hg : Gl X "range" := by rfl) (hs : starEach [a] X.env = [(false, eval a X.env)] := by rfl) (hs1 : starEach [a] X.env = (false, eval a X.env) :: starEach [] X.env := by rfl) :
    QI X O tg (.Call (.Name "range" p) [a] [] pos) (iR1 fa) :=
  ⟨PI.imp (pi_range1 hg hm (qa_cons ha qa_nil hs1).pa hs) fun σ H R ⟨ho, sl, hs, G, ds, hs', r, q, k⟩ => by
    unfold iR1 at q
    split at q
    · rename_i n hs1 e1
      split at q
      · rename_i hz
        cases q
        refine ⟨ho, sl, hs, G, _, _, r, aOne e1, fun vs G1 H1 c1 d1 => ?_⟩
        cases d1 with
        | cons h1 h2 =>
          cases h1; cases h2
          have hz' := of_decide_eq_true hz
          exact ⟨n, rfl, hz'.1, hz'.2, k _ G1 H1 c1 walkD_rng⟩
      · cases q
    · cases q⟩
theorem qi_range2 {a b : Expr} {fa fb : EF} {p pos : Pos} (hm : X.mg "range" = none) (ha : QE X O a fa) (hb : QE X O b fb) (hg : Gl X "range" := by rfl) (hs : starEach [a, b] X.env = [(false, eval a X.env), (false, eval b X.env)] := by rfl)
    (hs2 : starEach [b] X.env = [(false, eval b X.env)] := by rfl) (hs3 : starEach [a, b] X.env = (false, eval a X.env) :: starEach [b] X.env := by rfl) (hs4 : starEach [b] X.env = (false, eval b X.env) :: starEach [] X.env := by rfl) :
    QI X O tg (.Call (.Name "range" p) [a, b] [] pos) (iR2 fa fb) :=
  ⟨PI.imp (pi_range2 hg hm (qa_cons ha (qa_cons hb qa_nil hs4) hs3).pa hs hs2) fun σ H R ⟨ho, sl, hs, G, ds, hs', r, q, k⟩ => by
    unfold iR2 at q
    split at q
    · rename_i i hs1 e1
      split at q
      · rename_i j hs2 e2
        split at q
        · rename_i hz
          cases q
          refine ⟨ho, sl, hs, G, _, _, r, aTwo e1 e2, fun vs G1 H1 c1 d1 => ?_⟩
          cases d1 with
          | cons h1 h2 =>
            cases h1
            cases h2 with
            | cons h1 h2 =>
              cases h1; cases h2
              simp only [Bool.and_eq_true, smallI, decide_eq_true_eq] at hz
              exact ⟨i, j, rfl, ⟨hz.1.1, hz.1.2, hz.2.1, hz.2.2⟩, k _ G1 H1 c1 walkD_rng⟩
        · cases q
      · cases q
    · cases q⟩

/-! ### for -/
def forL (gf : GF) (body : SF) : List D → SF
  | [], sl, hs => some (.nx sl hs)
  | d :: ds, sl, hs => match gf d sl with
    | none => none
    | some sl1 => match body sl1 hs with
      | some (.nx sl2 hs2) => forL gf body ds sl2 hs2
      | some (.ct sl2 hs2) => forL gf body ds sl2 hs2
      | some (.bk sl2 hs2) => some (.nx sl2 hs2)
      | some (.rt d h) => some (.rt d h)
      | none => none
def sFor (it : IF) (gf : GF) (body : SF) : SF := fun sl hs => match it sl hs with
  | some (ds, hs1) => forL gf body ds sl hs1
  | none => none
theorem qs_for {Og : List Nat} (hc : X.calm = true) (hi : QI X O tg iter it) (hg : QG X O Og tg ts gf) (hb : QSs X B Og O O body f) (hp : PassesOwn (model X.prog X.w) X.A X.env X.xe := by exact PassesOwn.never) (hs : ∀ x, foldedSetIterable iter X.env x = pure x := by intro _; rfl)
    (hO : (Og.all fun j => O.contains j && !ts.contains j) = true := by rfl) : QS X B O O L (.For tg iter body [] pos) (sFor it gf f) := by
  refine ⟨PS.imp (ps_for hp hc hi.pi hg.pg hb.ps hs) fun D σ H ⟨sl, hs, G, o, r, q, k⟩ => ?_⟩
  unfold sFor at q
  split at q
  · rename_i ds hs1 e1
    refine ⟨_, sl, hs, G, ds, hs1, r.rl, e1, fun J Gw Hw cw wd => ?_⟩
    refine ⟨fun i m σ H => m = ds.length - i ∧ i ≤ ds.length ∧ ∃ sl hs G, Rel X.K B O sl hs σ G H ∧ Same Gw G ∧ forL gf f (ds.drop i) sl hs = some o, ⟨ds.length, by simp, Nat.zero_le _, sl, hs1, Gw, r.after cw, Same.refl _, by simpa using q⟩, ?_⟩
    rintro i m σ1 H1 ⟨rfl, hi, sl1, hs2, G1, r1, s1, q1⟩
    by_cases hlt : i < ds.length
    · refine .inr ⟨wd.goes i G1 H1 hlt s1 r1.rl.gh, fun σ2 H2 => ds.length - (i + 1) = ds.length - (i + 1) ∧ i + 1 ≤ ds.length ∧ ∃ sl hs G, Rel X.K B O sl hs σ2 G H2 ∧ Same Gw G ∧ forL gf f (ds.drop (i + 1)) sl hs = some o, fun σ' H' p' => ⟨_, by omega, p'⟩, fun x H2 y => ?_⟩
      obtain ⟨G2, c2, dv⟩ := wd.next s1 r1.rl.gh r1.rl.hand (List.getElem?_eq_getElem hlt) y
      rw [List.drop_eq_getElem_cons hlt] at q1
      unfold forL at q1
      split at q1
      · cases q1
      · rename_i sl2 e2
        refine ⟨_, sl1, hs2, G2, _, sl2, (r1.after c2).rl, dv, e2, fun σ3 r3 w3 => ?_⟩
        have R3 : Rel X.K B Og sl2 hs2 σ3 G2 H2 := ⟨r3, (r1.after c2).ce, fun j a hj z1 z2 => by
          have hj' := List.all_eq_true.mp hO j hj
          simp only [Bool.and_eq_true, List.contains_iff_mem, Bool.not_eq_true', List.contains_eq_mem, decide_eq_false_iff_not] at hj'
          rw [(w3.2 j (by simpa using hj'.2)).2] at z1
          rw [(w3.2 j (by simpa using hj'.2)).1] at z2
          exact r1.fr j a (by simpa using hj'.1) z1 z2⟩
        split at q1
        · rename_i sl4 hs4 e4
          exact ⟨sl2, hs2, G2, _, R3, e4, fun σ5 G5 H5 s5 r5 => ⟨rfl, hlt, sl4, hs4, G5, r5, (s1.trans c2.g).trans s5, q1⟩⟩
        · rename_i sl4 hs4 e4
          exact ⟨sl2, hs2, G2, _, R3, e4, fun σ5 G5 H5 s5 r5 => ⟨rfl, hlt, sl4, hs4, G5, r5, (s1.trans c2.g).trans s5, q1⟩⟩
        · rename_i sl4 hs4 e4
          cases q1
          exact ⟨sl2, hs2, G2, _, R3, e4, fun σ5 G5 H5 s5 r5 => k σ5 G5 H5 (((cw.g.trans s1).trans c2.g).trans s5) r5⟩
        · rename_i d' h' e4
          cases q1
          exact ⟨sl2, hs2, G2, _, R3, e4, k⟩
        · cases q1
    · have e : i = ds.length := by omega
      subst e
      refine .inl ⟨wd.stops G1 H1 s1 r1.rl.gh, ?_⟩
      rw [List.drop_length] at q1
      cases q1
      exact k σ1 G1 H1 (cw.g.trans s1) r1
  · cases q

/-! ### while -/
def whileL (t : TF) (body : SF) : Nat → SF
  | 0, _, _ => none
  | n + 1, sl, hs => match t sl hs with
    | some (false, hs1) => some (.nx sl hs1)
    | some (true, hs1) => (match body sl hs1 with
      | some (.nx sl2 hs2) => whileL t body n sl2 hs2
      | some (.ct sl2 hs2) => whileL t body n sl2 hs2
      | some (.bk sl2 hs2) => some (.nx sl2 hs2)
      | some (.rt d h) => some (.rt d h)
      | none => none)
    | none => none
theorem qs_while (n : Nat) {c : Expr} {t : TF} (hc : QT X O c t) (hb : QSs X B O O O body f) (hp : PassesOwn (model X.prog X.w) X.A X.env X.xe := by exact PassesOwn.never) : QS X B O O L (.While c body [] pos) (whileL t f n) := by
  refine ⟨PS.imp (ps_while hp hc.pt hb.ps) fun D σ H ⟨sl, hs, G, o, r, q, k⟩ => ?_⟩
  refine ⟨fun m σ1 H1 => ∃ sl hs G1, Rel X.K B O sl hs σ1 G1 H1 ∧ Same G G1 ∧ whileL t f m sl hs = some o, ⟨n, sl, hs, G, r, Same.refl _, q⟩, ?_⟩
  rintro m σ1 H1 ⟨sl1, hs1, G1, r1, s1, q1⟩
  cases m with
  | zero => cases q1
  | succ m =>
    unfold whileL at q1
    split at q1
    · rename_i hs2 e2
      cases q1
      exact ⟨_, sl1, hs1, G1, _, hs2, r1.rl, e2, fun G2 H2 c2 => iteF (k σ1 G2 H2 (s1.trans c2.g) (r1.after c2))⟩
    · rename_i hs2 e2
      refine ⟨_, sl1, hs1, G1, _, hs2, r1.rl, e2, fun G2 H2 c2 => iteT ⟨fun σ3 H3 => ∃ sl hs G3, Rel X.K B O sl hs σ3 G3 H3 ∧ Same G G3 ∧ whileL t f m sl hs = some o, fun σ' H' p' => ⟨m, Nat.lt_succ_self _, p'⟩, ?_⟩⟩
      split at q1
      · rename_i sl4 hs4 e4
        exact ⟨sl1, hs2, G2, _, r1.after c2, e4, fun σ5 G5 H5 s5 r5 => ⟨sl4, hs4, G5, r5, (s1.trans c2.g).trans s5, q1⟩⟩
      · rename_i sl4 hs4 e4
        exact ⟨sl1, hs2, G2, _, r1.after c2, e4, fun σ5 G5 H5 s5 r5 => ⟨sl4, hs4, G5, r5, (s1.trans c2.g).trans s5, q1⟩⟩
      · rename_i sl4 hs4 e4
        cases q1
        exact ⟨sl1, hs2, G2, _, r1.after c2, e4, fun σ5 G5 H5 s5 r5 => k σ5 G5 H5 ((s1.trans c2.g).trans s5) r5⟩
      · rename_i d' h' e4
        cases q1
        exact ⟨sl1, hs2, G2, _, r1.after c2, e4, k⟩
      · cases q1
    · cases q1
end
end L2.VI

/-! VI: comprehensions, own lists and dicts, calls of defs. -/
namespace L2.VI
open PySem PySem.Spec PyProof.Rows L2

section
variable {X : Cx} {B : Bs} {O O1 O' L : List Nat} {tg iter e elt : Expr} {fe : EF} {it : IF} {gf : GF} {ts : List Nat} {f g : SF} {pos : Pos} {ifs : List Expr}

/-! ### comprehensions -/
structure QTs (X : Cx) (O : List Nat) (ifs : List Expr) (f : TF) : Prop where
  pt : PTs X ifs (tT X.K O f)
def tYes : TF := fun _ hs => some (true, hs)
theorem PTs.imp {t u : TT} (h : PTs X ifs t) (i : ∀ σ H Q, u σ H Q → t σ H Q) : PTs X ifs u := ⟨fun pins s σ H Q I q => h.run pins s σ H Q I (i σ H Q q)⟩
theorem qts_nil : QTs X O [] tYes := ⟨PTs.imp pts_nil fun σ H Q ⟨ho, sl, hs, G, b, hs', r, q, k⟩ => by cases q; exact k G H r.refl⟩
theorem qts_one {c : Expr} {t : TF} (h : QT X O c t) : QTs X O [c] t := ⟨pts_one h.pt⟩
def wipeS (sl : Sl) : List Nat → Sl
  | [] => sl
  | v :: vs => (wipeS sl vs).set v none
theorem wipeS_length (sl : Sl) : ∀ vs : List Nat, (wipeS sl vs).length = sl.length
  | [] => rfl
  | v :: vs => by unfold wipeS; rw [List.length_set, wipeS_length sl vs]
theorem wipe_get {α : Type} (w : List (Option α) → List Nat → List (Option α)) (h0 : ∀ s, w s [] = s) (h1 : ∀ s v vs, w s (v :: vs) = (w s vs).set v none) (s : List (Option α)) : ∀ (vs : List Nat) (i : Nat),
    (w s vs)[i]? = if i ∈ vs ∧ i < s.length then some none else s[i]?
  | [], i => by simp [h0]
  | v :: vs, i => by
    have hl : ∀ vs, (w s vs).length = s.length := by
      intro vs
      induction vs with
      | nil => rw [h0]
      | cons v vs ih => rw [h1, List.length_set, ih]
    rw [h1]
    by_cases e : v = i
    · subst e
      by_cases hv : v < s.length
      · rw [List.getElem?_set_self (by rw [hl]; exact hv), if_pos ⟨List.mem_cons_self, hv⟩]
      · rw [List.getElem?_eq_none (by rw [List.length_set, hl]; omega), if_neg (fun z => hv z.2), List.getElem?_eq_none (by omega)]
    · rw [List.getElem?_set_ne e, wipe_get w h0 h1 s vs i]
      have : (i ∈ v :: vs) ↔ i ∈ vs := by simp [Ne.symm e]
      simp only [this]
theorem wipeV_get (σ : L2.St) (vs : List Nat) (i : Nat) : (wipe σ vs)[i]? = if i ∈ vs ∧ i < σ.length then some none else σ[i]? := wipe_get wipe (fun _ => rfl) (fun _ _ _ => rfl) σ vs i
theorem wipeS_get (sl : Sl) (vs : List Nat) (i : Nat) : (wipeS sl vs)[i]? = if i ∈ vs ∧ i < sl.length then some none else sl[i]? := wipe_get wipeS (fun _ => rfl) (fun _ _ _ => rfl) sl vs i
theorem Rl.wipe {K : PySem.W.Frag} {ho : Option Addr} {sl : Sl} {hs : Hnd} {σ : L2.St} {G H : Hp} (r : Rl K ho O sl hs σ G H) (vs : List Nat) : Rl K ho O (wipeS sl vs) hs (L2.wipe σ vs) G H where
  gh := r.gh
  len := by rw [wipeS_length, wipe_length]; exact r.len
  dat := fun i d h n => by
    rw [wipeS_get] at h
    split at h
    · cases h
    · rename_i hc
      rw [wipeV_get, if_neg (by rw [← r.len]; exact hc)]
      exact r.dat i d h n
  own := fun i d h n => by
    rw [wipeS_get] at h
    split at h
    · cases h
    · rename_i hc
      rw [wipeV_get, if_neg (by rw [← r.len]; exact hc)]
      exact r.own i d h n
  sep := fun i j a hi hj hij z1 z2 z3 => by
    rw [wipeS_get] at z1 z2
    rw [wipeV_get] at z3 ⊢
    rw [r.len] at z1 z2
    split at z1
    · exact absurd rfl z1
    · split at z2
      · exact absurd rfl z2
      · rename_i c1 c2
        rw [if_neg c1] at z3
        rw [if_neg c2]
        exact r.sep i j a hi hj hij z1 z2 z3
  hand := r.hand
theorem wipe_eq {σ σ2 : L2.St} {vs ts : List Nat} (hl : σ2.length = σ.length) (ht : ∀ j ∈ ts, j ∈ vs) (h : ∀ j, j ∉ ts → σ2[j]? = (L2.wipe σ vs)[j]?) : L2.wipe σ2 vs = L2.wipe σ vs := by
  apply List.ext_getElem?
  intro j
  rw [wipeV_get, hl, wipeV_get]
  by_cases c : j ∈ vs ∧ j < σ.length
  · rw [if_pos c, if_pos c]
  · rw [if_neg c, if_neg c]
    by_cases hj : j ∈ ts
    · have hv := ht j hj
      have : ¬ j < σ.length := fun z => c ⟨hv, z⟩
      rw [List.getElem?_eq_none (by omega), List.getElem?_eq_none (by omega)]
    · rw [h j hj, wipeV_get, if_neg c]
theorem CallEnd.mut {K : PySem.W.Frag} {ho : Option Addr} {hs : Hnd} {G H G' H' : Hp} {p : Addr} {o : HO} (c : CallEnd K ho hs G H G' H') (hp : H p = none) (hg : G' p = none) (hn : ho ≠ some p) (ht : H' p ≠ none) : CallEnd K ho hs G H G' (upd H' p o) where
  g := c.g
  gh := fun b u e => by rw [upd_ne (ne_of_none e hg)]; exact c.gh b u e
  frame := fun b u e z => by rw [upd_ne (ne_of_none e hp)]; exact c.frame b u e z
  fresh := c.fresh
  there := fun b e => by rw [upd_ne (fun z => by subst z; exact e hp)]; exact c.there b e
  hand := by
    have hh := c.hand
    cases ho with
    | none => trivial
    | some a =>
      obtain ⟨h1, ca, h2, h3⟩ := hh
      exact ⟨h1, ca, by rw [upd_ne (fun z => hn (by rw [z]))]; exact h2, h3⟩
def compL (gf : GF) (tt : TF) (fe : EF) (sl : Sl) : List D → Hnd → Option (List D × Hnd)
  | [], hs => some ([], hs)
  | d :: ds, hs => match gf d sl with
    | none => none
    | some sl1 => match tt sl1 hs with
      | some (true, hs1) => (match fe sl1 hs1 with
        | some (y, hs2) => (match compL gf tt fe sl ds hs2 with
          | some (ys, hs3) => some (y :: ys, hs3)
          | none => none)
        | none => none)
      | some (false, hs1) => compL gf tt fe sl ds hs1
      | none => none
def eComp (it : IF) (gf : GF) (tt : TF) (fe : EF) (vs : List Nat) : EF := fun sl hs => match it sl hs with
  | some (ds, hs1) => if ds.length ≤ 16777216 then (match compL gf tt fe (wipeS sl vs) ds hs1 with
    | some (ys, hs2) => some (.lst ys, hs2)
    | none => none) else none
  | none => none
theorem tN_comp {K : PySem.W.Frag} {tt : TF} {Og vs : List Nat} {σ : L2.St} {H : Hp} {Q : VK} (ht : ∀ j ∈ ts, j ∈ vs) (h : tN K O (eComp it gf tt fe vs) σ H Q) :
    tLc (tI K O it) (tG K O Og ts gf) (tT K Og tt) (tE K Og fe) vs σ H Q := by
  obtain ⟨ho, sl, hs, G, d, hs', r, q, k⟩ := h
  unfold eComp at q
  split at q
  · rename_i ds hs1 e1
    split at q
    · rename_i hsz
      split at q
      · rename_i ys hs2 e2
        cases q
        refine ⟨ho, sl, hs, G, ds, hs1, r, e1, fun J Gw Hw cw wd Da hDa => ?_⟩
        have c0 := laidH (o := .lst []) cw.gh cw.hand hDa
        have hg0 : Gw Da = none := G_none cw.gh hDa
        have hn0 : ho ≠ some Da := ho_ne cw.hand hDa
        refine ⟨fun i m H1 => m = ds.length - i ∧ i ≤ ds.length ∧ ∃ hs3 G1 acc avs rest, CallEnd K ho hs3 Gw Hw G1 H1 ∧ G1 Da = none ∧ H1 Da = some (.lst avs) ∧ DVs K ho G1 avs acc ∧ acc.length ≤ i ∧
          compL gf tt fe (wipeS sl vs) (ds.drop i) hs3 = some (rest, hs') ∧ ys = acc ++ rest, ⟨ds.length, by simp, Nat.zero_le _, hs1, Gw, [], [], ys, c0, hg0, upd_same, .nil, Nat.le_refl _, by simpa using e2, rfl⟩, ?_⟩
        rintro i m H1 ⟨rfl, hi, hs3, G1, acc, avs, rest, c1, hg1, hd1, da1, hl1, q1, ey⟩
        have s1 := c1.g
        by_cases hlt : i < ds.length
        · refine .inr ⟨wd.goes i G1 H1 hlt s1 c1.gh, fun H1 => ds.length - (i + 1) = ds.length - (i + 1) ∧ i + 1 ≤ ds.length ∧ ∃ hs3 G1 acc avs rest, CallEnd K ho hs3 Gw Hw G1 H1 ∧ G1 Da = none ∧ H1 Da = some (.lst avs) ∧ DVs K ho G1 avs acc ∧ acc.length ≤ i + 1 ∧
            compL gf tt fe (wipeS sl vs) (ds.drop (i + 1)) hs3 = some (rest, hs') ∧ ys = acc ++ rest, fun H' p' => ⟨_, by omega, p'⟩, fun x H2 y => ?_⟩
          obtain ⟨G2, c2, dv⟩ := wd.next s1 c1.gh c1.hand (List.getElem?_eq_getElem hlt) y
          have r2 : Rl K ho O (wipeS sl vs) hs3 (L2.wipe σ vs) G2 H2 := ((r.after cw).after (c1.trans c2)).wipe vs
          have hd2 := c2.frame Da _ hd1 hn0
          have hg2 := c2.fresh Da _ hd1 (by intro _; simp) hg1
          rw [List.drop_eq_getElem_cons hlt] at q1
          unfold compL at q1
          split at q1
          · cases q1
          · rename_i sl2 eg
            refine ⟨ho, _, hs3, G2, _, sl2, r2, dv, eg, fun σ3 r3 w3 => ⟨wipe_eq (by rw [w3.1, wipe_length]) ht fun j hj => (w3.2 j hj).1, ?_⟩⟩
            split at q1
            · rename_i hs4 e4
              refine ⟨ho, sl2, hs3, G2, true, hs4, r3, e4, fun G4 H4 c4 => iteT ?_⟩
              split at q1
              · rename_i yv hs5 e5
                refine ⟨ho, sl2, hs4, G4, yv, hs5, r3.after c4, e5, fun v G5 H5 c5 d5 => ?_⟩
                split at q1
                · rename_i ys' hs6 e6
                  cases q1
                  have c25 := (c2.trans c4).trans c5
                  have hd5 := c25.frame Da _ hd1 hn0
                  have hg5 := c25.fresh Da _ hd1 (by intro _; simp) hg1
                  refine ⟨avs, hd5, line_lt (by rw [da1.length]; omega), rfl, hlt, hs5, G5, acc ++ [yv], avs ++ [v], ys', (c1.trans c25).mut hDa hg5 hn0 (by rw [hd5]; simp), hg5, upd_same, (da1.mono c25.g _ _).append (.cons d5 .nil), by simp; omega, e6, by rw [ey]; simp⟩
                · cases q1
              · cases q1
            · rename_i hs4 e4
              refine ⟨ho, sl2, hs3, G2, false, hs4, r3, e4, fun G4 H4 c4 => iteF ?_⟩
              have c24 := c2.trans c4
              exact ⟨rfl, hlt, hs4, G4, acc, avs, rest, c1.trans c24, c24.fresh Da _ hd1 (by intro _; simp) hg1, c24.frame Da _ hd1 hn0, da1.mono c24.g _ _, by omega, q1, ey⟩
            · cases q1
        · have e : i = ds.length := by omega
          subst e
          refine .inl ⟨wd.stops G1 H1 s1 c1.gh, ?_⟩
          rw [List.drop_length] at q1
          cases q1
          exact k Da G1 H1 (cw.trans c1) (cw.new hDa) hg1 hn0 ⟨avs, hd1, by rw [ey]; simpa using da1⟩
      · cases q
    · cases q
  · cases q
theorem qn_lc {scope : Scope} {own : List (Str × Nat)} {Og : List Nat} {tt : TF} (hc : X.calm = true) (hN : X.N.Nodup) (hi : QI X O tg iter it) (ok : BlkOk X.N X.env.scope scope own)
    (hg : ∀ (s : Shared) (H : Hp) (C : Addr) (cl : List (Str × Addr)) (fp : List Addr), QG (X.blk s H scope (compEnvC scope cl C X.env) fp) O Og tg ts gf)
    (ht : ∀ (s : Shared) (H : Hp) (C : Addr) (cl : List (Str × Addr)) (fp : List Addr), QTs (X.blk s H scope (compEnvC scope cl C X.env) fp) Og ifs tt)
    (he : ∀ (s : Shared) (H : Hp) (C : Addr) (cl : List (Str × Addr)) (fp : List Addr), QE (X.blk s H scope (compEnvC scope cl C X.env) fp) Og elt fe)
    (hv : (ts.all fun j => (own.map (·.2)).contains j) = true := by rfl) (hs : ∀ x, foldedSetIterable iter X.env x = pure x := by intro _; rfl) :
    QN X O (.ListComp elt [⟨tg, iter, ifs, 0⟩] scope pos) (eComp it gf tt fe (own.map (·.2))) :=
  ⟨PE.imp (pe_lc hc hN hi.pi ok (fun s H C cl fp => (hg s H C cl fp).pg) (fun s H C cl fp => (ht s H C cl fp).pt) (fun s H C cl fp => (he s H C cl fp).pe) hs) fun σ H Q h =>
    tN_comp (Og := Og) (fun j hj => by simpa using List.all_eq_true.mp hv j hj) h⟩
/-- name = [..] on one line: stored within the comprehension -/
theorem qs_setLc (i : Nat) {y : Str} {py spos : Pos} {scope : Scope} {own : List (Str × Nat)} {Og : List Nat} {tt : TF} (hc : X.calm = true) (hN : X.N.Nodup) (hi : QI X O tg iter it) (ok : BlkOk X.N X.env.scope scope own)
    (hg : ∀ (s : Shared) (H : Hp) (C : Addr) (cl : List (Str × Addr)) (fp : List Addr), QG (X.blk s H scope (compEnvC scope cl C X.env) fp) O Og tg ts gf)
    (ht : ∀ (s : Shared) (H : Hp) (C : Addr) (cl : List (Str × Addr)) (fp : List Addr), QTs (X.blk s H scope (compEnvC scope cl C X.env) fp) Og ifs tt)
    (he : ∀ (s : Shared) (H : Hp) (C : Addr) (cl : List (Str × Addr)) (fp : List Addr), QE (X.blk s H scope (compEnvC scope cl C X.env) fp) Og elt fe)
    (hsw : swapsWith (.ListComp elt [⟨tg, iter, ifs, 0⟩] scope pos) (some (.Name y py)) spos.line X.env = pure true)
    (hy : X.N[i]? = some y := by rfl) (hyl : X.env.scope.names.lookup y = some .local := by rfl)
    (hv : (ts.all fun j => (own.map (·.2)).contains j) = true := by rfl) (hs : ∀ x, foldedSetIterable iter X.env x = pure x := by intro _; rfl) :
    QS X B O (i :: rm O i) L (.Assign [.Name y py] (.ListComp elt [⟨tg, iter, ifs, 0⟩] scope pos) spos) (sSet i (eComp it gf tt fe (own.map (·.2)))) :=
  ⟨PS.imp (ps_setLc hc hN hy hyl hsw hi.pi ok (fun s H C cl fp => (hg s H C cl fp).pg) (fun s H C cl fp => (ht s H C cl fp).pt) (fun s H C cl fp => (he s H C cl fp).pe) hs) fun D σ H ⟨sl, hs, G, o, r, q, k⟩ => by
    unfold sSet at q
    split at q
    · rename_i d hs1 e1
      cases q
      exact tN_comp (Og := Og) (fun j hj => by simpa using List.all_eq_true.mp hv j hj) ⟨_, sl, hs, G, d, hs1, r.rl, e1, fun a G1 H1 c1 h0 hg hn w => k _ G1 H1 c1.g ((r.after c1).setN i hg (r.ce.new h0) hn w fun j hj z1 z2 => r.new_ne h0 j hj z1 z2)⟩
    · cases q⟩

/-! ### own slots read -/
/-- a value that is read at once: data, or an own slot's list or dict -/
def RV (K : PySem.W.Frag) (ho : Option Addr) (G H : Hp) (v : V) (d : D) : Prop := DV K ho G v d ∨ ∃ a, v = .ref a ∧ ho ≠ some a ∧ OwnAt K ho G (H a) d
theorem RV.after {K : PySem.W.Frag} {ho : Option Addr} {hs : Hnd} {G H G' H' : Hp} {v : V} {d : D} (h : RV K ho G H v d) (c : CallEnd K ho hs G H G' H') : RV K ho G' H' v d := by
  rcases h with h | ⟨a, e, hn, w⟩
  · exact .inl (h.mono c.g _ _)
  · obtain ⟨u, hu⟩ := w.some
    exact .inr ⟨a, e, hn, by rw [c.frame a u hu hn, ← hu]; exact w.mono c.g⟩
theorem RV.lst {K : PySem.W.Frag} {ho : Option Addr} {G H : Hp} {v : V} {ds : List D} (gh : Same G H) (h : RV K ho G H v (.lst ds)) : ∃ a vs, v = .ref a ∧ H a = some (.lst vs) ∧ DVs K ho G vs ds := by
  rcases h with h | ⟨a, e, _, vs, w1, w2⟩
  · cases h with | lst h1 h2 => exact ⟨_, _, rfl, gh _ _ h1, h2⟩
  · exact ⟨a, vs, e, w1, w2⟩
theorem RV.dct {K : PySem.W.Frag} {ho : Option Addr} {G H : Hp} {v : V} {t : Bool} {ps : List (D × D)} (gh : Same G H) (h : RV K ho G H v (.dct t ps)) : ∃ a, v = .ref a ∧ OwnAt K ho G (H a) (.dct t ps) := by
  rcases h with h | ⟨a, e, _, w⟩
  · obtain ⟨a, rfl⟩ := dct_ref h
    exact ⟨a, rfl, own_dct gh h⟩
  · exact ⟨a, e, w⟩
theorem RV.dv {K : PySem.W.Frag} {ho : Option Addr} {G H : Hp} {v : V} {d : D} (h : RV K ho G H v d) (hd : ∀ o, ¬ OwnAt K ho G o d) : DV K ho G v d := by
  rcases h with h | ⟨a, _, _, w⟩
  · exact h
  · exact absurd w (hd _)
def tR (K : PySem.W.Frag) (O : List Nat) (f : EF) : TE := fun σ H Q => ∃ ho sl hs G d hs', Rl K ho O sl hs σ G H ∧ f sl hs = some (d, hs') ∧
  ∀ v G' H', CallEnd K ho hs' G H G' H' → RV K ho G' H' v d → Q v H'
structure QR (X : Cx) (O : List Nat) (e : Expr) (f : EF) : Prop where
  pe : PE X e (tR X.K O f)
theorem qr_e (h : QE X O e fe) : QR X O e fe := ⟨PE.imp h.pe fun σ H Q ⟨ho, sl, hs, G, d, hs', r, q, k⟩ => ⟨ho, sl, hs, G, d, hs', r, q, fun v G1 H1 c1 d1 => k v G1 H1 c1 (.inl d1)⟩⟩
theorem qr_own (i : Nat) {x : Str} {pos : Pos} (hO : O.contains i = true := by rfl) (hN : X.N[i]? = some x := by rfl) (hv : Vis X.env.scope x := by first | exact Or.inl rfl | exact Or.inr (Or.inl rfl) | exact Or.inr (Or.inr rfl)) (hd : (x == ("__debug__" : Str)) = false := by decide)
    (hcd : (x == ("__classdict__" : Str)) = false := by decide) : QR X O (.Name x pos) (eVar i) :=
  ⟨PE.imp (pe_var hN hv hd hcd) fun σ H Q ⟨ho, sl, hs, G, d, hs', r, q, k⟩ => by
    unfold eVar at q
    split at q
    · rename_i d' hd'
      cases q
      obtain ⟨a, h1, h2, h3, h4⟩ := r.own i _ hd' (by simpa using hO)
      exact ⟨_, h1, k _ G H r.refl (.inr ⟨a, rfl, h3, h4⟩)⟩
    · cases q⟩
def rR (K : PySem.W.Frag) (op : D → D → Option D) : R2 := fun x y H Q => ∃ G ho hs d e z, Same G H ∧ HandOk K G H hs ho ∧ RV K ho G H x d ∧ DV K ho G y e ∧ op d e = some z ∧
  ∀ v G' H', CallEnd K ho hs G H G' H' → DV K ho G' v z → Q v H'
theorem tR_bin {K : PySem.W.Frag} {op : D → D → Option D} {fa fb : EF} {σ : L2.St} {H : Hp} {Q : VK} (h : tE K O (eBin op fa fb) σ H Q) : tOp (rR K op) (tR K O fa) (tE K O fb) σ H Q := by
  obtain ⟨ho, sl, hs, G, d, hs', r, q, k⟩ := h
  obtain ⟨x, hs1, y, e1, e2, e3⟩ := eBin_some q
  exact ⟨ho, sl, hs, G, x, hs1, r, e1, fun v G1 H1 c1 d1 => ⟨ho, sl, hs1, G1, y, hs', r.after c1, e2, fun w G2 H2 c2 d2 => ⟨G2, ho, hs', x, y, d, c2.gh, c2.hand, d1.after c2, d2, e3, fun z G' H' c3 d3 => k z G' H' ((c1.trans c2).trans c3) d3⟩⟩⟩
theorem ixqR (hu : X.A.units + 1 < cLine) : IxR X (rR X.K oIx) := by
  intro value slice pins s σ H x y v u Q I rx ry ⟨G, ho, hs, d, e, z, gh, hh, dx, dy, ez, k⟩ hsub
  rcases dx with dx | ⟨a, rfl, hn, w⟩
  · exact ixq hu value slice pins s σ H x y v u Q I rx ry ⟨G, ho, hs, d, e, z, gh, hh, dx, dy, ez, k⟩ hsub
  · unfold oIx at ez
    split at ez
    · cases dy
      obtain ⟨vs, h1, h2⟩ := w
      obtain ⟨w, e1, e2⟩ := h2.atI ez
      exact ix_list value slice pins s σ H _ _ v u Q I rx ry ⟨a, vs, _, w, rfl, rfl, SqL.of h1, e1, k w G H (.refl gh hh) e2⟩ hsub
    · exact absurd w (by simp [OwnAt])
    · exact absurd w (by simp [OwnAt])
    · split at ez
      · rename_i t ps kk hk
        obtain ⟨w', g, dw⟩ := (dget_of gh w hk dy).1 z ez
        obtain rfl : v = Value.ref a := rx
        exact tail_any (dict_typeIs I g) PySem.F.slot_dict_getitem.lookup (d_getItem hu I g ry fun w2 s3 I3 rw' => ⟨w', H, I3, rw', k w' G H (.refl gh hh) dw⟩) hsub
      · cases ez
    · cases ez
theorem qe_sub {a b : Expr} {fa fb : EF} (hu : X.A.units + 1 < cLine) (ha : QR X O a fa) (hb : QE X O b fb) (hs : PlainIx b := by intro _ _; rfl) : QE X O (.Subscript a b pos) (eBin oIx fa fb) :=
  ⟨PE.imp (pe_ix (ixqR hu) ha.pe hb.pe hs) fun _ _ _ h => tR_bin h⟩
/-! len -/
def oLen : D → Option D
  | .lst xs => some (.int xs.length)
  | .tup xs => some (.int xs.length)
  | .str s => if s.length ≤ 16777216 then some (.int s.length) else none
  | .dct _ ps => some (.int ps.length)
  | _ => none
theorem call_lenK : CallR X (.builtin "len") (fun xs H Q => ∃ a kvs, xs = [V.ref a] ∧ H a = some (.dK kvs) ∧ Q (.int kvs.length) H) := L2.call_lenD
theorem qe_len {a : Expr} {fa : EF} {p : Pos} (hm : X.mg "len" = none) (ha : QR X O a fa) (hg : Gl X "len" := by rfl) (hv : bootBuiltins "len" = some (.builtin "len") := by decide +kernel)
    (he1 : starEach [a] X.env = (false, eval a X.env) :: starEach [] X.env := by rfl) (hpl : (backTo pos (starEach [] X.env)).any (·.1) = false := by rfl) : QE X O (.Call (.Name "len" p) [a] [] pos) (eUn oLen fa) :=
  ⟨PE.imp (pe_callB ((call_len_seq.or call_len_str).or (call_lenK.or call_len_dT)) hg hm hv (pa_cons ha.pe pa_nil he1) (by decide) (by decide) he1 hpl) fun σ H Q ⟨ho, sl, hs, G, d, hs', r, q, k⟩ => by
    unfold eUn at q
    split at q
    · rename_i x hs1 e1
      cases e2 : oLen x with
      | none => rw [e2] at q; cases q
      | some z =>
        rw [e2] at q; cases q
        refine ⟨ho, sl, hs, G, x, _, r, e1, fun v G1 H1 c1 d1 => ?_⟩
        have k' := fun (n : Int) (h : d = D.int n) => k (V.int n) G1 H1 c1 (by rw [h]; exact DV.int _)
        unfold oLen at e2
        split at e2
        · cases e2
          obtain ⟨a, vs, rfl, h1, h2⟩ := d1.lst c1.gh
          exact .inl (.inl ⟨a, vs, rfl, .inl (SqL.of h1), by rw [h2.length]; exact k' _ rfl⟩)
        · cases e2
          cases d1.dv (fun o h => h) with
          | @tup a vs _ h1 h2 => exact .inl (.inl ⟨a, vs, rfl, .inr (SqT.of (c1.gh _ _ h1)), by rw [h2.length]; exact k' _ rfl⟩)
        · split at e2
          · rename_i hl
            cases e2
            cases d1.dv (fun o h => h)
            exact .inl (.inr ⟨_, rfl, by rw [str_len, line_eq]; exact hl, by rw [str_len]; exact k' _ rfl⟩)
          · cases e2
        · rename_i t ps
          cases e2
          obtain ⟨a, rfl, w⟩ := d1.dct c1.gh
          cases t with
          | false =>
            obtain ⟨kvs, w1, w2⟩ := w
            exact .inr (.inl ⟨a, kvs, rfl, w1, by rw [w2.length]; exact k' _ rfl⟩)
          | true =>
            obtain ⟨kvs, w1, w2⟩ := w
            exact .inr (.inr ⟨a, kvs, rfl, w1, by rw [w2.length]; exact k' _ rfl⟩)
        · cases e2
    · cases q⟩
end
end L2.VI

/-! VI: own lists and dicts changed, dicts read, calls of defs, a def by its body. -/
namespace L2.VI
open PySem PySem.Spec PyProof.Rows L2

section
variable {K : PySem.W.Frag} {B : Bs} {O : List Nat} {sl : Sl} {hs : Hnd} {σ : L2.St} {G H : Hp}
/-- an own slot's content is changed -/
theorem Rel.mut (r : Rel K B O sl hs σ G H) {i : Nat} {a : Addr} {d d' : D} {o : HO} (hi : i ∈ O) (hd : sl[i]? = some (some d)) (ha : σ[i]? = some (some (.ref a))) (w : OwnAt K B.ha G (some o) d') :
    Rel K B O (sl.set i (some d')) hs σ G (upd H a o) := by
  obtain ⟨b, h1, h2, h3, h4⟩ := r.rl.own i d hd hi
  rw [ha] at h1; cases h1
  obtain ⟨u, hu⟩ := h4.some
  have h0 : B.H0 a = none := r.fr i a hi (by rw [hd]; simp) ha
  have ce := r.ce.mut (o := o) h0 h2 h3 (by rw [hu]; simp)
  refine ⟨⟨ce.gh, by rw [List.length_set]; exact r.rl.len, fun j e he hn => ?_, fun j e he hj => ?_, fun j k b hj hk hjk z1 z2 z3 => ?_, ce.hand⟩, ce, fun j b hj z1 z2 => ?_⟩
  · rcases set_get he with ⟨q1, q2, q3⟩ | ⟨q1, q2⟩
    · subst q1; exact absurd hi hn
    · exact r.rl.dat j e q2 hn
  · rcases set_get he with ⟨q1, q2, q3⟩ | ⟨q1, q2⟩
    · subst q1; cases q2
      exact ⟨a, ha, h2, h3, by rw [upd_same]; exact w⟩
    · obtain ⟨c, e1, e2, e3, e4⟩ := r.rl.own j e q2 hj
      have hca : c ≠ a := fun z => by
        subst z
        exact r.rl.sep i j c hi hj (Ne.symm q1) (by rw [hd]; simp) (by rw [q2]; simp) ha e1
      exact ⟨c, e1, e2, e3, by rw [upd_ne hca]; exact e4⟩
  · have cv : ∀ m, (sl.set i (some d'))[m]? ≠ some none → sl[m]? ≠ some none := fun m q z => by
      by_cases e : m = i
      · subst e; rw [hd] at z; cases z
      · rw [set_ne e] at q; exact q z
    exact r.rl.sep j k b hj hk hjk (cv j z1) (cv k z2) z3
  · have : sl[j]? ≠ some none := fun z => by
      by_cases e : j = i
      · subst e; rw [hd] at z; cases z
      · rw [set_ne e] at z1; exact z1 z
    exact r.fr j b hj this z2
end

section
variable {X : Cx} {B : Bs} {O O1 O' L : List Nat} {e a b : Expr} {fe fa fb : EF} {f g : SF} {pos apos cpos pos' : Pos} {x : Str}
theorem Rl.own_at {K : PySem.W.Frag} {ho : Option Addr} {sl : Sl} {hs : Hnd} {σ : L2.St} {G H : Hp} (r : Rl K ho O sl hs σ G H) {i : Nat} {d : D} (hi : i ∈ O) (hd : sl[i]? = some (some d)) : ∃ p, σ[i]? = some (some (.ref p)) ∧ ho ≠ some p ∧ OwnAt K ho G (H p) d := by
  obtain ⟨p, h1, _, h3, h4⟩ := r.own i d hd hi
  exact ⟨p, h1, h3, h4⟩
/-! x.append(e) -/
def sApp (i : Nat) (f : EF) : SF := fun sl hs => match f sl hs with
  | some (d, hs1) => (match sl[i]? with
    | some (some (.lst xs)) => if xs.length < 16777216 then some (.nx (sl.set i (some (.lst (xs ++ [d])))) hs1) else none
    | _ => none)
  | none => none
theorem qs_append (i : Nat) {p : Pos} (he : QE X O e fe) (hO : O.contains i = true := by rfl) (hN : X.N[i]? = some x := by rfl) (hv : Vis X.env.scope x := by first | exact Or.inl rfl | exact Or.inr (Or.inl rfl) | exact Or.inr (Or.inr rfl))
    (hbase : attributeBase (.Name x p) "append" X.env (eval (.Name x p) X.env) = eval (.Name x p) X.env := by rfl)
    (hfew : ((backTo cpos (starEach [e] X.env)).all (fun x => !x.1) && (backToKw cpos (keywordEach [] X.env)).all (fun x => x.1.isSome)
      && decide (([e] : List Expr).length + ([] : List Keyword).length + (if ([] : List Keyword).isEmpty then 0 else 1) < 30)) = true := by rfl)
    (hline : (apos.endLine == cpos.line) = true := by rfl) (hs : starEach [e] X.env = (false, eval e X.env) :: starEach [] X.env := by rfl) (hplain : (backTo cpos (starEach [] X.env)).any (·.1) = false := by rfl)
    (hd : (x == ("__debug__" : Str)) = false := by decide) (hcd : (x == ("__classdict__" : Str)) = false := by decide) (hsw : swapsWith (.Call (.Attribute (.Name x p) "append" apos) [e] [] cpos) none pos.line X.env = pure false := by rfl) :
    QS X B O O L (.Expr (.Call (.Attribute (.Name x p) "append" apos) [e] [] cpos) pos) (sApp i fe) :=
  ⟨PS.imp (ps_expr (pe_bm PySem.F.plainAttrs_list PySem.F.slot_list_append PySem.F.type_list_append mt_append (pe_var hN hv hd hcd) (pa_cons he.pe pa_nil hs) hbase hfew hline hs hplain) hsw) fun D σ H ⟨sl, hs, G, o, r, q, k⟩ => by
    have hi : i ∈ O := by simpa using hO
    unfold sApp at q
    split at q
    · rename_i d hs1 e1
      split at q
      · rename_i xs e2
        split at q
        · rename_i hl
          cases q
          obtain ⟨ad, h1, h3, vs, w1, w2⟩ := r.rl.own_at hi e2
          refine ⟨_, h1, .inl ⟨rfl, vs, SqL.of w1⟩, _, sl, hs, G, d, hs1, r.rl, e1, fun v G1 H1 c1 d1 => ?_⟩
          have w1' := c1.frame ad _ w1 h3
          exact ⟨ad, vs, v, rfl, rfl, w1', line_lt (by rw [w2.length]; exact hl), k _ G1 _ c1.g ((r.after c1).mut hi e2 h1 ⟨_, rfl, (w2.mono c1.g _ _).append (.cons d1 .nil)⟩)⟩
        · cases q
      · cases q
    · cases q⟩
/-! x.extend(e), e a list -/
def sExt (i : Nat) (f : EF) : SF := fun sl hs => match f sl hs with
  | some (.lst ys, hs1) => (match sl[i]? with
    | some (some (.lst xs)) => if xs.length + ys.length ≤ 16777216 then some (.nx (sl.set i (some (.lst (xs ++ ys)))) hs1) else none
    | _ => none)
  | _ => none
theorem qs_extend (i : Nat) {p : Pos} (he : QE X O e fe) (hO : O.contains i = true := by rfl) (hN : X.N[i]? = some x := by rfl) (hv : Vis X.env.scope x := by first | exact Or.inl rfl | exact Or.inr (Or.inl rfl) | exact Or.inr (Or.inr rfl))
    (hbase : attributeBase (.Name x p) "extend" X.env (eval (.Name x p) X.env) = eval (.Name x p) X.env := by rfl)
    (hfew : ((backTo cpos (starEach [e] X.env)).all (fun x => !x.1) && (backToKw cpos (keywordEach [] X.env)).all (fun x => x.1.isSome)
      && decide (([e] : List Expr).length + ([] : List Keyword).length + (if ([] : List Keyword).isEmpty then 0 else 1) < 30)) = true := by rfl)
    (hline : (apos.endLine == cpos.line) = true := by rfl) (hs : starEach [e] X.env = (false, eval e X.env) :: starEach [] X.env := by rfl) (hplain : (backTo cpos (starEach [] X.env)).any (·.1) = false := by rfl)
    (hd : (x == ("__debug__" : Str)) = false := by decide) (hcd : (x == ("__classdict__" : Str)) = false := by decide) (hsw : swapsWith (.Call (.Attribute (.Name x p) "extend" apos) [e] [] cpos) none pos.line X.env = pure false := by rfl) :
    QS X B O O L (.Expr (.Call (.Attribute (.Name x p) "extend" apos) [e] [] cpos) pos) (sExt i fe) :=
  ⟨PS.imp (ps_expr (pe_bm PySem.F.plainAttrs_list PySem.F.slot_list_extend PySem.F.type_list_extend mt_extend (pe_var hN hv hd hcd) (pa_cons he.pe pa_nil hs) hbase hfew hline hs hplain) hsw) fun D σ H ⟨sl, hs, G, o, r, q, k⟩ => by
    have hi : i ∈ O := by simpa using hO
    unfold sExt at q
    split at q
    · rename_i ys hs1 e1
      split at q
      · rename_i xs e2
        split at q
        · rename_i hl
          cases q
          obtain ⟨ad, h1, h3, vs, w1, w2⟩ := r.rl.own_at hi e2
          refine ⟨_, h1, .inl ⟨rfl, vs, SqL.of w1⟩, _, sl, hs, G, _, hs1, r.rl, e1, fun v G1 H1 c1 d1 => ?_⟩
          have w1' := c1.frame ad _ w1 h3
          cases d1 with
          | @lst b zs _ g1 g2 =>
            exact ⟨ad, b, vs, zs, rfl, rfl, w1', c1.gh _ _ g1, line_le (by rw [w2.length, g2.length]; exact hl), k _ G1 _ c1.g ((r.after c1).mut hi e2 h1 ⟨_, rfl, (w2.mono c1.g _ _).append g2⟩)⟩
        · cases q
      · cases q
    · cases q⟩
/-! x[a] = e, x an own list -/
def sPutL (i : Nat) (fa f : EF) : SF := fun sl hs => match f sl hs with
  | some (d, hs1) => (match fa sl hs1 with
    | some (.int k, hs2) => (match sl[i]? with
      | some (some (.lst xs)) => (match ixN xs.length k with
        | some j => some (.nx (sl.set i (some (.lst (xs.set j d)))) hs2)
        | none => none)
      | _ => none)
    | _ => none)
  | none => none
theorem qs_putL (i : Nat) {p : Pos} (he : QE X O e fe) (ha : QE X O a fa) (hO : O.contains i = true := by rfl) (hN : X.N[i]? = some x := by rfl) (hv : Vis X.env.scope x := by first | exact Or.inl rfl | exact Or.inr (Or.inl rfl) | exact Or.inr (Or.inr rfl))
    (has : ∀ v, assign (.Subscript (.Name x p) a pos') X.env v = (do
      let ov ← holding [v] (eval (.Name x p) X.env)
      let iv ← holding [v, ov] (eval a X.env)
      standAt pos'
      holding [v, ov, iv] (setItem ov iv v)
      release [v, ov, iv] []) := by intro _; rfl)
    (hs : swapsWithSole [.Subscript (.Name x p) a pos'] e pos.line X.env = pure false := by rfl) (hw : swappedStores [.Subscript (.Name x p) a pos'] e X.env = pure none := by rfl)
    (h1 : (assignEach [.Subscript (.Name x p) a pos'] X.env).map (·.2) = [assign (.Subscript (.Name x p) a pos') X.env] := by rfl)
    (hd : (x == ("__debug__" : Str)) = false := by decide) (hcd : (x == ("__classdict__" : Str)) = false := by decide) :
    QS X B O O L (.Assign [.Subscript (.Name x p) a pos'] e pos) (sPutL i fa fe) :=
  ⟨PS.imp (ps_asg he.pe (pg_sub (pe_var hN hv hd hcd) ha.pe set_list has) hs hw h1) fun D σ H ⟨sl, hs, G, o, r, q, k⟩ => by
    have hi : i ∈ O := by simpa using hO
    unfold sPutL at q
    split at q
    · rename_i d hs1 e1
      split at q
      · rename_i n hs2 e3
        split at q
        · rename_i xs e2
          split at q
          · rename_i j ej
            cases q
            obtain ⟨ad, h1, h3, vs, w1, w2⟩ := r.rl.own_at hi e2
            refine ⟨_, sl, hs, G, _, hs1, r.rl, e1, fun v G1 H1 c1 d1 => ⟨_, h1, _, sl, hs1, G1, _, hs2, (r.after c1).rl, e3, fun v2 G2 H2 c2 d2 => ?_⟩⟩
            cases d2
            have c12 := c1.trans c2
            have w1' := c12.frame ad _ w1 h3
            exact ⟨ad, vs, n, j, rfl, rfl, w1', by rw [w2.length]; exact ej, k _ G2 _ c12.g ((r.after c12).mut hi e2 h1 ⟨_, rfl, DVs.set (d1.mono c2.g _ _) j (w2.mono c12.g _ _)⟩)⟩
          · cases q
        · cases q
      · cases q
    · cases q⟩
/-! x[a] = e, x an own dict -/
def sPutD (i : Nat) (fa f : EF) : SF := fun sl hs => match f sl hs with
  | some (d, hs1) => (match fa sl hs1 with
    | some (k, hs2) => (match sl[i]? with
      | some (some (.dct t ps)) => if keyOk t k = true ∧ ps.length < 16777216 then some (.nx (sl.set i (some (.dct t (dput ps k d)))) hs2) else none
      | _ => none)
    | _ => none)
  | none => none
theorem qs_putD (i : Nat) {p : Pos} (hu : X.A.units + 1 < cLine) (he : QE X O e fe) (ha : QE X O a fa) (hO : O.contains i = true := by rfl) (hN : X.N[i]? = some x := by rfl) (hv : Vis X.env.scope x := by first | exact Or.inl rfl | exact Or.inr (Or.inl rfl) | exact Or.inr (Or.inr rfl))
    (hs : swapsWith e (some (.Subscript (.Name x p) a pos')) pos.line X.env = pure false := by rfl)
    (hd : (x == ("__debug__" : Str)) = false := by decide) (hcd : (x == ("__classdict__" : Str)) = false := by decide) :
    QS X B O O L (.Assign [.Subscript (.Name x p) a pos'] e pos) (sPutD i fa fe) :=
  ⟨PS.imp (ps_dput hu (pe_var hN hv hd hcd) ha.pe he.pe hs) fun D σ H ⟨sl, hs, G, o, r, q, k⟩ => by
    have hi : i ∈ O := by simpa using hO
    unfold sPutD at q
    split at q
    · rename_i d hs1 e1
      split at q
      · rename_i kk hs2 e3
        split at q
        · rename_i t ps e2
          split at q
          · rename_i hk
            cases q
            obtain ⟨ad, h1, h3, w⟩ := r.rl.own_at hi e2
            refine ⟨_, sl, hs, G, _, hs1, r.rl, e1, fun v G1 H1 c1 d1 => ⟨_, h1, _, sl, hs1, G1, _, hs2, (r.after c1).rl, e3, fun v2 G2 H2 c2 d2 => ?_⟩⟩
            have c12 := c1.trans c2
            obtain ⟨u, hu⟩ := w.some
            have w' : OwnAt X.K B.ha G2 (H2 ad) (.dct t ps) := by rw [c12.frame ad u hu h3, ← hu]; exact w.mono c12.g
            obtain ⟨o', g1, g2⟩ := dput_of c2.gh w' hk.1 d2 (d1.mono c2.g _ _) hk.2
            exact ⟨ad, _, rfl, g1, k _ G2 _ c12.g ((r.after c12).mut hi e2 h1 g2)⟩
          · cases q
        · cases q
      · cases q
    · cases q⟩
/-! {} -/
theorem qn_dictK : QN X O (.Dict [] [] pos) (eC (.dct false [])) := ⟨PE.imp pe_dnewK fun σ H Q ⟨ho, sl, hs, G, d, hs', r, q, k⟩ p hp => by
  cases q
  exact k p G _ (laidH r.gh r.hand hp) hp (G_none r.gh hp) (ho_ne r.hand hp) ⟨[], upd_same, .nil⟩⟩
theorem qn_dictT : QN X O (.Dict [] [] pos) (eC (.dct true [])) := ⟨PE.imp pe_dnewT fun σ H Q ⟨ho, sl, hs, G, d, hs', r, q, k⟩ p hp => by
  cases q
  exact k p G _ (laidH r.gh r.hand hp) hp (G_none r.gh hp) (ho_ne r.hand hp) ⟨[], upd_same, .nil⟩⟩
/-! d.get(k), k in d -/
def oGet (d k : D) : Option D := match d with
  | .dct t ps => if keyOk t k then some ((dlook ps k).getD .non) else none
  | _ => none
theorem qe_get1 (hu : X.A.units + 1 < cLine) (ha : QR X O a fa) (hb : QE X O b fb) (m : M1 X a "get" apos b cpos := by exact ⟨rfl, rfl, rfl, rfl⟩) : QE X O (.Call (.Attribute a "get" apos) [b] [] cpos) (eBin oGet fa fb) :=
  ⟨PE.imp (pe_dget1 hu ha.pe hb.pe m) fun σ H Q ⟨ho, sl, hs, G, d, hs', r, q, k⟩ => by
    obtain ⟨x, hs1, y, e1, e2, e3⟩ := eBin_some q
    unfold oGet at e3
    split at e3
    · rename_i t ps
      split at e3
      · rename_i hk
        cases e3
        refine ⟨ho, sl, hs, G, _, hs1, r, e1, fun v G1 H1 c1 d1 => ?_⟩
        obtain ⟨ad, rfl, w⟩ := d1.dct c1.gh
        refine ⟨ad, rfl, ?_, ho, sl, hs1, G1, y, _, r.after c1, e2, fun v2 G2 H2 c2 d2 => ?_⟩
        · cases t with
          | false => obtain ⟨kvs, w1, _⟩ := w; exact .inl ⟨kvs, .inl w1⟩
          | true => obtain ⟨kvs, w1, _⟩ := w; exact .inr ⟨kvs, .inl w1⟩
        · have hr : RV X.K ho G2 H2 (.ref ad) (.dct t ps) := d1.after c2
          obtain ⟨ad', e, w'⟩ := hr.dct c2.gh
          cases e
          have g := dget_of c2.gh w' hk d2
          cases el : dlook ps y with
          | none => exact ⟨none, g.2 el, by rw [el] at k; exact k _ G2 H2 (c1.trans c2) .non⟩
          | some z =>
            obtain ⟨vz, g1, g2⟩ := g.1 z el
            exact ⟨some vz, g1, by rw [el] at k; exact k _ G2 H2 (c1.trans c2) g2⟩
      · cases e3
    · cases e3⟩
def eGet2 (f g h : EF) : EF := fun sl hs => match f sl hs with
  | some (.dct t ps, hs1) => (match g sl hs1 with
    | some (k, hs2) => (match h sl hs2 with
      | some (z, hs3) => if keyOk t k then some ((dlook ps k).getD z, hs3) else none
      | none => none)
    | none => none)
  | _ => none
theorem qe_get2 {c : Expr} {fc : EF} (hu : X.A.units + 1 < cLine) (ha : QR X O a fa) (hb : QE X O b fb) (hc : QE X O c fc) (m : M2 X a "get" apos b c cpos := by exact ⟨rfl, rfl, rfl, rfl⟩) : QE X O (.Call (.Attribute a "get" apos) [b, c] [] cpos) (eGet2 fa fb fc) :=
  ⟨PE.imp (pe_dget2 hu ha.pe hb.pe hc.pe m) fun σ H Q ⟨ho, sl, hs, G, d, hs', r, q, k⟩ => by
    unfold eGet2 at q
    split at q
    · rename_i t ps hs1 e1
      split at q
      · rename_i y hs2 e2
        split at q
        · rename_i z hs3 e3
          split at q
          · rename_i hk
            cases q
            refine ⟨ho, sl, hs, G, _, hs1, r, e1, fun v G1 H1 c1 d1 => ?_⟩
            obtain ⟨ad, rfl, w⟩ := d1.dct c1.gh
            refine ⟨ad, rfl, ?_, ho, sl, hs1, G1, y, _, r.after c1, e2, fun v2 G2 H2 c2 d2 => ⟨ho, sl, hs2, G2, z, _, (r.after c1).after c2, e3, fun v3 G3 H3 c3 d3 => ?_⟩⟩
            · cases t with
              | false => obtain ⟨kvs, w1, _⟩ := w; exact .inl ⟨kvs, .inl w1⟩
              | true => obtain ⟨kvs, w1, _⟩ := w; exact .inr ⟨kvs, .inl w1⟩
            · have hr : RV X.K ho G3 H3 (.ref ad) (.dct t ps) := (d1.after c2).after c3
              obtain ⟨ad', e, w'⟩ := hr.dct c3.gh
              cases e
              have g := dget_of c3.gh w' hk (d2.mono c3.g _ _)
              have c123 := (c1.trans c2).trans c3
              cases el : dlook ps y with
              | none => exact ⟨none, g.2 el, by rw [el] at k; exact k _ G3 H3 c123 d3⟩
              | some z' =>
                obtain ⟨vz, g1, g2⟩ := g.1 z' el
                exact ⟨some vz, g1, by rw [el] at k; exact k _ G3 H3 c123 g2⟩
          · cases q
        · cases q
      · cases q
    · cases q⟩
/-! calls of defs -/
abbrev FF := List D → Hnd → Option (D × Hnd)
def spF (K : PySem.W.Frag) (n : Nat) (F : FF) : Sp := fun vs H Q _ => ∃ G ho hs ds d hs', Same G H ∧ HandOk K G H hs ho ∧ DVs K ho G vs ds ∧ ds.length = n ∧ F ds hs = some (d, hs') ∧
  ∀ v G' H', CallEnd K ho hs' G H G' H' → DV K ho G' v d → Q v H'
/-- a def that may be called by its name -/
structure Cl (P : Program) (w : World) (K : PySem.W.Frag) (mg : Str → Option Value) (base : Heap) (k : Nat) (x : Str) (n : Nat) (F : FF) : Prop where
  ex : ∃ (f : Addr) (fd : FuncData) (ps : List Str), FnOk P w K mg base CX0 k f fd ps (spF K n F) ∧ mg x = some (.ref f) ∧ PySem.W.keepIn K (.ref f) = true ∧ Binds K fd ps []
def eCall (F : FF) (t : AF) : EF := fun sl hs => match t sl hs with
  | some (ds, hs1) => F ds hs1
  | none => none
theorem qe_call {es : List Expr} {t : AF} {F : FF} {k j n : Nat} {p : Pos} (c : Cl X.prog X.w X.K X.mg X.base k x n F) (hr : Room j X.A) (ha : QA X O (a :: es) t) (hk : k ≤ j := by decide) (hl : (a :: es).length = n := by rfl)
    (hg : Gl X x := by rfl) (hdb : (x == ("__debug__" : Str)) = false := by decide) (he : starEach (a :: es) X.env = (false, eval a X.env) :: starEach es X.env := by rfl) (hpl : (backTo pos (starEach es X.env)).any (·.1) = false := by rfl) :
    QE X O (.Call (.Name x p) (a :: es) [] pos) (eCall F t) := by
  obtain ⟨fa, fd, ps, hF, hm, hkp, hb⟩ := c.ex
  refine ⟨PE.imp (pe_call (dvs := []) (E := E0) hF (hr.mono hk) hg hm hkp hb .nil pass0 ha.pa hdb he hpl) fun σ H Q ⟨ho, sl, hs, G, d, hs', r, q, k⟩ => ?_⟩
  unfold eCall at q
  split at q
  · rename_i ds hs1 e1
    refine ⟨ho, sl, hs, G, ds, hs1, r, e1, fun vs G1 H1 c1 d1 => ?_⟩
    show spF X.K n F (vs ++ []) H1 Q E0
    rw [List.append_nil]
    exact ⟨G1, ho, hs1, ds, d, hs', c1.gh, c1.hand, d1, (ha.len _ _ _ _ e1).trans hl, q, fun v G' H' c2 d2 => k v G' H' (c1.trans c2) d2⟩
  · cases q
/-! a def by its body -/
def fnF (n : Nat) (f : SF) : FF := fun ds hs => match f (ds.map some ++ List.replicate (n - ds.length) none) hs with
  | some (.rt d hs') => some (d, hs')
  | some (.nx _ hs') => some (.non, hs')
  | _ => none
theorem start_rl {K : PySem.W.Frag} {ho : Option Addr} {hs : Hnd} {G H : Hp} {N : List Str} {vs : List V} {ds : List D} (gh : Same G H) (hh : HandOk K G H hs ho) (dv : DVs K ho G vs ds) (hl : ds.length ≤ N.length) :
    Rl K ho [] (ds.map some ++ List.replicate (N.length - ds.length) none) hs (start N vs) G H where
  gh := gh
  len := by
    unfold start
    simp only [List.length_append, List.length_map, List.length_replicate]
    rw [dv.length]
  dat := fun i d h _ => by
    by_cases hi : i < ds.length
    · rw [List.getElem?_append_left (by simpa using hi), List.getElem?_map] at h
      cases e : ds[i]? with
      | none => rw [e] at h; cases h
      | some d' =>
        rw [e] at h; cases h
        obtain ⟨v, h1, h2⟩ := dv.get e
        refine ⟨v, ?_, h2⟩
        unfold start
        rw [List.getElem?_append_left (by rw [List.length_map, dv.length]; exact hi), List.getElem?_map, h1]; rfl
    · rw [List.getElem?_append_right (by simpa using hi), List.getElem?_replicate] at h
      split at h <;> cases h
  own := fun i d _ h => absurd h (by simp)
  sep := fun i j a h => absurd h (by simp)
  hand := hh
theorem fn_ok {P : Program} {w : World} {K : PySem.W.Frag} {mg : Str → Option Value} {base : Heap} {x qual : Str} {st : Stmt} {f : Addr} {fd : FuncData} {N ps : List Str} {k n : Nat} {bf : SF} (F : Fun K x qual st f fd) (S : FnScope N ps (defScope st)) (hn : ps.length = n) (hN : n ≤ N.length)
    (body : ∀ (cdv : Value) (A : Around) (outer : List Env) (s : Shared) (H : Hp) (E : XK) (B : Bs), Room k (A.deeper (envOfC qual (defScope st) s.heap.objs.size f cdv)) →
      QSs (cxOf CX0 P w K mg base N qual (defScope st) f cdv A outer s H E).nox B [] [] [] (defBody st) bf) : FnOk P w K mg base CX0 (k + 1) f fd ps (spF K n (fnF N.length bf)) := by
  refine F.ok S (fun vs H Q E ⟨G, ho, hs, ds, d, hs', gh, hh, dv, hl, _, _⟩ => by rw [dv.length, hl, hn]) fun cdv A outer s H vs Q E hr ⟨G, ho, hs, ds, d, hs', gh, hh, dv, hl, q, kk⟩ => ?_
  refine ⟨_, (body cdv A outer s H E ⟨H, G, hs, ho⟩ hr).ps, ?_⟩
  have rel : Rel K ⟨H, G, hs, ho⟩ [] (ds.map some ++ List.replicate (N.length - ds.length) none) hs (start N vs) G H := ⟨start_rl gh hh dv (by omega), .refl gh hh, fun i a h => absurd h (by simp)⟩
  unfold fnF at q
  split at q
  · rename_i e1
    cases q
    exact ⟨_, hs, G, _, rel, e1, fun v G' H' c dv' => kk v G' H' c dv'⟩
  · rename_i e1
    cases q
    exact ⟨_, hs, G, _, rel, e1, fun σ' G' H' _ r' => kk .non G' H' r'.ce .non⟩
  · cases q
theorem cl_mk {P : Program} {w : World} {K : PySem.W.Frag} {mg : Str → Option Value} {base : Heap} {x : Str} {st : Stmt} {f : Addr} {fd : FuncData} {N ps : List Str} {k n : Nat} {bf : SF} (F : Fun K x x st f fd) (hm : mg x = some (.ref f)) (hb : Binds K fd ps []) (S : FnScope N ps (defScope st)) (hn : ps.length = n) (hN : n ≤ N.length)
    (body : ∀ (cdv : Value) (A : Around) (outer : List Env) (s : Shared) (H : Hp) (E : XK) (B : Bs), Room k (A.deeper (envOfC x (defScope st) s.heap.objs.size f cdv)) →
      QSs (cxOf CX0 P w K mg base N x (defScope st) f cdv A outer s H E).nox B [] [] [] (defBody st) bf) : Cl P w K mg base (k + 1) x n (fnF N.length bf) :=
  ⟨f, fd, ps, fn_ok F S hn hN body, hm, F.kp, hb⟩
end
end L2.VI

/-! VI: in, not in, orders, pairs stored, repeats, displays. -/
namespace L2.VI
open PySem PySem.Spec PyProof.Rows L2
abbrev wfuel : Nat := 1000000
section
variable {X : Cx} {B : Bs} {O O' L : List Nat} {a b e : Expr} {fa fb fe : EF} {pos : Pos}

theorem eUn_some {op : D → Option D} {f : EF} {sl : Sl} {hs hs' : Hnd} {d : D} (h : eUn op f sl hs = some (d, hs')) : ∃ x, f sl hs = some (x, hs') ∧ op x = some d := by
  unfold eUn at h
  split at h
  · rename_i x hs1 e1
    cases e2 : op x with
    | none => rw [e2] at h; cases h
    | some z => rw [e2] at h; cases h; exact ⟨x, e1, e2⟩
  · cases h
def oNeg : D → Option D
  | .int i => some (.int (-i))
  | _ => none
theorem qe_neg (ha : QE X O a fa) : QE X O (.UnaryOp .USub a pos) (eUn oNeg fa) :=
  ⟨PE.imp (pe_un un_neg ha.pe) fun σ H Q ⟨ho, sl, hs, G, d, hs', r, q, k⟩ => by
    obtain ⟨x, e1, e2⟩ := eUn_some q
    unfold oNeg at e2
    split at e2
    · cases e2
      exact ⟨ho, sl, hs, G, _, hs', r, e1, fun v G1 H1 c1 d1 => ⟨_, DV_int d1, k _ G1 H1 c1 (.int _)⟩⟩
    · cases e2⟩

/-! ### in -/
def inB (x c : D) : Option Bool := match c with
  | .lst xs => if shs 63 xs && sh 63 x then some (xs.any fun y => D.eqv y x) else none
  | .tup xs => if shs 63 xs && sh 63 x then some (xs.any fun y => D.eqv y x) else none
  | .str s => (match x with | .str [k] => some (decide (k ∈ s)) | _ => none)
  | .dct t ps => if keyOk t x then some (dlook ps x).isSome else none
  | _ => none
def oIn (x c : D) : Option D := (inB x c).map .bl
def oNotIn (x c : D) : Option D := (inB x c).map fun b => .bl (!b)
def rE (K : PySem.W.Frag) (op : D → D → Option D) : R2 := fun x y H Q => ∃ G ho hs d e z, Same G H ∧ HandOk K G H hs ho ∧ DV K ho G x d ∧ RV K ho G H y e ∧ op d e = some z ∧
  ∀ v G' H', CallEnd K ho hs G H G' H' → DV K ho G' v z → Q v H'
theorem tRr_bin {K : PySem.W.Frag} {op : D → D → Option D} {fa fb : EF} {σ : L2.St} {H : Hp} {Q : VK} (h : tE K O (eBin op fa fb) σ H Q) : tOp (rE K op) (tE K O fa) (tR K O fb) σ H Q := by
  obtain ⟨ho, sl, hs, G, d, hs', r, q, k⟩ := h
  obtain ⟨x, hs1, y, e1, e2, e3⟩ := eBin_some q
  exact ⟨ho, sl, hs, G, x, hs1, r, e1, fun v G1 H1 c1 d1 => ⟨ho, sl, hs1, G1, y, hs', r.after c1, e2, fun w G2 H2 c2 d2 => ⟨G2, ho, hs', x, y, d, c2.gh, c2.hand, d1.mono c2.g _ _, d2, e3, fun z G' H' c3 d3 => k z G' H' ((c1.trans c2).trans c3) d3⟩⟩⟩
theorem any_eqv (n : Nat) {x : D} (hx : sh n x = true) : ∀ {xs : List D}, shs n xs = true → (toPs xs).any (fun y => PyData.eqv y (toP x)) = xs.any fun y => D.eqv y x
  | [], _ => rfl
  | y :: ys, h => by
    simp only [shs, Bool.and_eq_true] at h
    show (PyData.eqv (toP y) (toP x) || (toPs ys).any _) = (D.eqv y x || ys.any _)
    rw [eqv_toP n n y x h.1 hx, any_eqv n hx h.2]
theorem inq {op : CmpOp} {f : Bool → Bool} (hf : (op = .In ∧ f = id) ∨ (op = .NotIn ∧ f = not)) (hu : X.A.units + 64 < cLine) : OpR X (compareOp op) (rE X.K fun x c => (inB x c).map fun b => .bl (f b)) := by
  intro pins s σ H x y v u Q I rx ry ⟨G, ho, hs, d, e, z, gh, hh, dx, dy, ez, k⟩
  obtain ⟨bb, eb, rfl⟩ := Option.map_eq_some_iff.mp ez
  unfold inB at eb
  split at eb
  · rename_i xs
    split at eb
    · rename_i hz
      cases eb
      simp only [Bool.and_eq_true] at hz
      obtain ⟨a, vs, rfl, h1, h2⟩ := dy.lst gh
      obtain ⟨as, r1⟩ := Dp.reads I (.list (toPs xs)) _ u (.lst (SqL.of h1) (dps_of gh 63 xs vs hz.1 h2)) ry
      obtain ⟨bs, r2⟩ := Dp.reads I _ x v (dp_of gh 63 d x hz.2 dx) rx
      have p1 := shs_depth 63 xs hz.1
      have p2 := sh_depth 63 d hz.2
      have hq : X.A.units + 1 + min (PyData.depthAll (toPs xs)) (toP d).depth < cLine := by have := p2.1; omega
      rcases hf with ⟨rfl, rfl⟩ | ⟨rfl, rfl⟩
      · exact SeqAt.in_list_data r1 r2 (PyData.plainAll_of_canLay0 _ p1.2) (PyData.plain_of_canLay0 _ p2.2) hq ⟨.bl _, H, I, rfl, by rw [any_eqv 63 hz.2 hz.1]; exact k _ G H (.refl gh hh) (.bl _)⟩
      · exact SeqAt.notIn_list_data r1 r2 (PyData.plainAll_of_canLay0 _ p1.2) (PyData.plain_of_canLay0 _ p2.2) hq ⟨.bl _, H, I, rfl, by rw [any_eqv 63 hz.2 hz.1]; exact k _ G H (.refl gh hh) (.bl _)⟩
    · cases eb
  · rename_i xs
    split at eb
    · rename_i hz
      cases eb
      simp only [Bool.and_eq_true] at hz
      cases dy.dv (fun o h => h) with
      | @tup a vs _ h1 h2 =>
        obtain ⟨as, r1⟩ := Dp.reads I (.tuple (toPs xs)) _ u (.tup (SqT.of (gh _ _ h1)) (dps_of gh 63 xs vs hz.1 h2)) ry
        obtain ⟨bs, r2⟩ := Dp.reads I _ x v (dp_of gh 63 d x hz.2 dx) rx
        have p1 := shs_depth 63 xs hz.1
        have p2 := sh_depth 63 d hz.2
        have hq : X.A.units + 1 + min (PyData.depthAll (toPs xs)) (toP d).depth < cLine := by have := p2.1; omega
        rcases hf with ⟨rfl, rfl⟩ | ⟨rfl, rfl⟩
        · exact SeqAt.in_tuple_data r1 r2 (PyData.plainAll_of_canLay0 _ p1.2) (PyData.plain_of_canLay0 _ p2.2) hq ⟨.bl _, H, I, rfl, by rw [any_eqv 63 hz.2 hz.1]; exact k _ G H (.refl gh hh) (.bl _)⟩
        · exact SeqAt.notIn_tuple_data r1 r2 (PyData.plainAll_of_canLay0 _ p1.2) (PyData.plain_of_canLay0 _ p2.2) hq ⟨.bl _, H, I, rfl, by rw [any_eqv 63 hz.2 hz.1]; exact k _ G H (.refl gh hh) (.bl _)⟩
    · cases eb
  · rename_i t
    split at eb
    · rename_i c
      cases eb
      cases dx
      cases dy.dv (fun o h => h)
      have e1 : ([c].toArray : Array Nat) = #[c] := rfl
      rcases hf with ⟨rfl, rfl⟩ | ⟨rfl, rfl⟩
      · exact op_in_sign pins s σ H _ _ v u Q I rx ry ⟨c, _, rfl, rfl, k _ G H (.refl gh hh) (by simpa using DV.bl _)⟩
      · exact op_notIn_sign pins s σ H _ _ v u Q I rx ry ⟨c, _, rfl, rfl, k _ G H (.refl gh hh) (by simpa using DV.bl _)⟩
    · cases eb
  · rename_i t ps
    split at eb
    · rename_i hk
      cases eb
      obtain ⟨a, rfl, w⟩ := dy.dct gh
      obtain rfl : u = Value.ref a := ry
      cases hd : dlook ps d with
      | none =>
        have g := (dget_of gh w hk dx).2 hd
        rcases hf with ⟨rfl, rfl⟩ | ⟨rfl, rfl⟩
        · exact d_in (by omega) I g rx fun s3 I3 => ⟨.bl false, H, I3, rfl, by rw [hd] at k; exact k _ G H (.refl gh hh) (.bl _)⟩
        · exact d_notIn (by omega) I g rx fun s3 I3 => ⟨.bl true, H, I3, rfl, by rw [hd] at k; exact k _ G H (.refl gh hh) (.bl _)⟩
      | some z =>
        obtain ⟨w', g, _⟩ := (dget_of gh w hk dx).1 z hd
        rcases hf with ⟨rfl, rfl⟩ | ⟨rfl, rfl⟩
        · exact d_in (by omega) I g rx fun s3 I3 => ⟨.bl true, H, I3, rfl, by rw [hd] at k; exact k _ G H (.refl gh hh) (.bl _)⟩
        · exact d_notIn (by omega) I g rx fun s3 I3 => ⟨.bl false, H, I3, rfl, by rw [hd] at k; exact k _ G H (.refl gh hh) (.bl _)⟩
    · cases eb
  · cases eb
theorem opr_in (hu : X.A.units + 64 < cLine) : OpR X (compareOp .In) (rE X.K oIn) := inq (.inl ⟨rfl, rfl⟩) hu
theorem opr_notin (hu : X.A.units + 64 < cLine) : OpR X (compareOp .NotIn) (rE X.K oNotIn) := inq (.inr ⟨rfl, rfl⟩) hu
theorem qe_in (hu : X.A.units + 64 < cLine) (ha : QE X O a fa) (hb : QR X O b fb) (hm : behindInMarks .In b = false := by rfl) : QE X O (.Compare a [.In] [b] pos) (eBin oIn fa fb) :=
  ⟨PE.imp (pe_cmpR (opr_in hu) ha.pe hb.pe hm) fun _ _ _ h => tRr_bin h⟩
theorem qe_notin (hu : X.A.units + 64 < cLine) (ha : QE X O a fa) (hb : QR X O b fb) (hm : behindInMarks .NotIn b = false := by rfl) : QE X O (.Compare a [.NotIn] [b] pos) (eBin oNotIn fa fb) :=
  ⟨PE.imp (pe_cmpR (opr_notin hu) ha.pe hb.pe hm) fun _ _ _ h => tRr_bin h⟩
theorem qt_in (hu : X.A.units + 64 < cLine) (ha : QE X O a fa) (hb : QR X O b fb) (hm : behindInMarks .In b = false := by rfl) : QT X O (.Compare a [.In] [b] pos) (tV (eBin oIn fa fb)) :=
  ⟨PT.imp (pt_cmpR (opr_in hu) ha.pe hb.pe hm) fun _ _ _ h => by
    obtain ⟨ho, sl, hs, G, d, hs', r, q, k⟩ := h
    exact tRr_bin ⟨ho, sl, hs, G, _, hs', r, tV_some q, fun v G' H' c dv => ⟨_, DV_bl dv, k G' H' c⟩⟩⟩
theorem qt_notin (hu : X.A.units + 64 < cLine) (ha : QE X O a fa) (hb : QR X O b fb) (hm : behindInMarks .NotIn b = false := by rfl) : QT X O (.Compare a [.NotIn] [b] pos) (tV (eBin oNotIn fa fb)) :=
  ⟨PT.imp (pt_cmpR (opr_notin hu) ha.pe hb.pe hm) fun _ _ _ h => by
    obtain ⟨ho, sl, hs, G, d, hs', r, q, k⟩ := h
    exact tRr_bin ⟨ho, sl, hs, G, _, hs', r, tV_some q, fun v G' H' c dv => ⟨_, DV_bl dv, k G' H' c⟩⟩⟩

/-! ### stores of pairs -/
def sPar2 (i j : Nat) (f : AF) : SF := fun sl hs => match f sl hs with
  | some ([x, y], hs1) => some (.nx ((sl.set i (some x)).set j (some y)) hs1)
  | _ => none
theorem qs_par2 (i j : Nat) {x y : Str} {f : AF} {px py pt p2 : Pos} {kt k2} (hc : X.calm = true) (hN : X.N.Nodup) (ha : QA X O [a, b] f) (hi : X.N[i]? = some x := by rfl) (hj : X.N[j]? = some y := by rfl) (hij : i ≠ j := by decide)
    (hx : X.env.scope.names.lookup x = some .local := by rfl) (hy : X.env.scope.names.lookup y = some .local := by rfl)
    (hw : swappedStores [.Tuple [.Name x px, .Name y py] kt pt] (.Tuple [a, b] k2 p2) X.env = pure (some [x, y]) := by rfl)
    (hs : swapsWithSole [.Tuple [.Name x px, .Name y py] kt pt] (.Tuple [a, b] k2 p2) pos.line X.env = pure false := by rfl) :
    QS X B O (rm (rm O i) j) L (.Assign [.Tuple [.Name x px, .Name y py] kt pt] (.Tuple [a, b] k2 p2) pos) (sPar2 i j f) :=
  ⟨PS.imp (ps_par hc hN hi hj hij hx hy ha.pa hw hs) fun D σ H ⟨sl, hs, G, o, r, q, k⟩ => by
    unfold sPar2 at q
    split at q
    · rename_i d1 d2 hs1 e1
      cases q
      refine ⟨_, sl, hs, G, _, hs1, r.rl, e1, fun vs G1 H1 c1 dv => ?_⟩
      cases dv with
      | cons h1 h2 =>
        cases h2 with
        | cons h2 h3 =>
          cases h3
          exact ⟨_, _, rfl, k _ G1 H1 c1.g (((r.after c1).set i h1).set j h2)⟩
    · cases q⟩
def sPar3 (i j l : Nat) (f : AF) : SF := fun sl hs => match f sl hs with
  | some ([x, y, z], hs1) => some (.nx (((sl.set i (some x)).set j (some y)).set l (some z)) hs1)
  | _ => none
def sAsg (f : EF) (g : GF) : SF := fun sl hs => match f sl hs with
  | some (d, hs1) => (match g d sl with | some sl1 => some (.nx sl1 hs1) | none => none)
  | none => none
theorem qs_asg {tg : Expr} {ts : List Nat} {gf : GF} (he : QE X O e fe) (hg : QG X O O' tg ts gf) (hO : (O'.all fun j => O.contains j && !ts.contains j) = true := by rfl) (hs : swapsWithSole [tg] e pos.line X.env = pure false := by rfl) (hw : swappedStores [tg] e X.env = pure none := by rfl)
    (h1 : (assignEach [tg] X.env).map (·.2) = [assign tg X.env] := by rfl) : QS X B O O' L (.Assign [tg] e pos) (sAsg fe gf) :=
  ⟨PS.imp (ps_asg he.pe hg.pg hs hw h1) fun D σ H ⟨sl, hs, G, o, r, q, k⟩ => by
    unfold sAsg at q
    split at q
    · rename_i d hs1 e1
      split at q
      · rename_i sl1 e2
        cases q
        refine ⟨_, sl, hs, G, d, hs1, r.rl, e1, fun v G1 H1 c1 dv => ⟨_, sl, hs1, G1, d, sl1, (r.after c1).rl, dv, e2, fun σ2 r2 w2 => k σ2 G1 H1 c1.g ⟨r2, (r.after c1).ce, fun j a hj z1 z2 => ?_⟩⟩⟩
        have hj' := List.all_eq_true.mp hO j hj
        simp only [Bool.and_eq_true, List.contains_iff_mem, Bool.not_eq_true', List.contains_eq_mem, decide_eq_false_iff_not] at hj'
        rw [(w2.2 j (by simpa using hj'.2)).2] at z1
        rw [(w2.2 j (by simpa using hj'.2)).1] at z2
        exact r.fr j a (by simpa using hj'.1) z1 z2
      · cases q
    · cases q⟩
end
end L2.VI

/-! VI: orders on data, sorted. -/
namespace L2.VI
open PySem PySem.Spec PyProof.Rows L2
open PySem.W (alike alikeAll dataLt dataLe AllAlike Sortable EachIs keyToksAll)
open PyProof.Rows (itemOrd)

/-! ### orders -/
mutual
def dAlike : D → D → Bool
  | .non, .non => true
  | .bl _, .bl _ => true
  | .int _, .int _ => true
  | .str _, .str _ => true
  | .lst xs, .lst ys => dAlikes xs ys
  | .tup xs, .tup ys => dAlikes xs ys
  | _, _ => false
def dAlikes : List D → List D → Bool
  | x :: xs, y :: ys => dAlike x y && dAlikes xs ys
  | _, _ => true
end
mutual
def dLt : D → D → Bool
  | .bl a, .bl b => !a && b
  | .int i, .int j => decide (i < j)
  | .str a, .str b => decide (a < b)
  | .lst xs, .lst ys => dLts xs ys
  | .tup xs, .tup ys => dLts xs ys
  | _, _ => false
def dLts : List D → List D → Bool
  | x :: xs, y :: ys => if D.eqv x y then dLts xs ys else dLt x y
  | [], _ :: _ => true
  | _, _ => false
end
theorem toks_nil_cons (y : PyData) (ys : List PyData) : PyProof.Rows.lexLt itemOrd (keyToksAll []) (keyToksAll (y :: ys)) = true := by
  simp only [keyToksAll]
  exact (PyProof.Rows.lex_cons (O := itemOrd) _ _ _ _).trans (by simp [PyProof.Rows.itemLt])
theorem toks_cons_nil (y : PyData) (ys : List PyData) : PyProof.Rows.lexLt itemOrd (keyToksAll (y :: ys)) (keyToksAll []) = false := by
  simp only [keyToksAll]
  exact (PyProof.Rows.lex_cons (O := itemOrd) _ _ _ _).trans (by simp [PyProof.Rows.itemLt])
mutual
theorem alike_toP : ∀ (d e : D), dAlike d e = true → alike (toP d) (toP e) = true
  | .non, e, h => by cases e <;> first | rfl | (simp [dAlike] at h)
  | .bl _, e, h => by cases e <;> first | rfl | (simp [dAlike] at h)
  | .int _, e, h => by cases e <;> first | rfl | (simp [dAlike] at h)
  | .str _, e, h => by cases e <;> first | rfl | (simp [dAlike] at h)
  | .lst xs, e, h => by
    cases e with
    | lst ys => exact alikes_toP xs ys (by simpa [dAlike] using h)
    | _ => simp [dAlike] at h
  | .tup xs, e, h => by
    cases e with
    | tup ys => exact alikes_toP xs ys (by simpa [dAlike] using h)
    | _ => simp [dAlike] at h
  | .dct _ _, e, h => by cases e <;> simp [dAlike] at h
  | .hnd, e, h => by cases e <;> simp [dAlike] at h
theorem alikes_toP : ∀ (xs ys : List D), dAlikes xs ys = true → alikeAll (toPs xs) (toPs ys) = true
  | [], ys, _ => by cases ys <;> rfl
  | _ :: _, [], _ => rfl
  | x :: xs, y :: ys, h => by
    simp only [dAlikes, Bool.and_eq_true] at h
    show (alike (toP x) (toP y) && alikeAll (toPs xs) (toPs ys)) = true
    rw [alike_toP x y h.1, alikes_toP xs ys h.2]; rfl
end
mutual
theorem lt_toP : ∀ (n m : Nat) (d e : D), sh n d = true → sh m e = true → dAlike d e = true → dataLt (toP d) (toP e) = dLt d e
  | n, m, .non, e, _, _, h => by
    cases e with
    | non => exact PyProof.Rows.lex_irrefl (O := itemOrd) _
    | _ => simp [dAlike] at h
  | n, m, .bl a, e, _, _, h => by
    cases e with
    | bl b => exact (PySem.W.dataLt_bool a b).trans (by cases a <;> cases b <;> rfl)
    | _ => simp [dAlike] at h
  | n, m, .int a, e, _, _, h => by
    cases e with
    | int b => exact PySem.W.dataLt_int a b
    | _ => simp [dAlike] at h
  | n, m, .str a, e, _, _, h => by
    cases e with
    | str b => exact PySem.W.dataLt_str _ _
    | _ => simp [dAlike] at h
  | n, m, .lst xs, e, h1, h2, h => by
    cases e with
    | lst ys =>
      cases n with
      | zero => simp [sh] at h1
      | succ n =>
        cases m with
        | zero => simp [sh] at h2
        | succ m => exact (PySem.W.dataLt_list _ _).trans (lts_toP n m xs ys (by simpa [sh] using h1) (by simpa [sh] using h2) (by simpa [dAlike] using h))
    | _ => simp [dAlike] at h
  | n, m, .tup xs, e, h1, h2, h => by
    cases e with
    | tup ys =>
      cases n with
      | zero => simp [sh] at h1
      | succ n =>
        cases m with
        | zero => simp [sh] at h2
        | succ m => exact (PySem.W.dataLt_tuple _ _).trans (lts_toP n m xs ys (by simpa [sh] using h1) (by simpa [sh] using h2) (by simpa [dAlike] using h))
    | _ => simp [dAlike] at h
  | n, m, .dct _ _, e, h, _, _ => by simp [sh] at h
  | n, m, .hnd, e, h, _, _ => by simp [sh] at h
theorem lts_toP : ∀ (n m : Nat) (xs ys : List D), shs n xs = true → shs m ys = true → dAlikes xs ys = true → PyProof.Rows.lexLt itemOrd (keyToksAll (toPs xs)) (keyToksAll (toPs ys)) = dLts xs ys
  | n, m, [], [], _, _, _ => PyProof.Rows.lex_irrefl (O := itemOrd) _
  | n, m, [], y :: ys, _, _, _ => toks_nil_cons _ _
  | n, m, x :: xs, [], _, _, _ => toks_cons_nil _ _
  | n, m, x :: xs, y :: ys, h1, h2, h => by
    simp only [shs, Bool.and_eq_true] at h1 h2
    simp only [dAlikes, Bool.and_eq_true] at h
    show PyProof.Rows.lexLt itemOrd (keyToksAll (toP x :: toPs xs)) (keyToksAll (toP y :: toPs ys)) = if D.eqv x y then dLts xs ys else dLt x y
    rw [PySem.W.dataLt_cons (alike_toP x y h.1), eqv_toP n m x y h1.1 h2.1, lts_toP n m xs ys h1.2 h2.2 h.2, lt_toP n m x y h1.1 h2.1 h.1]
end

/-! ### sorting -/
def dLe (x y : D) : Bool := !dLt y x
def isTup1 : D → Bool
  | .tup (_ :: _) => true
  | _ => false
def isAtom : D → Bool
  | .non => false
  | .tup _ => false
  | _ => true
def okSort (xs : List D) : Bool := decide (xs.length ≤ 16777216) && (xs.all (sh 60) && (xs.all (fun x => xs.all (dAlike x)) && (xs.all isTup1 || xs.all isAtom)))
def oSorted : D → Option D
  | .lst xs => if okSort xs then some (.lst (xs.mergeSort dLe)) else none
  | .dct _ ps => if okSort (ps.map (·.1)) then some (.lst ((ps.map (·.1)).mergeSort dLe)) else none
  | _ => none

theorem DVs.of_mem {K : PySem.W.Frag} {ho : Option Addr} {G : Hp} : ∀ {l : List (V × D)}, (∀ p ∈ l, DV K ho G p.1 p.2) → DVs K ho G (l.map (·.1)) (l.map (·.2))
  | [], _ => .nil
  | p :: l, h => .cons (h p List.mem_cons_self) (DVs.of_mem fun q hq => h q (List.mem_cons_of_mem _ hq))
theorem DVs.mem_zip {K : PySem.W.Frag} {ho : Option Addr} {G : Hp} : ∀ {vs : List V} {ds : List D}, DVs K ho G vs ds → ∀ p ∈ vs.zip ds, DV K ho G p.1 p.2
  | _, _, .nil, p, h => by simp at h
  | _, _, .cons h1 h2, p, h => by
    rw [List.zip_cons_cons] at h
    rcases List.mem_cons.mp h with rfl | h
    · exact h1
    · exact h2.mem_zip p h
theorem DVs.zip_fst {K : PySem.W.Frag} {ho : Option Addr} {G : Hp} {vs : List V} {ds : List D} (h : DVs K ho G vs ds) : (vs.zip ds).map (·.1) = vs := by
  rw [List.map_fst_zip (by rw [h.length]; exact Nat.le_refl _)]
theorem DVs.zip_snd {K : PySem.W.Frag} {ho : Option Addr} {G : Hp} {vs : List V} {ds : List D} (h : DVs K ho G vs ds) : (vs.zip ds).map (·.2) = ds := by
  rw [List.map_snd_zip (by rw [h.length]; exact Nat.le_refl _)]
theorem vals_each : ∀ {vs : List V} {us : List Value} {ds : List D}, Vals vs us → vs.length = ds.length → EachIs (fun u (p : V × D) => RelV p.1 u) us (vs.zip ds)
  | _, _, [], .nil, _ => .nil
  | _, _, d :: ds, .cons r t, h => by rw [List.zip_cons_cons]; exact .cons r (vals_each t (by simpa using h))
  | _, _, _ :: _, .nil, h => by simp at h
  | _, _, [], .cons _ _, h => by simp at h
theorem each_vals : ∀ {us : List Value} {l : List (V × D)}, EachIs (fun u (p : V × D) => RelV p.1 u) us l → Vals (l.map (·.1)) us
  | _, _, .nil => .nil
  | _, _, .cons r t => .cons r (each_vals t)
theorem each_reads {X : Cx} {pins : List (Addr × Obj)} {σ : L2.St} {H : Hp} {s : Shared} (I : Inv X pins σ H s) {ho : Option Addr} {G : Hp} (gh : Same G H) : ∀ {vs : List V} {us : List Value} {ds : List D}, Vals vs us → DVs X.K ho G vs ds → (∀ d ∈ ds, sh 60 d = true) →
    EachIs (fun u (p : V × D) => ∃ as, Reads s.heap u (toP p.2) as) us (vs.zip ds)
  | _, _, _, .nil, .nil, _ => .nil
  | _, _, _, .cons r t, .cons h1 h2, hs => by
    rw [List.zip_cons_cons]
    exact .cons (Dp.reads I _ _ _ (dp_of gh 60 _ _ (hs _ List.mem_cons_self) h1) r) (each_reads I gh t h2 fun d hd => hs d (List.mem_cons_of_mem _ hd))
theorem sort_snd {vs : List V} {ds : List D} (hl : vs.length = ds.length) (hs : ∀ d ∈ ds, sh 60 d = true) (ha : ∀ d ∈ ds, ∀ e ∈ ds, dAlike d e = true) :
    ((vs.zip ds).mergeSort (dataLe false fun p => toP p.2)).map (·.2) = ds.mergeSort dLe := by
  have e : (vs.zip ds).map (·.2) = ds := List.map_snd_zip (by rw [hl]; exact Nat.le_refl _)
  rw [List.map_mergeSort (s := dLe), e]
  intro p hp q hq
  have p2 : p.2 ∈ ds := by rw [← e]; exact List.mem_map.mpr ⟨p, hp, rfl⟩
  have q2 : q.2 ∈ ds := by rw [← e]; exact List.mem_map.mpr ⟨q, hq, rfl⟩
  show (!dataLt (toP q.2) (toP p.2)) = dLe p.2 q.2
  rw [lt_toP 60 60 q.2 p.2 (hs _ q2) (hs _ p2) (ha _ q2 _ p2)]
  rfl
structure SortOk (xs : List D) : Prop where
  len : xs.length ≤ 16777216
  sh : ∀ d ∈ xs, VI.sh 60 d = true
  al : ∀ d ∈ xs, ∀ e ∈ xs, dAlike d e = true
  srt : Sortable (xs.map toP)
theorem okSort_ok {xs : List D} (h : okSort xs = true) : SortOk xs := by
  simp only [okSort, Bool.and_eq_true, decide_eq_true_eq, List.all_eq_true, Bool.or_eq_true] at h
  refine ⟨h.1, h.2.1, h.2.2.1, ?_⟩
  rcases h.2.2.2 with q | q
  · refine .inl fun d hd => ?_
    obtain ⟨e, he, rfl⟩ := List.mem_map.mp hd
    have := q e he
    cases e with
    | tup ys =>
      cases ys with
      | nil => simp [isTup1] at this
      | cons y ys => exact ⟨_, _, rfl⟩
    | _ => simp [isTup1] at this
  · refine .inr fun d hd => ?_
    obtain ⟨e, he, rfl⟩ := List.mem_map.mp hd
    have q1 := q e he
    have q2 := h.2.1 e he
    cases e <;> simp [isAtom] at q1 <;> simp [VI.sh] at q2 <;> exact ⟨by simp [toP], fun xs => by simp [toP]⟩
theorem SortOk.alike {xs : List D} (h : SortOk xs) {vs : List V} (hl : vs.length = xs.length) : AllAlike ((vs.zip xs).map fun p => toP p.2) := by
  have e : (vs.zip xs).map (·.2) = xs := List.map_snd_zip (by rw [hl]; exact Nat.le_refl _)
  intro d hd d' hd'
  obtain ⟨p, hp, rfl⟩ := List.mem_map.mp hd
  obtain ⟨q, hq, rfl⟩ := List.mem_map.mp hd'
  exact alike_toP _ _ (h.al _ (by rw [← e]; exact List.mem_map.mpr ⟨p, hp, rfl⟩) _ (by rw [← e]; exact List.mem_map.mpr ⟨q, hq, rfl⟩))
theorem SortOk.sortable {xs : List D} (h : SortOk xs) {vs : List V} (hl : vs.length = xs.length) : Sortable ((vs.zip xs).map fun p => toP p.2) := by
  have e : (vs.zip xs).map (·.2) = xs := List.map_snd_zip (by rw [hl]; exact Nat.le_refl _)
  have e2 : (vs.zip xs).map (fun p => toP p.2) = xs.map toP := by
    have := congrArg (List.map toP) e
    rw [List.map_map] at this
    exact this
  rw [e2]; exact h.srt
theorem SortOk.depth {xs : List D} (h : SortOk xs) {vs : List V} (hl : vs.length = xs.length) : ∀ p ∈ vs.zip xs, (toP p.2).depth ≤ 60 := fun p hp => by
  have e : (vs.zip xs).map (·.2) = xs := List.map_snd_zip (by rw [hl]; exact Nat.le_refl _)
  exact (sh_depth 60 p.2 (h.sh _ (by rw [← e]; exact List.mem_map.mpr ⟨p, hp, rfl⟩))).1

section
variable {X : Cx} {pins : List (Addr × Obj)} {σ : L2.St} {H : Hp} {s : Shared} {ho : Option Addr} {hs : Hnd} {G : Hp} {K : PySem.W.Frag}
/-- key tuples of a dict become data -/
def trk (G H : Hp) (L : List Addr) : Hp := fun b => if b ∈ L then H b else G b
theorem track (gh : Same G H) (hh : HandOk K G H hs ho) (L : List Addr) (hL : ∀ b ∈ L, ∃ vs, H b = some (.tup vs)) : CallEnd K ho hs G H (trk G H L) H where
  g := fun b u e => by
    unfold trk
    split
    · exact gh b u e
    · exact e
  gh := fun b u e => by
    unfold trk at e
    split at e
    · exact e
    · exact gh b u e
  frame := fun b u e _ => e
  fresh := fun b o e t n => by
    unfold trk
    split
    · rename_i hb
      obtain ⟨vs, hv⟩ := hL b hb
      rw [e] at hv; cases hv
      exact absurd rfl (t vs)
    · exact n
  there := fun b e => e
  hand := by
    cases ho with
    | none => trivial
    | some a =>
      obtain ⟨h1, ca, h2, h3⟩ := hh
      refine ⟨?_, ca, h2, sameAt (fun b u e => ?_) h3⟩
      · unfold trk
        split
        · rename_i hb
          obtain ⟨vs, hv⟩ := hL a hb
          rw [h2] at hv; cases hv
        · exact h1
      · unfold trk
        split
        · exact gh b u e
        · exact e
theorem vals_ix : ∀ {vs : List V} {us : List Value}, us.length = vs.length → (∀ (j : Nat) (u : Value), us[j]? = some u → ∃ x, vs[j]? = some x ∧ RelV x u) → Vals vs us
  | [], [], _, _ => .nil
  | v :: vs, u :: us, hl, h => by
    obtain ⟨x, e1, e2⟩ := h 0 u rfl
    cases e1
    refine .cons e2 (vals_ix (by simpa using hl) fun j u' e => ?_)
    obtain ⟨x, a, b⟩ := h (j + 1) u' (by simpa using e)
    exact ⟨x, by simpa using a, b⟩
  | [], _ :: _, hl, _ => by simp at hl
  | _ :: _, [], hl, _ => by simp at hl
theorem DV_keyD (k : Key) : DV K ho G (kV k) (keyD k) := by
  cases k with
  | inl i => exact .int i
  | inr s => exact .str s.cps.toList
theorem DVs_keys : ∀ ks : List Key, DVs K ho G (ks.map kV) (ks.map keyD)
  | [] => .nil
  | k :: ks => .cons (DV_keyD k) (DVs_keys ks)
theorem DKs.keys : ∀ {kvs : List (Key × V)} {ps : List (D × D)}, DKs K ho G kvs ps → DVs K ho G (kvs.map fun kv => kV kv.1) (ps.map (·.1))
  | _, _, .nil => .nil
  | _, _, .cons (k := k) _ t => .cons (DV_keyD k) t.keys
theorem DTs.keys {H : Hp} : ∀ {kvs : List (List Key × V)} {ps : List (D × D)} {xs : List (List Key × Addr × Value)}, DTs K ho G kvs ps → KT H kvs xs → ∀ {G' : Hp}, (∀ x ∈ xs, G' x.2.1 = H x.2.1) → DVs K ho G' (xs.map fun x => V.ref x.2.1) (ps.map (·.1))
  | _, _, _, .nil, r, _, _ => by cases r; exact .nil
  | _, _, _, .cons (k := k) _ t, r, G', h => by
    cases r with
    | cons hx rr =>
      obtain ⟨e1, e2, _⟩ := hx
      refine .cons (.tup ((h _ List.mem_cons_self).trans e2) ?_) (t.keys rr fun x hx => h x (List.mem_cons_of_mem _ hx))
      exact DVs_keys k
theorem KT.tups {kvs : List (List Key × V)} {xs : List (List Key × Addr × Value)} (r : KT H kvs xs) : ∀ x ∈ xs, ∃ vs, H x.2.1 = some (.tup vs) := by
  induction r with
  | nil => intro x hx; exact nomatch hx
  | @cons p q ps qs hq t ih =>
    intro x hx
    rcases List.mem_cons.mp hx with e | hx
    · subst e; exact ⟨_, hq.2.1⟩
    · exact ih x hx
/-- the keys of a dict, collected -/
theorem keys_collect {t : Bool} {ps : List (D × D)} {a : Addr} {E : Value → Shared → Prop} {R : List Value → Shared → Prop} (I : Inv X pins σ H s) (hh0 : X.A.in1.handled = none) (gh : Same G H) (hh : HandOk X.K G H hs ho) (w : OwnAt X.K ho G (H a) (.dct t ps))
    (h : ∀ (h' : Heap) (tk : Nat) (acc : Array Value) (vks : List V) (G' : Hp), (∀ b o, s.heap.get? b = some o → h'.get? b = some o) → Vals vks acc.toList → CallEnd X.K ho hs G H G' H → DVs X.K ho G' vks (ps.map (·.1)) → vks.length ≤ sizeLine → R acc.toList { s with heap := h', toks := tk }) :
    wpAny (model X.prog X.w) X.A.in1 (collect (.ref a)) R E s := by
  cases t with
  | false =>
    obtain ⟨kvs, e, dv⟩ := w
    obtain ⟨z, lo, vs, rel, dd⟩ := dk_rd I.hok (.inl e)
    obtain ⟨ep, hat⟩ := dd.dictAt
    have hl : kvs.length = vs.length := Paired.length rel
    have h16 : vs.length ≤ sizeLine := by rw [← hl]; exact z
    refine PySem.W.kdu_collect (A := X.A.in1) (PySem.W.kdl_dict (knd := mixKind X.prog X.w) (kvs := vs) (ep := ep) lo) hh0 hat h16 fun h' tk acc hk hacc => ?_
    refine h h' tk acc (kvs.map fun kv => kV kv.1) G hk (vals_ix ?_ fun j u e1 => ?_) (.refl gh hh) dv.keys (by rw [List.length_map]; exact z)
    · rw [Array.length_toList, hacc.1, List.length_map, hl]
    · obtain ⟨k, x, e2, e3⟩ := hacc.2 j u (by rw [← Array.getElem?_toList]; exact e1)
      have e4 : (vs.map (·.1))[j]? = some k := by rw [List.getElem?_map, e2]; rfl
      rw [← rel.keys, List.getElem?_map] at e4
      obtain ⟨kv, e5, e6⟩ := Option.map_eq_some_iff.mp e4
      subst e6
      refine ⟨kV kv.1, by rw [List.getElem?_map, e5]; rfl, ?_⟩
      rcases keyIs_shape (show keyIs kv.1 u = true from e3) with ⟨i, t, ek, ev⟩ | ⟨z, t, ek, ev⟩
      · rw [ek]; exact ⟨t, ev⟩
      · rw [ek]; exact ⟨t, ev⟩
  | true =>
    obtain ⟨kvs, e, dv⟩ := w
    obtain ⟨z, lo, xs, rel, o, es, ep, h1, h2, h3, h4, h5, h6⟩ := dt_rd I.hok (.inl e)
    have hl : kvs.length = xs.length := Paired.length rel
    have hes : es.size = xs.length := size_of_entries h4
    refine PySem.W.kdu_collect (A := X.A.in1) (KdlSrc.rawDict (es := es) (ep := ep) lo) hh0 ⟨o, h1, h2, h3⟩ (by rw [hes, ← hl]; exact z) fun h' tk acc hk hacc => ?_
    refine h h' tk acc (xs.map fun x => .ref x.2.1) (trk G H (xs.map fun x => x.2.1)) hk (vals_ix ?_ fun j u e1 => ?_) (track gh hh _ fun b hb => ?_) (dv.keys rel fun x hx => ?_) (by rw [List.length_map, ← hl]; exact z)
    · rw [Array.length_toList, hacc.1, List.length_map, hes]
    · obtain ⟨hi, e2⟩ := hacc.2 j u (by rw [← Array.getElem?_toList]; exact e1)
      have e3 := entry_at h4 j
      rw [Array.getElem?_eq_getElem hi] at e3
      obtain ⟨x, e4, e5⟩ := Option.map_eq_some_iff.mp e3.symm
      refine ⟨.ref x.2.1, by rw [List.getElem?_map, e4]; rfl, ?_⟩
      rw [e2, ← e5]; exact rfl
    · obtain ⟨x, hx, rfl⟩ := List.mem_map.mp hb
      exact KT.tups rel x hx
    · unfold trk
      rw [if_pos (List.mem_map.mpr ⟨x, hx, rfl⟩)]
end
end L2.VI

/-! VI: built-ins of one value: sorted, tuple, max, min, all, any, sum; min and max of two. -/
namespace L2.VI
open PySem PySem.Spec PyProof.Rows L2
open PySem.W (alike dataLe EachIs)

section
variable {X : Cx} {B : Bs} {O O' L : List Nat} {a b e : Expr} {fa fb fe : EF} {pos p : Pos}

mutual
theorem reads_lt {h : Heap} : ∀ (d : D) (v : Value) (as : List Addr), Reads h v (toP d) as → ∀ a ∈ as, a < h.objs.size
  | .non, _, _, r => by cases r; intro a ha; cases ha
  | .bl _, _, _, r => by cases r; intro a ha; cases ha
  | .int _, _, _, r => by cases r; intro a ha; cases ha
  | .str _, _, _, r => by cases r; intro a ha; cases ha
  | .lst xs, _, _, r => by
    cases r with
    | list h1 h2 h3 h4 =>
      intro a ha
      rcases List.mem_cons.mp ha with e | ha
      · rw [e]; exact Heap.lt_size h1
      · exact readsAll_lt xs _ _ h4 a ha
  | .tup xs, _, _, r => by
    cases r with
    | tuple h1 h2 h3 h4 => exact readsAll_lt xs _ _ h4
  | .dct _ _, _, _, r => by cases r; intro a ha; cases ha
  | .hnd, _, _, r => by cases r; intro a ha; cases ha
theorem readsAll_lt {h : Heap} : ∀ (ds : List D) (vs : List Value) (as : List Addr), ReadsAll h vs (toPs ds) as → ∀ a ∈ as, a < h.objs.size
  | [], _, _, r => by cases r; intro a ha; cases ha
  | d :: ds, _, _, r => by
    cases r with
    | cons h1 h2 =>
      intro a ha
      rcases List.mem_append.mp ha with ha | ha
      · exact reads_lt d _ _ h1 a ha
      · exact readsAll_lt ds _ _ h2 a ha
end
/-- a call of one value that is read at once -/
def rR1 (K : PySem.W.Frag) (op : D → Option D) : List V → Hp → VK → Prop := fun xs H Q => ∃ G ho hs x d z, xs = [x] ∧ Same G H ∧ HandOk K G H hs ho ∧ RV K ho G H x d ∧ op d = some z ∧
  ∀ v G' H', CallEnd K ho hs G H G' H' → DV K ho G' v z → Q v H'
theorem tE_r1 {K : PySem.W.Frag} {op : D → Option D} {σ : L2.St} {H : Hp} {Q : VK} (h : tE K O (eUn op fa) σ H Q) : tR K O fa σ H fun x H1 => rR1 K op [x] H1 Q := by
  obtain ⟨ho, sl, hs, G, d, hs', r, q, k⟩ := h
  obtain ⟨x, e1, e2⟩ := eUn_some q
  exact ⟨ho, sl, hs, G, x, hs', r, e1, fun v G1 H1 c1 d1 => ⟨G1, ho, hs', v, x, d, rfl, c1.gh, c1.hand, d1, e2, fun w G2 H2 c2 d2 => k w G2 H2 (c1.trans c2) d2⟩⟩
theorem qe_b1 {op : D → Option D} {x : Str} {id : String} (hc : CallR X (.builtin id) (rR1 X.K op)) (hm : X.mg x = none) (ha : QR X O a fa) (hv : bootBuiltins x = some (.builtin id)) (hg : Gl X x) (hn : x ≠ "__name__") (hdb : (x == ("__debug__" : Str)) = false)
    (he1 : starEach [a] X.env = (false, eval a X.env) :: starEach [] X.env) (hpl : (backTo pos (starEach [] X.env)).any (·.1) = false) : QE X O (.Call (.Name x p) [a] [] pos) (eUn op fa) :=
  ⟨PE.imp (pe_callB hc hg hm hv (pa_cons ha.pe pa_nil he1) hn hdb he1 hpl) fun σ H Q h => tE_r1 h⟩
theorem qe_t1 {op : D → Option D} {x : Str} {T : String} (hc : CallR X (.type T) (rR1 X.K op)) (hm : X.mg x = none) (ha : QR X O a fa) (hv : bootBuiltins x = some (.type T)) (hg : Gl X x) (hn : x ≠ "__name__") (hdb : (x == ("__debug__" : Str)) = false)
    (he1 : starEach [a] X.env = (false, eval a X.env) :: starEach [] X.env) (hpl : (backTo pos (starEach [] X.env)).any (·.1) = false) : QE X O (.Call (.Name x p) [a] [] pos) (eUn op fa) :=
  ⟨PE.imp (pe_callTy hc hg hm hv (pa_cons ha.pe pa_nil he1) hn hdb he1 hpl) fun σ H Q h => tE_r1 h⟩

/-! ### sorted -/
theorem cr_sorted' (hcm : X.calm = true) (hu : X.A.units + 64 < cLine) : CallR X (.builtin "sorted") (rR1 X.K oSorted) := by
  intro pins s σ H xs us Q I r ⟨G, ho, hs, x, d, z, ex, gh, hh, dx, ez, k⟩
  subst ex
  obtain ⟨u, eu, rx⟩ := vals1 r
  subst eu
  have hul : X.A.units + 2 + 60 < cLine := by omega
  unfold oSorted at ez
  split at ez
  · rename_i xs
    split at ez
    · rename_i hok
      cases ez
      have O := okSort_ok hok
      obtain ⟨a, vs, rfl, h1, h2⟩ := dx.lst gh
      obtain rfl : u = Value.ref a := rx
      obtain ⟨its, rv, hl, hz⟩ := I.list (SqL.of (K := X.K) h1)
      have hlen : vs.length = xs.length := h2.length
      have hzl : (vs.zip xs).length = xs.length := by rw [List.length_zip, hlen]; exact Nat.min_self _
      refine PySem.W.sorted_data (vs := its) (R := fun u (p : V × D) => RelV p.1 u) (enc := fun p => toP p.2) (bs := vs.zip xs) hl.isList (vals_each rv hlen) (each_reads I gh rv h2 O.sh) (O.alike hlen) (O.sortable hlen) (by rw [hzl]; exact line_le O.len) (fun p hp => by have := O.depth hlen p hp; omega) fun out ho1 ho2 => ?_
      obtain ⟨ep, he'⟩ := PyProof.Rows.sortedAll_at s.heap its out.toArray
      have V1 := each_vals ho2
      have D1 := DVs.of_mem (K := X.K) (ho := ho) (G := G) (l := (vs.zip xs).mergeSort (dataLe false fun p => toP p.2)) fun p hp => h2.mem_zip p (List.mem_mergeSort.mp hp)
      rw [sort_snd hlen O.sh O.al] at D1
      have hn : (((vs.zip xs).mergeSort (dataLe false fun p => toP p.2)).map (·.1)).length ≤ sizeLine := by rw [D1.length, List.length_mergeSort]; exact line_le O.len
      refine ⟨.ref _, upd H (s.heap.objs.size + 1) (.lst _), I.laid (t' := s.toks) (fun _ _ => PyProof.Rows.sortedAll_old) (Nat.le_succ _) ⟨hn, out, ep, V1, he'⟩, rfl, ?_⟩
      obtain ⟨c, dv⟩ := laidLst gh hh D1 (I.hok.fresh (Nat.le_succ _))
      exact k _ _ _ c dv
    · cases ez
  · rename_i t ps
    split at ez
    · rename_i hok
      cases ez
      have O := okSort_ok hok
      obtain ⟨a, rfl, w⟩ := dx.dct gh
      obtain rfl : u = Value.ref a := rx
      refine Calls.call_function_entry PyProof.Rows.kind_sorted PyProof.Rows.plain_sorted PyProof.Rows.entry_sorted (PyProof.Rows.args_sorted1 _) ?_
      unfold Builtin.«sorted»
      refine wpAny_bind (m := checkCount "sorted" 1 1 _) (wpAny_pure ?_)
      refine wpAny_bind (keys_collect I (I.ok.hd hcm) gh hh w fun h' tk acc vks G' hk rv c1 dks hz => ?_)
      have I1 : Inv X pins σ H { s with heap := h', toks := tk } := I.kept hk
      have hlen : vks.length = (ps.map (·.1)).length := dks.length
      have hzl : (vks.zip (ps.map (·.1))).length = (ps.map (·.1)).length := by rw [List.length_zip, hlen]; exact Nat.min_self _
      refine wpAny_bind (wpAny_newList ?_ (by rw [← rv.length]; exact hz))
      have hoL : (h'.push (seqObj "list" acc.toList.toArray 0)).get? h'.objs.size = some (seqObj "list" acc.toList.toArray 0) := Heap.get?_push_size _ rfl
      show wpAny _ _ _ _ _ ⟨h'.push (seqObj "list" acc.toList.toArray 0), s.gens, s.drawn, tk, s.os⟩
      have rd := each_reads I1 c1.gh rv dks O.sh
      refine wpAny_bind (wpAny_holding (PySem.W.list_sort_data (s := ⟨h'.push (seqObj "list" acc.toList.toArray 0), s.gens, s.drawn, tk, s.os⟩) (R := fun u (p : V × D) => RelV p.1 u) (enc := fun p => toP p.2) (bs := vks.zip (ps.map (·.1))) hoL (vals_each rv hlen)
        (rd.mono fun u q ⟨as, hr⟩ => ⟨as, PyProof.Rows.Reads.keeps (fun _ _ e => Heap.get?_push_of_some _ e) hr, fun hm => Nat.lt_irrefl _ (reads_lt _ _ _ hr _ hm)⟩) (O.alike hlen) (O.sortable hlen) (by rw [hzl]; exact line_le O.len) (fun p hp => by have := O.depth hlen p hp; show X.A.units + 1 + 1 + _ < _; omega) fun out ho1 ho2 => ?_))
      obtain ⟨e', he'⟩ := PyProof.Rows.sortedHeap_at (vs := acc.toList) (out := out.toArray) hoL
      have V1 := each_vals ho2
      have D1 := DVs.of_mem (K := X.K) (ho := ho) (G := G') (l := (vks.zip (ps.map (·.1))).mergeSort (dataLe false fun p => toP p.2)) fun p hp => dks.mem_zip p (List.mem_mergeSort.mp hp)
      rw [sort_snd hlen O.sh O.al] at D1
      have hn : (((vks.zip (ps.map (·.1))).mergeSort (dataLe false fun p => toP p.2)).map (·.1)).length ≤ sizeLine := by rw [D1.length, List.length_mergeSort]; exact line_le O.len
      refine wpAny_pure ⟨_, rfl, .ref h'.objs.size, upd H h'.objs.size (.lst _), I1.laid (t' := tk) (fun b u e => ?_) (Nat.le_refl _)
        (show ObjOk X.prog X.w _ _ _ (.lst _) from ⟨hn, out, e', V1, he'⟩), rfl, ?_⟩
      · have hb : b < h'.objs.size := Heap.lt_size e
        rw [PyProof.Rows.sortedHeap_old (Nat.ne_of_lt hb) (by rw [size_push']; exact Nat.lt_succ_of_lt hb)]
        exact Heap.get?_push_of_some _ e
      · obtain ⟨c, dv⟩ := laidLst c1.gh c1.hand D1 (I1.hok.fresh (Nat.le_refl _))
        exact k _ _ _ (c1.trans c) dv
    · cases ez
  · cases ez
theorem qe_sorted1 {k : Nat} (hr : Room k X.A) (hm : X.mg "sorted" = none) (ha : QR X O a fa) (hcm : X.calm = true := by rfl) (hv : bootBuiltins "sorted" = some (.builtin "sorted") := by decide +kernel) (hg : Gl X "sorted" := by rfl)
    (he1 : starEach [a] X.env = (false, eval a X.env) :: starEach [] X.env := by rfl) (hpl : (backTo pos (starEach [] X.env)).any (·.1) = false := by rfl) : QE X O (.Call (.Name "sorted" p) [a] [] pos) (eUn oSorted fa) :=
  qe_b1 (cr_sorted' hcm hr.units) hm ha hv hg (by decide) (by decide) he1 hpl

/-! ### tuple -/
def oTuple : D → Option D
  | .lst xs => some (.tup xs)
  | .tup xs => some (.tup xs)
  | _ => none
theorem cr_tuple' : CallR X (.type "tuple") (rR1 X.K oTuple) := by
  intro pins s σ H xs us Q I r ⟨G, ho, hs, x, d, z, ex, gh, hh, dx, ez, k⟩
  subst ex
  unfold oTuple at ez
  split at ez
  · cases ez
    obtain ⟨a, vs, rfl, h1, h2⟩ := dx.lst gh
    refine call_tuple_of pins s σ H _ us Q I r ⟨a, vs, rfl, .inl ⟨SqL.of h1, fun l hl => ?_⟩⟩
    obtain ⟨c, dv⟩ := laidTup gh hh h2 hl
    exact k _ _ _ c dv
  · cases ez
    cases dx.dv (fun o h => h) with
    | @tup a vs _ h1 h2 => exact call_tuple_of pins s σ H _ us Q I r ⟨a, vs, rfl, .inr ⟨SqT.of (gh _ _ h1), k _ G H (.refl gh hh) (.tup h1 h2)⟩⟩
  · cases ez
theorem qe_tuple1 {k : Nat} (hr : Room k X.A) (hm : X.mg "tuple" = none) (ha : QR X O a fa) (hv : bootBuiltins "tuple" = some (.type "tuple") := by decide +kernel) (hg : Gl X "tuple" := by rfl)
    (he1 : starEach [a] X.env = (false, eval a X.env) :: starEach [] X.env := by rfl) (hpl : (backTo pos (starEach [] X.env)).any (·.1) = false := by rfl) : QE X O (.Call (.Name "tuple" p) [a] [] pos) (eUn oTuple fa) :=
  qe_t1 cr_tuple' hm ha hv hg (by decide) (by decide) he1 hpl

/-! ### all, any, sum -/
def blsOf : List D → Option (List Bool)
  | [] => some []
  | .bl b :: ds => (blsOf ds).map (b :: ·)
  | _ :: _ => none
def intsOf : List D → Option (List Int)
  | [] => some []
  | .int b :: ds => (intsOf ds).map (b :: ·)
  | _ :: _ => none
theorem blsOf_eq : ∀ {ds : List D} {bs : List Bool}, blsOf ds = some bs → ds = bs.map D.bl
  | [], bs, h => by cases h; rfl
  | d :: ds, bs, h => by
    cases d <;> simp [blsOf] at h
    obtain ⟨c, h1, h2⟩ := h
    rw [← h2, blsOf_eq h1]; rfl
theorem intsOf_eq : ∀ {ds : List D} {bs : List Int}, intsOf ds = some bs → ds = bs.map D.int
  | [], bs, h => by cases h; rfl
  | d :: ds, bs, h => by
    cases d <;> simp [intsOf] at h
    obtain ⟨c, h1, h2⟩ := h
    rw [← h2, intsOf_eq h1]; rfl
theorem blsOf_map : ∀ bs : List Bool, blsOf (bs.map D.bl) = some bs
  | [] => rfl
  | b :: bs => by simp [blsOf, blsOf_map bs]
theorem intsOf_map : ∀ bs : List Int, intsOf (bs.map D.int) = some bs
  | [] => rfl
  | b :: bs => by simp [intsOf, intsOf_map bs]
theorem DVs.of_bls {K : PySem.W.Frag} {ho : Option Addr} {G : Hp} : ∀ {ns : List Bool} {vs : List V}, DVs K ho G vs (ns.map D.bl) → vs = ns.map V.bl
  | [], _, h => by cases h; rfl
  | _ :: _, _, h => by cases h with | cons h1 h2 => cases h1; rw [DVs.of_bls h2]; rfl
def oAll : D → Option D
  | .lst xs => (blsOf xs).map fun bs => .bl (bs.all id)
  | _ => none
def oAny : D → Option D
  | .lst xs => (blsOf xs).map fun bs => .bl (bs.any id)
  | _ => none
def oSum : D → Option D
  | .lst xs => (intsOf xs).map fun ns => .int ns.sum
  | _ => none
theorem cr_all' (hcm : X.calm = true) : CallR X (.builtin "all") (rR1 X.K oAll) := by
  intro pins s σ H xs us Q I r ⟨G, ho, hs, x, d, z, ex, gh, hh, dx, ez, k⟩
  subst ex
  unfold oAll at ez
  split at ez
  · obtain ⟨bs, e1, rfl⟩ := Option.map_eq_some_iff.mp ez
    have e2 := blsOf_eq e1
    subst e2
    obtain ⟨a, vs, rfl, h1, h2⟩ := dx.lst gh
    cases h2.of_bls
    exact cr_all hcm pins s σ H _ us Q I r ⟨a, bs, rfl, SqL.of h1, k _ G H (.refl gh hh) (.bl _)⟩
  · cases ez
theorem cr_any' (hcm : X.calm = true) : CallR X (.builtin "any") (rR1 X.K oAny) := by
  intro pins s σ H xs us Q I r ⟨G, ho, hs, x, d, z, ex, gh, hh, dx, ez, k⟩
  subst ex
  unfold oAny at ez
  split at ez
  · obtain ⟨bs, e1, rfl⟩ := Option.map_eq_some_iff.mp ez
    have e2 := blsOf_eq e1
    subst e2
    obtain ⟨a, vs, rfl, h1, h2⟩ := dx.lst gh
    cases h2.of_bls
    exact cr_any hcm pins s σ H _ us Q I r ⟨a, bs, rfl, SqL.of h1, k _ G H (.refl gh hh) (.bl _)⟩
  · cases ez
theorem cr_sum' (hcm : X.calm = true) : CallR X (.builtin "sum") (rR1 X.K oSum) := by
  intro pins s σ H xs us Q I r ⟨G, ho, hs, x, d, z, ex, gh, hh, dx, ez, k⟩
  subst ex
  unfold oSum at ez
  split at ez
  · obtain ⟨bs, e1, rfl⟩ := Option.map_eq_some_iff.mp ez
    have e2 := intsOf_eq e1
    subst e2
    obtain ⟨a, vs, rfl, h1, h2⟩ := dx.lst gh
    cases h2.of_ints
    exact cr_sum hcm pins s σ H _ us Q I r ⟨a, bs, rfl, SqL.of h1, k _ G H (.refl gh hh) (.int _)⟩
  · cases ez
theorem qe_all1 {k : Nat} (hr : Room k X.A) (hm : X.mg "all" = none) (ha : QR X O a fa) (hcm : X.calm = true := by rfl) (hv : bootBuiltins "all" = some (.builtin "all") := by decide +kernel) (hg : Gl X "all" := by rfl)
    (he1 : starEach [a] X.env = (false, eval a X.env) :: starEach [] X.env := by rfl) (hpl : (backTo pos (starEach [] X.env)).any (·.1) = false := by rfl) : QE X O (.Call (.Name "all" p) [a] [] pos) (eUn oAll fa) :=
  qe_b1 (cr_all' hcm) hm ha hv hg (by decide) (by decide) he1 hpl
theorem qe_any1 {k : Nat} (hr : Room k X.A) (hm : X.mg "any" = none) (ha : QR X O a fa) (hcm : X.calm = true := by rfl) (hv : bootBuiltins "any" = some (.builtin "any") := by decide +kernel) (hg : Gl X "any" := by rfl)
    (he1 : starEach [a] X.env = (false, eval a X.env) :: starEach [] X.env := by rfl) (hpl : (backTo pos (starEach [] X.env)).any (·.1) = false := by rfl) : QE X O (.Call (.Name "any" p) [a] [] pos) (eUn oAny fa) :=
  qe_b1 (cr_any' hcm) hm ha hv hg (by decide) (by decide) he1 hpl
theorem qe_sum1 {k : Nat} (hr : Room k X.A) (hm : X.mg "sum" = none) (ha : QR X O a fa) (hcm : X.calm = true := by rfl) (hv : bootBuiltins "sum" = some (.builtin "sum") := by decide +kernel) (hg : Gl X "sum" := by rfl)
    (he1 : starEach [a] X.env = (false, eval a X.env) :: starEach [] X.env := by rfl) (hpl : (backTo pos (starEach [] X.env)).any (·.1) = false := by rfl) : QE X O (.Call (.Name "sum" p) [a] [] pos) (eUn oSum fa) :=
  qe_b1 (cr_sum' hcm) hm ha hv hg (by decide) (by decide) he1 hpl
end
end L2.VI

/-! VI: zip and enumerate of lists, tuples, texts. -/
namespace L2.VI
open PySem PySem.Spec PyProof.Rows L2

/-- what is gone through -/
inductive SK where
  | lst (a : Addr) | tup (a : Addr) | str (z : Str) (t : Tok)
def SK.items (K : PySem.W.Frag) (H : Hp) : SK → List V → Prop
  | .lst a, xs => SqL K H a xs
  | .tup a, xs => SqT K H a xs
  | .str z _, xs => xs = z.cps.toList.map fun c => .str ⟨#[c]⟩
def SK.it (h : Heap) (I : Addr) (i : Nat) : SK → Prop
  | .lst a => h.IsListIter I a i
  | .tup a => h.IsTupleIter I a i
  | .str z t => h.IsStrIter I (strIterType z) z t i
def SK.lt (N : Nat) : SK → Prop
  | .lst a => a < N
  | .tup a => a < N
  | .str _ _ => True
def SK.fp (I : Addr) : SK → List Addr
  | .lst a => [I, a]
  | .tup a => [I, a]
  | .str _ _ => [I]
def SK.val : SK → Value
  | .lst a => .ref a
  | .tup a => .ref a
  | .str z t => .str z t
def SK.ob : SK → Obj
  | .lst a => { cls := .type "list_iterator", data := .fields #[.ref a, .int 0 0] }
  | .tup a => { cls := .type "tuple_iterator", data := .fields #[.ref a, .int 0 0] }
  | .str z t => { cls := .type (strIterType z), data := .fields #[.str z t, .int 0 0] }
theorem nN {a b : Nat} (h : ¬ @Eq Nat a b) : (a : Addr) ≠ b := h
theorem SK.fp_mem {k : SK} {I : Addr} : I ∈ k.fp I := by cases k <;> simp [SK.fp]
theorem SK.fp_of {k : SK} {I b : Addr} {N : Nat} (hk : k.lt N) (h : b ∈ k.fp I) : @Eq Nat b I ∨ @LT.lt Nat _ b N := by
  cases k <;> simp [SK.fp] at h <;> simp [SK.lt] at hk
  · rcases h with h | h
    · exact .inl h
    · subst h; exact .inr hk
  · rcases h with h | h
    · exact .inl h
    · subst h; exact .inr hk
  · exact .inl h
theorem SK.it_keep {k : SK} {h h' : Heap} {I : Addr} {i : Nat} (kp : ∀ o, h.get? I = some o → h'.get? I = some o) (x : k.it h I i) : k.it h' I i := by
  cases k <;> obtain ⟨o, e, r⟩ := x <;> exact ⟨o, kp o e, r⟩
theorem SK.it_obj {k : SK} {h : Heap} {I : Addr} {i : Nat} (x : k.it h I i) : ∃ o, h.get? I = some o ∧ ∀ v, o.data ≠ .cell v := by
  cases k <;> obtain ⟨o, e, _, d⟩ := x <;> exact ⟨o, e, fun v q => by rw [d] at q; cases q⟩
theorem SK.it_new {k : SK} {h : Heap} {I : Addr} (e : h.get? I = some k.ob) : k.it h I 0 := by
  cases k <;> exact ⟨_, e, rfl, rfl⟩

theorem vals_get : ∀ {xs : List V} {us : List Value} {i : Nat} {u : Value}, Vals xs us → us[i]? = some u → ∃ x, xs[i]? = some x ∧ RelV x u
  | _, _, _, _, .nil, e => by simp at e
  | _, _, 0, _, .cons r _, e => by simp at e; subst e; exact ⟨_, rfl, r⟩
  | _, _, i + 1, u, .cons _ t, e => by
    obtain ⟨x, h1, h2⟩ := vals_get (i := i) (u := u) t (by simpa using e)
    exact ⟨x, by simpa using h1, h2⟩
section
variable {X : Cx} {pins : List (Addr × Obj)} {σ : L2.St} {H : Hp} {s : Shared}
theorem SK.inj {k : SK} {xs ys : List V} (I : Inv X pins σ H s) (h1 : k.items X.K H xs) (h2 : k.items X.K H ys) : xs = ys := by
  cases k with
  | lst a => exact I.list_inj h1 h2
  | tup a => exact I.tuple_inj h1 h2
  | str z t => exact h1.trans h2.symm
/-- what the iterator draws, where the state is known -/
theorem SK.draws {k : SK} {xs : List V} {N it : Addr} (I : Inv X pins σ H s) (hh : X.A.in1.handled = none) (hx : k.items X.K H xs) (hlt : k.lt N) (hN : N ≤ it) : ∃ (P : Nat → Value → Prop) (St : Nat → Heap → Prop), Draws X.prog X.w X.A.in1 it (k.fp it) xs.length P St ∧
    (∀ i v, P i v → ∃ x, xs[i]? = some x ∧ RelV x v) ∧ (∀ i, k.it s.heap it i → St i s.heap) ∧ ∀ i h, St i h → k.it h it i := by
  cases k with
  | lst a =>
    have hne : a ≠ it := Nat.ne_of_lt (Nat.lt_of_lt_of_le hlt hN)
    obtain ⟨its, rv, p, hz⟩ := I.list hx
    have hl : its.toArray.size = xs.length := by rw [List.size_toArray, rv.length]
    refine ⟨_, _, hl ▸ Draws.list hh it a hne its.toArray, fun i v h => ?_, fun i h => ⟨h, p.isList⟩, fun i h x => x.1⟩
    have h' : its[i]? = some v := by simpa using h
    exact vals_get rv h'
  | tup a =>
    have hne : a ≠ it := Nat.ne_of_lt (Nat.lt_of_lt_of_le hlt hN)
    obtain ⟨its, rv, p, hz⟩ := I.tuple hx
    have hl : its.toArray.size = xs.length := by rw [List.size_toArray, rv.length]
    refine ⟨_, _, hl ▸ Draws.tuple hh it a hne its.toArray, fun i v h => ?_, fun i h => ⟨h, p⟩, fun i h x => x.1⟩
    have h' : its[i]? = some v := by simpa using h
    exact vals_get rv h'
  | str z t =>
    have hl : z.cps.size = xs.length := by rw [show xs = _ from hx]; simp
    refine ⟨_, _, hl ▸ Draws.text hh it z t, fun i v h => ?_, fun i h => h, fun i h x => x⟩
    obtain ⟨c, u, h1, rfl⟩ := h
    refine ⟨.str ⟨#[c]⟩, ?_, ⟨u, rfl⟩⟩
    rw [show xs = _ from hx, List.getElem?_map, Array.getElem?_toList, h1]; rfl
end

/-! ### zip -/
def ItzG (K : PySem.W.Frag) (k1 k2 : SK) : It :=
  ⟨fun i H => ∃ xs ys x y, k1.items K H xs ∧ k2.items K H ys ∧ xs[i]? = some x ∧ ys[i]? = some y,
    fun i H v H' => ∃ T x y, v = .ref T ∧ H T = none ∧ H' = upd H T (.tup [x, y]) ∧ (∀ xs, k1.items K H xs → xs[i]? = some x) ∧ ∀ ys, k2.items K H ys → ys[i]? = some y,
    fun i H => ∃ xs ys, k1.items K H xs ∧ k2.items K H ys ∧ i ≤ xs.length ∧ i ≤ ys.length ∧ (i = xs.length ∨ i = ys.length)⟩
theorem zsep {k1 k2 : SK} {N : Nat} (h1 : k1.lt N) (h2 : k2.lt N) : ZipSep2 (N + 4) (N + 2) (N + 3) N (N + 1) (k1.fp N) (k2.fp (N + 1)) where
  TIz := nN (by omega)
  TOz := nN (by omega)
  TITO := nN (by omega)
  TIi1 := nN (by omega)
  mem1 := SK.fp_mem
  zf1 := fun h => by have := SK.fp_of h1 h; omega
  Tf1 := fun h => by have := SK.fp_of h1 h; omega
  TIi2 := nN (by omega)
  mem2 := SK.fp_mem
  zf2 := fun h => by have := SK.fp_of h2 h; omega
  Tf2 := fun h => by have := SK.fp_of h2 h; omega
  sep1_2 := fun h => by have := SK.fp_of h2 h; omega
  sep2_1 := fun h => by have := SK.fp_of h1 h; omega
theorem turn_zipG {P : Program} {w : World} {K : PySem.W.Frag} {elts : List Expr} {kk : Nat} {tpos : Pos} {k1 k2 : SK} {N : Nat} (l1 : k1.lt N) (l2 : k2.lt N) :
    Turn P w K (.Tuple elts kk tpos) (ItzG K k1 k2) [N + 4, N + 2, N + 3, N, N + 1] (N + 4) (fun i h => IsZip h (N + 4) (N + 2) (N + 3) .none ∧ IsTupOf2 h (N + 2) (.ref N) (.ref (N + 1)) ∧ (∃ x y, IsTupOf2 h (N + 3) x y) ∧ k1.it h N i ∧ k2.it h (N + 1) i) where
  mem := by simp
  obj := fun i h st c hc => by
    obtain ⟨hz, hTI, ⟨x, y, hTO⟩, h1, h2⟩ := st
    have e' : c = N + 4 ∨ c = N + 2 ∨ c = N + 3 ∨ c = N ∨ c = N + 1 := by simpa using hc
    rcases e' with q | q | q | q | q
    · rw [q]; exact ⟨_, hz, fun v q => nomatch q⟩
    · rw [q]; exact ⟨_, hTI, fun v q => nomatch q⟩
    · rw [q]; exact ⟨_, hTO, fun v q => nomatch q⟩
    · rw [q]; exact SK.it_obj h1
    · rw [q]; exact SK.it_obj h2
  keep := fun i h h' st kp => by
    obtain ⟨hz, hTI, ⟨x, y, hTO⟩, h1, h2⟩ := st
    exact ⟨kp _ (by simp) _ hz, kp _ (by simp) _ hTI, ⟨x, y, kp _ (by simp) _ hTO⟩, SK.it_keep (fun o q => kp N (by simp) o q) h1, SK.it_keep (fun o q => kp (N + 1) (by simp) o q) h2⟩
  item := by
    intro X hP hw hK hc i pins s σ H E I hf st hg
    subst hP hw hK
    obtain ⟨hz, hTI, ⟨x0, y0, hTO⟩, h1, h2⟩ := st
    obtain ⟨xs, ys, x, y, hqx, hqy, hx, hy⟩ := hg
    obtain ⟨P1, St1, D1, p1, t1, f1⟩ := SK.draws (it := N) I (I.ok.hd hc) hqx l1 (Nat.le_refl _)
    obtain ⟨P2, St2, D2, p2, t2, f2⟩ := SK.draws (it := N + 1) I (I.ok.hd hc) hqy l2 (Nat.le_succ _)
    have hzl : N + 4 < s.heap.objs.size := Heap.lt_size hz
    refine wpAny_pyNext_zipD2_item (zsep l1 l2) D1 D2 hz hTI hTO (t1 i h1) (t2 i h2) (List.getElem?_eq_some_iff.mp hx).1 (List.getElem?_eq_some_iff.mp hy).1 fun u u2 h' tk y1 y2 z' TO' s1 s2 hT hsz hk => ?_
    obtain ⟨x', ex, ru⟩ := p1 i u y1
    obtain ⟨y', ey, ru2⟩ := p2 i u2 y2
    rw [hx] at ex; cases ex
    rw [hy] at ey; cases ey
    refine ⟨_, rfl, wpAny_letOwnedTupleGo_zip (s := { s with heap := h', toks := tk }) z' fun h'' z'' sb => ?_⟩
    have hT2 : h''.get? s.heap.objs.size = some { cls := .type "tuple", data := .seq #[u, u2] } := (sb.2 _ (Nat.ne_of_gt hzl)).trans hT
    have nw : ObjOk X.prog X.w (upd H s.heap.objs.size (.tup [x, y])) h'' s.heap.objs.size (.tup [x, y]) :=
      ⟨by show 2 ≤ sizeLine; decide, [u, u2], .cons ru (.cons ru2 .nil), ⟨_, hT2, rfl, _, rfl⟩⟩
    have I1 : Inv X pins σ (upd H s.heap.objs.size (.tup [x, y])) { s with heap := h'', toks := tk } :=
      I.turnedNew (t' := tk) (ch := [N + 4, N + 2, N + 3, N, N + 1]) (fun c o hb q => by
        simp only [List.mem_cons, List.not_mem_nil, or_false, not_or] at hb
        exact (sb.2 c hb.1).trans (hk c o hb.1 hb.2.2.1 hb.2.2.2.1 hb.2.2.2.2 q)) hf (Nat.le_refl _) nw
    refine ⟨.ref s.heap.objs.size, _, I1, rfl, ⟨_, x, y, rfl, I.hok.fresh (Nat.le_refl _), rfl, fun l hl => by rw [SK.inj I hl hqx]; exact hx, fun l hl => by rw [SK.inj I hl hqy]; exact hy⟩, ⟨z'', ?_, ⟨u, u2, ?_⟩, ?_, ?_⟩, fun c hcm => ?_⟩
    · exact (sb.2 (N + 2) (nN (by omega))).trans (hk _ _ (nN (by omega)) (nN (by omega)) (nN (by omega)) (nN (by omega)) hTI)
    · exact (sb.2 (N + 3) (nN (by omega))).trans TO'
    · exact SK.it_keep (fun o q => (sb.2 N (nN (by omega))).trans q) (f1 _ _ s1)
    · exact SK.it_keep (fun o q => (sb.2 (N + 1) (nN (by omega))).trans q) (f2 _ _ s2)
    · have hlt : @LT.lt Nat _ c s.heap.objs.size := by
        have hzl' : @LT.lt Nat _ (N + 4) s.heap.objs.size := hzl
        simp only [List.mem_cons, List.not_mem_nil, or_false] at hcm
        rcases hcm with rfl | rfl | rfl | rfl | rfl <;> omega
      rw [upd_ne (Nat.ne_of_lt hlt)]
      exact (hf c hcm).1
  done := by
    intro X hP hw hK hc i pins s σ H E I hf st hg
    subst hP hw hK
    obtain ⟨hz, hTI, ⟨x0, y0, hTO⟩, h1, h2⟩ := st
    obtain ⟨xs, ys, hqx, hqy, q1, q2, hend⟩ := hg
    obtain ⟨P1, St1, D1, p1, t1, f1⟩ := SK.draws (it := N) I (I.ok.hd hc) hqx l1 (Nat.le_refl _)
    obtain ⟨P2, St2, D2, p2, t2, f2⟩ := SK.draws (it := N + 1) I (I.ok.hd hc) hqy l2 (Nat.le_succ _)
    exact wpAny_pyNext_zipD2_end (zsep l1 l2) D1 D2 hz hTI hTO (t1 i h1) (t2 i h2) q1 q2 hend fun h' tk hk => ⟨rfl, I.turnedL (t' := tk) (ch := [N + 4, N + 2, N + 3, N, N + 1]) (fun c o hb q => by
      simp only [List.mem_cons, List.not_mem_nil, or_false, not_or] at hb
      exact hk c o hb.1 hb.2.2.1 hb.2.2.2.1 hb.2.2.2.2 q) hf⟩
  self := fun A i s Q E st h => wpAny_pyIter_zip st.1 h

/-- data that is gone through -/
theorem sk_of {K : PySem.W.Frag} {ho : Option Addr} {G : Hp} {v : V} {u : Value} {d : D} {ds : List D} (dv : DV K ho G v d) (r : RelV v u) (h : seqD d = some ds) :
    ∃ (k : SK) (vs : List V), k.val = u ∧ (∀ H, Same G H → k.items K H vs) ∧ DVs K ho G vs ds := by
  unfold seqD at h
  split at h
  · cases h
    cases dv with
    | @lst a vs _ h1 h2 => cases r; exact ⟨.lst a, vs, rfl, fun H e => SqL.of (e _ _ h1), h2⟩
  · cases h
    cases dv with
    | @tup a vs _ h1 h2 => cases r; exact ⟨.tup a, vs, rfl, fun H e => SqT.of (e _ _ h1), h2⟩
  · cases h
    cases dv
    obtain ⟨t, rfl⟩ := r
    rename_i s
    refine ⟨.str ⟨s.toArray⟩ t, s.map fun c => .str ⟨#[c]⟩, rfl, fun H e => by simp [SK.items], ?_⟩
    have : ∀ l : List Nat, DVs K ho G (l.map fun c => V.str ⟨#[c]⟩) (l.map fun c => D.str [c]) := by
      intro l
      induction l with
      | nil => exact .nil
      | cons c l ih => exact .cons (.str [c]) ih
    exact this s
  · cases h
theorem sk_begins {X : Cx} {pins : List (Addr × Obj)} {σ : L2.St} {H : Hp} {s : Shared} {k : SK} {xs : List V} (I : Inv X pins σ H s) (hx : k.items X.K H xs) : ∃ Hh : Heap → Prop, Begins k.val k.ob Hh ∧ Hh s.heap ∧ k.lt s.heap.objs.size := by
  cases k with
  | lst a =>
    obtain ⟨its, rv, p, hz⟩ := I.list hx
    obtain ⟨o, e, _⟩ := id p.isList
    exact ⟨_, begins_list a its.toArray, p.isList, Heap.lt_size e⟩
  | tup a =>
    obtain ⟨its, rv, p, hz⟩ := I.tuple hx
    obtain ⟨o, e, _⟩ := id p
    exact ⟨_, begins_tuple a its.toArray, p, Heap.lt_size e⟩
  | str z t => exact ⟨_, begins_text z t, trivial, trivial⟩
def iZp (f g : EF) : IF := fun sl hs => match f sl hs with
  | some (d, hs1) => (match g sl hs1 with
    | some (e, hs2) => (match seqD d, seqD e with
      | some xs, some ys => some ((xs.zip ys).map fun p => .tup [p.1, p.2], hs2)
      | _, _ => none)
    | none => none)
  | none => none
theorem walkD_zip {K : PySem.W.Frag} {ho : Option Addr} {G : Hp} {k1 k2 : SK} {xs ys : List V} {ds es : List D} (h1 : ∀ H, Same G H → k1.items K H xs) (h2 : ∀ H, Same G H → k2.items K H ys) (d1 : DVs K ho G xs ds) (d2 : DVs K ho G ys es) :
    WalkD K ho G (ItzG K k1 k2) ((ds.zip es).map fun p => .tup [p.1, p.2]) where
  goes := fun i G1 H hi s1 s2 => by
    simp only [List.length_map, List.length_zip, ← d1.length, ← d2.length] at hi
    have i1 : i < xs.length := by omega
    have i2 : i < ys.length := by omega
    exact ⟨xs, ys, xs[i], ys[i], h1 H (s1.trans s2), h2 H (s1.trans s2), by simp [i1], by simp [i2]⟩
  stops := fun G1 H s1 s2 => by
    refine ⟨xs, ys, h1 H (s1.trans s2), h2 H (s1.trans s2), ?_⟩
    simp only [List.length_map, List.length_zip, ← d1.length, ← d2.length]
    omega
  yields := fun i G1 H x H' d s1 s2 hd y => by
    obtain ⟨T, a, b, rfl, hT, rfl, f1, f2⟩ := y
    have e1 := f1 xs (h1 H (s1.trans s2))
    have e2 := f2 ys (h2 H (s1.trans s2))
    obtain ⟨d', g1, g2⟩ := d1.get' e1
    obtain ⟨e', g3, g4⟩ := d2.get' e2
    rw [List.getElem?_map] at hd
    obtain ⟨p, hp, rfl⟩ := Option.map_eq_some_iff.mp hd
    rw [List.getElem?_zip_eq_some] at hp
    rw [g1] at hp; rw [g3] at hp
    obtain ⟨q1, q2⟩ := hp
    cases q1; cases q2
    exact .inr ⟨T, [a, b], _, hT, rfl, rfl, rfl, .cons (g2.mono s1 _ _) (.cons (g4.mono s1 _ _) .nil)⟩
section
variable {X : Cx} {O : List Nat} {a b : Expr} {fa fb : EF} {p pos tpos : Pos} {elts : List Expr} {kk : Nat}
theorem qi_zip (hcm : X.calm = true) (hm : X.mg "zip" = none) (ha : QE X O a fa) (hb : QE X O b fb) (hg : Gl X "zip" := by rfl)
    (hs : starEach [a, b] X.env = (false, eval a X.env) :: starEach [b] X.env := by rfl) (hs2 : starEach [b] X.env = (false, eval b X.env) :: starEach [] X.env := by rfl) (hpl : (backTo pos (starEach [b] X.env)).any (·.1) = false := by rfl) :
    QI X O (.Tuple elts kk tpos) (.Call (.Name "zip" p) [a, b] [] pos) (iZp fa fb) := by
  have hA := (qa_cons ha (qa_cons hb qa_nil hs2) hs).pa
  refine ⟨⟨fun pins s σ H R I h => ?_⟩⟩
  obtain ⟨ho, sl, hs0, G, ds, hs', r, q, k⟩ := h
  unfold iZp at q
  split at q
  · rename_i d hs1 e1
    split at q
    · rename_i e hs2 e2
      split at q
      · rename_i xs ys z1 z2
        cases q
        refine Call_ (ld_blt I hg hm PyProof.Rows.boot_zip (PyProof.Rows.callWith_type1 (thn (hA.run pos pins s σ H (fun vs H1 => ∃ G1, CallEnd X.K ho _ G H G1 H1 ∧ DVs X.K ho G1 vs [d, e]) I ⟨ho, sl, hs0, G, [d, e], _, r, aTwo e1 e2, fun v G1 H1 c1 d1 => ⟨G1, c1, d1⟩⟩) fun us s1 ⟨vs, H1, I1, r1, G1, c1, dv⟩ => ?_) hs hpl))
        cases dv with
        | cons dv1 dv2 =>
          cases dv2 with
          | cons dv2 dv3 =>
            cases dv3
            cases r1 with
            | cons r1 rr =>
              cases rr with
              | cons r2 rr =>
                cases rr
                obtain ⟨k1, vs1, w1, it1, m1⟩ := sk_of dv1 r1 z1
                obtain ⟨k2, vs2, w2, it2, m2⟩ := sk_of dv2 r2 z2
                subst w1 w2
                obtain ⟨H1', B1, b1, l1⟩ := sk_begins I1 (it1 H1 c1.gh)
                obtain ⟨H2', B2, b2, l2⟩ := sk_begins I1 (it2 H1 c1.gh)
                refine zip_begins2 B1 B2 b1 b2 fun h' hz hTI hTO i1 i2 hsz hk => wpAny_pyIter_zip hz ?_
                refine ⟨s1.heap.objs.size + 4, [s1.heap.objs.size + 4, s1.heap.objs.size + 2, s1.heap.objs.size + 3, s1.heap.objs.size, s1.heap.objs.size + 1], _, _, H1, rfl, I1.kept (t' := s1.toks) hk, turn_zipG l1 l2, ⟨hz, hTI, ⟨_, _, hTO⟩, SK.it_new i1, SK.it_new i2⟩, fun c hcm => ?_, k _ G1 H1 c1 (walkD_zip it1 it2 m1 m2)⟩
                simp only [List.mem_cons, List.not_mem_nil, or_false] at hcm
                have hle : @LE.le Nat _ s1.heap.objs.size c := by rcases hcm with rfl | rfl | rfl | rfl | rfl <;> omega
                exact I1.fpOk hle (I1.hok.fresh hle)
      · cases q
    · cases q
  · cases q
end
end L2.VI

/-! VI: enumerate; max and min; one pair in a new dict; repeats. -/
namespace L2.VI
open PySem PySem.Spec PyProof.Rows L2
open PySem.W (alike dataLt AlikeAll readsAll_atA iter_listW iter_tupleW moved_old argBest_fold)

/-! ### enumerate -/
set_option maxHeartbeats 1000000 in
theorem meets_enumB {v : Value} {o : Obj} {H : Heap → Prop} (B : Begins v o H) :
    Meets (Builtin.«enumerate.__new__» ⟨[.type "enumerate", v], []⟩) (fun _ R s => H s.heap ∧
      R (.ok (.ret (.ref (s.heap.push o).objs.size))) { s with heap := (s.heap.push o).push { cls := .type "enumerate", data := .fields #[.none, .bool false, .ref s.heap.objs.size, rawInt 0, .none, .none] } }) :=
  .of_wp fun prog w A R s h => by
    obtain ⟨hp, g, d, tk, os⟩ := s
    obtain ⟨h1, h⟩ := h
    have hsub := sub_enumerate
    have q1 : ∀ {A1 : Around} {E1 : Value → Shared → Prop} {Q1 : Value → Shared → Prop}, Q1 (.ref hp.objs.size) ⟨hp.push o, g, d, tk, os⟩ → wpAny (model prog w) A1 (pyIter v) Q1 E1 ⟨hp, g, d, tk, os⟩ :=
      fun q => B.iter prog w _ _ ⟨hp, g, d, tk, os⟩ _ h1 q
    wp_walk using q1
    refine wpAny_stack_any fun st => wpAny_pure ?_
    split
    · rename_i c _ _ _ _ _
      cases (c == Value.type "enumerate")
      · wp_walk using q1
        exact ⟨_, rfl, h⟩
      · wp_walk using q1
        exact ⟨_, rfl, h⟩
    · wp_walk using q1
      exact ⟨_, rfl, h⟩
section
variable {prog : Program} {w : World} {A : Around} {E : Value → Shared → Prop} {s : Shared}
theorem enum_begin {v : Value} {o : Obj} {H : Heap → Prop} {Q : Value → Shared → Prop} (B : Begins v o H) (h1 : H s.heap)
    (h : ∀ h', IsEnum h' (s.heap.objs.size + 1) s.heap.objs.size 0 .none → h'.get? s.heap.objs.size = some o → (∀ b o, s.heap.get? b = some o → h'.get? b = some o) → Q (.ref (s.heap.objs.size + 1)) { s with heap := h' }) :
    wpAny (model prog w) A (call (.type "enumerate") [v]) Q E s := by
  refine callType_new F.called_enumerate (by decide) (F.typeCall_enumerate_1 _) (F.newCall_enumerate_1 _) (fun obj => F.args_object_init_2 obj _) F.entry_enumerate_new (meets_enumB B) ⟨h1, ?_⟩
  have hz : (s.heap.push o).objs.size = s.heap.objs.size + 1 := Heap.size_push ..
  show _ ∧ _
  rw [hz]
  have he : IsEnum ((s.heap.push o).push { cls := .type "enumerate", data := .fields #[.none, .bool false, .ref s.heap.objs.size, rawInt 0, .none, .none] }) (s.heap.objs.size + 1) s.heap.objs.size 0 .none := by
    have q := Heap.get?_push_size (s.heap.push o) (o := { cls := .type "enumerate", data := .fields #[.none, .bool false, .ref s.heap.objs.size, rawInt 0, .none, .none] }) rfl
    rw [hz] at q; exact q
  exact ⟨⟨_, he, rfl⟩, h _ he (Heap.get?_push_of_some _ (Heap.get?_push_size _ B.free)) fun b o x => Heap.get?_push_of_some _ (Heap.get?_push_of_some _ x)⟩
end
def IteG (K : PySem.W.Frag) (k : SK) : It :=
  ⟨fun i H => ∃ xs x, k.items K H xs ∧ xs[i]? = some x, fun i H v H' => ∃ T x, v = .ref T ∧ H T = none ∧ H' = upd H T (.tup [.int (i : Nat), x]) ∧ ∀ xs, k.items K H xs → xs[i]? = some x, fun i H => ∃ xs, k.items K H xs ∧ i = xs.length⟩
theorem turn_enumG {P : Program} {w : World} {K : PySem.W.Frag} {elts : List Expr} {kk : Nat} {tpos : Pos} {k : SK} {N : Nat} (l1 : k.lt N) :
    Turn P w K (.Tuple elts kk tpos) (IteG K k) [N + 1, N] (N + 1) (fun i h => (∃ old, IsEnum h (N + 1) N ((i : Nat) : Int) old) ∧ k.it h N i) where
  mem := by simp
  obj := fun i h st c hc => by
    obtain ⟨⟨old, he⟩, h1⟩ := st
    have e' : c = N + 1 ∨ c = N := by simpa using hc
    rcases e' with q | q
    · rw [q]; exact ⟨_, he, fun v q => nomatch q⟩
    · rw [q]; exact SK.it_obj h1
  keep := fun i h h' st kp => by
    obtain ⟨⟨old, he⟩, h1⟩ := st
    exact ⟨⟨old, kp _ (by simp) _ he⟩, SK.it_keep (fun o q => kp N (by simp) o q) h1⟩
  item := by
    intro X hP hw hK hc i pins s σ H E I hf st hg
    subst hP hw hK
    obtain ⟨⟨old, he⟩, h1⟩ := st
    obtain ⟨xs, x, hqx, hx⟩ := hg
    obtain ⟨P1, St1, D1, p1, t1, f1⟩ := SK.draws (it := N) I (I.ok.hd hc) hqx l1 (Nat.le_refl _)
    have hel : N + 1 < s.heap.objs.size := Heap.lt_size he
    refine wpAny_pyNext_enum_itemD D1 he (t1 i h1) (List.getElem?_eq_some_iff.mp hx).1 (nN (by omega)) (fun hm => by have := SK.fp_of l1 hm; omega) fun u h' tk y1 ho s1 hT hsz hk => ?_
    obtain ⟨x', ex, ru⟩ := p1 i u y1
    rw [hx] at ex; cases ex
    refine ⟨_, rfl, wpAny_letOwnedTupleGo_enum (s := { s with heap := h', toks := tk + 1 }) ho fun h'' he' sb => ?_⟩
    have hT2 : h''.get? s.heap.objs.size = some { cls := .type "tuple", data := .seq #[.int i tk, u] } := (sb.2 _ (Nat.ne_of_gt hel)).trans hT
    have nw : ObjOk X.prog X.w (upd H s.heap.objs.size (.tup [.int (i : Nat), x])) h'' s.heap.objs.size (.tup [.int (i : Nat), x]) :=
      ⟨by show 2 ≤ sizeLine; decide, [.int i tk, u], .cons ⟨_, rfl⟩ (.cons ru .nil), ⟨_, hT2, rfl, _, rfl⟩⟩
    have I1 : Inv X pins σ (upd H s.heap.objs.size (.tup [.int (i : Nat), x])) { s with heap := h'', toks := tk + 1 } :=
      I.turnedNew (t' := tk + 1) (ch := [N + 1, N]) (fun c o hb q => by
        simp only [List.mem_cons, List.not_mem_nil, or_false, not_or] at hb
        exact (sb.2 c hb.1).trans (hk c o hb.1 hb.2 q)) hf (Nat.le_refl _) nw
    refine ⟨.ref s.heap.objs.size, _, I1, rfl, ⟨_, x, rfl, I.hok.fresh (Nat.le_refl _), rfl, fun l hl => by rw [SK.inj I hl hqx]; exact hx⟩, ⟨⟨u, ?_⟩, ?_⟩, fun c hcm => ?_⟩
    · have e1 : ((i + 1 : Nat) : Int) = (i : Int) + 1 := by omega
      rw [e1]; exact he'
    · exact SK.it_keep (fun o q => (sb.2 N (nN (by omega))).trans q) (f1 _ _ s1)
    · have hlt : @LT.lt Nat _ c s.heap.objs.size := by
        have hzl' : @LT.lt Nat _ (N + 1) s.heap.objs.size := hel
        simp only [List.mem_cons, List.not_mem_nil, or_false] at hcm
        rcases hcm with rfl | rfl <;> omega
      rw [upd_ne (Nat.ne_of_lt hlt)]
      exact (hf c hcm).1
  done := by
    intro X hP hw hK hc i pins s σ H E I hf st hg
    subst hP hw hK
    obtain ⟨⟨old, he⟩, h1⟩ := st
    obtain ⟨xs, hqx, rfl⟩ := hg
    obtain ⟨P1, St1, D1, p1, t1, f1⟩ := SK.draws (it := N) I (I.ok.hd hc) hqx l1 (Nat.le_refl _)
    obtain ⟨g0, g1, g2, g3, g4, g5⟩ := hf N (by simp)
    exact wpAny_pyNext_enum_endD D1 he (t1 _ h1) fun h' eb => ⟨rfl, I.turned (t' := s.toks) (fun b o hb q => eb b o hb q) g0 g1 g3 g4 g5⟩
  self := fun A i s Q E st h => let ⟨⟨_, he⟩, _⟩ := st; wpAny_pyIter_enum he h
def enumF : Nat → List D → List D
  | _, [] => []
  | i, x :: xs => .tup [.int i, x] :: enumF (i + 1) xs
theorem enumF_get : ∀ (xs : List D) (i j : Nat), (enumF i xs)[j]? = (xs[j]?).map fun x => .tup [.int ((i + j : Nat) : Int), x]
  | [], _, _ => by simp [enumF]
  | x :: xs, i, 0 => by simp [enumF]
  | x :: xs, i, j + 1 => by
    rw [enumF, List.getElem?_cons_succ, List.getElem?_cons_succ, enumF_get xs (i + 1) j]
    have : i + 1 + j = i + (j + 1) := by omega
    rw [this]
theorem enumF_length : ∀ (xs : List D) (i : Nat), (enumF i xs).length = xs.length
  | [], _ => rfl
  | x :: xs, i => by rw [enumF, List.length_cons, List.length_cons, enumF_length]
def iEn (f : EF) : IF := fun sl hs => match f sl hs with
  | some (d, hs1) => (match seqD d with
    | some xs => some (enumF 0 xs, hs1)
    | none => none)
  | none => none
theorem walkD_enum {K : PySem.W.Frag} {ho : Option Addr} {G : Hp} {k1 : SK} {xs : List V} {ds : List D} (h1 : ∀ H, Same G H → k1.items K H xs) (d1 : DVs K ho G xs ds) : WalkD K ho G (IteG K k1) (enumF 0 ds) where
  goes := fun i G1 H hi s1 s2 => by
    rw [enumF_length, ← d1.length] at hi
    exact ⟨xs, xs[i], h1 H (s1.trans s2), by simp [hi]⟩
  stops := fun G1 H s1 s2 => ⟨xs, h1 H (s1.trans s2), by rw [enumF_length, d1.length]⟩
  yields := fun i G1 H x H' d s1 s2 hd y => by
    obtain ⟨T, a, rfl, hT, rfl, f1⟩ := y
    have e1 := f1 xs (h1 H (s1.trans s2))
    obtain ⟨d', g1, g2⟩ := d1.get' e1
    rw [enumF_get, g1] at hd
    cases hd
    refine .inr ⟨T, _, _, hT, rfl, rfl, rfl, .cons ?_ (.cons (g2.mono s1 _ _) .nil)⟩
    rw [Nat.zero_add]; exact .int _
section
variable {X : Cx} {B : Bs} {O O' L : List Nat} {a b e : Expr} {fa fb fe : EF} {p pos tpos : Pos} {elts : List Expr} {kk : Nat}
theorem qi_enum (hcm : X.calm = true) (hm : X.mg "enumerate" = none) (ha : QE X O a fa) (hg : Gl X "enumerate" := by rfl)
    (hs : starEach [a] X.env = (false, eval a X.env) :: starEach [] X.env := by rfl) (hpl : (backTo pos (starEach [] X.env)).any (·.1) = false := by rfl) :
    QI X O (.Tuple elts kk tpos) (.Call (.Name "enumerate" p) [a] [] pos) (iEn fa) := by
  have hA := (qa_cons ha qa_nil hs).pa
  refine ⟨⟨fun pins s σ H R I h => ?_⟩⟩
  obtain ⟨ho, sl, hs0, G, ds, hs', r, q, k⟩ := h
  unfold iEn at q
  split at q
  · rename_i d hs1 e1
    split at q
    · rename_i xs z1
      cases q
      refine Call_ (ld_blt I hg hm PyProof.Rows.boot_enumerate (PyProof.Rows.callWith_type1 (thn (hA.run pos pins s σ H (fun vs H1 => ∃ G1, CallEnd X.K ho _ G H G1 H1 ∧ DVs X.K ho G1 vs [d]) I ⟨ho, sl, hs0, G, [d], _, r, aOne e1, fun v G1 H1 c1 d1 => ⟨G1, c1, d1⟩⟩) fun us s1 ⟨vs, H1, I1, r1, G1, c1, dv⟩ => ?_) hs hpl))
      cases dv with
      | cons dv1 dv3 =>
        cases dv3
        cases r1 with
        | cons r1 rr =>
          cases rr
          obtain ⟨k1, vs1, w1, it1, m1⟩ := sk_of dv1 r1 z1
          subst w1
          obtain ⟨H1', B1, b1, l1⟩ := sk_begins I1 (it1 H1 c1.gh)
          refine enum_begin B1 b1 fun h' he i1 hk => wpAny_pyIter_enum he ?_
          refine ⟨s1.heap.objs.size + 1, [s1.heap.objs.size + 1, s1.heap.objs.size], _, _, H1, rfl, I1.kept (t' := s1.toks) hk, turn_enumG l1, ⟨⟨_, he⟩, SK.it_new i1⟩, fun c hcm => ?_, k _ G1 H1 c1 (walkD_enum it1 m1)⟩
          simp only [List.mem_cons, List.not_mem_nil, or_false] at hcm
          have hle : @LE.le Nat _ s1.heap.objs.size c := by rcases hcm with rfl | rfl <;> omega
          exact I1.fpOk hle (I1.hok.fresh hle)
    · cases q
  · cases q

/-! ### a new dict of one pair -/
def eDisp1 (f g : EF) : EF := fun sl hs => match f sl hs with
  | some (x, hs1) => (match g sl hs1 with
    | some (y, hs2) => if (kOf x).isSome then some (.dct false [(x, y)], hs2) else none
    | none => none)
  | none => none
theorem qn_disp1 (ha : QE X O a fa) (hb : QE X O b fb) : QN X O (.Dict [some a] [b] pos) (eDisp1 fa fb) :=
  ⟨PE.imp (pe_disp (pps_cons ha.pe hb.pe pps_nil) rfl rfl (by simp) (by simp)) fun σ H Q ⟨ho, sl, hs, G, d, hs', r, q, k⟩ p hp => by
    unfold eDisp1 at q
    split at q
    · rename_i x hs1 e1
      split at q
      · rename_i y hs2 e2
        split at q
        · rename_i hk
          cases q
          obtain ⟨key, ek⟩ := Option.isSome_iff_exists.mp hk
          have c0 := laidH (o := .dK []) r.gh r.hand hp
          have hn := ho_ne r.hand hp
          have hg := G_none r.gh hp
          refine ⟨ho, sl, hs, G, x, hs1, r.after c0, e1, fun v G1 H1 c1 d1 => ⟨ho, sl, hs1, G1, y, _, (r.after c0).after c1, e2, fun u G2 H2 c2 d2 => ?_⟩⟩
          have c12 := c1.trans c2
          have hd := c12.frame p _ upd_same hn
          have hg2 := c12.fresh p _ upd_same (by intro _; simp) hg
          refine ⟨hd, [(key, u)], by rw [kV_of ek d1]; rfl, by simp, ?_⟩
          refine k p G2 _ ((c0.trans c12).mut hp hg2 hn (by rw [hd]; simp)) hp hg2 hn ⟨_, upd_same, ?_⟩
          have em : mergeK [] [(key, u)] = [(key, u)] := by simp [mergeK, putK]
          rw [em, ← kOf_keyD ek]
          exact .cons d2 .nil
        · cases q
      · cases q
    · cases q⟩

/-! ### a list, repeated -/
def oRep : D → D → Option D
  | .lst xs, .int k => if -(2 ^ 63) ≤ k ∧ k < 2 ^ 63 ∧ xs.length * k.toNat ≤ 16777216 then some (.lst (List.replicate k.toNat xs).flatten) else none
  | _, _ => none
theorem DVs.flat {K : PySem.W.Frag} {ho : Option Addr} {G : Hp} {vs : List V} {ds : List D} (h : DVs K ho G vs ds) : ∀ n : Nat, DVs K ho G (List.replicate n vs).flatten (List.replicate n ds).flatten
  | 0 => .nil
  | n + 1 => by rw [List.replicate_succ, List.replicate_succ, List.flatten_cons, List.flatten_cons]; exact h.append (h.flat n)
theorem qn_rep (ha : QE X O a fa) (hb : QE X O b fb) : QN X O (.BinOp a .Mult b pos) (eBin oRep fa fb) :=
  ⟨PE.imp (pe_op op_rep ha.pe hb.pe) fun σ H Q ⟨ho, sl, hs, G, d, hs', r, q, k⟩ => by
    obtain ⟨x, hs1, y, e1, e2, e3⟩ := eBin_some q
    unfold oRep at e3
    split at e3
    · split at e3
      · rename_i hz
        cases e3
        refine ⟨ho, sl, hs, G, _, hs1, r, e1, fun v G1 H1 c1 d1 => ⟨ho, sl, hs1, G1, _, hs', r.after c1, e2, fun u G2 H2 c2 d2 => ?_⟩⟩
        cases d2
        cases d1 with
        | @lst a vs _ h1 h2 =>
          refine ⟨a, _, vs, rfl, rfl, c2.gh _ _ (c2.g _ _ h1), hz.1, hz.2.1, by rw [h2.length]; exact line_le hz.2.2, fun p hp => ?_⟩
          exact k p G2 _ ((c1.trans c2).trans (laidH c2.gh c2.hand hp)) ((c1.trans c2).new hp) (G_none c2.gh hp) (ho_ne c2.hand hp) ⟨_, upd_same, (h2.mono c2.g _ _).flat _⟩
      · cases e3
    · cases e3⟩

/-! ### name = [..] on one line, kept as data -/
theorem qs_setLcE {tg iter elt : Expr} {it : IF} {gf : GF} {ts : List Nat} {ifs : List Expr} (i : Nat) {y : Str} {py spos : Pos} {scope : Scope} {own : List (Str × Nat)} {Og : List Nat} {tt : TF} (hc : X.calm = true) (hN : X.N.Nodup) (hi : QI X O tg iter it) (ok : BlkOk X.N X.env.scope scope own)
    (hg : ∀ (s : Shared) (H : Hp) (C : Addr) (cl : List (Str × Addr)) (fp : List Addr), QG (X.blk s H scope (compEnvC scope cl C X.env) fp) O Og tg ts gf)
    (ht : ∀ (s : Shared) (H : Hp) (C : Addr) (cl : List (Str × Addr)) (fp : List Addr), QTs (X.blk s H scope (compEnvC scope cl C X.env) fp) Og ifs tt)
    (he : ∀ (s : Shared) (H : Hp) (C : Addr) (cl : List (Str × Addr)) (fp : List Addr), QE (X.blk s H scope (compEnvC scope cl C X.env) fp) Og elt fe)
    (hsw : swapsWith (.ListComp elt [⟨tg, iter, ifs, 0⟩] scope pos) (some (.Name y py)) spos.line X.env = pure true)
    (hy : X.N[i]? = some y := by rfl) (hyl : X.env.scope.names.lookup y = some .local := by rfl)
    (hv : (ts.all fun j => (own.map (·.2)).contains j) = true := by rfl) (hs : ∀ x, foldedSetIterable iter X.env x = pure x := by intro _; rfl) :
    QS X B O (rm O i) L (.Assign [.Name y py] (.ListComp elt [⟨tg, iter, ifs, 0⟩] scope pos) spos) (sSet i (eComp it gf tt fe (own.map (·.2)))) :=
  ⟨PS.imp (ps_setLc hc hN hy hyl hsw hi.pi ok (fun s H C cl fp => (hg s H C cl fp).pg) (fun s H C cl fp => (ht s H C cl fp).pt) (fun s H C cl fp => (he s H C cl fp).pe) hs) fun D σ H ⟨sl, hs, G, o, r, q, k⟩ => by
    unfold sSet at q
    split at q
    · rename_i d hs1 e1
      cases q
      exact tN_comp (Og := Og) (fun j hj => by simpa using List.all_eq_true.mp hv j hj) ⟨_, sl, hs, G, d, hs1, r.rl, e1, fun a G1 H1 c1 h0 hg hn w => by
        obtain ⟨G2, c2, dv, _, _⟩ := freeze c1 h0 hg hn w
        exact k _ G2 H1 c2.g ((r.after c2).set i dv)⟩
    · cases q⟩
end
end L2.VI

/-! VI: max and min of a list or a tuple, of two values. -/
namespace L2.VI
open PySem PySem.Spec PyProof.Rows L2
open PySem.W (dataLt AlikeAll readsAll_atA iter_listW iter_tupleW moved_old argBest_fold)

def okCmp (xs : List D) : Bool := xs.all (sh 60) && (xs.all (fun x => xs.all (dAlike x)) && xs.all fun x => match x with | .non => false | _ => true)
def minDs (x : D) (xs : List D) : D := xs.foldl (fun a y => if dLt y a then y else a) x
def maxDs (x : D) (xs : List D) : D := xs.foldl (fun a y => if dLt a y then y else a) x
def oMin : D → Option D
  | .lst (x :: xs) => if okCmp (x :: xs) then some (minDs x xs) else none
  | .tup (x :: xs) => if okCmp (x :: xs) then some (minDs x xs) else none
  | _ => none
def oMax : D → Option D
  | .lst (x :: xs) => if okCmp (x :: xs) then some (maxDs x xs) else none
  | .tup (x :: xs) => if okCmp (x :: xs) then some (maxDs x xs) else none
  | _ => none
def oMin2 (x y : D) : Option D := if okCmp [x, y] then some (minDs x [y]) else none
def oMax2 (x y : D) : Option D := if okCmp [x, y] then some (maxDs x [y]) else none
theorem okCmp_ok {xs : List D} (h : okCmp xs = true) : shs 60 xs = true ∧ (∀ d ∈ xs, sh 60 d = true) ∧ (∀ d ∈ xs, ∀ e ∈ xs, dAlike d e = true) ∧ AlikeAll (toPs xs) := by
  simp only [okCmp, Bool.and_eq_true, List.all_eq_true] at h
  have hs : ∀ l : List D, (∀ d ∈ l, sh 60 d = true) → shs 60 l = true := by
    intro l
    induction l with
    | nil => intro _; rfl
    | cons d l ih => intro q; simp only [shs, Bool.and_eq_true]; exact ⟨q d List.mem_cons_self, ih fun e he => q e (List.mem_cons_of_mem _ he)⟩
  have ht : ∀ l : List D, toPs l = l.map toP := by
    intro l
    induction l with
    | nil => rfl
    | cons d l ih => simp only [toPs, List.map_cons, ih]
  refine ⟨hs _ h.1, h.1, h.2.1, ?_, ?_⟩
  · intro d hd d' hd'
    rw [ht] at hd hd'
    obtain ⟨e, he, rfl⟩ := List.mem_map.mp hd
    obtain ⟨e', he', rfl⟩ := List.mem_map.mp hd'
    exact alike_toP _ _ (h.2.1 e he e' he')
  · intro d hd
    rw [ht] at hd
    obtain ⟨e, he, rfl⟩ := List.mem_map.mp hd
    have q1 := h.2.2 e he
    have q2 := h.1 e he
    cases e <;> simp at q1 <;> simp [sh] at q2 <;> simp [toP]
theorem toPs_getD : ∀ (ds : List D) (i : Nat), (toPs ds).getD i .none = toP (ds.getD i .non)
  | [], i => by cases i <;> rfl
  | d :: ds, 0 => rfl
  | d :: ds, i + 1 => toPs_getD ds i
section
variable {prog : Program} {w : World} {A : Around} {s : Shared}
theorem cmp_lt {vs : Array Value} {ds : List D} {as : List Addr} (hr : ReadsAll s.heap vs.toList (toPs ds) as) (hc : okCmp ds = true) (hu : A.units + 62 < cLine) :
    CmpIn prog w A .Lt s.heap (fun i v => vs[i]? = some v) (fun i j => dLt (ds.getD i .non) (ds.getD j .non)) := fun i j vi vj s' Q E hk hi hj hq => by
  obtain ⟨h1, h2, h3, ha⟩ := okCmp_ok hc
  have hd := (shs_depth 60 ds h1).1
  obtain ⟨as1, r1, i1, m1, d1⟩ := readsAll_atA hr i vi hi
  obtain ⟨as2, r2, i2, m2, d2⟩ := readsAll_atA hr j vj hj
  have l : ∀ l : List D, (toPs l).length = l.length := by
    intro l
    induction l with
    | nil => rfl
    | cons d l ih => simp only [toPs, List.length_cons, ih]
  rw [l] at i1 i2
  have e1 : ds.getD i .non ∈ ds := by rw [List.getD_eq_getElem?_getD, List.getElem?_eq_getElem i1]; exact List.getElem_mem i1
  have e2 : ds.getD j .non ∈ ds := by rw [List.getD_eq_getElem?_getD, List.getElem?_eq_getElem i2]; exact List.getElem_mem i2
  replace hq : Q (.bool (dLt (ds.getD i .non) (ds.getD j .non))) s' := hq
  rw [← lt_toP 60 60 _ _ (h2 _ e1) (h2 _ e2) (h3 _ e1 _ e2)] at hq
  rw [toPs_getD] at r1 r2 m1 m2 d1 d2
  refine PySem.W.rcLt_alike _ _ A s' vi vj _ _ (PySem.W.reads_keeps hk r1) (PySem.W.reads_keeps hk r2) (ha.1 _ m1 _ m2) (ha.2 _ m1) ?_ prog w E Q hq
  have := Nat.min_le_left (toP (ds.getD i .non)).depth (toP (ds.getD j .non)).depth
  omega
theorem cmp_gt {vs : Array Value} {ds : List D} {as : List Addr} (hr : ReadsAll s.heap vs.toList (toPs ds) as) (hc : okCmp ds = true) (hu : A.units + 62 < cLine) :
    CmpIn prog w A .Gt s.heap (fun i v => vs[i]? = some v) (fun i j => dLt (ds.getD j .non) (ds.getD i .non)) := fun i j vi vj s' Q E hk hi hj hq => by
  obtain ⟨h1, h2, h3, ha⟩ := okCmp_ok hc
  have hd := (shs_depth 60 ds h1).1
  obtain ⟨as1, r1, i1, m1, d1⟩ := readsAll_atA hr i vi hi
  obtain ⟨as2, r2, i2, m2, d2⟩ := readsAll_atA hr j vj hj
  have l : ∀ l : List D, (toPs l).length = l.length := by
    intro l
    induction l with
    | nil => rfl
    | cons d l ih => simp only [toPs, List.length_cons, ih]
  rw [l] at i1 i2
  have e1 : ds.getD i .non ∈ ds := by rw [List.getD_eq_getElem?_getD, List.getElem?_eq_getElem i1]; exact List.getElem_mem i1
  have e2 : ds.getD j .non ∈ ds := by rw [List.getD_eq_getElem?_getD, List.getElem?_eq_getElem i2]; exact List.getElem_mem i2
  replace hq : Q (.bool (dLt (ds.getD j .non) (ds.getD i .non))) s' := hq
  rw [← lt_toP 60 60 _ _ (h2 _ e2) (h2 _ e1) (h3 _ e2 _ e1)] at hq
  rw [toPs_getD] at r1 r2 m1 m2 d1 d2
  refine PySem.W.rcGt_alike _ _ A s' vi vj _ _ (PySem.W.reads_keeps hk r1) (PySem.W.reads_keeps hk r2) (ha.1 _ m1 _ m2) (ha.2 _ m1) ?_ prog w E Q hq
  have := Nat.min_le_left (toP (ds.getD i .non)).depth (toP (ds.getD j .non)).depth
  omega
end
section
variable {prog : Program} {w : World} {A : Around} {E : Value → Shared → Prop} {s : Shared}
/-- min of two values, compared where a heap stands -/
theorem call_min_twoH {a b : Value} {Q : Value → Shared → Prop}
    (h : wpAny (model prog w) A.in1 (pyIter (.ref s.heap.objs.size)) (fun it s2 => ∃ I fp wr G n P St H bt, it = .ref I ∧ WalksS prog w A.in1 I fp wr G n P St ∧ St 0 s2 ∧ (∀ b ∈ fp, b < s2.heap.objs.size) ∧ 0 < n ∧
      (∀ b o, H.get? b = some o → b ∉ wr) ∧ (∀ b o, H.get? b = some o → s2.heap.get? b = some o) ∧ CmpIn prog w A.in1 .Lt H P bt ∧ ∀ v s', P (argBest bt (n - 1)) v → Moved wr G s2 s' → Q v s') E
      { s with heap := s.heap.push { cls := .type "tuple", data := .seq #[a, b] } }) : wpAny (model prog w) A (call (.builtin "min") [a, b]) Q E s := by
  have nm : (toString "min" ++ toString ".loop" : String) = "min.loop" := rfl
  refine call_function_tree F.kind_min F.plain_min F.entry_min (F.args_min2 a b) ?_
  refine wpAny_bind (wpAny_of_eq (a := ([none, none] : List (Option Value))) rfl ?_)
  refine wpAny_bind (m := newTuple [a, b]) (wpAny_newObj_type ?_)
  refine wpAny_bind (wpAny_mono h (fun it s2 hb => ?_) fun _ _ e => e)
  obtain ⟨I, fp, wr, G, n, P, St, H, bt, rfl, W, hst, hfp, hn, hw, hkeep, hcmp, hQ⟩ := hb
  refine wpAny_bind (wpAny_newObj_type ?_)
  have hS : s2.heap.objs.size ∉ fp := fun q => Nat.lt_irrefl _ (hfp _ q)
  rw [nm]
  exact wpAny_pure ⟨plainId_quiet F.plain_min_loop _, codeAny_min_loop_firstH W H hw bt hcmp s2.heap.objs.size hS (fresh_in hkeep) _ hn (fun b o e => Heap.get?_push_of_some _ (hkeep b o e)) (W.frame 0 s2 _ s2.toks hst (Nat.le_refl _) fun b _ o e => Heap.get?_push_of_some _ e) (Heap.get?_push_size _ rfl)
    fun v s' hP hm => hQ v s' hP (Moved.drop_new (tk := s2.toks) hm (Nat.le_refl _))⟩
theorem call_max_twoH {a b : Value} {Q : Value → Shared → Prop}
    (h : wpAny (model prog w) A.in1 (pyIter (.ref s.heap.objs.size)) (fun it s2 => ∃ I fp wr G n P St H bt, it = .ref I ∧ WalksS prog w A.in1 I fp wr G n P St ∧ St 0 s2 ∧ (∀ b ∈ fp, b < s2.heap.objs.size) ∧ 0 < n ∧
      (∀ b o, H.get? b = some o → b ∉ wr) ∧ (∀ b o, H.get? b = some o → s2.heap.get? b = some o) ∧ CmpIn prog w A.in1 .Gt H P bt ∧ ∀ v s', P (argBest bt (n - 1)) v → Moved wr G s2 s' → Q v s') E
      { s with heap := s.heap.push { cls := .type "tuple", data := .seq #[a, b] } }) : wpAny (model prog w) A (call (.builtin "max") [a, b]) Q E s := by
  have nm : (toString "max" ++ toString ".loop" : String) = "max.loop" := rfl
  refine call_function_tree F.kind_max F.plain_max F.entry_max (F.args_max2 a b) ?_
  refine wpAny_bind (wpAny_of_eq (a := ([none, none] : List (Option Value))) rfl ?_)
  refine wpAny_bind (m := newTuple [a, b]) (wpAny_newObj_type ?_)
  refine wpAny_bind (wpAny_mono h (fun it s2 hb => ?_) fun _ _ e => e)
  obtain ⟨I, fp, wr, G, n, P, St, H, bt, rfl, W, hst, hfp, hn, hw, hkeep, hcmp, hQ⟩ := hb
  refine wpAny_bind (wpAny_newObj_type ?_)
  have hS : s2.heap.objs.size ∉ fp := fun q => Nat.lt_irrefl _ (hfp _ q)
  rw [nm]
  exact wpAny_pure ⟨plainId_quiet F.plain_max_loop _, codeAny_max_loop_firstH W H hw bt hcmp s2.heap.objs.size hS (fresh_in hkeep) _ hn (fun b o e => Heap.get?_push_of_some _ (hkeep b o e)) (W.frame 0 s2 _ s2.toks hst (Nat.le_refl _) fun b _ o e => Heap.get?_push_of_some _ e) (Heap.get?_push_size _ rfl)
    fun v s' hP hm => hQ v s' hP (Moved.drop_new (tk := s2.toks) hm (Nat.le_refl _))⟩
end
theorem best_get {f : D → D → Bool} {K : PySem.W.Frag} {ho : Option Addr} {G : Hp} {x : D} {xs : List D} {vs : List V} {us : List Value} {v : Value} (rv : Vals vs us) (dv : DVs K ho G vs (x :: xs))
    (h : us[argBest (fun i j => f ((x :: xs).getD i .non) ((x :: xs).getD j .non)) (us.length - 1)]? = some v) : ∃ y, RelV y v ∧ DV K ho G y (xs.foldl (fun a y => if f y a then y else a) x) := by
  have hl : us.length - 1 = xs.length := by rw [← rv.length, dv.length]; rfl
  rw [hl] at h
  obtain ⟨y, h1, h2⟩ := vals_get rv h
  obtain ⟨d, h3, h4⟩ := dv.get' h1
  have e := (argBest_fold f .non x xs xs.length (Nat.le_refl _)).2
  rw [List.take_length] at e
  rw [List.getD_eq_getElem?_getD, h3] at e
  exact ⟨y, h2, by rw [← e]; exact h4⟩
section
variable {X : Cx} {O : List Nat} {a b : Expr} {fa fb : EF} {p pos : Pos}
theorem cr_min' (hcm : X.calm = true) (hu : X.A.units + 64 < cLine) : CallR X (.builtin "min") (rR1 X.K oMin) := by
  intro pins s σ H xs us Q I r ⟨G, ho, hs, x, d, z, ex, gh, hh, dx, ez, k⟩
  subst ex
  obtain ⟨u, eu, rx⟩ := vals1 r
  subst eu
  have hu1 : X.A.in1.units + 62 < cLine := by show X.A.units + 1 + 62 < _; omega
  unfold oMin at ez
  split at ez
  · rename_i y ys
    split at ez
    · rename_i hok
      cases ez
      obtain ⟨a, vs, rfl, h1, h2⟩ := dx.lst gh
      obtain rfl : u = Value.ref a := rx
      obtain ⟨its, rv, hl, hz⟩ := I.list (SqL.of (K := X.K) h1)
      obtain ⟨as, hr⟩ := Dp.readsAll I _ _ its (dps_of gh 60 _ _ (okCmp_ok hok).1 h2) rv
      refine call_min_walkH (iter_listW (A := X.A.in1) (I.ok.hd hcm) hl.isList fun s2 e W st hfp hw hk => ?_)
      refine ⟨_, _, _, _, _, _, _, s.heap, _, rfl, W, st, hfp, ?_, hw, hk, cmp_lt (ds := y :: ys) (by simpa using hr) hok hu1, fun v s' hP m => ?_⟩
      · rw [List.size_toArray, ← rv.length, h2.length]; exact Nat.succ_pos _
      · obtain ⟨h', tk, rfl, hk'⟩ := moved_old e rfl m
        obtain ⟨y', e1, e2⟩ := best_get rv h2 (by simpa using hP)
        exact ⟨y', H, I.kept hk', e1, k y' G H (.refl gh hh) e2⟩
    · cases ez
  · rename_i y ys
    split at ez
    · rename_i hok
      cases ez
      cases dx.dv (fun o h => h) with
      | @tup a vs _ h1 h2 =>
      obtain rfl : u = Value.ref a := rx
      obtain ⟨its, rv, hl, hz⟩ := I.tuple (SqT.of (K := X.K) (gh _ _ h1))
      obtain ⟨as, hr⟩ := Dp.readsAll I _ _ its (dps_of gh 60 _ _ (okCmp_ok hok).1 h2) rv
      refine call_min_walkH (iter_tupleW (A := X.A.in1) (I.ok.hd hcm) hl fun s2 e W st hfp hw hk => ?_)
      refine ⟨_, _, _, _, _, _, _, s.heap, _, rfl, W, st, hfp, ?_, hw, hk, cmp_lt (ds := y :: ys) (by simpa using hr) hok hu1, fun v s' hP m => ?_⟩
      · rw [List.size_toArray, ← rv.length, h2.length]; exact Nat.succ_pos _
      · obtain ⟨h', tk, rfl, hk'⟩ := moved_old e rfl m
        obtain ⟨y', e1, e2⟩ := best_get rv h2 (by simpa using hP)
        exact ⟨y', H, I.kept hk', e1, k y' G H (.refl gh hh) e2⟩
    · cases ez
  · cases ez
theorem cr_max' (hcm : X.calm = true) (hu : X.A.units + 64 < cLine) : CallR X (.builtin "max") (rR1 X.K oMax) := by
  intro pins s σ H xs us Q I r ⟨G, ho, hs, x, d, z, ex, gh, hh, dx, ez, k⟩
  subst ex
  obtain ⟨u, eu, rx⟩ := vals1 r
  subst eu
  have hu1 : X.A.in1.units + 62 < cLine := by show X.A.units + 1 + 62 < _; omega
  unfold oMax at ez
  split at ez
  · rename_i y ys
    split at ez
    · rename_i hok
      cases ez
      obtain ⟨a, vs, rfl, h1, h2⟩ := dx.lst gh
      obtain rfl : u = Value.ref a := rx
      obtain ⟨its, rv, hl, hz⟩ := I.list (SqL.of (K := X.K) h1)
      obtain ⟨as, hr⟩ := Dp.readsAll I _ _ its (dps_of gh 60 _ _ (okCmp_ok hok).1 h2) rv
      refine call_max_walkH (iter_listW (A := X.A.in1) (I.ok.hd hcm) hl.isList fun s2 e W st hfp hw hk => ?_)
      refine ⟨_, _, _, _, _, _, _, s.heap, _, rfl, W, st, hfp, ?_, hw, hk, cmp_gt (ds := y :: ys) (by simpa using hr) hok hu1, fun v s' hP m => ?_⟩
      · rw [List.size_toArray, ← rv.length, h2.length]; exact Nat.succ_pos _
      · obtain ⟨h', tk, rfl, hk'⟩ := moved_old e rfl m
        obtain ⟨y', e1, e2⟩ := best_get (f := fun a b => dLt b a) rv h2 (by simpa using hP)
        exact ⟨y', H, I.kept hk', e1, k y' G H (.refl gh hh) e2⟩
    · cases ez
  · rename_i y ys
    split at ez
    · rename_i hok
      cases ez
      cases dx.dv (fun o h => h) with
      | @tup a vs _ h1 h2 =>
      obtain rfl : u = Value.ref a := rx
      obtain ⟨its, rv, hl, hz⟩ := I.tuple (SqT.of (K := X.K) (gh _ _ h1))
      obtain ⟨as, hr⟩ := Dp.readsAll I _ _ its (dps_of gh 60 _ _ (okCmp_ok hok).1 h2) rv
      refine call_max_walkH (iter_tupleW (A := X.A.in1) (I.ok.hd hcm) hl fun s2 e W st hfp hw hk => ?_)
      refine ⟨_, _, _, _, _, _, _, s.heap, _, rfl, W, st, hfp, ?_, hw, hk, cmp_gt (ds := y :: ys) (by simpa using hr) hok hu1, fun v s' hP m => ?_⟩
      · rw [List.size_toArray, ← rv.length, h2.length]; exact Nat.succ_pos _
      · obtain ⟨h', tk, rfl, hk'⟩ := moved_old e rfl m
        obtain ⟨y', e1, e2⟩ := best_get (f := fun a b => dLt b a) rv h2 (by simpa using hP)
        exact ⟨y', H, I.kept hk', e1, k y' G H (.refl gh hh) e2⟩
    · cases ez
  · cases ez
def rR2 (K : PySem.W.Frag) (op : D → D → Option D) : List V → Hp → VK → Prop := fun xs H Q => ∃ G ho hs x y d e z, xs = [x, y] ∧ Same G H ∧ HandOk K G H hs ho ∧ DV K ho G x d ∧ DV K ho G y e ∧ op d e = some z ∧
  ∀ v G' H', CallEnd K ho hs G H G' H' → DV K ho G' v z → Q v H'
theorem cr_min2' (hcm : X.calm = true) (hu : X.A.units + 64 < cLine) : CallR X (.builtin "min") (rR2 X.K oMin2) := by
  intro pins s σ H xs us Q I r ⟨G, ho, hs, x, y, d, e, z, ex, gh, hh, dx, dy, ez, k⟩
  subst ex
  cases r with
  | cons rx rr =>
  cases rr with
  | cons ry rr =>
  cases rr
  rename_i u u2
  have hu1 : X.A.in1.units + 62 < cLine := by show X.A.units + 1 + 62 < _; omega
  unfold oMin2 at ez
  split at ez
  · rename_i hok
    cases ez
    have rv : Vals [x, y] [u, u2] := .cons rx (.cons ry .nil)
    have dv : DVs X.K ho G [x, y] [d, e] := .cons dx (.cons dy .nil)
    obtain ⟨as, hr⟩ := Dp.readsAll I _ _ _ (dps_of gh 60 _ _ (okCmp_ok hok).1 dv) rv
    have kp : ∀ b o, s.heap.get? b = some o → (s.heap.push ({ cls := .type "tuple", data := .seq #[u, u2] } : Obj)).get? b = some o := fun b o q => Heap.get?_push_of_some _ q
    have hr2 := PyProof.Rows.ReadsAll.keeps kp hr
    refine call_min_twoH (iter_tupleW (A := X.A.in1) (l := s.heap.objs.size) (vs := #[u, u2]) (I.ok.hd hcm) ⟨_, Heap.get?_push_size _ rfl, rfl, _, rfl⟩ fun s2 q W st hfp hw hk => ?_)
    refine ⟨_, _, _, _, _, _, _, s.heap.push ({ cls := .type "tuple", data := .seq #[u, u2] } : Obj), _, rfl, W, st, hfp, (show 0 < 2 by omega), hw, hk, cmp_lt (s := { s with heap := s.heap.push ({ cls := .type "tuple", data := .seq #[u, u2] } : Obj) }) (ds := [d, e]) hr2 hok hu1, fun v s' hP m => ?_⟩
    obtain ⟨h', tk, rfl, hk'⟩ := moved_old q rfl m
    obtain ⟨y', e1, e2⟩ := best_get (f := dLt) rv dv (show [u, u2][_]? = some v by simpa using hP)
    exact ⟨y', H, I.kept (t' := tk) fun b o w => hk' b o (kp b o w), e1, k y' G H (.refl gh hh) e2⟩
  · cases ez
theorem cr_max2' (hcm : X.calm = true) (hu : X.A.units + 64 < cLine) : CallR X (.builtin "max") (rR2 X.K oMax2) := by
  intro pins s σ H xs us Q I r ⟨G, ho, hs, x, y, d, e, z, ex, gh, hh, dx, dy, ez, k⟩
  subst ex
  cases r with
  | cons rx rr =>
  cases rr with
  | cons ry rr =>
  cases rr
  rename_i u u2
  have hu1 : X.A.in1.units + 62 < cLine := by show X.A.units + 1 + 62 < _; omega
  unfold oMax2 at ez
  split at ez
  · rename_i hok
    cases ez
    have rv : Vals [x, y] [u, u2] := .cons rx (.cons ry .nil)
    have dv : DVs X.K ho G [x, y] [d, e] := .cons dx (.cons dy .nil)
    obtain ⟨as, hr⟩ := Dp.readsAll I _ _ _ (dps_of gh 60 _ _ (okCmp_ok hok).1 dv) rv
    have kp : ∀ b o, s.heap.get? b = some o → (s.heap.push ({ cls := .type "tuple", data := .seq #[u, u2] } : Obj)).get? b = some o := fun b o q => Heap.get?_push_of_some _ q
    have hr2 := PyProof.Rows.ReadsAll.keeps kp hr
    refine call_max_twoH (iter_tupleW (A := X.A.in1) (l := s.heap.objs.size) (vs := #[u, u2]) (I.ok.hd hcm) ⟨_, Heap.get?_push_size _ rfl, rfl, _, rfl⟩ fun s2 q W st hfp hw hk => ?_)
    refine ⟨_, _, _, _, _, _, _, s.heap.push ({ cls := .type "tuple", data := .seq #[u, u2] } : Obj), _, rfl, W, st, hfp, (show 0 < 2 by omega), hw, hk, cmp_gt (s := { s with heap := s.heap.push ({ cls := .type "tuple", data := .seq #[u, u2] } : Obj) }) (ds := [d, e]) hr2 hok hu1, fun v s' hP m => ?_⟩
    obtain ⟨h', tk, rfl, hk'⟩ := moved_old q rfl m
    obtain ⟨y', e1, e2⟩ := best_get (f := fun a b => dLt b a) rv dv (show [u, u2][_]? = some v by simpa using hP)
    exact ⟨y', H, I.kept (t' := tk) fun b o w => hk' b o (kp b o w), e1, k y' G H (.refl gh hh) e2⟩
  · cases ez
theorem tE_r2 {K : PySem.W.Frag} {op : D → D → Option D} {σ : L2.St} {H : Hp} {Q : VK} (h : tE K O (eBin op fa fb) σ H Q) : tE K O fa σ H fun x H1 => tE K O fb σ H1 fun y H2 => rR2 K op [x, y] H2 Q := by
  obtain ⟨ho, sl, hs, G, d, hs', r, q, k⟩ := h
  obtain ⟨x, hs1, y, e1, e2, e3⟩ := eBin_some q
  exact ⟨ho, sl, hs, G, x, hs1, r, e1, fun v G1 H1 c1 d1 => ⟨ho, sl, hs1, G1, y, hs', r.after c1, e2, fun w G2 H2 c2 d2 => ⟨G2, ho, hs', v, w, x, y, d, rfl, c2.gh, c2.hand, d1.mono c2.g _ _, d2, e3, fun z G' H' c3 d3 => k z G' H' ((c1.trans c2).trans c3) d3⟩⟩⟩
theorem qe_b2 {op : D → D → Option D} {x : Str} {id : String} (hc : CallR X (.builtin id) (rR2 X.K op)) (hm : X.mg x = none) (ha : QE X O a fa) (hb : QE X O b fb) (hv : bootBuiltins x = some (.builtin id)) (hg : Gl X x) (hn : x ≠ "__name__") (hdb : (x == ("__debug__" : Str)) = false)
    (he1 : starEach [a, b] X.env = (false, eval a X.env) :: starEach [b] X.env) (he2 : starEach [b] X.env = (false, eval b X.env) :: starEach [] X.env) (hpl : (backTo pos (starEach [b] X.env)).any (·.1) = false) : QE X O (.Call (.Name x p) [a, b] [] pos) (eBin op fa fb) :=
  ⟨PE.imp (pe_callB hc hg hm hv (pa_cons ha.pe (pa_cons hb.pe pa_nil he2) he1) hn hdb he1 hpl) fun σ H Q h => tE_r2 h⟩
theorem qe_min1 {k : Nat} (hr : Room k X.A) (hm : X.mg "min" = none) (ha : QR X O a fa) (hcm : X.calm = true := by rfl) (hv : bootBuiltins "min" = some (.builtin "min") := by decide +kernel) (hg : Gl X "min" := by rfl)
    (he1 : starEach [a] X.env = (false, eval a X.env) :: starEach [] X.env := by rfl) (hpl : (backTo pos (starEach [] X.env)).any (·.1) = false := by rfl) : QE X O (.Call (.Name "min" p) [a] [] pos) (eUn oMin fa) :=
  qe_b1 (cr_min' hcm hr.units) hm ha hv hg (by decide) (by decide) he1 hpl
theorem qe_max1 {k : Nat} (hr : Room k X.A) (hm : X.mg "max" = none) (ha : QR X O a fa) (hcm : X.calm = true := by rfl) (hv : bootBuiltins "max" = some (.builtin "max") := by decide +kernel) (hg : Gl X "max" := by rfl)
    (he1 : starEach [a] X.env = (false, eval a X.env) :: starEach [] X.env := by rfl) (hpl : (backTo pos (starEach [] X.env)).any (·.1) = false := by rfl) : QE X O (.Call (.Name "max" p) [a] [] pos) (eUn oMax fa) :=
  qe_b1 (cr_max' hcm hr.units) hm ha hv hg (by decide) (by decide) he1 hpl
theorem qe_min2 {k : Nat} (hr : Room k X.A) (hm : X.mg "min" = none) (ha : QE X O a fa) (hb : QE X O b fb) (hcm : X.calm = true := by rfl) (hv : bootBuiltins "min" = some (.builtin "min") := by decide +kernel) (hg : Gl X "min" := by rfl)
    (he1 : starEach [a, b] X.env = (false, eval a X.env) :: starEach [b] X.env := by rfl) (he2 : starEach [b] X.env = (false, eval b X.env) :: starEach [] X.env := by rfl) (hpl : (backTo pos (starEach [b] X.env)).any (·.1) = false := by rfl) : QE X O (.Call (.Name "min" p) [a, b] [] pos) (eBin oMin2 fa fb) :=
  qe_b2 (cr_min2' hcm hr.units) hm ha hb hv hg (by decide) (by decide) he1 he2 hpl
theorem qe_max2 {k : Nat} (hr : Room k X.A) (hm : X.mg "max" = none) (ha : QE X O a fa) (hb : QE X O b fb) (hcm : X.calm = true := by rfl) (hv : bootBuiltins "max" = some (.builtin "max") := by decide +kernel) (hg : Gl X "max" := by rfl)
    (he1 : starEach [a, b] X.env = (false, eval a X.env) :: starEach [b] X.env := by rfl) (he2 : starEach [b] X.env = (false, eval b X.env) :: starEach [] X.env := by rfl) (hpl : (backTo pos (starEach [b] X.env)).any (·.1) = false := by rfl) : QE X O (.Call (.Name "max" p) [a, b] [] pos) (eBin oMax2 fa fb) :=
  qe_b2 (cr_max2' hcm hr.units) hm ha hb hv hg (by decide) (by decide) he1 he2 hpl
end
end L2.VI

/-! VI: <, <=, >, >= of data; abs. -/
namespace L2.VI
open PySem PySem.Spec PyProof.Rows L2
def oLtD (x y : D) : Option D := match oLt x y with
  | some z => some z
  | none => if okCmp [x, y] then some (.bl (dLt x y)) else none
def oGtD (x y : D) : Option D := match oGt x y with
  | some z => some z
  | none => if okCmp [x, y] then some (.bl (dLt y x)) else none
def oLeD (x y : D) : Option D := match oLe x y with
  | some z => some z
  | none => if okCmp [x, y] then some (.bl (!dLt y x)) else none
def oGeD (x y : D) : Option D := match oGe x y with
  | some z => some z
  | none => if okCmp [x, y] then some (.bl (!dLt x y)) else none
section
variable {X : Cx}
theorem cmp_two {d e : D} (h : okCmp [d, e] = true) : sh 60 d = true ∧ sh 60 e = true ∧ dAlike d e = true ∧ dAlike e d = true ∧ toP d ≠ .none := by
  obtain ⟨_, h2, h3, h4⟩ := okCmp_ok h
  exact ⟨h2 d (by simp), h2 e (by simp), h3 d (by simp) e (by simp), h3 e (by simp) d (by simp), h4.2 _ (by simp [toPs])⟩
theorem opd_lt (hu : X.A.units + 64 < cLine) : OpQ X (compareOp .Lt) oLtD := by
  intro pins s σ H x y v u Q I rx ry ⟨G, ho, hs, d, e, z, gh, hh, dx, dy, ez, k⟩
  unfold oLtD at ez
  split at ez
  · rename_i z' e1
    cases ez
    exact opq_lt pins s σ H x y v u Q I rx ry ⟨G, ho, hs, d, e, _, gh, hh, dx, dy, e1, k⟩
  · split at ez
    · rename_i hok
      cases ez
      obtain ⟨s1, s2, a1, a2, hn⟩ := cmp_two hok
      obtain ⟨as, r1⟩ := Dp.reads I _ x v (dp_of gh 60 d x s1 dx) rx
      obtain ⟨bs, r2⟩ := Dp.reads I _ y u (dp_of gh 60 e y s2 dy) ry
      have p1 := (sh_depth 60 d s1).1
      exact PySem.W.lt_data r1 r2 (alike_toP _ _ a1) hn (by omega) ⟨.bl _, H, I, rfl, by rw [lt_toP 60 60 _ _ s1 s2 a1]; exact k _ G H (.refl gh hh) (.bl _)⟩
    · cases ez
theorem opd_gt (hu : X.A.units + 64 < cLine) : OpQ X (compareOp .Gt) oGtD := by
  intro pins s σ H x y v u Q I rx ry ⟨G, ho, hs, d, e, z, gh, hh, dx, dy, ez, k⟩
  unfold oGtD at ez
  split at ez
  · rename_i z' e1
    cases ez
    exact opq_gt pins s σ H x y v u Q I rx ry ⟨G, ho, hs, d, e, _, gh, hh, dx, dy, e1, k⟩
  · split at ez
    · rename_i hok
      cases ez
      obtain ⟨s1, s2, a1, a2, hn⟩ := cmp_two hok
      obtain ⟨as, r1⟩ := Dp.reads I _ x v (dp_of gh 60 d x s1 dx) rx
      obtain ⟨bs, r2⟩ := Dp.reads I _ y u (dp_of gh 60 e y s2 dy) ry
      have p1 := (sh_depth 60 d s1).1
      exact PySem.W.gt_data r1 r2 (alike_toP _ _ a1) hn (by omega) ⟨.bl _, H, I, rfl, by rw [lt_toP 60 60 _ _ s2 s1 a2]; exact k _ G H (.refl gh hh) (.bl _)⟩
    · cases ez
theorem opd_le (hu : X.A.units + 64 < cLine) : OpQ X (compareOp .LtE) oLeD := by
  intro pins s σ H x y v u Q I rx ry ⟨G, ho, hs, d, e, z, gh, hh, dx, dy, ez, k⟩
  unfold oLeD at ez
  split at ez
  · rename_i z' e1
    cases ez
    exact opq_le pins s σ H x y v u Q I rx ry ⟨G, ho, hs, d, e, _, gh, hh, dx, dy, e1, k⟩
  · split at ez
    · rename_i hok
      cases ez
      obtain ⟨s1, s2, a1, a2, hn⟩ := cmp_two hok
      obtain ⟨as, r1⟩ := Dp.reads I _ x v (dp_of gh 60 d x s1 dx) rx
      obtain ⟨bs, r2⟩ := Dp.reads I _ y u (dp_of gh 60 e y s2 dy) ry
      have p1 := (sh_depth 60 d s1).1
      exact PySem.W.le_data r1 r2 (alike_toP _ _ a1) hn (by omega) ⟨.bl _, H, I, rfl, by rw [lt_toP 60 60 _ _ s2 s1 a2]; exact k _ G H (.refl gh hh) (.bl _)⟩
    · cases ez
theorem opd_ge (hu : X.A.units + 64 < cLine) : OpQ X (compareOp .GtE) oGeD := by
  intro pins s σ H x y v u Q I rx ry ⟨G, ho, hs, d, e, z, gh, hh, dx, dy, ez, k⟩
  unfold oGeD at ez
  split at ez
  · rename_i z' e1
    cases ez
    exact opq_ge pins s σ H x y v u Q I rx ry ⟨G, ho, hs, d, e, _, gh, hh, dx, dy, e1, k⟩
  · split at ez
    · rename_i hok
      cases ez
      obtain ⟨s1, s2, a1, a2, hn⟩ := cmp_two hok
      obtain ⟨as, r1⟩ := Dp.reads I _ x v (dp_of gh 60 d x s1 dx) rx
      obtain ⟨bs, r2⟩ := Dp.reads I _ y u (dp_of gh 60 e y s2 dy) ry
      have p1 := (sh_depth 60 d s1).1
      exact PySem.W.ge_data r1 r2 (alike_toP _ _ a1) hn (by omega) ⟨.bl _, H, I, rfl, by rw [lt_toP 60 60 _ _ s1 s2 a1]; exact k _ G H (.refl gh hh) (.bl _)⟩
    · cases ez
end
end L2.VI

/-! VI: the hand of a law: reads, stores, how it is made; abs, int. -/
namespace L2.VI
open PySem PySem.Spec PyProof.Rows L2

/-! ### abs, int -/
def oAbs : D → Option D
  | .int i => some (.int (if i < 0 then -i else i))
  | _ => none
def oInt : D → Option D
  | .int i => some (.int i)
  | .bl b => some (.int (if b then 1 else 0))
  | _ => none
section
variable {X : Cx} {B : Bs} {O O' L : List Nat} {a b e : Expr} {fa fb fe : EF} {p pos : Pos}
theorem cr_abs' : CallR X (.builtin "abs") (rR1 X.K oAbs) := by
  intro pins s σ H xs us Q I r ⟨G, ho, hs, x, d, z, ex, gh, hh, dx, ez, k⟩
  subst ex
  unfold oAbs at ez
  split at ez
  · cases ez
    cases dx.dv (fun o h => h)
    exact call_abs pins s σ H _ us Q I r ⟨_, rfl, k _ G H (.refl gh hh) (.int _)⟩
  · cases ez
theorem cr_int' : CallR X (.type "int") (rR1 X.K oInt) := by
  intro pins s σ H xs us Q I r ⟨G, ho, hs, x, d, z, ex, gh, hh, dx, ez, k⟩
  subst ex
  unfold oInt at ez
  split at ez
  · cases ez
    cases dx.dv (fun o h => h)
    exact call_int1 pins s σ H _ us Q I r (.inl ⟨_, rfl, k _ G H (.refl gh hh) (.int _)⟩)
  · cases ez
    cases dx.dv (fun o h => h)
    exact call_int1 pins s σ H _ us Q I r (.inr ⟨_, rfl, k _ G H (.refl gh hh) (.int _)⟩)
  · cases ez
theorem qe_abs1 {k : Nat} (hr : Room k X.A) (hm : X.mg "abs" = none) (ha : QR X O a fa) (hv : bootBuiltins "abs" = some (.builtin "abs") := by decide +kernel) (hg : Gl X "abs" := by rfl)
    (he1 : starEach [a] X.env = (false, eval a X.env) :: starEach [] X.env := by rfl) (hpl : (backTo pos (starEach [] X.env)).any (·.1) = false := by rfl) : QE X O (.Call (.Name "abs" p) [a] [] pos) (eUn oAbs fa) :=
  qe_b1 cr_abs' hm ha hv hg (by decide) (by decide) he1 hpl
theorem qe_int1 {k : Nat} (hr : Room k X.A) (hm : X.mg "int" = none) (ha : QR X O a fa) (hv : bootBuiltins "int" = some (.type "int") := by decide +kernel) (hg : Gl X "int" := by rfl)
    (he1 : starEach [a] X.env = (false, eval a X.env) :: starEach [] X.env := by rfl) (hpl : (backTo pos (starEach [] X.env)).any (·.1) = false := by rfl) : QE X O (.Call (.Name "int" p) [a] [] pos) (eUn oInt fa) :=
  qe_t1 cr_int' hm ha hv hg (by decide) (by decide) he1 hpl

/-! ### the hand, read -/
def hndAt (k : Nat) (hs : Hnd) : Option D := match k with
  | 0 => some (.lst (hs.cells.map D.int))
  | 1 => some (.int hs.i)
  | 2 => some (.int hs.b)
  | 3 => some (.int hs.s)
  | 4 => some (.int hs.c)
  | _ => none
def eHand (i k : Nat) : EF := fun sl hs => match sl[i]? with
  | some (some .hnd) => (hndAt k hs).map fun d => (d, hs)
  | _ => none
theorem qe_hand (i k : Nat) {x : Str} {px pk : Pos} {jj} (hO : O.contains i = false := by rfl) (hN : X.N[i]? = some x := by rfl) (hv : Vis X.env.scope x := by first | exact Or.inl rfl | exact Or.inr (Or.inl rfl) | exact Or.inr (Or.inr rfl)) (hd : (x == ("__debug__" : Str)) = false := by decide)
    (hcd : (x == ("__classdict__" : Str)) = false := by decide) (hs : PlainIx (.Constant (.int (k : Nat)) jj pk) := by intro _ _; rfl) : QE X O (.Subscript (.Name x px) (.Constant (.int (k : Nat)) jj pk) pos) (eHand i k) :=
  ⟨PE.imp (pe_ix ix_list (pe_var hN hv hd hcd) pe_int hs) fun σ H Q ⟨ho, sl, hs, G, d, hs', r, q, kk⟩ => by
    unfold eHand at q
    split at q
    · rename_i e1
      obtain ⟨d', e2, e3⟩ := Option.map_eq_some_iff.mp q
      cases e3
      obtain ⟨v, h1, h2⟩ := r.dat i _ e1 (by simpa using hO)
      cases h2 with
      | @hnd a ha =>
        subst ha
        obtain ⟨hg, ca, h3, h4⟩ := r.hand
        refine ⟨_, h1, ?_⟩
        unfold hndAt at e2
        split at e2
        · cases e2; exact ⟨a, _, ((0 : Nat) : Int), _, rfl, rfl, SqL.of h3, rfl, kk _ G H r.refl (.lst h4 DVs.ints)⟩
        · cases e2; exact ⟨a, _, ((1 : Nat) : Int), _, rfl, rfl, SqL.of h3, rfl, kk _ G H r.refl (.int _)⟩
        · cases e2; exact ⟨a, _, ((2 : Nat) : Int), _, rfl, rfl, SqL.of h3, rfl, kk _ G H r.refl (.int _)⟩
        · cases e2; exact ⟨a, _, ((3 : Nat) : Int), _, rfl, rfl, SqL.of h3, rfl, kk _ G H r.refl (.int _)⟩
        · cases e2; exact ⟨a, _, ((4 : Nat) : Int), _, rfl, rfl, SqL.of h3, rfl, kk _ G H r.refl (.int _)⟩
        · cases e2
    · cases q⟩

/-! ### the hand, stored -/
def hndSet (k : Nat) (n : Int) (hs : Hnd) : Option Hnd := match k with
  | 1 => if 0 ≤ n then some { hs with i := n.toNat } else none
  | 2 => some { hs with b := n }
  | 3 => some { hs with s := n }
  | 4 => some { hs with c := n }
  | _ => none
def sHset (i k : Nat) (f : EF) : SF := fun sl hs => match f sl hs with
  | some (.int n, hs1) => (match sl[i]? with
    | some (some .hnd) => (hndSet k n hs1).map fun h => .nx sl h
    | _ => none)
  | _ => none
theorem Rel.hset {K : PySem.W.Frag} {sl : Sl} {hs hs2 : Hnd} {σ : L2.St} {G H : Hp} {a ca : Addr} (r : Rel K B O sl hs σ G H) (ha : B.ha = some a) (hg : G a = none) (hH : H a ≠ none) (h4 : G ca = some (.lst (hs2.cells.map V.int))) :
    Rel K B O sl hs2 σ G (upd H a (.lst [.ref ca, .int hs2.i, .int hs2.b, .int hs2.s, .int hs2.c])) := by
  have hk : HandOk K G (upd H a (.lst [.ref ca, .int hs2.i, .int hs2.b, .int hs2.s, .int hs2.c])) hs2 B.ha := by
    rw [ha]; exact ⟨hg, ca, upd_same, h4⟩
  have gh : Same G (upd H a (.lst [.ref ca, .int hs2.i, .int hs2.b, .int hs2.s, .int hs2.c])) := fun b u e => by
    rw [upd_ne (ne_of_none e hg)]; exact r.rl.gh b u e
  refine ⟨⟨gh, r.rl.len, r.rl.dat, fun j d hd hj => ?_, r.rl.sep, hk⟩, ⟨r.ce.g, gh, fun b o e n => ?_, r.ce.fresh, fun b e => ?_, hk⟩, r.fr⟩
  · obtain ⟨c, h1, h2, h3, w⟩ := r.rl.own j d hd hj
    refine ⟨c, h1, h2, h3, ?_⟩
    rw [upd_ne (fun z => h3 (by rw [z]; exact ha))]; exact w
  · rw [upd_ne (fun z => n (by rw [z]; exact ha))]; exact r.ce.frame b o e n
  · by_cases z : b = a
    · subst z; rw [upd_same]; simp
    · rw [upd_ne z]; exact r.ce.there b e
theorem qs_hset (i k : Nat) {x : Str} {px pk pos' : Pos} {jj} (he : QE X O e fe) (hO : O.contains i = false := by rfl) (hN : X.N[i]? = some x := by rfl) (hv : Vis X.env.scope x := by first | exact Or.inl rfl | exact Or.inr (Or.inl rfl) | exact Or.inr (Or.inr rfl))
    (has : ∀ v, assign (.Subscript (.Name x px) (.Constant (.int (k : Nat)) jj pk) pos') X.env v = (do
      let ov ← holding [v] (eval (.Name x px) X.env)
      let iv ← holding [v, ov] (eval (.Constant (.int (k : Nat)) jj pk) X.env)
      standAt pos'
      holding [v, ov, iv] (setItem ov iv v)
      release [v, ov, iv] []) := by intro _; rfl)
    (hs : swapsWithSole [.Subscript (.Name x px) (.Constant (.int (k : Nat)) jj pk) pos'] e pos.line X.env = pure false := by rfl) (hw : swappedStores [.Subscript (.Name x px) (.Constant (.int (k : Nat)) jj pk) pos'] e X.env = pure none := by rfl)
    (h1 : (assignEach [.Subscript (.Name x px) (.Constant (.int (k : Nat)) jj pk) pos'] X.env).map (·.2) = [assign (.Subscript (.Name x px) (.Constant (.int (k : Nat)) jj pk) pos') X.env] := by rfl)
    (hd : (x == ("__debug__" : Str)) = false := by decide) (hcd : (x == ("__classdict__" : Str)) = false := by decide) :
    QS X B O O L (.Assign [.Subscript (.Name x px) (.Constant (.int (k : Nat)) jj pk) pos'] e pos) (sHset i k fe) :=
  ⟨PS.imp (ps_asg he.pe (pg_sub (pe_var hN hv hd hcd) pe_int set_list has) hs hw h1) fun D σ H ⟨sl, hs, G, o, r, q, kk⟩ => by
    have hi : ¬ i ∈ O := by simpa using hO
    unfold sHset at q
    split at q
    · rename_i n hs1 e1
      split at q
      · rename_i e2
        obtain ⟨h2, e3, e4⟩ := Option.map_eq_some_iff.mp q
        cases e4
        refine ⟨_, sl, hs, G, _, hs1, r.rl, e1, fun v G1 H1 c1 d1 => ?_⟩
        have r1 := r.after c1
        obtain ⟨w, g1, g2⟩ := r1.rl.dat i _ e2 hi
        cases DV_int d1
        cases g2 with
        | @hnd a ha =>
          have hh := r1.rl.hand
          rw [ha] at hh
          obtain ⟨hg, ca, h3, h4⟩ := hh
          have hne : H1 a ≠ none := by rw [h3]; simp
          unfold hndSet at e3
          split at e3
          · split at e3
            · rename_i hn
              cases e3
              refine ⟨_, g1, a, _, 1, 1, rfl, rfl, h3, rfl, kk _ G1 _ c1.g ?_⟩
              have := r1.hset (hs2 := { hs1 with i := n.toNat }) ha hg hne h4
              simpa [Int.toNat_of_nonneg hn] using this
            · cases e3
          · cases e3
            exact ⟨_, g1, a, _, 2, 2, rfl, rfl, h3, rfl, kk _ G1 _ c1.g (r1.hset (hs2 := { hs1 with b := n }) ha hg hne h4)⟩
          · cases e3
            exact ⟨_, g1, a, _, 3, 3, rfl, rfl, h3, rfl, kk _ G1 _ c1.g (r1.hset (hs2 := { hs1 with s := n }) ha hg hne h4)⟩
          · cases e3
            exact ⟨_, g1, a, _, 4, 4, rfl, rfl, h3, rfl, kk _ G1 _ c1.g (r1.hset (hs2 := { hs1 with c := n }) ha hg hne h4)⟩
          · cases e3
      · cases q
    · cases q⟩
end
end L2.VI

/-! VI: how a law's hand is made of its script; a law by its body. -/
namespace L2.VI
open PySem PySem.Spec PyProof.Rows L2

def iScr (K : PySem.W.Frag) : TI := fun σ H R => ∃ (sa : Addr) (ns : List Int), σ[0]? = some (some (.ref sa)) ∧ SqL K H sa (ns.map V.int) ∧ ∀ p, H p = none → R (Itl K p) (upd H p (.lst ((ns.take 63).map V.int)))
theorem cut63 (ns : List Int) : cutV (ns.map V.int) none (some 63) = (ns.take 63).map V.int := by
  unfold cutV
  rw [HT.sIx_none]
  have e : HT.sIx (ns.map V.int).length (ns.map V.int).length (some 63) = min 63 (ns.map V.int).length := HT.sIx_nat _ _ 63
  rw [e]
  simp only [List.drop_zero, Nat.sub_zero, List.length_map]
  rw [← List.map_take]
  congr 1
  by_cases h : 63 ≤ ns.length
  · rw [Nat.min_eq_left h]
  · rw [Nat.min_eq_right (by omega), List.take_length, List.take_of_length_le (by omega)]
section
variable {X : Cx} {tg : Expr}
theorem pi_scr {x : Str} {px p2 pk pos : Pos} {j} (hN : X.N[0]? = some x := by rfl) (hv : Vis X.env.scope x := by first | exact Or.inl rfl | exact Or.inr (Or.inl rfl) | exact Or.inr (Or.inr rfl)) (hd : (x == ("__debug__" : Str)) = false := by decide) (hcd : (x == ("__classdict__" : Str)) = false := by decide) :
    PI X tg (.Subscript (.Name x px) (.Slice none (some (.Constant (.int 63) j pk)) none p2) pos) (iScr X.K) :=
  PI.imp (pi_list (pe_slice sl_list (pe_var hN hv hd hcd) po_none (po_some pe_int))) fun σ H R ⟨sa, ns, h0, hS, k⟩ =>
    ⟨.ref sa, h0, 63, rfl, sa, _, rfl, hS, fun p hp => ⟨p, rfl, ⟨_, .inl (.inl (upd_same))⟩, by rw [cut63]; exact k p hp⟩⟩
end
def itScr (ns : List Int) : IF := fun _ hs => some ((ns.take 63).map D.int, hs)
section
variable {K : PySem.W.Frag}
theorem scr_of {O : List Nat} {σ : L2.St} {H : Hp} {R : It → Hp → Prop} {sa : Addr} {ns : List Int} (h : tI K O (itScr ns) σ H R) (h0 : σ[0]? = some (some (.ref sa))) (hS : SqL K H sa (ns.map V.int)) : iScr K σ H R := by
  obtain ⟨ho, sl, hs, G, ds, hs', r, q, k⟩ := h
  cases q
  refine ⟨sa, ns, h0, hS, fun p hp => ?_⟩
  exact k _ _ _ (laidG (o := .lst ((ns.take 63).map V.int)) r.gh r.hand hp) (walkD_list upd_same DVs.ints)
end
/-- what a law's hand is, by its script -/
def tHand (K : PySem.W.Frag) (Fh : List Int → Hnd) : TS := fun D σ H => ∃ (sa : Addr) (ns : List Int), σ = [some (.ref sa), none, none] ∧ SqL K H sa (ns.map V.int) ∧
  ∀ a G H', (∀ b o, H b = some o → H' b = some o) → Same G H' → HandOk K G H' (Fh ns) (some a) → D.rt (.ref a) H'
def spHand (K : PySem.W.Frag) (Fh : List Int → Hnd) : Sp := fun vs H Q _ => ∃ (sa : Addr) (ns : List Int), vs = [.ref sa] ∧ SqL K H sa (ns.map V.int) ∧
  ∀ a G H', (∀ b o, H b = some o → H' b = some o) → Same G H' → HandOk K G H' (Fh ns) (some a) → Q (.ref a) H'
theorem hand_ps {X : Cx} {st1 : Stmt} {e2 : Expr} {p2 : Pos} {gf : GF} {tt : TF} {fe fl : EF} {vs ts Og : List Nat} (Fh : List Int → Hnd)
    (h1 : PS X st1 (tAsg (tLc (iScr X.K) (tG X.K [] Og ts gf) (tT X.K Og tt) (tE X.K Og fe) vs) (L2.gName 1))) (h2 : QN X [] e2 fl) (hts : ∀ j ∈ ts, j ∈ vs)
    (hF : ∀ ns : List Int, compL gf tt fe (wipeS [none, none, none] vs) ((ns.take 63).map .int) default = some ((Fh ns).cells.map .int, default) ∧
      fl [none, some (.lst ((Fh ns).cells.map .int)), none] default = some (.lst [.lst ((Fh ns).cells.map .int), .int (Fh ns).i, .int (Fh ns).b, .int (Fh ns).s, .int (Fh ns).c], default)) :
    PSs X [st1, .Return (some e2) p2] (tHand X.K Fh) :=
  ⟨(PSs.imp (pss_cons h1 (pss_one (ps_ret h2.pe))) fun Dn σ H ⟨sa, ns, e0, hS, k⟩ => by
    subst e0
    obtain ⟨e1, e2⟩ := hF ns
    have r0 : Rl X.K none [] [none, none, none] default [some (.ref sa), none, none] (fun _ => none) H :=
      ⟨fun _ _ e => (by cases e), rfl, fun i d h => by rcases i with _ | _ | _ | i <;> simp at h, fun i d _ h => absurd h (by simp), fun i j a h => absurd h (by simp), trivial⟩
    have tl := tN_comp (K := X.K) (ts := ts) (vs := vs) (gf := gf) (tt := tt) (fe := fe) (it := itScr ns) (Og := Og) (σ := [some (.ref sa), none, none]) (H := H) (O := [])
      (Q := fun v H1 => L2.gName 1 v [some (.ref sa), none, none] H1 fun σ2 H2 => tRet (tN X.K [] fl) Dn σ2 H2) hts
      ⟨none, [none, none, none], default, fun _ => none, .lst ((Fh ns).cells.map .int), default, r0, by
        unfold eComp itScr
        have hl : ((ns.take 63).map D.int).length ≤ 16777216 := by rw [List.length_map, List.length_take]; omega
        simp only [hl, if_true, e1], fun a G1 H1 c1 h10 hg1 hn1 w1 => by
        obtain ⟨G2, c2, dv, _, _⟩ := freeze c1 h10 hg1 hn1 w1
        have r2 := (r0.after c2).set 1 dv
        refine ⟨none, [none, some (.lst ((Fh ns).cells.map .int)), none], default, G2, _, default, r2, e2, fun b G3 H3 c3 h30 hg3 hn3 w3 => ?_⟩
        obtain ⟨us, hH3, dvs⟩ := w3
        cases dvs with
        | cons d1 dvs =>
        cases dvs with
        | cons d2 dvs =>
        cases dvs with
        | cons d3 dvs =>
        cases dvs with
        | cons d4 dvs =>
        cases dvs with
        | cons d5 dvs =>
        cases dvs
        cases DV_int d2
        cases DV_int d3
        cases DV_int d4
        cases DV_int d5
        cases d1 with
        | @lst ca vs' _ g1 g2 =>
        rw [g2.of_ints] at g1
        exact k b G3 H3 (fun x o e => c3.frame x o (c2.frame x o e (by simp)) (by simp)) c3.gh ⟨hg3, ca, hH3, g1⟩⟩
    exact scr_of tl rfl hS).run⟩
theorem hand_fn {P : Program} {w : World} {K : PySem.W.Frag} {mg : Str → Option Value} {base : Heap} {x qual : Str} {st : Stmt} {f : Addr} {fd : FuncData} {n1 n2 n3 : Str} {k : Nat} {Fh : List Int → Hnd} (F : Fun K x qual st f fd) (S : FnScope [n1, n2, n3] [n1] (defScope st))
    (body : ∀ (cdv : Value) (A : Around) (outer : List Env) (s : Shared) (H : Hp) (E : XK), Room k (A.deeper (envOfC qual (defScope st) s.heap.objs.size f cdv)) →
      PSs (cxOf CX0 P w K mg base [n1, n2, n3] qual (defScope st) f cdv A outer s H E).nox (defBody st) (tHand K Fh)) : FnOk P w K mg base CX0 (k + 1) f fd [n1] (spHand K Fh) := by
  refine F.ok S (fun vs H Q E ⟨sa, ns, ev, _⟩ => by rw [ev]; rfl) fun cdv A outer s H vs Q E hr ⟨sa, ns, ev, hS, q⟩ => ?_
  subst ev
  exact ⟨_, (body cdv A outer s H E hr), sa, ns, rfl, hS, q⟩

theorem compL_map {fe : EF} {sl : Sl} {i : Nat} {hs : Hnd} {g : Int → Int} (h : ∀ n : Int, fe (sl.set i (some (.int n))) hs = some (.int (g n), hs)) : ∀ ns : List Int, compL (VI.gName i) tYes fe sl (ns.map D.int) hs = some ((ns.map g).map D.int, hs)
  | [] => rfl
  | n :: ns => by
    rw [List.map_cons, List.map_cons, List.map_cons]
    unfold compL
    simp only [VI.gName, tYes, h n, compL_map h ns]
/-! ### a law by its body -/
theorem law_set {X : Cx} {n1 n2 h1 : Str} {fH : Addr} {fdH : FuncData} {k j : Nat} {Fh : List Int → Hnd} {p1 p2 p3 p4 p5 : Pos} (GH : FnOk X.prog X.w X.K X.mg X.base CX0 k fH fdH [h1] (spHand X.K Fh)) (hr : Room j X.A) (hk : k ≤ j) (hm : X.mg "_law_hand" = some (.ref fH)) (hkp : PySem.W.keepIn X.K (.ref fH) = true) (hb : Binds X.K fdH [h1] [])
    (hN : X.N.Nodup) (h0 : X.N[0]? = some n1 := by rfl) (hi : X.N[1]? = some n2 := by rfl) (hx : Loc X.env.scope n2 := by first | exact Or.inl rfl | exact Or.inr rfl) (hv : Vis X.env.scope n1 := by first | exact Or.inl rfl | exact Or.inr (Or.inl rfl) | exact Or.inr (Or.inr rfl))
    (hd : (n1 == ("__debug__" : Str)) = false := by decide) (hcd : (n1 == ("__classdict__" : Str)) = false := by decide) (hg : Gl X "_law_hand" := by rfl) (he : starEach [.Name n1 p3] X.env = (false, eval (.Name n1 p3) X.env) :: starEach [] X.env := by rfl) (hpl : (backTo p4 (starEach [] X.env)).any (·.1) = false := by rfl)
    (hs : swapsWith (.Call (.Name "_law_hand" p2) [.Name n1 p3] [] p4) (some (.Name n2 p1)) p5.line X.env = pure false := by rfl) (hf : X.fn n2 = true ∨ X.env.scope.names.lookup n2 = some .local := by first | exact .inl rfl | exact .inr rfl) :
    PS X (.Assign [.Name n2 p1] (.Call (.Name "_law_hand" p2) [.Name n1 p3] [] p4) p5) (fun D σ H => ∃ (sa : Addr) (ns : List Int), σ[0]? = some (some (.ref sa)) ∧ SqL X.K H sa (ns.map V.int) ∧ ∀ a G H', Same G H' → HandOk X.K G H' (Fh ns) (some a) → D.nx (σ.set 1 (some (.ref a))) H') :=
  PS.imp (ps_set (i := 1) hN hi hx (pe_call (dvs := []) (E := E0) GH (hr.mono hk) hg hm hkp hb .nil pass0 (pa_cons (pe_var (i := 0) h0 hv hd hcd) pa_nil he) (by decide) he hpl) hs hf) fun D σ H ⟨sa, ns, h0, hS, k⟩ => ⟨_, h0, sa, ns, rfl, hS, fun a G H' _ gh hh => k a G H' gh hh⟩
def spLaw (K : PySem.W.Frag) : Sp := fun vs H Q _ => ∃ (a : Addr) (ns : List Int), vs = [.ref a] ∧ SqL K H a (ns.map V.int) ∧ ∀ H', Q (.bl true) H'
theorem law_fn {P : Program} {w : World} {K : PySem.W.Frag} {mg : Str → Option Value} {base : Heap} {x qual : Str} {st : Stmt} {f : Addr} {fd : FuncData} {N : List Str} {n1 n2 : Str} {k : Nat} (Fh : List Int → Hnd) {st1 : Stmt} {rest : List Stmt} {f2 : SF}
    (F : Fun K x qual st f fd) (S : FnScope (n1 :: n2 :: N) [n1] (defScope st))
    (hbody : defBody st = st1 :: rest)
    (body : ∀ (cdv : Value) (A : Around) (outer : List Env) (s : Shared) (H : Hp) (E : XK) (B : Bs), Room k (A.deeper (envOfC qual (defScope st) s.heap.objs.size f cdv)) →
      PS (cxOf CX0 P w K mg base (n1 :: n2 :: N) qual (defScope st) f cdv A outer s H E).nox st1 (fun D σ H => ∃ (sa : Addr) (ns : List Int), σ[0]? = some (some (.ref sa)) ∧ SqL K H sa (ns.map V.int) ∧
          ∀ a G H', Same G H' → HandOk K G H' (Fh ns) (some a) → D.nx (σ.set 1 (some (.ref a))) H') ∧
      QSs (cxOf CX0 P w K mg base (n1 :: n2 :: N) qual (defScope st) f cdv A outer s H E).nox B [] [] [] rest f2)
    (law : ∀ ns : List Int, ∃ hs', f2 (none :: some .hnd :: List.replicate N.length none) (Fh ns) = some (.rt (.bl true) hs')) : FnOk P w K mg base CX0 (k + 1) f fd [n1] (spLaw K) := by
  refine F.ok S (fun vs H Q E ⟨sa, ns, ev, _⟩ => by rw [ev]; rfl) fun cdv A outer s H vs Q E hr ⟨sa, ns, ev, hS, q⟩ => ?_
  subst ev
  have hB := fun B => body cdv A outer s H E B hr
  have hP : PSs (cxOf CX0 P w K mg base (n1 :: n2 :: N) qual (defScope st) f cdv A outer s H E).nox rest (fun D σ H => ∃ B, tS K B [] [] [] f2 D σ H) := ⟨fun pins s σ H D I ⟨B, q⟩ => (hB B).2.ps.run pins s σ H D I q⟩
  rw [hbody]
  refine ⟨_, pss_cons (hB ⟨H, fun _ => none, default, none⟩).1 hP, sa, ns, rfl, hS, fun a G H' gh hh => ?_⟩
  obtain ⟨hs', e⟩ := law ns
  refine ⟨⟨H', G, Fh ns, some a⟩, none :: some .hnd :: List.replicate N.length none, Fh ns, G, _, ⟨⟨gh, ?_, fun i d hd _ => ?_, fun i d _ h => absurd h (by simp), fun i j b h => absurd h (by simp), hh⟩, .refl gh hh, fun i b h => absurd h (by simp)⟩, e, fun v G2 H2 c dv => ?_⟩
  · simp [start]
  · rcases i with _ | _ | i
    · simp at hd
    · simp at hd
      subst hd
      exact ⟨.ref a, by simp [start], .hnd rfl⟩
    · simp [List.getElem?_replicate] at hd
  · rw [DV_bl dv]; exact q H2
end L2.VI

/-! VI: plain tools for the laws' mathematics. -/
namespace L2.VI
open PySem PySem.Spec PyProof.Rows L2
open L2.VI (tAnd tOr tNot gName gNil gCons gTup tYes)

/-! ### operators, where they are plain -/
theorem log_lt {j : Int} (h0 : 0 < j) (h1 : j < 18446744073709551616) : j.natAbs.log2 < 9000 := by
  have : j.natAbs < 2 ^ 64 := by omega
  have h2 : j.natAbs ≠ 0 := by omega
  have := (Nat.log2_lt h2).mpr this
  omega
theorem oFdiv_int {i j : Int} (h0 : 0 < j) (h1 : j < 18446744073709551616) : oFdiv (.int i) (.int j) = some (.int (i / j)) := by
  simp [oFdiv, h0, log_lt h0 h1]
theorem oMod_int {i j : Int} (h0 : 0 < j) : oMod (.int i) (.int j) = some (.int (i % j)) := by simp [oMod, h0]
theorem oMul_r {i j : Int} (h0 : 0 ≤ j) (h1 : j < 18446744073709551616) : oMul (.int i) (.int j) = some (.int (i * j)) := by
  have : mulOk i j = true := by unfold mulOk; exact decide_eq_true (.inr (.inl ⟨by omega, by omega⟩))
  simp [oMul, this]
theorem oMul_l {i j : Int} (h0 : 0 ≤ i) (h1 : i < 18446744073709551616) : oMul (.int i) (.int j) = some (.int (i * j)) := by
  have : mulOk i j = true := by unfold mulOk; exact decide_eq_true (.inl ⟨by omega, by omega⟩)
  simp [oMul, this]
theorem oMul_mod {x m j : Int} (h0 : 0 < m) (h1 : m < 18446744073709551616) : oMul (.int (x % m)) (.int j) = some (.int (x % m * j)) := by
  have a1 := Int.emod_nonneg x (show m ≠ 0 by omega)
  have a2 := Int.emod_lt_of_pos x h0
  exact oMul_l a1 (by omega)
theorem oAdd_int {i j : Int} : oAdd (.int i) (.int j) = some (.int (i + j)) := rfl
theorem oSub_int {i j : Int} : oSub (.int i) (.int j) = some (.int (i - j)) := rfl
theorem oInt_int {i : Int} : oInt (.int i) = some (.int i) := rfl
theorem oLeD_int {i j : Int} : oLeD (.int i) (.int j) = some (.bl (decide (i ≤ j))) := rfl
theorem oLtD_int {i j : Int} : oLtD (.int i) (.int j) = some (.bl (decide (i < j))) := rfl
theorem oGeD_int {i j : Int} : oGeD (.int i) (.int j) = some (.bl (decide (j ≤ i))) := rfl
theorem oGtD_int {i j : Int} : oGtD (.int i) (.int j) = some (.bl (decide (j < i))) := rfl
theorem oEq_int {i j : Int} : oEq (.int i) (.int j) = some (.bl (decide (i = j))) := rfl
theorem oNe_int {i j : Int} : oNe (.int i) (.int j) = some (.bl (!decide (i = j))) := rfl
theorem oIx_lst {xs : List D} {i : Nat} {d : D} (h : xs[i]? = some d) : oIx (.lst xs) (.int i) = some d := by
  have := atI_nat (xs := xs) (j := i) h
  simp [oIx, this]
theorem oIx_tup {xs : List D} {i : Nat} {d : D} (h : xs[i]? = some d) : oIx (.tup xs) (.int i) = some d := by
  have := atI_nat (xs := xs) (j := i) h
  simp [oIx, this]

/-! ### loops -/
theorem forL_inv {gf : GF} {body : SF} (I : Nat → Sl → Hnd → Prop) : ∀ (ds : List D) (k : Nat), (∀ i d sl hs, ds[i]? = some d → I (k + i) sl hs → ∃ sl1 sl2 hs2, gf d sl = some sl1 ∧ body sl1 hs = some (.nx sl2 hs2) ∧ I (k + i + 1) sl2 hs2) →
    ∀ sl hs, I k sl hs → ∃ sl' hs', forL gf body ds sl hs = some (.nx sl' hs') ∧ I (k + ds.length) sl' hs'
  | [], k, _, sl, hs, h0 => ⟨sl, hs, rfl, h0⟩
  | d :: ds, k, h, sl, hs, h0 => by
    obtain ⟨sl1, sl2, hs2, e1, e2, h1⟩ := h 0 d sl hs rfl h0
    obtain ⟨sl', hs', e3, h2⟩ := forL_inv I ds (k + 1) (fun i d' sl hs hd hi => by
      have := h (i + 1) d' sl hs (by simpa using hd) (by rwa [show k + (i + 1) = k + 1 + i by omega])
      rwa [show k + (i + 1) + 1 = k + 1 + i + 1 by omega] at this) sl2 hs2 h1
    refine ⟨sl', hs', ?_, by rwa [show k + (d :: ds).length = k + 1 + ds.length by simp; omega]⟩
    unfold forL
    simp only [e1, e2, e3]
/-- a loop over typed items that leaves the hand -/
theorem forL_fold {α σ : Type} {gf : GF} {body : SF} {hs : Hnd} (enc : α → D) (R : σ → Sl → Prop) (step : σ → α → σ) : ∀ (xs : List α), (∀ st sl x, x ∈ xs → R st sl → ∃ sl1 sl2, gf (enc x) sl = some sl1 ∧ body sl1 hs = some (.nx sl2 hs) ∧ R (step st x) sl2) →
    ∀ st sl, R st sl → ∃ sl', forL gf body (xs.map enc) sl hs = some (.nx sl' hs) ∧ R (xs.foldl step st) sl'
  | [], _, st, sl, h0 => ⟨sl, rfl, h0⟩
  | x :: xs, h, st, sl, h0 => by
    obtain ⟨sl1, sl2, e1, e2, h1⟩ := h st sl x List.mem_cons_self h0
    obtain ⟨sl', e3, h2⟩ := forL_fold enc R step xs (fun st sl y hy => h st sl y (List.mem_cons_of_mem _ hy)) _ sl2 h1
    refine ⟨sl', ?_, h2⟩
    rw [List.map_cons]
    unfold forL
    simp only [e1, e2, e3]
/-- a loop that does nothing but look -/
theorem forL_look {α : Type} {gf : GF} {body : SF} {hs : Hnd} (enc : α → D) (R : Sl → Prop) (xs : List α) (h : ∀ sl x, x ∈ xs → R sl → ∃ sl1 sl2, gf (enc x) sl = some sl1 ∧ body sl1 hs = some (.nx sl2 hs) ∧ R sl2) (sl : Sl) (h0 : R sl) :
    ∃ sl', forL gf body (xs.map enc) sl hs = some (.nx sl' hs) ∧ R sl' :=
  forL_fold (σ := Unit) enc (fun _ => R) (fun _ _ => ()) xs (fun _ sl x hx hr => h sl x hx hr) () sl h0
/-- a comprehension that leaves the hand -/
theorem compL_of {α : Type} {gf : GF} {tt : TF} {fe : EF} {sl : Sl} {hs : Hnd} (enc : α → D) (p : α → Bool) (g : α → D) : ∀ (xs : List α), (∀ x ∈ xs, ∃ sl1, gf (enc x) sl = some sl1 ∧ tt sl1 hs = some (p x, hs) ∧ (p x = true → fe sl1 hs = some (g x, hs))) →
    compL gf tt fe sl (xs.map enc) hs = some ((xs.filter p).map g, hs)
  | [], _ => rfl
  | x :: xs, h => by
    obtain ⟨sl1, e1, e2, e3⟩ := h x List.mem_cons_self
    have ih := compL_of enc p g xs fun y hy => h y (List.mem_cons_of_mem _ hy)
    rw [List.map_cons]
    unfold compL
    simp only [e1, e2]
    cases hp : p x with
    | true => simp only [e3 hp, ih, List.filter_cons, hp, if_true, List.map_cons]
    | false => simp only [ih, List.filter_cons, hp, Bool.false_eq_true, if_false]
theorem compL_all {α : Type} {gf : GF} {fe : EF} {sl : Sl} {hs : Hnd} (enc : α → D) (g : α → D) (xs : List α) (h : ∀ x ∈ xs, ∃ sl1, gf (enc x) sl = some sl1 ∧ fe sl1 hs = some (g x, hs)) :
    compL gf tYes fe sl (xs.map enc) hs = some (xs.map g, hs) := by
  have := compL_of (tt := tYes) (gf := gf) (fe := fe) (sl := sl) (hs := hs) enc (fun _ => true) g xs fun x hx => by
    obtain ⟨sl1, e1, e2⟩ := h x hx
    exact ⟨sl1, e1, rfl, fun _ => e2⟩
  rw [this, List.filter_eq_self.mpr (by simp)]

/-! ### dicts by ints -/
def encP {β : Type} (dec : β → D) (f : List (Int × β)) : List (D × D) := f.map fun p => (.int p.1, dec p.2)
def lookA {β : Type} (f : List (Int × β)) (k : Int) : Option β := (f.find? fun p => p.1 == k).map (·.2)
def putA {β : Type} (f : List (Int × β)) (k : Int) (v : β) : List (Int × β) := if (f.any fun p => p.1 == k) = true then f.map (fun p => if (p.1 == k) = true then (p.1, v) else p) else f ++ [(k, v)]
theorem dlook_enc {β : Type} (dec : β → D) (k : Int) : ∀ f : List (Int × β), dlook (encP dec f) (.int k) = (lookA f k).map dec
  | [] => rfl
  | p :: f => by
    have ih := dlook_enc dec k f
    unfold dlook lookA encP at ih ⊢
    rw [List.map_cons, List.find?_cons, List.find?_cons]
    have e : D.eqv (D.int p.1) (D.int k) = (p.1 == k) := (Bool.beq_eq_decide_eq p.1 k).symm
    simp only [e]
    cases p.1 == k with
    | true => rfl
    | false => exact ih
theorem any_enc {β : Type} (dec : β → D) (k : Int) : ∀ f : List (Int × β), ((encP dec f).any fun p => D.eqv p.1 (.int k)) = f.any fun p => p.1 == k
  | [] => rfl
  | p :: f => by
    have ih := any_enc dec k f
    unfold encP at ih ⊢
    rw [List.map_cons, List.any_cons, List.any_cons, ih]
    congr 1
theorem dput_enc {β : Type} (dec : β → D) (f : List (Int × β)) (k : Int) (v : β) : dput (encP dec f) (.int k) (dec v) = encP dec (putA f k v) := by
  unfold dput putA
  rw [any_enc]
  split
  · unfold encP
    rw [List.map_map, List.map_map]
    apply List.map_congr_left
    intro p _
    have e : D.eqv (D.int p.1) (D.int k) = (p.1 == k) := (Bool.beq_eq_decide_eq p.1 k).symm
    show (if D.eqv (D.int p.1) (D.int k) = true then _ else _) = _
    rw [e]
    simp only [Function.comp]
    split <;> rfl
  · unfold encP
    rw [List.map_append]; rfl
theorem lookA_map {β : Type} (k : Int) (v : β) (k' : Int) : ∀ f : List (Int × β), lookA (f.map fun p => if (p.1 == k) = true then (p.1, v) else p) k' = if k = k' ∧ (f.any fun p => p.1 == k) = true then some v else lookA f k'
  | [] => by simp [lookA]
  | p :: f => by
    have ih := lookA_map k v k' f
    unfold lookA at ih ⊢
    rw [List.map_cons, List.find?_cons, List.find?_cons, List.any_cons]
    by_cases h1 : p.1 = k
    · by_cases h2 : k = k'
      · subst h1 h2; simp
      · have e1 : (p.1 == k) = true := by simpa using h1
        have e2 : (p.1 == k') = false := by simp [h1, h2]
        simp only [e1, if_true, e2]
        rw [ih, if_neg (fun z => h2 z.1), if_neg (fun z => h2 z.1)]
    · have e1 : (p.1 == k) = false := by simpa using h1
      simp only [e1, Bool.false_eq_true, if_false, Bool.false_or]
      by_cases h3 : p.1 = k'
      · have e3 : (p.1 == k') = true := by simpa using h3
        have h2 : k ≠ k' := by rintro rfl; exact h1 h3
        simp only [e3]
        rw [if_neg (fun z => h2 z.1)]
      · have e3 : (p.1 == k') = false := by simpa using h3
        simp only [e3]
        exact ih
theorem lookA_put {β : Type} (f : List (Int × β)) (k : Int) (v : β) (k' : Int) : lookA (putA f k v) k' = if k = k' then some v else lookA f k' := by
  unfold putA
  split
  · rename_i h
    rw [lookA_map, h]
    by_cases h2 : k = k' <;> simp [h2]
  · rename_i h
    unfold lookA
    rw [List.find?_append]
    by_cases h2 : k = k'
    · subst h2
      rw [if_pos rfl]
      have : f.find? (fun p => p.1 == k) = none := by
        rw [List.find?_eq_none]
        intro x hx hk
        exact h (List.any_eq_true.mpr ⟨x, hx, hk⟩)
      rw [this]; simp
    · rw [if_neg h2]
      have : ([(k, v)] : List (Int × β)).find? (fun p => p.1 == k') = none := by simp [h2]
      rw [this]; simp
def keysA {β : Type} (f : List (Int × β)) : List Int := f.map (·.1)
theorem keysA_put {β : Type} (f : List (Int × β)) (k : Int) (v : β) : keysA (putA f k v) = if k ∈ keysA f then keysA f else keysA f ++ [k] := by
  unfold putA keysA
  have e : (f.any fun p => p.1 == k) = true ↔ k ∈ f.map (·.1) := by
    simp [List.any_eq_true, List.mem_map]
  by_cases h : k ∈ f.map (·.1)
  · rw [if_pos (e.mpr h), if_pos h, List.map_map]
    apply List.map_congr_left
    intro p _
    simp only [Function.comp]
    split <;> rfl
  · rw [if_neg (fun z => h (e.mp z)), if_neg h, List.map_append]; rfl
theorem lookA_isSome {β : Type} (f : List (Int × β)) (k : Int) : (lookA f k).isSome = true ↔ k ∈ keysA f := by
  unfold lookA keysA
  rw [Option.isSome_map, List.find?_isSome]
  simp [List.mem_map]
theorem keys_enc {β : Type} (dec : β → D) (f : List (Int × β)) : (encP dec f).map (·.1) = (keysA f).map D.int := by
  unfold encP keysA
  rw [List.map_map, List.map_map]; rfl
end L2.VI

/-! VI: rules by which plain functions are worked out; ints, sorted. -/
namespace L2.VI
open PySem PySem.Spec PyProof.Rows L2
section
variable {f g : SF} {e e2 : EF} {t t2 : TF} {sl sl1 : Sl} {hs hs1 hs2 : Hnd} {d x y z : D} {b c : Bool} {i : Nat}
theorem sSeq_eq (h : f sl hs = some (.nx sl1 hs1)) : sSeq f g sl hs = g sl1 hs1 := by unfold sSeq; rw [h]
theorem sSeq_rt (h : f sl hs = some (.rt d hs1)) : sSeq f g sl hs = some (.rt d hs1) := by unfold sSeq; rw [h]
theorem sIf_t (h : t sl hs = some (true, hs1)) : sIf t f g sl hs = f sl hs1 := by unfold sIf; rw [h]
theorem sIf_f (h : t sl hs = some (false, hs1)) : sIf t f g sl hs = g sl hs1 := by unfold sIf; rw [h]
theorem sSet_eq (h : e sl hs = some (d, hs1)) : sSet i e sl hs = some (.nx (sl.set i (some d)) hs1) := by unfold sSet; rw [h]
theorem sExpr_eq (h : e sl hs = some (d, hs1)) : sExpr e sl hs = some (.nx sl hs1) := by unfold sExpr; rw [h]
theorem sRet_eq (h : e sl hs = some (d, hs1)) : sRet e sl hs = some (.rt d hs1) := by unfold sRet; rw [h]
theorem sFor_eq {it : IF} {gf : GF} {ds : List D} (h : it sl hs = some (ds, hs1)) : sFor it gf f sl hs = forL gf f ds sl hs1 := by unfold sFor; rw [h]
theorem eComp_eq {it : IF} {gf : GF} {fe : EF} {vs : List Nat} {ds ys : List D} (h : it sl hs = some (ds, hs1)) (hl : ds.length ≤ 16777216) (h2 : compL gf t fe (wipeS sl vs) ds hs1 = some (ys, hs2)) : eComp it gf t fe vs sl hs = some (.lst ys, hs2) := by
  unfold eComp; rw [h]; simp only [hl, if_true, h2]
theorem eUn_eq {op : D → Option D} (h : e sl hs = some (x, hs1)) (h2 : op x = some z) : eUn op e sl hs = some (z, hs1) := by unfold eUn; rw [h]; simp only [h2, Option.map_some]
theorem eBin_eq {op : D → D → Option D} (h : e sl hs = some (x, hs1)) (h1 : e2 sl hs1 = some (y, hs2)) (h2 : op x y = some z) : eBin op e e2 sl hs = some (z, hs2) := by unfold eBin; rw [h]; simp only [h1, h2, Option.map_some]
theorem eCall_eq {F : FF} {a : AF} {ds : List D} (h : a sl hs = some (ds, hs1)) : eCall F a sl hs = F ds hs1 := by unfold eCall; rw [h]
theorem tV_eq (h : e sl hs = some (.bl b, hs1)) : tV e sl hs = some (b, hs1) := by unfold tV; rw [h]
theorem tNot_eq (h : t sl hs = some (b, hs1)) : VI.tNot t sl hs = some (!b, hs1) := by unfold VI.tNot; rw [h]
theorem tAnd_f (h : t sl hs = some (false, hs1)) : VI.tAnd t t2 sl hs = some (false, hs1) := by unfold VI.tAnd; rw [h]
theorem tAnd_t (h : t sl hs = some (true, hs1)) : VI.tAnd t t2 sl hs = t2 sl hs1 := by unfold VI.tAnd; rw [h]
theorem tOr_f (h : t sl hs = some (false, hs1)) : VI.tOr t t2 sl hs = t2 sl hs1 := by unfold VI.tOr; rw [h]
theorem tOr_t (h : t sl hs = some (true, hs1)) : VI.tOr t t2 sl hs = some (true, hs1) := by unfold VI.tOr; rw [h]
theorem eIf_t (h : t sl hs = some (true, hs1)) : eIf t e e2 sl hs = e sl hs1 := by unfold eIf; rw [h]
theorem eIf_f (h : t sl hs = some (false, hs1)) : eIf t e e2 sl hs = e2 sl hs1 := by unfold eIf; rw [h]
theorem fnF_rt {n : Nat} {ds : List D} (h : f (ds.map some ++ List.replicate (n - ds.length) none) hs = some (.rt d hs1)) : fnF n f ds hs = some (d, hs1) := by unfold fnF; rw [h]
theorem fnF_nx {n : Nat} {ds : List D} (h : f (ds.map some ++ List.replicate (n - ds.length) none) hs = some (.nx sl1 hs1)) : fnF n f ds hs = some (.non, hs1) := by unfold fnF; rw [h]
theorem aCons_eq {a : AF} {ds : List D} (h : e sl hs = some (x, hs1)) (h2 : a sl hs1 = some (ds, hs2)) : aCons e a sl hs = some (x :: ds, hs2) := by unfold aCons; rw [h]; simp only [h2]
theorem aNil_eq : aNil sl hs = some ([], hs) := rfl
theorem eAp_eq {op : List D → Option D} {a : AF} {ds : List D} (h : a sl hs = some (ds, hs1)) (h2 : op ds = some z) : eAp op a sl hs = some (z, hs1) := by unfold eAp; rw [h]; simp only [h2, Option.map_some]
theorem iSeq_tup {xs : List D} (h : e sl hs = some (.tup xs, hs1)) : iSeq e sl hs = some (xs, hs1) := by unfold iSeq; rw [h]; rfl
theorem iSeq_lst {xs : List D} (h : e sl hs = some (.lst xs, hs1)) : iSeq e sl hs = some (xs, hs1) := by unfold iSeq; rw [h]; rfl
theorem iEn_lst {xs : List D} (h : e sl hs = some (.lst xs, hs1)) : iEn e sl hs = some (enumF 0 xs, hs1) := by unfold iEn; rw [h]; rfl
theorem iEn_tup {xs : List D} (h : e sl hs = some (.tup xs, hs1)) : iEn e sl hs = some (enumF 0 xs, hs1) := by unfold iEn; rw [h]; rfl
theorem iZp_eq {xs ys : List D} (h : e sl hs = some (x, hs1)) (h1 : e2 sl hs1 = some (y, hs2)) (hx : seqD x = some xs) (hy : seqD y = some ys) : iZp e e2 sl hs = some ((xs.zip ys).map fun p => .tup [p.1, p.2], hs2) := by unfold iZp; rw [h]; simp only [h1, hx, hy]
theorem iR1_eq {n : Int} (h : e sl hs = some (.int n, hs1)) (h0 : 0 ≤ n) (h2 : n < 4611686018427387904) : iR1 e sl hs = some ((List.range n.toNat).map fun k => .int (k : Nat), hs1) := by
  unfold iR1; rw [h]
  have : smallI n = true := by unfold smallI; exact decide_eq_true ⟨by omega, by omega⟩
  simp only [this, if_true, rng, Int.zero_add]
theorem iR2_eq {m n : Int} (h : e sl hs = some (.int m, hs1)) (h1 : e2 sl hs1 = some (.int n, hs2)) (h0 : -4611686018427387904 ≤ m ∧ m < 4611686018427387904) (h2 : -4611686018427387904 ≤ n ∧ n < 4611686018427387904) : iR2 e e2 sl hs = some ((List.range (n - m).toNat).map fun k => .int (m + (k : Nat)), hs2) := by
  unfold iR2; rw [h]; simp only [h1]
  have a : smallI m = true := by unfold smallI; exact decide_eq_true ⟨by omega, by omega⟩
  have b : smallI n = true := by unfold smallI; exact decide_eq_true ⟨by omega, by omega⟩
  simp only [a, b, Bool.and_self, if_true, rng]
end

/-- a loop over typed items, with what has gone ahead -/
theorem forL_pre {α σ : Type} {gf : GF} {body : SF} {hs : Hnd} (enc : α → D) (R : σ → Sl → Prop) (step : σ → α → σ) (st0 : σ) (xs : List α) (h : ∀ pre x post sl, xs = pre ++ x :: post → R (pre.foldl step st0) sl → ∃ sl1 sl2, gf (enc x) sl = some sl1 ∧ body sl1 hs = some (.nx sl2 hs) ∧ R (step (pre.foldl step st0) x) sl2) :
    ∀ sl, R st0 sl → ∃ sl', forL gf body (xs.map enc) sl hs = some (.nx sl' hs) ∧ R (xs.foldl step st0) sl' := by
  have q : ∀ (ys pre : List α) (sl : Sl), xs = pre ++ ys → R (pre.foldl step st0) sl → ∃ sl', forL gf body (ys.map enc) sl hs = some (.nx sl' hs) ∧ R ((pre ++ ys).foldl step st0) sl' := by
    intro ys
    induction ys with
    | nil => intro pre sl e h0; exact ⟨sl, rfl, by simpa using h0⟩
    | cons y ys ih =>
      intro pre sl e h0
      obtain ⟨sl1, sl2, e1, e2, h1⟩ := h pre y ys sl e h0
      obtain ⟨sl', e3, h2⟩ := ih (pre ++ [y]) sl2 (by rw [e]; simp) (by rw [List.foldl_append]; exact h1)
      refine ⟨sl', ?_, by simpa using h2⟩
      rw [List.map_cons]
      unfold forL
      simp only [e1, e2, e3]
  intro sl h0
  have := q xs [] sl rfl h0
  simpa using this
theorem putA_length {β : Type} (f : List (Int × β)) (k : Int) (v : β) : (putA f k v).length ≤ f.length + 1 := by
  unfold putA
  split
  · simp
  · simp
theorem zip_range (n : Nat) : (List.range n).zipIdx = (List.range n).map fun k => (k, k) := by
  apply List.ext_getElem?
  intro j
  rw [List.getElem?_zipIdx, List.getElem?_map]
  by_cases h : j < n
  · rw [List.getElem?_range h]; simp
  · rw [List.getElem?_eq_none (by simpa using h)]; rfl
/-! ### lists of ints and the like -/
theorem sh_ints (n : Nat) : ∀ ns : List Int, shs n (ns.map D.int) = true
  | [] => rfl
  | i :: ns => by simp only [List.map_cons, shs, sh_ints n ns, Bool.and_true]; cases n <;> rfl
theorem sh_int (n : Nat) (i : Int) : sh n (.int i) = true := by cases n <;> rfl
theorem sh_non (n : Nat) : sh n .non = true := by cases n <;> rfl
theorem sh_bl (n : Nat) (b : Bool) : sh n (.bl b) = true := by cases n <;> rfl
theorem shs_map {α : Type} (n : Nat) (f : α → D) (h : ∀ a, sh n (f a) = true) : ∀ l : List α, shs n (l.map f) = true
  | [] => rfl
  | a :: l => by simp only [List.map_cons, shs, h a, shs_map n f h l, Bool.and_self]
theorem sh_tup {n : Nat} {xs : List D} (h : shs n xs = true) : sh (n + 1) (.tup xs) = true := by simpa [sh] using h
theorem sh_lst {n : Nat} {xs : List D} (h : shs n xs = true) : sh (n + 1) (.lst xs) = true := by simpa [sh] using h
theorem eqvs_ints : ∀ xs ys : List Int, D.eqvs (xs.map D.int) (ys.map D.int) = decide (xs = ys)
  | [], [] => rfl
  | [], _ :: _ => by simp [D.eqvs]
  | _ :: _, [] => by simp [D.eqvs]
  | x :: xs, y :: ys => by
    simp only [List.map_cons, D.eqvs, D.eqv, eqvs_ints xs ys]
    rw [← Bool.decide_and]; exact decide_eq_decide.mpr (by simp)
mutual
theorem eqv_refl : ∀ (n : Nat) (d : D), sh n d = true → D.eqv d d = true
  | n, .non, _ => rfl
  | n, .bl _, _ => by simp [D.eqv]
  | n, .int _, _ => by simp [D.eqv]
  | n, .str _, _ => by simp [D.eqv]
  | 0, .tup _, h => by simp [sh] at h
  | n + 1, .tup xs, h => by simp only [D.eqv]; exact eqvs_refl n xs (by simpa [sh] using h)
  | 0, .lst _, h => by simp [sh] at h
  | n + 1, .lst xs, h => by simp only [D.eqv]; exact eqvs_refl n xs (by simpa [sh] using h)
  | n, .dct _ _, h => by simp [sh] at h
  | n, .hnd, h => by simp [sh] at h
theorem eqvs_refl : ∀ (n : Nat) (xs : List D), shs n xs = true → D.eqvs xs xs = true
  | n, [], _ => rfl
  | n, x :: xs, h => by
    simp only [shs, Bool.and_eq_true] at h
    simp only [D.eqvs, eqv_refl n x h.1, eqvs_refl n xs h.2, Bool.and_self]
end
theorem oNe_same {d : D} (h : sh 64 d = true) : oNe d d = some (.bl false) := by simp [oNe, h, eqv_refl 64 d h]
theorem oEq_same {d : D} (h : sh 64 d = true) : oEq d d = some (.bl true) := by simp [oEq, h, eqv_refl 64 d h]
theorem all_true {α : Type} (xs : List α) : oAll (.lst (xs.map fun _ => .bl true)) = some (.bl true) := by
  have e : (xs.map fun _ => D.bl true) = (xs.map fun _ => true).map D.bl := by rw [List.map_map]; rfl
  simp only [oAll, e, blsOf_map, Option.map_some]
  congr 2
  simp
theorem all_map {α : Type} (p : α → Bool) (xs : List α) : oAll (.lst (xs.map fun x => .bl (p x))) = some (.bl (xs.all p)) := by
  have e : (xs.map fun x => D.bl (p x)) = (xs.map p).map D.bl := by rw [List.map_map]; rfl
  simp only [oAll, e, blsOf_map, Option.map_some]
  congr 2
  simp [List.all_map, Function.comp]
theorem okSort_ints {ns : List Int} (h : ns.length ≤ 16777216) : okSort (ns.map D.int) = true := by
  unfold okSort
  simp only [Bool.and_eq_true, decide_eq_true_eq, List.length_map, List.all_map, List.all_eq_true, Function.comp, Bool.or_eq_true]
  exact ⟨h, fun x _ => sh_int 60 x, fun x _ y _ => rfl, .inr fun x _ => rfl⟩
theorem sort_ints (ns : List Int) : (ns.map D.int).mergeSort dLe = (ns.mergeSort fun a b => decide (a ≤ b)).map D.int := by
  rw [List.map_mergeSort]
  intro a _ b _
  show decide (a ≤ b) = !decide (b < a)
  by_cases h : a ≤ b
  · rw [decide_eq_true h, decide_eq_false (by omega)]; rfl
  · rw [decide_eq_false h, decide_eq_true (by omega)]; rfl
theorem sorted_ints (ns : List Int) : (ns.mergeSort fun a b => decide (a ≤ b)).Pairwise (· ≤ ·) := by
  have := List.pairwise_mergeSort (le := fun a b : Int => decide (a ≤ b)) (fun a b c h1 h2 => by simp only [decide_eq_true_eq] at *; omega) (fun a b => by simp only [Bool.or_eq_true, decide_eq_true_eq]; omega) ns
  exact this.imp fun h => by simpa using h
/-- two rising lists of the same numbers -/
theorem rise_eq : ∀ (xs ys : List Int), xs.Pairwise (· < ·) → ys.Pairwise (· < ·) → (∀ z, z ∈ xs ↔ z ∈ ys) → xs = ys
  | [], [], _, _, _ => rfl
  | [], y :: ys, _, _, h => by have := (h y).mpr (by simp); simp at this
  | x :: xs, [], _, _, h => by have := (h x).mp (by simp); simp at this
  | x :: xs, y :: ys, hx, hy, h => by
    rw [List.pairwise_cons] at hx hy
    have e : x = y := by
      rcases List.mem_cons.mp ((h x).mp (by simp)) with e | m
      · exact e
      · rcases List.mem_cons.mp ((h y).mpr (by simp)) with e | m2
        · exact e.symm
        · have := hy.1 x m
          have := hx.1 y m2
          omega
    subst e
    congr 1
    refine rise_eq xs ys hx.2 hy.2 fun z => ⟨fun m => ?_, fun m => ?_⟩
    · rcases List.mem_cons.mp ((h z).mp (List.mem_cons_of_mem _ m)) with e | m2
      · have := hx.1 z m; omega
      · exact m2
    · rcases List.mem_cons.mp ((h z).mpr (List.mem_cons_of_mem _ m)) with e | m2
      · have := hy.1 z m; omega
      · exact m2
theorem sort_nodup {ns : List Int} (h : ns.Nodup) : (ns.mergeSort fun a b => decide (a ≤ b)).Pairwise (· < ·) := by
  have p := List.mergeSort_perm ns fun a b => decide (a ≤ b)
  have nd : (ns.mergeSort fun a b => decide (a ≤ b)).Nodup := p.nodup_iff.mpr h
  have s := sorted_ints ns
  exact (List.Pairwise.and s nd).imp fun ⟨h1, h2⟩ => by omega
theorem sort_mem {ns : List Int} {z : Int} : z ∈ (ns.mergeSort fun a b => decide (a ≤ b)) ↔ z ∈ ns := List.mem_mergeSort
theorem enumF_map {α : Type} (f : α → D) : ∀ (xs : List α) (i : Nat), enumF i (xs.map f) = (xs.zipIdx i).map fun p => .tup [.int (p.2 : Nat), f p.1]
  | [], _ => rfl
  | x :: xs, i => by rw [List.map_cons, enumF, List.zipIdx_cons, List.map_cons, enumF_map f xs (i + 1)]
theorem zip_tail {α : Type} (f : α → D) (xs : List α) : (((xs.map f).zip ((xs.map f).drop 1)).map fun p => D.tup [p.1, p.2]) = (xs.zip (xs.drop 1)).map fun p => .tup [f p.1, f p.2] := by
  rw [← List.map_drop, List.zip_map, List.map_map]; rfl
theorem cut_1 {α : Type} (xs : List α) : cut xs (some 1) none = xs.drop 1 := by
  unfold cut
  rw [HT.sIx_none, show HT.sIx xs.length 0 (some 1) = min 1 xs.length from HT.sIx_nat xs.length 0 1]
  cases xs with
  | nil => rfl
  | cons x r =>
    have : min 1 (x :: r).length = 1 := by rw [List.length_cons]; omega
    rw [this]
    rw [List.take_of_length_le (by rw [List.length_drop]; exact Nat.le_refl _)]
end L2.VI

/-! VI: list(x), defs that call themselves, pairs stored with own lists, three at once. -/
namespace L2.VI
open PySem PySem.Spec PyProof.Rows L2
section
variable {X : Cx} {B : Bs} {O O' L : List Nat} {a b c e : Expr} {fa fb fc fe : EF} {pos : Pos}
/-! ### list(x) -/
def oList : List D → Option D
  | [.lst xs] => some (.lst xs)
  | [.tup xs] => some (.lst xs)
  | _ => none
theorem calln_list : CallN X (.type "list") oList := by
  intro pins s σ H xs us Q I r ⟨G, ho, hs, ds, z, gh, hh, dv, ez, k⟩
  unfold oList at ez
  split at ez
  · cases ez
    cases dv with
    | cons d1 d2 =>
      cases d2
      cases d1 with
      | @lst a vs _ h1 h2 =>
        exact call_list_of pins s σ H _ us Q I r ⟨a, vs, rfl, .inl (SqL.of (gh _ _ h1)), fun p hp => k p G _ (laidH gh hh hp) hp (G_none gh hp) (ho_ne hh hp) ⟨vs, upd_same, h2⟩⟩
  · cases ez
    cases dv with
    | cons d1 d2 =>
      cases d2
      cases d1 with
      | @tup a vs _ h1 h2 =>
        exact call_list_of pins s σ H _ us Q I r ⟨a, vs, rfl, .inr (SqT.of (gh _ _ h1)), fun p hp => k p G _ (laidH gh hh hp) hp (G_none gh hp) (ho_ne hh hp) ⟨vs, upd_same, h2⟩⟩
  · cases ez
/-! ### nothing is promised -/
theorem qss_never {sts : List Stmt} : QSs X B O O' L sts sNever := ⟨⟨fun pins s σ H D I ⟨sl, hs, G, o, r, q, k⟩ => by cases q⟩⟩
/-! ### three at once -/
theorem qs_par3 (i j l : Nat) {x y z : Str} {f : AF} {px py pz pt p2 : Pos} {kt k2} (hc : X.calm = true) (hN : X.N.Nodup) (ha : QA X O [a, b, c] f) (hi : X.N[i]? = some x := by rfl) (hj : X.N[j]? = some y := by rfl) (hl : X.N[l]? = some z := by rfl) (hij : i ≠ j := by decide) (hil : i ≠ l := by decide) (hjl : j ≠ l := by decide)
    (hx : X.env.scope.names.lookup x = some .local := by rfl) (hy : X.env.scope.names.lookup y = some .local := by rfl) (hz : X.env.scope.names.lookup z = some .local := by rfl)
    (hw : swappedStores [.Tuple [.Name x px, .Name y py, .Name z pz] kt pt] (.Tuple [a, b, c] k2 p2) X.env = pure (some [x, y, z]) := by rfl)
    (hs : swapsWithSole [.Tuple [.Name x px, .Name y py, .Name z pz] kt pt] (.Tuple [a, b, c] k2 p2) pos.line X.env = pure false := by rfl) :
    QS X B O (rm (rm (rm O i) j) l) L (.Assign [.Tuple [.Name x px, .Name y py, .Name z pz] kt pt] (.Tuple [a, b, c] k2 p2) pos) (sPar3 i j l f) :=
  ⟨PS.imp (ps_par3 hc hN hi hj hl hij hil hjl hx hy hz ha.pa hw hs) fun D σ H ⟨sl, hs, G, o, r, q, k⟩ => by
    unfold sPar3 at q
    split at q
    · rename_i d1 d2 d3 hs1 e1
      cases q
      refine ⟨_, sl, hs, G, _, hs1, r.rl, e1, fun vs G1 H1 c1 dv => ?_⟩
      cases dv with
      | cons h1 h2 =>
        cases h2 with
        | cons h2 h3 =>
          cases h3 with
          | cons h3 h4 =>
            cases h4
            exact ⟨_, _, _, rfl, k _ G1 H1 c1.g ((((r.after c1).set i h1).set j h2).set l h3)⟩
    · cases q⟩
/-! ### pairs, one of them an own list -/
theorem qs_own1 (i j : Nat) {x y : Str} {px py pt p2 : Pos} {kt k2} (hc : X.calm = true) (hN : X.N.Nodup) (ha : QN X O a fa) (hb : QE X O b fb) (hi : X.N[i]? = some x := by rfl) (hj : X.N[j]? = some y := by rfl) (hij : i ≠ j := by decide)
    (hx : X.env.scope.names.lookup x = some .local := by rfl) (hy : X.env.scope.names.lookup y = some .local := by rfl)
    (hw : swappedStores [.Tuple [.Name x px, .Name y py] kt pt] (.Tuple [a, b] k2 p2) X.env = pure (some [x, y]) := by rfl)
    (hs : swapsWithSole [.Tuple [.Name x px, .Name y py] kt pt] (.Tuple [a, b] k2 p2) pos.line X.env = pure false := by rfl)
    (he1 : starEach [a, b] X.env = (false, eval a X.env) :: starEach [b] X.env := by rfl) (he2 : starEach [b] X.env = (false, eval b X.env) :: starEach [] X.env := by rfl) :
    QS X B O (rm (i :: rm O i) j) L (.Assign [.Tuple [.Name x px, .Name y py] kt pt] (.Tuple [a, b] k2 p2) pos) (sPar2 i j (aCons fa (aCons fb aNil))) :=
  ⟨PS.imp (ps_par hc hN hi hj hij hx hy (pa_cons ha.pe (pa_cons hb.pe pa_nil he2) he1) hw hs) fun D σ H ⟨sl, hs, G, o, r, q, k⟩ => by
    unfold sPar2 at q
    split at q
    · rename_i d1 d2 hs2 e1
      cases q
      obtain ⟨y1, hs1, ys, q1, q2, q3⟩ := aCons_some e1
      cases q3
      obtain ⟨y2, hs3, zs, q4, q5, q6⟩ := aCons_some q2
      cases q6; cases q5
      refine ⟨_, sl, hs, G, _, hs1, r.rl, q1, fun p G1 H1 c1 h0 hg hn w => ⟨_, sl, hs1, G1, _, _, (r.after c1).rl, q4, fun v2 G2 H2 c2 d2 => ?_⟩⟩
      obtain ⟨u, hu⟩ := w.some
      have w2 : OwnAt X.K B.ha G2 (H2 p) d1 := by rw [c2.frame p u hu hn, ← hu]; exact w.mono c2.g
      have hg2 : G2 p = none := c2.fresh p u hu (by rw [hu] at w; exact w.notTup) hg
      have c12 := c1.trans c2
      exact ⟨_, _, rfl, k _ G2 H2 c12.g (((r.after c12).setN i hg2 (r.ce.new h0) hn w2 fun m hm z1 z2 => r.new_ne h0 m hm z1 z2).set j d2)⟩
    · cases q⟩
theorem qs_own2 (i j : Nat) {x y : Str} {px py pt p2 : Pos} {kt k2} (hc : X.calm = true) (hN : X.N.Nodup) (ha : QE X O a fa) (hb : QN X O b fb) (hi : X.N[i]? = some x := by rfl) (hj : X.N[j]? = some y := by rfl) (hij : i ≠ j := by decide)
    (hx : X.env.scope.names.lookup x = some .local := by rfl) (hy : X.env.scope.names.lookup y = some .local := by rfl)
    (hw : swappedStores [.Tuple [.Name x px, .Name y py] kt pt] (.Tuple [a, b] k2 p2) X.env = pure (some [x, y]) := by rfl)
    (hs : swapsWithSole [.Tuple [.Name x px, .Name y py] kt pt] (.Tuple [a, b] k2 p2) pos.line X.env = pure false := by rfl)
    (he1 : starEach [a, b] X.env = (false, eval a X.env) :: starEach [b] X.env := by rfl) (he2 : starEach [b] X.env = (false, eval b X.env) :: starEach [] X.env := by rfl) :
    QS X B O (j :: rm (rm O i) j) L (.Assign [.Tuple [.Name x px, .Name y py] kt pt] (.Tuple [a, b] k2 p2) pos) (sPar2 i j (aCons fa (aCons fb aNil))) :=
  ⟨PS.imp (ps_par hc hN hi hj hij hx hy (pa_cons ha.pe (pa_cons hb.pe pa_nil he2) he1) hw hs) fun D σ H ⟨sl, hs, G, o, r, q, k⟩ => by
    unfold sPar2 at q
    split at q
    · rename_i d1 d2 hs2 e1
      cases q
      obtain ⟨y1, hs1, ys, q1, q2, q3⟩ := aCons_some e1
      cases q3
      obtain ⟨y2, hs3, zs, q4, q5, q6⟩ := aCons_some q2
      cases q6; cases q5
      refine ⟨_, sl, hs, G, _, hs1, r.rl, q1, fun v G1 H1 c1 d1 => ⟨_, sl, hs1, G1, _, _, (r.after c1).rl, q4, fun p G2 H2 c2 h0 hg hn w => ?_⟩⟩
      have c12 := c1.trans c2
      have h00 := c1.new h0
      have r2 := (r.after c12).set i (d1.mono c2.g _ _)
      have r1 := (r.after c1).set i d1
      exact ⟨_, _, rfl, k _ G2 H2 c12.g (r2.setN j hg (r.ce.new h00) hn w fun m hm z1 z2 => r1.new_ne h0 m hm z1 z2)⟩
    · cases q⟩
end
end L2.VI

/-! VI: comprehensions that draw; items that may be none. -/
namespace L2.VI
open PySem PySem.Spec PyProof.Rows L2
inductive All2 {α β : Type} (R : α → β → Prop) : List α → List β → Prop
  | nil : All2 R [] []
  | cons {a : α} {b : β} {as : List α} {bs : List β} : R a b → All2 R as bs → All2 R (a :: as) (b :: bs)
theorem All2.length {α β : Type} {R : α → β → Prop} : ∀ {as : List α} {bs : List β}, All2 R as bs → as.length = bs.length
  | _, _, .nil => rfl
  | _, _, .cons _ h => by rw [List.length_cons, List.length_cons, h.length]
theorem All2.get {α β : Type} {R : α → β → Prop} : ∀ {as : List α} {bs : List β} {k : Nat} {a : α} {b : β}, All2 R as bs → as[k]? = some a → bs[k]? = some b → R a b
  | _, _, _, _, _, .nil, h, _ => by simp at h
  | _, _, 0, _, _, .cons r _, h, h2 => by simp at h h2; subst h h2; exact r
  | _, _, k + 1, _, _, .cons _ t, h, h2 => t.get (k := k) (by simpa using h) (by simpa using h2)
theorem All2.right {α β : Type} {R : α → β → Prop} {P : β → Prop} (hP : ∀ a b, R a b → P b) : ∀ {as : List α} {bs : List β}, All2 R as bs → ∀ b ∈ bs, P b
  | _, _, .nil, b, h => by simp at h
  | _, _, .cons r t, b, h => by
    rcases List.mem_cons.mp h with rfl | h
    · exact hP _ _ r
    · exact t.right hP b h
theorem compL_draw {α β : Type} {gf : GF} {fe : EF} {sl : Sl} (enc : α → D) (dec : β → D) (R : α → β → Prop) : ∀ xs : List α, (∀ x ∈ xs, ∀ hs, ∃ sl1 y hs', gf (enc x) sl = some sl1 ∧ fe sl1 hs = some (dec y, hs') ∧ R x y) →
    ∀ hs, ∃ ys hs', compL gf tYes fe sl (xs.map enc) hs = some (ys.map dec, hs') ∧ All2 R xs ys
  | [], _, hs => ⟨[], hs, rfl, .nil⟩
  | x :: xs, h, hs => by
    obtain ⟨sl1, y, h1, e1, e2, r⟩ := h x List.mem_cons_self hs
    obtain ⟨ys, h2, e3, a⟩ := compL_draw enc dec R xs (fun z hz => h z (List.mem_cons_of_mem _ hz)) h1
    refine ⟨y :: ys, h2, ?_, .cons r a⟩
    rw [List.map_cons]
    unfold compL
    simp only [e1, tYes, e2, e3, List.map_cons]
def optI : Option Int → D
  | some v => .int v
  | none => .non
theorem optI_is (o : Option Int) : oIs (optI o) .non = some (.bl !o.isSome) := by cases o <;> rfl
theorem optI_isNot (o : Option Int) : oIsNot (optI o) .non = some (.bl o.isSome) := by cases o <;> rfl
theorem optI_sh (n : Nat) (o : Option Int) : sh n (optI o) = true := by cases o <;> cases n <;> rfl
theorem optI_ne (o p : Option Int) : oNe (optI o) (optI p) = some (.bl (decide (o ≠ p))) := by
  unfold oNe
  rw [optI_sh, optI_sh]
  cases o with
  | none =>
    cases p with
    | none => rfl
    | some p => rfl
  | some o =>
    cases p with
    | none => rfl
    | some p =>
      show some (D.bl (!decide (o = p))) = _
      congr 2
      by_cases h : o = p <;> simp [h]
theorem optI_eq (o p : Option Int) : oEq (optI o) (optI p) = some (.bl (decide (o = p))) := by
  unfold oEq
  rw [optI_sh, optI_sh]
  cases o with
  | none =>
    cases p with
    | none => rfl
    | some p => rfl
  | some o =>
    cases p with
    | none => rfl
    | some p =>
      show some (D.bl (decide (o = p))) = _
      congr 2
      by_cases h : o = p <;> simp [h]
theorem zip_maps {α β : Type} (f : α → D) (g : β → D) (xs : List α) (ys : List β) : (((xs.map f).zip (ys.map g)).map fun p => D.tup [p.1, p.2]) = (xs.zip ys).map fun p => .tup [f p.1, g p.2] := by
  rw [List.zip_map, List.map_map]; rfl
end L2.VI

namespace Law
open PySem PySem.Spec PyProof.Rows L2 L2.VI
open L2.VI (tAnd tOr tNot gName gNil gCons gTup tYes)
def topS (i : Nat) : Stmt := PySem.Challenge.pw_fewclues_k67_whole_words_that_tell_faces.main.body.getD i (.Pass ⟨0, 0, 0, 0⟩)
/-- what the walks need of the module: the built-ins are still the built-ins, the constants -/
structure Txt (mg : Str → Option Value) : Prop where
  b_abs : mg "abs" = none
  b_all : mg "all" = none
  b_any : mg "any" = none
  b_bool : mg "bool" = none
  b_dict : mg "dict" = none
  b_enumerate : mg "enumerate" = none
  b_int : mg "int" = none
  b_isinstance : mg "isinstance" = none
  b_len : mg "len" = none
  b_list : mg "list" = none
  b_min : mg "min" = none
  b_range : mg "range" = none
  b_str : mg "str" = none
  b_tuple : mg "tuple" = none
  b_zip : mg "zip" = none
  g_GREATEST : ∃ t, mg "GREATEST" = some (.int 4 t)
  g_MOST : ∃ t, mg "MOST" = some (.int 8 t)
  g_MOST_MARKS : ∃ t, mg "MOST_MARKS" = some (.int 6 t)
section
variable {P : Program} {w : World} {K : PySem.W.Frag} {mg : Str → Option Value} {base : Heap}
abbrev s_is_integer : Stmt := topS 1
theorem sc_is_integer : FnScope ["thing"] ["thing"] (defScope s_is_integer) := ⟨rfl, rfl, rfl, by decide +kernel, rfl, by decide +kernel, by decide +kernel⟩
def B_is_integer : SF := (sRet (eIf (tV (eUn (oIsi ["int"]) (eVar 0))) (eT (tNot (tV (eUn (oIsi ["bool"]) (eVar 0))))) (eC (.bl false))))
def F_is_integer : FF := fnF 1 B_is_integer
theorem cl_is_integer (T : Txt mg) {f : Addr} {fd : FuncData} (F : Fun K "is_integer" "is_integer" s_is_integer f fd) (hm : mg "is_integer" = some (.ref f)) (hb : Binds K fd ["thing"] []) : Cl P w K mg base 1 "is_integer" 1 F_is_integer :=
  cl_mk (bf := B_is_integer) (N := ["thing"]) F hm hb sc_is_integer rfl (by decide) fun cdv A outer s H E B hr => (qss_one (qs_ret (qe_and (qe_isi "int" T.b_isinstance T.b_int (qe_var 0)) (qe_one (qe_not (qe_isi "bool" T.b_isinstance T.b_bool (qe_var 0)))))))
abbrev s_is_within : Stmt := topS 2
theorem sc_is_within : FnScope ["thing", "low", "high"] ["thing", "low", "high"] (defScope s_is_within) := ⟨rfl, rfl, rfl, by decide +kernel, rfl, by decide +kernel, by decide +kernel⟩
def B_is_within : SF := (sRet (eIf (tV (eCall F_is_integer (aCons (eVar 0) aNil))) (eChain oLeD oLeD (eVar 1) (eVar 0) (eVar 2)) (eC (.bl false))))
def F_is_within : FF := fnF 3 B_is_within
theorem cl_is_within (T : Txt mg) (c_is_integer : Cl P w K mg base 1 "is_integer" 1 F_is_integer) {f : Addr} {fd : FuncData} (F : Fun K "is_within" "is_within" s_is_within f fd) (hm : mg "is_within" = some (.ref f)) (hb : Binds K fd ["thing", "low", "high"] []) : Cl P w K mg base 2 "is_within" 3 F_is_within :=
  cl_mk (bf := B_is_within) (N := ["thing", "low", "high"]) F hm hb sc_is_within rfl (by decide) fun cdv A outer s H E B hr => (qss_one (qs_ret (qe_and (qe_call c_is_integer hr (qa_cons (qe_var 0) qa_nil)) (qe_one (qe_chain (opd_le hr.units) (opd_le hr.units) (qe_var 1) (qe_var 0) (qe_var 2))))))
abbrev s_is_tuple : Stmt := topS 3
theorem sc_is_tuple : FnScope ["thing", "least", "most"] ["thing", "least", "most"] (defScope s_is_tuple) := ⟨rfl, rfl, rfl, by decide +kernel, rfl, by decide +kernel, by decide +kernel⟩
def B_is_tuple : SF := (sRet (eIf (tV (eUn (oIsi ["tuple"]) (eVar 0))) (eChain oLeD oLeD (eVar 1) (eUn oLen (eVar 0)) (eVar 2)) (eC (.bl false))))
def F_is_tuple : FF := fnF 3 B_is_tuple
theorem cl_is_tuple (T : Txt mg) {f : Addr} {fd : FuncData} (F : Fun K "is_tuple" "is_tuple" s_is_tuple f fd) (hm : mg "is_tuple" = some (.ref f)) (hb : Binds K fd ["thing", "least", "most"] []) : Cl P w K mg base 1 "is_tuple" 3 F_is_tuple :=
  cl_mk (bf := B_is_tuple) (N := ["thing", "least", "most"]) F hm hb sc_is_tuple rfl (by decide) fun cdv A outer s H E B hr => (qss_one (qs_ret (qe_and (qe_isi "tuple" T.b_isinstance T.b_tuple (qe_var 0)) (qe_one (qe_chain (opd_le hr.units) (opd_le hr.units) (qe_var 1) (qe_len T.b_len (qr_e (qe_var 0))) (qe_var 2))))))
abbrev s_is_lot : Stmt := topS 4
theorem sc_is_lot : FnScope ["thing", "many", "one", "other"] ["thing", "many"] (defScope s_is_lot) := ⟨rfl, rfl, rfl, by decide +kernel, rfl, by decide +kernel, by decide +kernel⟩
def B_is_lot : SF := (sSeq (sIf (tOr (tNot (tV (eUn (oIsi ["tuple"]) (eVar 0)))) (tNot (tV (eUn oAll (eComp (iSeq (eVar 0)) (gName 2) tYes (eCall F_is_within (aCons (eVar 2) (aCons (eC (.int 0)) (aCons (eBin oSub (eVar 1) (eC (.int 1))) aNil)))) [2]))))) (sRet (eC (.bl false))) sNil) (sRet (eUn oAll (eComp (iZp (eVar 0) (eSl (eVar 0) (pSome (eC (.int 1))) pNone)) (gTup 2 (gCons (gName 2) (gCons (gName 3) gNil))) tYes (eBin oLtD (eVar 2) (eVar 3)) [2, 3]))))
def F_is_lot : FF := fnF 4 B_is_lot
theorem cl_is_lot (T : Txt mg) (c_is_within : Cl P w K mg base 2 "is_within" 3 F_is_within) {f : Addr} {fd : FuncData} (F : Fun K "is_lot" "is_lot" s_is_lot f fd) (hm : mg "is_lot" = some (.ref f)) (hb : Binds K fd ["thing", "many"] []) : Cl P w K mg base 3 "is_lot" 2 F_is_lot :=
  cl_mk (bf := B_is_lot) (N := ["thing", "many", "one", "other"]) F hm hb sc_is_lot rfl (by decide) fun cdv A outer s H E B hr => (qss_cons (qs_if (qw_or (qt_not (qt_val (qe_isi "tuple" T.b_isinstance T.b_tuple (qe_var 0)))) (qw_or1 (qt_not (qt_val (qe_all1 hr T.b_all (qr_e (qe_n (qn_lc (own := [("one", 2)]) rfl sc_is_lot.nd (qi_seq (qe_var 0)) (blkOk_by rfl) (fun _ _ _ _ _ => (qg_name 2 sc_is_lot.nd)) (fun _ _ _ _ _ => qts_nil) (fun _ _ _ _ _ => (qe_call c_is_within hr (qa_cons (qe_var 2) (qa_cons qe_int (qa_cons (qe_bin opq_sub (qe_var 1) qe_int) qa_nil))))))))))))).qt (qss_one (qs_ret qe_bl)) qss_nil) (qss_one (qs_ret (qe_all1 hr T.b_all (qr_e (qe_n (qn_lc (own := [("one", 2), ("other", 3)]) rfl sc_is_lot.nd (qi_zip rfl T.b_zip (qe_var 0) (qe_slice (qe_var 0) (qp_some qe_int) qp_none)) (blkOk_by rfl) (fun _ _ _ _ _ => (qg_tup 2 rfl (qgs_cons (qg_name 2 sc_is_lot.nd) (qgs_cons (qg_name 3 sc_is_lot.nd) qgs_nil)))) (fun _ _ _ _ _ => qts_nil) (fun _ _ _ _ _ => (qe_cmp (opd_lt hr.units) (qe_var 2) (qe_var 3) (nomark _))))))))))
abbrev s_is_face : Stmt := topS 16
theorem sc_is_face : FnScope ["thing", "m", "one"] ["thing", "m"] (defScope s_is_face) := ⟨rfl, rfl, rfl, by decide +kernel, rfl, by decide +kernel, by decide +kernel⟩
def B_is_face : SF := (sRet (eIf (tV (eCall F_is_tuple (aCons (eVar 0) (aCons (eVar 1) (aCons (eVar 1) aNil))))) (eUn oAll (eComp (iSeq (eVar 0)) (gName 2) tYes (eCall F_is_within (aCons (eVar 2) (aCons (eC (.int 0)) (aCons (eC (.int 4)) aNil)))) [2])) (eC (.bl false))))
def F_is_face : FF := fnF 3 B_is_face
theorem cl_is_face (T : Txt mg) (c_is_tuple : Cl P w K mg base 1 "is_tuple" 3 F_is_tuple) (c_is_within : Cl P w K mg base 2 "is_within" 3 F_is_within) {f : Addr} {fd : FuncData} (F : Fun K "is_face" "is_face" s_is_face f fd) (hm : mg "is_face" = some (.ref f)) (hb : Binds K fd ["thing", "m"] []) : Cl P w K mg base 3 "is_face" 2 F_is_face :=
  cl_mk (bf := B_is_face) (N := ["thing", "m", "one"]) F hm hb sc_is_face rfl (by decide) fun cdv A outer s H E B hr => (qss_one (qs_ret (qe_and (qe_call c_is_tuple hr (qa_cons (qe_var 0) (qa_cons (qe_var 1) (qa_cons (qe_var 1) qa_nil)))) (qe_one (qe_all1 hr T.b_all (qr_e (qe_n (qn_lc (own := [("one", 2)]) rfl sc_is_face.nd (qi_seq (qe_var 0)) (blkOk_by rfl) (fun _ _ _ _ _ => (qg_name 2 sc_is_face.nd)) (fun _ _ _ _ _ => qts_nil) (fun _ _ _ _ _ => (qe_call c_is_within hr (qa_cons (qe_var 2) (qa_cons qe_int (qa_cons (qe_gint 4 T.g_GREATEST) qa_nil)))))))))))))
abbrev s_is_word : Stmt := topS 17
theorem sc_is_word : FnScope ["thing", "m", "one"] ["thing", "m"] (defScope s_is_word) := ⟨rfl, rfl, rfl, by decide +kernel, rfl, by decide +kernel, by decide +kernel⟩
def B_is_word : SF := (sRet (eIf (tV (eCall F_is_tuple (aCons (eVar 0) (aCons (eVar 1) (aCons (eVar 1) aNil))))) (eUn oAll (eComp (iSeq (eVar 0)) (gName 2) tYes (eIf (tV (eBin oIs (eVar 2) (eC .non))) (eC (.bl true)) (eCall F_is_within (aCons (eVar 2) (aCons (eC (.int 0)) (aCons (eC (.int 4)) aNil))))) [2])) (eC (.bl false))))
def F_is_word : FF := fnF 3 B_is_word
theorem cl_is_word (T : Txt mg) (c_is_tuple : Cl P w K mg base 1 "is_tuple" 3 F_is_tuple) (c_is_within : Cl P w K mg base 2 "is_within" 3 F_is_within) {f : Addr} {fd : FuncData} (F : Fun K "is_word" "is_word" s_is_word f fd) (hm : mg "is_word" = some (.ref f)) (hb : Binds K fd ["thing", "m"] []) : Cl P w K mg base 3 "is_word" 2 F_is_word :=
  cl_mk (bf := B_is_word) (N := ["thing", "m", "one"]) F hm hb sc_is_word rfl (by decide) fun cdv A outer s H E B hr => (qss_one (qs_ret (qe_and (qe_call c_is_tuple hr (qa_cons (qe_var 0) (qa_cons (qe_var 1) (qa_cons (qe_var 1) qa_nil)))) (qe_one (qe_all1 hr T.b_all (qr_e (qe_n (qn_lc (own := [("one", 2)]) rfl sc_is_word.nd (qi_seq (qe_var 0)) (blkOk_by rfl) (fun _ _ _ _ _ => (qg_name 2 sc_is_word.nd)) (fun _ _ _ _ _ => qts_nil) (fun _ _ _ _ _ => (qe_or (qe_cmp (opq_is) (qe_var 2) qe_non (nomark _)) (qe_one (qe_call c_is_within hr (qa_cons (qe_var 2) (qa_cons qe_int (qa_cons (qe_gint 4 T.g_GREATEST) qa_nil)))))))))))))))
abbrev s_check_faces : Stmt := topS 18
theorem sc_check_faces : FnScope ["faces", "face"] ["faces"] (defScope s_check_faces) := ⟨rfl, rfl, rfl, by decide +kernel, rfl, by decide +kernel, by decide +kernel⟩
def B_check_faces : SF := (sSeq (sIf (tOr (tNot (tV (eCall F_is_tuple (aCons (eVar 0) (aCons (eC (.int 1)) (aCons (eC (.int 8)) aNil)))))) (tNot (tV (eCall F_is_tuple (aCons (eBin oIx (eVar 0) (eC (.int 0))) (aCons (eC (.int 1)) (aCons (eC (.int 6)) aNil))))))) sNever sNil) (sIf (tNot (tV (eUn oAll (eComp (iSeq (eVar 0)) (gName 1) tYes (eCall F_is_face (aCons (eVar 1) (aCons (eUn oLen (eBin oIx (eVar 0) (eC (.int 0)))) aNil))) [1])))) sNever sNil))
def F_check_faces : FF := fnF 2 B_check_faces
theorem cl_check_faces (T : Txt mg) (c_is_face : Cl P w K mg base 3 "is_face" 2 F_is_face) (c_is_tuple : Cl P w K mg base 1 "is_tuple" 3 F_is_tuple) {f : Addr} {fd : FuncData} (F : Fun K "check_faces" "check_faces" s_check_faces f fd) (hm : mg "check_faces" = some (.ref f)) (hb : Binds K fd ["faces"] []) : Cl P w K mg base 4 "check_faces" 1 F_check_faces :=
  cl_mk (bf := B_check_faces) (N := ["faces", "face"]) F hm hb sc_check_faces rfl (by decide) fun cdv A outer s H E B hr => (qss_cons (qs_if (qw_or (qt_not (qt_val (qe_call c_is_tuple hr (qa_cons (qe_var 0) (qa_cons qe_int (qa_cons (qe_gint 8 T.g_MOST) qa_nil)))))) (qw_or1 (qt_not (qt_val (qe_call c_is_tuple hr (qa_cons (qe_sub (hu_of hr) (qr_e (qe_var 0)) qe_int) (qa_cons qe_int (qa_cons (qe_gint 6 T.g_MOST_MARKS) qa_nil)))))))).qt (qss_one qs_never) qss_nil) (qss_one (qs_if (qt_not (qt_val (qe_all1 hr T.b_all (qr_e (qe_n (qn_lc (own := [("face", 1)]) rfl sc_check_faces.nd (qi_seq (qe_var 0)) (blkOk_by rfl) (fun _ _ _ _ _ => (qg_name 1 sc_check_faces.nd)) (fun _ _ _ _ _ => qts_nil) (fun _ _ _ _ _ => (qe_call c_is_face hr (qa_cons (qe_var 1) (qa_cons (qe_len T.b_len (qr_e (qe_sub (hu_of hr) (qr_e (qe_var 0)) qe_int))) qa_nil)))))))))) (qss_one qs_never) qss_nil)))
abbrev s_wrong_in : Stmt := topS 19
theorem sc_wrong_in : FnScope ["face", "word", "one", "its"] ["face", "word"] (defScope s_wrong_in) := ⟨rfl, rfl, rfl, by decide +kernel, rfl, by decide +kernel, by decide +kernel⟩
def B_wrong_in : SF := (sRet (eUn oLen (eComp (iZp (eVar 0) (eVar 1)) (gTup 2 (gCons (gName 2) (gCons (gName 3) gNil))) (tAnd (tV (eBin oIsNot (eVar 3) (eC .non))) (tV (eBin oNe (eVar 3) (eVar 2)))) (eC (.int 1)) [2, 3])))
def F_wrong_in : FF := fnF 4 B_wrong_in
theorem cl_wrong_in (T : Txt mg) {f : Addr} {fd : FuncData} (F : Fun K "wrong_in" "wrong_in" s_wrong_in f fd) (hm : mg "wrong_in" = some (.ref f)) (hb : Binds K fd ["face", "word"] []) : Cl P w K mg base 1 "wrong_in" 2 F_wrong_in :=
  cl_mk (bf := B_wrong_in) (N := ["face", "word", "one", "its"]) F hm hb sc_wrong_in rfl (by decide) fun cdv A outer s H E B hr => (qss_one (qs_ret (qe_len T.b_len (qr_e (qe_n (qn_lc (own := [("one", 2), ("its", 3)]) rfl sc_wrong_in.nd (qi_zip rfl T.b_zip (qe_var 0) (qe_var 1)) (blkOk_by rfl) (fun _ _ _ _ _ => (qg_tup 2 rfl (qgs_cons (qg_name 2 sc_wrong_in.nd) (qgs_cons (qg_name 3 sc_wrong_in.nd) qgs_nil)))) (fun _ _ _ _ _ => (qts_one (qw_and (qt_cmp (opq_isnot) (qe_var 3) qe_non (nomark _)) (qw_and1 (qt_cmp (opq_ne hr.units) (qe_var 3) (qe_var 2) (nomark _)))).qt)) (fun _ _ _ _ _ => qe_int)))))))
abbrev s_check_wrong : Stmt := topS 20
theorem sc_check_wrong : FnScope ["wrong"] ["wrong"] (defScope s_check_wrong) := ⟨rfl, rfl, rfl, by decide +kernel, rfl, by decide +kernel, by decide +kernel⟩
def B_check_wrong : SF := (sIf (tNot (tV (eCall F_is_within (aCons (eVar 0) (aCons (eC (.int 0)) (aCons (eC (.int 6)) aNil)))))) sNever sNil)
def F_check_wrong : FF := fnF 1 B_check_wrong
theorem cl_check_wrong (T : Txt mg) (c_is_within : Cl P w K mg base 2 "is_within" 3 F_is_within) {f : Addr} {fd : FuncData} (F : Fun K "check_wrong" "check_wrong" s_check_wrong f fd) (hm : mg "check_wrong" = some (.ref f)) (hb : Binds K fd ["wrong"] []) : Cl P w K mg base 3 "check_wrong" 1 F_check_wrong :=
  cl_mk (bf := B_check_wrong) (N := ["wrong"]) F hm hb sc_check_wrong rfl (by decide) fun cdv A outer s H E B hr => (qss_one (qs_if (qt_not (qt_val (qe_call c_is_within hr (qa_cons (qe_var 0) (qa_cons qe_int (qa_cons (qe_gint 6 T.g_MOST_MARKS) qa_nil)))))) (qss_one qs_never) qss_nil))
abbrev s_fits_face : Stmt := topS 21
theorem sc_fits_face : FnScope ["face", "word", "wrong"] ["face", "word", "wrong"] (defScope s_fits_face) := ⟨rfl, rfl, rfl, by decide +kernel, rfl, by decide +kernel, by decide +kernel⟩
def B_fits_face : SF := (sSeq (sIf (tOr (tNot (tV (eCall F_is_tuple (aCons (eVar 0) (aCons (eC (.int 1)) (aCons (eC (.int 6)) aNil)))))) (tNot (tV (eCall F_is_face (aCons (eVar 0) (aCons (eUn oLen (eVar 0)) aNil)))))) sNever sNil) (sSeq (sIf (tNot (tV (eCall F_is_word (aCons (eVar 1) (aCons (eUn oLen (eVar 0)) aNil))))) sNever sNil) (sSeq (sExpr (eCall F_check_wrong (aCons (eVar 2) aNil))) (sRet (eBin oLeD (eCall F_wrong_in (aCons (eVar 0) (aCons (eVar 1) aNil))) (eVar 2))))))
def F_fits_face : FF := fnF 3 B_fits_face
theorem cl_fits_face (T : Txt mg) (c_check_wrong : Cl P w K mg base 3 "check_wrong" 1 F_check_wrong) (c_is_face : Cl P w K mg base 3 "is_face" 2 F_is_face) (c_is_tuple : Cl P w K mg base 1 "is_tuple" 3 F_is_tuple) (c_is_word : Cl P w K mg base 3 "is_word" 2 F_is_word) (c_wrong_in : Cl P w K mg base 1 "wrong_in" 2 F_wrong_in) {f : Addr} {fd : FuncData} (F : Fun K "fits_face" "fits_face" s_fits_face f fd) (hm : mg "fits_face" = some (.ref f)) (hb : Binds K fd ["face", "word", "wrong"] []) : Cl P w K mg base 4 "fits_face" 3 F_fits_face :=
  cl_mk (bf := B_fits_face) (N := ["face", "word", "wrong"]) F hm hb sc_fits_face rfl (by decide) fun cdv A outer s H E B hr => (qss_cons (qs_if (qw_or (qt_not (qt_val (qe_call c_is_tuple hr (qa_cons (qe_var 0) (qa_cons qe_int (qa_cons (qe_gint 6 T.g_MOST_MARKS) qa_nil)))))) (qw_or1 (qt_not (qt_val (qe_call c_is_face hr (qa_cons (qe_var 0) (qa_cons (qe_len T.b_len (qr_e (qe_var 0))) qa_nil))))))).qt (qss_one qs_never) qss_nil) (qss_cons (qs_if (qt_not (qt_val (qe_call c_is_word hr (qa_cons (qe_var 1) (qa_cons (qe_len T.b_len (qr_e (qe_var 0))) qa_nil))))) (qss_one qs_never) qss_nil) (qss_cons (qs_expr (qe_call c_check_wrong hr (qa_cons (qe_var 2) qa_nil))) (qss_one (qs_ret (qe_cmp (opd_le hr.units) (qe_call c_wrong_in hr (qa_cons (qe_var 0) (qa_cons (qe_var 1) qa_nil))) (qe_var 2) (nomark _)))))))
abbrev s_told_of : Stmt := topS 22
theorem sc_told_of : FnScope ["faces", "word", "wrong", "offs", "lot", "face", "at", "off"] ["faces", "word", "wrong"] (defScope s_told_of) := ⟨rfl, rfl, rfl, by decide +kernel, rfl, by decide +kernel, by decide +kernel⟩
def B_told_of : SF := (sSeq (sSet 3 (eComp (iSeq (eVar 0)) (gName 5) tYes (eCall F_wrong_in (aCons (eVar 5) (aCons (eVar 1) aNil))) [5])) (sSeq (sSet 4 (eUn oTuple (eComp (iEn (eVar 3)) (gTup 2 (gCons (gName 6) (gCons (gName 7) gNil))) (tV (eBin oLeD (eVar 7) (eVar 2))) (eVar 6) [6, 7]))) (sSeq (sIf (tV (eBin oEq (eUn oLen (eVar 4)) (eC (.int 0)))) (sRet (eAp oTup (aCons (eC (.str [110, 111, 110, 101])) (aCons (eUn oMin (eVar 3)) aNil)))) sNil) (sRet (eIf (tV (eBin oEq (eUn oLen (eVar 4)) (eC (.int 1)))) (eAp oTup (aCons (eC (.str [111, 110, 101])) (aCons (eBin oIx (eVar 4) (eC (.int 0))) aNil))) (eAp oTup (aCons (eC (.str [115, 111, 109, 101])) (aCons (eVar 4) aNil))))))))
def F_told_of : FF := fnF 8 B_told_of
theorem cl_told_of (T : Txt mg) (c_wrong_in : Cl P w K mg base 1 "wrong_in" 2 F_wrong_in) {f : Addr} {fd : FuncData} (F : Fun K "told_of" "told_of" s_told_of f fd) (hm : mg "told_of" = some (.ref f)) (hb : Binds K fd ["faces", "word", "wrong"] []) : Cl P w K mg base 2 "told_of" 3 F_told_of :=
  cl_mk (bf := B_told_of) (N := ["faces", "word", "wrong", "offs", "lot", "face", "at", "off"]) F hm hb sc_told_of rfl (by decide) fun cdv A outer s H E B hr => (qss_cons (qs_setLcE 3 (own := [("face", 5)]) rfl sc_told_of.nd (qi_seq (qe_var 0)) (blkOk_by rfl) (fun _ _ _ _ _ => (qg_name 5 sc_told_of.nd)) (fun _ _ _ _ _ => qts_nil) (fun _ _ _ _ _ => (qe_call c_wrong_in hr (qa_cons (qe_var 5) (qa_cons (qe_var 1) qa_nil)))) (sw_true rfl rfl rfl (by decide +kernel))) (qss_cons (qs_set 4 (qe_tuple1 hr T.b_tuple (qr_e (qe_n (qn_lc (own := [("at", 6), ("off", 7)]) rfl sc_told_of.nd (qi_enum rfl T.b_enumerate (qe_var 3)) (blkOk_by rfl) (fun _ _ _ _ _ => (qg_tup 2 rfl (qgs_cons (qg_name 6 sc_told_of.nd) (qgs_cons (qg_name 7 sc_told_of.nd) qgs_nil)))) (fun _ _ _ _ _ => (qts_one (qt_cmp (opd_le hr.units) (qe_var 7) (qe_var 2) (nomark _)))) (fun _ _ _ _ _ => (qe_var 6)))))) sc_told_of.nd) (qss_cons (qs_if (qt_cmp (opq_eq hr.units) (qe_len T.b_len (qr_e (qe_var 4))) qe_int (nomark _)) (qss_one (qs_ret (qe_tup (qa_cons (qe_str [110, 111, 110, 101]) (qa_cons (qe_min1 hr T.b_min (qr_e (qe_var 3))) qa_nil))))) qss_nil) (qss_one (qs_ret (qe_ifExp (qt_cmp (opq_eq hr.units) (qe_len T.b_len (qr_e (qe_var 4))) qe_int (nomark _)) (qe_tup (qa_cons (qe_str [111, 110, 101]) (qa_cons (qe_sub (hu_of hr) (qr_e (qe_var 4)) qe_int) qa_nil))) (qe_tup (qa_cons (qe_str [115, 111, 109, 101]) (qa_cons (qe_var 4) qa_nil)))))))))
abbrev s_check_told : Stmt := topS 23
theorem sc_check_told : FnScope ["faces", "word", "wrong"] ["faces", "word", "wrong"] (defScope s_check_told) := ⟨rfl, rfl, rfl, by decide +kernel, rfl, by decide +kernel, by decide +kernel⟩
def B_check_told : SF := (sSeq (sExpr (eCall F_check_faces (aCons (eVar 0) aNil))) (sSeq (sIf (tNot (tV (eCall F_is_word (aCons (eVar 1) (aCons (eUn oLen (eBin oIx (eVar 0) (eC (.int 0)))) aNil))))) sNever sNil) (sExpr (eCall F_check_wrong (aCons (eVar 2) aNil)))))
def F_check_told : FF := fnF 3 B_check_told
theorem cl_check_told (T : Txt mg) (c_check_faces : Cl P w K mg base 4 "check_faces" 1 F_check_faces) (c_check_wrong : Cl P w K mg base 3 "check_wrong" 1 F_check_wrong) (c_is_word : Cl P w K mg base 3 "is_word" 2 F_is_word) {f : Addr} {fd : FuncData} (F : Fun K "check_told" "check_told" s_check_told f fd) (hm : mg "check_told" = some (.ref f)) (hb : Binds K fd ["faces", "word", "wrong"] []) : Cl P w K mg base 5 "check_told" 3 F_check_told :=
  cl_mk (bf := B_check_told) (N := ["faces", "word", "wrong"]) F hm hb sc_check_told rfl (by decide) fun cdv A outer s H E B hr => (qss_cons (qs_expr (qe_call c_check_faces hr (qa_cons (qe_var 0) qa_nil))) (qss_cons (qs_if (qt_not (qt_val (qe_call c_is_word hr (qa_cons (qe_var 1) (qa_cons (qe_len T.b_len (qr_e (qe_sub (hu_of hr) (qr_e (qe_var 0)) qe_int))) qa_nil))))) (qss_one qs_never) qss_nil) (qss_one (qs_expr (qe_call c_check_wrong hr (qa_cons (qe_var 2) qa_nil))))))
abbrev s_one_or_some : Stmt := topS 24
theorem sc_one_or_some : FnScope ["faces", "word", "wrong"] ["faces", "word", "wrong"] (defScope s_one_or_some) := ⟨rfl, rfl, rfl, by decide +kernel, rfl, by decide +kernel, by decide +kernel⟩
def B_one_or_some : SF := (sSeq (sExpr (eCall F_check_told (aCons (eVar 0) (aCons (eVar 1) (aCons (eVar 2) aNil))))) (sRet (eCall F_told_of (aCons (eVar 0) (aCons (eVar 1) (aCons (eVar 2) aNil))))))
def F_one_or_some : FF := fnF 3 B_one_or_some
theorem cl_one_or_some (T : Txt mg) (c_check_told : Cl P w K mg base 5 "check_told" 3 F_check_told) (c_told_of : Cl P w K mg base 2 "told_of" 3 F_told_of) {f : Addr} {fd : FuncData} (F : Fun K "one_or_some" "one_or_some" s_one_or_some f fd) (hm : mg "one_or_some" = some (.ref f)) (hb : Binds K fd ["faces", "word", "wrong"] []) : Cl P w K mg base 6 "one_or_some" 3 F_one_or_some :=
  cl_mk (bf := B_one_or_some) (N := ["faces", "word", "wrong"]) F hm hb sc_one_or_some rfl (by decide) fun cdv A outer s H E B hr => (qss_cons (qs_expr (qe_call c_check_told hr (qa_cons (qe_var 0) (qa_cons (qe_var 1) (qa_cons (qe_var 2) qa_nil))))) (qss_one (qs_ret (qe_call c_told_of hr (qa_cons (qe_var 0) (qa_cons (qe_var 1) (qa_cons (qe_var 2) qa_nil)))))))
abbrev s_is_one_or_some : Stmt := topS 25
theorem sc_is_one_or_some : FnScope ["faces", "word", "wrong", "thing"] ["faces", "word", "wrong", "thing"] (defScope s_is_one_or_some) := ⟨rfl, rfl, rfl, by decide +kernel, rfl, by decide +kernel, by decide +kernel⟩
def B_is_one_or_some : SF := (sSeq (sExpr (eCall F_check_told (aCons (eVar 0) (aCons (eVar 1) (aCons (eVar 2) aNil))))) (sSeq (sIf (tOr (tNot (tV (eCall F_is_tuple (aCons (eVar 3) (aCons (eC (.int 2)) (aCons (eC (.int 2)) aNil)))))) (tNot (tV (eUn (oIsi ["str"]) (eBin oIx (eVar 3) (eC (.int 0))))))) (sRet (eC (.bl false))) sNil) (sSeq (sIf (tV (eBin oEq (eBin oIx (eVar 3) (eC (.int 0))) (eC (.str [115, 111, 109, 101])))) (sRet (eIf (tV (eCall F_is_lot (aCons (eBin oIx (eVar 3) (eC (.int 1))) (aCons (eUn oLen (eVar 0)) aNil)))) (eBin oEq (eVar 3) (eCall F_told_of (aCons (eVar 0) (aCons (eVar 1) (aCons (eVar 2) aNil))))) (eC (.bl false)))) sNil) (sRet (eIf (tV (eCall F_is_within (aCons (eBin oIx (eVar 3) (eC (.int 1))) (aCons (eC (.int 0)) (aCons (eC (.int 8)) aNil))))) (eBin oEq (eVar 3) (eCall F_told_of (aCons (eVar 0) (aCons (eVar 1) (aCons (eVar 2) aNil))))) (eC (.bl false)))))))
def F_is_one_or_some : FF := fnF 4 B_is_one_or_some
theorem cl_is_one_or_some (T : Txt mg) (c_check_told : Cl P w K mg base 5 "check_told" 3 F_check_told) (c_is_lot : Cl P w K mg base 3 "is_lot" 2 F_is_lot) (c_is_tuple : Cl P w K mg base 1 "is_tuple" 3 F_is_tuple) (c_is_within : Cl P w K mg base 2 "is_within" 3 F_is_within) (c_told_of : Cl P w K mg base 2 "told_of" 3 F_told_of) {f : Addr} {fd : FuncData} (F : Fun K "is_one_or_some" "is_one_or_some" s_is_one_or_some f fd) (hm : mg "is_one_or_some" = some (.ref f)) (hb : Binds K fd ["faces", "word", "wrong", "thing"] []) : Cl P w K mg base 6 "is_one_or_some" 4 F_is_one_or_some :=
  cl_mk (bf := B_is_one_or_some) (N := ["faces", "word", "wrong", "thing"]) F hm hb sc_is_one_or_some rfl (by decide) fun cdv A outer s H E B hr => (qss_cons (qs_expr (qe_call c_check_told hr (qa_cons (qe_var 0) (qa_cons (qe_var 1) (qa_cons (qe_var 2) qa_nil))))) (qss_cons (qs_if (qw_or (qt_not (qt_val (qe_call c_is_tuple hr (qa_cons (qe_var 3) (qa_cons qe_int (qa_cons qe_int qa_nil)))))) (qw_or1 (qt_not (qt_val (qe_isi "str" T.b_isinstance T.b_str (qe_sub (hu_of hr) (qr_e (qe_var 3)) qe_int)))))).qt (qss_one (qs_ret qe_bl)) qss_nil) (qss_cons (qs_if (qt_cmp (opq_eq hr.units) (qe_sub (hu_of hr) (qr_e (qe_var 3)) qe_int) (qe_str [115, 111, 109, 101]) (nomark _)) (qss_one (qs_ret (qe_and (qe_call c_is_lot hr (qa_cons (qe_sub (hu_of hr) (qr_e (qe_var 3)) qe_int) (qa_cons (qe_len T.b_len (qr_e (qe_var 0))) qa_nil))) (qe_one (qe_cmp (opq_eq hr.units) (qe_var 3) (qe_call c_told_of hr (qa_cons (qe_var 0) (qa_cons (qe_var 1) (qa_cons (qe_var 2) qa_nil)))) (nomark _)))))) qss_nil) (qss_one (qs_ret (qe_and (qe_call c_is_within hr (qa_cons (qe_sub (hu_of hr) (qr_e (qe_var 3)) qe_int) (qa_cons qe_int (qa_cons (qe_gint 8 T.g_MOST) qa_nil)))) (qe_one (qe_cmp (opq_eq hr.units) (qe_var 3) (qe_call c_told_of hr (qa_cons (qe_var 0) (qa_cons (qe_var 1) (qa_cons (qe_var 2) qa_nil)))) (nomark _)))))))))
abbrev s_twins_of : Stmt := topS 26
theorem sc_twins_of : FnScope ["faces", "found", "i", "face", "j"] ["faces"] (defScope s_twins_of) := ⟨rfl, rfl, rfl, by decide +kernel, rfl, by decide +kernel, by decide +kernel⟩
def B_twins_of : SF := (sSeq (sExpr (eCall F_check_faces (aCons (eVar 0) aNil))) (sSeq (sSet 1 (eAp oLst aNil)) (sSeq (sFor (iEn (eVar 0)) (gTup 2 (gCons (gName 2) (gCons (gName 3) gNil))) (sExt 1 (eComp (iR2 (eBin oAdd (eVar 2) (eC (.int 1))) (eUn oLen (eVar 0))) (gName 4) (tV (eBin oEq (eBin oIx (eVar 0) (eVar 4)) (eVar 3))) (eAp oTup (aCons (eVar 2) (aCons (eVar 4) aNil))) [4]))) (sRet (eUn oTuple (eVar 1))))))
def F_twins_of : FF := fnF 5 B_twins_of
theorem cl_twins_of (T : Txt mg) (c_check_faces : Cl P w K mg base 4 "check_faces" 1 F_check_faces) {f : Addr} {fd : FuncData} (F : Fun K "twins_of" "twins_of" s_twins_of f fd) (hm : mg "twins_of" = some (.ref f)) (hb : Binds K fd ["faces"] []) : Cl P w K mg base 5 "twins_of" 1 F_twins_of :=
  cl_mk (bf := B_twins_of) (N := ["faces", "found", "i", "face", "j"]) F hm hb sc_twins_of rfl (by decide) fun cdv A outer s H E B hr => (qss_cons (qs_expr (qe_call c_check_faces hr (qa_cons (qe_var 0) qa_nil))) (qss_cons (qs_setN 1 (qn_lst qa_nil) sc_twins_of.nd) (qss_cons (qs_for rfl (qi_enum rfl T.b_enumerate (qe_var 0)) (qg_tup 2 rfl (qgs_cons (qg_name 2 sc_twins_of.nd) (qgs_cons (qg_name 3 sc_twins_of.nd) qgs_nil))) (qss_one (qs_extend 1 (qe_n (qn_lc (own := [("j", 4)]) rfl sc_twins_of.nd (qi_range2 T.b_range (qe_bin opq_add (qe_var 2) qe_int) (qe_len T.b_len (qr_e (qe_var 0)))) (blkOk_by rfl) (fun _ _ _ _ _ => (qg_name 4 sc_twins_of.nd)) (fun _ _ _ _ _ => (qts_one (qt_cmp (opq_eq hr.units) (qe_sub (hu_of hr) (qr_e (qe_var 0)) (qe_var 4)) (qe_var 3) (nomark _)))) (fun _ _ _ _ _ => (qe_tup (qa_cons (qe_var 2) (qa_cons (qe_var 4) qa_nil))))))))) (qss_one (qs_ret (qe_tuple1 hr T.b_tuple (qr_own 1)))))))
abbrev s_joined_words : Stmt := topS 27
theorem sc_joined_words : FnScope ["one", "other", "word", "a", "b"] ["one", "other"] (defScope s_joined_words) := ⟨rfl, rfl, rfl, by decide +kernel, rfl, by decide +kernel, by decide +kernel⟩
def B_joined_words : SF := (sSeq (sFor (iSeq (eAp oTup (aCons (eVar 0) (aCons (eVar 1) aNil)))) (gName 2) (sIf (tOr (tNot (tV (eCall F_is_tuple (aCons (eVar 2) (aCons (eC (.int 1)) (aCons (eC (.int 6)) aNil)))))) (tNot (tV (eCall F_is_word (aCons (eVar 2) (aCons (eUn oLen (eVar 2)) aNil)))))) sNever sNil)) (sSeq (sIf (tV (eBin oNe (eUn oLen (eVar 0)) (eUn oLen (eVar 1)))) sNever sNil) (sSeq (sIf (tV (eUn oAny (eComp (iZp (eVar 0) (eVar 1)) (gTup 2 (gCons (gName 3) (gCons (gName 4) gNil))) tYes (eIf (tV (eBin oIsNot (eVar 3) (eC .non))) (eIf (tV (eBin oIsNot (eVar 4) (eC .non))) (eBin oNe (eVar 3) (eVar 4)) (eC (.bl false))) (eC (.bl false))) [3, 4]))) (sRet (eC .non)) sNil) (sRet (eUn oTuple (eComp (iZp (eVar 0) (eVar 1)) (gTup 2 (gCons (gName 3) (gCons (gName 4) gNil))) tYes (eIf (tV (eBin oIs (eVar 3) (eC .non))) (eVar 4) (eVar 3)) [3, 4]))))))
def F_joined_words : FF := fnF 5 B_joined_words
theorem cl_joined_words (T : Txt mg) (c_is_tuple : Cl P w K mg base 1 "is_tuple" 3 F_is_tuple) (c_is_word : Cl P w K mg base 3 "is_word" 2 F_is_word) {f : Addr} {fd : FuncData} (F : Fun K "joined_words" "joined_words" s_joined_words f fd) (hm : mg "joined_words" = some (.ref f)) (hb : Binds K fd ["one", "other"] []) : Cl P w K mg base 4 "joined_words" 2 F_joined_words :=
  cl_mk (bf := B_joined_words) (N := ["one", "other", "word", "a", "b"]) F hm hb sc_joined_words rfl (by decide) fun cdv A outer s H E B hr => (qss_cons (qs_for rfl (qi_seq (qe_tup (qa_cons (qe_var 0) (qa_cons (qe_var 1) qa_nil)))) (qg_name 2 sc_joined_words.nd) (qss_one (qs_if (qw_or (qt_not (qt_val (qe_call c_is_tuple hr (qa_cons (qe_var 2) (qa_cons qe_int (qa_cons (qe_gint 6 T.g_MOST_MARKS) qa_nil)))))) (qw_or1 (qt_not (qt_val (qe_call c_is_word hr (qa_cons (qe_var 2) (qa_cons (qe_len T.b_len (qr_e (qe_var 2))) qa_nil))))))).qt (qss_one qs_never) qss_nil))) (qss_cons (qs_if (qt_cmp (opq_ne hr.units) (qe_len T.b_len (qr_e (qe_var 0))) (qe_len T.b_len (qr_e (qe_var 1))) (nomark _)) (qss_one qs_never) qss_nil) (qss_cons (qs_if (qt_val (qe_any1 hr T.b_any (qr_e (qe_n (qn_lc (own := [("a", 3), ("b", 4)]) rfl sc_joined_words.nd (qi_zip rfl T.b_zip (qe_var 0) (qe_var 1)) (blkOk_by rfl) (fun _ _ _ _ _ => (qg_tup 2 rfl (qgs_cons (qg_name 3 sc_joined_words.nd) (qgs_cons (qg_name 4 sc_joined_words.nd) qgs_nil)))) (fun _ _ _ _ _ => qts_nil) (fun _ _ _ _ _ => (qe_and (qe_cmp (opq_isnot) (qe_var 3) qe_non (nomark _)) (qe_and (qe_cmp (opq_isnot) (qe_var 4) qe_non (nomark _)) (qe_one (qe_cmp (opq_ne hr.units) (qe_var 3) (qe_var 4) (nomark _))))))))))) (qss_one (qs_ret qe_non)) qss_nil) (qss_one (qs_ret (qe_tuple1 hr T.b_tuple (qr_e (qe_n (qn_lc (own := [("a", 3), ("b", 4)]) rfl sc_joined_words.nd (qi_zip rfl T.b_zip (qe_var 0) (qe_var 1)) (blkOk_by rfl) (fun _ _ _ _ _ => (qg_tup 2 rfl (qgs_cons (qg_name 3 sc_joined_words.nd) (qgs_cons (qg_name 4 sc_joined_words.nd) qgs_nil)))) (fun _ _ _ _ _ => qts_nil) (fun _ _ _ _ _ => (qe_ifExp (qt_cmp (opq_is) (qe_var 3) qe_non (nomark _)) (qe_var 4) (qe_var 3))))))))))))
abbrev s__law_draw : Stmt := topS 30
theorem sc__law_draw : FnScope ["hand", "sides", "cell", "digit", "number"] ["hand", "sides"] (defScope s__law_draw) := ⟨rfl, rfl, rfl, by decide +kernel, rfl, by decide +kernel, by decide +kernel⟩
def B__law_draw : SF := (sSeq (sIf (tAnd (tV (eBin oEq (eHand 0 2) (eC (.int 0)))) (tV (eBin oLtD (eHand 0 1) (eUn oLen (eHand 0 0))))) (sSeq (sSet 2 (eBin oIx (eHand 0 0) (eHand 0 1))) (sSeq (sHset 0 1 (eBin oAdd (eHand 0 1) (eC (.int 1)))) (sSeq (sHset 0 3 (eBin oMod (eUn oInt (eBin oAdd (eBin oAdd (eBin oMul (eHand 0 3) (eC (.int 69621))) (eVar 2)) (eC (.int 29)))) (eC (.int 2147483629)))) (sIf (tV (eBin oGeD (eVar 2) (eBin oPow (eC (.int 10)) (eC (.int 18))))) (sHset 0 2 (eVar 2)) sNil)))) sNil) (sSeq (sIf (tV (eBin oGtD (eHand 0 2) (eC (.int 0)))) (sSeq (sSet 3 (eBin oMod (eUn oInt (eHand 0 2)) (eVar 1))) (sSeq (sHset 0 2 (eBin oFdiv (eHand 0 2) (eVar 1))) (sRet (eVar 3)))) sNil) (sSeq (sHset 0 4 (eBin oAdd (eHand 0 4) (eC (.int 1)))) (sSeq (sSet 4 (eBin oMod (eUn oInt (eBin oMul (eUn oInt (eBin oAdd (eHand 0 3) (eBin oMul (eC (.int 7919)) (eHand 0 4)))) (eC (.int 48271)))) (eC (.int 2147483647)))) (sSeq (sSet 4 (eBin oMod (eUn oInt (eBin oMul (eVar 4) (eBin oAdd (eBin oFdiv (eVar 4) (eC (.int 1009))) (eC (.int 69621))))) (eC (.int 2147483647)))) (sSeq (sSet 4 (eBin oMod (eUn oInt (eBin oMul (eVar 4) (eBin oAdd (eBin oFdiv (eVar 4) (eC (.int 2003))) (eC (.int 40692))))) (eC (.int 2147483399)))) (sRet (eBin oMod (eUn oInt (eBin oFdiv (eVar 4) (eC (.int 16)))) (eVar 1)))))))))
def F__law_draw : FF := fnF 5 B__law_draw
theorem cl__law_draw (T : Txt mg) {f : Addr} {fd : FuncData} (F : Fun K "_law_draw" "_law_draw" s__law_draw f fd) (hm : mg "_law_draw" = some (.ref f)) (hb : Binds K fd ["hand", "sides"] []) : Cl P w K mg base 1 "_law_draw" 2 F__law_draw :=
  cl_mk (bf := B__law_draw) (N := ["hand", "sides", "cell", "digit", "number"]) F hm hb sc__law_draw rfl (by decide) fun cdv A outer s H E B hr => (qss_cons (qs_if (qw_and (qt_cmp (opq_eq hr.units) (qe_hand 0 2) qe_int (nomark _)) (qw_and1 (qt_cmp (opd_lt hr.units) (qe_hand 0 1) (qe_len T.b_len (qr_e (qe_hand 0 0))) (nomark _)))).qt (qss_cons (qs_set 2 (qe_sub (hu_of hr) (qr_e (qe_hand 0 0)) (qe_hand 0 1)) sc__law_draw.nd) (qss_cons (qs_hset 0 1 (qe_bin opq_add (qe_hand 0 1) qe_int)) (qss_cons (qs_hset 0 3 (qe_bin opq_mod (qe_int1 hr T.b_int (qr_e (qe_bin opq_add (qe_bin opq_add (qe_bin opq_mul (qe_hand 0 3) qe_int) (qe_var 2)) qe_int))) qe_int)) (qss_one (qs_if (qt_cmp (opd_ge hr.units) (qe_var 2) (qe_bin opq_pow qe_int qe_int) (nomark _)) (qss_one (qs_hset 0 2 (qe_var 2))) qss_nil))))) qss_nil) (qss_cons (qs_if (qt_cmp (opd_gt hr.units) (qe_hand 0 2) qe_int (nomark _)) (qss_cons (qs_set 3 (qe_bin opq_mod (qe_int1 hr T.b_int (qr_e (qe_hand 0 2))) (qe_var 1)) sc__law_draw.nd) (qss_cons (qs_hset 0 2 (qe_bin opq_fdiv (qe_hand 0 2) (qe_var 1))) (qss_one (qs_ret (qe_var 3))))) qss_nil) (qss_cons (qs_hset 0 4 (qe_bin opq_add (qe_hand 0 4) qe_int)) (qss_cons (qs_set 4 (qe_bin opq_mod (qe_int1 hr T.b_int (qr_e (qe_bin opq_mul (qe_int1 hr T.b_int (qr_e (qe_bin opq_add (qe_hand 0 3) (qe_bin opq_mul qe_int (qe_hand 0 4))))) qe_int))) qe_int) sc__law_draw.nd) (qss_cons (qs_set 4 (qe_bin opq_mod (qe_int1 hr T.b_int (qr_e (qe_bin opq_mul (qe_var 4) (qe_bin opq_add (qe_bin opq_fdiv (qe_var 4) qe_int) qe_int)))) qe_int) sc__law_draw.nd) (qss_cons (qs_set 4 (qe_bin opq_mod (qe_int1 hr T.b_int (qr_e (qe_bin opq_mul (qe_var 4) (qe_bin opq_add (qe_bin opq_fdiv (qe_var 4) qe_int) qe_int)))) qe_int) sc__law_draw.nd) (qss_one (qs_ret (qe_bin opq_mod (qe_int1 hr T.b_int (qr_e (qe_bin opq_fdiv (qe_var 4) qe_int))) (qe_var 1))))))))))
abbrev s__law_some : Stmt := topS 31
theorem sc__law_some : FnScope ["hand", "things"] ["hand", "things"] (defScope s__law_some) := ⟨rfl, rfl, rfl, by decide +kernel, rfl, by decide +kernel, by decide +kernel⟩
def B__law_some : SF := (sRet (eBin oIx (eVar 1) (eCall F__law_draw (aCons (eVar 0) (aCons (eUn oLen (eVar 1)) aNil)))))
def F__law_some : FF := fnF 2 B__law_some
theorem cl__law_some (T : Txt mg) (c__law_draw : Cl P w K mg base 1 "_law_draw" 2 F__law_draw) {f : Addr} {fd : FuncData} (F : Fun K "_law_some" "_law_some" s__law_some f fd) (hm : mg "_law_some" = some (.ref f)) (hb : Binds K fd ["hand", "things"] []) : Cl P w K mg base 2 "_law_some" 2 F__law_some :=
  cl_mk (bf := B__law_some) (N := ["hand", "things"]) F hm hb sc__law_some rfl (by decide) fun cdv A outer s H E B hr => (qss_one (qs_ret (qe_sub (hu_of hr) (qr_e (qe_var 1)) (qe_call c__law_draw hr (qa_cons (qe_var 0) (qa_cons (qe_len T.b_len (qr_e (qe_var 1))) qa_nil))))))
abbrev s__law_is : Stmt := topS 32
theorem sc__law_is : FnScope ["one", "other", "mine", "yours", "key"] ["one", "other"] (defScope s__law_is) := ⟨rfl, rfl, rfl, by decide +kernel, rfl, by decide +kernel, by decide +kernel⟩
def B__law_is (REC : FF) : SF := (sSeq (sIf (tOr (tV (eUn (oIsi ["bool"]) (eVar 0))) (tV (eUn (oIsi ["bool"]) (eVar 1)))) (sRet (eIf (tV (eUn (oIsi ["bool"]) (eVar 0))) (eIf (tV (eUn (oIsi ["bool"]) (eVar 1))) (eBin oEq (eVar 0) (eVar 1)) (eC (.bl false))) (eC (.bl false)))) sNil) (sSeq (sIf (tOr (tV (eUn (oIsi ["tuple"]) (eVar 0))) (tV (eUn (oIsi ["list"]) (eVar 0)))) (sSeq (sIf (tOr (tV (eBin oNe (eUn (oIsi ["tuple"]) (eVar 0)) (eUn (oIsi ["tuple"]) (eVar 1)))) (tV (eBin oNe (eUn (oIsi ["list"]) (eVar 0)) (eUn (oIsi ["list"]) (eVar 1))))) (sRet (eC (.bl false))) sNil) (sRet (eIf (tV (eBin oEq (eUn oLen (eVar 0)) (eUn oLen (eVar 1)))) (eUn oAll (eComp (iZp (eVar 0) (eVar 1)) (gTup 2 (gCons (gName 2) (gCons (gName 3) gNil))) tYes (eCall REC (aCons (eVar 2) (aCons (eVar 3) aNil))) [2, 3])) (eC (.bl false))))) sNil) (sSeq (sIf (tV (eUn (oIsi ["dict"]) (eVar 0))) (sSeq (sIf (tOr (tNot (tV (eUn (oIsi ["dict"]) (eVar 1)))) (tV (eBin oNe (eUn oLen (eVar 0)) (eUn oLen (eVar 1))))) (sRet (eC (.bl false))) sNil) (sRet (eUn oAll (eComp (iSeq (eVar 0)) (gName 4) tYes (eIf (tV (eBin oIn (eVar 4) (eVar 1))) (eCall REC (aCons (eBin oIx (eVar 0) (eVar 4)) (aCons (eBin oIx (eVar 1) (eVar 4)) aNil))) (eC (.bl false))) [4])))) sNil) (sRet (eIf (tV (eBin oEq (eUn (oIsi ["int"]) (eVar 0)) (eUn (oIsi ["int"]) (eVar 1)))) (eBin oEq (eVar 0) (eVar 1)) (eC (.bl false)))))))
def F__law_is : Nat → FF
  | 0 => fnF 5 sNever
  | m + 1 => fnF 5 (B__law_is (F__law_is m))
theorem cl__law_is (T : Txt mg) {f : Addr} {fd : FuncData} (F : Fun K "_law_is" "_law_is" s__law_is f fd) (hm : mg "_law_is" = some (.ref f)) (hb : Binds K fd ["one", "other"] []) : ∀ m : Nat, Cl P w K mg base (1 + m) "_law_is" 2 (F__law_is m)
  | 0 => cl_mk (k := 0) (bf := sNever) (N := ["one", "other", "mine", "yours", "key"]) F hm hb sc__law_is rfl (by decide) fun cdv A outer s H E B hr => qss_never
  | m + 1 => cl_mk (k := 1 + m) (bf := B__law_is (F__law_is m)) (N := ["one", "other", "mine", "yours", "key"]) F hm hb sc__law_is rfl (by decide) fun cdv A outer s H E B hr => (let c__law_is := cl__law_is T F hm hb m; (qss_cons (qs_if (qw_or (qt_val (qe_isi "bool" T.b_isinstance T.b_bool (qe_var 0))) (qw_or1 (qt_val (qe_isi "bool" T.b_isinstance T.b_bool (qe_var 1))))).qt (qss_one (qs_ret (qe_and (qe_isi "bool" T.b_isinstance T.b_bool (qe_var 0)) (qe_and (qe_isi "bool" T.b_isinstance T.b_bool (qe_var 1)) (qe_one (qe_cmp (opq_eq hr.units) (qe_var 0) (qe_var 1) (nomark _))))))) qss_nil) (qss_cons (qs_if (qw_or (qt_val (qe_isi "tuple" T.b_isinstance T.b_tuple (qe_var 0))) (qw_or1 (qt_val (qe_isi "list" T.b_isinstance T.b_list (qe_var 0))))).qt (qss_cons (qs_if (qw_or (qt_cmp (opq_ne hr.units) (qe_isi "tuple" T.b_isinstance T.b_tuple (qe_var 0)) (qe_isi "tuple" T.b_isinstance T.b_tuple (qe_var 1)) (nomark _)) (qw_or1 (qt_cmp (opq_ne hr.units) (qe_isi "list" T.b_isinstance T.b_list (qe_var 0)) (qe_isi "list" T.b_isinstance T.b_list (qe_var 1)) (nomark _)))).qt (qss_one (qs_ret qe_bl)) qss_nil) (qss_one (qs_ret (qe_and (qe_cmp (opq_eq hr.units) (qe_len T.b_len (qr_e (qe_var 0))) (qe_len T.b_len (qr_e (qe_var 1))) (nomark _)) (qe_one (qe_all1 hr T.b_all (qr_e (qe_n (qn_lc (own := [("mine", 2), ("yours", 3)]) rfl sc__law_is.nd (qi_zip rfl T.b_zip (qe_var 0) (qe_var 1)) (blkOk_by rfl) (fun _ _ _ _ _ => (qg_tup 2 rfl (qgs_cons (qg_name 2 sc__law_is.nd) (qgs_cons (qg_name 3 sc__law_is.nd) qgs_nil)))) (fun _ _ _ _ _ => qts_nil) (fun _ _ _ _ _ => (qe_call c__law_is hr (qa_cons (qe_var 2) (qa_cons (qe_var 3) qa_nil)) (by omega)))))))))))) qss_nil) (qss_cons (qs_if (qt_val (qe_isi "dict" T.b_isinstance T.b_dict (qe_var 0))) (qss_cons (qs_if (qw_or (qt_not (qt_val (qe_isi "dict" T.b_isinstance T.b_dict (qe_var 1)))) (qw_or1 (qt_cmp (opq_ne hr.units) (qe_len T.b_len (qr_e (qe_var 0))) (qe_len T.b_len (qr_e (qe_var 1))) (nomark _)))).qt (qss_one (qs_ret qe_bl)) qss_nil) (qss_one (qs_ret (qe_all1 hr T.b_all (qr_e (qe_n (qn_lc (own := [("key", 4)]) rfl sc__law_is.nd (qi_seq (qe_var 0)) (blkOk_by rfl) (fun _ _ _ _ _ => (qg_name 4 sc__law_is.nd)) (fun _ _ _ _ _ => qts_nil) (fun _ _ _ _ _ => (qe_and (qe_in hr.units (qe_var 4) (qr_e (qe_var 1))) (qe_one (qe_call c__law_is hr (qa_cons (qe_sub (hu_of hr) (qr_e (qe_var 0)) (qe_var 4)) (qa_cons (qe_sub (hu_of hr) (qr_e (qe_var 1)) (qe_var 4)) qa_nil)) (by omega)))))))))))) qss_nil) (qss_one (qs_ret (qe_and (qe_cmp (opq_eq hr.units) (qe_isi "int" T.b_isinstance T.b_int (qe_var 0)) (qe_isi "int" T.b_isinstance T.b_int (qe_var 1)) (nomark _)) (qe_one (qe_cmp (opq_eq hr.units) (qe_var 0) (qe_var 1) (nomark _))))))))))
abbrev s__law_off : Stmt := topS 33
theorem sc__law_off : FnScope ["face", "word", "a", "b"] ["face", "word"] (defScope s__law_off) := ⟨rfl, rfl, rfl, by decide +kernel, rfl, by decide +kernel, by decide +kernel⟩
def B__law_off : SF := (sRet (eUn oLen (eComp (iZp (eVar 0) (eVar 1)) (gTup 2 (gCons (gName 2) (gCons (gName 3) gNil))) (tAnd (tV (eBin oIsNot (eVar 3) (eC .non))) (tV (eBin oNe (eVar 2) (eVar 3)))) (eC (.int 1)) [2, 3])))
def F__law_off : FF := fnF 4 B__law_off
theorem cl__law_off (T : Txt mg) {f : Addr} {fd : FuncData} (F : Fun K "_law_off" "_law_off" s__law_off f fd) (hm : mg "_law_off" = some (.ref f)) (hb : Binds K fd ["face", "word"] []) : Cl P w K mg base 1 "_law_off" 2 F__law_off :=
  cl_mk (bf := B__law_off) (N := ["face", "word", "a", "b"]) F hm hb sc__law_off rfl (by decide) fun cdv A outer s H E B hr => (qss_one (qs_ret (qe_len T.b_len (qr_e (qe_n (qn_lc (own := [("a", 2), ("b", 3)]) rfl sc__law_off.nd (qi_zip rfl T.b_zip (qe_var 0) (qe_var 1)) (blkOk_by rfl) (fun _ _ _ _ _ => (qg_tup 2 rfl (qgs_cons (qg_name 2 sc__law_off.nd) (qgs_cons (qg_name 3 sc__law_off.nd) qgs_nil)))) (fun _ _ _ _ _ => (qts_one (qw_and (qt_cmp (opq_isnot) (qe_var 3) qe_non (nomark _)) (qw_and1 (qt_cmp (opq_ne hr.units) (qe_var 2) (qe_var 3) (nomark _)))).qt)) (fun _ _ _ _ _ => qe_int)))))))
end
abbrev s__law_hand : Stmt := topS 29
theorem sc__law_hand : FnScope ["script", "cells", "cell"] ["script"] (defScope s__law_hand) := ⟨rfl, rfl, rfl, by decide +kernel, rfl, by decide +kernel, by decide +kernel⟩
def hand_el : EF := (eUn oAbs (eUn oInt (eVar 2)))
def hand_li : EF := (eAp oLst (aCons (eVar 1) (aCons (eC (.int 0)) (aCons (eC (.int 0)) (aCons (eBin oAdd (eC (.int 499)) (eBin oMul (eC (.int 89)) (eUn oLen (eVar 1)))) (aCons (eC (.int 0)) aNil))))))
def Fh (ns : List Int) : Hnd := ⟨(ns.take 63).map (fun i => if i < 0 then -i else i), 0, 0, 499 + 89 * ((ns.take 63).length : Int), 0⟩
theorem hand_plain (ns : List Int) : compL (gName 2) tYes hand_el (wipeS [none, none, none] [2]) ((ns.take 63).map .int) default = some ((Fh ns).cells.map .int, default) ∧
    hand_li [none, some (.lst ((Fh ns).cells.map .int)), none] default = some (.lst [.lst ((Fh ns).cells.map .int), .int (Fh ns).i, .int (Fh ns).b, .int (Fh ns).s, .int (Fh ns).c], default) := by
  refine ⟨compL_map (g := fun i => if i < 0 then -i else i) (fun n => ?_) _, ?_⟩
  · first | rfl | (simp [hand_el, eUn, eBin, eVar, eC, wipeS, oAbs, oInt, oMod, oPow]; done)
  · simp [hand_li, Fh, eAp, aCons, aNil, eVar, eC, eBin, eUn, oLen, oAdd, oMul, mulOk, oLst]
theorem fn__law_hand {P : Program} {w : World} {K : PySem.W.Frag} {mg : Str → Option Value} {base : Heap} (T : Txt mg) {f : Addr} {fd : FuncData} (F : Fun K "_law_hand" "_law_hand" s__law_hand f fd) : FnOk P w K mg base CX0 1 f fd ["script"] (spHand K Fh) :=
  hand_fn F sc__law_hand fun cdv A outer s H E hr => hand_ps (gf := gName 2) (tt := tYes) (fe := hand_el) (fl := hand_li) (vs := [2]) (ts := [2]) (Og := []) Fh
    (ps_setLc (i := 1) (own := [("cell", 2)]) rfl sc__law_hand.nd rfl rfl (sw_true rfl rfl rfl (by decide +kernel)) pi_scr (blkOk_by rfl) (fun _ _ _ _ _ => (qg_name 2 sc__law_hand.nd).pg) (fun _ _ _ _ _ => qts_nil.pt) (fun _ _ _ _ _ => (show QE _ _ _ hand_el from (qe_abs1 hr T.b_abs (qr_e (qe_int1 hr T.b_int (qr_e (qe_var 2)))))).pe))
    (show QN _ _ _ hand_li from (qn_lst (qa_cons (qe_var 1) (qa_cons qe_int (qa_cons qe_int (qa_cons (qe_bin opq_add qe_int (qe_bin opq_mul qe_int (qe_len T.b_len (qr_e (qe_var 1))))) (qa_cons qe_int qa_nil))))))) (by decide) hand_plain

abbrev s_law : Stmt := topS 34
theorem sc_law : FnScope ["script", "hand", "turn", "m", "face", "faces", "real", "word", "its", "more", "wrong", "some", "due", "told", "other", "offs", "bad", "third", "clash", "pairs", "i", "mark", "one", "at", "a", "b", "j"] ["script"] (defScope s_law) := ⟨rfl, rfl, rfl, by decide +kernel, rfl, by decide +kernel, by decide +kernel⟩
def B_law : SF := (sSeq (sFor (iR1 (eC (.int 8))) (gName 2) (sSeq (sSet 3 (eBin oAdd (eC (.int 1)) (eCall F__law_draw (aCons (eVar 1) (aCons (eC (.int 6)) aNil))))) (sSeq (sSet 5 (eUn oTuple (eComp (iR1 (eBin oAdd (eC (.int 1)) (eCall F__law_draw (aCons (eVar 1) (aCons (eC (.int 8)) aNil))))) (gName 4) tYes (eUn oTuple (eComp (iR1 (eVar 3)) (gName 21) tYes (eCall F__law_draw (aCons (eVar 1) (aCons (eC (.int 5)) aNil))) [21])) [4]))) (sSeq (sSet 6 (eCall F__law_some (aCons (eVar 1) (aCons (eAp oList (aCons (eVar 5) aNil)) aNil)))) (sSeq (sSet 7 (eUn oTuple (eComp (iSeq (eVar 6)) (gName 22) tYes (eIf (tV (eBin oEq (eCall F__law_draw (aCons (eVar 1) (aCons (eC (.int 2)) aNil))) (eC (.int 0)))) (eVar 22) (eC .non)) [22]))) (sSeq (sSet 9 (eUn oTuple (eComp (iZp (eVar 6) (eVar 7)) (gTup 2 (gCons (gName 22) (gCons (gName 8) gNil))) tYes (eIf (tAnd (tV (eBin oIs (eVar 8) (eC .non))) (tV (eBin oEq (eCall F__law_draw (aCons (eVar 1) (aCons (eC (.int 2)) aNil))) (eC (.int 0))))) (eVar 22) (eVar 8)) [22, 8]))) (sSeq (sSet 10 (eCall F__law_draw (aCons (eVar 1) (aCons (eC (.int 3)) aNil)))) (sSeq (sSet 11 (eComp (iEn (eVar 5)) (gTup 2 (gCons (gName 23) (gCons (gName 4) gNil))) (tV (eBin oLeD (eCall F__law_off (aCons (eVar 4) (aCons (eVar 7) aNil))) (eVar 10))) (eVar 23) [23, 4])) (sSeq (sSet 12 (eIf (tV (eBin oEq (eUn oLen (eVar 11)) (eC (.int 1)))) (eAp oTup (aCons (eC (.str [111, 110, 101])) (aCons (eBin oIx (eVar 11) (eC (.int 0))) aNil))) (eAp oTup (aCons (eC (.str [115, 111, 109, 101])) (aCons (eUn oTuple (eVar 11)) aNil))))) (sSeq (sIf (tOr (tNot (tV (eCall (F__law_is 8) (aCons (eCall F_one_or_some (aCons (eVar 5) (aCons (eVar 7) (aCons (eVar 10) aNil)))) (aCons (eVar 12) aNil))))) (tV (eBin oIsNot (eCall F_is_one_or_some (aCons (eVar 5) (aCons (eVar 7) (aCons (eVar 10) (aCons (eVar 12) aNil))))) (eC (.bl true))))) (sRet (eC (.bl false))) sNil) (sSeq (sSet 13 (eCall F_one_or_some (aCons (eVar 5) (aCons (eVar 9) (aCons (eVar 10) aNil))))) (sSeq (sSet 8 (eIf (tV (eBin oEq (eBin oIx (eVar 13) (eC (.int 0))) (eC (.str [111, 110, 101])))) (eAp oLst (aCons (eBin oIx (eVar 13) (eC (.int 1))) aNil)) (eAp oList (aCons (eBin oIx (eVar 13) (eC (.int 1))) aNil)))) (sSeq (sIf (tNot (tV (eUn oAll (eComp (iSeq (eVar 8)) (gName 23) tYes (eBin oIn (eVar 23) (eVar 11)) [23])))) (sRet (eC (.bl false))) sNil) (sSeq (sSet 14 (eBin oAdd (eAp oTup (aCons (eIf (tV (eBin oLtD (eBin oIx (eBin oIx (eVar 5) (eC (.int 0))) (eC (.int 0))) (eC (.int 4)))) (eBin oAdd (eBin oIx (eBin oIx (eVar 5) (eC (.int 0))) (eC (.int 0))) (eC (.int 1))) (eC (.int 0))) aNil)) (eUn oTuple (eComp (iSeq (eSl (eVar 6) (pSome (eC (.int 1))) pNone)) (gName 22) tYes (eBin oSub (eC (.int 4)) (eVar 22)) [22])))) (sSeq (sSet 15 (eComp (iSeq (eVar 5)) (gName 4) tYes (eCall F__law_off (aCons (eVar 4) (aCons (eVar 14) aNil))) [4])) (sSeq (sIf (tV (eBin oGtD (eUn oMin (eVar 15)) (eC (.int 0)))) (sSeq (sIf (tNot (tV (eCall (F__law_is 8) (aCons (eCall F_one_or_some (aCons (eVar 5) (aCons (eVar 14) (aCons (eBin oSub (eUn oMin (eVar 15)) (eC (.int 1))) aNil)))) (aCons (eAp oTup (aCons (eC (.str [110, 111, 110, 101])) (aCons (eUn oMin (eVar 15)) aNil))) aNil))))) (sRet (eC (.bl false))) sNil) (sIf (tV (eBin oIsNot (eCall F_is_one_or_some (aCons (eVar 5) (aCons (eVar 14) (aCons (eBin oSub (eUn oMin (eVar 15)) (eC (.int 1))) (aCons (eAp oTup (aCons (eC (.str [110, 111, 110, 101])) (aCons (eBin oAdd (eUn oMin (eVar 15)) (eC (.int 1))) aNil))) aNil))))) (eC (.bl false)))) (sRet (eC (.bl false))) sNil)) sNil) (sSeq (sSet 16 (eCall F__law_some (aCons (eVar 1) (aCons (eAp oLst (aCons (eC .non) (aCons (eAp oTup aNil) (aCons (eAp oTup (aCons (eC (.str [111, 110, 101])) aNil)) (aCons (eAp oLst (aCons (eC (.str [111, 110, 101])) (aCons (eC (.int 0)) aNil))) (aCons (eAp oTup (aCons (eC (.str [115, 111, 109, 101])) (aCons (eAp oTup (aCons (eC (.int 99)) aNil)) aNil))) (aCons (eAp oTup (aCons (eC (.str [110, 111, 110, 101])) (aCons (eC .non) aNil))) (aCons (eAp oTup (aCons (eC (.str [111, 110, 101])) (aCons (eC .non) aNil))) aNil)))))))) aNil)))) (sSeq (sIf (tV (eBin oIsNot (eCall F_is_one_or_some (aCons (eVar 5) (aCons (eVar 7) (aCons (eVar 10) (aCons (eVar 16) aNil))))) (eC (.bl false)))) (sRet (eC (.bl false))) sNil) (sSeq (sFor (iSeq (eVar 5)) (gName 4) (sIf (tNot (tV (eCall (F__law_is 8) (aCons (eCall F_fits_face (aCons (eVar 4) (aCons (eVar 9) (aCons (eVar 10) aNil)))) (aCons (eBin oLeD (eCall F__law_off (aCons (eVar 4) (aCons (eVar 9) aNil))) (eVar 10)) aNil))))) (sRet (eC (.bl false))) sNil)) (sSeq (sSet 17 (eUn oTuple (eComp (iSeq (eVar 9)) (gName 22) tYes (eIf (tOr (tV (eBin oIs (eVar 22) (eC .non))) (tV (eBin oGtD (eCall F__law_draw (aCons (eVar 1) (aCons (eC (.int 3)) aNil))) (eC (.int 0))))) (eVar 22) (eC .non)) [22]))) (sSeq (sIf (tNot (tV (eCall (F__law_is 8) (aCons (eCall F_joined_words (aCons (eVar 7) (aCons (eVar 17) aNil))) (aCons (eUn oTuple (eComp (iZp (eVar 7) (eVar 17)) (gTup 2 (gCons (gName 24) (gCons (gName 25) gNil))) tYes (eIf (tV (eBin oIs (eVar 24) (eC .non))) (eVar 25) (eVar 24)) [24, 25])) aNil))))) (sRet (eC (.bl false))) sNil) (sSeq (sSet 18 (eUn oTuple (eComp (iSeq (eVar 7)) (gName 22) tYes (eIf (tV (eBin oIs (eVar 22) (eC .non))) (eC .non) (eIf (tV (eBin oNe (eVar 22) (eC (.int 2)))) (eBin oSub (eC (.int 4)) (eVar 22)) (eC (.int 3)))) [22]))) (sSeq (sIf (tAnd (tV (eUn oAny (eComp (iSeq (eVar 7)) (gName 22) tYes (eBin oIsNot (eVar 22) (eC .non)) [22]))) (tV (eBin oIsNot (eCall F_joined_words (aCons (eVar 7) (aCons (eVar 18) aNil))) (eC .non)))) (sRet (eC (.bl false))) sNil) (sSeq (sSet 19 (eAp oLst aNil)) (sSeq (sFor (iEn (eVar 5)) (gTup 2 (gCons (gName 20) (gCons (gName 4) gNil))) (sExt 19 (eComp (iR2 (eBin oAdd (eVar 20) (eC (.int 1))) (eUn oLen (eVar 5))) (gName 26) (tV (eBin oEq (eBin oIx (eVar 5) (eVar 26)) (eVar 4))) (eAp oTup (aCons (eVar 20) (aCons (eVar 26) aNil))) [26]))) (sIf (tNot (tV (eCall (F__law_is 8) (aCons (eCall F_twins_of (aCons (eVar 5) aNil)) (aCons (eUn oTuple (eVar 19)) aNil))))) (sRet (eC (.bl false))) sNil)))))))))))))))))))))))))) (sRet (eBin oEq (eCall F_one_or_some (aCons (eAp oTup (aCons (eAp oTup (aCons (eC (.int 0)) (aCons (eC (.int 1)) aNil))) (aCons (eAp oTup (aCons (eC (.int 1)) (aCons (eC (.int 1)) aNil))) aNil))) (aCons (eAp oTup (aCons (eC .non) (aCons (eC (.int 1)) aNil))) (aCons (eC (.int 0)) aNil)))) (eAp oTup (aCons (eC (.str [115, 111, 109, 101])) (aCons (eAp oTup (aCons (eC (.int 0)) (aCons (eC (.int 1)) aNil))) aNil))))))
def LawOk : Prop := ∀ ns : List Int, ∃ hs', B_law (none :: some .hnd :: List.replicate 25 none) (Fh ns) = some (.rt (.bl true) hs')
theorem fn_law {P : Program} {w : World} {K : PySem.W.Frag} {mg : Str → Option Value} {base : Heap} (T : Txt mg) (c__law_draw : Cl P w K mg base 1 "_law_draw" 2 F__law_draw) (c__law_is : Cl P w K mg base 9 "_law_is" 2 (F__law_is 8)) (c__law_off : Cl P w K mg base 1 "_law_off" 2 F__law_off) (c__law_some : Cl P w K mg base 2 "_law_some" 2 F__law_some) (c_fits_face : Cl P w K mg base 4 "fits_face" 3 F_fits_face) (c_is_one_or_some : Cl P w K mg base 6 "is_one_or_some" 4 F_is_one_or_some) (c_joined_words : Cl P w K mg base 4 "joined_words" 2 F_joined_words) (c_one_or_some : Cl P w K mg base 6 "one_or_some" 3 F_one_or_some) (c_twins_of : Cl P w K mg base 5 "twins_of" 1 F_twins_of) {f fH : Addr} {fd fdH : FuncData} (FH : Fun K "_law_hand" "_law_hand" s__law_hand fH fdH) (hmH : mg "_law_hand" = some (.ref fH)) (hbH : Binds K fdH ["script"] [])
    (F : Fun K "law" "law" s_law f fd) (ok : LawOk) : FnOk P w K mg base CX0 10 f fd ["script"] (spLaw K) :=
  law_fn Fh F sc_law rfl (fun cdv A outer s H E B hr => ⟨law_set (fn__law_hand T FH) hr (by decide) hmH FH.kp hbH sc_law.nd, (show QSs _ _ _ _ _ _ B_law from (qss_cons (qs_for rfl (qi_range1 T.b_range qe_int) (qg_name 2 sc_law.nd) (qss_to [] (qss_cons (qs_set 3 (qe_bin opq_add qe_int (qe_call c__law_draw hr (qa_cons (qe_var 1) (qa_cons qe_int qa_nil)))) sc_law.nd) (qss_cons (qs_set 5 (qe_tuple1 hr T.b_tuple (qr_e (qe_n (qn_lc (own := [("face", 4)]) rfl sc_law.nd (qi_range1 T.b_range (qe_bin opq_add qe_int (qe_call c__law_draw hr (qa_cons (qe_var 1) (qa_cons qe_int qa_nil))))) (blkOk_by rfl) (fun _ _ _ _ _ => (qg_name 4 sc_law.nd)) (fun _ _ _ _ _ => qts_nil) (fun _ _ _ _ _ => (qe_tuple1 hr T.b_tuple (qr_e (qe_n (qn_lc (own := [("mark", 21)]) rfl sc_law.nd (qi_range1 T.b_range (qe_var 3)) (blkOk_by rfl) (fun _ _ _ _ _ => (qg_name 21 sc_law.nd)) (fun _ _ _ _ _ => qts_nil) (fun _ _ _ _ _ => (qe_call c__law_draw hr (qa_cons (qe_var 1) (qa_cons qe_int qa_nil))))))))))))) sc_law.nd) (qss_cons (qs_set 6 (qe_call c__law_some hr (qa_cons (qe_var 1) (qa_cons (qe_n (qn_callTy calln_list T.b_list (qa_cons (qe_var 5) qa_nil) (by decide +kernel))) qa_nil))) sc_law.nd) (qss_cons (qs_set 7 (qe_tuple1 hr T.b_tuple (qr_e (qe_n (qn_lc (own := [("one", 22)]) rfl sc_law.nd (qi_seq (qe_var 6)) (blkOk_by rfl) (fun _ _ _ _ _ => (qg_name 22 sc_law.nd)) (fun _ _ _ _ _ => qts_nil) (fun _ _ _ _ _ => (qe_ifExp (qt_cmp (opq_eq hr.units) (qe_call c__law_draw hr (qa_cons (qe_var 1) (qa_cons qe_int qa_nil))) qe_int (nomark _)) (qe_var 22) qe_non)))))) sc_law.nd) (qss_cons (qs_set 9 (qe_tuple1 hr T.b_tuple (qr_e (qe_n (qn_lc (own := [("one", 22), ("its", 8)]) rfl sc_law.nd (qi_zip rfl T.b_zip (qe_var 6) (qe_var 7)) (blkOk_by rfl) (fun _ _ _ _ _ => (qg_tup 2 rfl (qgs_cons (qg_name 22 sc_law.nd) (qgs_cons (qg_name 8 sc_law.nd) qgs_nil)))) (fun _ _ _ _ _ => qts_nil) (fun _ _ _ _ _ => (qe_ifExp (qw_and (qt_cmp (opq_is) (qe_var 8) qe_non (nomark _)) (qw_and1 (qt_cmp (opq_eq hr.units) (qe_call c__law_draw hr (qa_cons (qe_var 1) (qa_cons qe_int qa_nil))) qe_int (nomark _)))).qt (qe_var 22) (qe_var 8))))))) sc_law.nd) (qss_cons (qs_set 10 (qe_call c__law_draw hr (qa_cons (qe_var 1) (qa_cons qe_int qa_nil))) sc_law.nd) (qss_cons (qs_set 11 (qe_n (qn_lc (own := [("at", 23), ("face", 4)]) rfl sc_law.nd (qi_enum rfl T.b_enumerate (qe_var 5)) (blkOk_by rfl) (fun _ _ _ _ _ => (qg_tup 2 rfl (qgs_cons (qg_name 23 sc_law.nd) (qgs_cons (qg_name 4 sc_law.nd) qgs_nil)))) (fun _ _ _ _ _ => (qts_one (qt_cmp (opd_le hr.units) (qe_call c__law_off hr (qa_cons (qe_var 4) (qa_cons (qe_var 7) qa_nil))) (qe_var 10) (nomark _)))) (fun _ _ _ _ _ => (qe_var 23)))) sc_law.nd) (qss_cons (qs_set 12 (qe_ifExp (qt_cmp (opq_eq hr.units) (qe_len T.b_len (qr_e (qe_var 11))) qe_int (nomark _)) (qe_tup (qa_cons (qe_str [111, 110, 101]) (qa_cons (qe_sub (hu_of hr) (qr_e (qe_var 11)) qe_int) qa_nil))) (qe_tup (qa_cons (qe_str [115, 111, 109, 101]) (qa_cons (qe_tuple1 hr T.b_tuple (qr_e (qe_var 11))) qa_nil)))) sc_law.nd) (qss_cons (qs_if (qw_or (qt_not (qt_val (qe_call c__law_is hr (qa_cons (qe_call c_one_or_some hr (qa_cons (qe_var 5) (qa_cons (qe_var 7) (qa_cons (qe_var 10) qa_nil)))) (qa_cons (qe_var 12) qa_nil))))) (qw_or1 (qt_cmp (opq_isnot) (qe_call c_is_one_or_some hr (qa_cons (qe_var 5) (qa_cons (qe_var 7) (qa_cons (qe_var 10) (qa_cons (qe_var 12) qa_nil))))) qe_bl (nomark _)))).qt (qss_one (qs_ret qe_bl)) qss_nil) (qss_cons (qs_set 13 (qe_call c_one_or_some hr (qa_cons (qe_var 5) (qa_cons (qe_var 9) (qa_cons (qe_var 10) qa_nil)))) sc_law.nd) (qss_cons (qs_set 8 (qe_ifExp (qt_cmp (opq_eq hr.units) (qe_sub (hu_of hr) (qr_e (qe_var 13)) qe_int) (qe_str [111, 110, 101]) (nomark _)) (qe_n (qn_lst (qa_cons (qe_sub (hu_of hr) (qr_e (qe_var 13)) qe_int) qa_nil))) (qe_n (qn_callTy calln_list T.b_list (qa_cons (qe_sub (hu_of hr) (qr_e (qe_var 13)) qe_int) qa_nil) (by decide +kernel)))) sc_law.nd) (qss_cons (qs_if (qt_not (qt_val (qe_all1 hr T.b_all (qr_e (qe_n (qn_lc (own := [("at", 23)]) rfl sc_law.nd (qi_seq (qe_var 8)) (blkOk_by rfl) (fun _ _ _ _ _ => (qg_name 23 sc_law.nd)) (fun _ _ _ _ _ => qts_nil) (fun _ _ _ _ _ => (qe_in hr.units (qe_var 23) (qr_e (qe_var 11)))))))))) (qss_one (qs_ret qe_bl)) qss_nil) (qss_cons (qs_set 14 (qe_bin opq_add (qe_tup (qa_cons (qe_ifExp (qt_cmp (opd_lt hr.units) (qe_sub (hu_of hr) (qr_e (qe_sub (hu_of hr) (qr_e (qe_var 5)) qe_int)) qe_int) qe_int (nomark _)) (qe_bin opq_add (qe_sub (hu_of hr) (qr_e (qe_sub (hu_of hr) (qr_e (qe_var 5)) qe_int)) qe_int) qe_int) qe_int) qa_nil)) (qe_tuple1 hr T.b_tuple (qr_e (qe_n (qn_lc (own := [("one", 22)]) rfl sc_law.nd (qi_seq (qe_slice (qe_var 6) (qp_some qe_int) qp_none)) (blkOk_by rfl) (fun _ _ _ _ _ => (qg_name 22 sc_law.nd)) (fun _ _ _ _ _ => qts_nil) (fun _ _ _ _ _ => (qe_bin opq_sub qe_int (qe_var 22)))))))) sc_law.nd) (qss_cons (qs_setLcE 15 (own := [("face", 4)]) rfl sc_law.nd (qi_seq (qe_var 5)) (blkOk_by rfl) (fun _ _ _ _ _ => (qg_name 4 sc_law.nd)) (fun _ _ _ _ _ => qts_nil) (fun _ _ _ _ _ => (qe_call c__law_off hr (qa_cons (qe_var 4) (qa_cons (qe_var 14) qa_nil)))) (sw_true rfl rfl rfl (by decide +kernel))) (qss_cons (qs_if (qt_cmp (opd_gt hr.units) (qe_min1 hr T.b_min (qr_e (qe_var 15))) qe_int (nomark _)) (qss_cons (qs_if (qt_not (qt_val (qe_call c__law_is hr (qa_cons (qe_call c_one_or_some hr (qa_cons (qe_var 5) (qa_cons (qe_var 14) (qa_cons (qe_bin opq_sub (qe_min1 hr T.b_min (qr_e (qe_var 15))) qe_int) qa_nil)))) (qa_cons (qe_tup (qa_cons (qe_str [110, 111, 110, 101]) (qa_cons (qe_min1 hr T.b_min (qr_e (qe_var 15))) qa_nil))) qa_nil))))) (qss_one (qs_ret qe_bl)) qss_nil) (qss_one (qs_if (qt_cmp (opq_isnot) (qe_call c_is_one_or_some hr (qa_cons (qe_var 5) (qa_cons (qe_var 14) (qa_cons (qe_bin opq_sub (qe_min1 hr T.b_min (qr_e (qe_var 15))) qe_int) (qa_cons (qe_tup (qa_cons (qe_str [110, 111, 110, 101]) (qa_cons (qe_bin opq_add (qe_min1 hr T.b_min (qr_e (qe_var 15))) qe_int) qa_nil))) qa_nil))))) qe_bl (nomark _)) (qss_one (qs_ret qe_bl)) qss_nil))) qss_nil) (qss_cons (qs_set 16 (qe_call c__law_some hr (qa_cons (qe_var 1) (qa_cons (qe_n (qn_lst (qa_cons qe_non (qa_cons (qe_tup qa_nil) (qa_cons (qe_tup (qa_cons (qe_str [111, 110, 101]) qa_nil)) (qa_cons (qe_n (qn_lst (qa_cons (qe_str [111, 110, 101]) (qa_cons qe_int qa_nil)))) (qa_cons (qe_tup (qa_cons (qe_str [115, 111, 109, 101]) (qa_cons (qe_tup (qa_cons qe_int qa_nil)) qa_nil))) (qa_cons (qe_tup (qa_cons (qe_str [110, 111, 110, 101]) (qa_cons qe_non qa_nil))) (qa_cons (qe_tup (qa_cons (qe_str [111, 110, 101]) (qa_cons qe_non qa_nil))) qa_nil))))))))) qa_nil))) sc_law.nd) (qss_cons (qs_if (qt_cmp (opq_isnot) (qe_call c_is_one_or_some hr (qa_cons (qe_var 5) (qa_cons (qe_var 7) (qa_cons (qe_var 10) (qa_cons (qe_var 16) qa_nil))))) qe_bl (nomark _)) (qss_one (qs_ret qe_bl)) qss_nil) (qss_cons (qs_for rfl (qi_seq (qe_var 5)) (qg_name 4 sc_law.nd) (qss_one (qs_if (qt_not (qt_val (qe_call c__law_is hr (qa_cons (qe_call c_fits_face hr (qa_cons (qe_var 4) (qa_cons (qe_var 9) (qa_cons (qe_var 10) qa_nil)))) (qa_cons (qe_cmp (opd_le hr.units) (qe_call c__law_off hr (qa_cons (qe_var 4) (qa_cons (qe_var 9) qa_nil))) (qe_var 10) (nomark _)) qa_nil))))) (qss_one (qs_ret qe_bl)) qss_nil))) (qss_cons (qs_set 17 (qe_tuple1 hr T.b_tuple (qr_e (qe_n (qn_lc (own := [("one", 22)]) rfl sc_law.nd (qi_seq (qe_var 9)) (blkOk_by rfl) (fun _ _ _ _ _ => (qg_name 22 sc_law.nd)) (fun _ _ _ _ _ => qts_nil) (fun _ _ _ _ _ => (qe_ifExp (qw_or (qt_cmp (opq_is) (qe_var 22) qe_non (nomark _)) (qw_or1 (qt_cmp (opd_gt hr.units) (qe_call c__law_draw hr (qa_cons (qe_var 1) (qa_cons qe_int qa_nil))) qe_int (nomark _)))).qt (qe_var 22) qe_non)))))) sc_law.nd) (qss_cons (qs_if (qt_not (qt_val (qe_call c__law_is hr (qa_cons (qe_call c_joined_words hr (qa_cons (qe_var 7) (qa_cons (qe_var 17) qa_nil))) (qa_cons (qe_tuple1 hr T.b_tuple (qr_e (qe_n (qn_lc (own := [("a", 24), ("b", 25)]) rfl sc_law.nd (qi_zip rfl T.b_zip (qe_var 7) (qe_var 17)) (blkOk_by rfl) (fun _ _ _ _ _ => (qg_tup 2 rfl (qgs_cons (qg_name 24 sc_law.nd) (qgs_cons (qg_name 25 sc_law.nd) qgs_nil)))) (fun _ _ _ _ _ => qts_nil) (fun _ _ _ _ _ => (qe_ifExp (qt_cmp (opq_is) (qe_var 24) qe_non (nomark _)) (qe_var 25) (qe_var 24))))))) qa_nil))))) (qss_one (qs_ret qe_bl)) qss_nil) (qss_cons (qs_set 18 (qe_tuple1 hr T.b_tuple (qr_e (qe_n (qn_lc (own := [("one", 22)]) rfl sc_law.nd (qi_seq (qe_var 7)) (blkOk_by rfl) (fun _ _ _ _ _ => (qg_name 22 sc_law.nd)) (fun _ _ _ _ _ => qts_nil) (fun _ _ _ _ _ => (qe_ifExp (qt_cmp (opq_is) (qe_var 22) qe_non (nomark _)) qe_non (qe_ifExp (qt_cmp (opq_ne hr.units) (qe_var 22) qe_int (nomark _)) (qe_bin opq_sub qe_int (qe_var 22)) qe_int))))))) sc_law.nd) (qss_cons (qs_if (qw_and (qt_val (qe_any1 hr T.b_any (qr_e (qe_n (qn_lc (own := [("one", 22)]) rfl sc_law.nd (qi_seq (qe_var 7)) (blkOk_by rfl) (fun _ _ _ _ _ => (qg_name 22 sc_law.nd)) (fun _ _ _ _ _ => qts_nil) (fun _ _ _ _ _ => (qe_cmp (opq_isnot) (qe_var 22) qe_non (nomark _)))))))) (qw_and1 (qt_cmp (opq_isnot) (qe_call c_joined_words hr (qa_cons (qe_var 7) (qa_cons (qe_var 18) qa_nil))) qe_non (nomark _)))).qt (qss_one (qs_ret qe_bl)) qss_nil) (qss_cons (qs_setN 19 (qn_lst qa_nil) sc_law.nd) (qss_cons (qs_for rfl (qi_enum rfl T.b_enumerate (qe_var 5)) (qg_tup 2 rfl (qgs_cons (qg_name 20 sc_law.nd) (qgs_cons (qg_name 4 sc_law.nd) qgs_nil))) (qss_one (qs_extend 19 (qe_n (qn_lc (own := [("j", 26)]) rfl sc_law.nd (qi_range2 T.b_range (qe_bin opq_add (qe_var 20) qe_int) (qe_len T.b_len (qr_e (qe_var 5)))) (blkOk_by rfl) (fun _ _ _ _ _ => (qg_name 26 sc_law.nd)) (fun _ _ _ _ _ => (qts_one (qt_cmp (opq_eq hr.units) (qe_sub (hu_of hr) (qr_e (qe_var 5)) (qe_var 26)) (qe_var 4) (nomark _)))) (fun _ _ _ _ _ => (qe_tup (qa_cons (qe_var 20) (qa_cons (qe_var 26) qa_nil))))))))) (qss_one (qs_if (qt_not (qt_val (qe_call c__law_is hr (qa_cons (qe_call c_twins_of hr (qa_cons (qe_var 5) qa_nil)) (qa_cons (qe_tuple1 hr T.b_tuple (qr_own 19)) qa_nil))))) (qss_one (qs_ret qe_bl)) qss_nil)))))))))))))))))))))))))))) (qss_one (qs_ret (qe_cmp (opq_eq hr.units) (qe_call c_one_or_some hr (qa_cons (qe_tup (qa_cons (qe_tup (qa_cons qe_int (qa_cons qe_int qa_nil))) (qa_cons (qe_tup (qa_cons qe_int (qa_cons qe_int qa_nil))) qa_nil))) (qa_cons (qe_tup (qa_cons qe_non (qa_cons qe_int qa_nil))) (qa_cons qe_int qa_nil)))) (qe_tup (qa_cons (qe_str [115, 111, 109, 101]) (qa_cons (qe_tup (qa_cons qe_int (qa_cons qe_int qa_nil))) qa_nil))) (nomark _))))))⟩) ok

end Law

namespace Law
open PySem PySem.Spec PyProof.Rows L2 L2.VI
open L2.VI (tAnd tOr tNot gName gNil gCons gTup tYes)
theorem within_ok (x lo hi : Int) (hs : Hnd) : F_is_within [.int x, .int lo, .int hi] hs = some (.bl (decide (lo ≤ x ∧ x ≤ hi)), hs) := by
  by_cases h1 : lo ≤ x <;> by_cases h2 : x ≤ hi <;>
  simp [F_is_within, fnF, B_is_within, F_is_integer, B_is_integer, sRet, eIf, tV, eCall, aCons, aNil, eVar, eUn, oIsi, tyN, isT, eT, VI.tNot, eC, eChain, oLeD, oLe, h1, h2]
theorem within_non (lo hi : Int) (hs : Hnd) : F_is_within [.non, .int lo, .int hi] hs = some (.bl false, hs) := rfl
theorem tuple_ok (xs : List D) (lo hi : Int) (hs : Hnd) : F_is_tuple [.tup xs, .int lo, .int hi] hs = some (.bl (decide (lo ≤ xs.length ∧ (xs.length : Int) ≤ hi)), hs) := by
  by_cases h1 : lo ≤ (xs.length : Int) <;> by_cases h2 : (xs.length : Int) ≤ hi <;>
  simp [F_is_tuple, fnF, B_is_tuple, sRet, eIf, tV, eCall, aCons, aNil, eVar, eUn, oIsi, tyN, isT, eT, VI.tNot, eC, eChain, oLeD, oLe, oLen, h1, h2]
def Fc (m : Nat) (f : List Int) : Prop := f.length = m ∧ ∀ x ∈ f, 0 ≤ x ∧ x ≤ 4
def Wd (m : Nat) (w : List (Option Int)) : Prop := w.length = m ∧ ∀ x, some x ∈ w → 0 ≤ x ∧ x ≤ 4
def faceD (f : List Int) : D := .tup (f.map .int)
def wordD (w : List (Option Int)) : D := .tup (w.map optI)
theorem is_face_ok {m : Nat} {f : List Int} (h : Fc m f) (hm : m ≤ 6) (hs : Hnd) : F_is_face [faceD f, .int (m : Nat)] hs = some (.bl true, hs) := by
  have hl := h.1
  have t : F_is_tuple [faceD f, .int (m : Nat), .int (m : Nat)] hs = some (.bl true, hs) := by
    unfold faceD
    rw [tuple_ok, decide_eq_true (by rw [List.length_map, hl]; omega)]
  have c : compL (gName 2) tYes (eCall F_is_within (aCons (eVar 2) (aCons (eC (.int 0)) (aCons (eC (.int 4)) aNil)))) [some (faceD f), some (.int (m : Nat)), none] (f.map .int) hs = some (f.map fun _ => .bl true, hs) :=
    compL_all D.int _ f fun x hx => ⟨_, rfl, (eCall_eq (ds := [.int x, .int 0, .int 4]) rfl).trans (by rw [within_ok, decide_eq_true (h.2 x hx)])⟩
  unfold F_is_face B_is_face
  refine fnF_rt (sRet_eq ?_)
  rw [eIf_t (hs1 := hs) (tV_eq ((eCall_eq (ds := [faceD f, .int (m : Nat), .int (m : Nat)]) rfl).trans t))]
  exact eUn_eq (eComp_eq (iSeq_tup rfl) (by simp; omega) c) (all_true f)
theorem is_word_ok {m : Nat} {w : List (Option Int)} (h : Wd m w) (hm : m ≤ 6) (hs : Hnd) : F_is_word [wordD w, .int (m : Nat)] hs = some (.bl true, hs) := by
  have hl := h.1
  have t : F_is_tuple [wordD w, .int (m : Nat), .int (m : Nat)] hs = some (.bl true, hs) := by
    unfold wordD
    rw [tuple_ok, decide_eq_true (by rw [List.length_map, hl]; omega)]
  have c : compL (gName 2) tYes (eIf (tV (eBin oIs (eVar 2) (eC .non))) (eC (.bl true)) (eCall F_is_within (aCons (eVar 2) (aCons (eC (.int 0)) (aCons (eC (.int 4)) aNil))))) [some (wordD w), some (.int (m : Nat)), none] (w.map optI) hs = some (w.map fun _ => .bl true, hs) :=
    compL_all optI _ w fun o ho => ⟨[some (wordD w), some (.int (m : Nat)), some (optI o)], rfl, by
      cases o with
      | none => rfl
      | some x =>
        rw [eIf_f (hs1 := hs) (tV_eq (eBin_eq (x := .int x) (y := .non) (hs1 := hs) (hs2 := hs) rfl rfl rfl))]
        exact (eCall_eq (ds := [.int x, .int 0, .int 4]) rfl).trans (by rw [within_ok, decide_eq_true (h.2 x ho)])⟩
  unfold F_is_word B_is_word
  refine fnF_rt (sRet_eq ?_)
  rw [eIf_t (hs1 := hs) (tV_eq ((eCall_eq (ds := [wordD w, .int (m : Nat), .int (m : Nat)]) rfl).trans t))]
  exact eUn_eq (eComp_eq (iSeq_tup rfl) (by simp; omega) c) (all_true w)
def offP (p : Int × Option Int) : Bool := p.2.isSome && decide (p.2 ≠ some p.1)
def offN (f : List Int) (w : List (Option Int)) : Nat := ((f.zip w).filter offP).length
theorem wrong_in_ok {f : List Int} {w : List (Option Int)} (hl : f.length ≤ 1000) (hs : Hnd) : F_wrong_in [faceD f, wordD w] hs = some (.int (offN f w), hs) := by
  unfold F_wrong_in B_wrong_in
  refine fnF_rt (sRet_eq (eUn_eq (x := .lst (((f.zip w).filter offP).map fun _ => .int 1)) ?_ (by simp [oLen, offN])))
  refine eComp_eq (ds := (f.zip w).map fun p => .tup [.int p.1, optI p.2]) (by rw [iZp_eq (xs := f.map .int) (ys := w.map optI) (rfl : eVar 0 _ hs = some (faceD f, hs)) (rfl : eVar 1 _ hs = some (wordD w, hs)) rfl rfl, zip_maps]) (by simp; omega) ?_
  exact compL_of (fun p : Int × Option Int => D.tup [.int p.1, optI p.2]) offP (fun _ => .int 1) _ fun p _ => ⟨[some (faceD f), some (wordD w), some (.int p.1), some (optI p.2)], rfl, by
    have e := optI_ne p.2 (some p.1)
    have e' : oNe (optI p.2) (.int p.1) = some (.bl (decide (p.2 ≠ some p.1))) := e
    unfold offP
    cases h : p.2.isSome with
    | false => rw [tAnd_f (hs1 := hs) (tV_eq (eBin_eq (x := optI p.2) (y := .non) (hs1 := hs) (hs2 := hs) rfl rfl (by rw [optI_isNot, h])))]; rfl
    | true =>
      rw [tAnd_t (hs1 := hs) (tV_eq (eBin_eq (x := optI p.2) (y := .non) (hs1 := hs) (hs2 := hs) rfl rfl (by rw [optI_isNot, h])))]
      rw [Bool.true_and]
      exact tV_eq (eBin_eq (x := optI p.2) (y := .int p.1) (hs1 := hs) (hs2 := hs) rfl rfl e'), fun _ => rfl⟩
theorem law_off_ok {f : List Int} {w : List (Option Int)} (hl : f.length ≤ 1000) (hs : Hnd) : F__law_off [faceD f, wordD w] hs = some (.int (offN f w), hs) := by
  unfold F__law_off B__law_off
  refine fnF_rt (sRet_eq (eUn_eq (x := .lst (((f.zip w).filter offP).map fun _ => .int 1)) ?_ (by simp [oLen, offN])))
  refine eComp_eq (ds := (f.zip w).map fun p => .tup [.int p.1, optI p.2]) (by rw [iZp_eq (xs := f.map .int) (ys := w.map optI) (rfl : eVar 0 _ hs = some (faceD f, hs)) (rfl : eVar 1 _ hs = some (wordD w, hs)) rfl rfl, zip_maps]) (by simp; omega) ?_
  exact compL_of (fun p : Int × Option Int => D.tup [.int p.1, optI p.2]) offP (fun _ => .int 1) _ fun p _ => ⟨[some (faceD f), some (wordD w), some (.int p.1), some (optI p.2)], rfl, by
    have e := optI_ne (some p.1) p.2
    have e2 : decide (some p.1 ≠ p.2) = decide (p.2 ≠ some p.1) := decide_eq_decide.mpr ⟨fun h z => h z.symm, fun h z => h z.symm⟩
    have e' : oNe (.int p.1) (optI p.2) = some (.bl (decide (p.2 ≠ some p.1))) := by rw [← e2]; exact e
    unfold offP
    cases h : p.2.isSome with
    | false => rw [tAnd_f (hs1 := hs) (tV_eq (eBin_eq (x := optI p.2) (y := .non) (hs1 := hs) (hs2 := hs) rfl rfl (by rw [optI_isNot, h])))]; rfl
    | true =>
      rw [tAnd_t (hs1 := hs) (tV_eq (eBin_eq (x := optI p.2) (y := .non) (hs1 := hs) (hs2 := hs) rfl rfl (by rw [optI_isNot, h])))]
      rw [Bool.true_and]
      exact tV_eq (eBin_eq (x := .int p.1) (y := optI p.2) (hs1 := hs) (hs2 := hs) rfl rfl e'), fun _ => rfl⟩
structure Fs (m : Nat) (fs : List (List Int)) : Prop where
  m1 : 1 ≤ m
  m6 : m ≤ 6
  l1 : 1 ≤ fs.length
  l8 : fs.length ≤ 8
  each : ∀ f ∈ fs, Fc m f
abbrev fsD (fs : List (List Int)) : D := .tup (fs.map faceD)
theorem fs_len {m : Nat} {fs : List (List Int)} (h : Fs m fs) : ∃ f, fs[0]? = some f ∧ f.length = m := by
  have := h.l1
  exact ⟨fs[0], List.getElem?_eq_getElem (by omega), (h.each _ (List.getElem_mem _)).1⟩
theorem fs_first {m : Nat} {fs : List (List Int)} (h : Fs m fs) : ∃ f, fs[0]? = some f ∧ oIx (fsD fs) (.int 0) = some (faceD f) ∧ oLen (faceD f) = some (.int (m : Nat)) := by
  obtain ⟨f, h1, h2⟩ := fs_len h
  refine ⟨f, h1, oIx_tup (i := 0) (by rw [List.getElem?_map, h1]; rfl), by simp [oLen, faceD, h2]⟩
theorem check_faces_ok {m : Nat} {fs : List (List Int)} (h : Fs m fs) (hs : Hnd) : F_check_faces [fsD fs] hs = some (.non, hs) := by
  obtain ⟨f, h1, h2, h3⟩ := fs_first h
  have hl1 := h.l1
  have hl8 := h.l8
  have hm1 := h.m1
  have hm6 := h.m6
  have hf : f.length = m := by
    have : oLen (faceD f) = some (.int (f.length : Nat)) := by simp [oLen, faceD]
    rw [this] at h3
    have := Option.some.inj h3
    injection this with this
    omega
  have t1 : F_is_tuple [fsD fs, .int 1, .int 8] hs = some (.bl true, hs) := by rw [tuple_ok, decide_eq_true (by rw [List.length_map]; omega)]
  have t2 : F_is_tuple [faceD f, .int 1, .int 6] hs = some (.bl true, hs) := by unfold faceD; rw [tuple_ok, decide_eq_true (by rw [List.length_map, hf]; omega)]
  have ix : ∀ (sl : Sl), sl[0]? = some (some (fsD fs)) → eBin oIx (eVar 0) (eC (.int 0)) sl hs = some (faceD f, hs) := fun sl h0 => eBin_eq (x := fsD fs) (y := .int 0) (hs1 := hs) (hs2 := hs) (by simp [eVar, h0]) rfl h2
  have c : compL (gName 1) tYes (eCall F_is_face (aCons (eVar 1) (aCons (eUn oLen (eBin oIx (eVar 0) (eC (.int 0)))) aNil))) [some (fsD fs), none] (fs.map faceD) hs = some (fs.map fun _ => .bl true, hs) :=
    compL_all faceD _ fs fun g hg => ⟨[some (fsD fs), some (faceD g)], rfl, (eCall_eq (ds := [faceD g, .int (m : Nat)]) (aCons_eq (hs1 := hs) rfl (aCons_eq (hs1 := hs) (eUn_eq (ix _ rfl) h3) aNil_eq))).trans (is_face_ok (h.each g hg) hm6 hs)⟩
  unfold F_check_faces B_check_faces
  refine fnF_nx (sl1 := [some (fsD fs), none]) ?_
  show _ = some (Out.nx [some (fsD fs), none] hs)
  simp only [List.map_cons, List.map_nil, List.length_cons, List.length_nil, Nat.reduceAdd, Nat.reduceSub, List.replicate, List.cons_append, List.nil_append]
  rw [sSeq_eq (hs1 := hs) (sl1 := [some (fsD fs), none]) (by
    rw [sIf_f (hs1 := hs)]
    · rfl
    · rw [tOr_f (hs1 := hs) (tNot_eq (b := true) (tV_eq ((eCall_eq (ds := [fsD fs, .int 1, .int 8]) rfl).trans t1)))]
      exact tNot_eq (b := true) (tV_eq ((eCall_eq (ds := [faceD f, .int 1, .int 6]) (aCons_eq (hs1 := hs) (ix _ rfl) rfl)).trans t2)))]
  rw [sIf_f (hs1 := hs)]
  · rfl
  · exact tNot_eq (b := true) (tV_eq (eUn_eq (eComp_eq (iSeq_tup rfl) (by simp; omega) c) (all_true fs)))
theorem check_wrong_ok {k : Int} (h : 0 ≤ k ∧ k ≤ 6) (hs : Hnd) : F_check_wrong [.int k] hs = some (.non, hs) := by
  have t : F_is_within [.int k, .int 0, .int 6] hs = some (.bl true, hs) := by rw [within_ok, decide_eq_true h]
  unfold F_check_wrong B_check_wrong
  refine fnF_nx (sl1 := [some (.int k)]) ?_
  show _ = some (Out.nx [some (.int k)] hs)
  simp only [List.map_cons, List.map_nil, List.length_cons, List.length_nil, Nat.reduceAdd, Nat.reduceSub, List.replicate, List.cons_append, List.nil_append]
  rw [sIf_f (hs1 := hs)]
  · rfl
  · exact tNot_eq (b := true) (tV_eq ((eCall_eq (ds := [.int k, .int 0, .int 6]) rfl).trans t))
theorem check_told_ok {m : Nat} {fs : List (List Int)} (h : Fs m fs) {w : List (Option Int)} (hw : Wd m w) {k : Int} (hk : 0 ≤ k ∧ k ≤ 6) (hs : Hnd) : F_check_told [fsD fs, wordD w, .int k] hs = some (.non, hs) := by
  obtain ⟨f, h1, h2, h3⟩ := fs_first h
  unfold F_check_told B_check_told
  refine fnF_nx (sl1 := [some (fsD fs), some (wordD w), some (.int k)]) ?_
  show _ = some (Out.nx [some (fsD fs), some (wordD w), some (.int k)] hs)
  simp only [List.map_cons, List.map_nil, List.length_cons, List.length_nil, Nat.reduceAdd, Nat.reduceSub, List.replicate, List.cons_append, List.nil_append]
  rw [sSeq_eq (sExpr_eq ((eCall_eq (ds := [fsD fs]) (hs1 := hs) rfl).trans (check_faces_ok h hs)))]
  rw [sSeq_eq (hs1 := hs) (sl1 := [some (fsD fs), some (wordD w), some (.int k)]) (by
    rw [sIf_f (hs1 := hs)]
    · rfl
    · exact tNot_eq (b := true) (tV_eq ((eCall_eq (ds := [wordD w, .int (m : Nat)]) (aCons_eq (hs1 := hs) rfl (aCons_eq (hs1 := hs) (eUn_eq (eBin_eq (x := fsD fs) (y := .int 0) (hs1 := hs) (hs2 := hs) rfl rfl h2) h3) aNil_eq))).trans (is_word_ok hw h.m6 hs))))]
  exact sExpr_eq ((eCall_eq (ds := [.int k]) (hs1 := hs) rfl).trans (check_wrong_ok hk hs))
end Law

namespace Law
open PySem PySem.Spec PyProof.Rows L2 L2.VI
open L2.VI (tAnd tOr tNot gName gNil gCons gTup tYes)
/-! ### what is told -/
def noneS : List Nat := [110, 111, 110, 101]
def oneS : List Nat := [111, 110, 101]
def someS : List Nat := [115, 111, 109, 101]
theorem min_ints2 (x : Int) (xs : List Int) : ∃ M : Int, oMin (.lst ((x :: xs).map .int)) = some (.int M) ∧ M ∈ x :: xs ∧ ∀ y ∈ x :: xs, M ≤ y := by
  have e : ∀ (xs : List Int) (x : Int), ∃ M, minDs (.int x) (xs.map .int) = .int M ∧ M ∈ x :: xs ∧ ∀ y ∈ x :: xs, M ≤ y := by
    intro xs
    induction xs with
    | nil => intro x; exact ⟨x, rfl, by simp, by simp⟩
    | cons y ys ih =>
      intro x
      simp only [minDs, List.map_cons, List.foldl_cons, dLt] at ih ⊢
      by_cases h : y < x
      · simp only [decide_eq_true h, if_true]
        obtain ⟨M, h1, h2, h3⟩ := ih y
        exact ⟨M, h1, List.mem_cons_of_mem _ h2, fun z hz => by
          rcases List.mem_cons.mp hz with rfl | hz
          · have := h3 y List.mem_cons_self; omega
          · exact h3 z hz⟩
      · simp only [decide_eq_false h, Bool.false_eq_true, if_false]
        obtain ⟨M, h1, h2, h3⟩ := ih x
        refine ⟨M, h1, ?_, fun z hz => ?_⟩
        · rcases List.mem_cons.mp h2 with rfl | h2
          · exact List.mem_cons_self
          · exact List.mem_cons_of_mem _ (List.mem_cons_of_mem _ h2)
        · rcases List.mem_cons.mp hz with rfl | hz
          · exact h3 z List.mem_cons_self
          · rcases List.mem_cons.mp hz with rfl | hz
            · have := h3 x List.mem_cons_self; omega
            · exact h3 z (List.mem_cons_of_mem _ hz)
  obtain ⟨M, hM, h2, h3⟩ := e xs x
  refine ⟨M, ?_, h2, h3⟩
  have ok : okCmp ((x :: xs).map D.int) = true := by
    simp only [okCmp, List.all_map, Bool.and_eq_true, List.all_eq_true, Function.comp]
    exact ⟨fun y _ => sh_int 60 y, fun y _ z _ => rfl, fun y _ => by first | trivial | rfl⟩
  rw [List.map_cons] at ok ⊢
  simp only [oMin, ok, if_true, hM]
def offsL (fs : List (List Int)) (w : List (Option Int)) : List Int := fs.map fun f => (offN f w : Int)
theorem offs_min {m : Nat} {fs : List (List Int)} (h : Fs m fs) (w : List (Option Int)) : ∃ M : Int, oMin (.lst ((offsL fs w).map .int)) = some (.int M) ∧ M ∈ offsL fs w ∧ ∀ y ∈ offsL fs w, M ≤ y := by
  have h1 := h.l1
  cases fs with
  | nil => simp at h1
  | cons f fs => exact min_ints2 _ _
def lotL (fs : List (List Int)) (w : List (Option Int)) (k : Int) : List Int := (fs.zipIdx.filter fun p => decide ((offN p.1 w : Int) ≤ k)).map fun p => ((p.2 : Nat) : Int)
def toldD (lot : List Int) (mn : Int) : D := match lot with
  | [] => .tup [.str noneS, .int mn]
  | [x] => .tup [.str oneS, .int x]
  | x :: y :: r => .tup [.str someS, .tup ((x :: y :: r).map .int)]
theorem fc_len {m : Nat} {fs : List (List Int)} (h : Fs m fs) {f : List Int} (hf : f ∈ fs) : f.length ≤ 1000 := by
  have := (h.each f hf).1
  have := h.m6
  omega
theorem told_of_ok {m : Nat} {fs : List (List Int)} (h : Fs m fs) (w : List (Option Int)) (k : Int) {mn : Int} (hmn : oMin (.lst ((offsL fs w).map .int)) = some (.int mn)) (hs : Hnd) : F_told_of [fsD fs, wordD w, .int k] hs = some (toldD (lotL fs w k) mn, hs) := by
  have hl8 := h.l8
  have c1 : compL (gName 5) tYes (eCall F_wrong_in (aCons (eVar 5) (aCons (eVar 1) aNil))) [some (fsD fs), some (wordD w), some (.int k), none, none, none, none, none] (fs.map faceD) hs = some ((offsL fs w).map .int, hs) := by
    have e : (offsL fs w).map D.int = fs.map fun f => D.int (offN f w : Int) := by unfold offsL; rw [List.map_map]; rfl
    rw [e]
    exact compL_all faceD _ fs fun f hf => ⟨_, rfl, (eCall_eq (ds := [faceD f, wordD w]) rfl).trans (wrong_in_ok (fc_len h hf) hs)⟩
  have c2 : ∀ a b, compL (gTup 2 (gCons (gName 6) (gCons (gName 7) gNil))) (tV (eBin oLeD (eVar 7) (eVar 2))) (eVar 6) [some (fsD fs), some (wordD w), some (.int k), some (.lst ((offsL fs w).map .int)), a, b, none, none] (fs.zipIdx.map fun p => .tup [.int (p.2 : Nat), .int (offN p.1 w : Int)]) hs = some ((lotL fs w k).map .int, hs) := fun a b => by
    have e : (lotL fs w k).map D.int = (fs.zipIdx.filter fun p => decide ((offN p.1 w : Int) ≤ k)).map fun p => D.int ((p.2 : Nat) : Int) := by unfold lotL; rw [List.map_map]; rfl
    rw [e]
    exact compL_of (fun p : List Int × Nat => D.tup [.int (p.2 : Nat), .int (offN p.1 w : Int)]) _ _ _ fun p _ => ⟨_, rfl, by simp [tV, eBin, eVar, oLeD_int], fun _ => rfl⟩
  have en : enumF 0 ((offsL fs w).map D.int) = fs.zipIdx.map fun p => .tup [.int (p.2 : Nat), .int (offN p.1 w : Int)] := by
    have e : (offsL fs w).map D.int = fs.map fun f => D.int (offN f w : Int) := by unfold offsL; rw [List.map_map]; rfl
    rw [e, enumF_map]
  unfold F_told_of B_told_of
  refine fnF_rt ?_
  simp only [List.map_cons, List.map_nil, List.length_cons, List.length_nil, Nat.reduceAdd, Nat.reduceSub, List.replicate, List.cons_append, List.nil_append]
  rw [sSeq_eq (sSet_eq (eComp_eq (iSeq_tup rfl) (by simp; omega) c1))]
  simp only [List.set_cons_succ, List.set_cons_zero]
  rw [sSeq_eq (sSet_eq (eUn_eq (x := .lst ((lotL fs w k).map .int)) (eComp_eq (iEn_lst rfl) (by rw [enumF_length]; simp [offsL]; omega) (by rw [en]; exact c2 none none)) (rfl : oTuple (.lst ((lotL fs w k).map .int)) = some (.tup ((lotL fs w k).map .int)))))]
  simp only [List.set_cons_succ, List.set_cons_zero]
  have ln : oLen (.tup ((lotL fs w k).map .int)) = some (.int ((lotL fs w k).length : Int)) := by simp [oLen]
  cases hlot : lotL fs w k with
  | nil =>
    rw [hlot] at ln
    rw [sSeq_rt (d := .tup [.str noneS, .int mn]) (hs1 := hs) (by
      rw [sIf_t (hs1 := hs) (tV_eq (eBin_eq (x := .int 0) (y := .int 0) (hs1 := hs) (hs2 := hs) (eUn_eq (x := .tup []) (hs1 := hs) rfl rfl) rfl rfl))]
      exact sRet_eq (eAp_eq (ds := [.str noneS, .int mn]) (aCons_eq (hs1 := hs) rfl (aCons_eq (hs1 := hs) (eUn_eq (hs1 := hs) rfl hmn) aNil_eq)) rfl))]
    rfl
  | cons x r =>
    rw [hlot] at ln
    rw [sSeq_eq (hs1 := hs) (sl1 := [some (fsD fs), some (wordD w), some (.int k), some (.lst ((offsL fs w).map .int)), some (.tup ((x :: r).map .int)), none, none, none]) (by
      rw [sIf_f (hs1 := hs) (tV_eq (eBin_eq (y := .int 0) (hs1 := hs) (hs2 := hs) (eUn_eq (x := .tup ((x :: r).map .int)) (hs1 := hs) rfl ln) rfl (by rw [oEq_int, decide_eq_false (by simp; omega)])))]
      rfl)]
    cases r with
    | nil =>
      refine sRet_eq ?_
      rw [eIf_t (hs1 := hs) (tV_eq (eBin_eq (x := .int 1) (y := .int 1) (hs1 := hs) (hs2 := hs) (eUn_eq (x := .tup [.int x]) (hs1 := hs) rfl rfl) rfl rfl))]
      rfl
    | cons y r =>
      refine sRet_eq ?_
      rw [eIf_f (hs1 := hs) (tV_eq (eBin_eq (y := .int 1) (hs1 := hs) (hs2 := hs) (eUn_eq (x := .tup ((x :: y :: r).map .int)) (hs1 := hs) rfl ln) rfl (by rw [oEq_int, decide_eq_false (by simp; omega)])))]
      rfl
theorem one_ok {m : Nat} {fs : List (List Int)} (h : Fs m fs) {w : List (Option Int)} (hw : Wd m w) {k : Int} (hk : 0 ≤ k ∧ k ≤ 6) {mn : Int} (hmn : oMin (.lst ((offsL fs w).map .int)) = some (.int mn)) (hs : Hnd) : F_one_or_some [fsD fs, wordD w, .int k] hs = some (toldD (lotL fs w k) mn, hs) := by
  unfold F_one_or_some B_one_or_some
  refine fnF_rt ?_
  simp only [List.map_cons, List.map_nil, List.length_cons, List.length_nil, Nat.reduceAdd, Nat.reduceSub, List.replicate, List.append_nil]
  rw [sSeq_eq (sExpr_eq ((eCall_eq (ds := [fsD fs, wordD w, .int k]) (hs1 := hs) rfl).trans (check_told_ok h hw hk hs)))]
  exact sRet_eq ((eCall_eq (ds := [fsD fs, wordD w, .int k]) (hs1 := hs) rfl).trans (told_of_ok h w k hmn hs))
/-! ### lots -/
theorem lot_mem {fs : List (List Int)} {w : List (Option Int)} {k z : Int} : z ∈ lotL fs w k ↔ ∃ (i : Nat) (f : List Int), fs[i]? = some f ∧ z = (i : Int) ∧ (offN f w : Int) ≤ k := by
  unfold lotL
  simp only [List.mem_map, List.mem_filter, decide_eq_true_eq]
  constructor
  · rintro ⟨p, ⟨h1, h2⟩, rfl⟩
    exact ⟨p.2, p.1, List.mem_zipIdx_iff_getElem?.mp h1, rfl, h2⟩
  · rintro ⟨i, f, h1, rfl, h2⟩
    exact ⟨(f, i), ⟨List.mem_zipIdx_iff_getElem?.mpr h1, h2⟩, rfl⟩
theorem lot_rise (fs : List (List Int)) (w : List (Option Int)) (k : Int) : (lotL fs w k).Pairwise (· < ·) := by
  unfold lotL
  rw [List.pairwise_map]
  refine List.Pairwise.filter _ ?_
  rw [List.pairwise_iff_getElem]
  intro i j hi hj hij
  rw [List.getElem_zipIdx, List.getElem_zipIdx]
  simp; omega
theorem is_lot_ok {n : Int} {xs : List Int} (hl : xs.length ≤ 1000) (hx : ∀ x ∈ xs, 0 ≤ x ∧ x < n) (hr : xs.Pairwise (· < ·)) (hs : Hnd) : F_is_lot [.tup (xs.map .int), .int n] hs = some (.bl true, hs) := by
  have c1 : ∀ a b, compL (gName 2) tYes (eCall F_is_within (aCons (eVar 2) (aCons (eC (.int 0)) (aCons (eBin oSub (eVar 1) (eC (.int 1))) aNil)))) [some (.tup (xs.map .int)), some (.int n), a, b] (xs.map .int) hs = some (xs.map fun _ => .bl true, hs) := fun a b =>
    compL_all D.int _ xs fun x h => ⟨_, rfl, (eCall_eq (ds := [.int x, .int 0, .int (n - 1)]) rfl).trans (by rw [within_ok, decide_eq_true (by have := hx x h; omega)])⟩
  have c2 : ∀ a b, compL (gTup 2 (gCons (gName 2) (gCons (gName 3) gNil))) tYes (eBin oLtD (eVar 2) (eVar 3)) [some (.tup (xs.map .int)), some (.int n), a, b] ((xs.zip (xs.drop 1)).map fun p : Int × Int => .tup [.int p.1, .int p.2]) hs = some ((xs.zip (xs.drop 1)).map fun p => .bl (decide (p.1 < p.2)), hs) := fun a b =>
    compL_all (fun p : Int × Int => D.tup [.int p.1, .int p.2]) _ _ fun p _ => ⟨_, rfl, rfl⟩
  have e7 : ((xs.zip (xs.drop 1)).all fun p => decide (p.1 < p.2)) = true := by
    have : ∀ l : List Int, l.Pairwise (· < ·) → ((l.zip (l.drop 1)).all fun p => decide (p.1 < p.2)) = true := by
      intro l
      induction l with
      | nil => intro _; rfl
      | cons x l ih =>
        intro h
        rw [List.pairwise_cons] at h
        cases l with
        | nil => rfl
        | cons y l =>
          have := ih h.2
          simp only [List.drop_succ_cons, List.drop_zero] at this ⊢
          rw [List.zip_cons_cons, List.all_cons, decide_eq_true (h.1 y (by simp)), Bool.true_and]
          exact this
    exact this xs hr
  unfold F_is_lot B_is_lot
  refine fnF_rt ?_
  simp only [List.map_cons, List.map_nil, List.length_cons, List.length_nil, Nat.reduceAdd, Nat.reduceSub, List.replicate, List.cons_append, List.nil_append]
  rw [sSeq_eq (hs1 := hs) (sl1 := [some (.tup (xs.map .int)), some (.int n), none, none]) (by
    rw [sIf_f (hs1 := hs)]
    · rfl
    · rw [tOr_f (hs1 := hs) (tNot_eq (b := true) (tV_eq (eUn_eq (x := .tup (xs.map .int)) (hs1 := hs) rfl rfl)))]
      exact tNot_eq (b := true) (tV_eq (eUn_eq (eComp_eq (iSeq_tup rfl) (by simp; omega) (c1 _ _)) (all_true xs))))]
  have q7 : eSl (eVar 0) (pSome (eC (.int 1))) pNone [some (.tup (xs.map .int)), some (.int n), none, none] hs = some (.tup ((xs.map .int).drop 1), hs) := by
    simp [eSl, eVar, pSome, pNone, eC, oSl, cut_1]
  have q8 : iZp (eVar 0) (eSl (eVar 0) (pSome (eC (.int 1))) pNone) [some (.tup (xs.map .int)), some (.int n), none, none] hs = some ((xs.zip (xs.drop 1)).map fun p : Int × Int => .tup [.int p.1, .int p.2], hs) := by
    rw [iZp_eq (xs := xs.map .int) (ys := (xs.map .int).drop 1) (rfl : eVar 0 _ hs = some (.tup (xs.map .int), hs)) q7 rfl rfl, zip_tail]
  exact sRet_eq (eUn_eq (eComp_eq q8 (by simp; omega) (c2 _ _)) (by rw [all_map, e7]))
/-! ### told right -/
theorem isone_ok {m : Nat} {fs : List (List Int)} (h : Fs m fs) {w : List (Option Int)} (hw : Wd m w) {k : Int} (hk : 0 ≤ k ∧ k ≤ 6) {mn : Int} (hmn : oMin (.lst ((offsL fs w).map .int)) = some (.int mn)) (s : List Nat) (y : D) (hs : Hnd) (hsh : (sh 64 (.str s)) = true) {b1 : Bool}
    (h1 : (if s = someS then F_is_lot [y, .int (fs.length : Nat)] hs else F_is_within [y, .int 0, .int 8] hs) = some (.bl b1, hs)) {b2 : Bool} (h2 : b1 = true → oEq (.tup [.str s, y]) (toldD (lotL fs w k) mn) = some (.bl b2)) :
    F_is_one_or_some [fsD fs, wordD w, .int k, .tup [.str s, y]] hs = some (.bl (b1 && b2), hs) := by
  have t : F_is_tuple [.tup [.str s, y], .int 2, .int 2] hs = some (.bl true, hs) := by rw [tuple_ok]; rfl
  have told := told_of_ok h w k hmn hs
  unfold F_is_one_or_some B_is_one_or_some
  refine fnF_rt ?_
  simp only [List.map_cons, List.map_nil, List.length_cons, List.length_nil, Nat.reduceAdd, Nat.reduceSub, List.replicate, List.append_nil]
  rw [sSeq_eq (sExpr_eq ((eCall_eq (ds := [fsD fs, wordD w, .int k]) (hs1 := hs) rfl).trans (check_told_ok h hw hk hs)))]
  rw [sSeq_eq (hs1 := hs) (sl1 := [some (fsD fs), some (wordD w), some (.int k), some (.tup [.str s, y])]) (by
    rw [sIf_f (hs1 := hs)]
    · rfl
    · rw [tOr_f (hs1 := hs) (tNot_eq (b := true) (tV_eq ((eCall_eq (ds := [.tup [.str s, y], .int 2, .int 2]) (hs1 := hs) rfl).trans t)))]
      exact tNot_eq (b := true) (tV_eq (eUn_eq (x := .str s) (hs1 := hs) rfl rfl)))]
  have ix1 : eBin oIx (eVar 3) (eC (.int 1)) [some (fsD fs), some (wordD w), some (.int k), some (.tup [.str s, y])] hs = some (y, hs) := rfl
  have eqs : oEq (.str s) (.str someS) = some (.bl (decide (s = someS))) := by
    have h : (sh 64 (D.str s) && sh 64 (D.str someS)) = true := by rw [hsh]; rfl
    simp only [oEq, h, if_true]; rfl
  have fin : ∀ e1 : EF, e1 [some (fsD fs), some (wordD w), some (.int k), some (.tup [.str s, y])] hs = some (.bl b1, hs) → eIf (tV e1) (eBin oEq (eVar 3) (eCall F_told_of (aCons (eVar 0) (aCons (eVar 1) (aCons (eVar 2) aNil))))) (eC (.bl false)) [some (fsD fs), some (wordD w), some (.int k), some (.tup [.str s, y])] hs = some (.bl (b1 && b2), hs) := fun e1 he1 => by
    cases hb : b1 with
    | false =>
      subst hb
      rw [eIf_f (hs1 := hs) (tV_eq he1)]; rfl
    | true =>
      subst hb
      rw [eIf_t (hs1 := hs) (tV_eq he1)]
      exact eBin_eq (x := .tup [.str s, y]) (hs1 := hs) (hs2 := hs) rfl ((eCall_eq (ds := [fsD fs, wordD w, .int k]) (hs1 := hs) rfl).trans told) (by rw [h2 rfl]; rfl)
  by_cases hsome : s = someS
  · rw [if_pos hsome] at h1
    rw [sSeq_rt (d := .bl (b1 && b2)) (hs1 := hs) (by
      rw [sIf_t (hs1 := hs) (tV_eq (eBin_eq (x := .str s) (y := .str someS) (hs1 := hs) (hs2 := hs) rfl rfl (by rw [eqs, decide_eq_true hsome])))]
      exact sRet_eq (fin _ ((eCall_eq (ds := [y, .int (fs.length : Nat)]) (aCons_eq (hs1 := hs) ix1 (aCons_eq (hs1 := hs) (eUn_eq (x := fsD fs) (hs1 := hs) rfl (by simp [oLen])) aNil_eq))).trans h1)))]
  · rw [if_neg hsome] at h1
    rw [sSeq_eq (hs1 := hs) (sl1 := [some (fsD fs), some (wordD w), some (.int k), some (.tup [.str s, y])]) (by
      rw [sIf_f (hs1 := hs) (tV_eq (eBin_eq (x := .str s) (y := .str someS) (hs1 := hs) (hs2 := hs) rfl rfl (by rw [eqs, decide_eq_false hsome])))]
      rfl)]
    exact sRet_eq (fin _ ((eCall_eq (ds := [y, .int 0, .int 8]) (aCons_eq (hs1 := hs) ix1 rfl)).trans h1))
end Law

namespace Law
open PySem PySem.Spec PyProof.Rows L2 L2.VI
open L2.VI (tAnd tOr tNot gName gNil gCons gTup tYes)
/-! ### alike -/
theorem li_int (k : Nat) (x : Int) (hs : Hnd) : F__law_is (k + 1) [.int x, .int x] hs = some (.bl true, hs) := by
  simp [F__law_is, fnF, B__law_is, sSeq, sIf, sRet, eIf, tV, eVar, eUn, oIsi, tyN, isT, VI.tOr, eBin, oEq_int, sNil, eC, oEq, sh, D.eqv]
theorem li_bl (k : Nat) (x : Bool) (hs : Hnd) : F__law_is (k + 1) [.bl x, .bl x] hs = some (.bl true, hs) := by
  cases x <;> rfl
theorem li_non (k : Nat) (hs : Hnd) : F__law_is (k + 1) [.non, .non] hs = some (.bl true, hs) := rfl
theorem li_optI (k : Nat) (o : Option Int) (hs : Hnd) : F__law_is (k + 1) [optI o, optI o] hs = some (.bl true, hs) := by
  cases o with
  | none => exact li_non k hs
  | some x => exact li_int k x hs
theorem li_tup (k : Nat) {xs : List D} (hl : xs.length ≤ 1000) (hs : Hnd) (h : ∀ x ∈ xs, F__law_is k [x, x] hs = some (.bl true, hs)) : F__law_is (k + 1) [.tup xs, .tup xs] hs = some (.bl true, hs) := by
  have ez : ((xs.zip xs).map fun p => D.tup [p.1, p.2]) = xs.map fun x => D.tup [x, x] := by
    clear h hl
    induction xs with
    | nil => rfl
    | cons x xs ih => rw [List.zip_cons_cons, List.map_cons, List.map_cons, ih]
  have c : compL (gTup 2 (gCons (gName 2) (gCons (gName 3) gNil))) tYes (eCall (F__law_is k) (aCons (eVar 2) (aCons (eVar 3) aNil))) [some (.tup xs), some (.tup xs), none, none, none] (xs.map fun x => D.tup [x, x]) hs = some (xs.map fun _ => .bl true, hs) :=
    compL_all (fun x : D => D.tup [x, x]) _ xs fun x hx => ⟨[some (.tup xs), some (.tup xs), some x, some x, none], rfl, (eCall_eq (ds := [x, x]) (hs1 := hs) rfl).trans (h x hx)⟩
  have z : iZp (eVar 0) (eVar 1) [some (.tup xs), some (.tup xs), none, none, none] hs = some (xs.map fun x => D.tup [x, x], hs) := by
    rw [iZp_eq (xs := xs) (ys := xs) (x := .tup xs) (y := .tup xs) (hs1 := hs) (hs2 := hs) rfl rfl rfl rfl, ez]
  show fnF 5 (B__law_is (F__law_is k)) _ hs = _
  unfold B__law_is
  refine fnF_rt ?_
  simp only [List.map_cons, List.map_nil, List.length_cons, List.length_nil, Nat.reduceAdd, Nat.reduceSub, List.replicate, List.cons_append, List.nil_append]
  rw [sSeq_eq (hs1 := hs) (sl1 := [some (.tup xs), some (.tup xs), none, none, none]) rfl]
  rw [sSeq_rt (d := .bl true) (hs1 := hs)]
  rw [sIf_t (hs1 := hs) rfl]
  rw [sSeq_eq (hs1 := hs) (sl1 := [some (.tup xs), some (.tup xs), none, none, none]) rfl]
  refine sRet_eq ?_
  rw [eIf_t (hs1 := hs)]
  · exact eUn_eq (eComp_eq z (by simp; omega) c) (all_true xs)
  · refine tV_eq (eBin_eq (x := .int xs.length) (y := .int xs.length) (hs1 := hs) (hs2 := hs) (eUn_eq (x := .tup xs) (hs1 := hs) rfl (by simp [oLen])) (eUn_eq (x := .tup xs) (hs1 := hs) rfl (by simp [oLen])) (by rw [oEq_int, decide_eq_true rfl]))
theorem li_word (k : Nat) {w : List (Option Int)} (h : w.length ≤ 1000) (hs : Hnd) : F__law_is (k + 2) [wordD w, wordD w] hs = some (.bl true, hs) :=
  li_tup (k + 1) (by simpa using h) hs fun x hx => by
    obtain ⟨o, _, rfl⟩ := List.mem_map.mp hx
    exact li_optI k o hs
theorem li_ints (k : Nat) {xs : List Int} (h : xs.length ≤ 1000) (hs : Hnd) : F__law_is (k + 2) [.tup (xs.map .int), .tup (xs.map .int)] hs = some (.bl true, hs) :=
  li_tup (k + 1) (by simpa using h) hs fun x hx => by
    obtain ⟨o, _, rfl⟩ := List.mem_map.mp hx
    exact li_int k o hs
theorem li_told (k : Nat) {lot : List Int} (h : lot.length ≤ 1000) (mn : Int) (hs : Hnd) : F__law_is (k + 3) [toldD lot mn, toldD lot mn] hs = some (.bl true, hs) := by
  cases lot with
  | nil =>
    exact li_tup (k + 2) (by simp) hs fun x hx => by
      rcases List.mem_cons.mp hx with rfl | hx
      · rfl
      · rcases List.mem_cons.mp hx with rfl | hx
        · exact li_int (k + 1) mn hs
        · simp at hx
  | cons a r =>
    cases r with
    | nil =>
    exact li_tup (k + 2) (by simp) hs fun x hx => by
        rcases List.mem_cons.mp hx with rfl | hx
        · rfl
        · rcases List.mem_cons.mp hx with rfl | hx
          · exact li_int (k + 1) a hs
          · simp at hx
    | cons b r =>
      exact li_tup (k + 2) (by simp) hs fun x hx => by
        rcases List.mem_cons.mp hx with rfl | hx
        · rfl
        · rcases List.mem_cons.mp hx with rfl | hx
          · exact li_ints k h hs
          · simp at hx
/-! ### fits_face, joined_words -/
theorem fits_ok {m : Nat} (h1 : 1 ≤ m) (h6 : m ≤ 6) {f : List Int} (hf : Fc m f) {w : List (Option Int)} (hw : Wd m w) {k : Int} (hk : 0 ≤ k ∧ k ≤ 6) (hs : Hnd) : F_fits_face [faceD f, wordD w, .int k] hs = some (.bl (decide ((offN f w : Int) ≤ k)), hs) := by
  have hl := hf.1
  have t2 : F_is_tuple [faceD f, .int 1, .int 6] hs = some (.bl true, hs) := by unfold faceD; rw [tuple_ok, decide_eq_true (by rw [List.length_map, hl]; omega)]
  have ln : oLen (faceD f) = some (.int (m : Nat)) := by simp [oLen, faceD, hl]
  unfold F_fits_face B_fits_face
  refine fnF_rt ?_
  simp only [List.map_cons, List.map_nil, List.length_cons, List.length_nil, Nat.reduceAdd, Nat.reduceSub, List.replicate, List.cons_append, List.nil_append]
  rw [sSeq_eq (hs1 := hs) (sl1 := [some (faceD f), some (wordD w), some (.int k)]) (by
    rw [sIf_f (hs1 := hs)]
    · rfl
    · rw [tOr_f (hs1 := hs) (tNot_eq (b := true) (tV_eq ((eCall_eq (ds := [faceD f, .int 1, .int 6]) (hs1 := hs) rfl).trans t2)))]
      exact tNot_eq (b := true) (tV_eq ((eCall_eq (ds := [faceD f, .int (m : Nat)]) (hs1 := hs) (aCons_eq (hs1 := hs) rfl (aCons_eq (hs1 := hs) (eUn_eq (x := faceD f) (hs1 := hs) rfl ln) aNil_eq))).trans (is_face_ok hf h6 hs))))]
  rw [sSeq_eq (hs1 := hs) (sl1 := [some (faceD f), some (wordD w), some (.int k)]) (by
    rw [sIf_f (hs1 := hs)]
    · rfl
    · exact tNot_eq (b := true) (tV_eq ((eCall_eq (ds := [wordD w, .int (m : Nat)]) (hs1 := hs) (aCons_eq (hs1 := hs) rfl (aCons_eq (hs1 := hs) (eUn_eq (x := faceD f) (hs1 := hs) rfl ln) aNil_eq))).trans (is_word_ok hw h6 hs))))]
  rw [sSeq_eq (sExpr_eq ((eCall_eq (ds := [.int k]) (hs1 := hs) rfl).trans (check_wrong_ok hk hs)))]
  exact sRet_eq (eBin_eq (x := .int (offN f w : Nat)) (y := .int k) (hs1 := hs) (hs2 := hs) ((eCall_eq (ds := [faceD f, wordD w]) (hs1 := hs) rfl).trans (wrong_in_ok (by omega) hs)) rfl rfl)
def clP (p : Option Int × Option Int) : Bool := p.1.isSome && (p.2.isSome && decide (p.1 ≠ p.2))
def joW (a b : List (Option Int)) : List (Option Int) := (a.zip b).map fun p => if p.1.isSome then p.1 else p.2
theorem any_map {α : Type} (p : α → Bool) (xs : List α) : oAny (.lst (xs.map fun x => .bl (p x))) = some (.bl (xs.any p)) := by
  have e : (xs.map fun x => D.bl (p x)) = (xs.map p).map D.bl := by rw [List.map_map]; rfl
  simp only [oAny, e, blsOf_map, Option.map_some]
  congr 2
  simp [List.any_map, Function.comp]
theorem jo_comp {a b : List (Option Int)} {gf : GF} {fe : EF} {sl : Sl} {hs : Hnd} (h : ∀ p ∈ a.zip b, ∃ sl1, gf (.tup [optI p.1, optI p.2]) sl = some sl1 ∧ fe sl1 hs = some (optI (if p.1.isSome then p.1 else p.2), hs)) :
    compL gf tYes fe sl ((a.zip b).map fun p => .tup [optI p.1, optI p.2]) hs = some ((joW a b).map optI, hs) := by
  have e : (joW a b).map optI = (a.zip b).map fun p => optI (if p.1.isSome then p.1 else p.2) := by unfold joW; rw [List.map_map]; rfl
  rw [e]
  exact compL_all (fun p : Option Int × Option Int => D.tup [optI p.1, optI p.2]) _ _ h
theorem joined_ok {m : Nat} (h1 : 1 ≤ m) (h6 : m ≤ 6) {a b : List (Option Int)} (ha : Wd m a) (hb : Wd m b) (hs : Hnd) : F_joined_words [wordD a, wordD b] hs = some (if (a.zip b).any clP then .non else wordD (joW a b), hs) := by
  have la := ha.1
  have lb := hb.1
  have lz : (a.zip b).length ≤ 6 := by simp; omega
  have step : ∀ (w : List (Option Int)), Wd m w → sIf (tOr (tNot (tV (eCall F_is_tuple (aCons (eVar 2) (aCons (eC (.int 1)) (aCons (eC (.int 6)) aNil)))))) (tNot (tV (eCall F_is_word (aCons (eVar 2) (aCons (eUn oLen (eVar 2)) aNil)))))) sNever sNil [some (wordD a), some (wordD b), some (wordD w), none, none] hs = some (.nx [some (wordD a), some (wordD b), some (wordD w), none, none] hs) := fun w hw => by
    have t2 : F_is_tuple [wordD w, .int 1, .int 6] hs = some (.bl true, hs) := by unfold wordD; rw [tuple_ok, decide_eq_true (by rw [List.length_map, hw.1]; omega)]
    have ln : oLen (wordD w) = some (.int (m : Nat)) := by simp [oLen, wordD, hw.1]
    rw [sIf_f (hs1 := hs)]
    · rfl
    · rw [tOr_f (hs1 := hs) (tNot_eq (b := true) (tV_eq ((eCall_eq (ds := [wordD w, .int 1, .int 6]) (hs1 := hs) rfl).trans t2)))]
      exact tNot_eq (b := true) (tV_eq ((eCall_eq (ds := [wordD w, .int (m : Nat)]) (hs1 := hs) (aCons_eq (hs1 := hs) rfl (aCons_eq (hs1 := hs) (eUn_eq (x := wordD w) (hs1 := hs) rfl ln) aNil_eq))).trans (is_word_ok hw h6 hs)))
  have lna : oLen (wordD a) = some (.int (m : Nat)) := by simp [oLen, wordD, la]
  have lnb : oLen (wordD b) = some (.int (m : Nat)) := by simp [oLen, wordD, lb]
  have z : ∀ x2 x3 x4, iZp (eVar 0) (eVar 1) [some (wordD a), some (wordD b), x2, x3, x4] hs = some ((a.zip b).map fun p => .tup [optI p.1, optI p.2], hs) := fun x2 x3 x4 => by
    rw [iZp_eq (xs := a.map optI) (ys := b.map optI) (x := wordD a) (y := wordD b) (hs1 := hs) (hs2 := hs) rfl rfl rfl rfl, zip_maps]
  have c1 : compL (gTup 2 (gCons (gName 3) (gCons (gName 4) gNil))) tYes (eIf (tV (eBin oIsNot (eVar 3) (eC .non))) (eIf (tV (eBin oIsNot (eVar 4) (eC .non))) (eBin oNe (eVar 3) (eVar 4)) (eC (.bl false))) (eC (.bl false))) [some (wordD a), some (wordD b), some (wordD b), none, none] ((a.zip b).map fun p => .tup [optI p.1, optI p.2]) hs = some ((a.zip b).map fun p => .bl (clP p), hs) :=
    compL_all (fun p : Option Int × Option Int => D.tup [optI p.1, optI p.2]) _ _ fun p _ => ⟨[some (wordD a), some (wordD b), some (wordD b), some (optI p.1), some (optI p.2)], rfl, by
      unfold clP
      cases q1 : p.1.isSome with
      | false => rw [eIf_f (hs1 := hs) (tV_eq (eBin_eq (x := optI p.1) (y := .non) (hs1 := hs) (hs2 := hs) rfl rfl (by rw [optI_isNot, q1])))]; rfl
      | true =>
        rw [eIf_t (hs1 := hs) (tV_eq (eBin_eq (x := optI p.1) (y := .non) (hs1 := hs) (hs2 := hs) rfl rfl (by rw [optI_isNot, q1])))]
        cases q2 : p.2.isSome with
        | false => rw [eIf_f (hs1 := hs) (tV_eq (eBin_eq (x := optI p.2) (y := .non) (hs1 := hs) (hs2 := hs) rfl rfl (by rw [optI_isNot, q2])))]; rfl
        | true =>
          rw [eIf_t (hs1 := hs) (tV_eq (eBin_eq (x := optI p.2) (y := .non) (hs1 := hs) (hs2 := hs) rfl rfl (by rw [optI_isNot, q2])))]
          rw [Bool.true_and, Bool.true_and]
          exact eBin_eq (x := optI p.1) (y := optI p.2) (hs1 := hs) (hs2 := hs) rfl rfl (optI_ne _ _)⟩
  have c2 : compL (gTup 2 (gCons (gName 3) (gCons (gName 4) gNil))) tYes (eIf (tV (eBin oIs (eVar 3) (eC .non))) (eVar 4) (eVar 3)) [some (wordD a), some (wordD b), some (wordD b), none, none] ((a.zip b).map fun p => .tup [optI p.1, optI p.2]) hs = some ((joW a b).map optI, hs) :=
    jo_comp fun p _ => ⟨[some (wordD a), some (wordD b), some (wordD b), some (optI p.1), some (optI p.2)], rfl, by
      cases q1 : p.1.isSome with
      | false => rw [eIf_t (hs1 := hs) (tV_eq (eBin_eq (x := optI p.1) (y := .non) (hs1 := hs) (hs2 := hs) rfl rfl (by rw [optI_is, q1]; rfl)))]; rfl
      | true => rw [eIf_f (hs1 := hs) (tV_eq (eBin_eq (x := optI p.1) (y := .non) (hs1 := hs) (hs2 := hs) rfl rfl (by rw [optI_is, q1]; rfl)))]; rfl⟩
  unfold F_joined_words B_joined_words
  refine fnF_rt ?_
  simp only [List.map_cons, List.map_nil, List.length_cons, List.length_nil, Nat.reduceAdd, Nat.reduceSub, List.replicate, List.cons_append, List.nil_append]
  rw [sSeq_eq (hs1 := hs) (sl1 := [some (wordD a), some (wordD b), some (wordD b), none, none]) (by
    rw [sFor_eq (ds := [wordD a, wordD b]) (hs1 := hs) rfl]
    unfold forL
    have g1 : gName 2 (wordD a) [some (wordD a), some (wordD b), none, none, none] = some [some (wordD a), some (wordD b), some (wordD a), none, none] := rfl
    simp only [g1, step a ha]
    unfold forL
    have g2 : gName 2 (wordD b) [some (wordD a), some (wordD b), some (wordD a), none, none] = some [some (wordD a), some (wordD b), some (wordD b), none, none] := rfl
    simp only [g2, step b hb]
    rfl)]
  rw [sSeq_eq (hs1 := hs) (sl1 := [some (wordD a), some (wordD b), some (wordD b), none, none]) (by
    rw [sIf_f (hs1 := hs)]
    · rfl
    · exact tV_eq (eBin_eq (x := .int (m : Nat)) (y := .int (m : Nat)) (hs1 := hs) (hs2 := hs) (eUn_eq (x := wordD a) (hs1 := hs) rfl lna) (eUn_eq (x := wordD b) (hs1 := hs) rfl lnb) (by rw [oNe_int, decide_eq_true rfl]; rfl)))]
  cases hc : (a.zip b).any clP with
  | true =>
    rw [sSeq_rt (d := .non) (hs1 := hs)]
    · rfl
    · rw [sIf_t (hs1 := hs)]
      · rfl
      · exact tV_eq (eUn_eq (eComp_eq (z _ _ _) (by rw [List.length_map]; omega) c1) (by rw [any_map, hc]))
  | false =>
    rw [sSeq_eq (hs1 := hs) (sl1 := [some (wordD a), some (wordD b), some (wordD b), none, none])]
    · exact sRet_eq (eUn_eq (eComp_eq (z _ _ _) (by rw [List.length_map]; omega) c2) rfl)
    · rw [sIf_f (hs1 := hs)]
      · rfl
      · exact tV_eq (eUn_eq (eComp_eq (z _ _ _) (by rw [List.length_map]; omega) c1) (by rw [any_map, hc]))
end Law

namespace Law
open PySem PySem.Spec PyProof.Rows L2 L2.VI
open L2.VI (tAnd tOr tNot gName gNil gCons gTup tYes)
/-! ### twins -/
theorem sExt_eq {i : Nat} {f : EF} {sl : Sl} {hs hs1 : Hnd} {xs ys : List D} (h : f sl hs = some (.lst ys, hs1)) (h1 : sl[i]? = some (some (.lst xs))) (hl : xs.length + ys.length ≤ 16777216) : sExt i f sl hs = some (.nx (sl.set i (some (.lst (xs ++ ys)))) hs1) := by
  unfold sExt
  rw [h]
  simp only [h1, hl, if_true]
def eqF (a b : List Int) : Bool := D.eqv (faceD a) (faceD b)
theorem eqF_ok (a b : List Int) : oEq (faceD a) (faceD b) = some (.bl (eqF a b)) := by
  have h : ∀ a, sh 64 (faceD a) = true := fun a => sh_tup (sh_ints 63 a)
  simp only [oEq, h, Bool.and_self, if_true]; rfl
def row (fs : List (List Int)) (i : Nat) (f : List Int) : List D := ((List.range ((fs.length : Int) - ((i : Int) + 1)).toNat).filter fun k => eqF (fs[i + 1 + k]?.getD []) f).map fun k => .tup [.int (i : Nat), .int ((i : Int) + 1 + (k : Nat))]
theorem row_comp {fs : List (List Int)} {i : Nat} {f : List Int} {gf : GF} {tt : TF} {fe : EF} {sl : Sl} {hs : Hnd} (h : ∀ j g, fs[j]? = some g → ∃ sl1, gf (.int (j : Nat)) sl = some sl1 ∧ tt sl1 hs = some (eqF g f, hs) ∧ fe sl1 hs = some (.tup [.int (i : Nat), .int (j : Nat)], hs)) :
    compL gf tt fe sl ((List.range ((fs.length : Int) - ((i : Int) + 1)).toNat).map fun k => .int ((i : Int) + 1 + (k : Nat))) hs = some (row fs i f, hs) :=
  compL_of (fun k : Nat => D.int ((i : Int) + 1 + (k : Nat))) _ _ _ fun k hk => by
    have hk := List.mem_range.mp hk
    have hj : i + 1 + k < fs.length := by omega
    have ej : (i : Int) + 1 + (k : Int) = ((i + 1 + k : Nat) : Int) := by omega
    obtain ⟨sl1, e1, e2, e3⟩ := h (i + 1 + k) fs[i + 1 + k] (List.getElem?_eq_getElem hj)
    refine ⟨sl1, by rw [ej]; exact e1, ?_, fun _ => by rw [ej]; exact e3⟩
    rw [e2, List.getElem?_eq_getElem hj]; rfl
theorem row_len (fs : List (List Int)) (i : Nat) (f : List Int) : (row fs i f).length ≤ fs.length := by
  unfold row
  rw [List.length_map]
  refine Nat.le_trans (List.length_filter_le _ _) ?_
  rw [List.length_range]; omega
def twS (fs : List (List Int)) (st : List D) (p : List Int × Nat) : List D := st ++ row fs p.2 p.1
def twD (fs : List (List Int)) : List D := fs.zipIdx.foldl (twS fs) []
theorem tw_len (fs : List (List Int)) (ps : List (List Int × Nat)) : ∀ st : List D, (ps.foldl (twS fs) st).length ≤ st.length + ps.length * fs.length := by
  induction ps with
  | nil => intro st; simp
  | cons p ps ih =>
    intro st
    have h1 := ih (twS fs st p)
    have h2 := row_len fs p.2 p.1
    have h3 : (twS fs st p).length = st.length + (row fs p.2 p.1).length := by simp [twS]
    rw [List.foldl_cons, List.length_cons, Nat.succ_mul]
    omega
theorem tw_mem (fs : List (List Int)) (ps : List (List Int × Nat)) : ∀ st : List D, (∀ x ∈ st, ∃ i j : Int, x = .tup [.int i, .int j]) → ∀ x ∈ ps.foldl (twS fs) st, ∃ i j : Int, x = .tup [.int i, .int j] := by
  induction ps with
  | nil => intro st h; exact h
  | cons p ps ih =>
    intro st h
    refine ih _ fun x hx => ?_
    rcases List.mem_append.mp hx with hx | hx
    · exact h x hx
    · obtain ⟨k, _, rfl⟩ := List.mem_map.mp hx
      exact ⟨_, _, rfl⟩
theorem li_tw (fs : List (List Int)) (h : fs.length ≤ 8) (k : Nat) (hs : Hnd) : F__law_is (k + 3) [.tup (twD fs), .tup (twD fs)] hs = some (.bl true, hs) := by
  have h1 := tw_len fs fs.zipIdx []
  have h2 : fs.zipIdx.length = fs.length := by simp
  rw [h2] at h1
  have h3 : fs.length * fs.length ≤ 8 * 8 := Nat.mul_le_mul h h
  have h4 : (twD fs).length ≤ 1000 := by
    show (fs.zipIdx.foldl (twS fs) []).length ≤ 1000
    simp only [List.length_nil] at h1
    omega
  refine li_tup (k + 2) h4 hs fun x hx => ?_
  obtain ⟨i, j, rfl⟩ := tw_mem fs fs.zipIdx [] (by simp) x hx
  exact li_tup (k + 1) (by simp) hs fun y hy => by
    rcases List.mem_cons.mp hy with rfl | hy
    · exact li_int k i hs
    · rcases List.mem_cons.mp hy with rfl | hy
      · exact li_int k j hs
      · simp at hy
theorem tw_loop {fs : List (List Int)} (h : fs.length ≤ 8) {gf : GF} {body : SF} {hs : Hnd} (R : List D → Sl → Prop) (hb : ∀ st i f sl, fs[i]? = some f → st.length ≤ 64 → R st sl → ∃ sl1 sl2, gf (.tup [.int (i : Nat), faceD f]) sl = some sl1 ∧ body sl1 hs = some (.nx sl2 hs) ∧ R (st ++ row fs i f) sl2) (sl : Sl) (h0 : R [] sl) :
    ∃ sl', forL gf body (enumF 0 (fs.map faceD)) sl hs = some (.nx sl' hs) ∧ R (twD fs) sl' := by
  rw [enumF_map]
  refine forL_pre (fun p : List Int × Nat => D.tup [.int (p.2 : Nat), faceD p.1]) R (twS fs) [] fs.zipIdx (fun pre x post sl hx hr => ?_) sl h0
  have hm : x ∈ fs.zipIdx := by rw [hx]; simp
  have h1 := tw_len fs pre []
  have h2 : pre.length ≤ fs.length := by
    have := congrArg List.length hx
    simp at this; omega
  have h3 : pre.length * fs.length ≤ 8 * 8 := Nat.mul_le_mul (by omega) h
  simp only [List.length_nil] at h1
  exact hb _ x.2 x.1 sl (List.mem_zipIdx_iff_getElem?.mp hm) (by omega) hr
theorem twins_ok {m : Nat} {fs : List (List Int)} (h : Fs m fs) (hs : Hnd) : F_twins_of [fsD fs] hs = some (.tup (twD fs), hs) := by
  have h8 := h.l8
  obtain ⟨sl', e1, e2⟩ := tw_loop (gf := gTup 2 (gCons (gName 2) (gCons (gName 3) gNil))) (body := sExt 1 (eComp (iR2 (eBin oAdd (eVar 2) (eC (.int 1))) (eUn oLen (eVar 0))) (gName 4) (tV (eBin oEq (eBin oIx (eVar 0) (eVar 4)) (eVar 3))) (eAp oTup (aCons (eVar 2) (aCons (eVar 4) aNil))) [4])) (hs := hs) h8 (fun st sl => ∃ x2 x3, sl = [some (fsD fs), some (.lst st), x2, x3, none]) (fun st i f sl hi hst hr => by
    obtain ⟨x2, x3, rfl⟩ := hr
    have hl := (List.getElem?_eq_some_iff.mp hi).1
    refine ⟨[some (fsD fs), some (.lst st), some (.int (i : Nat)), some (faceD f), none], [some (fsD fs), some (.lst (st ++ row fs i f)), some (.int (i : Nat)), some (faceD f), none], rfl, ?_, _, _, rfl⟩
    have c := row_comp (fs := fs) (i := i) (f := f) (gf := gName 4) (tt := tV (eBin oEq (eBin oIx (eVar 0) (eVar 4)) (eVar 3))) (fe := eAp oTup (aCons (eVar 2) (aCons (eVar 4) aNil))) (sl := [some (fsD fs), some (.lst st), some (.int (i : Nat)), some (faceD f), none]) (hs := hs) fun j g hj => ⟨[some (fsD fs), some (.lst st), some (.int (i : Nat)), some (faceD f), some (.int (j : Nat))], rfl, tV_eq (eBin_eq (x := faceD g) (y := faceD f) (hs1 := hs) (hs2 := hs) (eBin_eq (x := fsD fs) (y := .int (j : Nat)) (hs1 := hs) (hs2 := hs) rfl rfl (oIx_tup (by rw [List.getElem?_map, hj]; rfl))) rfl (eqF_ok g f)), rfl⟩
    have it : iR2 (eBin oAdd (eVar 2) (eC (.int 1))) (eUn oLen (eVar 0)) [some (fsD fs), some (.lst st), some (.int (i : Nat)), some (faceD f), none] hs = some ((List.range ((fs.length : Int) - ((i : Int) + 1)).toNat).map fun k => .int ((i : Int) + 1 + (k : Nat)), hs) :=
      iR2_eq (hs1 := hs) (hs2 := hs) (m := (i : Int) + 1) (n := (fs.length : Nat)) rfl (eUn_eq (x := fsD fs) (hs1 := hs) rfl (by simp [oLen])) (by omega) (by omega)
    have e := eComp_eq (vs := [4]) it (by rw [List.length_map, List.length_range]; omega) c
    have hr := row_len fs i f
    exact sExt_eq e rfl (by omega)) [some (fsD fs), some (.lst []), none, none, none] ⟨none, none, rfl⟩
  obtain ⟨x2, x3, rfl⟩ := e2
  unfold F_twins_of B_twins_of
  refine fnF_rt ?_
  simp only [List.map_cons, List.map_nil, List.length_cons, List.length_nil, Nat.reduceAdd, Nat.reduceSub, List.replicate, List.cons_append, List.nil_append]
  rw [sSeq_eq (sExpr_eq ((eCall_eq (ds := [fsD fs]) (hs1 := hs) rfl).trans (check_faces_ok h hs)))]
  rw [sSeq_eq (hs1 := hs) (sl1 := [some (fsD fs), some (.lst []), none, none, none]) rfl]
  rw [sSeq_eq ((sFor_eq (iEn_tup (xs := fs.map faceD) (hs1 := hs) rfl)).trans e1)]
  rfl
theorem draw_ok (b : Int) (hb : 0 < b) (hb2 : b < 18446744073709551616) (hs : Hnd) : ∃ r hs', F__law_draw [.hnd, .int b] hs = some (.int r, hs') ∧ 0 ≤ r ∧ r < b := by
  suffices q : ∃ (y : Int) (h' : Hnd), F__law_draw [.hnd, .int b] hs = some (.int (y % b), h') by
    obtain ⟨y, h', e⟩ := q
    exact ⟨_, _, e, Int.emod_nonneg _ (by omega), Int.emod_lt_of_pos _ hb⟩
  by_cases h0 : hs.b = 0 ∧ hs.i < hs.cells.length
  · obtain ⟨h1, h2⟩ := h0
    have h9 : (0 : Int) ≤ (hs.i : Int) + 1 := by omega
    obtain ⟨c, hc⟩ : ∃ c, hs.cells[hs.i]? = some c := ⟨_, List.getElem?_eq_getElem h2⟩
    have hx : (hs.cells.map D.int)[hs.i]? = some (.int c) := by rw [List.getElem?_map, hc]; rfl
    by_cases h3 : 1000000000000000000 ≤ c
    · have h4 : 0 < c := by omega
      refine ⟨c, ⟨hs.cells, hs.i + 1, c / b, ?s, hs.c⟩, ?main⟩
      case main =>
        simp [F__law_draw, fnF, B__law_draw, sSeq, sIf, sSet, sRet, sHset, sNil, tV, eBin, eUn, eHand, hndAt, hndSet, eVar, eC, VI.tAnd, oGtD_int, oEq_int, oLtD_int, oInt_int, oMod_int, oFdiv_int, oAdd_int, oMul_r, oMul_l, oMul_mod, hb, hb2, h1, h2, h9, oLen, oIx_lst hx, oPow, oGeD_int, h3, h4]
        exact rfl
    · have h4 : ¬ 1000000000000000000 ≤ c := h3
      refine ⟨?y0, ?h0, ?main⟩
      case main =>
        simp [F__law_draw, fnF, B__law_draw, sSeq, sIf, sSet, sRet, sHset, sNil, tV, eBin, eUn, eHand, hndAt, hndSet, eVar, eC, VI.tAnd, oGtD_int, oEq_int, oLtD_int, oInt_int, oMod_int, oFdiv_int, oAdd_int, oMul_r, oMul_l, oMul_mod, hb, hb2, h1, h2, h9, oLen, oIx_lst hx, oPow, oGeD_int, h3]
        constructor
        · exact rfl
        · exact rfl
  · by_cases h5 : hs.b = 0
    · have h2 : ¬ hs.i < hs.cells.length := fun z => h0 ⟨h5, z⟩
      refine ⟨?y1, ?h1, ?main⟩
      case main =>
        simp [F__law_draw, fnF, B__law_draw, sSeq, sIf, sSet, sRet, sHset, sNil, tV, eBin, eUn, eHand, hndAt, hndSet, eVar, eC, VI.tAnd, oGtD_int, oEq_int, oLtD_int, oInt_int, oMod_int, oFdiv_int, oAdd_int, oMul_r, oMul_l, oMul_mod, hb, hb2, h5, h2, oLen]
        constructor
        · exact rfl
        · exact rfl
    · by_cases h : 0 < hs.b
      · refine ⟨?y2, ?h2, ?main⟩
        case main =>
          simp [F__law_draw, fnF, B__law_draw, sSeq, sIf, sSet, sRet, sHset, sNil, tV, eBin, eUn, eHand, hndAt, hndSet, eVar, eC, VI.tAnd, oGtD_int, oEq_int, oLtD_int, oInt_int, oMod_int, oFdiv_int, oAdd_int, oMul_r, oMul_l, oMul_mod, hb, hb2, h5, h, oLen]
          constructor
          · exact rfl
          · exact rfl
      · refine ⟨?y3, ?h3, ?main⟩
        case main =>
          simp [F__law_draw, fnF, B__law_draw, sSeq, sIf, sSet, sRet, sHset, sNil, tV, eBin, eUn, eHand, hndAt, hndSet, eVar, eC, VI.tAnd, oGtD_int, oEq_int, oLtD_int, oInt_int, oMod_int, oFdiv_int, oAdd_int, oMul_r, oMul_l, oMul_mod, hb, hb2, h5, h, oLen]
          constructor
          · exact rfl
          · exact rfl
theorem some_ok {n : Nat} (xs : List D) (hl : xs.length = n) (h0 : 0 < n) (h1 : n ≤ 1000) (hs : Hnd) : ∃ (k : Nat) (d : D) (hs' : Hnd), F__law_some [.hnd, .lst xs] hs = some (d, hs') ∧ xs[k]? = some d := by
  obtain ⟨r, hs', e, r0, r1⟩ := draw_ok (n : Int) (by omega) (by omega) hs
  have hr : r.toNat < xs.length := by omega
  refine ⟨r.toNat, xs[r.toNat], hs', ?_, List.getElem?_eq_getElem hr⟩
  unfold F__law_some B__law_some
  refine fnF_rt (sRet_eq ?_)
  refine eBin_eq (x := .lst xs) (y := .int r) (hs1 := hs) (hs2 := hs') rfl ((eCall_eq (ds := [.hnd, .int (n : Nat)]) (hs1 := hs) (aCons_eq (hs1 := hs) rfl (aCons_eq (hs1 := hs) (eUn_eq (x := .lst xs) (hs1 := hs) rfl (by simp [oLen, hl])) aNil_eq))).trans e) ?_
  have er : ((r.toNat : Nat) : Int) = r := by omega
  have := oIx_lst (List.getElem?_eq_getElem hr)
  rw [er] at this
  exact this
end Law

namespace Law
open PySem PySem.Spec PyProof.Rows L2 L2.VI
open L2.VI (tAnd tOr tNot gName gNil gCons gTup tYes)
def P0 : SF := (sSet 3 (eBin oAdd (eC (.int 1)) (eCall F__law_draw (aCons (eVar 1) (aCons (eC (.int 6)) aNil)))))
def P1 : SF := (sSet 5 (eUn oTuple (eComp (iR1 (eBin oAdd (eC (.int 1)) (eCall F__law_draw (aCons (eVar 1) (aCons (eC (.int 8)) aNil))))) (gName 4) tYes (eUn oTuple (eComp (iR1 (eVar 3)) (gName 21) tYes (eCall F__law_draw (aCons (eVar 1) (aCons (eC (.int 5)) aNil))) [21])) [4])))
def P2 : SF := (sSet 6 (eCall F__law_some (aCons (eVar 1) (aCons (eAp oList (aCons (eVar 5) aNil)) aNil))))
def P3 : SF := (sSet 7 (eUn oTuple (eComp (iSeq (eVar 6)) (gName 22) tYes (eIf (tV (eBin oEq (eCall F__law_draw (aCons (eVar 1) (aCons (eC (.int 2)) aNil))) (eC (.int 0)))) (eVar 22) (eC .non)) [22])))
def P4 : SF := (sSet 9 (eUn oTuple (eComp (iZp (eVar 6) (eVar 7)) (gTup 2 (gCons (gName 22) (gCons (gName 8) gNil))) tYes (eIf (tAnd (tV (eBin oIs (eVar 8) (eC .non))) (tV (eBin oEq (eCall F__law_draw (aCons (eVar 1) (aCons (eC (.int 2)) aNil))) (eC (.int 0))))) (eVar 22) (eVar 8)) [22, 8])))
def P5 : SF := (sSet 10 (eCall F__law_draw (aCons (eVar 1) (aCons (eC (.int 3)) aNil))))
def P6 : SF := (sSet 11 (eComp (iEn (eVar 5)) (gTup 2 (gCons (gName 23) (gCons (gName 4) gNil))) (tV (eBin oLeD (eCall F__law_off (aCons (eVar 4) (aCons (eVar 7) aNil))) (eVar 10))) (eVar 23) [23, 4]))
def P7 : SF := (sSet 12 (eIf (tV (eBin oEq (eUn oLen (eVar 11)) (eC (.int 1)))) (eAp oTup (aCons (eC (.str [111, 110, 101])) (aCons (eBin oIx (eVar 11) (eC (.int 0))) aNil))) (eAp oTup (aCons (eC (.str [115, 111, 109, 101])) (aCons (eUn oTuple (eVar 11)) aNil)))))
def P8 : SF := (sIf (tOr (tNot (tV (eCall (F__law_is 8) (aCons (eCall F_one_or_some (aCons (eVar 5) (aCons (eVar 7) (aCons (eVar 10) aNil)))) (aCons (eVar 12) aNil))))) (tV (eBin oIsNot (eCall F_is_one_or_some (aCons (eVar 5) (aCons (eVar 7) (aCons (eVar 10) (aCons (eVar 12) aNil))))) (eC (.bl true))))) (sRet (eC (.bl false))) sNil)
def P9 : SF := (sSet 13 (eCall F_one_or_some (aCons (eVar 5) (aCons (eVar 9) (aCons (eVar 10) aNil)))))
def P10 : SF := (sSet 8 (eIf (tV (eBin oEq (eBin oIx (eVar 13) (eC (.int 0))) (eC (.str [111, 110, 101])))) (eAp oLst (aCons (eBin oIx (eVar 13) (eC (.int 1))) aNil)) (eAp oList (aCons (eBin oIx (eVar 13) (eC (.int 1))) aNil))))
def P11 : SF := (sIf (tNot (tV (eUn oAll (eComp (iSeq (eVar 8)) (gName 23) tYes (eBin oIn (eVar 23) (eVar 11)) [23])))) (sRet (eC (.bl false))) sNil)
def P12 : SF := (sSet 14 (eBin oAdd (eAp oTup (aCons (eIf (tV (eBin oLtD (eBin oIx (eBin oIx (eVar 5) (eC (.int 0))) (eC (.int 0))) (eC (.int 4)))) (eBin oAdd (eBin oIx (eBin oIx (eVar 5) (eC (.int 0))) (eC (.int 0))) (eC (.int 1))) (eC (.int 0))) aNil)) (eUn oTuple (eComp (iSeq (eSl (eVar 6) (pSome (eC (.int 1))) pNone)) (gName 22) tYes (eBin oSub (eC (.int 4)) (eVar 22)) [22]))))
def P13 : SF := (sSet 15 (eComp (iSeq (eVar 5)) (gName 4) tYes (eCall F__law_off (aCons (eVar 4) (aCons (eVar 14) aNil))) [4]))
def P14 : SF := (sIf (tV (eBin oGtD (eUn oMin (eVar 15)) (eC (.int 0)))) (sSeq (sIf (tNot (tV (eCall (F__law_is 8) (aCons (eCall F_one_or_some (aCons (eVar 5) (aCons (eVar 14) (aCons (eBin oSub (eUn oMin (eVar 15)) (eC (.int 1))) aNil)))) (aCons (eAp oTup (aCons (eC (.str [110, 111, 110, 101])) (aCons (eUn oMin (eVar 15)) aNil))) aNil))))) (sRet (eC (.bl false))) sNil) (sIf (tV (eBin oIsNot (eCall F_is_one_or_some (aCons (eVar 5) (aCons (eVar 14) (aCons (eBin oSub (eUn oMin (eVar 15)) (eC (.int 1))) (aCons (eAp oTup (aCons (eC (.str [110, 111, 110, 101])) (aCons (eBin oAdd (eUn oMin (eVar 15)) (eC (.int 1))) aNil))) aNil))))) (eC (.bl false)))) (sRet (eC (.bl false))) sNil)) sNil)
def P15 : SF := (sSet 16 (eCall F__law_some (aCons (eVar 1) (aCons (eAp oLst (aCons (eC .non) (aCons (eAp oTup aNil) (aCons (eAp oTup (aCons (eC (.str [111, 110, 101])) aNil)) (aCons (eAp oLst (aCons (eC (.str [111, 110, 101])) (aCons (eC (.int 0)) aNil))) (aCons (eAp oTup (aCons (eC (.str [115, 111, 109, 101])) (aCons (eAp oTup (aCons (eC (.int 99)) aNil)) aNil))) (aCons (eAp oTup (aCons (eC (.str [110, 111, 110, 101])) (aCons (eC .non) aNil))) (aCons (eAp oTup (aCons (eC (.str [111, 110, 101])) (aCons (eC .non) aNil))) aNil)))))))) aNil))))
def P16 : SF := (sIf (tV (eBin oIsNot (eCall F_is_one_or_some (aCons (eVar 5) (aCons (eVar 7) (aCons (eVar 10) (aCons (eVar 16) aNil))))) (eC (.bl false)))) (sRet (eC (.bl false))) sNil)
def P17 : SF := (sFor (iSeq (eVar 5)) (gName 4) (sIf (tNot (tV (eCall (F__law_is 8) (aCons (eCall F_fits_face (aCons (eVar 4) (aCons (eVar 9) (aCons (eVar 10) aNil)))) (aCons (eBin oLeD (eCall F__law_off (aCons (eVar 4) (aCons (eVar 9) aNil))) (eVar 10)) aNil))))) (sRet (eC (.bl false))) sNil))
def P18 : SF := (sSet 17 (eUn oTuple (eComp (iSeq (eVar 9)) (gName 22) tYes (eIf (tOr (tV (eBin oIs (eVar 22) (eC .non))) (tV (eBin oGtD (eCall F__law_draw (aCons (eVar 1) (aCons (eC (.int 3)) aNil))) (eC (.int 0))))) (eVar 22) (eC .non)) [22])))
def P19 : SF := (sIf (tNot (tV (eCall (F__law_is 8) (aCons (eCall F_joined_words (aCons (eVar 7) (aCons (eVar 17) aNil))) (aCons (eUn oTuple (eComp (iZp (eVar 7) (eVar 17)) (gTup 2 (gCons (gName 24) (gCons (gName 25) gNil))) tYes (eIf (tV (eBin oIs (eVar 24) (eC .non))) (eVar 25) (eVar 24)) [24, 25])) aNil))))) (sRet (eC (.bl false))) sNil)
def P20 : SF := (sSet 18 (eUn oTuple (eComp (iSeq (eVar 7)) (gName 22) tYes (eIf (tV (eBin oIs (eVar 22) (eC .non))) (eC .non) (eIf (tV (eBin oNe (eVar 22) (eC (.int 2)))) (eBin oSub (eC (.int 4)) (eVar 22)) (eC (.int 3)))) [22])))
def P21 : SF := (sIf (tAnd (tV (eUn oAny (eComp (iSeq (eVar 7)) (gName 22) tYes (eBin oIsNot (eVar 22) (eC .non)) [22]))) (tV (eBin oIsNot (eCall F_joined_words (aCons (eVar 7) (aCons (eVar 18) aNil))) (eC .non)))) (sRet (eC (.bl false))) sNil)
def P22 : SF := (sSet 19 (eAp oLst aNil))
def P23 : SF := (sFor (iEn (eVar 5)) (gTup 2 (gCons (gName 20) (gCons (gName 4) gNil))) (sExt 19 (eComp (iR2 (eBin oAdd (eVar 20) (eC (.int 1))) (eUn oLen (eVar 5))) (gName 26) (tV (eBin oEq (eBin oIx (eVar 5) (eVar 26)) (eVar 4))) (eAp oTup (aCons (eVar 20) (aCons (eVar 26) aNil))) [26])))
def P24 : SF := (sIf (tNot (tV (eCall (F__law_is 8) (aCons (eCall F_twins_of (aCons (eVar 5) aNil)) (aCons (eUn oTuple (eVar 19)) aNil))))) (sRet (eC (.bl false))) sNil)
def B_lap : SF := (sSeq P0 (sSeq P1 (sSeq P2 (sSeq P3 (sSeq P4 (sSeq P5 (sSeq P6 (sSeq P7 (sSeq P8 (sSeq P9 (sSeq P10 (sSeq P11 (sSeq P12 (sSeq P13 (sSeq P14 (sSeq P15 (sSeq P16 (sSeq P17 (sSeq P18 (sSeq P19 (sSeq P20 (sSeq P21 (sSeq P22 (sSeq P23 P24))))))))))))))))))))))))
def B_end : SF := (sRet (eBin oEq (eCall F_one_or_some (aCons (eAp oTup (aCons (eAp oTup (aCons (eC (.int 0)) (aCons (eC (.int 1)) aNil))) (aCons (eAp oTup (aCons (eC (.int 1)) (aCons (eC (.int 1)) aNil))) aNil))) (aCons (eAp oTup (aCons (eC .non) (aCons (eC (.int 1)) aNil))) (aCons (eC (.int 0)) aNil)))) (eAp oTup (aCons (eC (.str [115, 111, 109, 101])) (aCons (eAp oTup (aCons (eC (.int 0)) (aCons (eC (.int 1)) aNil))) aNil)))))
theorem law_split : B_law = sSeq (sFor (iR1 (eC (.int 8))) (gName 2) B_lap) B_end := rfl
def Ext (w v : List (Option Int)) : Prop := All2 (fun a b => a = none ∨ b = a) w v
def Part (f : List Int) (w : List (Option Int)) : Prop := All2 (fun x o => o = none ∨ o = some x) f w
theorem part_off : ∀ {f : List Int} {w : List (Option Int)}, Part f w → offN f w = 0
  | _, _, .nil => rfl
  | _, _, .cons (a := x) (b := o) h t => by
    have ih := part_off t
    unfold offN at ih ⊢
    rw [List.zip_cons_cons, List.filter_cons]
    have : offP (x, o) = false := by
      rcases h with rfl | rfl
      · rfl
      · simp [offP]
    rw [this]; exact ih
theorem part_wd {m : Nat} {f : List Int} {w : List (Option Int)} (hf : Fc m f) (h : Part f w) : Wd m w := by
  refine ⟨by rw [← h.length]; exact hf.1, ?_⟩
  have q : ∀ {f : List Int} {w : List (Option Int)}, Part f w → ∀ x, some x ∈ w → x ∈ f := by
    intro f w h
    induction h with
    | nil => intro x hx; simp at hx
    | cons r t ih =>
      intro x hx
      rcases List.mem_cons.mp hx with e | hx
      · rcases r with r | r
        · rw [r] at e; cases e
        · rw [r] at e; injection e with e; rw [e]; exact List.mem_cons_self
      · exact List.mem_cons_of_mem _ (ih x hx)
  exact fun x hx => hf.2 x (q h x hx)
theorem ext_off : ∀ {w v : List (Option Int)}, Ext w v → ∀ g : List Int, offN g w ≤ offN g v
  | _, _, .nil, g => by simp [offN]
  | _, _, .cons (a := a) (b := b) h t, [] => by simp [offN]
  | _, _, .cons (a := a) (b := b) h t, x :: g => by
    have ih := ext_off t g
    unfold offN at ih ⊢
    rw [List.zip_cons_cons, List.zip_cons_cons, List.filter_cons, List.filter_cons]
    rcases h with rfl | rfl
    · have : offP (x, (none : Option Int)) = false := rfl
      rw [this]
      simp only [Bool.false_eq_true, if_false]
      split
      · rw [List.length_cons]; omega
      · exact ih
    · split
      · rw [List.length_cons, List.length_cons]; omega
      · exact ih
def moreR (p : Int × Option Int) (o : Option Int) : Prop := if p.2.isSome then o = p.2 else o = none ∨ o = some p.1
theorem more_ext : ∀ {f : List Int} {w v : List (Option Int)}, f.length = w.length → All2 moreR (f.zip w) v → Ext w v
  | [], [], _, _, h => by cases h; exact .nil
  | x :: f, o :: w, _, hl, h => by
    rw [List.zip_cons_cons] at h
    cases h with
    | cons r t =>
      refine .cons ?_ (more_ext (by simpa using hl) t)
      cases o with
      | none => exact .inl rfl
      | some y => exact .inr r
  | [], _ :: _, _, hl, _ => by simp at hl
  | _ :: _, [], _, hl, _ => by simp at hl
theorem more_part : ∀ {f : List Int} {w v : List (Option Int)}, Part f w → All2 moreR (f.zip w) v → Part f v
  | [], _, _, .nil, h => by cases h; exact .nil
  | x :: f, _, _, .cons (b := o) q t2, h => by
    rw [List.zip_cons_cons] at h
    cases h with
    | cons r t =>
      refine .cons ?_ (more_part t2 t)
      cases o with
      | none => exact r
      | some y =>
        rcases q with q | q
        · cases q
        · exact .inr (Eq.trans r q)
section
variable {x0 : Option D} {lap : D} {a3 a4 a5 a6 a7 a8 a9 a10 a11 a12 a13 a14 a15 a16 a17 a18 a19 a20 : Option D} {hs h1 h2 : Hnd}
theorem if_no {t : TF} {sl : Sl} (h : t sl hs = some (false, hs)) : sIf t (sRet (eC (.bl false))) sNil sl hs = some (.nx sl hs) := by rw [sIf_f h]; rfl
theorem dr {n : Int} (h0 : 0 < n) (h1 : n ≤ 100) {sl : Sl} (hh : sl[1]? = some (some .hnd)) (hs : Hnd) : ∃ r hs', eCall F__law_draw (aCons (eVar 1) (aCons (eC (.int n)) aNil)) sl hs = some (.int r, hs') ∧ 0 ≤ r ∧ r < n := by
  obtain ⟨r, h2, e, r0, r1⟩ := draw_ok n h0 (by omega) hs
  exact ⟨r, h2, (eCall_eq (ds := [.hnd, .int n]) (hs1 := hs) (aCons_eq (hs1 := hs) (by simp [eVar, hh]) rfl)).trans e, r0, r1⟩
theorem p0 (hs : Hnd) : ∃ (m : Nat) (hs' : Hnd), P0 [x0, some .hnd, some lap, a3, a4, a5, a6, a7, a8, a9, a10, a11, a12, a13, a14, a15, a16, a17, a18, a19, a20, none, none, none, none, none, none] hs = some (.nx [x0, some .hnd, some lap, some (.int (m : Nat)), a4, a5, a6, a7, a8, a9, a10, a11, a12, a13, a14, a15, a16, a17, a18, a19, a20, none, none, none, none, none, none] hs') ∧ 1 ≤ m ∧ m ≤ 6 := by
  obtain ⟨r, h2, e, r0, r1⟩ := dr (n := 6) (by omega) (by omega) (sl := [x0, some .hnd, some lap, a3, a4, a5, a6, a7, a8, a9, a10, a11, a12, a13, a14, a15, a16, a17, a18, a19, a20, none, none, none, none, none, none]) rfl hs
  refine ⟨(1 + r).toNat, h2, ?_, by omega, by omega⟩
  have er : (((1 + r).toNat : Nat) : Int) = 1 + r := by omega
  unfold P0
  rw [er]
  exact sSet_eq (eBin_eq (x := .int 1) (y := .int r) (hs1 := hs) rfl e rfl)
theorem p1 {m : Nat} (m1 : 1 ≤ m) (m6 : m ≤ 6) (hs : Hnd) : ∃ (fs : List (List Int)) (hs' : Hnd), P1 [x0, some .hnd, some lap, some (.int (m : Nat)), a4, a5, a6, a7, a8, a9, a10, a11, a12, a13, a14, a15, a16, a17, a18, a19, a20, none, none, none, none, none, none] hs = some (.nx [x0, some .hnd, some lap, some (.int (m : Nat)), a4, some (fsD fs), a6, a7, a8, a9, a10, a11, a12, a13, a14, a15, a16, a17, a18, a19, a20, none, none, none, none, none, none] hs') ∧ Fs m fs := by
  obtain ⟨r, h2, e, r0, r1⟩ := dr (n := 8) (by omega) (by omega) (sl := [x0, some .hnd, some lap, some (.int (m : Nat)), a4, a5, a6, a7, a8, a9, a10, a11, a12, a13, a14, a15, a16, a17, a18, a19, a20, none, none, none, none, none, none]) rfl hs
  obtain ⟨fs, h3, e3, q3⟩ := compL_draw (gf := gName 4) (fe := eUn oTuple (eComp (iR1 (eVar 3)) (gName 21) tYes (eCall F__law_draw (aCons (eVar 1) (aCons (eC (.int 5)) aNil))) [21])) (sl := [x0, some .hnd, some lap, some (.int (m : Nat)), none, a5, a6, a7, a8, a9, a10, a11, a12, a13, a14, a15, a16, a17, a18, a19, a20, none, none, none, none, none, none]) (fun k : Nat => D.int (k : Nat)) faceD (fun _ f => Fc m f) (List.range (1 + r).toNat) (fun x _ hs => by
    obtain ⟨f, h4, e4, q4⟩ := compL_draw (gf := gName 21) (fe := eCall F__law_draw (aCons (eVar 1) (aCons (eC (.int 5)) aNil))) (sl := [x0, some .hnd, some lap, some (.int (m : Nat)), some (.int (x : Nat)), a5, a6, a7, a8, a9, a10, a11, a12, a13, a14, a15, a16, a17, a18, a19, a20, none, none, none, none, none, none]) (fun k : Nat => D.int (k : Nat)) D.int (fun _ y => 0 ≤ y ∧ y ≤ 4) (List.range m) (fun z _ hs => by
      obtain ⟨r, h5, e5, r0, r1⟩ := dr (n := 5) (by omega) (by omega) (sl := [x0, some .hnd, some lap, some (.int (m : Nat)), some (.int (x : Nat)), a5, a6, a7, a8, a9, a10, a11, a12, a13, a14, a15, a16, a17, a18, a19, a20, some (.int (z : Nat)), none, none, none, none, none]) rfl hs
      exact ⟨_, r, h5, rfl, e5, r0, by omega⟩) hs
    refine ⟨_, f, h4, rfl, ?_, ?_, All2.right (P := fun y : Int => 0 ≤ y ∧ y ≤ 4) (fun _ _ h => h) q4⟩
    · exact eUn_eq (eComp_eq (iR1_eq (n := (m : Nat)) (hs1 := hs) rfl (by omega) (by omega)) (by simp; omega) e4) rfl
    · rw [← q4.length, List.length_range]) h2
  refine ⟨fs, h3, ?_, ⟨m1, m6, ?_, ?_, All2.right (P := Fc m) (fun _ _ h => h) q3⟩⟩
  · unfold P1
    exact sSet_eq (eUn_eq (eComp_eq (iR1_eq (n := 1 + r) (hs1 := h2) (eBin_eq (x := .int 1) (y := .int r) (hs1 := hs) rfl e rfl) (by omega) (by omega)) (by simp; omega) e3) rfl)
  · rw [← q3.length, List.length_range]; omega
  · rw [← q3.length, List.length_range]; omega
theorem p2 {m : Nat} {fs : List (List Int)} (h : Fs m fs) (hs : Hnd) : ∃ (f : List Int) (hs' : Hnd), P2 [x0, some .hnd, some lap, some (.int (m : Nat)), a4, some (fsD fs), a6, a7, a8, a9, a10, a11, a12, a13, a14, a15, a16, a17, a18, a19, a20, none, none, none, none, none, none] hs = some (.nx [x0, some .hnd, some lap, some (.int (m : Nat)), a4, some (fsD fs), some (faceD f), a7, a8, a9, a10, a11, a12, a13, a14, a15, a16, a17, a18, a19, a20, none, none, none, none, none, none] hs') ∧ f ∈ fs := by
  have hl1 := h.l1
  have hl8 := h.l8
  obtain ⟨k, d, h2, e, hk⟩ := some_ok (n := fs.length) (fs.map faceD) (by simp) (by omega) (by omega) hs
  rw [List.getElem?_map] at hk
  obtain ⟨f, hf, rfl⟩ := Option.map_eq_some_iff.mp hk
  refine ⟨f, h2, ?_, List.mem_of_getElem? hf⟩
  unfold P2
  exact sSet_eq ((eCall_eq (ds := [.hnd, .lst (fs.map faceD)]) (hs1 := hs) rfl).trans e)
theorem p3 {m : Nat} {fs : List (List Int)} {f : List Int} (hf : Fc m f) (m6 : m ≤ 6) (hs : Hnd) : ∃ (w : List (Option Int)) (hs' : Hnd), P3 [x0, some .hnd, some lap, some (.int (m : Nat)), a4, some (fsD fs), some (faceD f), a7, a8, a9, a10, a11, a12, a13, a14, a15, a16, a17, a18, a19, a20, none, none, none, none, none, none] hs = some (.nx [x0, some .hnd, some lap, some (.int (m : Nat)), a4, some (fsD fs), some (faceD f), some (wordD w), a8, a9, a10, a11, a12, a13, a14, a15, a16, a17, a18, a19, a20, none, none, none, none, none, none] hs') ∧ Part f w := by
  have hl := hf.1
  obtain ⟨w, h3, e3, q3⟩ := compL_draw (gf := gName 22) (fe := eIf (tV (eBin oEq (eCall F__law_draw (aCons (eVar 1) (aCons (eC (.int 2)) aNil))) (eC (.int 0)))) (eVar 22) (eC .non)) (sl := [x0, some .hnd, some lap, some (.int (m : Nat)), a4, some (fsD fs), some (faceD f), a7, a8, a9, a10, a11, a12, a13, a14, a15, a16, a17, a18, a19, a20, none, none, none, none, none, none]) D.int optI (fun x o => o = none ∨ o = some x) f (fun x _ hs => by
    obtain ⟨r, h5, e5, r0, r1⟩ := dr (n := 2) (by omega) (by omega) (sl := [x0, some .hnd, some lap, some (.int (m : Nat)), a4, some (fsD fs), some (faceD f), a7, a8, a9, a10, a11, a12, a13, a14, a15, a16, a17, a18, a19, a20, none, some (.int x), none, none, none, none]) rfl hs
    by_cases hr : r = 0
    · exact ⟨_, some x, h5, rfl, (eIf_t (tV_eq (eBin_eq (y := .int 0) (hs2 := h5) e5 rfl (by rw [oEq_int, decide_eq_true hr])))).trans rfl, .inr rfl⟩
    · exact ⟨_, none, h5, rfl, (eIf_f (tV_eq (eBin_eq (y := .int 0) (hs2 := h5) e5 rfl (by rw [oEq_int, decide_eq_false hr])))).trans rfl, .inl rfl⟩) hs
  refine ⟨w, h3, ?_, q3⟩
  unfold P3
  exact sSet_eq (eUn_eq (eComp_eq (iSeq_tup rfl) (by simp; omega) e3) rfl)
theorem p4 {m : Nat} {fs : List (List Int)} {f : List Int} (hf : Fc m f) (m6 : m ≤ 6) {w : List (Option Int)} (hw : Part f w) (hs : Hnd) : ∃ (v : List (Option Int)) (hs' : Hnd), P4 [x0, some .hnd, some lap, some (.int (m : Nat)), a4, some (fsD fs), some (faceD f), some (wordD w), a8, a9, a10, a11, a12, a13, a14, a15, a16, a17, a18, a19, a20, none, none, none, none, none, none] hs = some (.nx [x0, some .hnd, some lap, some (.int (m : Nat)), a4, some (fsD fs), some (faceD f), some (wordD w), a8, some (wordD v), a10, a11, a12, a13, a14, a15, a16, a17, a18, a19, a20, none, none, none, none, none, none] hs') ∧ Part f v ∧ Ext w v := by
  have hl := hf.1
  obtain ⟨v, h3, e3, q3⟩ := compL_draw (gf := gTup 2 (gCons (gName 22) (gCons (gName 8) gNil))) (fe := eIf (tAnd (tV (eBin oIs (eVar 8) (eC .non))) (tV (eBin oEq (eCall F__law_draw (aCons (eVar 1) (aCons (eC (.int 2)) aNil))) (eC (.int 0))))) (eVar 22) (eVar 8)) (sl := [x0, some .hnd, some lap, some (.int (m : Nat)), a4, some (fsD fs), some (faceD f), some (wordD w), none, a9, a10, a11, a12, a13, a14, a15, a16, a17, a18, a19, a20, none, none, none, none, none, none]) (fun p : Int × Option Int => D.tup [.int p.1, optI p.2]) optI moreR (f.zip w) (fun p _ hs => by
    obtain ⟨r, h5, e5, r0, r1⟩ := dr (n := 2) (by omega) (by omega) (sl := [x0, some .hnd, some lap, some (.int (m : Nat)), a4, some (fsD fs), some (faceD f), some (wordD w), some (optI p.2), a9, a10, a11, a12, a13, a14, a15, a16, a17, a18, a19, a20, none, some (.int p.1), none, none, none, none]) rfl hs
    cases hp : p.2.isSome with
    | true => exact ⟨_, p.2, hs, rfl, (eIf_f (tAnd_f (hs1 := hs) (tV_eq (eBin_eq (x := optI p.2) (y := .non) (hs1 := hs) (hs2 := hs) rfl rfl (by rw [optI_is, hp]; rfl))))).trans rfl, by simp [moreR, hp]⟩
    | false =>
      by_cases hr : r = 0
      · exact ⟨_, some p.1, h5, rfl, (eIf_t ((tAnd_t (hs1 := hs) (tV_eq (eBin_eq (x := optI p.2) (y := .non) (hs1 := hs) (hs2 := hs) rfl rfl (by rw [optI_is, hp]; rfl)))).trans (tV_eq (eBin_eq (y := .int 0) (hs2 := h5) e5 rfl (by rw [oEq_int, decide_eq_true hr]))))).trans rfl, by simp [moreR, hp]⟩
      · exact ⟨_, p.2, h5, rfl, (eIf_f ((tAnd_t (hs1 := hs) (tV_eq (eBin_eq (x := optI p.2) (y := .non) (hs1 := hs) (hs2 := hs) rfl rfl (by rw [optI_is, hp]; rfl)))).trans (tV_eq (eBin_eq (y := .int 0) (hs2 := h5) e5 rfl (by rw [oEq_int, decide_eq_false hr]))))).trans rfl, by
          have : p.2 = none := by simpa using hp
          simp [moreR, this]⟩) hs
  refine ⟨v, h3, ?_, more_part hw q3, more_ext (All2.length hw) q3⟩
  unfold P4
  exact sSet_eq (eUn_eq (eComp_eq (ds := (f.zip w).map fun p : Int × Option Int => D.tup [.int p.1, optI p.2]) (by rw [iZp_eq (xs := f.map .int) (ys := w.map optI) (x := faceD f) (y := wordD w) (hs1 := hs) (hs2 := hs) rfl rfl rfl rfl, zip_maps]) (by simp; omega) e3) rfl)
theorem p5 {m : Nat} {fs : List (List Int)} {f : List Int} {w v : List (Option Int)} (hs : Hnd) : ∃ (k : Int) (hs' : Hnd), P5 [x0, some .hnd, some lap, some (.int (m : Nat)), a4, some (fsD fs), some (faceD f), some (wordD w), a8, some (wordD v), a10, a11, a12, a13, a14, a15, a16, a17, a18, a19, a20, none, none, none, none, none, none] hs = some (.nx [x0, some .hnd, some lap, some (.int (m : Nat)), a4, some (fsD fs), some (faceD f), some (wordD w), a8, some (wordD v), some (.int k), a11, a12, a13, a14, a15, a16, a17, a18, a19, a20, none, none, none, none, none, none] hs') ∧ 0 ≤ k ∧ k ≤ 2 := by
  obtain ⟨r, h5, e5, r0, r1⟩ := dr (n := 3) (by omega) (by omega) (sl := [x0, some .hnd, some lap, some (.int (m : Nat)), a4, some (fsD fs), some (faceD f), some (wordD w), a8, some (wordD v), a10, a11, a12, a13, a14, a15, a16, a17, a18, a19, a20, none, none, none, none, none, none]) rfl hs
  exact ⟨r, h5, sSet_eq e5, r0, by omega⟩
end
end Law

namespace Law
open PySem PySem.Spec PyProof.Rows L2 L2.VI
open L2.VI (tAnd tOr tNot gName gNil gCons gTup tYes)
theorem lot_range {fs : List (List Int)} {w : List (Option Int)} {k z : Int} (h : z ∈ lotL fs w k) : 0 ≤ z ∧ z < fs.length := by
  obtain ⟨i, f, h1, rfl, _⟩ := lot_mem.mp h
  have := (List.getElem?_eq_some_iff.mp h1).1
  omega
theorem lot_len (fs : List (List Int)) (w : List (Option Int)) (k : Int) : (lotL fs w k).length ≤ fs.length := by
  unfold lotL
  rw [List.length_map]
  refine Nat.le_trans (List.length_filter_le _ _) ?_
  simp
theorem sh_two (s : List Nat) (hs : sh 63 (.str s) = true) (d : D) (h : sh 63 d = true) : sh 64 (.tup [.str s, d]) = true := sh_tup (by simp [shs, hs, h])
theorem told_same (lot : List Int) (mn : Int) : oEq (toldD lot mn) (toldD lot mn) = some (.bl true) := by
  refine oEq_same ?_
  cases lot with
  | nil => exact sh_two noneS rfl _ (sh_int 63 mn)
  | cons x r =>
    cases r with
    | nil => exact sh_two oneS rfl _ (sh_int 63 x)
    | cons y r => exact sh_two someS rfl _ (sh_tup (sh_ints 62 (x :: y :: r)))
theorem due_is {m : Nat} {fs : List (List Int)} (h : Fs m fs) {w : List (Option Int)} (hw : Wd m w) {k : Int} (hk : 0 ≤ k ∧ k ≤ 6) {mn : Int} (hmn : oMin (.lst ((offsL fs w).map .int)) = some (.int mn)) (hne : lotL fs w k ≠ []) (hs : Hnd) : F_is_one_or_some [fsD fs, wordD w, .int k, toldD (lotL fs w k) mn] hs = some (.bl true, hs) := by
  have h8 := h.l8
  have hsame := told_same (lotL fs w k) mn
  have hrg : ∀ z ∈ lotL fs w k, 0 ≤ z ∧ z < fs.length := fun z hz => lot_range hz
  have hll := lot_len fs w k
  have hri := lot_rise fs w k
  cases hlot : lotL fs w k with
  | nil => exact absurd hlot hne
  | cons x r =>
    rw [hlot] at hsame hrg hll hri
    have hx := hrg x List.mem_cons_self
    cases r with
    | nil =>
      exact isone_ok h hw hk hmn oneS (.int x) hs rfl (b1 := true) (b2 := true) (by
        rw [if_neg (by decide), within_ok, decide_eq_true (by omega)]) (fun _ => by rw [hlot]; exact hsame)
    | cons y r =>
      exact isone_ok h hw hk hmn someS (.tup ((x :: y :: r).map .int)) hs rfl (b1 := true) (b2 := true) (by
        rw [if_pos rfl]; exact is_lot_ok (by omega) hrg hri hs) (fun _ => by rw [hlot]; exact hsame)
theorem oIn_ints (j : Int) (ns : List Int) : oIn (.int j) (.lst (ns.map .int)) = some (.bl (decide (j ∈ ns))) := by
  have any_int : ∀ ns : List Int, ((ns.map D.int).any fun y => D.eqv y (.int j)) = decide (j ∈ ns) := by
    intro ns
    induction ns with
    | nil => rfl
    | cons x ns ih =>
      rw [List.map_cons, List.any_cons, ih]
      show (decide (x = j) || decide (j ∈ ns)) = decide (j ∈ x :: ns)
      rw [← Bool.decide_or]
      exact decide_eq_decide.mpr (by rw [List.mem_cons]; exact ⟨fun h => h.imp (fun e => e.symm) id, fun h => h.imp (fun e => e.symm) id⟩)
  have h : (shs 63 (ns.map D.int) && sh 63 (D.int j)) = true := by rw [sh_ints, sh_int]; rfl
  simp only [oIn, inB, h, if_true, any_int, Option.map_some]
section
variable {x0 : Option D} {lap : D} {a3 a4 a5 a6 a7 a8 a9 a10 a11 a12 a13 a14 a15 a16 a17 a18 a19 a20 : Option D} {hs h1 h2 : Hnd} {m : Nat} {fs : List (List Int)} {f : List Int} {w v : List (Option Int)} {k mn mv : Int}
theorem p6 (h : Fs m fs) (hs : Hnd) : P6 [x0, some .hnd, some lap, some (.int (m : Nat)), a4, some (fsD fs), some (faceD f), some (wordD w), a8, some (wordD v), some (.int k), a11, a12, a13, a14, a15, a16, a17, a18, a19, a20, none, none, none, none, none, none] hs = some (.nx [x0, some .hnd, some lap, some (.int (m : Nat)), a4, some (fsD fs), some (faceD f), some (wordD w), a8, some (wordD v), some (.int k), some (.lst ((lotL fs w k).map .int)), a12, a13, a14, a15, a16, a17, a18, a19, a20, none, none, none, none, none, none] hs) := by
  have hl8 := h.l8
  have e : (lotL fs w k).map D.int = (fs.zipIdx.filter fun p => decide ((offN p.1 w : Int) ≤ k)).map fun p => D.int ((p.2 : Nat) : Int) := by unfold lotL; rw [List.map_map]; rfl
  have c : compL (gTup 2 (gCons (gName 23) (gCons (gName 4) gNil))) (tV (eBin oLeD (eCall F__law_off (aCons (eVar 4) (aCons (eVar 7) aNil))) (eVar 10))) (eVar 23) [x0, some .hnd, some lap, some (.int (m : Nat)), none, some (fsD fs), some (faceD f), some (wordD w), a8, some (wordD v), some (.int k), a11, a12, a13, a14, a15, a16, a17, a18, a19, a20, none, none, none, none, none, none] (fs.zipIdx.map fun p : List Int × Nat => D.tup [.int (p.2 : Nat), faceD p.1]) hs = some ((lotL fs w k).map .int, hs) := by
    rw [e]
    refine compL_of (fun p : List Int × Nat => D.tup [.int (p.2 : Nat), faceD p.1]) _ _ _ fun p hp => ⟨_, rfl, ?_, fun _ => rfl⟩
    have hf : p.1 ∈ fs := List.mem_of_getElem? (List.mem_zipIdx_iff_getElem?.mp hp)
    exact tV_eq (eBin_eq (x := .int (offN p.1 w : Nat)) (y := .int k) (hs1 := hs) (hs2 := hs) ((eCall_eq (ds := [faceD p.1, wordD w]) (hs1 := hs) rfl).trans (law_off_ok (fc_len h hf) hs)) rfl rfl)
  unfold P6
  exact sSet_eq (eComp_eq (ds := fs.zipIdx.map fun p : List Int × Nat => D.tup [.int (p.2 : Nat), faceD p.1]) (by rw [← enumF_map]; exact iEn_tup rfl) (by simp; omega) c)
theorem p7 (h : Fs m fs) (hne : lotL fs w k ≠ []) (hs : Hnd) : P7 [x0, some .hnd, some lap, some (.int (m : Nat)), a4, some (fsD fs), some (faceD f), some (wordD w), a8, some (wordD v), some (.int k), some (.lst ((lotL fs w k).map .int)), a12, a13, a14, a15, a16, a17, a18, a19, a20, none, none, none, none, none, none] hs = some (.nx [x0, some .hnd, some lap, some (.int (m : Nat)), a4, some (fsD fs), some (faceD f), some (wordD w), a8, some (wordD v), some (.int k), some (.lst ((lotL fs w k).map .int)), some (toldD (lotL fs w k) mn), a13, a14, a15, a16, a17, a18, a19, a20, none, none, none, none, none, none] hs) := by
  have ln : oLen (.lst ((lotL fs w k).map .int)) = some (.int ((lotL fs w k).length : Int)) := by simp [oLen]
  unfold P7
  refine sSet_eq ?_
  cases hlot : lotL fs w k with
  | nil => exact absurd hlot hne
  | cons x r =>
    rw [hlot] at ln
    cases r with
    | nil =>
      rw [eIf_t (hs1 := hs) (tV_eq (eBin_eq (x := .int 1) (y := .int 1) (hs1 := hs) (hs2 := hs) (eUn_eq (x := .lst [.int x]) (hs1 := hs) rfl rfl) rfl rfl))]
      rfl
    | cons y r =>
      rw [eIf_f (hs1 := hs) (tV_eq (eBin_eq (y := .int 1) (hs1 := hs) (hs2 := hs) (eUn_eq (x := .lst ((x :: y :: r).map .int)) (hs1 := hs) rfl ln) rfl (by rw [oEq_int, decide_eq_false (by simp; omega)])))]
      rfl
theorem p8 (h : Fs m fs) (hw : Wd m w) (hk : 0 ≤ k ∧ k ≤ 6) (hmn : oMin (.lst ((offsL fs w).map .int)) = some (.int mn)) (hne : lotL fs w k ≠ []) (hs : Hnd) : P8 [x0, some .hnd, some lap, some (.int (m : Nat)), a4, some (fsD fs), some (faceD f), some (wordD w), a8, some (wordD v), some (.int k), some (.lst ((lotL fs w k).map .int)), some (toldD (lotL fs w k) mn), a13, a14, a15, a16, a17, a18, a19, a20, none, none, none, none, none, none] hs = some (.nx [x0, some .hnd, some lap, some (.int (m : Nat)), a4, some (fsD fs), some (faceD f), some (wordD w), a8, some (wordD v), some (.int k), some (.lst ((lotL fs w k).map .int)), some (toldD (lotL fs w k) mn), a13, a14, a15, a16, a17, a18, a19, a20, none, none, none, none, none, none] hs) := by
  have h8 := h.l8
  have hll := lot_len fs w k
  unfold P8
  refine if_no ?_
  rw [tOr_f (hs1 := hs) (tNot_eq (b := true) (tV_eq ((eCall_eq (ds := [toldD (lotL fs w k) mn, toldD (lotL fs w k) mn]) (hs1 := hs) (aCons_eq ((eCall_eq (ds := [fsD fs, wordD w, .int k]) (hs1 := hs) rfl).trans (one_ok h hw hk hmn hs)) rfl)).trans (li_told 5 (by omega) mn hs))))]
  exact tV_eq (eBin_eq (x := .bl true) (y := .bl true) (hs1 := hs) (hs2 := hs) ((eCall_eq (ds := [fsD fs, wordD w, .int k, toldD (lotL fs w k) mn]) (hs1 := hs) rfl).trans (due_is h hw hk hmn hne hs)) rfl rfl)
theorem p9 (h : Fs m fs) (hv : Wd m v) (hk : 0 ≤ k ∧ k ≤ 6) (hmv : oMin (.lst ((offsL fs v).map .int)) = some (.int mv)) (hs : Hnd) : P9 [x0, some .hnd, some lap, some (.int (m : Nat)), a4, some (fsD fs), some (faceD f), some (wordD w), a8, some (wordD v), some (.int k), some (.lst ((lotL fs w k).map .int)), some (toldD (lotL fs w k) mn), a13, a14, a15, a16, a17, a18, a19, a20, none, none, none, none, none, none] hs = some (.nx [x0, some .hnd, some lap, some (.int (m : Nat)), a4, some (fsD fs), some (faceD f), some (wordD w), a8, some (wordD v), some (.int k), some (.lst ((lotL fs w k).map .int)), some (toldD (lotL fs w k) mn), some (toldD (lotL fs v k) mv), a14, a15, a16, a17, a18, a19, a20, none, none, none, none, none, none] hs) :=
  sSet_eq ((eCall_eq (ds := [fsD fs, wordD v, .int k]) (hs1 := hs) rfl).trans (one_ok h hv hk hmv hs))
theorem p10 (hne : lotL fs v k ≠ []) (hs : Hnd) : P10 [x0, some .hnd, some lap, some (.int (m : Nat)), a4, some (fsD fs), some (faceD f), some (wordD w), a8, some (wordD v), some (.int k), some (.lst ((lotL fs w k).map .int)), some (toldD (lotL fs w k) mn), some (toldD (lotL fs v k) mv), a14, a15, a16, a17, a18, a19, a20, none, none, none, none, none, none] hs = some (.nx [x0, some .hnd, some lap, some (.int (m : Nat)), a4, some (fsD fs), some (faceD f), some (wordD w), some (.lst ((lotL fs v k).map .int)), some (wordD v), some (.int k), some (.lst ((lotL fs w k).map .int)), some (toldD (lotL fs w k) mn), some (toldD (lotL fs v k) mv), a14, a15, a16, a17, a18, a19, a20, none, none, none, none, none, none] hs) := by
  unfold P10
  refine sSet_eq ?_
  cases hlot : lotL fs v k with
  | nil => exact absurd hlot hne
  | cons x r =>
    cases r with
    | nil =>
      rw [eIf_t (hs1 := hs) (tV_eq (eBin_eq (x := .str oneS) (y := .str oneS) (hs1 := hs) (hs2 := hs) rfl rfl rfl))]
      rfl
    | cons y r =>
      rw [eIf_f (hs1 := hs) (tV_eq (eBin_eq (x := .str someS) (y := .str oneS) (hs1 := hs) (hs2 := hs) rfl rfl rfl))]
      rfl
theorem p11 (h : Fs m fs) (hsub : ∀ z ∈ lotL fs v k, z ∈ lotL fs w k) (hs : Hnd) : P11 [x0, some .hnd, some lap, some (.int (m : Nat)), a4, some (fsD fs), some (faceD f), some (wordD w), some (.lst ((lotL fs v k).map .int)), some (wordD v), some (.int k), some (.lst ((lotL fs w k).map .int)), some (toldD (lotL fs w k) mn), some (toldD (lotL fs v k) mv), a14, a15, a16, a17, a18, a19, a20, none, none, none, none, none, none] hs = some (.nx [x0, some .hnd, some lap, some (.int (m : Nat)), a4, some (fsD fs), some (faceD f), some (wordD w), some (.lst ((lotL fs v k).map .int)), some (wordD v), some (.int k), some (.lst ((lotL fs w k).map .int)), some (toldD (lotL fs w k) mn), some (toldD (lotL fs v k) mv), a14, a15, a16, a17, a18, a19, a20, none, none, none, none, none, none] hs) := by
  have h8 := h.l8
  have hll := lot_len fs v k
  unfold P11
  refine if_no (tNot_eq (b := true) (tV_eq (eUn_eq (eComp_eq (ds := (lotL fs v k).map .int) (iSeq_lst rfl) (by simp; omega) ?_) (all_true (lotL fs v k)))))
  exact compL_all D.int _ _ fun x hx => ⟨_, rfl, eBin_eq (x := .int x) (y := .lst ((lotL fs w k).map .int)) (hs1 := hs) (hs2 := hs) rfl rfl (by rw [oIn_ints, decide_eq_true (hsub x hx)])⟩
end
end Law

namespace Law
open PySem PySem.Spec PyProof.Rows L2 L2.VI
open L2.VI (tAnd tOr tNot gName gNil gCons gTup tYes)
theorem oAdd_tup {a b : List D} (h : a.length + b.length ≤ 16777216) : oAdd (.tup a) (.tup b) = some (.tup (a ++ b)) := by simp only [oAdd, h, if_true]
theorem off_le (f : List Int) (w : List (Option Int)) : offN f w ≤ f.length := by
  unfold offN
  refine Nat.le_trans (List.length_filter_le _ _) ?_
  rw [List.length_zip]; omega
theorem lot_none {fs : List (List Int)} {u : List (Option Int)} {mn : Int} (h : ∀ y ∈ offsL fs u, mn ≤ y) : lotL fs u (mn - 1) = [] := by
  refine List.eq_nil_iff_forall_not_mem.mpr fun z hz => ?_
  obtain ⟨i, f, h1, _, h2⟩ := lot_mem.mp hz
  have := h (offN f u : Int) (List.mem_map.mpr ⟨f, List.mem_of_getElem? h1, rfl⟩)
  omega
theorem isone_bad {m : Nat} {fs : List (List Int)} (h : Fs m fs) {w : List (Option Int)} (hw : Wd m w) {k : Int} (hk : 0 ≤ k ∧ k ≤ 6) (y : D) (hs : Hnd) (t : F_is_tuple [y, .int 2, .int 2] hs = some (.bl false, hs)) : F_is_one_or_some [fsD fs, wordD w, .int k, y] hs = some (.bl false, hs) := by
  unfold F_is_one_or_some B_is_one_or_some
  refine fnF_rt ?_
  simp only [List.map_cons, List.map_nil, List.length_cons, List.length_nil, Nat.reduceAdd, Nat.reduceSub, List.replicate, List.append_nil]
  rw [sSeq_eq (sExpr_eq ((eCall_eq (ds := [fsD fs, wordD w, .int k]) (hs1 := hs) rfl).trans (check_told_ok h hw hk hs)))]
  rw [sSeq_rt (d := .bl false) (hs1 := hs) (by
    rw [sIf_t (hs1 := hs)]
    · rfl
    · exact tOr_t (tNot_eq (b := false) (tV_eq ((eCall_eq (ds := [y, .int 2, .int 2]) (hs1 := hs) rfl).trans t))))]
def bads : List D := [.non, .tup [], .tup [.str oneS], .lst [.str oneS, .int 0], .tup [.str someS, .tup [.int 99]], .tup [.str noneS, .non], .tup [.str oneS, .non]]
theorem is_lot_99 (n : Int) (hn : n ≤ 8) (hs : Hnd) : F_is_lot [.tup [.int 99], .int n] hs = some (.bl false, hs) := by
  have c1 : compL (gName 2) tYes (eCall F_is_within (aCons (eVar 2) (aCons (eC (.int 0)) (aCons (eBin oSub (eVar 1) (eC (.int 1))) aNil)))) [some (.tup [.int 99]), some (.int n), none, none] ([(99 : Int)].map .int) hs = some ([(99 : Int)].map fun _ => .bl false, hs) :=
    compL_all D.int _ _ fun x h => ⟨_, rfl, (eCall_eq (ds := [.int x, .int 0, .int (n - 1)]) rfl).trans (by
      rcases List.mem_cons.mp h with rfl | h
      · rw [within_ok, decide_eq_false (by omega)]
      · simp at h)⟩
  unfold F_is_lot B_is_lot
  refine fnF_rt ?_
  simp only [List.map_cons, List.map_nil, List.length_cons, List.length_nil, Nat.reduceAdd, Nat.reduceSub, List.replicate, List.cons_append, List.nil_append]
  rw [sSeq_rt (d := .bl false) (hs1 := hs) (by
    rw [sIf_t (hs1 := hs)]
    · rfl
    · rw [tOr_f (hs1 := hs) (tNot_eq (b := true) (tV_eq (eUn_eq (x := .tup [.int 99]) (hs1 := hs) rfl rfl)))]
      exact tNot_eq (b := false) (tV_eq (eUn_eq (eComp_eq (iSeq_tup rfl) (by simp) c1) rfl)))]
theorem bad_no {m : Nat} {fs : List (List Int)} (h : Fs m fs) {w : List (Option Int)} (hw : Wd m w) {k : Int} (hk : 0 ≤ k ∧ k ≤ 6) {d : D} (hd : d ∈ bads) (hs : Hnd) : F_is_one_or_some [fsD fs, wordD w, .int k, d] hs = some (.bl false, hs) := by
  have h8 := h.l8
  obtain ⟨mn, hmn, _, _⟩ := offs_min h w
  unfold bads at hd
  rcases List.mem_cons.mp hd with rfl | hd
  · exact isone_bad h hw hk _ hs rfl
  rcases List.mem_cons.mp hd with rfl | hd
  · exact isone_bad h hw hk _ hs (by rw [tuple_ok]; rfl)
  rcases List.mem_cons.mp hd with rfl | hd
  · exact isone_bad h hw hk _ hs (by rw [tuple_ok]; rfl)
  rcases List.mem_cons.mp hd with rfl | hd
  · exact isone_bad h hw hk _ hs rfl
  rcases List.mem_cons.mp hd with rfl | hd
  · exact isone_ok h hw hk hmn someS _ hs rfl (b1 := false) (b2 := true) (by rw [if_pos rfl]; exact is_lot_99 _ (by omega) hs) (fun e => by cases e)
  rcases List.mem_cons.mp hd with rfl | hd
  · exact isone_ok h hw hk hmn noneS _ hs rfl (b1 := false) (b2 := true) (by rw [if_neg (by decide)]; exact within_non 0 8 hs) (fun e => by cases e)
  rcases List.mem_cons.mp hd with rfl | hd
  · exact isone_ok h hw hk hmn oneS _ hs rfl (b1 := false) (b2 := true) (by rw [if_neg (by decide)]; exact within_non 0 8 hs) (fun e => by cases e)
  · simp at hd
section
variable {x0 : Option D} {lap : D} {a3 a4 a5 a6 a7 a8 a9 a10 a11 a12 a13 a14 a15 a16 a17 a18 a19 a20 : Option D} {hs h1 h2 : Hnd} {m : Nat} {fs : List (List Int)} {f : List Int} {w v u : List (Option Int)} {k mn mv mu : Int}
theorem p12 (h : Fs m fs) (hf : f ∈ fs) (hs : Hnd) : ∃ u, P12 [x0, some .hnd, some lap, some (.int (m : Nat)), a4, some (fsD fs), some (faceD f), some (wordD w), some (.lst ((lotL fs v k).map .int)), some (wordD v), some (.int k), some (.lst ((lotL fs w k).map .int)), some (toldD (lotL fs w k) mn), some (toldD (lotL fs v k) mv), a14, a15, a16, a17, a18, a19, a20, none, none, none, none, none, none] hs = some (.nx [x0, some .hnd, some lap, some (.int (m : Nat)), a4, some (fsD fs), some (faceD f), some (wordD w), some (.lst ((lotL fs v k).map .int)), some (wordD v), some (.int k), some (.lst ((lotL fs w k).map .int)), some (toldD (lotL fs w k) mn), some (toldD (lotL fs v k) mv), some (wordD u), a15, a16, a17, a18, a19, a20, none, none, none, none, none, none] hs) ∧ Wd m u := by
  have hfc := h.each f hf
  have hl := hfc.1
  have m1 := h.m1
  have m6 := h.m6
  obtain ⟨f0, g1, g2, _⟩ := fs_first h
  have hf0 := h.each f0 (List.mem_of_getElem? g1)
  have hc : f0[0]? = some (f0[0]'(by rw [hf0.1]; omega)) := List.getElem?_eq_getElem _
  obtain ⟨c, hc, hcm⟩ : ∃ c, f0[0]? = some c ∧ c ∈ f0 := ⟨_, hc, List.getElem_mem _⟩
  have hcr := hf0.2 c hcm
  have A : eBin oIx (eBin oIx (eVar 5) (eC (.int 0))) (eC (.int 0)) [x0, some .hnd, some lap, some (.int (m : Nat)), a4, some (fsD fs), some (faceD f), some (wordD w), some (.lst ((lotL fs v k).map .int)), some (wordD v), some (.int k), some (.lst ((lotL fs w k).map .int)), some (toldD (lotL fs w k) mn), some (toldD (lotL fs v k) mv), a14, a15, a16, a17, a18, a19, a20, none, none, none, none, none, none] hs = some (.int c, hs) := eBin_eq (x := faceD f0) (y := .int 0) (hs1 := hs) (hs2 := hs) (eBin_eq (x := fsD fs) (y := .int 0) (hs1 := hs) (hs2 := hs) rfl rfl g2) rfl (oIx_tup (i := 0) (by rw [List.getElem?_map, hc]; rfl))
  refine ⟨some (if c < 4 then c + 1 else 0) :: (f.drop 1).map fun x => some (4 - x), ?_, ?_, ?_⟩
  · unfold P12
    refine sSet_eq (eBin_eq (x := .tup [.int (if c < 4 then c + 1 else 0)]) (y := .tup ((f.drop 1).map fun x => .int (4 - x))) (hs1 := hs) (hs2 := hs) ?_ ?_ ?_)
    · refine eAp_eq (ds := [.int (if c < 4 then c + 1 else 0)]) (aCons_eq (hs1 := hs) ?_ aNil_eq) rfl
      by_cases h4 : c < 4
      · rw [eIf_t (hs1 := hs) (tV_eq (eBin_eq (x := .int c) (y := .int 4) (hs1 := hs) (hs2 := hs) A rfl (by rw [oLtD_int, decide_eq_true h4]))), if_pos h4]
        exact eBin_eq (x := .int c) (y := .int 1) (hs1 := hs) (hs2 := hs) A rfl rfl
      · rw [eIf_f (hs1 := hs) (tV_eq (eBin_eq (x := .int c) (y := .int 4) (hs1 := hs) (hs2 := hs) A rfl (by rw [oLtD_int, decide_eq_false h4]))), if_neg h4]
        rfl
    · refine eUn_eq (x := .lst ((f.drop 1).map fun x => .int (4 - x))) (eComp_eq (ds := (f.drop 1).map .int) (iSeq_tup (hs1 := hs) (by simp [eSl, eVar, pSome, pNone, eC, oSl, cut_1, faceD])) (by simp; omega) ?_) rfl
      exact compL_all D.int _ _ fun x _ => ⟨_, rfl, rfl⟩
    · rw [oAdd_tup (by simp; omega)]
      show _ = some (wordD _)
      unfold wordD
      rw [List.map_cons, List.map_map]; rfl
  · simp; omega
  · intro x hx
    rcases List.mem_cons.mp hx with e | hx
    · injection e with e
      subst e
      split <;> omega
    · obtain ⟨y, hy, e⟩ := List.mem_map.mp hx
      injection e with e
      have := hfc.2 y (List.mem_of_mem_drop hy)
      omega
theorem p13 (h : Fs m fs) (hs : Hnd) : P13 [x0, some .hnd, some lap, some (.int (m : Nat)), a4, some (fsD fs), some (faceD f), some (wordD w), some (.lst ((lotL fs v k).map .int)), some (wordD v), some (.int k), some (.lst ((lotL fs w k).map .int)), some (toldD (lotL fs w k) mn), some (toldD (lotL fs v k) mv), some (wordD u), a15, a16, a17, a18, a19, a20, none, none, none, none, none, none] hs = some (.nx [x0, some .hnd, some lap, some (.int (m : Nat)), a4, some (fsD fs), some (faceD f), some (wordD w), some (.lst ((lotL fs v k).map .int)), some (wordD v), some (.int k), some (.lst ((lotL fs w k).map .int)), some (toldD (lotL fs w k) mn), some (toldD (lotL fs v k) mv), some (wordD u), some (.lst ((offsL fs u).map .int)), a16, a17, a18, a19, a20, none, none, none, none, none, none] hs) := by
  have h8 := h.l8
  have e : (offsL fs u).map D.int = fs.map fun f => D.int (offN f u : Int) := by unfold offsL; rw [List.map_map]; rfl
  unfold P13
  refine sSet_eq (eComp_eq (ds := fs.map faceD) (iSeq_tup rfl) (by simp; omega) ?_)
  rw [e]
  exact compL_all faceD _ fs fun g hg => ⟨_, rfl, (eCall_eq (ds := [faceD g, wordD u]) (hs1 := hs) rfl).trans (law_off_ok (fc_len h hg) hs)⟩
theorem p14 (h : Fs m fs) (hu : Wd m u) (hs : Hnd) : P14 [x0, some .hnd, some lap, some (.int (m : Nat)), a4, some (fsD fs), some (faceD f), some (wordD w), some (.lst ((lotL fs v k).map .int)), some (wordD v), some (.int k), some (.lst ((lotL fs w k).map .int)), some (toldD (lotL fs w k) mn), some (toldD (lotL fs v k) mv), some (wordD u), some (.lst ((offsL fs u).map .int)), a16, a17, a18, a19, a20, none, none, none, none, none, none] hs = some (.nx [x0, some .hnd, some lap, some (.int (m : Nat)), a4, some (fsD fs), some (faceD f), some (wordD w), some (.lst ((lotL fs v k).map .int)), some (wordD v), some (.int k), some (.lst ((lotL fs w k).map .int)), some (toldD (lotL fs w k) mn), some (toldD (lotL fs v k) mv), some (wordD u), some (.lst ((offsL fs u).map .int)), a16, a17, a18, a19, a20, none, none, none, none, none, none] hs) := by
  have m6 := h.m6
  obtain ⟨mx, hmn, hin, hle⟩ := offs_min h u
  obtain ⟨g, hg, hgm⟩ := List.mem_map.mp hin
  have hmn6 : mx ≤ 6 := by
    have := off_le g u
    have := (h.each g hg).1
    omega
  have MN : eUn oMin (eVar 15) [x0, some .hnd, some lap, some (.int (m : Nat)), a4, some (fsD fs), some (faceD f), some (wordD w), some (.lst ((lotL fs v k).map .int)), some (wordD v), some (.int k), some (.lst ((lotL fs w k).map .int)), some (toldD (lotL fs w k) mn), some (toldD (lotL fs v k) mv), some (wordD u), some (.lst ((offsL fs u).map .int)), a16, a17, a18, a19, a20, none, none, none, none, none, none] hs = some (.int mx, hs) := eUn_eq (x := .lst ((offsL fs u).map .int)) (hs1 := hs) rfl hmn
  unfold P14
  by_cases h0 : 0 < mx
  · rw [sIf_t (hs1 := hs) (tV_eq (eBin_eq (x := .int mx) (y := .int 0) (hs1 := hs) (hs2 := hs) MN rfl (by rw [oGtD_int, decide_eq_true h0])))]
    have hl := lot_none hle
    have hk : 0 ≤ mx - 1 ∧ mx - 1 ≤ 6 := by omega
    have told : F_one_or_some [fsD fs, wordD u, .int (mx - 1)] hs = some (.tup [.str noneS, .int mx], hs) := by
      rw [one_ok h hu hk hmn hs, hl]; rfl
    have same := li_told 5 (lot := []) (by simp) mx hs
    have ar : ∀ z y : Int, oSub (.int z) (.int y) = some (.int (z - y)) := fun _ _ => rfl
    have M1 : eBin oSub (eUn oMin (eVar 15)) (eC (.int 1)) [x0, some .hnd, some lap, some (.int (m : Nat)), a4, some (fsD fs), some (faceD f), some (wordD w), some (.lst ((lotL fs v k).map .int)), some (wordD v), some (.int k), some (.lst ((lotL fs w k).map .int)), some (toldD (lotL fs w k) mn), some (toldD (lotL fs v k) mv), some (wordD u), some (.lst ((offsL fs u).map .int)), a16, a17, a18, a19, a20, none, none, none, none, none, none] hs = some (.int (mx - 1), hs) := eBin_eq (x := .int mx) (y := .int 1) (hs1 := hs) (hs2 := hs) MN rfl rfl
    have M2 : eBin oAdd (eUn oMin (eVar 15)) (eC (.int 1)) [x0, some .hnd, some lap, some (.int (m : Nat)), a4, some (fsD fs), some (faceD f), some (wordD w), some (.lst ((lotL fs v k).map .int)), some (wordD v), some (.int k), some (.lst ((lotL fs w k).map .int)), some (toldD (lotL fs w k) mn), some (toldD (lotL fs v k) mv), some (wordD u), some (.lst ((offsL fs u).map .int)), a16, a17, a18, a19, a20, none, none, none, none, none, none] hs = some (.int (mx + 1), hs) := eBin_eq (x := .int mx) (y := .int 1) (hs1 := hs) (hs2 := hs) MN rfl rfl
    have no : F_is_one_or_some [fsD fs, wordD u, .int (mx - 1), .tup [.str noneS, .int (mx + 1)]] hs = some (.bl false, hs) :=
      isone_ok h hu hk hmn noneS (.int (mx + 1)) hs rfl (b1 := true) (b2 := false) (by rw [if_neg (by decide), within_ok, decide_eq_true (by omega)]) (fun _ => by
        rw [hl]
        have h1 : (sh 64 (D.tup [.str noneS, .int (mx + 1)]) && sh 64 (D.tup [.str noneS, .int mx])) = true := by
          rw [sh_two noneS rfl _ (sh_int 63 _), sh_two noneS rfl _ (sh_int 63 _)]; rfl
        show oEq (D.tup [.str noneS, .int (mx + 1)]) (D.tup [.str noneS, .int mx]) = _
        simp only [oEq, h1, if_true]
        simp [D.eqv, D.eqvs]; omega)
    rw [sSeq_eq (hs1 := hs) (sl1 := [x0, some .hnd, some lap, some (.int (m : Nat)), a4, some (fsD fs), some (faceD f), some (wordD w), some (.lst ((lotL fs v k).map .int)), some (wordD v), some (.int k), some (.lst ((lotL fs w k).map .int)), some (toldD (lotL fs w k) mn), some (toldD (lotL fs v k) mv), some (wordD u), some (.lst ((offsL fs u).map .int)), a16, a17, a18, a19, a20, none, none, none, none, none, none]) (if_no (tNot_eq (b := true) (tV_eq ((eCall_eq (ds := [.tup [.str noneS, .int mx], .tup [.str noneS, .int mx]]) (hs1 := hs) (aCons_eq (hs1 := hs) ((eCall_eq (ds := [fsD fs, wordD u, .int (mx - 1)]) (hs1 := hs) (aCons_eq (hs1 := hs) rfl (aCons_eq (hs1 := hs) rfl (aCons_eq (hs1 := hs) M1 aNil_eq)))).trans told) (aCons_eq (hs1 := hs) (eAp_eq (ds := [.str noneS, .int mx]) (aCons_eq (hs1 := hs) rfl (aCons_eq (hs1 := hs) MN aNil_eq)) rfl) aNil_eq))).trans same))))]
    exact if_no (tV_eq (eBin_eq (x := .bl false) (y := .bl false) (hs1 := hs) (hs2 := hs) ((eCall_eq (ds := [fsD fs, wordD u, .int (mx - 1), .tup [.str noneS, .int (mx + 1)]]) (hs1 := hs) (aCons_eq (hs1 := hs) rfl (aCons_eq (hs1 := hs) rfl (aCons_eq (hs1 := hs) M1 (aCons_eq (hs1 := hs) (eAp_eq (ds := [.str noneS, .int (mx + 1)]) (aCons_eq (hs1 := hs) rfl (aCons_eq (hs1 := hs) M2 aNil_eq)) rfl) aNil_eq))))).trans no) rfl rfl))
  · rw [sIf_f (hs1 := hs) (tV_eq (eBin_eq (x := .int mx) (y := .int 0) (hs1 := hs) (hs2 := hs) MN rfl (by rw [oGtD_int, decide_eq_false h0])))]
    rfl
theorem p15 (hs : Hnd) : ∃ (d : D) (hs' : Hnd), P15 [x0, some .hnd, some lap, some (.int (m : Nat)), a4, some (fsD fs), some (faceD f), some (wordD w), some (.lst ((lotL fs v k).map .int)), some (wordD v), some (.int k), some (.lst ((lotL fs w k).map .int)), some (toldD (lotL fs w k) mn), some (toldD (lotL fs v k) mv), some (wordD u), some (.lst ((offsL fs u).map .int)), a16, a17, a18, a19, a20, none, none, none, none, none, none] hs = some (.nx [x0, some .hnd, some lap, some (.int (m : Nat)), a4, some (fsD fs), some (faceD f), some (wordD w), some (.lst ((lotL fs v k).map .int)), some (wordD v), some (.int k), some (.lst ((lotL fs w k).map .int)), some (toldD (lotL fs w k) mn), some (toldD (lotL fs v k) mv), some (wordD u), some (.lst ((offsL fs u).map .int)), some d, a17, a18, a19, a20, none, none, none, none, none, none] hs') ∧ d ∈ bads := by
  obtain ⟨k, d, h2, e, hk⟩ := some_ok (n := 7) bads rfl (by omega) (by omega) hs
  refine ⟨d, h2, ?_, List.mem_of_getElem? hk⟩
  unfold P15
  exact sSet_eq ((eCall_eq (ds := [.hnd, .lst bads]) (hs1 := hs) rfl).trans e)
theorem p16 {bad : D} (h : Fs m fs) (hw : Wd m w) (hk : 0 ≤ k ∧ k ≤ 6) (hd : bad ∈ bads) (hs : Hnd) : P16 [x0, some .hnd, some lap, some (.int (m : Nat)), a4, some (fsD fs), some (faceD f), some (wordD w), some (.lst ((lotL fs v k).map .int)), some (wordD v), some (.int k), some (.lst ((lotL fs w k).map .int)), some (toldD (lotL fs w k) mn), some (toldD (lotL fs v k) mv), some (wordD u), some (.lst ((offsL fs u).map .int)), some bad, a17, a18, a19, a20, none, none, none, none, none, none] hs = some (.nx [x0, some .hnd, some lap, some (.int (m : Nat)), a4, some (fsD fs), some (faceD f), some (wordD w), some (.lst ((lotL fs v k).map .int)), some (wordD v), some (.int k), some (.lst ((lotL fs w k).map .int)), some (toldD (lotL fs w k) mn), some (toldD (lotL fs v k) mv), some (wordD u), some (.lst ((offsL fs u).map .int)), some bad, a17, a18, a19, a20, none, none, none, none, none, none] hs) :=
  if_no (tV_eq (eBin_eq (x := .bl false) (y := .bl false) (hs1 := hs) (hs2 := hs) ((eCall_eq (ds := [fsD fs, wordD w, .int k, bad]) (hs1 := hs) rfl).trans (bad_no h hw hk hd hs)) rfl rfl))
end
end Law

namespace Law
open PySem PySem.Spec PyProof.Rows L2 L2.VI
open L2.VI (tAnd tOr tNot gName gNil gCons gTup tYes)
def Sub (v t : List (Option Int)) : Prop := All2 (fun a b => b = a ∨ b = none) v t
theorem sub_part : ∀ {f : List Int} {v t : List (Option Int)}, Part f v → Sub v t → Part f t
  | [], _, _, .nil, h => by cases h; exact .nil
  | x :: f, _, _, .cons (b := o) q t2, h => by
    cases h with
    | cons r t =>
      refine .cons ?_ (sub_part t2 t)
      rcases r with r | r
      · rw [r]; exact q
      · exact .inl r
theorem no_clash : ∀ {w v t : List (Option Int)}, Ext w v → Sub v t → (w.zip t).any clP = false
  | [], _, _, _, _ => by simp
  | a :: w, _, _, .cons q t2, h => by
    cases h with
    | cons r t =>
      rw [List.zip_cons_cons, List.any_cons, no_clash t2 t, Bool.or_false]
      rcases q with rfl | rfl
      · rfl
      · rcases r with rfl | rfl
        · simp [clP]
        · simp [clP]
def clO (o : Option Int) : Option Int := o.map fun x => if x = 2 then 3 else 4 - x
def clW (w : List (Option Int)) : List (Option Int) := w.map clO
theorem cl_wd {m : Nat} {w : List (Option Int)} (h : Wd m w) : Wd m (clW w) := by
  refine ⟨by unfold clW; rw [List.length_map]; exact h.1, fun x hx => ?_⟩
  obtain ⟨o, ho, e⟩ := List.mem_map.mp hx
  cases o with
  | none => cases e
  | some y =>
    have := h.2 y ho
    injection e with e
    subst e
    show 0 ≤ (if y = 2 then (3 : Int) else 4 - y) ∧ (if y = 2 then (3 : Int) else 4 - y) ≤ 4
    split <;> omega
theorem cl_any : ∀ w : List (Option Int), w.any Option.isSome = true → (w.zip (clW w)).any clP = true
  | [], h => by cases h
  | none :: w, h => by
    have ih := cl_any w (by simpa using h)
    show (List.zip (none :: w) (none :: clW w)).any clP = true
    rw [List.zip_cons_cons, List.any_cons, ih, Bool.or_true]
  | some x :: w, _ => by
    show (List.zip (some x :: w) (some (if x = 2 then 3 else 4 - x) :: clW w)).any clP = true
    rw [List.zip_cons_cons, List.any_cons]
    have : clP (some x, some (if x = 2 then 3 else 4 - x)) = true := by
      have : x ≠ (if x = 2 then 3 else 4 - x) := by split <;> omega
      simp [clP, this]
    rw [this, Bool.true_or]
section
variable {x0 : Option D} {lap bad : D} {a3 a4 a5 a6 a7 a8 a9 a10 a11 a12 a13 a14 a15 a16 a17 a18 a19 a20 : Option D} {hs h1 h2 : Hnd} {m : Nat} {fs : List (List Int)} {f : List Int} {w v u t : List (Option Int)} {k mn mv mu : Int}
theorem p17 (h : Fs m fs) (hv : Wd m v) (hk : 0 ≤ k ∧ k ≤ 6) (hs : Hnd) : ∃ x4, P17 [x0, some .hnd, some lap, some (.int (m : Nat)), a4, some (fsD fs), some (faceD f), some (wordD w), some (.lst ((lotL fs v k).map .int)), some (wordD v), some (.int k), some (.lst ((lotL fs w k).map .int)), some (toldD (lotL fs w k) mn), some (toldD (lotL fs v k) mv), some (wordD u), some (.lst ((offsL fs u).map .int)), some bad, a17, a18, a19, a20, none, none, none, none, none, none] hs = some (.nx [x0, some .hnd, some lap, some (.int (m : Nat)), x4, some (fsD fs), some (faceD f), some (wordD w), some (.lst ((lotL fs v k).map .int)), some (wordD v), some (.int k), some (.lst ((lotL fs w k).map .int)), some (toldD (lotL fs w k) mn), some (toldD (lotL fs v k) mv), some (wordD u), some (.lst ((offsL fs u).map .int)), some bad, a17, a18, a19, a20, none, none, none, none, none, none] hs) := by
  obtain ⟨sl', e1, x4, rfl⟩ := forL_look (gf := gName 4) (body := sIf (tNot (tV (eCall (F__law_is 8) (aCons (eCall F_fits_face (aCons (eVar 4) (aCons (eVar 9) (aCons (eVar 10) aNil)))) (aCons (eBin oLeD (eCall F__law_off (aCons (eVar 4) (aCons (eVar 9) aNil))) (eVar 10)) aNil))))) (sRet (eC (.bl false))) sNil) (hs := hs) faceD (fun sl => ∃ x4, sl = [x0, some .hnd, some lap, some (.int (m : Nat)), x4, some (fsD fs), some (faceD f), some (wordD w), some (.lst ((lotL fs v k).map .int)), some (wordD v), some (.int k), some (.lst ((lotL fs w k).map .int)), some (toldD (lotL fs w k) mn), some (toldD (lotL fs v k) mv), some (wordD u), some (.lst ((offsL fs u).map .int)), some bad, a17, a18, a19, a20, none, none, none, none, none, none]) fs (fun sl g hg hr => by
    obtain ⟨x4, rfl⟩ := hr
    refine ⟨[x0, some .hnd, some lap, some (.int (m : Nat)), some (faceD g), some (fsD fs), some (faceD f), some (wordD w), some (.lst ((lotL fs v k).map .int)), some (wordD v), some (.int k), some (.lst ((lotL fs w k).map .int)), some (toldD (lotL fs w k) mn), some (toldD (lotL fs v k) mv), some (wordD u), some (.lst ((offsL fs u).map .int)), some bad, a17, a18, a19, a20, none, none, none, none, none, none], _, rfl, if_no (tNot_eq (b := true) (tV_eq ((eCall_eq (ds := [.bl (decide ((offN g v : Int) ≤ k)), .bl (decide ((offN g v : Int) ≤ k))]) (hs1 := hs) (aCons_eq (hs1 := hs) ((eCall_eq (ds := [faceD g, wordD v, .int k]) (hs1 := hs) rfl).trans (fits_ok h.m1 h.m6 (h.each g hg) hv hk hs)) (aCons_eq (hs1 := hs) (eBin_eq (x := .int (offN g v : Nat)) (y := .int k) (hs1 := hs) (hs2 := hs) ((eCall_eq (ds := [faceD g, wordD v]) (hs1 := hs) rfl).trans (law_off_ok (fc_len h hg) hs)) rfl rfl) aNil_eq))).trans (li_bl 7 _ hs)))), _, rfl⟩) [x0, some .hnd, some lap, some (.int (m : Nat)), a4, some (fsD fs), some (faceD f), some (wordD w), some (.lst ((lotL fs v k).map .int)), some (wordD v), some (.int k), some (.lst ((lotL fs w k).map .int)), some (toldD (lotL fs w k) mn), some (toldD (lotL fs v k) mv), some (wordD u), some (.lst ((offsL fs u).map .int)), some bad, a17, a18, a19, a20, none, none, none, none, none, none] ⟨a4, rfl⟩
  refine ⟨x4, ?_⟩
  unfold P17
  rw [sFor_eq (iSeq_tup (xs := fs.map faceD) (hs1 := hs) rfl)]
  exact e1
theorem p18 (hv : Wd m v) (m6 : m ≤ 6) (hs : Hnd) : ∃ (t : List (Option Int)) (hs' : Hnd), P18 [x0, some .hnd, some lap, some (.int (m : Nat)), a4, some (fsD fs), some (faceD f), some (wordD w), some (.lst ((lotL fs v k).map .int)), some (wordD v), some (.int k), some (.lst ((lotL fs w k).map .int)), some (toldD (lotL fs w k) mn), some (toldD (lotL fs v k) mv), some (wordD u), some (.lst ((offsL fs u).map .int)), some bad, a17, a18, a19, a20, none, none, none, none, none, none] hs = some (.nx [x0, some .hnd, some lap, some (.int (m : Nat)), a4, some (fsD fs), some (faceD f), some (wordD w), some (.lst ((lotL fs v k).map .int)), some (wordD v), some (.int k), some (.lst ((lotL fs w k).map .int)), some (toldD (lotL fs w k) mn), some (toldD (lotL fs v k) mv), some (wordD u), some (.lst ((offsL fs u).map .int)), some bad, some (wordD t), a18, a19, a20, none, none, none, none, none, none] hs') ∧ Sub v t := by
  have hl := hv.1
  obtain ⟨t, h3, e3, q3⟩ := compL_draw (gf := gName 22) (fe := eIf (tOr (tV (eBin oIs (eVar 22) (eC .non))) (tV (eBin oGtD (eCall F__law_draw (aCons (eVar 1) (aCons (eC (.int 3)) aNil))) (eC (.int 0))))) (eVar 22) (eC .non)) (sl := [x0, some .hnd, some lap, some (.int (m : Nat)), a4, some (fsD fs), some (faceD f), some (wordD w), some (.lst ((lotL fs v k).map .int)), some (wordD v), some (.int k), some (.lst ((lotL fs w k).map .int)), some (toldD (lotL fs w k) mn), some (toldD (lotL fs v k) mv), some (wordD u), some (.lst ((offsL fs u).map .int)), some bad, a17, a18, a19, a20, none, none, none, none, none, none]) optI optI (fun a b => b = a ∨ b = none) v (fun o _ hs => by
    obtain ⟨r, h5, e5, r0, r1⟩ := dr (n := 3) (by omega) (by omega) (sl := [x0, some .hnd, some lap, some (.int (m : Nat)), a4, some (fsD fs), some (faceD f), some (wordD w), some (.lst ((lotL fs v k).map .int)), some (wordD v), some (.int k), some (.lst ((lotL fs w k).map .int)), some (toldD (lotL fs w k) mn), some (toldD (lotL fs v k) mv), some (wordD u), some (.lst ((offsL fs u).map .int)), some bad, a17, a18, a19, a20, none, some (optI o), none, none, none, none]) rfl hs
    cases hp : o.isSome with
    | false => exact ⟨_, o, hs, rfl, (eIf_t (tOr_t (hs1 := hs) (tV_eq (eBin_eq (x := optI o) (y := .non) (hs1 := hs) (hs2 := hs) rfl rfl (by rw [optI_is, hp]; rfl))))).trans rfl, .inl rfl⟩
    | true =>
      by_cases hr : 0 < r
      · exact ⟨_, o, h5, rfl, (eIf_t ((tOr_f (hs1 := hs) (tV_eq (eBin_eq (x := optI o) (y := .non) (hs1 := hs) (hs2 := hs) rfl rfl (by rw [optI_is, hp]; rfl)))).trans (tV_eq (eBin_eq (y := .int 0) (hs2 := h5) e5 rfl (by rw [oGtD_int, decide_eq_true hr]))))).trans rfl, .inl rfl⟩
      · exact ⟨_, none, h5, rfl, (eIf_f ((tOr_f (hs1 := hs) (tV_eq (eBin_eq (x := optI o) (y := .non) (hs1 := hs) (hs2 := hs) rfl rfl (by rw [optI_is, hp]; rfl)))).trans (tV_eq (eBin_eq (y := .int 0) (hs2 := h5) e5 rfl (by rw [oGtD_int, decide_eq_false hr]))))).trans rfl, .inr rfl⟩) hs
  refine ⟨t, h3, ?_, q3⟩
  unfold P18
  exact sSet_eq (eUn_eq (eComp_eq (iSeq_tup rfl) (by simp; omega) e3) rfl)
theorem p19 (m1 : 1 ≤ m) (m6 : m ≤ 6) (hw : Wd m w) (ht : Wd m t) (hx : Ext w v) (hst : Sub v t) (hs : Hnd) : P19 [x0, some .hnd, some lap, some (.int (m : Nat)), a4, some (fsD fs), some (faceD f), some (wordD w), some (.lst ((lotL fs v k).map .int)), some (wordD v), some (.int k), some (.lst ((lotL fs w k).map .int)), some (toldD (lotL fs w k) mn), some (toldD (lotL fs v k) mv), some (wordD u), some (.lst ((offsL fs u).map .int)), some bad, some (wordD t), a18, a19, a20, none, none, none, none, none, none] hs = some (.nx [x0, some .hnd, some lap, some (.int (m : Nat)), a4, some (fsD fs), some (faceD f), some (wordD w), some (.lst ((lotL fs v k).map .int)), some (wordD v), some (.int k), some (.lst ((lotL fs w k).map .int)), some (toldD (lotL fs w k) mn), some (toldD (lotL fs v k) mv), some (wordD u), some (.lst ((offsL fs u).map .int)), some bad, some (wordD t), a18, a19, a20, none, none, none, none, none, none] hs) := by
  have lw := hw.1
  have lt := ht.1
  have lz : (w.zip t).length ≤ 6 := by simp; omega
  have lj : (joW w t).length ≤ 1000 := by unfold joW; rw [List.length_map]; omega
  have jo : F_joined_words [wordD w, wordD t] hs = some (wordD (joW w t), hs) := by
    rw [joined_ok m1 m6 hw ht hs, no_clash hx hst]; rfl
  have z : iZp (eVar 7) (eVar 17) [x0, some .hnd, some lap, some (.int (m : Nat)), a4, some (fsD fs), some (faceD f), some (wordD w), some (.lst ((lotL fs v k).map .int)), some (wordD v), some (.int k), some (.lst ((lotL fs w k).map .int)), some (toldD (lotL fs w k) mn), some (toldD (lotL fs v k) mv), some (wordD u), some (.lst ((offsL fs u).map .int)), some bad, some (wordD t), a18, a19, a20, none, none, none, none, none, none] hs = some ((w.zip t).map fun p => .tup [optI p.1, optI p.2], hs) := by
    rw [iZp_eq (xs := w.map optI) (ys := t.map optI) (x := wordD w) (y := wordD t) (hs1 := hs) (hs2 := hs) rfl rfl rfl rfl, zip_maps]
  have c2 : compL (gTup 2 (gCons (gName 24) (gCons (gName 25) gNil))) tYes (eIf (tV (eBin oIs (eVar 24) (eC .non))) (eVar 25) (eVar 24)) [x0, some .hnd, some lap, some (.int (m : Nat)), a4, some (fsD fs), some (faceD f), some (wordD w), some (.lst ((lotL fs v k).map .int)), some (wordD v), some (.int k), some (.lst ((lotL fs w k).map .int)), some (toldD (lotL fs w k) mn), some (toldD (lotL fs v k) mv), some (wordD u), some (.lst ((offsL fs u).map .int)), some bad, some (wordD t), a18, a19, a20, none, none, none, none, none, none] ((w.zip t).map fun p => .tup [optI p.1, optI p.2]) hs = some ((joW w t).map optI, hs) :=
    jo_comp fun p _ => ⟨[x0, some .hnd, some lap, some (.int (m : Nat)), a4, some (fsD fs), some (faceD f), some (wordD w), some (.lst ((lotL fs v k).map .int)), some (wordD v), some (.int k), some (.lst ((lotL fs w k).map .int)), some (toldD (lotL fs w k) mn), some (toldD (lotL fs v k) mv), some (wordD u), some (.lst ((offsL fs u).map .int)), some bad, some (wordD t), a18, a19, a20, none, none, none, some (optI p.1), some (optI p.2), none], rfl, by
      cases q1 : p.1.isSome with
      | false => rw [eIf_t (hs1 := hs) (tV_eq (eBin_eq (x := optI p.1) (y := .non) (hs1 := hs) (hs2 := hs) rfl rfl (by rw [optI_is, q1]; rfl)))]; rfl
      | true => rw [eIf_f (hs1 := hs) (tV_eq (eBin_eq (x := optI p.1) (y := .non) (hs1 := hs) (hs2 := hs) rfl rfl (by rw [optI_is, q1]; rfl)))]; rfl⟩
  unfold P19
  exact if_no (tNot_eq (b := true) (tV_eq ((eCall_eq (ds := [wordD (joW w t), wordD (joW w t)]) (hs1 := hs) (aCons_eq (hs1 := hs) ((eCall_eq (ds := [wordD w, wordD t]) (hs1 := hs) rfl).trans jo) (aCons_eq (hs1 := hs) (eUn_eq (eComp_eq z (by rw [List.length_map]; omega) c2) rfl) aNil_eq))).trans (li_word 6 lj hs))))
theorem p20 (m6 : m ≤ 6) (hw : Wd m w) (hs : Hnd) : P20 [x0, some .hnd, some lap, some (.int (m : Nat)), a4, some (fsD fs), some (faceD f), some (wordD w), some (.lst ((lotL fs v k).map .int)), some (wordD v), some (.int k), some (.lst ((lotL fs w k).map .int)), some (toldD (lotL fs w k) mn), some (toldD (lotL fs v k) mv), some (wordD u), some (.lst ((offsL fs u).map .int)), some bad, some (wordD t), a18, a19, a20, none, none, none, none, none, none] hs = some (.nx [x0, some .hnd, some lap, some (.int (m : Nat)), a4, some (fsD fs), some (faceD f), some (wordD w), some (.lst ((lotL fs v k).map .int)), some (wordD v), some (.int k), some (.lst ((lotL fs w k).map .int)), some (toldD (lotL fs w k) mn), some (toldD (lotL fs v k) mv), some (wordD u), some (.lst ((offsL fs u).map .int)), some bad, some (wordD t), some (wordD (clW w)), a19, a20, none, none, none, none, none, none] hs) := by
  have lw := hw.1
  have e : (clW w).map optI = w.map fun o => optI (clO o) := by unfold clW; rw [List.map_map]; rfl
  have c : compL (gName 22) tYes (eIf (tV (eBin oIs (eVar 22) (eC .non))) (eC .non) (eIf (tV (eBin oNe (eVar 22) (eC (.int 2)))) (eBin oSub (eC (.int 4)) (eVar 22)) (eC (.int 3)))) [x0, some .hnd, some lap, some (.int (m : Nat)), a4, some (fsD fs), some (faceD f), some (wordD w), some (.lst ((lotL fs v k).map .int)), some (wordD v), some (.int k), some (.lst ((lotL fs w k).map .int)), some (toldD (lotL fs w k) mn), some (toldD (lotL fs v k) mv), some (wordD u), some (.lst ((offsL fs u).map .int)), some bad, some (wordD t), a18, a19, a20, none, none, none, none, none, none] (w.map optI) hs = some ((clW w).map optI, hs) := by
    rw [e]
    exact compL_all optI _ w fun o _ => ⟨[x0, some .hnd, some lap, some (.int (m : Nat)), a4, some (fsD fs), some (faceD f), some (wordD w), some (.lst ((lotL fs v k).map .int)), some (wordD v), some (.int k), some (.lst ((lotL fs w k).map .int)), some (toldD (lotL fs w k) mn), some (toldD (lotL fs v k) mv), some (wordD u), some (.lst ((offsL fs u).map .int)), some bad, some (wordD t), a18, a19, a20, none, some (optI o), none, none, none, none], rfl, by
      cases o with
      | none => rfl
      | some x =>
        rw [eIf_f (hs1 := hs) (tV_eq (eBin_eq (x := .int x) (y := .non) (hs1 := hs) (hs2 := hs) rfl rfl rfl))]
        by_cases h : x = 2
        · rw [eIf_f (hs1 := hs) (tV_eq (eBin_eq (x := .int x) (y := .int 2) (hs1 := hs) (hs2 := hs) rfl rfl (by rw [oNe_int, decide_eq_true h]; rfl)))]
          simp [clO, h, optI, eC]
        · rw [eIf_t (hs1 := hs) (tV_eq (eBin_eq (x := .int x) (y := .int 2) (hs1 := hs) (hs2 := hs) rfl rfl (by rw [oNe_int, decide_eq_false h]; rfl)))]
          simp only [clO, Option.map_some, if_neg h]
          rfl⟩
  unfold P20
  exact sSet_eq (eUn_eq (eComp_eq (ds := w.map optI) (iSeq_tup rfl) (by simp; omega) c) rfl)
theorem p21 (m1 : 1 ≤ m) (m6 : m ≤ 6) (hw : Wd m w) (hs : Hnd) : P21 [x0, some .hnd, some lap, some (.int (m : Nat)), a4, some (fsD fs), some (faceD f), some (wordD w), some (.lst ((lotL fs v k).map .int)), some (wordD v), some (.int k), some (.lst ((lotL fs w k).map .int)), some (toldD (lotL fs w k) mn), some (toldD (lotL fs v k) mv), some (wordD u), some (.lst ((offsL fs u).map .int)), some bad, some (wordD t), some (wordD (clW w)), a19, a20, none, none, none, none, none, none] hs = some (.nx [x0, some .hnd, some lap, some (.int (m : Nat)), a4, some (fsD fs), some (faceD f), some (wordD w), some (.lst ((lotL fs v k).map .int)), some (wordD v), some (.int k), some (.lst ((lotL fs w k).map .int)), some (toldD (lotL fs w k) mn), some (toldD (lotL fs v k) mv), some (wordD u), some (.lst ((offsL fs u).map .int)), some bad, some (wordD t), some (wordD (clW w)), a19, a20, none, none, none, none, none, none] hs) := by
  have lw := hw.1
  have c : compL (gName 22) tYes (eBin oIsNot (eVar 22) (eC .non)) [x0, some .hnd, some lap, some (.int (m : Nat)), a4, some (fsD fs), some (faceD f), some (wordD w), some (.lst ((lotL fs v k).map .int)), some (wordD v), some (.int k), some (.lst ((lotL fs w k).map .int)), some (toldD (lotL fs w k) mn), some (toldD (lotL fs v k) mv), some (wordD u), some (.lst ((offsL fs u).map .int)), some bad, some (wordD t), some (wordD (clW w)), a19, a20, none, none, none, none, none, none] (w.map optI) hs = some (w.map fun o => .bl o.isSome, hs) :=
    compL_all optI _ w fun o _ => ⟨[x0, some .hnd, some lap, some (.int (m : Nat)), a4, some (fsD fs), some (faceD f), some (wordD w), some (.lst ((lotL fs v k).map .int)), some (wordD v), some (.int k), some (.lst ((lotL fs w k).map .int)), some (toldD (lotL fs w k) mn), some (toldD (lotL fs v k) mv), some (wordD u), some (.lst ((offsL fs u).map .int)), some bad, some (wordD t), some (wordD (clW w)), a19, a20, none, some (optI o), none, none, none, none], rfl, eBin_eq (x := optI o) (y := .non) (hs1 := hs) (hs2 := hs) rfl rfl (optI_isNot o)⟩
  have an : tV (eUn oAny (eComp (iSeq (eVar 7)) (gName 22) tYes (eBin oIsNot (eVar 22) (eC .non)) [22])) [x0, some .hnd, some lap, some (.int (m : Nat)), a4, some (fsD fs), some (faceD f), some (wordD w), some (.lst ((lotL fs v k).map .int)), some (wordD v), some (.int k), some (.lst ((lotL fs w k).map .int)), some (toldD (lotL fs w k) mn), some (toldD (lotL fs v k) mv), some (wordD u), some (.lst ((offsL fs u).map .int)), some bad, some (wordD t), some (wordD (clW w)), a19, a20, none, none, none, none, none, none] hs = some (w.any Option.isSome, hs) :=
    tV_eq (eUn_eq (eComp_eq (ds := w.map optI) (iSeq_tup rfl) (by simp; omega) c) (any_map Option.isSome w))
  unfold P21
  refine if_no ?_
  cases ha : w.any Option.isSome with
  | false => exact tAnd_f (hs1 := hs) (by rw [an, ha])
  | true =>
    rw [tAnd_t (hs1 := hs) (by rw [an, ha])]
    have jo : F_joined_words [wordD w, wordD (clW w)] hs = some (.non, hs) := by
      rw [joined_ok m1 m6 hw (cl_wd hw) hs, cl_any w ha]; rfl
    exact tV_eq (eBin_eq (x := .non) (y := .non) (hs1 := hs) (hs2 := hs) ((eCall_eq (ds := [wordD w, wordD (clW w)]) (hs1 := hs) rfl).trans jo) rfl rfl)
theorem p22 (hs : Hnd) : P22 [x0, some .hnd, some lap, some (.int (m : Nat)), a4, some (fsD fs), some (faceD f), some (wordD w), some (.lst ((lotL fs v k).map .int)), some (wordD v), some (.int k), some (.lst ((lotL fs w k).map .int)), some (toldD (lotL fs w k) mn), some (toldD (lotL fs v k) mv), some (wordD u), some (.lst ((offsL fs u).map .int)), some bad, some (wordD t), some (wordD (clW w)), a19, a20, none, none, none, none, none, none] hs = some (.nx [x0, some .hnd, some lap, some (.int (m : Nat)), a4, some (fsD fs), some (faceD f), some (wordD w), some (.lst ((lotL fs v k).map .int)), some (wordD v), some (.int k), some (.lst ((lotL fs w k).map .int)), some (toldD (lotL fs w k) mn), some (toldD (lotL fs v k) mv), some (wordD u), some (.lst ((offsL fs u).map .int)), some bad, some (wordD t), some (wordD (clW w)), some (.lst []), a20, none, none, none, none, none, none] hs) := rfl
theorem p23 (h : Fs m fs) (hs : Hnd) : ∃ x4 x20, P23 [x0, some .hnd, some lap, some (.int (m : Nat)), a4, some (fsD fs), some (faceD f), some (wordD w), some (.lst ((lotL fs v k).map .int)), some (wordD v), some (.int k), some (.lst ((lotL fs w k).map .int)), some (toldD (lotL fs w k) mn), some (toldD (lotL fs v k) mv), some (wordD u), some (.lst ((offsL fs u).map .int)), some bad, some (wordD t), some (wordD (clW w)), some (.lst []), a20, none, none, none, none, none, none] hs = some (.nx [x0, some .hnd, some lap, some (.int (m : Nat)), x4, some (fsD fs), some (faceD f), some (wordD w), some (.lst ((lotL fs v k).map .int)), some (wordD v), some (.int k), some (.lst ((lotL fs w k).map .int)), some (toldD (lotL fs w k) mn), some (toldD (lotL fs v k) mv), some (wordD u), some (.lst ((offsL fs u).map .int)), some bad, some (wordD t), some (wordD (clW w)), some (.lst (twD fs)), x20, none, none, none, none, none, none] hs) := by
  have h8 := h.l8
  obtain ⟨sl', e1, x4, x20, rfl⟩ := tw_loop (gf := gTup 2 (gCons (gName 20) (gCons (gName 4) gNil))) (body := sExt 19 (eComp (iR2 (eBin oAdd (eVar 20) (eC (.int 1))) (eUn oLen (eVar 5))) (gName 26) (tV (eBin oEq (eBin oIx (eVar 5) (eVar 26)) (eVar 4))) (eAp oTup (aCons (eVar 20) (aCons (eVar 26) aNil))) [26])) (hs := hs) h8 (fun st sl => ∃ x4 x20, sl = [x0, some .hnd, some lap, some (.int (m : Nat)), x4, some (fsD fs), some (faceD f), some (wordD w), some (.lst ((lotL fs v k).map .int)), some (wordD v), some (.int k), some (.lst ((lotL fs w k).map .int)), some (toldD (lotL fs w k) mn), some (toldD (lotL fs v k) mv), some (wordD u), some (.lst ((offsL fs u).map .int)), some bad, some (wordD t), some (wordD (clW w)), some (.lst st), x20, none, none, none, none, none, none]) (fun st i g sl hi hst hr => by
    obtain ⟨x4, x20, rfl⟩ := hr
    have hl := (List.getElem?_eq_some_iff.mp hi).1
    refine ⟨[x0, some .hnd, some lap, some (.int (m : Nat)), some (faceD g), some (fsD fs), some (faceD f), some (wordD w), some (.lst ((lotL fs v k).map .int)), some (wordD v), some (.int k), some (.lst ((lotL fs w k).map .int)), some (toldD (lotL fs w k) mn), some (toldD (lotL fs v k) mv), some (wordD u), some (.lst ((offsL fs u).map .int)), some bad, some (wordD t), some (wordD (clW w)), some (.lst st), some (.int (i : Nat)), none, none, none, none, none, none], [x0, some .hnd, some lap, some (.int (m : Nat)), some (faceD g), some (fsD fs), some (faceD f), some (wordD w), some (.lst ((lotL fs v k).map .int)), some (wordD v), some (.int k), some (.lst ((lotL fs w k).map .int)), some (toldD (lotL fs w k) mn), some (toldD (lotL fs v k) mv), some (wordD u), some (.lst ((offsL fs u).map .int)), some bad, some (wordD t), some (wordD (clW w)), some (.lst (st ++ row fs i g)), some (.int (i : Nat)), none, none, none, none, none, none], rfl, ?_, _, _, rfl⟩
    have c := row_comp (fs := fs) (i := i) (f := g) (gf := gName 26) (tt := tV (eBin oEq (eBin oIx (eVar 5) (eVar 26)) (eVar 4))) (fe := eAp oTup (aCons (eVar 20) (aCons (eVar 26) aNil))) (sl := [x0, some .hnd, some lap, some (.int (m : Nat)), some (faceD g), some (fsD fs), some (faceD f), some (wordD w), some (.lst ((lotL fs v k).map .int)), some (wordD v), some (.int k), some (.lst ((lotL fs w k).map .int)), some (toldD (lotL fs w k) mn), some (toldD (lotL fs v k) mv), some (wordD u), some (.lst ((offsL fs u).map .int)), some bad, some (wordD t), some (wordD (clW w)), some (.lst st), some (.int (i : Nat)), none, none, none, none, none, none]) (hs := hs) fun j z hj => ⟨[x0, some .hnd, some lap, some (.int (m : Nat)), some (faceD g), some (fsD fs), some (faceD f), some (wordD w), some (.lst ((lotL fs v k).map .int)), some (wordD v), some (.int k), some (.lst ((lotL fs w k).map .int)), some (toldD (lotL fs w k) mn), some (toldD (lotL fs v k) mv), some (wordD u), some (.lst ((offsL fs u).map .int)), some bad, some (wordD t), some (wordD (clW w)), some (.lst st), some (.int (i : Nat)), none, none, none, none, none, some (.int (j : Nat))], rfl, tV_eq (eBin_eq (x := faceD z) (y := faceD g) (hs1 := hs) (hs2 := hs) (eBin_eq (x := fsD fs) (y := .int (j : Nat)) (hs1 := hs) (hs2 := hs) rfl rfl (oIx_tup (by rw [List.getElem?_map, hj]; rfl))) rfl (eqF_ok z g)), rfl⟩
    have it : iR2 (eBin oAdd (eVar 20) (eC (.int 1))) (eUn oLen (eVar 5)) [x0, some .hnd, some lap, some (.int (m : Nat)), some (faceD g), some (fsD fs), some (faceD f), some (wordD w), some (.lst ((lotL fs v k).map .int)), some (wordD v), some (.int k), some (.lst ((lotL fs w k).map .int)), some (toldD (lotL fs w k) mn), some (toldD (lotL fs v k) mv), some (wordD u), some (.lst ((offsL fs u).map .int)), some bad, some (wordD t), some (wordD (clW w)), some (.lst st), some (.int (i : Nat)), none, none, none, none, none, none] hs = some ((List.range ((fs.length : Int) - ((i : Int) + 1)).toNat).map fun k => .int ((i : Int) + 1 + (k : Nat)), hs) :=
      iR2_eq (hs1 := hs) (hs2 := hs) (m := (i : Int) + 1) (n := (fs.length : Nat)) rfl (eUn_eq (x := fsD fs) (hs1 := hs) rfl (by simp [oLen])) (by omega) (by omega)
    have e := eComp_eq (vs := [26]) it (by rw [List.length_map, List.length_range]; omega) c
    have hr := row_len fs i g
    exact sExt_eq e rfl (by omega)) [x0, some .hnd, some lap, some (.int (m : Nat)), a4, some (fsD fs), some (faceD f), some (wordD w), some (.lst ((lotL fs v k).map .int)), some (wordD v), some (.int k), some (.lst ((lotL fs w k).map .int)), some (toldD (lotL fs w k) mn), some (toldD (lotL fs v k) mv), some (wordD u), some (.lst ((offsL fs u).map .int)), some bad, some (wordD t), some (wordD (clW w)), some (.lst []), a20, none, none, none, none, none, none] ⟨a4, a20, rfl⟩
  refine ⟨x4, x20, ?_⟩
  unfold P23
  rw [sFor_eq (iEn_tup (xs := fs.map faceD) (hs1 := hs) rfl)]
  exact e1
theorem p24 (h : Fs m fs) (hs : Hnd) : P24 [x0, some .hnd, some lap, some (.int (m : Nat)), a4, some (fsD fs), some (faceD f), some (wordD w), some (.lst ((lotL fs v k).map .int)), some (wordD v), some (.int k), some (.lst ((lotL fs w k).map .int)), some (toldD (lotL fs w k) mn), some (toldD (lotL fs v k) mv), some (wordD u), some (.lst ((offsL fs u).map .int)), some bad, some (wordD t), some (wordD (clW w)), some (.lst (twD fs)), a20, none, none, none, none, none, none] hs = some (.nx [x0, some .hnd, some lap, some (.int (m : Nat)), a4, some (fsD fs), some (faceD f), some (wordD w), some (.lst ((lotL fs v k).map .int)), some (wordD v), some (.int k), some (.lst ((lotL fs w k).map .int)), some (toldD (lotL fs w k) mn), some (toldD (lotL fs v k) mv), some (wordD u), some (.lst ((offsL fs u).map .int)), some bad, some (wordD t), some (wordD (clW w)), some (.lst (twD fs)), a20, none, none, none, none, none, none] hs) :=
  if_no (tNot_eq (b := true) (tV_eq ((eCall_eq (ds := [.tup (twD fs), .tup (twD fs)]) (hs1 := hs) (aCons_eq (hs1 := hs) ((eCall_eq (ds := [fsD fs]) (hs1 := hs) rfl).trans (twins_ok h hs)) rfl)).trans (li_tw fs h.l8 5 hs))))
end
end Law

namespace Law
open PySem PySem.Spec PyProof.Rows L2 L2.VI
open L2.VI (tAnd tOr tNot gName gNil gCons gTup tYes)
theorem lap_ok {x0 : Option D} {lap : D} {a3 a4 a5 a6 a7 a8 a9 a10 a11 a12 a13 a14 a15 a16 a17 a18 a19 a20 : Option D} (hs : Hnd) : ∃ hs2 b3 b4 b5 b6 b7 b8 b9 b10 b11 b12 b13 b14 b15 b16 b17 b18 b19 b20, B_lap [x0, some .hnd, some lap, a3, a4, a5, a6, a7, a8, a9, a10, a11, a12, a13, a14, a15, a16, a17, a18, a19, a20, none, none, none, none, none, none] hs = some (.nx [x0, some .hnd, some lap, b3, b4, b5, b6, b7, b8, b9, b10, b11, b12, b13, b14, b15, b16, b17, b18, b19, b20, none, none, none, none, none, none] hs2) := by
  obtain ⟨m, g0, e0, m1, m6⟩ := p0 (x0 := x0) (lap := lap) (a3 := a3) (a4 := a4) (a5 := a5) (a6 := a6) (a7 := a7) (a8 := a8) (a9 := a9) (a10 := a10) (a11 := a11) (a12 := a12) (a13 := a13) (a14 := a14) (a15 := a15) (a16 := a16) (a17 := a17) (a18 := a18) (a19 := a19) (a20 := a20) hs
  obtain ⟨fs, g1, e1, h⟩ := p1 (x0 := x0) (lap := lap) (a4 := a4) (a5 := a5) (a6 := a6) (a7 := a7) (a8 := a8) (a9 := a9) (a10 := a10) (a11 := a11) (a12 := a12) (a13 := a13) (a14 := a14) (a15 := a15) (a16 := a16) (a17 := a17) (a18 := a18) (a19 := a19) (a20 := a20) m1 m6 g0
  obtain ⟨f, g2, e2, hf⟩ := p2 (x0 := x0) (lap := lap) (a4 := a4) (a6 := a6) (a7 := a7) (a8 := a8) (a9 := a9) (a10 := a10) (a11 := a11) (a12 := a12) (a13 := a13) (a14 := a14) (a15 := a15) (a16 := a16) (a17 := a17) (a18 := a18) (a19 := a19) (a20 := a20) h g1
  have hfc := h.each f hf
  obtain ⟨w, g3, e3, hw⟩ := p3 (fs := fs) (x0 := x0) (lap := lap) (a4 := a4) (a7 := a7) (a8 := a8) (a9 := a9) (a10 := a10) (a11 := a11) (a12 := a12) (a13 := a13) (a14 := a14) (a15 := a15) (a16 := a16) (a17 := a17) (a18 := a18) (a19 := a19) (a20 := a20) hfc m6 g2
  obtain ⟨v, g4, e4, hv, hx⟩ := p4 (fs := fs) (x0 := x0) (lap := lap) (a4 := a4) (a8 := a8) (a9 := a9) (a10 := a10) (a11 := a11) (a12 := a12) (a13 := a13) (a14 := a14) (a15 := a15) (a16 := a16) (a17 := a17) (a18 := a18) (a19 := a19) (a20 := a20) hfc m6 hw g3
  obtain ⟨k, g5, e5, k0, k2⟩ := p5 (m := m) (fs := fs) (f := f) (w := w) (v := v) (x0 := x0) (lap := lap) (a4 := a4) (a8 := a8) (a10 := a10) (a11 := a11) (a12 := a12) (a13 := a13) (a14 := a14) (a15 := a15) (a16 := a16) (a17 := a17) (a18 := a18) (a19 := a19) (a20 := a20) g4
  have wd := part_wd hfc hw
  have vd := part_wd hfc hv
  have hk : 0 ≤ k ∧ k ≤ 6 := by omega
  obtain ⟨mn, hmn, _, _⟩ := offs_min h w
  obtain ⟨mv, hmv, _, _⟩ := offs_min h v
  obtain ⟨i, hi⟩ := List.mem_iff_getElem?.mp hf
  have hne : lotL fs w k ≠ [] := List.ne_nil_of_mem (lot_mem.mpr ⟨i, f, hi, rfl, by rw [part_off hw]; exact k0⟩)
  have hnv : lotL fs v k ≠ [] := List.ne_nil_of_mem (lot_mem.mpr ⟨i, f, hi, rfl, by rw [part_off hv]; exact k0⟩)
  have hsub : ∀ z ∈ lotL fs v k, z ∈ lotL fs w k := fun z hz => by
    obtain ⟨j, g, q1, q2, q3⟩ := lot_mem.mp hz
    have := ext_off hx g
    exact lot_mem.mpr ⟨j, g, q1, q2, by omega⟩
  obtain ⟨u, e12, ud⟩ := p12 (w := w) (v := v) (k := k) (mn := mn) (mv := mv) (x0 := x0) (lap := lap) (a4 := a4) (a14 := a14) (a15 := a15) (a16 := a16) (a17 := a17) (a18 := a18) (a19 := a19) (a20 := a20) h hf g5
  obtain ⟨bad, g6, e15, hb⟩ := p15 (m := m) (fs := fs) (f := f) (u := u) (w := w) (v := v) (k := k) (mn := mn) (mv := mv) (x0 := x0) (lap := lap) (a4 := a4) (a16 := a16) (a17 := a17) (a18 := a18) (a19 := a19) (a20 := a20) g5
  obtain ⟨x4, e17⟩ := p17 (f := f) (u := u) (w := w) (bad := bad) (mn := mn) (mv := mv) (x0 := x0) (lap := lap) (a4 := a4) (a17 := a17) (a18 := a18) (a19 := a19) (a20 := a20) h vd hk g6
  obtain ⟨t, g7, e18, ht⟩ := p18 (fs := fs) (f := f) (u := u) (w := w) (k := k) (bad := bad) (mn := mn) (mv := mv) (x0 := x0) (lap := lap) (a4 := x4) (a17 := a17) (a18 := a18) (a19 := a19) (a20 := a20) vd m6 g6
  have td := part_wd hfc (sub_part hv ht)
  obtain ⟨y4, y20, e23⟩ := p23 (f := f) (u := u) (w := w) (v := v) (t := t) (k := k) (bad := bad) (mn := mn) (mv := mv) (x0 := x0) (lap := lap) (a4 := x4) (a20 := a20) h g7
  unfold B_lap
  rw [sSeq_eq e0, sSeq_eq e1, sSeq_eq e2, sSeq_eq e3, sSeq_eq e4, sSeq_eq e5]
  rw [sSeq_eq (p6 h g5), sSeq_eq (p7 h hne g5), sSeq_eq (p8 h wd hk hmn hne g5), sSeq_eq (p9 h vd hk hmv g5), sSeq_eq (p10 hnv g5), sSeq_eq (p11 h hsub g5)]
  rw [sSeq_eq e12, sSeq_eq (p13 h g5), sSeq_eq (p14 h ud g5), sSeq_eq e15, sSeq_eq (p16 h wd hk hb g6), sSeq_eq e17, sSeq_eq e18]
  rw [sSeq_eq (p19 m1 m6 wd td hx ht g7), sSeq_eq (p20 m6 wd g7), sSeq_eq (p21 m1 m6 wd g7), sSeq_eq (p22 g7), sSeq_eq e23, p24 h g7]
  exact ⟨g7, _, _, _, _, _, _, _, _, _, _, _, _, _, _, _, _, _, _, rfl⟩
/-! ### the end -/
def fs0 : List (List Int) := [[0, 1], [1, 1]]
def w0 : List (Option Int) := [none, some 1]
theorem fs0_ok : Fs 2 fs0 := ⟨by decide, by decide, by decide, by decide, fun f hf => by
  rcases List.mem_cons.mp hf with rfl | hf
  · exact ⟨rfl, by decide⟩
  rcases List.mem_cons.mp hf with rfl | hf
  · exact ⟨rfl, by decide⟩
  · simp at hf⟩
theorem w0_ok : Wd 2 w0 := ⟨rfl, fun x hx => by
  have : x = 1 := by simpa [w0] using hx
  omega⟩
theorem end_ok (hs : Hnd) (sl : Sl) : B_end sl hs = some (.rt (.bl true) hs) := by
  obtain ⟨mn, hmn, _, _⟩ := offs_min fs0_ok w0
  have q := one_ok fs0_ok w0_ok (k := 0) (by decide) hmn hs
  have e : lotL fs0 w0 0 = [0, 1] := rfl
  rw [e] at q
  exact sRet_eq (eBin_eq (x := toldD [0, 1] mn) (y := toldD [0, 1] mn) (hs1 := hs) (hs2 := hs) ((eCall_eq (ds := [fsD fs0, wordD w0, .int 0]) (hs1 := hs) rfl).trans q) rfl (told_same _ _))
theorem law_ok : LawOk := fun ns => by
  generalize Fh ns = hs
  obtain ⟨sl', hs', q1, lp, b3, b4, b5, b6, b7, b8, b9, b10, b11, b12, b13, b14, b15, b16, b17, b18, b19, b20, q2⟩ := forL_inv (gf := gName 2) (body := B_lap) (fun _ sl _ => ∃ lp b3 b4 b5 b6 b7 b8 b9 b10 b11 b12 b13 b14 b15 b16 b17 b18 b19 b20, sl = [none, some .hnd, lp, b3, b4, b5, b6, b7, b8, b9, b10, b11, b12, b13, b14, b15, b16, b17, b18, b19, b20, none, none, none, none, none, none])
    ((List.range (8 : Int).toNat).map fun k => .int (k : Nat)) 0 (fun i d sl hs hd ⟨lp, b3, b4, b5, b6, b7, b8, b9, b10, b11, b12, b13, b14, b15, b16, b17, b18, b19, b20, e⟩ => by
      subst e
      obtain ⟨h2, c3, c4, c5, c6, c7, c8, c9, c10, c11, c12, c13, c14, c15, c16, c17, c18, c19, c20, q⟩ := lap_ok (x0 := none) (lap := d) (a3 := b3) (a4 := b4) (a5 := b5) (a6 := b6) (a7 := b7) (a8 := b8) (a9 := b9) (a10 := b10) (a11 := b11) (a12 := b12) (a13 := b13) (a14 := b14) (a15 := b15) (a16 := b16) (a17 := b17) (a18 := b18) (a19 := b19) (a20 := b20) hs
      exact ⟨_, _, h2, rfl, q, some d, c3, c4, c5, c6, c7, c8, c9, c10, c11, c12, c13, c14, c15, c16, c17, c18, c19, c20, rfl⟩) [none, some .hnd, none, none, none, none, none, none, none, none, none, none, none, none, none, none, none, none, none, none, none, none, none, none, none, none, none] hs ⟨none, none, none, none, none, none, none, none, none, none, none, none, none, none, none, none, none, none, none, rfl⟩
  subst q2
  refine ⟨hs', ?_⟩
  show B_law [none, some .hnd, none, none, none, none, none, none, none, none, none, none, none, none, none, none, none, none, none, none, none, none, none, none, none, none, none] hs = _
  rw [law_split]
  rw [sSeq_eq (by rw [sFor_eq (iR1_eq rfl (by decide) (by decide))]; exact q1)]
  exact end_ok hs' _
end Law

namespace Law
open PySem PySem.Spec PyProof.Rows L2 L2.VI
open L2.VI (tAnd tOr tNot gName gNil gCons gTup tYes)
theorem all_mk (ok : LawOk) {l : PySem.W.OpenLaw} {w : World} {K : PySem.W.Frag} {h : Heap} {mg : Str → Option Value} {fa f0 f1 f2 f3 f4 f5 f6 f7 f8 f9 f10 f11 f12 f13 f14 f15 f16 f17 f18 f19 f20 f21 : Addr} (X : K.In h) (G : h.Ns mainGlobals mg) (hfa : mg "law" = some (.ref fa))
    {od0 an0 od1 an1 od2 an2 od3 an3 od4 an4 od5 an5 od6 an6 od7 an7 od8 an8 od9 an9 od10 an10 od11 an11 od12 an12 od13 an13 od14 an14 od15 an15 od16 an16 od17 an17 od18 an18 od19 an19 od20 an20 od21 an21 : Option Addr} {sl0 sl1 sl2 sl3 sl4 sl5 sl6 sl7 sl8 sl9 sl10 sl11 sl12 sl13 sl14 sl15 sl16 sl17 sl18 sl19 sl20 sl21 : Array (Option Value)} {oc0 kV0 dc0 pm0 cd0 ct0 oc1 kV1 dc1 pm1 cd1 ct1 oc2 kV2 dc2 pm2 cd2 ct2 oc3 kV3 dc3 pm3 cd3 ct3 oc4 kV4 dc4 pm4 cd4 ct4 oc5 kV5 dc5 pm5 cd5 ct5 oc6 kV6 dc6 pm6 cd6 ct6 oc7 kV7 dc7 pm7 cd7 ct7 oc8 kV8 dc8 pm8 cd8 ct8 oc9 kV9 dc9 pm9 cd9 ct9 oc10 kV10 dc10 pm10 cd10 ct10 oc11 kV11 dc11 pm11 cd11 ct11 oc12 kV12 dc12 pm12 cd12 ct12 oc13 kV13 dc13 pm13 cd13 ct13 oc14 kV14 dc14 pm14 cd14 ct14 oc15 kV15 dc15 pm15 cd15 ct15 oc16 kV16 dc16 pm16 cd16 ct16 oc17 kV17 dc17 pm17 cd17 ct17 oc18 kV18 dc18 pm18 cd18 ct18 oc19 kV19 dc19 pm19 cd19 ct19 oc20 kV20 dc20 pm20 cd20 ct20 oc21 kV21 dc21 pm21 cd21 ct21 : Value} {t_GREATEST : Tok} {t_MOST : Tok} {t_MOST_MARKS : Tok}
    (a0 : PySem.W.nsIn K mainGlobals "is_integer" = some (some (.ref f0))) (l0 : K.lookup f0 = some ⟨oc0, od0, .func (PySem.W.fnOf "is_integer" "is_integer" (defArgs s_is_integer) (defBody s_is_integer) (defScope s_is_integer) .none kV0 dc0 pm0 an0 cd0 ct0), sl0⟩) (c0 : PySem.W.codeIn K cd0 "is_integer" = true) (k0 : PySem.W.keepIn K (.ref f0) = true)
    (a1 : PySem.W.nsIn K mainGlobals "is_within" = some (some (.ref f1))) (l1 : K.lookup f1 = some ⟨oc1, od1, .func (PySem.W.fnOf "is_within" "is_within" (defArgs s_is_within) (defBody s_is_within) (defScope s_is_within) .none kV1 dc1 pm1 an1 cd1 ct1), sl1⟩) (c1 : PySem.W.codeIn K cd1 "is_within" = true) (k1 : PySem.W.keepIn K (.ref f1) = true)
    (a2 : PySem.W.nsIn K mainGlobals "is_tuple" = some (some (.ref f2))) (l2 : K.lookup f2 = some ⟨oc2, od2, .func (PySem.W.fnOf "is_tuple" "is_tuple" (defArgs s_is_tuple) (defBody s_is_tuple) (defScope s_is_tuple) .none kV2 dc2 pm2 an2 cd2 ct2), sl2⟩) (c2 : PySem.W.codeIn K cd2 "is_tuple" = true) (k2 : PySem.W.keepIn K (.ref f2) = true)
    (a3 : PySem.W.nsIn K mainGlobals "is_lot" = some (some (.ref f3))) (l3 : K.lookup f3 = some ⟨oc3, od3, .func (PySem.W.fnOf "is_lot" "is_lot" (defArgs s_is_lot) (defBody s_is_lot) (defScope s_is_lot) .none kV3 dc3 pm3 an3 cd3 ct3), sl3⟩) (c3 : PySem.W.codeIn K cd3 "is_lot" = true) (k3 : PySem.W.keepIn K (.ref f3) = true)
    (a4 : PySem.W.nsIn K mainGlobals "is_face" = some (some (.ref f4))) (l4 : K.lookup f4 = some ⟨oc4, od4, .func (PySem.W.fnOf "is_face" "is_face" (defArgs s_is_face) (defBody s_is_face) (defScope s_is_face) .none kV4 dc4 pm4 an4 cd4 ct4), sl4⟩) (c4 : PySem.W.codeIn K cd4 "is_face" = true) (k4 : PySem.W.keepIn K (.ref f4) = true)
    (a5 : PySem.W.nsIn K mainGlobals "is_word" = some (some (.ref f5))) (l5 : K.lookup f5 = some ⟨oc5, od5, .func (PySem.W.fnOf "is_word" "is_word" (defArgs s_is_word) (defBody s_is_word) (defScope s_is_word) .none kV5 dc5 pm5 an5 cd5 ct5), sl5⟩) (c5 : PySem.W.codeIn K cd5 "is_word" = true) (k5 : PySem.W.keepIn K (.ref f5) = true)
    (a6 : PySem.W.nsIn K mainGlobals "check_faces" = some (some (.ref f6))) (l6 : K.lookup f6 = some ⟨oc6, od6, .func (PySem.W.fnOf "check_faces" "check_faces" (defArgs s_check_faces) (defBody s_check_faces) (defScope s_check_faces) .none kV6 dc6 pm6 an6 cd6 ct6), sl6⟩) (c6 : PySem.W.codeIn K cd6 "check_faces" = true) (k6 : PySem.W.keepIn K (.ref f6) = true)
    (a7 : PySem.W.nsIn K mainGlobals "wrong_in" = some (some (.ref f7))) (l7 : K.lookup f7 = some ⟨oc7, od7, .func (PySem.W.fnOf "wrong_in" "wrong_in" (defArgs s_wrong_in) (defBody s_wrong_in) (defScope s_wrong_in) .none kV7 dc7 pm7 an7 cd7 ct7), sl7⟩) (c7 : PySem.W.codeIn K cd7 "wrong_in" = true) (k7 : PySem.W.keepIn K (.ref f7) = true)
    (a8 : PySem.W.nsIn K mainGlobals "check_wrong" = some (some (.ref f8))) (l8 : K.lookup f8 = some ⟨oc8, od8, .func (PySem.W.fnOf "check_wrong" "check_wrong" (defArgs s_check_wrong) (defBody s_check_wrong) (defScope s_check_wrong) .none kV8 dc8 pm8 an8 cd8 ct8), sl8⟩) (c8 : PySem.W.codeIn K cd8 "check_wrong" = true) (k8 : PySem.W.keepIn K (.ref f8) = true)
    (a9 : PySem.W.nsIn K mainGlobals "fits_face" = some (some (.ref f9))) (l9 : K.lookup f9 = some ⟨oc9, od9, .func (PySem.W.fnOf "fits_face" "fits_face" (defArgs s_fits_face) (defBody s_fits_face) (defScope s_fits_face) .none kV9 dc9 pm9 an9 cd9 ct9), sl9⟩) (c9 : PySem.W.codeIn K cd9 "fits_face" = true) (k9 : PySem.W.keepIn K (.ref f9) = true)
    (a10 : PySem.W.nsIn K mainGlobals "told_of" = some (some (.ref f10))) (l10 : K.lookup f10 = some ⟨oc10, od10, .func (PySem.W.fnOf "told_of" "told_of" (defArgs s_told_of) (defBody s_told_of) (defScope s_told_of) .none kV10 dc10 pm10 an10 cd10 ct10), sl10⟩) (c10 : PySem.W.codeIn K cd10 "told_of" = true) (k10 : PySem.W.keepIn K (.ref f10) = true)
    (a11 : PySem.W.nsIn K mainGlobals "check_told" = some (some (.ref f11))) (l11 : K.lookup f11 = some ⟨oc11, od11, .func (PySem.W.fnOf "check_told" "check_told" (defArgs s_check_told) (defBody s_check_told) (defScope s_check_told) .none kV11 dc11 pm11 an11 cd11 ct11), sl11⟩) (c11 : PySem.W.codeIn K cd11 "check_told" = true) (k11 : PySem.W.keepIn K (.ref f11) = true)
    (a12 : PySem.W.nsIn K mainGlobals "one_or_some" = some (some (.ref f12))) (l12 : K.lookup f12 = some ⟨oc12, od12, .func (PySem.W.fnOf "one_or_some" "one_or_some" (defArgs s_one_or_some) (defBody s_one_or_some) (defScope s_one_or_some) .none kV12 dc12 pm12 an12 cd12 ct12), sl12⟩) (c12 : PySem.W.codeIn K cd12 "one_or_some" = true) (k12 : PySem.W.keepIn K (.ref f12) = true)
    (a13 : PySem.W.nsIn K mainGlobals "is_one_or_some" = some (some (.ref f13))) (l13 : K.lookup f13 = some ⟨oc13, od13, .func (PySem.W.fnOf "is_one_or_some" "is_one_or_some" (defArgs s_is_one_or_some) (defBody s_is_one_or_some) (defScope s_is_one_or_some) .none kV13 dc13 pm13 an13 cd13 ct13), sl13⟩) (c13 : PySem.W.codeIn K cd13 "is_one_or_some" = true) (k13 : PySem.W.keepIn K (.ref f13) = true)
    (a14 : PySem.W.nsIn K mainGlobals "twins_of" = some (some (.ref f14))) (l14 : K.lookup f14 = some ⟨oc14, od14, .func (PySem.W.fnOf "twins_of" "twins_of" (defArgs s_twins_of) (defBody s_twins_of) (defScope s_twins_of) .none kV14 dc14 pm14 an14 cd14 ct14), sl14⟩) (c14 : PySem.W.codeIn K cd14 "twins_of" = true) (k14 : PySem.W.keepIn K (.ref f14) = true)
    (a15 : PySem.W.nsIn K mainGlobals "joined_words" = some (some (.ref f15))) (l15 : K.lookup f15 = some ⟨oc15, od15, .func (PySem.W.fnOf "joined_words" "joined_words" (defArgs s_joined_words) (defBody s_joined_words) (defScope s_joined_words) .none kV15 dc15 pm15 an15 cd15 ct15), sl15⟩) (c15 : PySem.W.codeIn K cd15 "joined_words" = true) (k15 : PySem.W.keepIn K (.ref f15) = true)
    (a16 : PySem.W.nsIn K mainGlobals "_law_hand" = some (some (.ref f16))) (l16 : K.lookup f16 = some ⟨oc16, od16, .func (PySem.W.fnOf "_law_hand" "_law_hand" (defArgs s__law_hand) (defBody s__law_hand) (defScope s__law_hand) .none kV16 dc16 pm16 an16 cd16 ct16), sl16⟩) (c16 : PySem.W.codeIn K cd16 "_law_hand" = true) (k16 : PySem.W.keepIn K (.ref f16) = true)
    (a17 : PySem.W.nsIn K mainGlobals "_law_draw" = some (some (.ref f17))) (l17 : K.lookup f17 = some ⟨oc17, od17, .func (PySem.W.fnOf "_law_draw" "_law_draw" (defArgs s__law_draw) (defBody s__law_draw) (defScope s__law_draw) .none kV17 dc17 pm17 an17 cd17 ct17), sl17⟩) (c17 : PySem.W.codeIn K cd17 "_law_draw" = true) (k17 : PySem.W.keepIn K (.ref f17) = true)
    (a18 : PySem.W.nsIn K mainGlobals "_law_some" = some (some (.ref f18))) (l18 : K.lookup f18 = some ⟨oc18, od18, .func (PySem.W.fnOf "_law_some" "_law_some" (defArgs s__law_some) (defBody s__law_some) (defScope s__law_some) .none kV18 dc18 pm18 an18 cd18 ct18), sl18⟩) (c18 : PySem.W.codeIn K cd18 "_law_some" = true) (k18 : PySem.W.keepIn K (.ref f18) = true)
    (a19 : PySem.W.nsIn K mainGlobals "_law_is" = some (some (.ref f19))) (l19 : K.lookup f19 = some ⟨oc19, od19, .func (PySem.W.fnOf "_law_is" "_law_is" (defArgs s__law_is) (defBody s__law_is) (defScope s__law_is) .none kV19 dc19 pm19 an19 cd19 ct19), sl19⟩) (c19 : PySem.W.codeIn K cd19 "_law_is" = true) (k19 : PySem.W.keepIn K (.ref f19) = true)
    (a20 : PySem.W.nsIn K mainGlobals "_law_off" = some (some (.ref f20))) (l20 : K.lookup f20 = some ⟨oc20, od20, .func (PySem.W.fnOf "_law_off" "_law_off" (defArgs s__law_off) (defBody s__law_off) (defScope s__law_off) .none kV20 dc20 pm20 an20 cd20 ct20), sl20⟩) (c20 : PySem.W.codeIn K cd20 "_law_off" = true) (k20 : PySem.W.keepIn K (.ref f20) = true)
    (a21 : PySem.W.nsIn K mainGlobals "law" = some (some (.ref f21))) (l21 : K.lookup f21 = some ⟨oc21, od21, .func (PySem.W.fnOf "law" "law" (defArgs s_law) (defBody s_law) (defScope s_law) .none kV21 dc21 pm21 an21 cd21 ct21), sl21⟩) (c21 : PySem.W.codeIn K cd21 "law" = true) (k21 : PySem.W.keepIn K (.ref f21) = true)
    (z_abs : PySem.W.nsIn K mainGlobals "abs" = some none)
    (z_all : PySem.W.nsIn K mainGlobals "all" = some none)
    (z_any : PySem.W.nsIn K mainGlobals "any" = some none)
    (z_bool : PySem.W.nsIn K mainGlobals "bool" = some none)
    (z_dict : PySem.W.nsIn K mainGlobals "dict" = some none)
    (z_enumerate : PySem.W.nsIn K mainGlobals "enumerate" = some none)
    (z_int : PySem.W.nsIn K mainGlobals "int" = some none)
    (z_isinstance : PySem.W.nsIn K mainGlobals "isinstance" = some none)
    (z_len : PySem.W.nsIn K mainGlobals "len" = some none)
    (z_list : PySem.W.nsIn K mainGlobals "list" = some none)
    (z_min : PySem.W.nsIn K mainGlobals "min" = some none)
    (z_range : PySem.W.nsIn K mainGlobals "range" = some none)
    (z_str : PySem.W.nsIn K mainGlobals "str" = some none)
    (z_tuple : PySem.W.nsIn K mainGlobals "tuple" = some none)
    (z_zip : PySem.W.nsIn K mainGlobals "zip" = some none)
    (g_GREATEST : PySem.W.nsIn K mainGlobals "GREATEST" = some (some (.int 4 t_GREATEST)))
    (g_MOST : PySem.W.nsIn K mainGlobals "MOST" = some (some (.int 8 t_MOST)))
    (g_MOST_MARKS : PySem.W.nsIn K mainGlobals "MOST_MARKS" = some (some (.int 6 t_MOST_MARKS))) :
    ∃ fd : FuncData, (∀ (s : Shared) (v : Value), BindsTo s fd ⟨[v], []⟩ [("script", v)]) ∧ ∀ base : Heap, K.In base → base.Ns mainGlobals mg → FnOk l.prog w K mg base CX0 10 fa fd ["script"] (spLaw K) := by
  have e := hfa.symm.trans (PySem.W.mg_of X G a21)
  cases e
  have T : Txt mg := { b_abs := PySem.W.mg_none_of X G z_abs, b_all := PySem.W.mg_none_of X G z_all, b_any := PySem.W.mg_none_of X G z_any, b_bool := PySem.W.mg_none_of X G z_bool, b_dict := PySem.W.mg_none_of X G z_dict, b_enumerate := PySem.W.mg_none_of X G z_enumerate, b_int := PySem.W.mg_none_of X G z_int, b_isinstance := PySem.W.mg_none_of X G z_isinstance, b_len := PySem.W.mg_none_of X G z_len, b_list := PySem.W.mg_none_of X G z_list, b_min := PySem.W.mg_none_of X G z_min, b_range := PySem.W.mg_none_of X G z_range, b_str := PySem.W.mg_none_of X G z_str, b_tuple := PySem.W.mg_none_of X G z_tuple, b_zip := PySem.W.mg_none_of X G z_zip, g_GREATEST := ⟨_, PySem.W.mg_of X G g_GREATEST⟩, g_MOST := ⟨_, PySem.W.mg_of X G g_MOST⟩, g_MOST_MARKS := ⟨_, PySem.W.mg_of X G g_MOST_MARKS⟩ }
  have F0 := fun_mk (st := s_is_integer) l0 c0 k0
  have F1 := fun_mk (st := s_is_within) l1 c1 k1
  have F2 := fun_mk (st := s_is_tuple) l2 c2 k2
  have F3 := fun_mk (st := s_is_lot) l3 c3 k3
  have F4 := fun_mk (st := s_is_face) l4 c4 k4
  have F5 := fun_mk (st := s_is_word) l5 c5 k5
  have F6 := fun_mk (st := s_check_faces) l6 c6 k6
  have F7 := fun_mk (st := s_wrong_in) l7 c7 k7
  have F8 := fun_mk (st := s_check_wrong) l8 c8 k8
  have F9 := fun_mk (st := s_fits_face) l9 c9 k9
  have F10 := fun_mk (st := s_told_of) l10 c10 k10
  have F11 := fun_mk (st := s_check_told) l11 c11 k11
  have F12 := fun_mk (st := s_one_or_some) l12 c12 k12
  have F13 := fun_mk (st := s_is_one_or_some) l13 c13 k13
  have F14 := fun_mk (st := s_twins_of) l14 c14 k14
  have F15 := fun_mk (st := s_joined_words) l15 c15 k15
  have F16 := fun_mk (st := s__law_hand) l16 c16 k16
  have F17 := fun_mk (st := s__law_draw) l17 c17 k17
  have F18 := fun_mk (st := s__law_some) l18 c18 k18
  have F19 := fun_mk (st := s__law_is) l19 c19 k19
  have F20 := fun_mk (st := s__law_off) l20 c20 k20
  have F21 := fun_mk (st := s_law) l21 c21 k21
  have b0 := F0.binds (ps := ["thing"]) fun _ _ _ _ _ _ us hl => match us, hl with | [_], _ => rfl
  have b1 := F1.binds (ps := ["thing", "low", "high"]) fun _ _ _ _ _ _ us hl => match us, hl with | [_, _, _], _ => rfl
  have b2 := F2.binds (ps := ["thing", "least", "most"]) fun _ _ _ _ _ _ us hl => match us, hl with | [_, _, _], _ => rfl
  have b3 := F3.binds (ps := ["thing", "many"]) fun _ _ _ _ _ _ us hl => match us, hl with | [_, _], _ => rfl
  have b4 := F4.binds (ps := ["thing", "m"]) fun _ _ _ _ _ _ us hl => match us, hl with | [_, _], _ => rfl
  have b5 := F5.binds (ps := ["thing", "m"]) fun _ _ _ _ _ _ us hl => match us, hl with | [_, _], _ => rfl
  have b6 := F6.binds (ps := ["faces"]) fun _ _ _ _ _ _ us hl => match us, hl with | [_], _ => rfl
  have b7 := F7.binds (ps := ["face", "word"]) fun _ _ _ _ _ _ us hl => match us, hl with | [_, _], _ => rfl
  have b8 := F8.binds (ps := ["wrong"]) fun _ _ _ _ _ _ us hl => match us, hl with | [_], _ => rfl
  have b9 := F9.binds (ps := ["face", "word", "wrong"]) fun _ _ _ _ _ _ us hl => match us, hl with | [_, _, _], _ => rfl
  have b10 := F10.binds (ps := ["faces", "word", "wrong"]) fun _ _ _ _ _ _ us hl => match us, hl with | [_, _, _], _ => rfl
  have b11 := F11.binds (ps := ["faces", "word", "wrong"]) fun _ _ _ _ _ _ us hl => match us, hl with | [_, _, _], _ => rfl
  have b12 := F12.binds (ps := ["faces", "word", "wrong"]) fun _ _ _ _ _ _ us hl => match us, hl with | [_, _, _], _ => rfl
  have b13 := F13.binds (ps := ["faces", "word", "wrong", "thing"]) fun _ _ _ _ _ _ us hl => match us, hl with | [_, _, _, _], _ => rfl
  have b14 := F14.binds (ps := ["faces"]) fun _ _ _ _ _ _ us hl => match us, hl with | [_], _ => rfl
  have b15 := F15.binds (ps := ["one", "other"]) fun _ _ _ _ _ _ us hl => match us, hl with | [_, _], _ => rfl
  have b16 := F16.binds (ps := ["script"]) fun _ _ _ _ _ _ us hl => match us, hl with | [_], _ => rfl
  have b17 := F17.binds (ps := ["hand", "sides"]) fun _ _ _ _ _ _ us hl => match us, hl with | [_, _], _ => rfl
  have b18 := F18.binds (ps := ["hand", "things"]) fun _ _ _ _ _ _ us hl => match us, hl with | [_, _], _ => rfl
  have b19 := F19.binds (ps := ["one", "other"]) fun _ _ _ _ _ _ us hl => match us, hl with | [_, _], _ => rfl
  have b20 := F20.binds (ps := ["face", "word"]) fun _ _ _ _ _ _ us hl => match us, hl with | [_, _], _ => rfl
  refine ⟨PySem.W.fnOf "law" "law" (defArgs s_law) (defBody s_law) (defScope s_law) .none kV21 dc21 pm21 an21 cd21 ct21, fun s v => .of_eq rfl, fun base _ _ => ?_⟩
  have c_is_integer := cl_is_integer (P := l.prog) (w := w) (base := base) T F0 (PySem.W.mg_of X G a0) b0
  have c_is_within := cl_is_within (P := l.prog) (w := w) (base := base) T c_is_integer F1 (PySem.W.mg_of X G a1) b1
  have c_is_tuple := cl_is_tuple (P := l.prog) (w := w) (base := base) T F2 (PySem.W.mg_of X G a2) b2
  have c_is_lot := cl_is_lot (P := l.prog) (w := w) (base := base) T c_is_within F3 (PySem.W.mg_of X G a3) b3
  have c_is_face := cl_is_face (P := l.prog) (w := w) (base := base) T c_is_tuple c_is_within F4 (PySem.W.mg_of X G a4) b4
  have c_is_word := cl_is_word (P := l.prog) (w := w) (base := base) T c_is_tuple c_is_within F5 (PySem.W.mg_of X G a5) b5
  have c_check_faces := cl_check_faces (P := l.prog) (w := w) (base := base) T c_is_face c_is_tuple F6 (PySem.W.mg_of X G a6) b6
  have c_wrong_in := cl_wrong_in (P := l.prog) (w := w) (base := base) T F7 (PySem.W.mg_of X G a7) b7
  have c_check_wrong := cl_check_wrong (P := l.prog) (w := w) (base := base) T c_is_within F8 (PySem.W.mg_of X G a8) b8
  have c_fits_face := cl_fits_face (P := l.prog) (w := w) (base := base) T c_check_wrong c_is_face c_is_tuple c_is_word c_wrong_in F9 (PySem.W.mg_of X G a9) b9
  have c_told_of := cl_told_of (P := l.prog) (w := w) (base := base) T c_wrong_in F10 (PySem.W.mg_of X G a10) b10
  have c_check_told := cl_check_told (P := l.prog) (w := w) (base := base) T c_check_faces c_check_wrong c_is_word F11 (PySem.W.mg_of X G a11) b11
  have c_one_or_some := cl_one_or_some (P := l.prog) (w := w) (base := base) T c_check_told c_told_of F12 (PySem.W.mg_of X G a12) b12
  have c_is_one_or_some := cl_is_one_or_some (P := l.prog) (w := w) (base := base) T c_check_told c_is_lot c_is_tuple c_is_within c_told_of F13 (PySem.W.mg_of X G a13) b13
  have c_twins_of := cl_twins_of (P := l.prog) (w := w) (base := base) T c_check_faces F14 (PySem.W.mg_of X G a14) b14
  have c_joined_words := cl_joined_words (P := l.prog) (w := w) (base := base) T c_is_tuple c_is_word F15 (PySem.W.mg_of X G a15) b15
  have c__law_draw := cl__law_draw (P := l.prog) (w := w) (base := base) T F17 (PySem.W.mg_of X G a17) b17
  have c__law_some := cl__law_some (P := l.prog) (w := w) (base := base) T c__law_draw F18 (PySem.W.mg_of X G a18) b18
  have c__law_is := cl__law_is (P := l.prog) (w := w) (base := base) T F19 (PySem.W.mg_of X G a19) b19 8
  have c__law_off := cl__law_off (P := l.prog) (w := w) (base := base) T F20 (PySem.W.mg_of X G a20) b20
  exact fn_law T c__law_draw c__law_is c__law_off c__law_some c_fits_face c_is_one_or_some c_joined_words c_one_or_some c_twins_of F16 (PySem.W.mg_of X G a16) b16 F21 ok
end Law
open PySem PySem.W PyProof.Rows
set_option maxHeartbeats 0 in
theorem PySem.Challenge.cw_fewclues_k67_whole_words_that_tell_faces_holds : PySem.Challenge.rw_fewclues_k67_whole_words_that_tell_faces.Holds := by
  w_on; o_law; k_head; (case hw => w_witness2)
  k_fill
  refine L2.walk_of (l := PySem.Challenge.rw_fewclues_k67_whole_words_that_tell_faces) (n := 63) (k := 10) (x := "script") (CX := fun _ => L2.CX0) (sp := fun w => L2.VI.spLaw _) rfl (by decide) rfl ⟨rfl, by decide, by decide⟩ (fun w h Y => PySem.W.kIn_of Y) ?F (fun _ _ a ns hl _ hS => ⟨a, ns, rfl, hS, fun _ => rfl⟩) (fun _ _ _ _ _ h => h)
  case F =>
    intro w mg fa h KX G hmg
    refine' Law.all_mk Law.law_ok KX G hmg ?a0 ?l0 ?c0 ?k0 ?a1 ?l1 ?c1 ?k1 ?a2 ?l2 ?c2 ?k2 ?a3 ?l3 ?c3 ?k3 ?a4 ?l4 ?c4 ?k4 ?a5 ?l5 ?c5 ?k5 ?a6 ?l6 ?c6 ?k6 ?a7 ?l7 ?c7 ?k7 ?a8 ?l8 ?c8 ?k8 ?a9 ?l9 ?c9 ?k9 ?a10 ?l10 ?c10 ?k10 ?a11 ?l11 ?c11 ?k11 ?a12 ?l12 ?c12 ?k12 ?a13 ?l13 ?c13 ?k13 ?a14 ?l14 ?c14 ?k14 ?a15 ?l15 ?c15 ?k15 ?a16 ?l16 ?c16 ?k16 ?a17 ?l17 ?c17 ?k17 ?a18 ?l18 ?c18 ?k18 ?a19 ?l19 ?c19 ?k19 ?a20 ?l20 ?c20 ?k20 ?a21 ?l21 ?c21 ?k21 ?z_abs ?z_all ?z_any ?z_bool ?z_dict ?z_enumerate ?z_int ?z_isinstance ?z_len ?z_list ?z_min ?z_range ?z_str ?z_tuple ?z_zip ?g_GREATEST ?g_MOST ?g_MOST_MARKS
    (case a0 => k_is)
    (case l0 => k_is)
    (case c0 => k_is)
    (case k0 => k_is)
    (case a1 => k_is)
    (case l1 => k_is)
    (case c1 => k_is)
    (case k1 => k_is)
    (case a2 => k_is)
    (case l2 => k_is)
    (case c2 => k_is)
    (case k2 => k_is)
    (case a3 => k_is)
    (case l3 => k_is)
    (case c3 => k_is)
    (case k3 => k_is)
    (case a4 => k_is)
    (case l4 => k_is)
    (case c4 => k_is)
    (case k4 => k_is)
    (case a5 => k_is)
    (case l5 => k_is)
    (case c5 => k_is)
    (case k5 => k_is)
    (case a6 => k_is)
    (case l6 => k_is)
    (case c6 => k_is)
    (case k6 => k_is)
    (case a7 => k_is)
    (case l7 => k_is)
    (case c7 => k_is)
    (case k7 => k_is)
    (case a8 => k_is)
    (case l8 => k_is)
    (case c8 => k_is)
    (case k8 => k_is)
    (case a9 => k_is)
    (case l9 => k_is)
    (case c9 => k_is)
    (case k9 => k_is)
    (case a10 => k_is)
    (case l10 => k_is)
    (case c10 => k_is)
    (case k10 => k_is)
    (case a11 => k_is)
    (case l11 => k_is)
    (case c11 => k_is)
    (case k11 => k_is)
    (case a12 => k_is)
    (case l12 => k_is)
    (case c12 => k_is)
    (case k12 => k_is)
    (case a13 => k_is)
    (case l13 => k_is)
    (case c13 => k_is)
    (case k13 => k_is)
    (case a14 => k_is)
    (case l14 => k_is)
    (case c14 => k_is)
    (case k14 => k_is)
    (case a15 => k_is)
    (case l15 => k_is)
    (case c15 => k_is)
    (case k15 => k_is)
    (case a16 => k_is)
    (case l16 => k_is)
    (case c16 => k_is)
    (case k16 => k_is)
    (case a17 => k_is)
    (case l17 => k_is)
    (case c17 => k_is)
    (case k17 => k_is)
    (case a18 => k_is)
    (case l18 => k_is)
    (case c18 => k_is)
    (case k18 => k_is)
    (case a19 => k_is)
    (case l19 => k_is)
    (case c19 => k_is)
    (case k19 => k_is)
    (case a20 => k_is)
    (case l20 => k_is)
    (case c20 => k_is)
    (case k20 => k_is)
    (case a21 => k_is)
    (case l21 => k_is)
    (case c21 => k_is)
    (case k21 => k_is)
    (case z_abs => k_is)
    (case z_all => k_is)
    (case z_any => k_is)
    (case z_bool => k_is)
    (case z_dict => k_is)
    (case z_enumerate => k_is)
    (case z_int => k_is)
    (case z_isinstance => k_is)
    (case z_len => k_is)
    (case z_list => k_is)
    (case z_min => k_is)
    (case z_range => k_is)
    (case z_str => k_is)
    (case z_tuple => k_is)
    (case z_zip => k_is)
    (case g_GREATEST => k_is)
    (case g_MOST => k_is)
    (case g_MOST_MARKS => k_is)

