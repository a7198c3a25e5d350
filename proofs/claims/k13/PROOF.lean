import PyProof.Rows.All
import Wide.All
import OpenK.AllK
import Wide.FinOn
import KE.KStateDown
import Lean
import HandS.ForMost
import HandS.More
import HandS.WordsExc
import HandS.Defaults
import HandS.HeadHook1
import HandS.TupAny
import HandS.Deep
import PyProof.ReprRoads
import HandS.HeadEnd
import KE.SortData
import HandS.SetFor
import HandS.Head0
import HandS.Head1
import HandS.Head2
import HandS.HeadHook2
import KE.DataEq
import PyProof.StrLawsRepr
import PySem.Challenge.RW_bynamealone_k13_whole_conditions_put_in
set_option Elab.async false
set_option linter.all false
set_option maxRecDepth 100000
set_option maxHeartbeats 0
/-! The data layer, part 1: trees in the place of values and heaps. -/
namespace DL
open PySem PySem.Spec PyProof.Rows L2

/-- a tree: what a value is worth, wherever it lies -/
inductive D where
  | non | bl (b : Bool) | int (i : Int) | str (x : Str)
  | list (xs : List D) | tup (xs : List D) | dict (kvs : List (Key × D)) | obj (c : Str) (fs : List (Str × D))

mutual
inductive Da (K : PySem.W.Frag) (H : Hp) : V → D → Prop
  | non : Da K H .non .non
  | bl (b : Bool) : Da K H (.bl b) (.bl b)
  | int (i : Int) : Da K H (.int i) (.int i)
  | str (x : Str) : Da K H (.str x) (.str x)
  | list {a : Addr} {xs : List V} {ds : List D} : H a = some (.lst xs) → xs.length ≤ sizeLine → DaAll K H xs ds → Da K H (.ref a) (.list ds)
  | tup {a : Addr} {xs : List V} {ds : List D} : SqT K H a xs → xs.length ≤ sizeLine → DaAll K H xs ds → Da K H (.ref a) (.tup ds)
  | dict {a : Addr} {kvs : List (Key × V)} {ds : List (Key × D)} : Rd H a (.dK kvs) → kvs.length ≤ sizeLine → DaKv K H kvs ds → Da K H (.ref a) (.dict ds)
  | obj {a C dx : Addr} {fs : List (Str × V)} {c : Str} {ds : List (Str × D)} : H a = some (.ins C dx fs) → C = He.ga K c → DaFs K H fs ds → Da K H (.ref a) (.obj c ds)
inductive DaAll (K : PySem.W.Frag) (H : Hp) : List V → List D → Prop
  | nil : DaAll K H [] []
  | cons {v : V} {vs : List V} {d : D} {ds : List D} : Da K H v d → DaAll K H vs ds → DaAll K H (v :: vs) (d :: ds)
inductive DaKv (K : PySem.W.Frag) (H : Hp) : List (Key × V) → List (Key × D) → Prop
  | nil : DaKv K H [] []
  | cons {k : Key} {v : V} {vs : List (Key × V)} {d : D} {ds : List (Key × D)} : Da K H v d → DaKv K H vs ds → DaKv K H ((k, v) :: vs) ((k, d) :: ds)
inductive DaFs (K : PySem.W.Frag) (H : Hp) : List (Str × V) → List (Str × D) → Prop
  | nil : DaFs K H [] []
  | cons {k : Str} {v : V} {vs : List (Str × V)} {d : D} {ds : List (Str × D)} : Da K H v d → DaFs K H vs ds → DaFs K H ((k, v) :: vs) ((k, d) :: ds)
end

/-- H is part of H' -/
def Sub (H H' : Hp) : Prop := ∀ a o, H a = some o → H' a = some o
theorem Sub.refl (H : Hp) : Sub H H := fun _ _ h => h
theorem Sub.trans {H H1 H2 : Hp} (a : Sub H H1) (b : Sub H1 H2) : Sub H H2 := fun x o h => b x o (a x o h)
theorem Sub.rd {H H' : Hp} (s : Sub H H') {a : Addr} {u : HO} (h : Rd H a u) : Rd H' a u := by
  rcases h with h | ⟨o, h⟩
  · exact .inl (s a u h)
  · exact .inr ⟨o, s a _ h⟩
theorem Sub.seqL {K : PySem.W.Frag} {H H' : Hp} (s : Sub H H') {a : Addr} {xs : List V} (h : SqL K H a xs) : SqL K H' a xs := by
  rcases h with h | h
  · exact .inl (s.rd h)
  · exact .inr h
theorem Sub.seqT {K : PySem.W.Frag} {H H' : Hp} (s : Sub H H') {a : Addr} {xs : List V} (h : SqT K H a xs) : SqT K H' a xs := by
  rcases h with h | h
  · exact .inl (s.rd h)
  · exact .inr h
mutual
theorem Da.mono {K : PySem.W.Frag} {H H' : Hp} (s : Sub H H') : ∀ {v : V} {d : D}, Da K H v d → Da K H' v d
  | _, _, .non => .non
  | _, _, .bl b => .bl b
  | _, _, .int i => .int i
  | _, _, .str x => .str x
  | _, _, .list h z a => .list (s _ _ h) z (DaAll.mono s a)
  | _, _, .tup h z a => .tup (s.seqT h) z (DaAll.mono s a)
  | _, _, .dict h z a => .dict (s.rd h) z (DaKv.mono s a)
  | _, _, .obj h e a => .obj (s _ _ h) e (DaFs.mono s a)
theorem DaAll.mono {K : PySem.W.Frag} {H H' : Hp} (s : Sub H H') : ∀ {v : List V} {d : List D}, DaAll K H v d → DaAll K H' v d
  | _, _, .nil => .nil
  | _, _, .cons h t => .cons (Da.mono s h) (DaAll.mono s t)
theorem DaKv.mono {K : PySem.W.Frag} {H H' : Hp} (s : Sub H H') : ∀ {v : List (Key × V)} {d : List (Key × D)}, DaKv K H v d → DaKv K H' v d
  | _, _, .nil => .nil
  | _, _, .cons h t => .cons (Da.mono s h) (DaKv.mono s t)
theorem DaFs.mono {K : PySem.W.Frag} {H H' : Hp} (s : Sub H H') : ∀ {v : List (Str × V)} {d : List (Str × D)}, DaFs K H v d → DaFs K H' v d
  | _, _, .nil => .nil
  | _, _, .cons h t => .cons (Da.mono s h) (DaFs.mono s t)
end
section
variable {K : PySem.W.Frag} {H : Hp}
theorem DaAll.length : ∀ {v : List V} {d : List D}, DaAll K H v d → v.length = d.length
  | _, _, .nil => rfl
  | _, _, .cons _ t => by rw [List.length_cons, List.length_cons, DaAll.length t]
theorem DaAll.get : ∀ {v : List V} {d : List D} (i : Nat) {x : V}, DaAll K H v d → v[i]? = some x → ∃ y, d[i]? = some y ∧ Da K H x y
  | _, _, _, _, .nil, h => by simp at h
  | _, _, 0, _, .cons h t, e => ⟨_, rfl, by simp at e; subst e; exact h⟩
  | _, _, i + 1, _, .cons h t, e => by
    obtain ⟨y, e1, r⟩ := DaAll.get i t (by simpa using e)
    exact ⟨y, by simpa using e1, r⟩
theorem DaAll.getD : ∀ {v : List V} {d : List D} (i : Nat) {y : D}, DaAll K H v d → d[i]? = some y → ∃ x, v[i]? = some x ∧ Da K H x y
  | _, _, _, _, .nil, h => by simp at h
  | _, _, 0, _, .cons h t, e => ⟨_, rfl, by simp at e; subst e; exact h⟩
  | _, _, i + 1, _, .cons h t, e => by
    obtain ⟨y, e1, r⟩ := DaAll.getD i t (by simpa using e)
    exact ⟨y, by simpa using e1, r⟩
theorem DaAll.append : ∀ {v v' : List V} {d d' : List D}, DaAll K H v d → DaAll K H v' d' → DaAll K H (v ++ v') (d ++ d')
  | _, _, _, _, .nil, s => s
  | _, _, _, _, .cons h t, s => .cons h (DaAll.append t s)
theorem DaAll.snoc {v : List V} {d : List D} {x : V} {y : D} (h : DaAll K H v d) (r : Da K H x y) : DaAll K H (v ++ [x]) (d ++ [y]) := h.append (.cons r .nil)
theorem DaAll.take : ∀ {v : List V} {d : List D} (n : Nat), DaAll K H v d → DaAll K H (v.take n) (d.take n)
  | _, _, 0, _ => .nil
  | _, _, _ + 1, .nil => .nil
  | _, _, n + 1, .cons h t => .cons h (DaAll.take n t)
theorem DaAll.drop : ∀ {v : List V} {d : List D} (n : Nat), DaAll K H v d → DaAll K H (v.drop n) (d.drop n)
  | _, _, 0, h => h
  | _, _, _ + 1, .nil => .nil
  | _, _, n + 1, .cons _ t => DaAll.drop n t
theorem DaAll.set {x : V} {y : D} (r : Da K H x y) : ∀ {v : List V} {d : List D} (n : Nat), DaAll K H v d → DaAll K H (v.set n x) (d.set n y)
  | _, _, _, .nil => .nil
  | _, _, 0, .cons _ t => .cons r t
  | _, _, n + 1, .cons h t => .cons h (DaAll.set r n t)
theorem DaAll.eraseIdx : ∀ {v : List V} {d : List D} (n : Nat), DaAll K H v d → DaAll K H (v.eraseIdx n) (d.eraseIdx n)
  | _, _, _, .nil => .nil
  | _, _, 0, .cons _ t => t
  | _, _, n + 1, .cons h t => .cons h (DaAll.eraseIdx n t)
theorem DaAll.reverse : ∀ {v : List V} {d : List D}, DaAll K H v d → DaAll K H v.reverse d.reverse
  | _, _, .nil => .nil
  | _, _, .cons h t => by
    rw [List.reverse_cons, List.reverse_cons]
    exact (DaAll.reverse t).snoc h
theorem DaAll.ints : ∀ (ns : List Int), DaAll K H (ns.map V.int) (ns.map D.int)
  | [] => .nil
  | n :: ns => .cons (.int n) (DaAll.ints ns)
theorem DaAll.strs : ∀ (ns : List Str), DaAll K H (ns.map V.str) (ns.map D.str)
  | [] => .nil
  | n :: ns => .cons (.str n) (DaAll.strs ns)
theorem DaAll.bls : ∀ (ns : List Bool), DaAll K H (ns.map V.bl) (ns.map D.bl)
  | [] => .nil
  | n :: ns => .cons (.bl n) (DaAll.bls ns)
theorem DaAll.un_ints : ∀ (ns : List Int) {vs : List V}, DaAll K H vs (ns.map D.int) → vs = ns.map V.int
  | [], _, h => by cases h; rfl
  | n :: ns, _, h => by
    cases h with
    | cons h t =>
      cases h
      rw [DaAll.un_ints ns t]; rfl
theorem DaAll.un_strs : ∀ (ns : List Str) {vs : List V}, DaAll K H vs (ns.map D.str) → vs = ns.map V.str
  | [], _, h => by cases h; rfl
  | n :: ns, _, h => by
    cases h with
    | cons h t =>
      cases h
      rw [DaAll.un_strs ns t]; rfl
theorem DaAll.un_bls : ∀ (ns : List Bool) {vs : List V}, DaAll K H vs (ns.map D.bl) → vs = ns.map V.bl
  | [], _, h => by cases h; rfl
  | n :: ns, _, h => by
    cases h with
    | cons h t =>
      cases h
      rw [DaAll.un_bls ns t]; rfl
theorem DaKv.length : ∀ {v : List (Key × V)} {d : List (Key × D)}, DaKv K H v d → v.length = d.length
  | _, _, .nil => rfl
  | _, _, .cons _ t => by rw [List.length_cons, List.length_cons, DaKv.length t]
end

/-! ### the state -/
/-- the law's bag: digits, a number, a counter, the cells -/
def BagOk (b : Option Addr) (Hf H : Hp) : Prop := match b with
  | none => True
  | some a => Hf a = none ∧ ∃ (d m c : Int) (l : Addr) (cs : List Int), H a = some (.lst [.int d, .int m, .int c, .ref l]) ∧ Hf l = some (.lst (cs.map V.int)) ∧ 0 ≤ d ∧ 0 ≤ m ∧ m < 2147483647 ∧ 0 ≤ c ∧ ∀ x ∈ cs, 0 ≤ x
structure Step (b : Option Addr) (Hf H Hf' H' : Hp) : Prop where
  sub : Sub Hf Hf'
  oth : ∀ a o, H a = some o → b ≠ some a → H' a = some o
  new : ∀ a, Hf a = none → H a ≠ none → Hf' a = none
structure Wd (b : Option Addr) (Hf H : Hp) : Prop where
  sub : Sub Hf H
  bag : BagOk b Hf H
theorem Step.refl (b : Option Addr) (Hf H : Hp) : Step b Hf H Hf H := ⟨Sub.refl _, fun _ _ h _ => h, fun _ h _ => h⟩
theorem Step.trans {b : Option Addr} {Hf H Hf1 H1 Hf2 H2 : Hp} (s : Step b Hf H Hf1 H1) (w : Wd b Hf2 H2) (t : Step b Hf1 H1 Hf2 H2) : Step b Hf H Hf2 H2 where
  sub := s.sub.trans t.sub
  oth := fun a o h hb => t.oth a o (s.oth a o h hb) hb
  new := fun a h0 h1 => by
    by_cases hb : b = some a
    · subst hb
      exact w.bag.1
    · cases e : H a with
      | none => exact absurd e h1
      | some o => exact t.new a (s.new a h0 h1) (by rw [s.oth a o e hb]; exact fun z => nomatch z)
/-- a new object, frozen at once -/
theorem Step.laid {b : Option Addr} {Hf H : Hp} {p : Addr} {o : HO} (w : Wd b Hf H) (hp : H p = none) : Step b Hf H (upd Hf p o) (upd H p o) ∧ Wd b (upd Hf p o) (upd H p o) := by
  have hfp : Hf p = none := by
    cases e : Hf p with
    | none => rfl
    | some u =>
      have h1 := w.sub p u e
      rw [hp] at h1; cases h1
  refine ⟨⟨fun a u h => ?_, fun a u h _ => ?_, fun a h0 h1 => ?_⟩, ⟨fun a u h => ?_, ?_⟩⟩
  · rw [upd_ne (ne_of_none h hfp)]; exact h
  · rw [upd_ne (ne_of_none h hp)]; exact h
  · have : a ≠ p := fun e => h1 (by rw [e]; exact hp)
    rw [upd_ne this]; exact h0
  · by_cases e : a = p
    · subst e
      rw [upd_same] at h
      rw [upd_same]
      exact h
    · rw [upd_ne e] at h
      rw [upd_ne e]
      exact w.sub a u h
  · cases b with
    | none => trivial
    | some a =>
      obtain ⟨h0, d, m, c, l, cs, h1, h2, r⟩ := w.bag
      have ne : a ≠ p := ne_of_none h1 hp
      exact ⟨by rw [upd_ne ne]; exact h0, d, m, c, l, cs, by rw [upd_ne ne]; exact h1, by rw [upd_ne (ne_of_none h2 hfp)]; exact h2, r⟩
theorem Wd.fresh {b : Option Addr} {Hf H : Hp} {p : Addr} (w : Wd b Hf H) (hp : H p = none) : Hf p = none := by
  cases e : Hf p with
  | none => rfl
  | some u =>
    have h1 := w.sub p u e
    rw [hp] at h1; cases h1
/-- a new object, not frozen (owned) -/
theorem Step.laidO {b : Option Addr} {Hf H : Hp} {p : Addr} {o : HO} (w : Wd b Hf H) (hp : H p = none) : Step b Hf H Hf (upd H p o) ∧ Wd b Hf (upd H p o) := by
  have hfp := w.fresh hp
  refine ⟨⟨Sub.refl _, fun a u h _ => ?_, fun a h0 h1 => h0⟩, ⟨fun a u h => ?_, ?_⟩⟩
  · rw [upd_ne (ne_of_none h hp)]; exact h
  · rw [upd_ne (ne_of_none h hfp)]
    exact w.sub a u h
  · cases b with
    | none => trivial
    | some a =>
      obtain ⟨h0, d, m, c, l, cs, h1, r⟩ := w.bag
      exact ⟨h0, d, m, c, l, cs, by rw [upd_ne (ne_of_none h1 hp)]; exact h1, r⟩
/-- an owned object is changed -/
theorem Wd.write {b : Option Addr} {Hf H : Hp} {p : Addr} {o : HO} (w : Wd b Hf H) (hfp : Hf p = none) (hb : b ≠ some p) : Wd b Hf (upd H p o) := by
  refine ⟨fun a u h => ?_, ?_⟩
  · rw [upd_ne (ne_of_none h hfp)]
    exact w.sub a u h
  · cases b with
    | none => trivial
    | some a =>
      obtain ⟨h0, d, m, c, l, cs, h1, r⟩ := w.bag
      have ne : a ≠ p := fun e => hb (by rw [e])
      exact ⟨h0, d, m, c, l, cs, by rw [upd_ne ne]; exact h1, r⟩
/-- an owned object is frozen -/
theorem Wd.freeze {b : Option Addr} {Hf H : Hp} {p : Addr} {o : HO} (w : Wd b Hf H) (hfp : Hf p = none) (hp : H p = some o) (hb : b ≠ some p) : Wd b (upd Hf p o) H := by
  refine ⟨fun a u h => ?_, ?_⟩
  · by_cases e : a = p
    · subst e
      rw [upd_same] at h
      cases h
      exact hp
    · rw [upd_ne e] at h
      exact w.sub a u h
  · cases b with
    | none => trivial
    | some a =>
      obtain ⟨h0, d, m, c, l, cs, h1, h2, r⟩ := w.bag
      have ne : a ≠ p := fun e => hb (by rw [e])
      exact ⟨by rw [upd_ne ne]; exact h0, d, m, c, l, cs, h1, by rw [upd_ne (ne_of_none h2 hfp)]; exact h2, r⟩
theorem sub_upd {Hf : Hp} {p : Addr} {o : HO} (h : Hf p = none) : Sub Hf (upd Hf p o) := fun a u e => by rw [upd_ne (ne_of_none e h)]; exact e

/-- what a slot holds: a tree; the bag; a list or dict of this def's own -/
inductive DV where
  | d (x : D) | bag | own (xs : List D) | ownD (kvs : List (Key × D))
def RepV (b : Option Addr) (K : PySem.W.Frag) (Hf H : Hp) (v : V) : DV → Prop
  | .d x => Da K Hf v x
  | .bag => ∃ a, b = some a ∧ v = .ref a
  | .own ds => ∃ p xs, v = .ref p ∧ Hf p = none ∧ b ≠ some p ∧ H p = some (.lst xs) ∧ DaAll K Hf xs ds
  | .ownD ds => ∃ p kvs, v = .ref p ∧ Hf p = none ∧ b ≠ some p ∧ H p = some (.dK kvs) ∧ DaKv K Hf kvs ds
theorem RepV.move {b : Option Addr} {K : PySem.W.Frag} {Hf H Hf' H' : Hp} {v : V} (s : Step b Hf H Hf' H') : ∀ {dv : DV}, RepV b K Hf H v dv → RepV b K Hf' H' v dv
  | .d _, h => Da.mono s.sub h
  | .bag, h => h
  | .own _, ⟨p, xs, e, h0, hb, h1, h2⟩ => ⟨p, xs, e, s.new p h0 (by rw [h1]; exact fun z => nomatch z), hb, s.oth p _ h1 hb, h2.mono s.sub⟩
  | .ownD _, ⟨p, xs, e, h0, hb, h1, h2⟩ => ⟨p, xs, e, s.new p h0 (by rw [h1]; exact fun z => nomatch z), hb, s.oth p _ h1 hb, h2.mono s.sub⟩
abbrev Sl := List (Option DV)
def isOwn : DV → Bool
  | .own _ => true
  | .ownD _ => true
  | _ => false
structure Rep (b : Option Addr) (K : PySem.W.Frag) (Hf0 H0 Hf H : Hp) (δ : Sl) (σ : L2.St) : Prop where
  wd : Wd b Hf H
  st : Step b Hf0 H0 Hf H
  len : δ.length = σ.length
  sl : ∀ (i : Nat) (dv : DV), δ[i]? = some (some dv) → ∃ v, σ[i]? = some (some v) ∧ RepV b K Hf H v dv
  fresh : ∀ (i : Nat) (dv : DV) (p : Addr), δ[i]? = some (some dv) → isOwn dv = true → σ[i]? = some (some (.ref p)) → H0 p = none
  dist : ∀ (i j : Nat) (dv dw : DV) (p : Addr), i ≠ j → δ[i]? = some (some dv) → isOwn dv = true → δ[j]? = some (some dw) → isOwn dw = true → σ[i]? = some (some (.ref p)) → σ[j]? ≠ some (some (.ref p))
theorem Rep.move {b : Option Addr} {K : PySem.W.Frag} {Hf0 H0 Hf H Hf' H' : Hp} {δ : Sl} {σ : L2.St} (r : Rep b K Hf0 H0 Hf H δ σ) (s : Step b Hf H Hf' H') (w : Wd b Hf' H') : Rep b K Hf0 H0 Hf' H' δ σ where
  wd := w
  st := r.st.trans w s
  len := r.len
  sl := fun i dv e => by
    obtain ⟨v, e1, h⟩ := r.sl i dv e
    exact ⟨v, e1, h.move s⟩
  fresh := r.fresh
  dist := r.dist
end DL
/-! The data layer, part 2: judgements, expressions, statements. -/
namespace DL
open PySem PySem.Spec L2

abbrev DT := Sl → (DV → Prop) → Prop
abbrev DTt := Sl → (Bool → Prop) → Prop
abbrev DTa := Sl → (List DV → Prop) → Prop
structure DEnds where
  nx : Sl → Prop
  rt : DV → Prop
  bk : Sl → Prop := fun _ => False
  ct : Sl → Prop := fun _ => False
abbrev DTs := DEnds → Sl → Prop

def RepVs (b : Option Addr) (K : PySem.W.Frag) (Hf H : Hp) : List V → List DV → Prop
  | [], [] => True
  | v :: vs, d :: ds => RepV b K Hf H v d ∧ RepVs b K Hf H vs ds
  | _, _ => False
theorem RepVs.move {b : Option Addr} {K : PySem.W.Frag} {Hf H Hf' H' : Hp} (s : Step b Hf H Hf' H') : ∀ {vs : List V} {ds : List DV}, RepVs b K Hf H vs ds → RepVs b K Hf' H' vs ds
  | [], [], _ => trivial
  | _ :: _, _ :: _, ⟨h, t⟩ => ⟨h.move s, RepVs.move s t⟩
theorem RepVs.length {b : Option Addr} {K : PySem.W.Frag} {Hf H : Hp} : ∀ {vs : List V} {ds : List DV}, RepVs b K Hf H vs ds → vs.length = ds.length
  | [], [], _ => rfl
  | _ :: _, _ :: _, ⟨_, t⟩ => by rw [List.length_cons, List.length_cons, RepVs.length t]
/-- trees only -/
def asD : List DV → Option (List D)
  | [] => some []
  | .d x :: r => (asD r).map (x :: ·)
  | _ :: _ => none
theorem RepVs.all {b : Option Addr} {K : PySem.W.Frag} {Hf H : Hp} : ∀ {vs : List V} {dvs : List DV} {ds : List D}, RepVs b K Hf H vs dvs → asD dvs = some ds → DaAll K Hf vs ds
  | [], [], ds, _, e => by cases e; exact .nil
  | v :: vs, .d x :: r, ds, ⟨h, t⟩, e => by
    cases q : asD r with
    | none => simp [asD, q] at e
    | some z =>
      simp [asD, q] at e
      subst e
      exact .cons h (RepVs.all t q)
  | v :: vs, .bag :: r, ds, _, e => by cases e
  | v :: vs, .own _ :: r, ds, _, e => by cases e
  | v :: vs, .ownD _ :: r, ds, _, e => by cases e

/-! ### what a reading promises over trees -/
abbrev LiftE (b : Option Addr) (K : PySem.W.Frag) (Hf H : Hp) (Q : DV → Prop) (Q' : VK) : Prop := ∀ dv v Hf' H', Q dv → Step b Hf H Hf' H' → Wd b Hf' H' → RepV b K Hf' H' v dv → Q' v H'
abbrev LiftT (b : Option Addr) (Hf H : Hp) (Q : Bool → Prop) (Q' : Bool → Hp → Prop) : Prop := ∀ c Hf' H', Q c → Step b Hf H Hf' H' → Wd b Hf' H' → Q' c H'
abbrev LiftA (b : Option Addr) (K : PySem.W.Frag) (Hf H : Hp) (Q : List DV → Prop) (Q' : List V → Hp → Prop) : Prop := ∀ dvs vs Hf' H', Q dvs → Step b Hf H Hf' H' → Wd b Hf' H' → RepVs b K Hf' H' vs dvs → Q' vs H'
def Ent (K : PySem.W.Frag) (te : TE) (t : DT) : Prop := ∀ (b : Option Addr) (Hf0 H0 Hf H : Hp) (δ : Sl) (σ : L2.St) (Q : DV → Prop) (Q' : VK), Rep b K Hf0 H0 Hf H δ σ → t δ Q → LiftE b K Hf H Q Q' → te σ H Q'
def EntT (K : PySem.W.Frag) (te : TT) (t : DTt) : Prop := ∀ (b : Option Addr) (Hf0 H0 Hf H : Hp) (δ : Sl) (σ : L2.St) (Q : Bool → Prop) (Q' : Bool → Hp → Prop), Rep b K Hf0 H0 Hf H δ σ → t δ Q → LiftT b Hf H Q Q' → te σ H Q'
def EntA (K : PySem.W.Frag) (te : TA) (t : DTa) : Prop := ∀ (b : Option Addr) (Hf0 H0 Hf H : Hp) (δ : Sl) (σ : L2.St) (Q : List DV → Prop) (Q' : List V → Hp → Prop), Rep b K Hf0 H0 Hf H δ σ → t δ Q → LiftA b K Hf H Q Q' → te σ H Q'
structure EndsOk (b : Option Addr) (K : PySem.W.Frag) (Hf0 H0 : Hp) (E : DEnds) (E' : Ends) : Prop where
  nx : ∀ δ σ Hf H, E.nx δ → Rep b K Hf0 H0 Hf H δ σ → E'.nx σ H
  rt : ∀ dv v Hf H, E.rt dv → Step b Hf0 H0 Hf H → Wd b Hf H → RepV b K Hf H v dv → E'.rt v H
  bk : ∀ δ σ Hf H, E.bk δ → Rep b K Hf0 H0 Hf H δ σ → E'.bk σ H
  ct : ∀ δ σ Hf H, E.ct δ → Rep b K Hf0 H0 Hf H δ σ → E'.ct σ H
def EntS (K : PySem.W.Frag) (ts : TS) (t : DTs) : Prop := ∀ (b : Option Addr) (Hf0 H0 Hf H : Hp) (δ : Sl) (σ : L2.St) (E : DEnds) (E' : Ends), Rep b K Hf0 H0 Hf H δ σ → t E δ → EndsOk b K Hf0 H0 E E' → ts E' σ H
structure DE (X : Cx) (e : Expr) (te : TE) (t : DT) : Prop where
  pe : PE X e te
  en : Ent X.K te t
structure DQ (X : Cx) (e : Expr) (te : TT) (t : DTt) : Prop where
  pt : PT X e te
  en : EntT X.K te t
structure DW (X : Cx) (e : Expr) (te : TT) (t : DTt) : Prop where
  pw : PW X e te
  en : EntT X.K te t
structure DA (X : Cx) (es : List Expr) (te : TA) (t : DTa) : Prop where
  pa : PA X es te
  en : EntA X.K te t
structure DS (X : Cx) (st : Stmt) (ts : TS) (t : DTs) : Prop where
  ps : PS X st ts
  en : EntS X.K ts t
structure DSs (X : Cx) (st : List Stmt) (ts : TS) (t : DTs) : Prop where
  pss : PSs X st ts
  en : EntS X.K ts t

/-! ### slots -/
theorem Rep.setD {b : Option Addr} {K : PySem.W.Frag} {Hf0 H0 Hf H : Hp} {δ : Sl} {σ : L2.St} {i : Nat} {v : V} {x : D} (r : Rep b K Hf0 H0 Hf H δ σ) (h : Da K Hf v x) : Rep b K Hf0 H0 Hf H (δ.set i (some (.d x))) (σ.set i (some v)) where
  wd := r.wd
  st := r.st
  len := by rw [List.length_set, List.length_set]; exact r.len
  sl := fun j dv e => by
    by_cases hj : i = j
    · subst hj
      by_cases hl : i < δ.length
      · rw [List.getElem?_set_self hl] at e
        cases e
        exact ⟨v, by rw [List.getElem?_set_self (by rw [← r.len]; exact hl)], h⟩
      · rw [List.getElem?_eq_none (by rw [List.length_set]; omega)] at e; cases e
    · rw [List.getElem?_set_ne hj] at e
      obtain ⟨u, e1, q⟩ := r.sl j dv e
      exact ⟨u, by rw [List.getElem?_set_ne hj]; exact e1, q⟩
  fresh := fun j dv p e o es => by
    by_cases hj : i = j
    · subst hj
      by_cases hl : i < δ.length
      · rw [List.getElem?_set_self hl] at e
        cases e; cases o
      · rw [List.getElem?_eq_none (by rw [List.length_set]; omega)] at e; cases e
    · rw [List.getElem?_set_ne hj] at e es
      exact r.fresh j dv p e o es
  dist := fun j k dv dw p ne e1 o1 e2 o2 s1 => by
    by_cases hj : i = j
    · subst hj
      by_cases hl : i < δ.length
      · rw [List.getElem?_set_self hl] at e1
        cases e1; cases o1
      · rw [List.getElem?_eq_none (by rw [List.length_set]; omega)] at e1; cases e1
    · by_cases hk : i = k
      · subst hk
        by_cases hl : i < δ.length
        · rw [List.getElem?_set_self hl] at e2
          cases e2; cases o2
        · rw [List.getElem?_eq_none (by rw [List.length_set]; omega)] at e2; cases e2
      · rw [List.getElem?_set_ne hj] at e1 s1
        rw [List.getElem?_set_ne hk] at e2
        rw [List.getElem?_set_ne hk]
        exact r.dist j k dv dw p ne e1 o1 e2 o2 s1
/-- the bag to a slot -/
theorem Rep.setB {b : Option Addr} {K : PySem.W.Frag} {Hf0 H0 Hf H : Hp} {δ : Sl} {σ : L2.St} {i : Nat} {a : Addr} (r : Rep b K Hf0 H0 Hf H δ σ) (h : b = some a) : Rep b K Hf0 H0 Hf H (δ.set i (some .bag)) (σ.set i (some (.ref a))) where
  wd := r.wd
  st := r.st
  len := by rw [List.length_set, List.length_set]; exact r.len
  sl := fun j dv e => by
    by_cases hj : i = j
    · subst hj
      by_cases hl : i < δ.length
      · rw [List.getElem?_set_self hl] at e
        cases e
        exact ⟨_, by rw [List.getElem?_set_self (by rw [← r.len]; exact hl)], a, h, rfl⟩
      · rw [List.getElem?_eq_none (by rw [List.length_set]; omega)] at e; cases e
    · rw [List.getElem?_set_ne hj] at e
      obtain ⟨u, e1, q⟩ := r.sl j dv e
      exact ⟨u, by rw [List.getElem?_set_ne hj]; exact e1, q⟩
  fresh := fun j dv p e o es => by
    by_cases hj : i = j
    · subst hj
      by_cases hl : i < δ.length
      · rw [List.getElem?_set_self hl] at e
        cases e; cases o
      · rw [List.getElem?_eq_none (by rw [List.length_set]; omega)] at e; cases e
    · rw [List.getElem?_set_ne hj] at e es
      exact r.fresh j dv p e o es
  dist := fun j k dv dw p ne e1 o1 e2 o2 s1 => by
    by_cases hj : i = j
    · subst hj
      by_cases hl : i < δ.length
      · rw [List.getElem?_set_self hl] at e1
        cases e1; cases o1
      · rw [List.getElem?_eq_none (by rw [List.length_set]; omega)] at e1; cases e1
    · by_cases hk : i = k
      · subst hk
        by_cases hl : i < δ.length
        · rw [List.getElem?_set_self hl] at e2
          cases e2; cases o2
        · rw [List.getElem?_eq_none (by rw [List.length_set]; omega)] at e2; cases e2
      · rw [List.getElem?_set_ne hj] at e1 s1
        rw [List.getElem?_set_ne hk] at e2
        rw [List.getElem?_set_ne hk]
        exact r.dist j k dv dw p ne e1 o1 e2 o2 s1
/-- a new list or dict of one's own to a slot -/
theorem Rep.setO {b : Option Addr} {K : PySem.W.Frag} {Hf0 H0 Hf H : Hp} {δ : Sl} {σ : L2.St} {i : Nat} {p : Addr} {o : DV} (r : Rep b K Hf0 H0 Hf H δ σ) (ho : isOwn o = true) (h : RepV b K Hf H (.ref p) o)
    (h0 : H0 p = none) (hd : ∀ (j : Nat) (dv : DV), δ[j]? = some (some dv) → isOwn dv = true → σ[j]? ≠ some (some (V.ref p))) : Rep b K Hf0 H0 Hf H (δ.set i (some o)) (σ.set i (some (.ref p))) where
  wd := r.wd
  st := r.st
  len := by rw [List.length_set, List.length_set]; exact r.len
  sl := fun j dv e => by
    by_cases hj : i = j
    · subst hj
      by_cases hl : i < δ.length
      · rw [List.getElem?_set_self hl] at e
        cases e
        exact ⟨_, by rw [List.getElem?_set_self (by rw [← r.len]; exact hl)], h⟩
      · rw [List.getElem?_eq_none (by rw [List.length_set]; omega)] at e; cases e
    · rw [List.getElem?_set_ne hj] at e
      obtain ⟨u, e1, q⟩ := r.sl j dv e
      exact ⟨u, by rw [List.getElem?_set_ne hj]; exact e1, q⟩
  fresh := fun j dv q e o es => by
    by_cases hj : i = j
    · subst hj
      by_cases hl : i < δ.length
      · rw [List.getElem?_set_self (by rw [← r.len]; exact hl)] at es
        cases es; exact h0
      · rw [List.getElem?_eq_none (by rw [List.length_set]; omega)] at e; cases e
    · rw [List.getElem?_set_ne hj] at e es
      exact r.fresh j dv q e o es
  dist := fun j k dv dw q ne e1 o1 e2 o2 s1 => by
    by_cases hj : i = j
    · subst hj
      have hk : i ≠ k := ne
      by_cases hl : i < δ.length
      · rw [List.getElem?_set_self (by rw [← r.len]; exact hl)] at s1
        cases s1
        rw [List.getElem?_set_ne hk] at e2
        rw [List.getElem?_set_ne hk]
        exact hd k dw e2 o2
      · rw [List.getElem?_eq_none (by rw [List.length_set]; omega)] at e1; cases e1
    · by_cases hk : i = k
      · subst hk
        by_cases hl : i < δ.length
        · rw [List.getElem?_set_self (by rw [← r.len]; exact hl)]
          rw [List.getElem?_set_ne hj] at e1 s1
          intro z
          cases z
          exact hd j dv e1 o1 s1
        · rw [List.getElem?_eq_none (by rw [List.length_set]; omega)] at e2; cases e2
      · rw [List.getElem?_set_ne hj] at e1 s1
        rw [List.getElem?_set_ne hk] at e2
        rw [List.getElem?_set_ne hk]
        exact r.dist j k dv dw q ne e1 o1 e2 o2 s1
/-- a slot forgotten -/
theorem Rep.setN {b : Option Addr} {K : PySem.W.Frag} {Hf0 H0 Hf H : Hp} {δ : Sl} {σ : L2.St} {i : Nat} {w : Option V} (r : Rep b K Hf0 H0 Hf H δ σ) : Rep b K Hf0 H0 Hf H (δ.set i none) (σ.set i w) where
  wd := r.wd
  st := r.st
  len := by rw [List.length_set, List.length_set]; exact r.len
  sl := fun j dv e => by
    by_cases hj : i = j
    · subst hj
      by_cases hl : i < δ.length
      · rw [List.getElem?_set_self hl] at e
        cases e
      · rw [List.getElem?_eq_none (by rw [List.length_set]; omega)] at e; cases e
    · rw [List.getElem?_set_ne hj] at e
      obtain ⟨u, e1, q⟩ := r.sl j dv e
      exact ⟨u, by rw [List.getElem?_set_ne hj]; exact e1, q⟩
  fresh := fun j dv p e o es => by
    by_cases hj : i = j
    · subst hj
      by_cases hl : i < δ.length
      · rw [List.getElem?_set_self hl] at e
        cases e
      · rw [List.getElem?_eq_none (by rw [List.length_set]; omega)] at e; cases e
    · rw [List.getElem?_set_ne hj] at e es
      exact r.fresh j dv p e o es
  dist := fun j k dv dw p ne e1 o1 e2 o2 s1 => by
    by_cases hj : i = j
    · subst hj
      by_cases hl : i < δ.length
      · rw [List.getElem?_set_self hl] at e1
        cases e1
      · rw [List.getElem?_eq_none (by rw [List.length_set]; omega)] at e1; cases e1
    · by_cases hk : i = k
      · subst hk
        by_cases hl : i < δ.length
        · rw [List.getElem?_set_self hl] at e2
          cases e2
        · rw [List.getElem?_eq_none (by rw [List.length_set]; omega)] at e2; cases e2
      · rw [List.getElem?_set_ne hj] at e1 s1
        rw [List.getElem?_set_ne hk] at e2
        rw [List.getElem?_set_ne hk]
        exact r.dist j k dv dw p ne e1 o1 e2 o2 s1
def wipeD (δ : Sl) : List Nat → Sl
  | [] => δ
  | v :: vs => (wipeD δ vs).set v none
theorem Rep.wipe {b : Option Addr} {K : PySem.W.Frag} {Hf0 H0 Hf H : Hp} {δ : Sl} {σ : L2.St} (r : Rep b K Hf0 H0 Hf H δ σ) : ∀ vs : List Nat, Rep b K Hf0 H0 Hf H (wipeD δ vs) (L2.wipe σ vs)
  | [] => r
  | v :: vs => (Rep.wipe r vs).setN

section
variable {X : Cx} {K : PySem.W.Frag} {te ta tb tc : TE} {t u w : DT} {tt tt1 tt2 : TT} {q q1 q2 : DTt}
/-! ### names, constants -/
def dVar (i : Nat) : DT := fun δ Q => ∃ dv, δ[i]? = some (some dv) ∧ Q dv
def dC (x : D) : DT := fun _ Q => Q (.d x)
theorem ent_var {i : Nat} : Ent K (tVar i) (dVar i) := fun b Hf0 H0 Hf H δ σ Q Q' r h k => by
  obtain ⟨dv, e, hq⟩ := h
  obtain ⟨v, e1, h1⟩ := r.sl i dv e
  exact ⟨v, e1, k dv v Hf H hq (Step.refl _ _ _) r.wd h1⟩
theorem ent_c {v : V} {x : D} (h : ∀ Hf, Da K Hf v x) : Ent K (tC v) (dC x) := fun b Hf0 H0 Hf H δ σ Q Q' r hq k => k _ _ Hf H hq (Step.refl _ _ _) r.wd (h Hf)
theorem de_int {i : Int} {j pos} : DE X (.Constant (.int i) j pos) (tC (.int i)) (dC (.int i)) := ⟨pe_int, ent_c fun _ => .int i⟩
theorem de_bl {i : Bool} {j pos} : DE X (.Constant (.bool i) j pos) (tC (.bl i)) (dC (.bl i)) := ⟨pe_bl, ent_c fun _ => .bl i⟩
theorem de_non {j pos} : DE X (.Constant .none j pos) (tC .non) (dC .non) := ⟨pe_non, ent_c fun _ => .non⟩
theorem de_str {x : Str} {j pos} : DE X (.Constant (.str x) j pos) (tC (.str x)) (dC (.str x)) := ⟨pe_str, ent_c fun _ => .str x⟩
/-! ### arguments, displays -/
def dNil : DTa := fun _ Q => Q []
def dCons (t : DT) (u : DTa) : DTa := fun δ Q => t δ fun x => u δ fun xs => Q (x :: xs)
theorem ent_nil : EntA K tNil dNil := fun b Hf0 H0 Hf H δ σ Q Q' r hq k => k _ _ Hf H hq (Step.refl _ _ _) r.wd trivial
theorem ent_cons {ta : TE} {tr : TA} {t : DT} {u : DTa} (h1 : Ent K ta t) (h2 : EntA K tr u) : EntA K (tCons ta tr) (dCons t u) := fun b Hf0 H0 Hf H δ σ Q Q' r hq k =>
  h1 b Hf0 H0 Hf H δ σ _ _ r hq fun dv v Hf1 H1 h s1 w1 r1 =>
    h2 b Hf0 H0 Hf1 H1 δ σ _ _ (r.move s1 w1) h fun dvs vs Hf2 H2 h' s2 w2 r2 =>
      k _ _ Hf2 H2 h' (s1.trans w2 s2) w2 ⟨r1.move s2, r2⟩
theorem da_nil : DA X [] tNil dNil := ⟨pa_nil, ent_nil⟩
theorem da_cons {e : Expr} {es : List Expr} {te : TE} {ta : TA} {t : DT} {u : DTa} (h1 : DE X e te t) (h2 : DA X es ta u) (hs : starEach (e :: es) X.env = (false, eval e X.env) :: starEach es X.env := by rfl) : DA X (e :: es) (tCons te ta) (dCons t u) :=
  ⟨pa_cons h1.pe h2.pa hs, ent_cons h1.en h2.en⟩
def dTup (t : DTa) : DT := fun δ Q => t δ fun dvs => ∃ ds, asD dvs = some ds ∧ ds.length ≤ sizeLine ∧ Q (.d (.tup ds))
def dLst (t : DTa) : DT := fun δ Q => t δ fun dvs => ∃ ds, asD dvs = some ds ∧ ds.length ≤ sizeLine ∧ Q (.d (.list ds))
theorem ent_tup {ta : TA} {u : DTa} (h : EntA K ta u) : Ent K (tTup ta) (dTup u) := fun b Hf0 H0 Hf H δ σ Q Q' r hq k =>
  h b Hf0 H0 Hf H δ σ _ _ r hq fun dvs vs Hf1 H1 h s1 w1 r1 => by
    obtain ⟨ds, e, z, hq⟩ := h
    have ha := r1.all e
    have z' : vs.length ≤ sizeLine := by rw [ha.length]; exact z
    refine ⟨z', fun p hp => ?_⟩
    obtain ⟨s2, w2⟩ := Step.laid (o := .tup vs) w1 hp
    exact k _ _ _ _ hq (s1.trans w2 s2) w2 (.tup (.inl (.inl upd_same)) z' (ha.mono s2.sub))
theorem ent_lst {ta : TA} {u : DTa} (h : EntA K ta u) : Ent K (tLst ta) (dLst u) := fun b Hf0 H0 Hf H δ σ Q Q' r hq k =>
  h b Hf0 H0 Hf H δ σ _ _ r hq fun dvs vs Hf1 H1 h s1 w1 r1 => by
    obtain ⟨ds, e, z, hq⟩ := h
    have ha := r1.all e
    have z' : vs.length ≤ sizeLine := by rw [ha.length]; exact z
    refine ⟨z', fun p hp => ?_⟩
    obtain ⟨s2, w2⟩ := Step.laid (o := .lst vs) w1 hp
    exact k _ _ _ _ hq (s1.trans w2 s2) w2 (.list upd_same z' (ha.mono s2.sub))
theorem de_tup {es : List Expr} {ta : TA} {u : DTa} {k : Nat} {pos : Pos} (h : DA X es ta u) : DE X (.Tuple es k pos) (tTup ta) (dTup u) := ⟨pe_tup h.pa, ent_tup h.en⟩
theorem de_lst {es : List Expr} {ta : TA} {u : DTa} {pos : Pos} (h : DA X es ta u) : DE X (.List es pos) (tLst ta) (dLst u) := ⟨pe_lst h.pa, ent_lst h.en⟩
/-! ### operators by values -/
abbrev R2D := D → D → (DV → Prop) → Prop
def EntR (K : PySem.W.Frag) (r : R2) (rd : R2D) : Prop := ∀ (b : Option Addr) (Hf H : Hp) (x y : V) (a c : D) (Q : DV → Prop) (Q' : VK), Wd b Hf H → Da K Hf x a → Da K Hf y c → rd a c Q → LiftE b K Hf H Q Q' → r x y H Q'
def dOp (rd : R2D) (t u : DT) : DT := fun δ Q => t δ fun x => u δ fun y => ∃ a c, x = .d a ∧ y = .d c ∧ rd a c Q
theorem ent_op {r : R2} {rd : R2D} (hr : EntR K r rd) (h1 : Ent K ta t) (h2 : Ent K tb u) : Ent K (tOp r ta tb) (dOp rd t u) := fun b Hf0 H0 Hf H δ σ Q Q' rp hq k =>
  h1 b Hf0 H0 Hf H δ σ _ _ rp hq fun dv v Hf1 H1 h s1 w1 r1 =>
    h2 b Hf0 H0 Hf1 H1 δ σ _ _ (rp.move s1 w1) h fun dv2 v2 Hf2 H2 h' s2 w2 r2 => by
      obtain ⟨a, c, rfl, rfl, hq⟩ := h'
      exact hr b Hf2 H2 v v2 a c Q Q' w2 (Da.mono s2.sub r1) r2 hq fun dv3 v3 Hf3 H3 h3 s3 w3 r3 => k dv3 v3 Hf3 H3 h3 ((s1.trans w2 s2).trans w3 s3) w3 r3
theorem de_op {a c : Expr} {op : Operator} {pos : Pos} {r : R2} {rd : R2D} (ho : OpR X (binaryOp op) r) (hr : EntR X.K r rd) (h1 : DE X a ta t) (h2 : DE X c tb u) : DE X (.BinOp a op c pos) (tOp r ta tb) (dOp rd t u) :=
  ⟨pe_op ho h1.pe h2.pe, ent_op hr h1.en h2.en⟩
theorem de_cmp {a c : Expr} {op : CmpOp} {pos : Pos} {r : R2} {rd : R2D} (ho : OpR X (compareOp op) r) (hr : EntR X.K r rd) (h1 : DE X a ta t) (h2 : DE X c tb u) (hm : behindInMarks op c = false) : DE X (.Compare a [op] [c] pos) (tOp r ta tb) (dOp rd t u) :=
  ⟨pe_cmpR ho h1.pe h2.pe hm, ent_op hr h1.en h2.en⟩
def dB (t : DT) : DTt := fun δ Q => t δ fun x => ∃ c, x = .d (.bl c) ∧ Q c
theorem ent_test (h : Ent K te t) : EntT K (tTest te) (dB t) := fun b Hf0 H0 Hf H δ σ Q Q' r hq k =>
  h b Hf0 H0 Hf H δ σ _ _ r hq fun dv v Hf1 H1 h s1 w1 r1 => by
    obtain ⟨c, rfl, hq⟩ := h
    cases r1
    exact ⟨c, rfl, k c Hf1 H1 hq s1 w1⟩
theorem ent_tB (h : Ent K te t) : EntT K (tB te) (dB t) := fun b Hf0 H0 Hf H δ σ Q Q' r hq k =>
  h b Hf0 H0 Hf H δ σ _ _ r hq fun dv v Hf1 H1 h s1 w1 r1 => by
    obtain ⟨c, rfl, hq⟩ := h
    cases r1
    exact ⟨c, rfl, k c Hf1 H1 hq s1 w1⟩
theorem dq_cmp {a c : Expr} {op : CmpOp} {pos : Pos} {r : R2} {rd : R2D} (ho : OpR X (compareOp op) r) (hr : EntR X.K r rd) (h1 : DE X a ta t) (h2 : DE X c tb u) (hm : behindInMarks op c = false) : DQ X (.Compare a [op] [c] pos) (tTest (tOp r ta tb)) (dB (dOp rd t u)) :=
  ⟨pt_cmpR ho h1.pe h2.pe hm, ent_test (ent_op hr h1.en h2.en)⟩
theorem dq_val {e : Expr} (h : DE X e te t) (he : ∀ whole, isTrue e X.env whole = (do let v ← whole; standAt e.pos; holding [v] (truthy v)) := by intro _; rfl) : DQ X e (tB te) (dB t) := ⟨pt_val h.pe he, ent_tB h.en⟩
def dAnd (t u : DTt) : DTt := fun δ Q => t δ fun c => if c = true then u δ Q else Q false
def dOr (t u : DTt) : DTt := fun δ Q => t δ fun c => if c = true then Q true else u δ Q
def dNot (t : DTt) : DTt := fun δ Q => t δ fun c => Q (!c)
theorem ent_and (h1 : EntT K tt1 q1) (h2 : EntT K tt2 q2) : EntT K (tAnd tt1 tt2) (dAnd q1 q2) := fun b Hf0 H0 Hf H δ σ Q Q' r hq k =>
  h1 b Hf0 H0 Hf H δ σ _ _ r hq fun c Hf1 H1 h s1 w1 => by
    cases c with
    | true => exact h2 b Hf0 H0 Hf1 H1 δ σ _ _ (r.move s1 w1) h fun c Hf2 H2 h' s2 w2 => k c Hf2 H2 h' (s1.trans w2 s2) w2
    | false => exact k false Hf1 H1 h s1 w1
theorem ent_or (h1 : EntT K tt1 q1) (h2 : EntT K tt2 q2) : EntT K (tOr tt1 tt2) (dOr q1 q2) := fun b Hf0 H0 Hf H δ σ Q Q' r hq k =>
  h1 b Hf0 H0 Hf H δ σ _ _ r hq fun c Hf1 H1 h s1 w1 => by
    cases c with
    | false => exact h2 b Hf0 H0 Hf1 H1 δ σ _ _ (r.move s1 w1) h fun c Hf2 H2 h' s2 w2 => k c Hf2 H2 h' (s1.trans w2 s2) w2
    | true => exact k true Hf1 H1 h s1 w1
theorem ent_not (h1 : EntT K tt1 q1) : EntT K (tNot tt1) (dNot q1) := fun b Hf0 H0 Hf H δ σ Q Q' r hq k =>
  h1 b Hf0 H0 Hf H δ σ _ _ r hq fun c Hf1 H1 h s1 w1 => k (!c) Hf1 H1 h s1 w1
theorem dw_and1 {a : Expr} {pos : Pos} (h : DQ X a tt q) : DW X (.BoolOp .And [a] pos) tt q := ⟨pw_and1 h.pt, h.en⟩
theorem dw_or1 {a : Expr} {pos : Pos} (h : DQ X a tt q) : DW X (.BoolOp .Or [a] pos) tt q := ⟨pw_or1 h.pt, h.en⟩
theorem dw_and {a c : Expr} {rest : List Expr} {pos : Pos} (h1 : DQ X a tt1 q1) (h2 : DW X (.BoolOp .And (c :: rest) pos) tt2 q2) : DW X (.BoolOp .And (a :: c :: rest) pos) (tAnd tt1 tt2) (dAnd q1 q2) := ⟨pw_and h1.pt h2.pw, ent_and h1.en h2.en⟩
theorem dw_or {a c : Expr} {rest : List Expr} {pos : Pos} (h1 : DQ X a tt1 q1) (h2 : DW X (.BoolOp .Or (c :: rest) pos) tt2 q2) : DW X (.BoolOp .Or (a :: c :: rest) pos) (tOr tt1 tt2) (dOr q1 q2) := ⟨pw_or h1.pt h2.pw, ent_or h1.en h2.en⟩
theorem DW.toQ {e : Expr} (h : DW X e tt q) : DQ X e tt q := ⟨h.pw.pt, h.en⟩
theorem dq_not {a : Expr} {pos : Pos} (h : DQ X a tt q) : DQ X (.UnaryOp .Not a pos) (tNot tt) (dNot q) := ⟨pt_not h.pt, ent_not h.en⟩
/-! as values -/
def dAndV (t u : DT) : DT := fun δ Q => t δ fun x => ∃ c, x = .d (.bl c) ∧ if c = true then u δ Q else Q (.d (.bl false))
def dOrV (t u : DT) : DT := fun δ Q => t δ fun x => ∃ c, x = .d (.bl c) ∧ if c = true then Q (.d (.bl true)) else u δ Q
def dNotV (t : DT) : DT := fun δ Q => t δ fun x => ∃ c, x = .d (.bl c) ∧ Q (.d (.bl (!c)))
theorem ent_andV (h1 : Ent K ta t) (h2 : Ent K tb u) : Ent K (tAndV ta tb) (dAndV t u) := fun b Hf0 H0 Hf H δ σ Q Q' r hq k =>
  h1 b Hf0 H0 Hf H δ σ _ _ r hq fun dv v Hf1 H1 h s1 w1 r1 => by
    obtain ⟨c, rfl, h⟩ := h
    cases r1
    refine ⟨c, rfl, ?_⟩
    cases c with
    | true => exact h2 b Hf0 H0 Hf1 H1 δ σ _ _ (r.move s1 w1) h fun dv v Hf2 H2 h' s2 w2 r2 => k dv v Hf2 H2 h' (s1.trans w2 s2) w2 r2
    | false => exact k _ _ Hf1 H1 h s1 w1 (.bl false)
theorem ent_orV (h1 : Ent K ta t) (h2 : Ent K tb u) : Ent K (tOrV ta tb) (dOrV t u) := fun b Hf0 H0 Hf H δ σ Q Q' r hq k =>
  h1 b Hf0 H0 Hf H δ σ _ _ r hq fun dv v Hf1 H1 h s1 w1 r1 => by
    obtain ⟨c, rfl, h⟩ := h
    cases r1
    refine ⟨c, rfl, ?_⟩
    cases c with
    | false => exact h2 b Hf0 H0 Hf1 H1 δ σ _ _ (r.move s1 w1) h fun dv v Hf2 H2 h' s2 w2 r2 => k dv v Hf2 H2 h' (s1.trans w2 s2) w2 r2
    | true => exact k _ _ Hf1 H1 h s1 w1 (.bl true)
theorem ent_notV (h1 : Ent K ta t) : Ent K (tNotV ta) (dNotV t) := fun b Hf0 H0 Hf H δ σ Q Q' r hq k =>
  h1 b Hf0 H0 Hf H δ σ _ _ r hq fun dv v Hf1 H1 h s1 w1 r1 => by
    obtain ⟨c, rfl, h⟩ := h
    cases r1
    exact ⟨c, rfl, k _ _ Hf1 H1 h s1 w1 (.bl (!c))⟩
theorem de_one {a : Expr} {op} {pos : Pos} (h : DE X a ta t) : DE X (.BoolOp op [a] pos) ta t := ⟨pe_one h.pe, h.en⟩
theorem de_and {a c : Expr} {rest : List Expr} {pos : Pos} (h1 : DE X a ta t) (h2 : DE X (.BoolOp .And (c :: rest) pos) tb u) : DE X (.BoolOp .And (a :: c :: rest) pos) (tAndV ta tb) (dAndV t u) := ⟨pe_and h1.pe h2.pe, ent_andV h1.en h2.en⟩
theorem de_or {a c : Expr} {rest : List Expr} {pos : Pos} (h1 : DE X a ta t) (h2 : DE X (.BoolOp .Or (c :: rest) pos) tb u) : DE X (.BoolOp .Or (a :: c :: rest) pos) (tOrV ta tb) (dOrV t u) := ⟨pe_or h1.pe h2.pe, ent_orV h1.en h2.en⟩
theorem de_not {a : Expr} {pos : Pos} (h : DE X a ta t) : DE X (.UnaryOp .Not a pos) (tNotV ta) (dNotV t) := ⟨pe_not h.pe, ent_notV h.en⟩
def dIf (c : DTt) (t u : DT) : DT := fun δ Q => c δ fun k => if k = true then t δ Q else u δ Q
theorem ent_if (h : EntT K tt q) (h1 : Ent K ta t) (h2 : Ent K tb u) : Ent K (tIf tt ta tb) (dIf q t u) := fun b Hf0 H0 Hf H δ σ Q Q' r hq k =>
  h b Hf0 H0 Hf H δ σ _ _ r hq fun c Hf1 H1 h s1 w1 => by
    cases c with
    | true => exact h1 b Hf0 H0 Hf1 H1 δ σ _ _ (r.move s1 w1) h fun dv v Hf2 H2 h' s2 w2 r2 => k dv v Hf2 H2 h' (s1.trans w2 s2) w2 r2
    | false => exact h2 b Hf0 H0 Hf1 H1 δ σ _ _ (r.move s1 w1) h fun dv v Hf2 H2 h' s2 w2 r2 => k dv v Hf2 H2 h' (s1.trans w2 s2) w2 r2
theorem de_if {c a e : Expr} {pos : Pos} (h : DQ X c tt q) (h1 : DE X a ta t) (h2 : DE X e tb u) : DE X (.IfExp c a e pos) (tIf tt ta tb) (dIf q t u) := ⟨pe_ifExp h.pt h1.pe h2.pe, ent_if h.en h1.en h2.en⟩
/-! ### calls by values -/
abbrev RCD := List DV → (DV → Prop) → Prop
def EntC (K : PySem.W.Frag) (r : List V → Hp → VK → Prop) (rd : RCD) : Prop := ∀ (b : Option Addr) (Hf H : Hp) (vs : List V) (ds : List DV) (Q : DV → Prop) (Q' : VK), Wd b Hf H → RepVs b K Hf H vs ds → rd ds Q → LiftE b K Hf H Q Q' → r vs H Q'
def dCB (rd : RCD) (t : DTa) : DT := fun δ Q => t δ fun ds => rd ds Q
theorem ent_cb {r : List V → Hp → VK → Prop} {rd : RCD} {ta : TA} {u : DTa} (hr : EntC K r rd) (h : EntA K ta u) : Ent K (tCB r ta) (dCB rd u) := fun b Hf0 H0 Hf H δ σ Q Q' rp hq k =>
  h b Hf0 H0 Hf H δ σ _ _ rp hq fun dvs vs Hf1 H1 h s1 w1 r1 =>
    hr b Hf1 H1 vs dvs Q Q' w1 r1 h fun dv v Hf2 H2 h2 s2 w2 r2 => k dv v Hf2 H2 h2 (s1.trans w2 s2) w2 r2
/-- a def's promise over trees -/
def spD (K : PySem.W.Frag) (S : RCD) : Sp := fun vs H Q _ => ∃ (b : Option Addr) (Hf : Hp) (ds : List DV), Wd b Hf H ∧ RepVs b K Hf H vs ds ∧ ds.all (fun x => !isOwn x) = true ∧ S ds fun dv => ∀ v Hf' H', Step b Hf H Hf' H' → Wd b Hf' H' → RepV b K Hf' H' v dv → Q v H'
def dCall (S : RCD) (t : DTa) : DT := fun δ Q => t δ fun ds => ds.all (fun x => !isOwn x) = true ∧ S ds Q
/-- S is monotone -/
def Mono (S : RCD) : Prop := ∀ ds (Q Q' : DV → Prop), (∀ x, Q x → Q' x) → S ds Q → S ds Q'
theorem ent_call {S : RCD} (hm : Mono S) {ta : TA} {u : DTa} {E : XK} (h : EntA K ta u) : Ent K (tCall (spD K S) [] E ta) (dCall S u) := fun b Hf0 H0 Hf H δ σ Q Q' rp hq k =>
  h b Hf0 H0 Hf H δ σ _ _ rp hq fun dvs vs Hf1 H1 h s1 w1 r1 => by
    show spD K S (vs ++ []) H1 Q' E
    rw [List.append_nil]
    exact ⟨b, Hf1, dvs, w1, r1, h.1, hm _ _ _ (fun dv hQ v Hf' H' s' w' r' => k dv v Hf' H' hQ (s1.trans w' s') w' r') h.2⟩
/-! ### statements -/
def dNext : DTs := fun E δ => E.nx δ
def dSeq (t u : DTs) : DTs := fun E δ => t { E with nx := u E } δ
variable {ts ts1 ts2 : TS} {s s1 s2 : DTs}
theorem EndsOk.next {b : Option Addr} {Hf0 H0 : Hp} {E : DEnds} {E' : Ends} (o : EndsOk b K Hf0 H0 E E') {f : Sl → Prop} {f' : L2.St → Hp → Prop} (h : ∀ δ σ Hf H, f δ → Rep b K Hf0 H0 Hf H δ σ → f' σ H) : EndsOk b K Hf0 H0 { E with nx := f } { E' with nx := f' } :=
  ⟨h, o.rt, o.bk, o.ct⟩
theorem ent_seq (h1 : EntS K ts1 s1) (h2 : EntS K ts2 s2) : EntS K (tSeq ts1 ts2) (dSeq s1 s2) := fun b Hf0 H0 Hf H δ σ E E' r hq o =>
  h1 b Hf0 H0 Hf H δ σ _ _ r hq (o.next fun δ2 σ2 Hf2 H2 h2' r2 => h2 b Hf0 H0 Hf2 H2 δ2 σ2 E E' r2 h2' o)
theorem ds_nil : DSs X [] tNext dNext := ⟨pss_nil, fun b Hf0 H0 Hf H δ σ E E' r hq o => o.nx δ σ Hf H hq r⟩
theorem ds_cons {st : Stmt} {rest : List Stmt} (h1 : DS X st ts1 s1) (h2 : DSs X rest ts2 s2) : DSs X (st :: rest) (tSeq ts1 ts2) (dSeq s1 s2) := ⟨pss_cons h1.ps h2.pss, ent_seq h1.en h2.en⟩
theorem ds_last {st : Stmt} (h1 : DS X st ts1 s1) : DSs X [st] ts1 s1 := ⟨pss_one h1.ps, h1.en⟩
def dRet (t : DT) : DTs := fun E δ => t δ E.rt
theorem ent_ret (h : Ent K te t) : EntS K (tRet te) (dRet t) := fun b Hf0 H0 Hf H δ σ E E' r hq o =>
  h b Hf0 H0 Hf H δ σ _ _ r hq fun dv v Hf1 H1 hr s1 w1 r1 => o.rt dv v Hf1 H1 hr (r.st.trans w1 s1) w1 r1
theorem ds_ret {e : Expr} {pos : Pos} (h : DE X e te t) : DS X (.Return (some e) pos) (tRet te) (dRet t) := ⟨ps_ret h.pe, ent_ret h.en⟩
def dIfS (c : DTt) (t u : DTs) : DTs := fun E δ => c δ fun k => if k = true then t E δ else u E δ
theorem ent_ifS (h : EntT K tt q) (h1 : EntS K ts1 s1) (h2 : EntS K ts2 s2) : EntS K (tIfS tt ts1 ts2) (dIfS q s1 s2) := fun b Hf0 H0 Hf H δ σ E E' r hq o =>
  h b Hf0 H0 Hf H δ σ _ _ r hq fun c Hf1 H1 hr st1 w1 => by
    cases c with
    | true => exact h1 b Hf0 H0 Hf1 H1 δ σ E E' (r.move st1 w1) hr o
    | false => exact h2 b Hf0 H0 Hf1 H1 δ σ E E' (r.move st1 w1) hr o
theorem ds_if {c : Expr} {a e : List Stmt} {pos : Pos} (h : DQ X c tt q) (h1 : DSs X a ts1 s1) (h2 : DSs X e ts2 s2) : DS X (.If c a e pos) (tIfS tt ts1 ts2) (dIfS q s1 s2) := ⟨ps_if h.pt h1.pss h2.pss, ent_ifS h.en h1.en h2.en⟩
/-- targets -/
abbrev DG := D → Sl → (Sl → Prop) → Prop
/-- the things of one's own among the slots were there -/
def OwnSub (δ' : Sl) (σ' : L2.St) (δ : Sl) (σ : L2.St) : Prop := ∀ (j : Nat) (dv : DV) (p : Addr), δ'[j]? = some (some dv) → isOwn dv = true → σ'[j]? = some (some (.ref p)) → ∃ (j' : Nat) (dv' : DV), δ[j']? = some (some dv') ∧ isOwn dv' = true ∧ σ[j']? = some (some (.ref p))
theorem OwnSub.refl (δ : Sl) (σ : L2.St) : OwnSub δ σ δ σ := fun j dv _ e o s => ⟨j, dv, e, o, s⟩
theorem OwnSub.trans {δ δ1 δ2 : Sl} {σ σ1 σ2 : L2.St} (a : OwnSub δ2 σ2 δ1 σ1) (c : OwnSub δ1 σ1 δ σ) : OwnSub δ2 σ2 δ σ := fun j dv p e o s => by
  obtain ⟨j', dv', e', o', s'⟩ := a j dv p e o s
  exact c j' dv' p e' o' s'
theorem OwnSub.set {δ : Sl} {σ : L2.St} {i : Nat} {x : Option DV} {v : Option V} (hx : ∀ y, x = some y → isOwn y = false) (hl : δ.length = σ.length) : OwnSub (δ.set i x) (σ.set i v) δ σ := fun j dv p e o s => by
  by_cases hj : i = j
  · subst hj
    by_cases h : i < δ.length
    · rw [List.getElem?_set_self h] at e
      cases e
      rw [hx dv rfl] at o; cases o
    · rw [List.getElem?_eq_none (by rw [List.length_set]; omega)] at e; cases e
  · rw [List.getElem?_set_ne hj] at e s
    exact ⟨j, dv, e, o, s⟩
def EntG (K : PySem.W.Frag) (g : TG) (d : DG) : Prop := ∀ (b : Option Addr) (Hf0 H0 Hf H : Hp) (δ : Sl) (σ : L2.St) (v : V) (x : D) (Q : Sl → Prop) (Q' : L2.St → Hp → Prop), Rep b K Hf0 H0 Hf H δ σ → Da K Hf v x → d x δ Q → (∀ δ' σ', Q δ' → Rep b K Hf0 H0 Hf H δ' σ' → OwnSub δ' σ' δ σ → Q' σ' H) → g v σ H Q'
def gN (i : Nat) : DG := fun x δ Q => Q (δ.set i (some (.d x)))
theorem ent_gN {i : Nat} : EntG K (gName i) (gN i) := fun b Hf0 H0 Hf H δ σ v x Q Q' r h hq k => k _ _ hq (r.setD h) (OwnSub.set (fun y e => by cases e; rfl) r.len)
def dAsg (t : DT) (g : DG) : DTs := fun E δ => t δ fun dv => ∃ x, dv = .d x ∧ g x δ E.nx
theorem ent_asg {g : TG} {d : DG} (h : Ent K te t) (hg : EntG K g d) : EntS K (tAsg te g) (dAsg t d) := fun b Hf0 H0 Hf H δ σ E E' r hq o =>
  h b Hf0 H0 Hf H δ σ _ _ r hq fun dv v Hf1 H1 hr s1 w1 r1 => by
    obtain ⟨x, rfl, hr⟩ := hr
    exact hg b Hf0 H0 Hf1 H1 δ σ v x _ _ (r.move s1 w1) r1 hr fun δ' σ' h' r' _ => o.nx δ' σ' Hf1 H1 h' r'
theorem ds_set {i : Nat} {x : Str} {e : Expr} {pos pos' : Pos} (hN : X.N.Nodup) (hi : X.N[i]? = some x) (hx : Loc X.env.scope x) (h : DE X e te t) (hs : swapsWith e (some (.Name x pos')) pos.line X.env = pure false := by rfl) (hf : X.fn x = true ∨ X.env.scope.names.lookup x = some .local := by first | exact .inl rfl | exact .inr rfl | assumption) :
    DS X (.Assign [.Name x pos'] e pos) (tAsg te (gName i)) (dAsg t (gN i)) := ⟨ps_set hN hi hx h.pe hs hf, ent_asg h.en ent_gN⟩
/-- a, b = e1, e2 -/
def dPar (i j : Nat) (u : DTa) : DTs := fun E δ => u δ fun dvs => ∃ x y, dvs = [.d x, .d y] ∧ E.nx ((δ.set i (some (.d x))).set j (some (.d y)))
theorem ent_par {i j : Nat} {ta : TA} {u : DTa} (h : EntA K ta u) : EntS K (tPar i j ta) (dPar i j u) := fun b Hf0 H0 Hf H δ σ E E' r hq o =>
  h b Hf0 H0 Hf H δ σ _ _ r hq fun dvs vs Hf1 H1 hr s1 w1 r1 => by
    obtain ⟨x, y, rfl, hr⟩ := hr
    match vs, r1 with
    | [v, w], ⟨h1, h2, _⟩ => exact ⟨v, w, rfl, o.nx _ _ Hf1 H1 hr (((r.move s1 w1).setD h1).setD h2)⟩
theorem ds_par {i j : Nat} {x y : Str} {a c : Expr} {ta : TA} {u : DTa} {px py pt pos : Pos} {kt k2 pt2} (hc : X.calm = true) (hN : X.N.Nodup) (hi : X.N[i]? = some x) (hj : X.N[j]? = some y) (hij : i ≠ j)
    (hx : X.env.scope.names.lookup x = some .local) (hy : X.env.scope.names.lookup y = some .local) (h : DA X [a, c] ta u)
    (hw : swappedStores [.Tuple [.Name x px, .Name y py] kt pt] (.Tuple [a, c] k2 pt2) X.env = pure (some [x, y]) := by rfl)
    (hs : swapsWithSole [.Tuple [.Name x px, .Name y py] kt pt] (.Tuple [a, c] k2 pt2) pos.line X.env = pure false := by rfl) :
    DS X (.Assign [.Tuple [.Name x px, .Name y py] kt pt] (.Tuple [a, c] k2 pt2) pos) (tPar i j ta) (dPar i j u) := ⟨ps_par hc hN hi hj hij hx hy h.pa hw hs, ent_par h.en⟩
/-- an expression alone -/
def dDrop (t : DT) : DTs := fun E δ => t δ fun _ => E.nx δ
theorem ent_drop (h : Ent K te t) : EntS K (tDrop te) (dDrop t) := fun b Hf0 H0 Hf H δ σ E E' r hq o =>
  h b Hf0 H0 Hf H δ σ _ _ r hq fun dv v Hf1 H1 hr s1 w1 r1 => o.nx δ σ Hf1 H1 hr (r.move s1 w1)
end
end DL
/-! The data layer, part 3: operators, subscripts, built-ins by trees. -/
namespace DL
open PySem PySem.Spec L2

/-! ### trees as the library's data -/
def keyPy : Key → PyData
  | .inl i => .int i
  | .inr x => .str x
def keyD : Key → D
  | .inl i => .int i
  | .inr x => .str x
mutual
def py : D → PyData
  | .non => .none
  | .bl b => .bool b
  | .int i => .int i
  | .str x => .str x
  | .list xs => .list (pyAll xs)
  | .tup xs => .tuple (pyAll xs)
  | .dict kvs => .dict (pyKv kvs)
  | .obj _ _ => .none
def pyAll : List D → List PyData
  | [] => []
  | x :: xs => py x :: pyAll xs
def pyKv : List (Key × D) → List (PyData × PyData)
  | [] => []
  | (k, v) :: r => (keyPy k, py v) :: pyKv r
end
theorem pyAll_map : ∀ xs : List D, pyAll xs = xs.map py
  | [] => rfl
  | x :: xs => by show py x :: pyAll xs = _; rw [pyAll_map xs]; rfl
mutual
/-- neither dicts nor objects in it -/
def plain : D → Bool
  | .non => true
  | .bl _ => true
  | .int _ => true
  | .str _ => true
  | .list xs => plainAll xs
  | .tup xs => plainAll xs
  | .dict _ => false
  | .obj _ _ => false
def plainAll : List D → Bool
  | [] => true
  | x :: xs => plain x && plainAll xs
end
mutual
/-- no objects in it -/
def noObj : D → Bool
  | .non => true
  | .bl _ => true
  | .int _ => true
  | .str _ => true
  | .list xs => noObjAll xs
  | .tup xs => noObjAll xs
  | .dict kvs => noObjKv kvs
  | .obj _ _ => false
def noObjAll : List D → Bool
  | [] => true
  | x :: xs => noObj x && noObjAll xs
def noObjKv : List (Key × D) → Bool
  | [] => true
  | (_, v) :: r => noObj v && noObjKv r
end
mutual
theorem Da.dp {K : PySem.W.Frag} {H : Hp} : ∀ {v : V} {d : D}, Da K H v d → plain d = true → Dp K H v (py d)
  | _, _, .non, _ => .non
  | _, _, .bl b, _ => .bl b
  | _, _, .int i, _ => .int i
  | _, _, .str x, _ => .str x
  | _, _, .list h z a, p => .lst (SqL.of h) (DaAll.dp a p)
  | _, _, .tup h z a, p => .tup h (DaAll.dp a p)
  | _, _, .dict _ _ _, p => by cases p
  | _, _, .obj _ _ _, p => by cases p
theorem DaAll.dp {K : PySem.W.Frag} {H : Hp} : ∀ {v : List V} {d : List D}, DaAll K H v d → plainAll d = true → DpAll K H v (pyAll d)
  | _, _, .nil, _ => .nil
  | _, _, .cons h t, p => by
    have p' : (plain _ && plainAll _) = true := p
    obtain ⟨p1, p2⟩ := Bool.and_eq_true_iff.mp p'
    exact .cons (Da.dp h p1) (DaAll.dp t p2)
end
/-- may be compared -/
def shp (d : D) : Bool := plain d && SeqAt.shaped (py d)
/-- == of trees -/
def eqD (a c : D) : Bool := PyData.eqv (py a) (py c)

section
variable {X : Cx} {K : PySem.W.Frag}
/-! ### operators -/
def rdI0 (f : Int → Int → D) : R2D := fun a c Q => ∃ i j, a = .int i ∧ c = .int j ∧ Q (.d (f i j))
def rdI (C : Int → Int → Prop) (f : Int → Int → D) : R2D := fun a c Q => ∃ i j, a = .int i ∧ c = .int j ∧ C i j ∧ Q (.d (f i j))
theorem entr_I0 {g : Int → Int → V} {f : Int → Int → D} (h : ∀ i j Hf, Da K Hf (g i j) (f i j)) : EntR K (rI0 g) (rdI0 f) := fun b Hf H x y a c Q Q' w hx hy hq k => by
  obtain ⟨i, j, rfl, rfl, hq⟩ := hq
  cases hx; cases hy
  exact ⟨i, j, rfl, rfl, k _ _ Hf H hq (Step.refl _ _ _) w (h i j Hf)⟩
theorem entr_I {C : Int → Int → Prop} {g : Int → Int → V} {f : Int → Int → D} (h : ∀ i j Hf, Da K Hf (g i j) (f i j)) : EntR K (rI C g) (rdI C f) := fun b Hf H x y a c Q Q' w hx hy hq k => by
  obtain ⟨i, j, rfl, rfl, hc, hq⟩ := hq
  cases hx; cases hy
  exact ⟨i, j, rfl, rfl, hc, k _ _ Hf H hq (Step.refl _ _ _) w (h i j Hf)⟩
abbrev rdAdd : R2D := rdI0 fun i j => .int (i + j)
abbrev rdSub : R2D := rdI0 fun i j => .int (i - j)
abbrev rdMul : R2D := rdI CMul fun i j => .int (i * j)
abbrev rdMod : R2D := rdI (fun _ j => 0 < j) fun i j => .int (i % j)
abbrev rdLt : R2D := rdI0 fun i j => .bl (decide (i < j))
abbrev rdLe : R2D := rdI0 fun i j => .bl (decide (i ≤ j))
abbrev rdGt : R2D := rdI0 fun i j => .bl (decide (j < i))
abbrev rdGe : R2D := rdI0 fun i j => .bl (decide (j ≤ i))
theorem en_add : EntR K (rI0 fun i j => .int (i + j)) rdAdd := entr_I0 fun _ _ _ => .int _
theorem en_sub : EntR K (rI0 fun i j => .int (i - j)) rdSub := entr_I0 fun _ _ _ => .int _
theorem en_mul : EntR K (rI CMul fun i j => .int (i * j)) rdMul := entr_I fun _ _ _ => .int _
theorem en_mod : EntR K (rI (fun _ j => 0 < j) fun i j => .int (i % j)) rdMod := entr_I fun _ _ _ => .int _
theorem en_lt : EntR K (rI0 fun i j => .bl (decide (i < j))) rdLt := entr_I0 fun _ _ _ => .bl _
theorem en_le : EntR K (rI0 fun i j => .bl (decide (i ≤ j))) rdLe := entr_I0 fun _ _ _ => .bl _
theorem en_gt : EntR K (rI0 fun i j => .bl (decide (j < i))) rdGt := entr_I0 fun _ _ _ => .bl _
theorem en_ge : EntR K (rI0 fun i j => .bl (decide (j ≤ i))) rdGe := entr_I0 fun _ _ _ => .bl _
/-- texts -/
def rdAddS : R2D := fun a c Q => ∃ x y, a = .str x ∧ c = .str y ∧ x.length + y.length ≤ sizeLine ∧ Q (.d (.str (x ++ y)))
theorem en_addS : EntR K (fun x y H Q => ∃ i j, x = .str i ∧ y = .str j ∧ i.length + j.length ≤ sizeLine ∧ Q (.str (i ++ j)) H) rdAddS := fun b Hf H x y a c Q Q' w hx hy hq k => by
  obtain ⟨i, j, rfl, rfl, hz, hq⟩ := hq
  cases hx; cases hy
  exact ⟨i, j, rfl, rfl, hz, k _ _ Hf H hq (Step.refl _ _ _) w (.str _)⟩
/-- == and != -/
def rdEq : R2D := fun a c Q => shp a = true ∧ shp c = true ∧ Q (.d (.bl (eqD a c)))
def rdNe : R2D := fun a c Q => shp a = true ∧ shp c = true ∧ Q (.d (.bl (!eqD a c)))
theorem en_eq : EntR K (rEqD K) rdEq := fun b Hf H x y a c Q Q' w hx hy hq k => by
  obtain ⟨s1, s2, hq⟩ := hq
  obtain ⟨p1, q1⟩ := Bool.and_eq_true_iff.mp s1
  obtain ⟨p2, q2⟩ := Bool.and_eq_true_iff.mp s2
  exact ⟨_, _, (hx.mono w.sub).dp p1, (hy.mono w.sub).dp p2, q1, q2, k _ _ Hf H hq (Step.refl _ _ _) w (.bl _)⟩
theorem en_ne : EntR K (rNeD K) rdNe := fun b Hf H x y a c Q Q' w hx hy hq k => by
  obtain ⟨s1, s2, hq⟩ := hq
  obtain ⟨p1, q1⟩ := Bool.and_eq_true_iff.mp s1
  obtain ⟨p2, q2⟩ := Bool.and_eq_true_iff.mp s2
  exact ⟨_, _, (hx.mono w.sub).dp p1, (hy.mono w.sub).dp p2, q1, q2, k _ _ Hf H hq (Step.refl _ _ _) w (.bl _)⟩
/-- texts, ints, bools, None alone: no room is asked -/
def flat : D → Bool
  | .non => true
  | .bl _ => true
  | .int _ => true
  | .str _ => true
  | _ => false
/-- in, not in: a list; a tuple of texts, ints .. -/
def flatAll (xs : List D) : Bool := xs.all flat
def toV : D → V
  | .bl b => .bl b
  | .int i => .int i
  | .str x => .str x
  | _ => .non
theorem Da.flatV {Hf : Hp} {v : V} {d : D} (h : Da K Hf v d) (f : flat d = true) : v = toV d := by
  cases h <;> first | rfl | cases f
theorem DaAll.flatV {Hf : Hp} : ∀ {v : List V} {d : List D}, DaAll K Hf v d → flatAll d = true → v = d.map toV
  | _, _, .nil, _ => rfl
  | _, _, .cons h t, f => by
    have f' : (flat _ && flatAll _) = true := f
    obtain ⟨f1, f2⟩ := Bool.and_eq_true_iff.mp f'
    rw [h.flatV f1, DaAll.flatV t f2]; rfl
theorem flat_toV : ∀ d : D, L2.flatV (toV d) = true := fun d => by cases d <;> rfl
theorem all_toV : ∀ ds : List D, (ds.map toV).all L2.flatV = true
  | [] => rfl
  | d :: ds => by rw [List.map_cons, List.all_cons, flat_toV, all_toV ds]; rfl
/-- the items of a list or a tuple -/
def seqOf : D → Option (List D)
  | .list xs => some xs
  | .tup xs => some xs
  | _ => none
theorem Da.seq {Hf : Hp} {v : V} {d : D} {ds : List D} (h : Da K Hf v d) (e : seqOf d = some ds) : ∃ p xs, v = .ref p ∧ (SqL K Hf p xs ∨ SqT K Hf p xs) ∧ xs.length ≤ sizeLine ∧ DaAll K Hf xs ds := by
  cases h with
  | list h z a => cases e; exact ⟨_, _, rfl, .inl (SqL.of h), z, a⟩
  | tup h z a => cases e; exact ⟨_, _, rfl, .inr h, z, a⟩
  | non => cases e
  | bl => cases e
  | int => cases e
  | str => cases e
  | dict => cases e
  | obj => cases e
def inF (x : D) (xs : List D) : Bool := L2.inV (toV x) (xs.map toV)
def rdInF (neg : Bool) : R2D := fun a c Q => ∃ ds, seqOf c = some ds ∧ flat a = true ∧ flatAll ds = true ∧ Q (.d (.bl (if neg then !inF a ds else inF a ds)))
theorem en_inF {neg : Bool} : EntR K (rIn K neg) (rdInF neg) := fun b Hf H x y a c Q Q' w hx hy hq k => by
  obtain ⟨ds, e, f1, f2, hq⟩ := hq
  obtain ⟨p, xs, rfl, hs, z, ha⟩ := Da.seq (hy.mono w.sub) e
  have e1 := hx.flatV f1
  have e2 := ha.flatV f2
  subst e1 e2
  exact ⟨p, _, rfl, hs, flat_toV a, all_toV ds, k _ _ Hf H hq (Step.refl _ _ _) w (.bl _)⟩
def rdInL (neg : Bool) : R2D := fun a c Q => ∃ ds, c = .list ds ∧ shp a = true ∧ shp c = true ∧ Q (.d (.bl (if neg then !ds.any (fun y => eqD y a) else ds.any fun y => eqD y a)))
theorem any_py (a : D) : ∀ ds : List D, (pyAll ds).any (fun z => PyData.eqv z (py a)) = ds.any fun y => eqD y a
  | [] => rfl
  | d :: ds => by show (eqD d a || (pyAll ds).any (fun z => PyData.eqv z (py a))) = (eqD d a || ds.any fun y => eqD y a); rw [any_py a ds]
theorem en_inL : EntR K (rInD K) (rdInL false) := fun b Hf H x y a c Q Q' w hx hy hq k => by
  obtain ⟨ds, rfl, s1, s2, hq⟩ := hq
  obtain ⟨p1, q1⟩ := Bool.and_eq_true_iff.mp s1
  obtain ⟨p2, q2⟩ := Bool.and_eq_true_iff.mp s2
  refine ⟨_, _, (hx.mono w.sub).dp p1, (hy.mono w.sub).dp p2, q1, q2, k _ _ Hf H hq (Step.refl _ _ _) w ?_⟩
  rw [any_py]
  exact .bl _
theorem en_notInL : EntR K (rNotInD K) (rdInL true) := fun b Hf H x y a c Q Q' w hx hy hq k => by
  obtain ⟨ds, rfl, s1, s2, hq⟩ := hq
  obtain ⟨p1, q1⟩ := Bool.and_eq_true_iff.mp s1
  obtain ⟨p2, q2⟩ := Bool.and_eq_true_iff.mp s2
  refine ⟨_, _, (hx.mono w.sub).dp p1, (hy.mono w.sub).dp p2, q1, q2, k _ _ Hf H hq (Step.refl _ _ _) w ?_⟩
  rw [any_py]
  exact .bl _
/-- + of tuples, of lists -/
def rdCatT : R2D := fun a c Q => ∃ xs ys, a = .tup xs ∧ c = .tup ys ∧ xs.length + ys.length ≤ sizeLine ∧ Q (.d (.tup (xs ++ ys)))
theorem en_catT : EntR K (rCatA K) rdCatT := fun b Hf H x y a c Q Q' w hx hy hq k => by
  obtain ⟨xs, ys, rfl, rfl, hz, hq⟩ := hq
  cases hx with
  | tup h1 z1 a1 =>
    cases hy with
    | tup h2 z2 a2 =>
      have e1 := a1.length
      have e2 := a2.length
      refine ⟨_, _, _, _, rfl, rfl, w.sub.seqT h1, w.sub.seqT h2, by omega, fun e => ?_, fun n e => ?_, fun n1 n2 p hp => ?_⟩
      · subst e
        cases a1
        exact k _ _ Hf H hq (Step.refl _ _ _) w (.tup h2 z2 a2)
      · subst e
        cases a2
        rw [List.append_nil] at hq
        exact k _ _ Hf H hq (Step.refl _ _ _) w (.tup h1 z1 a1)
      · obtain ⟨s2, w2⟩ := Step.laid w hp
        exact k _ _ _ _ hq s2 w2 (.tup (.inl (.inl upd_same)) (by rw [List.length_append]; omega) ((a1.append a2).mono s2.sub))
def rdCatL : R2D := fun a c Q => ∃ xs ys, a = .list xs ∧ c = .list ys ∧ xs.length + ys.length ≤ sizeLine ∧ Q (.d (.list (xs ++ ys)))
theorem en_catL : EntR K rCat rdCatL := fun b Hf H x y a c Q Q' w hx hy hq k => by
  obtain ⟨xs, ys, rfl, rfl, hz, hq⟩ := hq
  cases hx with
  | list h1 z1 a1 =>
    cases hy with
    | list h2 z2 a2 =>
      have e1 := a1.length
      have e2 := a2.length
      refine ⟨_, _, _, _, rfl, rfl, w.sub _ _ h1, w.sub _ _ h2, by omega, fun p hp => ?_⟩
      obtain ⟨s2, w2⟩ := Step.laid w hp
      exact k _ _ _ _ hq s2 w2 (.list upd_same (by rw [List.length_append]; omega) ((a1.append a2).mono s2.sub))
/-! ### subscripts -/
def atD : D → Int → Option D
  | .list xs, i => atI xs i
  | .tup xs, i => atI xs i
  | .str z, i => if z.length ≤ sizeLine then (atI z.cps.toList i).map fun c => .str ⟨#[c]⟩ else none
  | _, _ => none
theorem DaAll.atI {Hf : Hp} {xs : List V} {ds : List D} {i : Int} {d : D} (h : DaAll K Hf xs ds) (e : L2.atI ds i = some d) : ∃ v, L2.atI xs i = some v ∧ Da K Hf v d := by
  unfold L2.atI at *
  rw [h.length]
  cases q : ixN ds.length i with
  | none => rw [q] at e; cases e
  | some j =>
    rw [q] at e
    exact h.getD j e
def rdIx : R2D := fun a c Q => ∃ i d, c = .int i ∧ atD a i = some d ∧ Q (.d d)
theorem en_ix : EntR K (rIx K) rdIx := fun b Hf H x y a c Q Q' w hx hy hq k => by
  obtain ⟨i, d, rfl, e, hq⟩ := hq
  cases hy
  cases hx with
  | list h z al =>
    obtain ⟨v, e1, hv⟩ := al.atI e
    exact .inl ⟨_, _, i, v, rfl, rfl, SqL.of (w.sub _ _ h), e1, k _ _ Hf H hq (Step.refl _ _ _) w hv⟩
  | tup h z al =>
    obtain ⟨v, e1, hv⟩ := al.atI e
    exact .inr (.inl ⟨_, _, i, v, rfl, rfl, w.sub.seqT h, e1, k _ _ Hf H hq (Step.refl _ _ _) w hv⟩)
  | str x =>
    have e : (if x.length ≤ sizeLine then (L2.atI x.cps.toList i).map (fun c => D.str ⟨#[c]⟩) else none) = some d := e
    by_cases hz : x.length ≤ sizeLine
    · rw [if_pos hz] at e
      cases q : atI x.cps.toList i with
      | none => rw [q] at e; cases e
      | some c =>
        rw [q] at e
        cases e
        exact .inr (.inr ⟨x, i, c, rfl, rfl, hz, q, k _ _ Hf H hq (Step.refl _ _ _) w (.str _)⟩)
    · rw [if_neg hz] at e; cases e
  | non => cases e
  | bl => cases e
  | int => cases e
  | dict => cases e
  | obj => cases e
theorem de_ix {a c : Expr} {ta tb : TE} {t u : DT} {pos : Pos} (h1 : DE X a ta t) (h2 : DE X c tb u) (hs : PlainIx c := by exact fun _ _ => rfl) : DE X (.Subscript a c pos) (tOp (rIx X.K) ta tb) (dOp rdIx t u) :=
  ⟨pe_ix ix_seq h1.pe h2.pe hs, ent_op en_ix h1.en h2.en⟩
/-! slices -/
abbrev DTo := Sl → (Option Int → Prop) → Prop
def EntO (K : PySem.W.Frag) (to : TO) (t : DTo) : Prop := ∀ (b : Option Addr) (Hf0 H0 Hf H : Hp) (δ : Sl) (σ : L2.St) (Q : Option Int → Prop) (Q' : Option Int → Hp → Prop), Rep b K Hf0 H0 Hf H δ σ → t δ Q → (∀ c Hf' H', Q c → Step b Hf H Hf' H' → Wd b Hf' H' → Q' c H') → to σ H Q'
structure DO (X : Cx) (e : Option Expr) (to : TO) (t : DTo) : Prop where
  po : PO X e to
  en : EntO X.K to t
def dNoPart : DTo := fun _ Q => Q none
def dPart (t : DT) : DTo := fun δ Q => t δ fun x => ∃ i, x = .d (.int i) ∧ Q (some i)
theorem do_none : DO X none tNoPart dNoPart := ⟨po_none, fun b Hf0 H0 Hf H δ σ Q Q' r hq k => k _ Hf H hq (Step.refl _ _ _) r.wd⟩
theorem do_some {e : Expr} {te : TE} {t : DT} (h : DE X e te t) : DO X (some e) (tPart te) (dPart t) := ⟨po_some h.pe, fun b Hf0 H0 Hf H δ σ Q Q' r hq k =>
  h.en b Hf0 H0 Hf H δ σ _ _ r hq fun dv v Hf1 H1 hr s1 w1 r1 => by
    obtain ⟨i, rfl, hr⟩ := hr
    cases r1
    exact ⟨i, rfl, k _ Hf1 H1 hr s1 w1⟩⟩
abbrev RSlD := D → Option Int → Option Int → (DV → Prop) → Prop
def EntSl (K : PySem.W.Frag) (r : V → Option Int → Option Int → Hp → VK → Prop) (rd : RSlD) : Prop := ∀ (b : Option Addr) (Hf H : Hp) (x : V) (a : D) (lo hi : Option Int) (Q : DV → Prop) (Q' : VK), Wd b Hf H → Da K Hf x a → rd a lo hi Q → LiftE b K Hf H Q Q' → r x lo hi H Q'
def dSl (rd : RSlD) (t : DT) (lo hi : DTo) : DT := fun δ Q => t δ fun x => lo δ fun l => hi δ fun u => ∃ a, x = .d a ∧ rd a l u Q
theorem de_slice {r : V → Option Int → Option Int → Hp → VK → Prop} {rd : RSlD} {e : Expr} {te : TE} {t : DT} {lo hi : Option Expr} {tl th : TO} {dl dh : DTo} {p2 pos : Pos} (hr : SlR X r) (he : EntSl X.K r rd) (h : DE X e te t) (hl : DO X lo tl dl) (hh : DO X hi th dh) :
    DE X (.Subscript e (.Slice lo hi none p2) pos) (tSl r te tl th) (dSl rd t dl dh) := ⟨pe_slice hr h.pe hl.po hh.po, fun b Hf0 H0 Hf H δ σ Q Q' rp hq k =>
  h.en b Hf0 H0 Hf H δ σ _ _ rp hq fun dv v Hf1 H1 h1 s1 w1 r1 =>
    hl.en b Hf0 H0 Hf1 H1 δ σ _ _ (rp.move s1 w1) h1 fun l Hf2 H2 h2 s2 w2 =>
      hh.en b Hf0 H0 Hf2 H2 δ σ _ _ ((rp.move s1 w1).move s2 w2) h2 fun u Hf3 H3 h3 s3 w3 => by
        obtain ⟨a, rfl, hq⟩ := h3
        exact he b Hf3 H3 v a l u Q Q' w3 (Da.mono s3.sub (Da.mono s2.sub r1)) hq fun dv4 v4 Hf4 H4 h4 s4 w4 r4 => k dv4 v4 Hf4 H4 h4 (((s1.trans w2 s2).trans w3 s3).trans w4 s4) w4 r4⟩
def cutD (xs : List D) (lo hi : Option Int) : List D := (xs.drop (HT.sIx xs.length 0 lo)).take (HT.sIx xs.length xs.length hi - HT.sIx xs.length 0 lo)
theorem DaAll.cut {Hf : Hp} {xs : List V} {ds : List D} (h : DaAll K Hf xs ds) (lo hi : Option Int) : DaAll K Hf (cutV xs lo hi) (cutD ds lo hi) := by
  unfold cutV cutD
  rw [h.length]
  exact (h.drop _).take _
theorem cutV_len (xs : List V) (lo hi : Option Int) : (cutV xs lo hi).length ≤ xs.length := by
  unfold cutV
  rw [List.length_take, List.length_drop]
  omega
def rdSlL : RSlD := fun a lo hi Q => ∃ xs, a = .list xs ∧ Q (.d (.list (cutD xs lo hi)))
theorem en_slL : EntSl K (rSlL K) rdSlL := fun b Hf H x a lo hi Q Q' w hx hq k => by
  obtain ⟨xs, rfl, hq⟩ := hq
  cases hx with
  | list h z al =>
    refine ⟨_, _, rfl, SqL.of (w.sub _ _ h), fun p hp => ?_⟩
    obtain ⟨s2, w2⟩ := Step.laid w hp
    exact k _ _ _ _ hq s2 w2 (.list upd_same (Nat.le_trans (cutV_len _ _ _) z) ((al.cut lo hi).mono s2.sub))
def rdSlS : RSlD := fun a lo hi Q => ∃ z, a = .str z ∧ z.length ≤ sizeLine ∧ Q (.d (.str (cutS z lo hi)))
theorem en_slS : EntSl K rSlS rdSlS := fun b Hf H x a lo hi Q Q' w hx hq k => by
  obtain ⟨z, rfl, hz, hq⟩ := hq
  cases hx
  exact ⟨z, rfl, hz, k _ _ Hf H hq (Step.refl _ _ _) w (.str _)⟩
/-! ### built-ins -/
theorem de_callB {x : Str} {id : String} {r : List V → Hp → VK → Prop} {rd : RCD} {e : Expr} {es : List Expr} {ta : TA} {u : DTa} {p pos : Pos} (hc : CallR X (.builtin id) r) (hr : EntC X.K r rd) (hg : Gl X x) (hm : X.mg x = none) (hv : bootBuiltins x = some (.builtin id)) (ha : DA X (e :: es) ta u) (hn : x ≠ "__name__" := by decide) (hdb : (x == ("__debug__" : Str)) = false := by decide)
    (he : starEach (e :: es) X.env = (false, eval e X.env) :: starEach es X.env := by rfl) (hpl : (backTo pos (starEach es X.env)).any (·.1) = false := by rfl) : DE X (.Call (.Name x p) (e :: es) [] pos) (tCB r ta) (dCB rd u) :=
  ⟨pe_callB hc hg hm hv ha.pa hn hdb he hpl, ent_cb hr ha.en⟩
theorem de_callTy {x : Str} {T : String} {r : List V → Hp → VK → Prop} {rd : RCD} {e : Expr} {es : List Expr} {ta : TA} {u : DTa} {p pos : Pos} (hc : CallR X (.type T) r) (hr : EntC X.K r rd) (hg : Gl X x) (hm : X.mg x = none) (hv : bootBuiltins x = some (.type T)) (ha : DA X (e :: es) ta u) (hn : x ≠ "__name__" := by decide) (hdb : (x == ("__debug__" : Str)) = false := by decide)
    (he : starEach (e :: es) X.env = (false, eval e X.env) :: starEach es X.env := by rfl) (hpl : (backTo pos (starEach es X.env)).any (·.1) = false := by rfl) : DE X (.Call (.Name x p) (e :: es) [] pos) (tCB r ta) (dCB rd u) :=
  ⟨pe_callTy hc hg hm hv ha.pa hn hdb he hpl, ent_cb hr ha.en⟩
/-- of one argument -/
def rc1 (f : D → (DV → Prop) → Prop) : RCD := fun ds Q => ∃ a, ds = [.d a] ∧ f a Q
theorem entc1 {r : List V → Hp → VK → Prop} {f : D → (DV → Prop) → Prop} (h : ∀ (b : Option Addr) (Hf H : Hp) (v : V) (a : D) (Q : DV → Prop) (Q' : VK), Wd b Hf H → Da K Hf v a → f a Q → LiftE b K Hf H Q Q' → r [v] H Q') : EntC K r (rc1 f) := fun b Hf H vs ds Q Q' w hr hq k => by
  obtain ⟨a, rfl, hq⟩ := hq
  match vs, hr with
  | [v], ⟨h1, _⟩ => exact h b Hf H v a Q Q' w h1 hq k
def lenD : D → Option Nat
  | .str x => if x.length ≤ sizeLine then some x.length else none
  | .list xs => some xs.length
  | .tup xs => some xs.length
  | _ => none
def rcLen : RCD := rc1 fun a Q => ∃ n : Nat, lenD a = some n ∧ Q (.d (.int n))
theorem en_len : EntC K (fun xs H Q => ∃ x n, xs = [x] ∧ LenV K x H n ∧ Q (.int n) H) rcLen := entc1 fun b Hf H v a Q Q' w hv hq k => by
  obtain ⟨n, e, hq⟩ := hq
  refine ⟨v, n, rfl, ?_, k _ _ Hf H hq (Step.refl _ _ _) w (.int _)⟩
  cases hv with
  | list h z al => cases e; exact .inl ⟨_, SqL.of (w.sub _ _ h), al.length.symm⟩
  | tup h z al => cases e; exact .inr ⟨_, w.sub.seqT h, al.length.symm⟩
  | str x =>
    have e : (if x.length ≤ sizeLine then some x.length else none) = some n := e
    by_cases hz : x.length ≤ sizeLine
    · rw [if_pos hz] at e; cases e; exact ⟨hz, rfl⟩
    · rw [if_neg hz] at e; cases e
  | non => cases e
  | bl => cases e
  | int => cases e
  | dict => cases e
  | obj => cases e
def rcList : RCD := rc1 fun a Q => ∃ ds, seqOf a = some ds ∧ Q (.d (.list ds))
theorem en_list : EntC K (fun xs H Q => ∃ p ys, xs = [.ref p] ∧ (SqL K H p ys ∨ SqT K H p ys) ∧ ∀ l, H l = none → Q (.ref l) (upd H l (.lst ys))) rcList := entc1 fun b Hf H v a Q Q' w hv hq k => by
  obtain ⟨ds, e, hq⟩ := hq
  obtain ⟨p, xs, rfl, hs, z, al⟩ := hv.seq e
  refine ⟨p, xs, rfl, hs.imp w.sub.seqL w.sub.seqT, fun l hl => ?_⟩
  obtain ⟨s2, w2⟩ := Step.laid w hl
  exact k _ _ _ _ hq s2 w2 (.list upd_same z (al.mono s2.sub))
def rcTuple : RCD := rc1 fun a Q => ∃ ds, seqOf a = some ds ∧ Q (.d (.tup ds))
theorem en_tuple : EntC K (fun xs H Q => ∃ p ys, xs = [.ref p] ∧ ((SqL K H p ys ∧ ∀ l, H l = none → Q (.ref l) (upd H l (.tup ys))) ∨ (SqT K H p ys ∧ Q (.ref p) H))) rcTuple := entc1 fun b Hf H v a Q Q' w hv hq k => by
  obtain ⟨ds, e, hq⟩ := hq
  cases hv with
  | list h z al =>
    cases e
    refine ⟨_, _, rfl, .inl ⟨SqL.of (w.sub _ _ h), fun l hl => ?_⟩⟩
    obtain ⟨s2, w2⟩ := Step.laid w hl
    exact k _ _ _ _ hq s2 w2 (.tup (.inl (.inl upd_same)) z (al.mono s2.sub))
  | tup h z al =>
    cases e
    exact ⟨_, _, rfl, .inr ⟨w.sub.seqT h, k _ _ Hf H hq (Step.refl _ _ _) w (.tup h z al)⟩⟩
  | str => cases e
  | non => cases e
  | bl => cases e
  | int => cases e
  | dict => cases e
  | obj => cases e
def rcInt : RCD := rc1 fun a Q => ∃ i, a = .int i ∧ Q (.d (.int i))
theorem en_int : EntC K (fun xs H Q => (∃ i, xs = [.int i] ∧ Q (.int i) H) ∨ ∃ k, xs = [.bl k] ∧ Q (.int (if k then 1 else 0)) H) rcInt := entc1 fun b Hf H v a Q Q' w hv hq k => by
  obtain ⟨i, rfl, hq⟩ := hq
  cases hv
  exact .inl ⟨i, rfl, k _ _ Hf H hq (Step.refl _ _ _) w (.int _)⟩
def rcAll : RCD := rc1 fun a Q => ∃ bs : List Bool, a = .list (bs.map .bl) ∧ Q (.d (.bl (bs.all id)))
def rcAny : RCD := rc1 fun a Q => ∃ bs : List Bool, a = .list (bs.map .bl) ∧ Q (.d (.bl (bs.any id)))
theorem en_all : EntC K (rAll K) rcAll := entc1 fun b Hf H v a Q Q' w hv hq k => by
  obtain ⟨bs, rfl, hq⟩ := hq
  cases hv with
  | list h z al =>
    have e := DaAll.un_bls bs al
    subst e
    exact ⟨_, bs, rfl, SqL.of (w.sub _ _ h), k _ _ Hf H hq (Step.refl _ _ _) w (.bl _)⟩
theorem en_any : EntC K (rAny K) rcAny := entc1 fun b Hf H v a Q Q' w hv hq k => by
  obtain ⟨bs, rfl, hq⟩ := hq
  cases hv with
  | list h z al =>
    have e := DaAll.un_bls bs al
    subst e
    exact ⟨_, bs, rfl, SqL.of (w.sub _ _ h), k _ _ Hf H hq (Step.refl _ _ _) w (.bl _)⟩
/-- sorted of texts -/
def rcSortS : RCD := rc1 fun a Q => ∃ xs : List Str, a = .list (xs.map .str) ∧ xs.length < 64 ∧ ∀ ys : List Str, ys.Perm xs → PyProof.Rows.sortedS ys = true → Q (.d (.list (ys.map .str)))
theorem small64' {n : Nat} (h : n < 64) : n ≤ sizeLine := Nat.le_trans (Nat.le_of_lt h) (by decide)
theorem en_sortS : EntC K (rSortedS K) rcSortS := entc1 fun b Hf H v a Q Q' w hv hq k => by
  obtain ⟨xs, rfl, hl, hq⟩ := hq
  cases hv with
  | list h z al =>
    have e := DaAll.un_strs xs al
    subst e
    refine ⟨_, xs, rfl, SqL.of (w.sub _ _ h), hl, fun ys p hp hs hn => ?_⟩
    obtain ⟨s2, w2⟩ := Step.laid (o := .lst (ys.map V.str)) w hn
    exact k _ _ _ _ (hq ys hp hs) s2 w2 (.list upd_same (by rw [List.length_map, hp.length_eq]; exact small64' hl) (DaAll.strs ys))
/-! ### a def's call -/
theorem de_call {k : Nat} {f : Addr} {fd : FuncData} {ps : List Str} {S : RCD} {x : Str} {e : Expr} {es : List Expr} {ta : TA} {u : DTa} {p pos : Pos} (F : FnOk X.prog X.w X.K X.mg X.base CX0 k f fd ps (spD X.K S)) (hS : Mono S) (hr : Room k X.A) (hg : Gl X x) (hm : X.mg x = some (.ref f)) (hk : PySem.W.keepIn X.K (.ref f) = true) (hb : Binds X.K fd ps [])
    (ha : DA X (e :: es) ta u) (hdb : (x == ("__debug__" : Str)) = false := by decide) (he : starEach (e :: es) X.env = (false, eval e X.env) :: starEach es X.env := by rfl) (hpl : (backTo pos (starEach es X.env)).any (·.1) = false := by rfl) :
    DE X (.Call (.Name x p) (e :: es) [] pos) (tCall (spD X.K S) [] E0 ta) (dCall S u) := ⟨pe_call F hr hg hm hk hb .nil pass0 ha.pa hdb he hpl, ent_call hS ha.en⟩
end
end DL
/-! The data layer, part 4: loops, comprehensions, lists and dicts of one's own. -/
namespace DL
open PySem PySem.Spec L2

/-! ### another entry -/
theorem Step.back {b : Option Addr} {Hf0 H0 Hf1 H1 Hf H : Hp} (s : Step b Hf0 H0 Hf1 H1) (t : Step b Hf1 H0 Hf H) : Step b Hf0 H0 Hf H :=
  ⟨s.sub.trans t.sub, t.oth, fun a h0 h1 => t.new a (s.new a h0 h1) h1⟩
theorem Step.re {b : Option Addr} {Hf0 H0 Hf H : Hp} (s : Step b Hf0 H0 Hf H) : Step b Hf H0 Hf H := ⟨Sub.refl _, s.oth, fun a h0 _ => h0⟩
theorem Rep.re {b : Option Addr} {K : PySem.W.Frag} {Hf0 H0 Hf H : Hp} {δ : Sl} {σ : L2.St} (r : Rep b K Hf0 H0 Hf H δ σ) : Rep b K Hf H0 Hf H δ σ := ⟨r.wd, r.st.re, r.len, r.sl, r.fresh, r.dist⟩
theorem Rep.back {b : Option Addr} {K : PySem.W.Frag} {Hf0 H0 Hf1 H1 Hf H : Hp} {δ : Sl} {σ : L2.St} (s : Step b Hf0 H0 Hf1 H1) (r : Rep b K Hf1 H0 Hf H δ σ) : Rep b K Hf0 H0 Hf H δ σ := ⟨r.wd, s.back r.st, r.len, r.sl, r.fresh, r.dist⟩
theorem EndsOk.re {b : Option Addr} {K : PySem.W.Frag} {Hf0 H0 Hf1 H1 : Hp} {E : DEnds} {E' : Ends} (s : Step b Hf0 H0 Hf1 H1) (o : EndsOk b K Hf0 H0 E E') : EndsOk b K Hf1 H0 E E' :=
  ⟨fun δ σ Hf H h r => o.nx δ σ Hf H h (Rep.back s r), fun dv v Hf H h t w r => o.rt dv v Hf H h (s.back t) w r, fun δ σ Hf H h r => o.bk δ σ Hf H h (Rep.back s r), fun δ σ Hf H h r => o.ct δ σ Hf H h (Rep.back s r)⟩

/-! ### what is walked -/
abbrev DTi := Sl → (List D → Prop) → Prop
structure Walk (b : Option Addr) (K : PySem.W.Frag) (Hf1 : Hp) (J : It) (ds : List D) : Prop where
  go : ∀ (i : Nat) (Hf H : Hp), Sub Hf1 Hf → Wd b Hf H → i < ds.length → J.go i H
  yld : ∀ (i : Nat) (Hf H : Hp) (x : V) (H' : Hp), Sub Hf1 Hf → Wd b Hf H → i < ds.length → J.yld i H x H' → ∃ Hf' d, Step b Hf H Hf' H' ∧ Wd b Hf' H' ∧ ds[i]? = some d ∧ Da K Hf' x d
  stop : ∀ (Hf H : Hp), Sub Hf1 Hf → Wd b Hf H → J.stop ds.length H
  len : ds.length ≤ sizeLine
def EntI (K : PySem.W.Frag) (wi : TI) (t : DTi) : Prop := ∀ (b : Option Addr) (Hf0 H0 Hf H : Hp) (δ : Sl) (σ : L2.St) (Q : List D → Prop) (R : It → Hp → Prop), Rep b K Hf0 H0 Hf H δ σ → t δ Q →
  (∀ ds J Hf' H', Q ds → Step b Hf H Hf' H' → Wd b Hf' H' → Walk b K Hf' J ds → R J H') → wi σ H R
structure DI (X : Cx) (tg iter : Expr) (wi : TI) (t : DTi) : Prop where
  pi : PI X tg iter wi
  en : EntI X.K wi t
section
variable {X : Cx} {K : PySem.W.Frag} {te ta tb tc : TE} {t u w : DT} {tt tt1 tt2 : TT} {q q1 q2 : DTt}
def iL (t : DT) : DTi := fun δ Q => t δ fun x => ∃ ds, x = .d (.list ds) ∧ Q ds
def iT (t : DT) : DTi := fun δ Q => t δ fun x => ∃ ds, x = .d (.tup ds) ∧ Q ds
def iR (u : DTa) : DTi := fun δ Q => u δ fun x => ∃ n : Int, x = [.d (.int n)] ∧ 0 ≤ n ∧ n ≤ 16777216 ∧ Q ((List.range n.toNat).map fun (i : Nat) => .int i)
theorem walk_list {b : Option Addr} {Hf1 : Hp} {a : Addr} {xs : List V} {ds : List D} (h : Hf1 a = some (.lst xs)) (z : xs.length ≤ sizeLine) (al : DaAll K Hf1 xs ds) : Walk b K Hf1 (Itl K a) ds where
  go := fun i Hf H s w hi => by
    have hx : i < xs.length := by rw [al.length]; exact hi
    exact ⟨xs, xs[i], SqL.of (w.sub _ _ (s _ _ h)), List.getElem?_eq_getElem hx⟩
  yld := fun i Hf H x H' s w hi hy => by
    obtain ⟨rfl, hy⟩ := hy
    obtain ⟨d, e, hd⟩ := al.get i (hy xs (SqL.of (w.sub _ _ (s _ _ h))))
    exact ⟨Hf, d, Step.refl _ _ _, w, e, hd.mono s⟩
  stop := fun Hf H s w => ⟨xs, SqL.of (w.sub _ _ (s _ _ h)), by rw [al.length]; exact Nat.le_refl _⟩
  len := by rw [← al.length]; exact z
theorem walk_tup {b : Option Addr} {Hf1 : Hp} {a : Addr} {xs : List V} {ds : List D} (h : SqT K Hf1 a xs) (z : xs.length ≤ sizeLine) (al : DaAll K Hf1 xs ds) : Walk b K Hf1 (Itt K a) ds where
  go := fun i Hf H s w hi => by
    have hx : i < xs.length := by rw [al.length]; exact hi
    exact ⟨xs, xs[i], w.sub.seqT (s.seqT h), List.getElem?_eq_getElem hx⟩
  yld := fun i Hf H x H' s w hi hy => by
    obtain ⟨rfl, hy⟩ := hy
    obtain ⟨d, e, hd⟩ := al.get i (hy xs (w.sub.seqT (s.seqT h)))
    exact ⟨Hf, d, Step.refl _ _ _, w, e, hd.mono s⟩
  stop := fun Hf H s w => ⟨xs, w.sub.seqT (s.seqT h), by rw [al.length]; exact Nat.le_refl _⟩
  len := by rw [← al.length]; exact z
theorem walk_range {b : Option Addr} {Hf1 : Hp} {n : Nat} (hz : n ≤ sizeLine) : Walk b K Hf1 (Itr 0 n) ((List.range n).map fun (i : Nat) => .int i) where
  go := fun i Hf H s w hi => by rw [List.length_map, List.length_range] at hi; exact hi
  yld := fun i Hf H x H' s w hi hy => by
    obtain ⟨rfl, rfl⟩ := hy
    rw [List.length_map, List.length_range] at hi
    refine ⟨Hf, .int i, Step.refl _ _ _, w, ?_, ?_⟩
    · rw [List.getElem?_map, List.getElem?_range hi]; rfl
    · rw [Int.zero_add]; exact .int _
  stop := fun Hf H s w => by rw [List.length_map, List.length_range]; exact Nat.le_refl _
  len := by rw [List.length_map, List.length_range]; exact hz
theorem di_list {e tg : Expr} (h : DE X e te t) : DI X tg e (iList X.K te) (iL t) := ⟨pi_list h.pe, fun b Hf0 H0 Hf H δ σ Q R r hq k =>
  h.en b Hf0 H0 Hf H δ σ _ _ r hq fun dv v Hf1 H1 hr s1 w1 r1 => by
    obtain ⟨ds, rfl, hr⟩ := hr
    cases r1 with
    | list h z al => exact ⟨_, rfl, ⟨_, SqL.of (w1.sub _ _ h)⟩, k _ _ Hf1 H1 hr s1 w1 (walk_list h z al)⟩⟩
theorem di_tup {e tg : Expr} (h : DE X e te t) : DI X tg e (iTup X.K te) (iT t) := ⟨pi_tup h.pe, fun b Hf0 H0 Hf H δ σ Q R r hq k =>
  h.en b Hf0 H0 Hf H δ σ _ _ r hq fun dv v Hf1 H1 hr s1 w1 r1 => by
    obtain ⟨ds, rfl, hr⟩ := hr
    cases r1 with
    | tup h z al => exact ⟨_, rfl, ⟨_, w1.sub.seqT h⟩, k _ _ Hf1 H1 hr s1 w1 (walk_tup h z al)⟩⟩
theorem di_range {e tg : Expr} {ta : TA} {u : DTa} {p pos : Pos} (hg : Gl X "range") (hm : X.mg "range" = none) (h : DA X [e] ta u) (hs : starEach [e] X.env = [(false, eval e X.env)] := by rfl) : DI X tg (.Call (.Name "range" p) [e] [] pos) (iRng1 ta) (iR u) := ⟨pi_range1 hg hm h.pa hs, fun b Hf0 H0 Hf H δ σ Q R r hq k =>
  h.en b Hf0 H0 Hf H δ σ _ _ r hq fun dvs vs Hf1 H1 hr s1 w1 r1 => by
    obtain ⟨n, rfl, h1, h2, hr⟩ := hr
    match vs, r1 with
    | [v], ⟨rv, _⟩ =>
      cases rv
      exact ⟨n, rfl, by omega, by omega, k _ _ Hf1 H1 hr s1 w1 (walk_range (by rw [sizeLine_eq]; omega))⟩⟩
/-! ### for -/
def dFor (g : DG) (tb : DTs) (E : DEnds) : List D → Sl → Prop
  | [], δ => E.nx δ
  | x :: xs, δ => g x δ (tb { E with nx := dFor g tb E xs, ct := dFor g tb E xs, bk := E.nx })
def dForS (it : DTi) (g : DG) (tb : DTs) : DTs := fun E δ => it δ fun ds => dFor g tb E ds δ
theorem ent_for {wi : TI} {it : DTi} {g : TG} {d : DG} {tb : TS} {sb : DTs} (hi : EntI K wi it) (hg : EntG K g d) (hb : EntS K tb sb) : EntS K (tFor wi g tb) (dForS it d sb) := fun b Hf0 H0 Hf H δ σ E E' r hq o =>
  hi b Hf0 H0 Hf H δ σ _ _ r hq fun ds J Hf1 H1 hr s1 w1 wk => by
    have r1 : Rep b K Hf1 H0 Hf1 H1 δ σ := (r.move s1 w1).re
    have st1 : Step b Hf0 H0 Hf1 H1 := r.st.trans w1 s1
    have o1 := o.re st1
    refine ⟨fun i m σ' H' => m = ds.length - i ∧ i ≤ ds.length ∧ ∃ Hf' δ', Rep b K Hf1 H0 Hf' H' δ' σ' ∧ dFor d sb E (ds.drop i) δ', ⟨ds.length, by simp, Nat.zero_le _, Hf1, δ, r1, hr⟩, ?_⟩
    rintro i m σ' H' ⟨rfl, hi', Hf', δ', r', hf⟩
    by_cases hlt : i < ds.length
    · refine .inr ⟨wk.go i Hf' H' r'.st.sub r'.wd hlt, fun σ2 H2 => ∃ Hf2 δ2, Rep b K Hf1 H0 Hf2 H2 δ2 σ2 ∧ dFor d sb E (ds.drop (i + 1)) δ2, fun σ2 H2 ⟨Hf2, δ2, r2, h2⟩ => ⟨ds.length - (i + 1), by omega, rfl, hlt, Hf2, δ2, r2, h2⟩, fun x H2 hy => ?_⟩
      obtain ⟨Hf2, dx, s2, w2, e, hx⟩ := wk.yld i Hf' H' x H2 r'.st.sub r'.wd hlt hy
      have ed : ds.drop i = dx :: ds.drop (i + 1) := by
        rw [List.drop_eq_getElem_cons hlt]
        congr 1
        rw [List.getElem?_eq_getElem hlt] at e
        exact Option.some.inj e
      rw [ed] at hf
      exact hg b Hf1 H0 Hf2 H2 δ' σ' x dx _ _ (r'.move s2 w2) hx hf fun δ3 σ3 h3 r3 _ =>
        hb b Hf1 H0 Hf2 H2 δ3 σ3 _ _ r3 h3 ⟨fun δ4 σ4 Hf4 H4 h4 r4 => ⟨Hf4, δ4, r4, h4⟩, o1.rt, o1.nx, fun δ4 σ4 Hf4 H4 h4 r4 => ⟨Hf4, δ4, r4, h4⟩⟩
    · have e : i = ds.length := by omega
      subst e
      rw [List.drop_length] at hf
      exact .inl ⟨wk.stop Hf' H' r'.st.sub r'.wd, o1.nx δ' σ' Hf' H' hf r'⟩
structure DGm (X : Cx) (tg : Expr) (g : TG) (d : DG) : Prop where
  pg : PG X tg g
  en : EntG X.K g d
theorem dg_name {i : Nat} {x : Str} {pos : Pos} (hN : X.N.Nodup) (hi : X.N[i]? = some x) (hx : Loc X.env.scope x) (hf : X.fn x = true ∨ X.env.scope.names.lookup x = some .local := by first | exact .inl rfl | exact .inr rfl | assumption) : DGm X (.Name x pos) (gName i) (gN i) := ⟨pg_name hN hi hx hf, ent_gN⟩
theorem ds_for {tg iter : Expr} {body : List Stmt} {wi : TI} {it : DTi} {g : TG} {d : DG} {tb : TS} {sb : DTs} {pos : Pos} (hp : PassesOwn (model X.prog X.w) X.A X.env X.xe) (hc : X.calm = true) (hi : DI X tg iter wi it) (hg : DGm X tg g d) (hb : DSs X body tb sb)
    (hs : ∀ x, foldedSetIterable iter X.env x = pure x := by intro _; rfl) : DS X (.For tg iter body [] pos) (tFor wi g tb) (dForS it d sb) := ⟨ps_for hp hc hi.pi hg.pg hb.pss hs, ent_for hi.en hg.en hb.en⟩
/-! ### comprehensions -/
structure DPt (X : Cx) (ifs : List Expr) (tt : TT) (q : DTt) : Prop where
  pts : PTs X ifs tt
  en : EntT X.K tt q
def dYes : DTt := fun _ Q => Q true
theorem dp_nil : DPt X [] tYes dYes := ⟨pts_nil, fun b Hf0 H0 Hf H δ σ Q Q' r hq k => k true Hf H hq (Step.refl _ _ _) r.wd⟩
theorem dp_one {c : Expr} (h : DQ X c tt q) : DPt X [c] tt q := ⟨pts_one h.pt, h.en⟩
/-- the target's names are the block's own -/
def GWipe (g : TG) (vs : List Nat) : Prop := ∀ v σ H Q, g v (L2.wipe σ vs) H Q → g v (L2.wipe σ vs) H fun σ2 H2 => L2.wipe σ2 vs = L2.wipe σ vs ∧ Q σ2 H2
theorem wipe_get (σ : L2.St) (j : Nat) : ∀ vs : List Nat, (L2.wipe σ vs)[j]? = if j ∈ vs then σ[j]?.map (fun _ => none) else σ[j]?
  | [] => by simp [L2.wipe]
  | v :: vs => by
    show ((L2.wipe σ vs).set v none)[j]? = _
    rw [List.getElem?_set, wipe_get σ j vs, L2.wipe_length]
    by_cases h : v = j
    · subst h
      by_cases hl : v < σ.length
      · simp [hl]
      · simp [hl]
    · by_cases h2 : j ∈ vs <;> simp [h, h2, Ne.symm h]
theorem gw_name {i : Nat} {vs : List Nat} (h : i ∈ vs) : GWipe (gName i) vs := fun v σ H Q hq => ⟨by
  apply List.ext_getElem?
  intro j
  rw [wipe_get, wipe_get, List.getElem?_set, wipe_get, L2.wipe_length]
  by_cases hj : j ∈ vs
  · by_cases e : i = j
    · subst e
      by_cases hl : i < σ.length
      · simp [hl, h]
      · simp [hl]
    · by_cases hl : j < σ.length
      · simp [hj, e, hl]
      · simp [hj, e, hl]
  · have e : i ≠ j := fun e => hj (e ▸ h)
    simp [hj, e], hq⟩
def dLcGo (g : DG) (q : DTt) (u : DT) (δ : Sl) : List D → List D → (List D → Prop) → Prop
  | [], acc, Q => Q acc
  | x :: xs, acc, Q => g x δ fun δ2 => q δ2 fun c => if c = true then u δ2 fun y => ∃ d, y = .d d ∧ dLcGo g q u δ xs (acc ++ [d]) Q else dLcGo g q u δ xs acc Q
def dLcO (it : DTi) (g : DG) (q : DTt) (u : DT) (vs : List Nat) : DTi := fun δ Q => it δ fun ds => dLcGo g q u (wipeD δ vs) ds [] Q
def dLc (it : DTi) (g : DG) (q : DTt) (u : DT) (vs : List Nat) : DT := fun δ Q => dLcO it g q u vs δ fun ys => Q (.d (.list ys))
/-- a new list -/
def EntF (K : PySem.W.Frag) (te : TE) (t : DTi) : Prop := ∀ (b : Option Addr) (Hf0 H0 Hf H : Hp) (δ : Sl) (σ : L2.St) (Q : List D → Prop) (Q' : VK), Rep b K Hf0 H0 Hf H δ σ → t δ Q →
  (∀ ds p xs Hf' H', Q ds → Step b Hf H Hf' H' → Wd b Hf' H' → H p = none → Hf' p = none → b ≠ some p → H' p = some (.lst xs) → xs.length ≤ sizeLine → DaAll K Hf' xs ds → Q' (.ref p) H') → te σ H Q'
/-- frozen at once -/
theorem EntF.ent {t : DTi} (h : EntF K te t) : Ent K te (fun δ Q => t δ fun ds => Q (.d (.list ds))) := fun b Hf0 H0 Hf H δ σ Q Q' r hq k =>
  h b Hf0 H0 Hf H δ σ _ _ r hq fun ds p xs Hf1 H1 hr s1 w1 hn hfn hb hp z al => by
    have w2 := w1.freeze hfn hp hb
    have hfH : Hf p = none := by
      cases e : Hf p with
      | none => rfl
      | some o => rw [s1.sub p o e] at hfn; cases hfn
    have sb : Sub Hf1 (upd Hf1 p (.lst xs)) := sub_upd hfn
    refine k _ _ (upd Hf1 p (.lst xs)) H1 hr ⟨s1.sub.trans sb, s1.oth, fun a h0 h1 => ?_⟩ w2 (.list upd_same z (al.mono sb))
    have : a ≠ p := fun e => h1 (by rw [e]; exact hn)
    rw [upd_ne this]
    exact s1.new a h0 h1
theorem entf_lc {wi : TI} {it : DTi} {g : TG} {d : DG} {vs : List Nat} (hi : EntI K wi it) (hg : EntG K g d) (hw : GWipe g vs) (ht : EntT K tt q) (he : Ent K te u) : EntF K (tLc wi g tt te vs) (dLcO it d q u vs) := fun b Hf0 H0 Hf H δ σ Q Q' r hq k =>
  hi b Hf0 H0 Hf H δ σ _ _ r hq fun ds J Hf1 H1 hr s1 w1 wk D hD => by
    have hDH : H D = none := by
      cases e : H D with
      | none => rfl
      | some o =>
        by_cases hb : b = some D
        · subst hb
          obtain ⟨_, _, _, _, _, _, h1, _⟩ := w1.bag
          rw [hD] at h1; cases h1
        · rw [s1.oth D o e hb] at hD; cases hD
    have hbD : b ≠ some D := fun hb => by
      subst hb
      obtain ⟨_, _, _, _, _, _, h1, _⟩ := w1.bag
      rw [hD] at h1; cases h1
    have rw0 : Rep b K Hf0 H0 Hf1 H1 (wipeD δ vs) (L2.wipe σ vs) := (r.move s1 w1).wipe vs
    obtain ⟨sD, wD⟩ := Step.laidO (o := .lst []) w1 hD
    refine ⟨fun i m H' => m = ds.length - i ∧ i ≤ ds.length ∧ ∃ Hf' acc dacc, Step b Hf1 H1 Hf' H' ∧ Wd b Hf' H' ∧ Hf' D = none ∧ H' D = some (.lst acc) ∧ DaAll K Hf' acc dacc ∧ acc.length ≤ i ∧ i ≤ sizeLine ∧ dLcGo d q u (wipeD δ vs) (ds.drop i) dacc Q, ?_, ?_⟩
    · exact ⟨ds.length, by simp, Nat.zero_le _, Hf1, [], [], sD, wD, w1.fresh hD, upd_same, .nil, Nat.le_refl _, Nat.zero_le _, hr⟩
    rintro i m H' ⟨rfl, hi', Hf', acc, dacc, s', w', hfD, hHD, al, la, li, hgo⟩
    by_cases hlt : i < ds.length
    · refine .inr ⟨wk.go i Hf' H' s'.sub w' hlt, fun H2 => ∃ Hf2 acc2 dacc2, Step b Hf1 H1 Hf2 H2 ∧ Wd b Hf2 H2 ∧ Hf2 D = none ∧ H2 D = some (.lst acc2) ∧ DaAll K Hf2 acc2 dacc2 ∧ acc2.length ≤ i + 1 ∧ i + 1 ≤ sizeLine ∧ dLcGo d q u (wipeD δ vs) (ds.drop (i + 1)) dacc2 Q,
        fun H2 ⟨Hf2, acc2, dacc2, a⟩ => ⟨ds.length - (i + 1), by omega, rfl, hlt, Hf2, acc2, dacc2, a⟩, fun x H2 hy => ?_⟩
      obtain ⟨Hf2, dx, s2, w2, e, hx⟩ := wk.yld i Hf' H' x H2 s'.sub w' hlt hy
      have ed : ds.drop i = dx :: ds.drop (i + 1) := by
        rw [List.drop_eq_getElem_cons hlt]
        congr 1
        rw [List.getElem?_eq_getElem hlt] at e
        exact Option.some.inj e
      rw [ed] at hgo
      have lz : i + 1 ≤ sizeLine := Nat.le_trans hlt wk.len
      refine hw x σ H2 _ (hg b Hf0 H0 Hf2 H2 (wipeD δ vs) (L2.wipe σ vs) x dx _ _ (rw0.move (s'.trans w2 s2) w2) hx hgo fun δ3 σ3 h3 r3 _ => ?_)
      refine ht b Hf0 H0 Hf2 H2 δ3 σ3 _ _ r3 h3 fun c Hf4 H4 h4 s4 w4 => ?_
      have s24 : Step b Hf' H' Hf4 H4 := s2.trans w4 s4
      cases c with
      | false =>
        have h4 : dLcGo d q u (wipeD δ vs) (ds.drop (i + 1)) dacc Q := h4
        exact ⟨Hf4, acc, dacc, s'.trans w4 s24, w4, s24.new D hfD (by rw [hHD]; exact fun z => nomatch z), s24.oth D _ hHD hbD, al.mono s24.sub, by omega, lz, h4⟩
      | true =>
        refine he b Hf0 H0 Hf4 H4 δ3 σ3 _ _ (r3.move s4 w4) h4 fun dv v Hf5 H5 h5 s5 w5 r5 => ?_
        obtain ⟨dd, rfl, h5⟩ := h5
        have s25 : Step b Hf' H' Hf5 H5 := s24.trans w5 s5
        have hfD5 : Hf5 D = none := s25.new D hfD (by rw [hHD]; exact fun z => nomatch z)
        have hHD5 : H5 D = some (.lst acc) := s25.oth D _ hHD hbD
        refine ⟨acc, hHD5, by omega, Hf5, acc ++ [v], dacc ++ [dd], ?_, w5.write hfD5 hbD, hfD5, upd_same, (al.mono s25.sub).snoc r5, by rw [List.length_append]; simp; omega, lz, h5⟩
        have s15 := s'.trans w5 s25
        exact ⟨s15.sub, fun a o h hb => by rw [upd_ne (ne_of_none h hD)]; exact s15.oth a o h hb, s15.new⟩
    · have e : i = ds.length := by omega
      subst e
      rw [List.drop_length] at hgo
      exact .inl ⟨wk.stop Hf' H' s'.sub w', k dacc D acc Hf' H' hgo (s1.trans w' s') w' hDH hfD hbD hHD (by omega) al⟩
end
end DL
/-! The data layer, part 5: comprehensions as statements, things of one's own, dicts, a def's promise. -/
namespace DL
open PySem PySem.Spec L2
section
variable {X : Cx} {K : PySem.W.Frag} {te ta tb tc : TE} {t u w : DT} {tt tt1 tt2 : TT} {q q1 q2 : DTt}
theorem de_lc {elt tg iter : Expr} {ifs : List Expr} {scope : Scope} {own : List (Str × Nat)} {pos : Pos} {wi : TI} {it : DTi} {g : TG} {d : DG} (hc : X.calm = true) (hN : X.N.Nodup) (hi : DI X tg iter wi it) (ok : BlkOk X.N X.env.scope scope own)
    (hg : ∀ (s : Shared) (H : Hp) (C : Addr) (cl : List (Str × Addr)) (fp : List Addr), DGm (X.blk s H scope (compEnvC scope cl C X.env) fp) tg g d) (hw : GWipe g (own.map (·.2))) (ht : ∀ (s : Shared) (H : Hp) (C : Addr) (cl : List (Str × Addr)) (fp : List Addr), DPt (X.blk s H scope (compEnvC scope cl C X.env) fp) ifs tt q)
    (he : ∀ (s : Shared) (H : Hp) (C : Addr) (cl : List (Str × Addr)) (fp : List Addr), DE (X.blk s H scope (compEnvC scope cl C X.env) fp) elt te u) (hs : ∀ x, foldedSetIterable iter X.env x = pure x := by intro _; rfl) :
    DE X (.ListComp elt [⟨tg, iter, ifs, 0⟩] scope pos) (tLc wi g tt te (own.map (·.2))) (dLc it d q u (own.map (·.2))) :=
  ⟨pe_lc hc hN hi.pi ok (fun s H C cl fp => (hg s H C cl fp).pg) (fun s H C cl fp => (ht s H C cl fp).pts) (fun s H C cl fp => (he s H C cl fp).pe) hs,
    (entf_lc hi.en (hg X.s_0 X.H_0 0 [] []).en hw (ht X.s_0 X.H_0 0 [] []).en (he X.s_0 X.H_0 0 [] []).en).ent⟩
/-- y = [..] -/
theorem ds_setLc {i : Nat} {y : Str} {py : Pos} {elt tg iter : Expr} {ifs : List Expr} {scope : Scope} {own : List (Str × Nat)} {pos spos : Pos} {wi : TI} {it : DTi} {g : TG} {d : DG} (hc : X.calm = true) (hN : X.N.Nodup) (hy : X.N[i]? = some y) (hyl : X.env.scope.names.lookup y = some .local)
    (hsw : swapsWith (.ListComp elt [⟨tg, iter, ifs, 0⟩] scope pos) (some (.Name y py)) spos.line X.env = pure true) (hi : DI X tg iter wi it) (ok : BlkOk X.N X.env.scope scope own)
    (hg : ∀ (s : Shared) (H : Hp) (C : Addr) (cl : List (Str × Addr)) (fp : List Addr), DGm (X.blk s H scope (compEnvC scope cl C X.env) fp) tg g d) (hw : GWipe g (own.map (·.2))) (ht : ∀ (s : Shared) (H : Hp) (C : Addr) (cl : List (Str × Addr)) (fp : List Addr), DPt (X.blk s H scope (compEnvC scope cl C X.env) fp) ifs tt q)
    (he : ∀ (s : Shared) (H : Hp) (C : Addr) (cl : List (Str × Addr)) (fp : List Addr), DE (X.blk s H scope (compEnvC scope cl C X.env) fp) elt te u) (hs : ∀ x, foldedSetIterable iter X.env x = pure x := by intro _; rfl) :
    DS X (.Assign [.Name y py] (.ListComp elt [⟨tg, iter, ifs, 0⟩] scope pos) spos) (tAsg (tLc wi g tt te (own.map (·.2))) (gName i)) (dAsg (dLc it d q u (own.map (·.2))) (gN i)) :=
  ⟨ps_setLc hc hN hy hyl hsw hi.pi ok (fun s H C cl fp => (hg s H C cl fp).pg) (fun s H C cl fp => (ht s H C cl fp).pts) (fun s H C cl fp => (he s H C cl fp).pe) hs,
    ent_asg (entf_lc hi.en (hg X.s_0 X.H_0 0 [] []).en hw (ht X.s_0 X.H_0 0 [] []).en (he X.s_0 X.H_0 0 [] []).en).ent ent_gN⟩
/-! ### lists of one's own -/
def dAsgO (t : DTi) (i : Nat) : DTs := fun E δ => t δ fun ds => E.nx (δ.set i (some (.own ds)))
theorem ent_asgO {t : DTi} {i : Nat} (h : EntF K te t) : EntS K (tAsg te (gName i)) (dAsgO t i) := fun b Hf0 H0 Hf H δ σ E E' r hq o =>
  h b Hf0 H0 Hf H δ σ _ _ r hq fun ds p xs Hf1 H1 hr s1 w1 hn hfn hb hp z al => by
    have r1 := r.move s1 w1
    refine o.nx _ _ Hf1 H1 hr (r1.setO rfl ⟨p, xs, rfl, hfn, hb, hp, al⟩ ?_ fun j dv e ho hj => ?_)
    · cases e : H0 p with
      | none => rfl
      | some o =>
        rw [r.st.oth p o e hb] at hn; cases hn
    · obtain ⟨v, e1, hv⟩ := r.sl j dv e
      rw [hj] at e1
      cases e1
      cases dv with
      | own ds => obtain ⟨p', xs', ep, _, _, hp', _⟩ := hv; cases ep; rw [hn] at hp'; cases hp'
      | ownD ds => obtain ⟨p', xs', ep, _, _, hp', _⟩ := hv; cases ep; rw [hn] at hp'; cases hp'
      | d _ => cases ho
      | bag => cases ho
def dLstO (u : DTa) : DTi := fun δ Q => u δ fun dvs => ∃ ds, asD dvs = some ds ∧ ds.length ≤ sizeLine ∧ Q ds
theorem entf_lst {ta : TA} {u : DTa} (h : EntA K ta u) : EntF K (tLst ta) (dLstO u) := fun b Hf0 H0 Hf H δ σ Q Q' r hq k =>
  h b Hf0 H0 Hf H δ σ _ _ r hq fun dvs vs Hf1 H1 h s1 w1 r1 => by
    obtain ⟨ds, e, z, hq⟩ := h
    have ha := r1.all e
    have z' : vs.length ≤ sizeLine := by rw [ha.length]; exact z
    refine ⟨z', fun p hp => ?_⟩
    obtain ⟨s2, w2⟩ := Step.laidO (o := .lst vs) w1 hp
    have hb : b ≠ some p := fun hb => by
      subst hb
      obtain ⟨_, _, _, _, _, _, h1, _⟩ := w1.bag
      rw [hp] at h1; cases h1
    refine k ds p vs Hf1 _ hq (s1.trans w2 s2) w2 ?_ (w1.fresh hp) hb upd_same z' ha
    cases e : H p with
    | none => rfl
    | some o => rw [s1.oth p o e hb] at hp; cases hp
theorem ds_setLst {i : Nat} {x : Str} {es : List Expr} {ta : TA} {u : DTa} {pos pos' p2 : Pos} (hN : X.N.Nodup) (hi : X.N[i]? = some x) (hx : Loc X.env.scope x) (h : DA X es ta u) (hs : swapsWith (.List es p2) (some (.Name x pos')) pos.line X.env = pure false := by rfl) (hf : X.fn x = true ∨ X.env.scope.names.lookup x = some .local := by first | exact .inl rfl | exact .inr rfl | assumption) :
    DS X (.Assign [.Name x pos'] (.List es p2) pos) (tAsg (tLst ta) (gName i)) (dAsgO (dLstO u) i) := ⟨ps_set hN hi hx (pe_lst h.pa) hs hf, ent_asgO (entf_lst h.en)⟩
theorem ds_setLcO {i : Nat} {y : Str} {py : Pos} {elt tg iter : Expr} {ifs : List Expr} {scope : Scope} {own : List (Str × Nat)} {pos spos : Pos} {wi : TI} {it : DTi} {g : TG} {d : DG} (hc : X.calm = true) (hN : X.N.Nodup) (hy : X.N[i]? = some y) (hyl : X.env.scope.names.lookup y = some .local)
    (hsw : swapsWith (.ListComp elt [⟨tg, iter, ifs, 0⟩] scope pos) (some (.Name y py)) spos.line X.env = pure true) (hi : DI X tg iter wi it) (ok : BlkOk X.N X.env.scope scope own)
    (hg : ∀ (s : Shared) (H : Hp) (C : Addr) (cl : List (Str × Addr)) (fp : List Addr), DGm (X.blk s H scope (compEnvC scope cl C X.env) fp) tg g d) (hw : GWipe g (own.map (·.2))) (ht : ∀ (s : Shared) (H : Hp) (C : Addr) (cl : List (Str × Addr)) (fp : List Addr), DPt (X.blk s H scope (compEnvC scope cl C X.env) fp) ifs tt q)
    (he : ∀ (s : Shared) (H : Hp) (C : Addr) (cl : List (Str × Addr)) (fp : List Addr), DE (X.blk s H scope (compEnvC scope cl C X.env) fp) elt te u) (hs : ∀ x, foldedSetIterable iter X.env x = pure x := by intro _; rfl) :
    DS X (.Assign [.Name y py] (.ListComp elt [⟨tg, iter, ifs, 0⟩] scope pos) spos) (tAsg (tLc wi g tt te (own.map (·.2))) (gName i)) (dAsgO (dLcO it d q u (own.map (·.2))) i) :=
  ⟨ps_setLc hc hN hy hyl hsw hi.pi ok (fun s H C cl fp => (hg s H C cl fp).pg) (fun s H C cl fp => (ht s H C cl fp).pts) (fun s H C cl fp => (he s H C cl fp).pe) hs,
    ent_asgO (entf_lc hi.en (hg X.s_0 X.H_0 0 [] []).en hw (ht X.s_0 X.H_0 0 [] []).en (he X.s_0 X.H_0 0 [] []).en)⟩
/-- an own list is written -/
theorem Rep.write {b : Option Addr} {Hf0 H0 Hf H : Hp} {δ : Sl} {σ : L2.St} {i : Nat} {p : Addr} {dv dw : DV} {o : HO} (r : Rep b K Hf0 H0 Hf H δ σ) (e : δ[i]? = some (some dv)) (ho : isOwn dv = true) (es : σ[i]? = some (some (.ref p))) (hfp : Hf p = none) (hb : b ≠ some p)
    (hw : isOwn dw = true) (hn : RepV b K Hf (upd H p o) (.ref p) dw) : Rep b K Hf0 H0 Hf (upd H p o) (δ.set i (some dw)) σ where
  wd := r.wd.write hfp hb
  st := ⟨r.st.sub, fun a u h hb' => by rw [upd_ne (ne_of_none h (r.fresh i dv p e ho es))]; exact r.st.oth a u h hb', r.st.new⟩
  len := by rw [List.length_set]; exact r.len
  sl := fun j dx ej => by
    by_cases hj : i = j
    · subst hj
      have hl : i < δ.length := by
        rcases Nat.lt_or_ge i δ.length with h | h
        · exact h
        · rw [List.getElem?_eq_none h] at e; cases e
      rw [List.getElem?_set_self hl] at ej
      cases ej
      exact ⟨_, es, hn⟩
    · rw [List.getElem?_set_ne hj] at ej
      obtain ⟨v, e1, hv⟩ := r.sl j dx ej
      refine ⟨v, e1, ?_⟩
      cases dx with
      | d x => exact hv
      | bag => exact hv
      | own ds =>
        obtain ⟨p', xs', rfl, h1, h2, h3, h4⟩ := hv
        have ne : p' ≠ p := fun z => r.dist i j dv (.own ds) p hj e ho ej rfl es (by rw [← z]; exact e1)
        exact ⟨p', xs', rfl, h1, h2, by rw [upd_ne ne]; exact h3, h4⟩
      | ownD ds =>
        obtain ⟨p', xs', rfl, h1, h2, h3, h4⟩ := hv
        have ne : p' ≠ p := fun z => r.dist i j dv (.ownD ds) p hj e ho ej rfl es (by rw [← z]; exact e1)
        exact ⟨p', xs', rfl, h1, h2, by rw [upd_ne ne]; exact h3, h4⟩
  fresh := fun j dx p' ej oj sj => by
    by_cases hj : i = j
    · subst hj
      rw [es] at sj
      cases sj
      exact r.fresh i dv p e ho es
    · rw [List.getElem?_set_ne hj] at ej
      exact r.fresh j dx p' ej oj sj
  dist := fun j k dx dy p' ne ej oj ek ok sj => by
    by_cases hj : i = j
    · subst hj
      rw [List.getElem?_set_ne ne] at ek
      exact r.dist i k dv dy p' ne e ho ek ok sj
    · by_cases hk : i = k
      · subst hk
        rw [List.getElem?_set_ne hj] at ej
        exact r.dist j i dx dv p' ne ej oj e ho sj
      · rw [List.getElem?_set_ne hj] at ej
        rw [List.getElem?_set_ne hk] at ek
        exact r.dist j k dx dy p' ne ej oj ek ok sj
/-- x.append(e) -/
def dAppend (i : Nat) (t : DT) : DTs := fun E δ => t δ fun dv => ∃ x ds, dv = .d x ∧ δ[i]? = some (some (.own ds)) ∧ ds.length < sizeLine ∧ E.nx (δ.set i (some (.own (ds ++ [x]))))
theorem ent_append {i : Nat} (h : Ent K te t) (ho : ∀ δ Q, t δ Q → True := by intros; trivial) : EntS K (tDrop (tBM K "list" rAppend (tVar i) (tCons te tNil))) (fun E δ => (∃ ds, δ[i]? = some (some (.own ds))) ∧ dAppend i t E δ) := fun b Hf0 H0 Hf H δ σ E E' r hq o => by
  obtain ⟨⟨ds0, e0⟩, hq⟩ := hq
  obtain ⟨v, es, p, xs, rfl, hfp, hb, hp, al⟩ := r.sl i _ e0
  refine ⟨_, es, .inl ⟨rfl, xs, SqL.of hp⟩, ?_⟩
  refine h b Hf0 H0 Hf H δ σ _ _ r hq fun dv v Hf1 H1 hr s1 w1 r1 => ?_
  obtain ⟨x, ds, rfl, e1, z, hr⟩ := hr
  rw [e0] at e1
  cases e1
  have hp1 := s1.oth p _ hp hb
  have hf1 := s1.new p hfp (by rw [hp]; exact fun z => nomatch z)
  refine ⟨p, xs, v, rfl, rfl, hp1, by rw [al.length]; exact z, ?_⟩
  exact o.nx _ _ Hf1 _ hr ((r.move s1 w1).write e0 rfl es hf1 hb rfl ⟨p, _, rfl, hf1, hb, upd_same, (al.mono s1.sub).snoc r1⟩)
theorem ds_append {i : Nat} {x : Str} {e : Expr} {apos cpos p0 pos : Pos} (hv : PE X (.Name x p0) (tVar i)) (h : DE X e te t)
    (hbase : attributeBase (.Name x p0) "append" X.env (eval (.Name x p0) X.env) = eval (.Name x p0) X.env := by rfl)
    (hfew : ((backTo cpos (starEach [e] X.env)).all (fun x => !x.1) && (backToKw cpos (keywordEach [] X.env)).all (fun x => x.1.isSome)
      && decide (([e] : List Expr).length + ([] : List Keyword).length + (if ([] : List Keyword).isEmpty then 0 else 1) < 30)) = true := by rfl)
    (hline : (apos.endLine == cpos.line) = true := by rfl) (hs : starEach [e] X.env = (false, eval e X.env) :: starEach [] X.env := by rfl) (hplain : (backTo cpos (starEach [] X.env)).any (·.1) = false := by rfl)
    (hsw : swapsWith (.Call (.Attribute (.Name x p0) "append" apos) [e] [] cpos) none pos.line X.env = pure false := by rfl) :
    DS X (.Expr (.Call (.Attribute (.Name x p0) "append" apos) [e] [] cpos) pos) (tDrop (tBM X.K "list" rAppend (tVar i) (tCons te tNil))) (fun E δ => (∃ ds, δ[i]? = some (some (.own ds))) ∧ dAppend i t E δ) :=
  ⟨ps_expr (pe_bm PySem.F.plainAttrs_list PySem.F.slot_list_append PySem.F.type_list_append mt_append hv (pa_cons h.pe pa_nil hs) hbase hfew hline hs hplain) hsw, ent_append h.en⟩
/-- x.insert(n, e) -/
abbrev rIns : V → List V → Hp → VK → Prop := fun x vs H Q => ∃ (l : Addr) (xs : List V) (i : Int) (y : V), x = .ref l ∧ vs = [.int i, y] ∧ H l = some (.lst xs) ∧ xs.length < sizeLine ∧ 0 ≤ i ∧ i < 2 ^ 63 ∧
    Q .non (upd H l (.lst (xs.take i.toNat ++ [y] ++ xs.drop i.toNat)))
def dInsert (i : Nat) (u : DTa) : DTs := fun E δ => (∃ ds, δ[i]? = some (some (.own ds))) ∧ u δ fun dvs => ∃ n x ds, dvs = [.d (.int n), .d x] ∧ δ[i]? = some (some (.own ds)) ∧ ds.length < sizeLine ∧ 0 ≤ n ∧ n < 2 ^ 63 ∧ E.nx (δ.set i (some (.own (ds.take n.toNat ++ [x] ++ ds.drop n.toNat))))
theorem ent_insert {i : Nat} {ta : TA} {u : DTa} (h : EntA K ta u) : EntS K (tDrop (tBM K "list" rIns (tVar i) ta)) (dInsert i u) := fun b Hf0 H0 Hf H δ σ E E' r hq o => by
  obtain ⟨⟨ds0, e0⟩, hq⟩ := hq
  obtain ⟨v, es, p, xs, rfl, hfp, hb, hp, al⟩ := r.sl i _ e0
  refine ⟨_, es, .inl ⟨rfl, xs, SqL.of hp⟩, ?_⟩
  refine h b Hf0 H0 Hf H δ σ _ _ r hq fun dvs vs Hf1 H1 hr s1 w1 r1 => ?_
  obtain ⟨n, x, ds, rfl, e1, z, h0, h1, hr⟩ := hr
  rw [e0] at e1
  cases e1
  match vs, r1 with
  | [v1, v2], ⟨rv1, rv2, _⟩ =>
    cases rv1
    have hp1 := s1.oth p _ hp hb
    have hf1 := s1.new p hfp (by rw [hp]; exact fun z => nomatch z)
    refine ⟨p, xs, n, v2, rfl, rfl, hp1, by rw [al.length]; exact z, h0, h1, ?_⟩
    have al1 := al.mono s1.sub
    exact o.nx _ _ Hf1 _ hr ((r.move s1 w1).write e0 rfl es hf1 hb rfl ⟨p, _, rfl, hf1, hb, upd_same, ((al1.take _).append (.cons rv2 .nil)).append (al1.drop _)⟩)
theorem ds_insert {i : Nat} {x : Str} {e e2 : Expr} {ta : TA} {u : DTa} {apos cpos p0 pos : Pos} (hv : PE X (.Name x p0) (tVar i)) (h : DA X [e, e2] ta u)
    (hbase : attributeBase (.Name x p0) "insert" X.env (eval (.Name x p0) X.env) = eval (.Name x p0) X.env := by rfl)
    (hfew : ((backTo cpos (starEach [e, e2] X.env)).all (fun x => !x.1) && (backToKw cpos (keywordEach [] X.env)).all (fun x => x.1.isSome)
      && decide (([e, e2] : List Expr).length + ([] : List Keyword).length + (if ([] : List Keyword).isEmpty then 0 else 1) < 30)) = true := by rfl)
    (hline : (apos.endLine == cpos.line) = true := by rfl) (hs : starEach [e, e2] X.env = (false, eval e X.env) :: starEach [e2] X.env := by rfl) (hplain : (backTo cpos (starEach [e2] X.env)).any (·.1) = false := by rfl)
    (hsw : swapsWith (.Call (.Attribute (.Name x p0) "insert" apos) [e, e2] [] cpos) none pos.line X.env = pure false := by rfl) :
    DS X (.Expr (.Call (.Attribute (.Name x p0) "insert" apos) [e, e2] [] cpos) pos) (tDrop (tBM X.K "list" rIns (tVar i) ta)) (dInsert i u) :=
  ⟨ps_expr (pe_bm PySem.F.plainAttrs_list PySem.F.slot_list_insert PySem.F.type_list_insert mt_insert hv h.pa hbase hfew hline hs hplain) hsw, ent_insert h.en⟩
/-- len of an own list -/
def dLenO (i : Nat) : DT := fun δ Q => ∃ ds, δ[i]? = some (some (.own ds)) ∧ Q (.d (.int (ds.length : Int)))
theorem ent_lenO {i : Nat} : Ent K (tCB (fun xs H Q => ∃ x n, xs = [x] ∧ LenV K x H n ∧ Q (.int n) H) (tCons (tVar i) tNil)) (dLenO i) := fun b Hf0 H0 Hf H δ σ Q Q' r hq k => by
  obtain ⟨ds, e, hq⟩ := hq
  obtain ⟨v, es, p, xs, rfl, hfp, hb, hp, al⟩ := r.sl i _ e
  refine ⟨_, es, _, xs.length, rfl, .inl ⟨xs, SqL.of hp, rfl⟩, ?_⟩
  rw [← al.length] at hq
  exact k _ _ Hf H hq (Step.refl _ _ _) r.wd (.int _)
theorem de_lenO {i : Nat} {x : Str} {p0 p pos : Pos} (hv : PE X (.Name x p0) (tVar i)) (hg : Gl X "len") (hm : X.mg "len" = none)
    (he : starEach [.Name x p0] X.env = (false, eval (.Name x p0) X.env) :: starEach [] X.env := by rfl) (hpl : (backTo pos (starEach [] X.env)).any (·.1) = false := by rfl) :
    DE X (.Call (.Name "len" p) [.Name x p0] [] pos) (tCB (fun xs H Q => ∃ x n, xs = [x] ∧ LenV X.K x H n ∧ Q (.int n) H) (tCons (tVar i) tNil)) (dLenO i) :=
  ⟨pe_callB call_len hg hm PySem.boot_len (pa_cons hv pa_nil he) (by decide) (by decide) he hpl, ent_lenO⟩
/-! ### freezing -/
def frz (i : Nat) (δ : Sl) : Option Sl := match δ[i]? with
  | some (some (.own ds)) => if ds.length ≤ sizeLine then some (δ.set i (some (.d (.list ds)))) else none
  | some (some (.ownD ds)) => if ds.length ≤ sizeLine then some (δ.set i (some (.d (.dict ds)))) else none
  | _ => none
theorem Rep.frz {b : Option Addr} {Hf0 H0 Hf H : Hp} {δ δ' : Sl} {σ : L2.St} {i : Nat} (r : Rep b K Hf0 H0 Hf H δ σ) (e : DL.frz i δ = some δ') : ∃ Hf', Rep b K Hf0 H0 Hf' H δ' σ ∧ Sub Hf Hf' := by
  have key : ∀ (p : Addr) (o : HO) (dv : DV) (x : D), δ[i]? = some (some dv) → isOwn dv = true → σ[i]? = some (some (.ref p)) → Hf p = none → b ≠ some p → H p = some o → Da K (upd Hf p o) (.ref p) x → δ' = δ.set i (some (.d x)) → ∃ Hf', Rep b K Hf0 H0 Hf' H δ' σ ∧ Sub Hf Hf' := by
    intro p o dv x e1 ho es hfp hb hp hd e2
    subst e2
    have sb : Sub Hf (upd Hf p o) := sub_upd hfp
    refine ⟨upd Hf p o, ⟨r.wd.freeze hfp hp hb, ⟨r.st.sub.trans sb, r.st.oth, fun a h0 h1 => ?_⟩, by rw [List.length_set]; exact r.len, fun j dx ej => ?_, fun j dx p' ej oj sj => ?_, fun j k dx dy p' ne ej oj ek ok sj => ?_⟩, sb⟩
    · have : a ≠ p := fun z => h1 (by rw [z]; exact r.fresh i dv p e1 ho es)
      rw [upd_ne this]
      exact r.st.new a h0 h1
    · by_cases hj : i = j
      · subst hj
        have hl : i < δ.length := by
          rcases Nat.lt_or_ge i δ.length with h | h
          · exact h
          · rw [List.getElem?_eq_none h] at e1; cases e1
        rw [List.getElem?_set_self hl] at ej
        cases ej
        exact ⟨_, es, hd⟩
      · rw [List.getElem?_set_ne hj] at ej
        obtain ⟨v, e3, hv⟩ := r.sl j dx ej
        refine ⟨v, e3, ?_⟩
        cases dx with
        | d x => exact Da.mono sb hv
        | bag => exact hv
        | own ds =>
          obtain ⟨p', xs', rfl, h1, h2, h3, h4⟩ := hv
          have ne : p' ≠ p := fun z => r.dist i j dv (.own ds) p hj e1 ho ej rfl es (by rw [← z]; exact e3)
          exact ⟨p', xs', rfl, by rw [upd_ne ne]; exact h1, h2, h3, h4.mono sb⟩
        | ownD ds =>
          obtain ⟨p', xs', rfl, h1, h2, h3, h4⟩ := hv
          have ne : p' ≠ p := fun z => r.dist i j dv (.ownD ds) p hj e1 ho ej rfl es (by rw [← z]; exact e3)
          exact ⟨p', xs', rfl, by rw [upd_ne ne]; exact h1, h2, h3, h4.mono sb⟩
    · by_cases hj : i = j
      · subst hj
        have hl : i < δ.length := by
          rcases Nat.lt_or_ge i δ.length with h | h
          · exact h
          · rw [List.getElem?_eq_none h] at e1; cases e1
        rw [List.getElem?_set_self hl] at ej
        cases ej; cases oj
      · rw [List.getElem?_set_ne hj] at ej
        exact r.fresh j dx p' ej oj sj
    · by_cases hj : i = j
      · subst hj
        have hl : i < δ.length := by
          rcases Nat.lt_or_ge i δ.length with h | h
          · exact h
          · rw [List.getElem?_eq_none h] at e1; cases e1
        rw [List.getElem?_set_self hl] at ej
        cases ej; cases oj
      · by_cases hk : i = k
        · subst hk
          have hl : i < δ.length := by
            rcases Nat.lt_or_ge i δ.length with h | h
            · exact h
            · rw [List.getElem?_eq_none h] at e1; cases e1
          rw [List.getElem?_set_self hl] at ek
          cases ek; cases ok
        · rw [List.getElem?_set_ne hj] at ej
          rw [List.getElem?_set_ne hk] at ek
          exact r.dist j k dx dy p' ne ej oj ek ok sj
  unfold DL.frz at e
  split at e
  · rename_i ds e1
    by_cases hz : ds.length ≤ sizeLine
    · rw [if_pos hz] at e
      obtain ⟨v, es, p, xs, rfl, hfp, hb, hp, al⟩ := r.sl i _ e1
      exact key p _ _ (.list ds) e1 rfl es hfp hb hp (.list upd_same (by rw [al.length]; exact hz) (al.mono (sub_upd hfp))) (Option.some.inj e).symm
    · rw [if_neg hz] at e; cases e
  · rename_i ds e1
    by_cases hz : ds.length ≤ sizeLine
    · rw [if_pos hz] at e
      obtain ⟨v, es, p, xs, rfl, hfp, hb, hp, al⟩ := r.sl i _ e1
      exact key p _ _ (.dict ds) e1 rfl es hfp hb hp (.dict (.inl upd_same) (by rw [al.length]; exact hz) (al.mono (sub_upd hfp))) (Option.some.inj e).symm
    · rw [if_neg hz] at e; cases e
  · cases e
/-- ahead of the statements slot i is frozen -/
def dFrz (i : Nat) (s : DTs) : DTs := fun E δ => ∃ δ', frz i δ = some δ' ∧ s E δ'
theorem dss_frz {i : Nat} {st : List Stmt} {ts : TS} {s : DTs} (h : DSs X st ts s) : DSs X st ts (dFrz i s) := ⟨h.pss, fun b Hf0 H0 Hf H δ σ E E' r hq o => by
  obtain ⟨δ', e, hq⟩ := hq
  obtain ⟨Hf', r', _⟩ := r.frz e
  exact h.en b Hf0 H0 Hf' H δ' σ E E' r' hq o⟩
/-! ### a def -/
abbrev FnP (K : PySem.W.Frag) (x : Str) (st : Stmt) (f : Addr) (fd : FuncData) : Prop := FunD K x x (defArgs st) (defBody st) (defScope st) [] [] f fd
def startD (N : List Str) (ds : List DV) : Sl := ds.map some ++ List.replicate (N.length - ds.length) none
theorem rep_start {b : Option Addr} {Hf H : Hp} {N : List Str} {vs : List V} {ds : List DV} (w : Wd b Hf H) (r : RepVs b K Hf H vs ds) (no : ds.all (fun x => !isOwn x) = true) : Rep b K Hf H Hf H (startD N ds) (L2.start N vs) where
  wd := w
  st := Step.refl _ _ _
  len := by unfold startD L2.start; rw [List.length_append, List.length_append, List.length_map, List.length_map, List.length_replicate, List.length_replicate, r.length]
  sl := by
    intro i dv e
    unfold startD at e
    unfold L2.start
    have hlen := r.length
    by_cases hi : i < ds.length
    · rw [List.getElem?_append_left (by rw [List.length_map]; exact hi)] at e
      rw [List.getElem?_append_left (by rw [List.length_map, hlen]; exact hi)]
      have go : ∀ (vs : List V) (ds : List DV) (i : Nat), RepVs b K Hf H vs ds → (ds.map some)[i]? = some (some dv) → ∃ v, (vs.map some)[i]? = some (some v) ∧ RepV b K Hf H v dv := by
        intro vs
        induction vs with
        | nil => intro ds i h e; cases ds with
          | nil => simp at e
          | cons _ _ => exact h.elim
        | cons v vs ih => intro ds i h e; cases ds with
          | nil => exact h.elim
          | cons d ds =>
            cases i with
            | zero => simp at e; subst e; exact ⟨v, rfl, h.1⟩
            | succ i => obtain ⟨u, e1, h1⟩ := ih ds i h.2 (by simpa using e); exact ⟨u, by simpa using e1, h1⟩
      exact go vs ds i r e
    · rw [List.getElem?_append_right (by rw [List.length_map]; omega)] at e
      have := List.getElem?_replicate (a := (none : Option DV)) (n := N.length - ds.length) (i := i - (ds.map some).length)
      rw [this] at e
      split at e <;> cases e
  fresh := fun i dv p e ho _ => by
    exfalso
    unfold startD at e
    by_cases hi : i < ds.length
    · rw [List.getElem?_append_left (by rw [List.length_map]; exact hi), List.getElem?_map, List.getElem?_eq_getElem hi] at e
      have e' : ds[i] = dv := by simpa using e
      have := List.all_eq_true.mp no ds[i] (List.getElem_mem hi)
      rw [e', ho] at this; cases this
    · rw [List.getElem?_append_right (by rw [List.length_map]; omega), List.getElem?_replicate] at e
      split at e <;> cases e
  dist := fun i j dv dw p ne e ho _ _ _ => by
    exfalso
    unfold startD at e
    by_cases hi : i < ds.length
    · rw [List.getElem?_append_left (by rw [List.length_map]; exact hi), List.getElem?_map, List.getElem?_eq_getElem hi] at e
      have e' : ds[i] = dv := by simpa using e
      have := List.all_eq_true.mp no ds[i] (List.getElem_mem hi)
      rw [e', ho] at this; cases this
    · rw [List.getElem?_append_right (by rw [List.length_map]; omega), List.getElem?_replicate] at e
      split at e <;> cases e
/-- THE RULE of a def: from its body over trees to its promise -/
theorem okD {P : Program} {w : World} {mg : Str → Option Value} {base : Heap} {x : Str} {st : Stmt} {f : Addr} {fd : FuncData} {N ps : List Str} {k : Nat} {S : RCD} (F : FnP K x st f fd) (sc : FnScope N ps (defScope st)) (hm : Mono S) (len : ∀ ds Q, S ds Q → ds.length = ps.length)
    (hbody : ∀ (cdv : Value) (A : Around) (outer : List Env) (s : Shared) (H : Hp) (E : XK), Room k (A.deeper (PyProof.Rows.envOfC x (defScope st) s.heap.objs.size f cdv)) →
      ∃ ts t, DSs (cxOf CX0 P w K mg base N x (defScope st) f cdv A outer s H E) (defBody st) ts t ∧ ∀ ds (Q : DV → Prop), S ds Q → t { nx := fun _ => Q (.d .non), rt := Q } (startD N ds)) : FnOk P w K mg base CX0 (k + 1) f fd ps (spD K S) := by
  refine F.ok sc (fun vs H Q E h => ?_) (fun cdv A outer s H vs Q E hr h => ?_)
  · obtain ⟨b, Hf, ds, w, r, no, hS⟩ := h
    rw [r.length]
    exact len _ _ hS
  · obtain ⟨ts, t, hd, ht⟩ := hbody cdv A outer s H E hr
    obtain ⟨b, Hf, ds, w, r, no, hS⟩ := h
    exact ⟨ts, hd.pss, hd.en b Hf H Hf H (startD N ds) (L2.start N vs) _ _ (rep_start w r no) (ht ds _ hS)
      ⟨fun δ σ Hf' H' h1 r1 => h1 .non Hf' H' r1.st r1.wd .non, fun dv v Hf' H' h1 s1 w1 r1 => h1 v Hf' H' s1 w1 r1, fun _ _ _ _ h => h.elim, fun _ _ _ _ h => h.elim⟩⟩
end
end DL
/-! The data layer, part 6: dicts. -/
namespace DL
open PySem PySem.Spec L2
/-! ### pairs -/
def valD (kvs : List (Key × D)) (k : Key) : Option D := (kvs.find? fun kv => decide (kv.1 = k)).map (·.2)
def putD (kvs : List (Key × D)) (k : Key) (v : D) : List (Key × D) :=
  if (kvs.any fun kv => decide (kv.1 = k)) = true then kvs.map (fun kv => if kv.1 = k then (kv.1, v) else kv) else kvs ++ [(k, v)]
def mergeD (kvs more : List (Key × D)) : List (Key × D) := more.foldl (fun acc kv => putD acc kv.1 kv.2) kvs
def keyOfD : D → Option Key
  | .int i => some (.inl i)
  | .str x => some (.inr x)
  | _ => none
section
variable {X : Cx} {K : PySem.W.Frag} {H : Hp}
theorem Da.key {v : V} {a : D} {k : Key} (h : Da K H v a) (e : keyOfD a = some k) : v = kV k := by
  cases h <;> first | (cases e; rfl) | cases e
theorem Da.ofKey (k : Key) : Da K H (kV k) (keyD k) := by
  cases k with
  | inl i => exact .int i
  | inr x => exact .str x
theorem keyOfD_keyD (k : Key) : keyOfD (keyD k) = some k := by cases k <;> rfl
theorem DaKv.val : ∀ {vs : List (Key × V)} {ds : List (Key × D)} (k : Key), DaKv K H vs ds → (valD ds k = none ∧ valV vs k = none) ∨ ∃ v d, valD ds k = some d ∧ valV vs k = some v ∧ Da K H v d
  | _, _, k, .nil => .inl ⟨rfl, rfl⟩
  | _, _, k, .cons (k := k') (v := v) (vs := vs) (d := d) (ds := ds) h t => by
    by_cases e : k' = k
    · refine .inr ⟨v, d, ?_, ?_, h⟩
      · simp [valD, List.find?_cons, e]
      · simp [valV, List.find?_cons, e]
    · have e1 : valD ((k', d) :: ds) k = valD ds k := by simp [valD, List.find?_cons, e]
      have e2 : valV ((k', v) :: vs) k = valV vs k := by simp [valV, List.find?_cons, e]
      rw [e1, e2]
      exact DaKv.val k t
theorem DaKv.any : ∀ {vs : List (Key × V)} {ds : List (Key × D)} (k : Key), DaKv K H vs ds → (vs.any fun kv => decide (kv.1 = k)) = ds.any fun kv => decide (kv.1 = k)
  | _, _, k, .nil => rfl
  | _, _, k, .cons h t => by rw [List.any_cons, List.any_cons, DaKv.any k t]
theorem DaKv.map {v : V} {d : D} (r : Da K H v d) (k : Key) : ∀ {vs : List (Key × V)} {ds : List (Key × D)}, DaKv K H vs ds → DaKv K H (vs.map fun kv => if kv.1 = k then (kv.1, v) else kv) (ds.map fun kv => if kv.1 = k then (kv.1, d) else kv)
  | _, _, .nil => .nil
  | _, _, .cons (k := k') h t => by
    rw [List.map_cons, List.map_cons]
    by_cases e : k' = k
    · rw [if_pos e, if_pos e]
      exact .cons r (DaKv.map r k t)
    · rw [if_neg e, if_neg e]
      exact .cons h (DaKv.map r k t)
theorem DaKv.append : ∀ {vs vs' : List (Key × V)} {ds ds' : List (Key × D)}, DaKv K H vs ds → DaKv K H vs' ds' → DaKv K H (vs ++ vs') (ds ++ ds')
  | _, _, _, _, .nil, s => s
  | _, _, _, _, .cons h t, s => .cons h (DaKv.append t s)
theorem DaKv.put {vs : List (Key × V)} {ds : List (Key × D)} {v : V} {d : D} (k : Key) (h : DaKv K H vs ds) (r : Da K H v d) : DaKv K H (putK vs k v) (putD ds k d) := by
  unfold putK putD
  rw [h.any k]
  by_cases e : (ds.any fun kv => decide (kv.1 = k)) = true
  · rw [if_pos e, if_pos e]; exact h.map r k
  · rw [if_neg e, if_neg e]; exact h.append (.cons r .nil)
theorem DaKv.merge : ∀ (more : List (Key × V)) (dm : List (Key × D)) (vs : List (Key × V)) (ds : List (Key × D)), DaKv K H more dm → DaKv K H vs ds → DaKv K H (mergeK vs more) (mergeD ds dm)
  | [], _, _, _, a, h => by cases a; exact h
  | (k, v) :: r, _, vs, ds, a, h => by
    cases a with
    | @cons _ _ _ d dr x t => exact DaKv.merge r dr (putK vs k v) (putD ds k d) t (h.put k x)
theorem putD_len (kvs : List (Key × D)) (k : Key) (v : D) : (putD kvs k v).length ≤ kvs.length + 1 := by
  unfold putD; split <;> simp
theorem mergeD_len : ∀ (dm ds : List (Key × D)), (mergeD ds dm).length ≤ ds.length + dm.length
  | [], ds => Nat.le_refl _
  | (k, v) :: r, ds => by
    have h1 := mergeD_len r (putD ds k v)
    have h2 := putD_len ds k v
    show (mergeD (putD ds k v) r).length ≤ ds.length + (r.length + 1)
    omega
end
section
variable {X : Cx} {K : PySem.W.Frag} {te ta tb tc td ty tx : TE} {t u w : DT} {tt tt1 tt2 : TT} {q q1 q2 : DTt}
/-! ### d[k], k in d, d.get(k, x) -/
def dDGet (t u : DT) : DT := fun δ Q => t δ fun x => u δ fun y => ∃ kvs a k d, x = .d (.dict kvs) ∧ y = .d a ∧ keyOfD a = some k ∧ valD kvs k = some d ∧ Q (.d d)
theorem ent_dget (h1 : Ent K td t) (h2 : Ent K ty u) : Ent K (tDGet td ty) (dDGet t u) := fun b Hf0 H0 Hf H δ σ Q Q' r hq k =>
  h1 b Hf0 H0 Hf H δ σ _ _ r hq fun dv v Hf1 H1 h s1 w1 r1 =>
    h2 b Hf0 H0 Hf1 H1 δ σ _ _ (r.move s1 w1) h fun dv2 v2 Hf2 H2 h' s2 w2 r2 => by
      obtain ⟨kvs, a, ky, d, rfl, rfl, ek, ev, hq⟩ := h'
      have r1' := Da.mono s2.sub r1
      have e2 := Da.key r2 ek
      subst e2
      cases r1' with
      | dict hd z kv =>
        rcases kv.val ky with ⟨e, _⟩ | ⟨v', d', e, e', hv⟩
        · rw [ev] at e; cases e
        · rw [ev] at e; cases e
          exact ⟨_, v', rfl, .inl ⟨_, ky, w2.sub.rd hd, rfl, e'.symm⟩, k _ _ Hf2 H2 hq (s1.trans w2 s2) w2 hv⟩
theorem de_dget {o i : Expr} {pos : Pos} (hu : X.A.units + 1 < cLine) (h1 : DE X o td t) (h2 : DE X i ty u) (hs : NoSl i := by exact fun _ _ => rfl) : DE X (.Subscript o i pos) (tDGet td ty) (dDGet t u) := ⟨pe_dget hu h1.pe h2.pe hs, ent_dget h1.en h2.en⟩
def dDIn (neg : Bool) (t u : DT) : DT := fun δ Q => t δ fun x => u δ fun y => ∃ a k kvs, x = .d a ∧ keyOfD a = some k ∧ y = .d (.dict kvs) ∧ Q (.d (.bl (if neg then !(valD kvs k).isSome else (valD kvs k).isSome)))
theorem ent_din (h1 : Ent K ty t) (h2 : Ent K td u) : Ent K (tDIn ty td) (dDIn false t u) := fun b Hf0 H0 Hf H δ σ Q Q' r hq k =>
  h1 b Hf0 H0 Hf H δ σ _ _ r hq fun dv v Hf1 H1 h s1 w1 r1 =>
    h2 b Hf0 H0 Hf1 H1 δ σ _ _ (r.move s1 w1) h fun dv2 v2 Hf2 H2 h' s2 w2 r2 => by
      obtain ⟨a, ky, kvs, rfl, ek, rfl, hq⟩ := h'
      have e1 := Da.key r1 ek
      subst e1
      cases r2 with
      | dict hd z kv =>
        refine ⟨_, _, rfl, .inl ⟨_, ky, w2.sub.rd hd, rfl, rfl⟩, ?_⟩
        rcases kv.val ky with ⟨e, e'⟩ | ⟨v', d', e, e', hv⟩
        · rw [e] at hq; rw [e']; exact k _ _ Hf2 H2 hq (s1.trans w2 s2) w2 (.bl _)
        · rw [e] at hq; rw [e']; exact k _ _ Hf2 H2 hq (s1.trans w2 s2) w2 (.bl _)
theorem ent_dnotin (h1 : Ent K ty t) (h2 : Ent K td u) : Ent K (tDNotIn ty td) (dDIn true t u) := fun b Hf0 H0 Hf H δ σ Q Q' r hq k =>
  h1 b Hf0 H0 Hf H δ σ _ _ r hq fun dv v Hf1 H1 h s1 w1 r1 =>
    h2 b Hf0 H0 Hf1 H1 δ σ _ _ (r.move s1 w1) h fun dv2 v2 Hf2 H2 h' s2 w2 r2 => by
      obtain ⟨a, ky, kvs, rfl, ek, rfl, hq⟩ := h'
      have e1 := Da.key r1 ek
      subst e1
      cases r2 with
      | dict hd z kv =>
        refine ⟨_, _, rfl, .inl ⟨_, ky, w2.sub.rd hd, rfl, rfl⟩, ?_⟩
        rcases kv.val ky with ⟨e, e'⟩ | ⟨v', d', e, e', hv⟩
        · rw [e] at hq; rw [e']; exact k _ _ Hf2 H2 hq (s1.trans w2 s2) w2 (.bl _)
        · rw [e] at hq; rw [e']; exact k _ _ Hf2 H2 hq (s1.trans w2 s2) w2 (.bl _)
theorem dq_din {a c : Expr} {pos : Pos} (hu : X.A.units + 1 < cLine) (h1 : DE X a ty t) (h2 : DE X c td u) (hm : behindInMarks .In c = false := by rfl) : DQ X (.Compare a [.In] [c] pos) (tB (tDIn ty td)) (dB (dDIn false t u)) := ⟨pt_cmp (pc_din hu h1.pe h2.pe) hm, ent_tB (ent_din h1.en h2.en)⟩
theorem dq_dnotin {a c : Expr} {pos : Pos} (hu : X.A.units + 1 < cLine) (h1 : DE X a ty t) (h2 : DE X c td u) (hm : behindInMarks .NotIn c = false := by rfl) : DQ X (.Compare a [.NotIn] [c] pos) (tB (tDNotIn ty td)) (dB (dDIn true t u)) := ⟨pt_cmp (pc_dnotin hu h1.pe h2.pe) hm, ent_tB (ent_dnotin h1.en h2.en)⟩
def dDGet2 (t u w : DT) : DT := fun δ Q => t δ fun x => (∃ kvs, x = .d (.dict kvs)) ∧ u δ fun y => w δ fun z => ∃ kvs a k d0, x = .d (.dict kvs) ∧ y = .d a ∧ keyOfD a = some k ∧ z = .d d0 ∧ Q (.d ((valD kvs k).getD d0))
theorem ent_dget2 (h1 : Ent K td t) (h2 : Ent K ty u) (h3 : Ent K tx w) : Ent K (tDGet2 td ty tx) (dDGet2 t u w) := fun b Hf0 H0 Hf H δ σ Q Q' r hq k =>
  h1 b Hf0 H0 Hf H δ σ _ _ r hq fun dv v Hf1 H1 h s1 w1 r1 => by
    obtain ⟨⟨kvs, rfl⟩, h⟩ := h
    have r1' := r1
    cases r1 with
    | dict hd z kv =>
      refine ⟨_, rfl, .inl ⟨_, w1.sub.rd hd⟩, ?_⟩
      refine h2 b Hf0 H0 Hf1 H1 δ σ _ _ (r.move s1 w1) h fun dv2 v2 Hf2 H2 h' s2 w2 r2 => ?_
      refine h3 b Hf0 H0 Hf2 H2 δ σ _ _ ((r.move s1 w1).move s2 w2) h' fun dv3 v3 Hf3 H3 h3' s3 w3 r3 => ?_
      obtain ⟨kvs', a, ky, d0, e0, rfl, ek, rfl, hq⟩ := h3'
      cases e0
      have e2 := Da.key r2 ek
      subst e2
      have kv3 := (kv.mono s2.sub).mono s3.sub
      refine ⟨_, .inl ⟨_, ky, w3.sub.rd (s3.sub.rd (s2.sub.rd hd)), rfl, rfl⟩, ?_⟩
      have st := (s1.trans w2 s2).trans w3 s3
      rcases kv3.val ky with ⟨e, e'⟩ | ⟨v', d', e, e', hv⟩
      · rw [e] at hq; rw [e']; exact k _ _ Hf3 H3 hq st w3 r3
      · rw [e] at hq; rw [e']; exact k _ _ Hf3 H3 hq st w3 hv
theorem de_dget2 {o e f : Expr} {apos cpos : Pos} (hu : X.A.units + 1 < cLine) (h1 : DE X o td t) (h2 : DE X e ty u) (h3 : DE X f tx w) (m : M2 X o "get" apos e f cpos := by exact ⟨rfl, rfl, rfl, rfl⟩) : DE X (.Call (.Attribute o "get" apos) [e, f] [] cpos) (tDGet2 td ty tx) (dDGet2 t u w) := ⟨pe_dget2 hu h1.pe h2.pe h3.pe m, ent_dget2 h1.en h2.en h3.en⟩
/-! ### {}, dict(..) -/
def dDNew : DT := fun _ Q => Q (.d (.dict []))
theorem ent_dnew : Ent K tDNewK dDNew := fun b Hf0 H0 Hf H δ σ Q Q' r hq k p hp => by
  obtain ⟨s2, w2⟩ := Step.laid (o := .dK []) r.wd hp
  exact k _ _ _ _ hq s2 w2 (.dict (.inl upd_same) (Nat.zero_le _) .nil)
theorem de_dnew {pos : Pos} : DE X (.Dict [] [] pos) tDNewK dDNew := ⟨pe_dnewK, ent_dnew⟩
/-- pairs of a list of tuples -/
def pairsD : List D → Option (List (Key × D))
  | [] => some []
  | .tup [a, v] :: r => (match keyOfD a with
    | some k => (pairsD r).map ((k, v) :: ·)
    | none => none)
  | _ :: _ => none
def rcDictP : RCD := rc1 fun a Q => ∃ xs kvs, a = .list xs ∧ pairsD xs = some kvs ∧ Q (.d (.dict (mergeD [] kvs)))
abbrev rDictP (K : PySem.W.Frag) : List V → Hp → VK → Prop := fun xs H Q => ∃ (a : Addr) (ps : List Addr) (kvs : List (Key × V)), xs = [.ref a] ∧ SqL K H a (ps.map V.ref) ∧ Paired (fun p kv => SqT K H p [kV kv.1, kv.2]) ps kvs ∧
    ∀ p, H p = none → Q (.ref p) (upd H p (.dK (mergeK [] kvs)))
theorem DaAll.pairs {H : Hp} : ∀ {vs : List V} {xs : List D} {kvs : List (Key × D)}, DaAll K H vs xs → pairsD xs = some kvs → ∃ (ps : List Addr) (kvv : List (Key × V)), vs = ps.map V.ref ∧ Paired (fun p kv => SqT K H p [kV kv.1, kv.2]) ps kvv ∧ DaKv K H kvv kvs ∧ kvs.length = xs.length
  | _, [], _, .nil, e => by cases e; exact ⟨[], [], rfl, .nil, .nil, rfl⟩
  | _, .tup [a, y] :: r, kvs, .cons h t, e => by
    cases ek : keyOfD a with
    | none => simp [pairsD, ek] at e
    | some k =>
      cases er : pairsD r with
      | none => simp [pairsD, ek, er] at e
      | some kr =>
        simp [pairsD, ek, er] at e
        subst e
        obtain ⟨ps, kvv, e1, p1, d1, l1⟩ := DaAll.pairs t er
        cases h with
        | tup hs z al =>
          cases al with
          | cons ha al =>
            cases al with
            | cons hy al =>
              cases al
              have e2 := Da.key ha ek
              subst e2
              exact ⟨_ :: ps, (k, _) :: kvv, by rw [e1]; rfl, .cons hs p1, .cons hy d1, by simp [l1]⟩
  | _, .non :: _, _, _, e => by cases e
  | _, .bl _ :: _, _, _, e => by cases e
  | _, .int _ :: _, _, _, e => by cases e
  | _, .str _ :: _, _, _, e => by cases e
  | _, .list _ :: _, _, _, e => by cases e
  | _, .dict _ :: _, _, _, e => by cases e
  | _, .obj _ _ :: _, _, _, e => by cases e
  | _, .tup [] :: _, _, _, e => by cases e
  | _, .tup [_] :: _, _, _, e => by cases e
  | _, .tup (_ :: _ :: _ :: _) :: _, _, _, e => by cases e
theorem en_dictP : EntC K (rDictP K) rcDictP := entc1 fun b Hf H v a Q Q' w hv hq k => by
  obtain ⟨xs, kvs, rfl, e, hq⟩ := hq
  cases hv with
  | list h z al =>
    obtain ⟨ps, kvv, rfl, p1, d1, l1⟩ := al.pairs e
    have p2 : Paired (fun p kv => SqT K H p [kV kv.1, kv.2]) ps kvv := Paired.mapP p1 fun _ _ h => w.sub.seqT h
    refine ⟨_, ps, kvv, rfl, SqL.of (w.sub _ _ h), p2, fun p hp => ?_⟩
    obtain ⟨s2, w2⟩ := Step.laid (o := .dK (mergeK [] kvv)) w hp
    have dk := DaKv.merge _ _ [] [] d1 .nil
    refine k _ _ _ _ hq s2 w2 (.dict (.inl upd_same) ?_ (dk.mono s2.sub))
    have l2 := mergeD_len kvs []
    have l3 := al.length
    rw [dk.length]
    have e0 : ([] : List (Key × D)).length = 0 := rfl
    omega
/-- a new dict -/
def EntFD (K : PySem.W.Frag) (te : TE) (t : Sl → (List (Key × D) → Prop) → Prop) : Prop := ∀ (b : Option Addr) (Hf0 H0 Hf H : Hp) (δ : Sl) (σ : L2.St) (Q : List (Key × D) → Prop) (Q' : VK), Rep b K Hf0 H0 Hf H δ σ → t δ Q →
  (∀ ds p kvs Hf' H', Q ds → Step b Hf H Hf' H' → Wd b Hf' H' → H p = none → Hf' p = none → b ≠ some p → H' p = some (.dK kvs) → kvs.length ≤ sizeLine → DaKv K Hf' kvs ds → Q' (.ref p) H') → te σ H Q'
def dAsgOD (t : Sl → (List (Key × D) → Prop) → Prop) (i : Nat) : DTs := fun E δ => t δ fun ds => E.nx (δ.set i (some (.ownD ds)))
theorem ent_asgOD {t : Sl → (List (Key × D) → Prop) → Prop} {i : Nat} (h : EntFD K te t) : EntS K (tAsg te (gName i)) (dAsgOD t i) := fun b Hf0 H0 Hf H δ σ E E' r hq o =>
  h b Hf0 H0 Hf H δ σ _ _ r hq fun ds p xs Hf1 H1 hr s1 w1 hn hfn hb hp z al => by
    have r1 := r.move s1 w1
    refine o.nx _ _ Hf1 H1 hr (r1.setO rfl ⟨p, xs, rfl, hfn, hb, hp, al⟩ ?_ fun j dv e ho hj => ?_)
    · cases e : H0 p with
      | none => rfl
      | some o =>
        rw [r.st.oth p o e hb] at hn; cases hn
    · obtain ⟨v, e1, hv⟩ := r.sl j dv e
      rw [hj] at e1
      cases e1
      cases dv with
      | own ds => obtain ⟨p', xs', ep, _, _, hp', _⟩ := hv; cases ep; rw [hn] at hp'; cases hp'
      | ownD ds => obtain ⟨p', xs', ep, _, _, hp', _⟩ := hv; cases ep; rw [hn] at hp'; cases hp'
      | d _ => cases ho
      | bag => cases ho
def dDictD (u : DTa) : Sl → (List (Key × D) → Prop) → Prop := fun δ Q => u δ fun dvs => ∃ kvs, dvs = [.d (.dict kvs)] ∧ Q kvs
abbrev rDictD : List V → Hp → VK → Prop := fun xs H Q => ∃ (a : Addr) (kvs : List (Key × V)), xs = [.ref a] ∧ Rd H a (.dK kvs) ∧ ∀ p, H p = none → Q (.ref p) (upd H p (.dK kvs))
theorem entf_dictD {ta : TA} {u : DTa} (h : EntA K ta u) : EntFD K (tCB rDictD ta) (dDictD u) := fun b Hf0 H0 Hf H δ σ Q Q' r hq k =>
  h b Hf0 H0 Hf H δ σ _ _ r hq fun dvs vs Hf1 H1 h s1 w1 r1 => by
    obtain ⟨kvs, rfl, hq⟩ := h
    match vs, r1 with
    | [v], ⟨rv, _⟩ =>
      cases rv with
      | @dict _ kvv _ hd z kv =>
        refine ⟨_, kvv, rfl, w1.sub.rd hd, fun p hp => ?_⟩
        obtain ⟨s2, w2⟩ := Step.laidO (o := .dK kvv) w1 hp
        have hb : b ≠ some p := fun hb => by
          subst hb
          obtain ⟨_, _, _, _, _, _, h1, _⟩ := w1.bag
          rw [hp] at h1; cases h1
        refine k kvs p _ Hf1 _ hq (s1.trans w2 s2) w2 ?_ (w1.fresh hp) hb upd_same z kv
        cases e : H p with
        | none => rfl
        | some o => rw [s1.oth p o e hb] at hp; cases hp
theorem ds_setDictD {i : Nat} {x : Str} {e : Expr} {ta : TA} {u : DTa} {pos pos' p p2 : Pos} (hN : X.N.Nodup) (hi : X.N[i]? = some x) (hx : Loc X.env.scope x) (hg : Gl X "dict") (hm : X.mg "dict" = none) (h : DA X [e] ta u)
    (he : starEach [e] X.env = (false, eval e X.env) :: starEach [] X.env := by rfl) (hpl : (backTo p2 (starEach [] X.env)).any (·.1) = false := by rfl)
    (hs : swapsWith (.Call (.Name "dict" p) [e] [] p2) (some (.Name x pos')) pos.line X.env = pure false := by rfl) (hf : X.fn x = true ∨ X.env.scope.names.lookup x = some .local := by first | exact .inl rfl | exact .inr rfl | assumption) :
    DS X (.Assign [.Name x pos'] (.Call (.Name "dict" p) [e] [] p2) pos) (tAsg (tCB rDictD ta) (gName i)) (dAsgOD (dDictD u) i) := ⟨ps_set hN hi hx (pe_callTy call_dictD hg hm (by decide +kernel) h.pa (by decide) (by decide) he hpl) hs hf, ent_asgOD (entf_dictD h.en)⟩
/-- x[k] = v, x a dict of one's own -/
def dDPut (i : Nat) (u w : DT) : DTs := fun E δ => w δ fun z => (∃ ds, δ[i]? = some (some (.ownD ds))) ∧ u δ fun y => ∃ ds a k d, δ[i]? = some (some (.ownD ds)) ∧ y = .d a ∧ keyOfD a = some k ∧ z = .d d ∧ ds.length < sizeLine ∧ E.nx (δ.set i (some (.ownD (putD ds k d))))
theorem ent_dput {i : Nat} (h2 : Ent K ty u) (h3 : Ent K tx w) : EntS K (sDPut (tVar i) ty tx) (dDPut i u w) := fun b Hf0 H0 Hf H δ σ E E' r hq o =>
  h3 b Hf0 H0 Hf H δ σ _ _ r hq fun dz vz Hf1 H1 h1 s1 w1 r1 => by
    obtain ⟨⟨ds0, e0⟩, h1⟩ := h1
    have rr := r.move s1 w1
    obtain ⟨v, es, p, kvs, rfl, hfp, hb, hp, kv⟩ := rr.sl i _ e0
    refine ⟨_, es, ?_⟩
    refine h2 b Hf0 H0 Hf1 H1 δ σ _ _ rr h1 fun dy vy Hf2 H2 h' s2 w2 r2 => ?_
    obtain ⟨ds, a, ky, d, e1, rfl, ek, rfl, z, hr⟩ := h'
    rw [e0] at e1
    cases e1
    have e2 := Da.key r2 ek
    subst e2
    have hp2 := s2.oth p _ hp hb
    have hf2 := s2.new p hfp (by rw [hp]; exact fun z => nomatch z)
    refine ⟨p, _, rfl, DPut.k hp2 (by rw [kv.length]; exact z), ?_⟩
    exact o.nx _ _ Hf2 _ hr ((rr.move s2 w2).write e0 rfl es hf2 hb rfl ⟨p, _, rfl, hf2, hb, upd_same, (kv.mono s2.sub).put ky (Da.mono s2.sub r1)⟩)
theorem ds_dput {i : Nat} {x : Str} {k e : Expr} {p0 pos' pos : Pos} (hu : X.A.units + 1 < cLine) (hv : PE X (.Name x p0) (tVar i)) (h2 : DE X k ty u) (h3 : DE X e tx w) (hs : swapsWith e (some (.Subscript (.Name x p0) k pos')) pos.line X.env = pure false := by rfl) :
    DS X (.Assign [.Subscript (.Name x p0) k pos'] e pos) (sDPut (tVar i) ty tx) (dDPut i u w) := ⟨ps_dput hu hv h2.pe h3.pe hs, ent_dput h2.en h3.en⟩
end
/-! ### for k in d -/
def DK (kvs : List (Key × V)) (o : HO) : Prop := o = .dK kvs ∨ ∃ ob, o = .frz ob (.dK kvs)
def put (d : Addr) (f : HO) (G : Hp) : Hp := fun a => if a = d ∧ G a ≠ none then some f else G a
theorem put_ne {d a : Addr} {f : HO} {G : Hp} (h : a ≠ d) : put d f G a = G a := by unfold put; rw [if_neg fun z => h z.1]
theorem put_at {d : Addr} {f o : HO} {G : Hp} (h : G d = some o) : put d f G d = some f := by unfold put; rw [if_pos ⟨rfl, by rw [h]; exact fun z => nomatch z⟩]
theorem put_none {d : Addr} {f : HO} {G : Hp} (h : G d = none) : put d f G = G := by
  funext a
  by_cases e : a = d
  · subst e; unfold put; rw [if_neg fun z => z.2 h]
  · exact put_ne e
theorem put_isnone {d a : Addr} {f : HO} {G : Hp} : put d f G a = none ↔ G a = none := by
  unfold put
  by_cases h : a = d ∧ G a ≠ none
  · rw [if_pos h]; exact ⟨(fun z => by cases z), fun z => absurd z h.2⟩
  · rw [if_neg h]
theorem put_upd {d : Addr} {f o : HO} {G : Hp} (h : G d = some o) : upd G d f = put d f G := by
  funext a
  by_cases e : a = d
  · subst e; rw [upd_same, put_at h]
  · rw [upd_ne e, put_ne e]
theorem put_put {d : Addr} {f g : HO} {G : Hp} : put d f (put d g G) = put d f G := by
  funext a
  by_cases e : a = d
  · subst e
    cases h : G a with
    | none => rw [put_none (put_isnone.mpr h), put_none h, put_none h]
    | some o => rw [put_at (put_at h), put_at h]
  · rw [put_ne e, put_ne e, put_ne e]
theorem put_id {d : Addr} {f : HO} {G : Hp} (h : G d = none ∨ G d = some f) : put d f G = G := by
  rcases h with h | h
  · exact put_none h
  · funext a
    by_cases e : a = d
    · subst e; rw [put_at h, h]
    · exact put_ne e
section
variable {K : PySem.W.Frag} {H : Hp} {d : Addr} {kvs : List (Key × V)} {o1 o2 : HO}
theorem DK.notlst {xs : List V} (h : DK kvs o1) : o1 ≠ .lst xs := by rintro rfl; rcases h with h | ⟨_, h⟩ <;> cases h
theorem DK.nottup {xs : List V} (h : DK kvs o1) : o1 ≠ .tup xs := by rintro rfl; rcases h with h | ⟨_, h⟩ <;> cases h
theorem DK.notins {C dx : Addr} {fs : List (Str × V)} (h : DK kvs o1) : o1 ≠ .ins C dx fs := by rintro rfl; rcases h with h | ⟨_, h⟩ <;> cases h
theorem DK.notfrt {ob : Obj} {xs : List V} (h : DK kvs o1) : o1 ≠ .frz ob (.tup xs) := by rintro rfl; rcases h with h | ⟨_, h⟩ <;> cases h
theorem DK.rd {kvs' : List (Key × V)} {G : Hp} {a : Addr} (h : DK kvs o1) (e : G a = some o1) (r : Rd G a (.dK kvs')) : kvs' = kvs := by
  rcases r with r | ⟨ob, r⟩ <;> rw [e] at r <;> cases r <;> rcases h with h | ⟨_, h⟩ <;> cases h <;> rfl
theorem DK.rdOf {G : Hp} {a : Addr} (h : DK kvs o1) (e : G a = some o1) : Rd G a (.dK kvs) := by
  rcases h with h | ⟨ob, h⟩
  · subst h; exact .inl e
  · subst h; exact .inr ⟨ob, e⟩
mutual
theorem Da.put (h1 : DK kvs o1) (h2 : DK kvs o2) (e : H d = some o1) : ∀ {v : V} {x : D}, Da K H v x → Da K (DL.put d o2 H) v x
  | _, _, .non => .non
  | _, _, .bl b => .bl b
  | _, _, .int i => .int i
  | _, _, .str x => .str x
  | _, _, .list (a := a) h z al => by
    have ne : a ≠ d := fun q => by subst q; rw [e] at h; exact h1.notlst (Option.some.inj h)
    exact .list (by rw [put_ne ne]; exact h) z (DaAll.put h1 h2 e al)
  | _, _, .tup (a := a) h z al => by
    refine .tup ?_ z (DaAll.put h1 h2 e al)
    rcases h with (h | ⟨ob, h⟩) | h
    · have ne : a ≠ d := fun q => by subst q; rw [e] at h; exact h1.nottup (Option.some.inj h)
      exact .inl (.inl (by rw [put_ne ne]; exact h))
    · have ne : a ≠ d := fun q => by subst q; rw [e] at h; exact h1.notfrt (Option.some.inj h)
      exact .inl (.inr ⟨ob, by rw [put_ne ne]; exact h⟩)
    · exact .inr h
  | _, _, .dict (a := a) h z al => by
    refine .dict ?_ z (DaKv.putD' h1 h2 e al)
    by_cases q : a = d
    · subst q
      rw [h1.rd e h]
      exact h2.rdOf (put_at e)
    · rcases h with h | ⟨ob, h⟩
      · exact .inl (by rw [put_ne q]; exact h)
      · exact .inr ⟨ob, by rw [put_ne q]; exact h⟩
  | _, _, .obj (a := a) h ec al => by
    have ne : a ≠ d := fun q => by subst q; rw [e] at h; exact h1.notins (Option.some.inj h)
    exact .obj (by rw [put_ne ne]; exact h) ec (DaFs.put h1 h2 e al)
theorem DaAll.put (h1 : DK kvs o1) (h2 : DK kvs o2) (e : H d = some o1) : ∀ {v : List V} {x : List D}, DaAll K H v x → DaAll K (DL.put d o2 H) v x
  | _, _, .nil => .nil
  | _, _, .cons h t => .cons (Da.put h1 h2 e h) (DaAll.put h1 h2 e t)
theorem DaKv.putD' (h1 : DK kvs o1) (h2 : DK kvs o2) (e : H d = some o1) : ∀ {v : List (Key × V)} {x : List (Key × D)}, DaKv K H v x → DaKv K (DL.put d o2 H) v x
  | _, _, .nil => .nil
  | _, _, .cons h t => .cons (Da.put h1 h2 e h) (DaKv.putD' h1 h2 e t)
theorem DaFs.put (h1 : DK kvs o1) (h2 : DK kvs o2) (e : H d = some o1) : ∀ {v : List (Str × V)} {x : List (Str × D)}, DaFs K H v x → DaFs K (DL.put d o2 H) v x
  | _, _, .nil => .nil
  | _, _, .cons h t => .cons (Da.put h1 h2 e h) (DaFs.put h1 h2 e t)
end
variable {b : Option Addr} {Hf Hf0 H0 : Hp}
theorem Sub.put {G G' : Hp} (s : Sub G G') : Sub (DL.put d o2 G) (DL.put d o2 G') := fun a o h => by
  by_cases q : a = d
  · subst q
    cases e : G a with
    | none => rw [put_none e] at h; rw [e] at h; cases h
    | some u => rw [put_at e] at h; rw [put_at (s a u e)]; exact h
  · rw [put_ne q] at h ⊢
    exact s a o h
theorem Wd.put (h1 : DK kvs o1) (w : Wd b Hf H) (e : Hf d = some o1) : Wd b (DL.put d o2 Hf) (DL.put d o2 H) := by
  refine ⟨w.sub.put, ?_⟩
  cases b with
  | none => trivial
  | some a =>
    obtain ⟨h0, dd, m, c, l, cs, hH, hl, r⟩ := w.bag
    have na : a ≠ d := fun q => by subst q; rw [h0] at e; cases e
    have nl : l ≠ d := fun q => by subst q; rw [e] at hl; exact h1.notlst (Option.some.inj hl)
    exact ⟨by rw [put_ne na]; exact h0, dd, m, c, l, cs, by rw [put_ne na]; exact hH, by rw [put_ne nl]; exact hl, r⟩
theorem Step.put {Hf' H' : Hp} (s : Step b Hf H Hf' H') : Step b (DL.put d o2 Hf) (DL.put d o2 H) (DL.put d o2 Hf') (DL.put d o2 H') where
  sub := s.sub.put
  oth := fun a o h hb => by
    by_cases q : a = d
    · subst q
      cases e : H a with
      | none => rw [put_none e] at h; rw [e] at h; cases h
      | some u => rw [put_at e] at h; rw [put_at (s.oth a u e hb)]; exact h
    · rw [put_ne q] at h ⊢
      exact s.oth a o h hb
  new := fun a h0 h1 => put_isnone.mpr (s.new a (put_isnone.mp h0) fun z => h1 (put_isnone.mpr z))
theorem RepV.put (h1 : DK kvs o1) (h2 : DK kvs o2) (e : Hf d = some o1) {v : V} : ∀ {dv : DV}, RepV b K Hf H v dv → RepV b K (DL.put d o2 Hf) (DL.put d o2 H) v dv
  | .d _, h => Da.put h1 h2 e h
  | .bag, h => h
  | .own _, ⟨p, xs, ep, h0, hb, hp, al⟩ => by
    have ne : p ≠ d := fun q => by subst q; rw [h0] at e; cases e
    exact ⟨p, xs, ep, by rw [put_ne ne]; exact h0, hb, by rw [put_ne ne]; exact hp, DaAll.put h1 h2 e al⟩
  | .ownD _, ⟨p, xs, ep, h0, hb, hp, al⟩ => by
    have ne : p ≠ d := fun q => by subst q; rw [h0] at e; cases e
    exact ⟨p, xs, ep, by rw [put_ne ne]; exact h0, hb, by rw [put_ne ne]; exact hp, DaKv.putD' h1 h2 e al⟩
theorem Rep.put {δ : Sl} {σ : L2.St} (h1 : DK kvs o1) (h2 : DK kvs o2) (e : Hf d = some o1) (r : Rep b K Hf0 H0 Hf H δ σ) : Rep b K (DL.put d o2 Hf0) (DL.put d o2 H0) (DL.put d o2 Hf) (DL.put d o2 H) δ σ where
  wd := r.wd.put h1 e
  st := r.st.put
  len := r.len
  sl := fun i dv ei => by
    obtain ⟨v, e1, hv⟩ := r.sl i dv ei
    exact ⟨v, e1, hv.put h1 h2 e⟩
  fresh := fun i dv p ei ho es => put_isnone.mpr (r.fresh i dv p ei ho es)
  dist := r.dist
end
section
variable {X : Cx} {K : PySem.W.Frag} {te : TE} {t : DT}
/-- the loop's core -/
theorem for_core {b : Option Addr} {Hf1 H0 H1 : Hp} {δ : Sl} {σ : L2.St} {J : It} {ds : List D} {E : DEnds} {E' : Ends} {g : TG} {d : DG} {tb : TS} {sb : DTs} (hg : EntG K g d) (hb : EntS K tb sb) (r1 : Rep b K Hf1 H0 Hf1 H1 δ σ) (o1 : EndsOk b K Hf1 H0 E E') (wk : Walk b K Hf1 J ds) (hr : dFor d sb E ds δ) :
    ∃ W : Nat → Nat → L2.St → Hp → Prop, (∃ m, W 0 m σ H1) ∧ ∀ i m σ H, W i m σ H →
      (J.stop i H ∧ E'.nx σ H) ∨ (J.go i H ∧ ∃ N : L2.St → Hp → Prop, (∀ σ' H', N σ' H' → ∃ m', m' < m ∧ W (i + 1) m' σ' H') ∧ ∀ x H', J.yld i H x H' → g x σ H' fun σ2 H2 => tb { E' with nx := N, ct := N, bk := E'.nx } σ2 H2) := by
  refine ⟨fun i m σ' H' => m = ds.length - i ∧ i ≤ ds.length ∧ ∃ Hf' δ', Rep b K Hf1 H0 Hf' H' δ' σ' ∧ dFor d sb E (ds.drop i) δ', ⟨ds.length, by simp, Nat.zero_le _, Hf1, δ, r1, hr⟩, ?_⟩
  rintro i m σ' H' ⟨rfl, hi', Hf', δ', r', hf⟩
  by_cases hlt : i < ds.length
  · refine .inr ⟨wk.go i Hf' H' r'.st.sub r'.wd hlt, fun σ2 H2 => ∃ Hf2 δ2, Rep b K Hf1 H0 Hf2 H2 δ2 σ2 ∧ dFor d sb E (ds.drop (i + 1)) δ2, fun σ2 H2 ⟨Hf2, δ2, r2, h2⟩ => ⟨ds.length - (i + 1), by omega, rfl, hlt, Hf2, δ2, r2, h2⟩, fun x H2 hy => ?_⟩
    obtain ⟨Hf2, dx, s2, w2, e, hx⟩ := wk.yld i Hf' H' x H2 r'.st.sub r'.wd hlt hy
    have ed : ds.drop i = dx :: ds.drop (i + 1) := by
      rw [List.drop_eq_getElem_cons hlt]
      congr 1
      rw [List.getElem?_eq_getElem hlt] at e
      exact Option.some.inj e
    rw [ed] at hf
    exact hg b Hf1 H0 Hf2 H2 δ' σ' x dx _ _ (r'.move s2 w2) hx hf fun δ3 σ3 h3 r3 _ =>
      hb b Hf1 H0 Hf2 H2 δ3 σ3 _ _ r3 h3 ⟨fun δ4 σ4 Hf4 H4 h4 r4 => ⟨Hf4, δ4, r4, h4⟩, o1.rt, o1.nx, fun δ4 σ4 Hf4 H4 h4 r4 => ⟨Hf4, δ4, r4, h4⟩⟩
  · have e : i = ds.length := by omega
    subst e
    rw [List.drop_length] at hf
    exact .inl ⟨wk.stop Hf' H' r'.st.sub r'.wd, o1.nx δ' σ' Hf' H' hf r'⟩
theorem walk_keys {b : Option Addr} {Hf1 : Hp} {a : Addr} {od : Obj} {kvs : List (Key × V)} (h : Hf1 a = some (.frz od (.dK kvs))) (z : kvs.length ≤ sizeLine) : Walk b K Hf1 (Itk a od kvs) (kvs.map fun kv => keyD kv.1) where
  go := fun i Hf H s w hi => ⟨w.sub _ _ (s _ _ h), by rw [List.length_map] at hi; exact hi⟩
  yld := fun i Hf H x H' s w hi hy => by
    obtain ⟨rfl, k, v, e, rfl⟩ := hy
    exact ⟨Hf, keyD k, Step.refl _ _ _, w, by rw [List.getElem?_map, e]; rfl, Da.ofKey k⟩
  stop := fun Hf H s w => ⟨w.sub _ _ (s _ _ h), by rw [List.length_map]; exact Nat.le_refl _⟩
  len := by rw [List.length_map]; exact z
theorem DaKv.keys {H : Hp} : ∀ {v : List (Key × V)} {x : List (Key × D)}, DaKv K H v x → (v.map fun kv => keyD kv.1) = x.map fun kv => keyD kv.1
  | _, _, .nil => rfl
  | _, _, .cons h t => by rw [List.map_cons, List.map_cons, DaKv.keys t]
def iK (t : DT) : DTi := fun δ Q => t δ fun x => ∃ kvs, x = .d (.dict kvs) ∧ Q (kvs.map fun kv => keyD kv.1)
/-- for k in d, d a name -/
def tForK (i : Nat) (g : TG) (tb : TS) : TS := fun D σ H => tLock (tFor (iKeys (tVar i)) g tb) D σ H ∨ tFor (iKeys (tVar i)) g tb D σ H
theorem ent_forK {i : Nat} {g : TG} {d : DG} {tb : TS} {sb : DTs} (hg : EntG K g d) (hb : EntS K tb sb) : EntS K (tForK i g tb) (dForS (iK (dVar i)) d sb) := fun b Hf0 H0 Hf H δ σ E E' r hq o => by
  obtain ⟨dv, e, kvs, rfl, hr⟩ := hq
  obtain ⟨v, es, hv⟩ := r.sl i _ e
  cases hv with
  | @dict a kvv _ hd z kv =>
    have r1 : Rep b K Hf H0 Hf H δ σ := r.re
    have o1 : EndsOk b K Hf H0 E E' := o.re r.st
    rw [← kv.keys] at hr
    rcases hd with hd | ⟨ob, hd⟩
    · refine .inl ⟨a, .dK kvv, r.wd.sub _ _ hd, trivial, fun od => ?_⟩
      have hH := r.wd.sub _ _ hd
      have ba : b ≠ some a := fun z => by
        subst z
        have z := r.wd.bag.1
        rw [hd] at z; cases z
      have k1 : DK kvv (.dK kvv) := .inl rfl
      have k2 : DK kvv (.frz od (.dK kvv)) := .inr ⟨od, rfl⟩
      rw [put_upd hH]
      have rl := r1.put (o2 := .frz od (.dK kvv)) k1 k2 hd
      have hl : DL.put a (.frz od (.dK kvv)) Hf a = some (.frz od (.dK kvv)) := put_at hd
      have idf : DL.put a (.dK kvv) (DL.put a (.frz od (.dK kvv)) Hf) = Hf := by rw [put_put]; exact put_id (.inr hd)
      have id0 : DL.put a (.dK kvv) (DL.put a (.frz od (.dK kvv)) H0) = H0 := by
        rw [put_put]
        refine put_id ?_
        cases e0 : H0 a with
        | none => exact .inl rfl
        | some u =>
          have z := r.st.oth a u e0 ba
          rw [hH] at z
          cases z
          exact .inr rfl
      have back : ∀ {Hf2 H2 : Hp} {δ2 : Sl} {σ2 : L2.St}, Rep b K (DL.put a (.frz od (.dK kvv)) Hf) (DL.put a (.frz od (.dK kvv)) H0) Hf2 H2 δ2 σ2 → H2 a = some (.frz od (.dK kvv)) ∧ Rep b K Hf H0 (DL.put a (.dK kvv) Hf2) (upd H2 a (.dK kvv)) δ2 σ2 := fun {Hf2 H2 δ2 σ2} r2 => by
        have e2 := r2.st.sub _ _ hl
        have e3 := r2.wd.sub _ _ e2
        have z := r2.put (o2 := .dK kvv) k2 k1 e2
        rw [idf, id0] at z
        exact ⟨e3, by rw [put_upd e3]; exact z⟩
      refine ⟨_, es, a, od, rfl, .inl ⟨kvv, by rw [put_at hH], ?_⟩⟩
      refine for_core hg hb rl ⟨fun δ2 σ2 Hf2 H2 h2 r2 => ?_, fun dv v Hf2 H2 h2 s2 w2 r2 => ?_, fun δ2 σ2 Hf2 H2 h2 r2 => ?_, fun δ2 σ2 Hf2 H2 h2 r2 => ?_⟩ (walk_keys hl z) hr
      · obtain ⟨e3, r3⟩ := back r2
        exact ⟨e3, o1.nx δ2 σ2 _ _ h2 r3⟩
      · have e2 := s2.sub _ _ hl
        have e3 := w2.sub _ _ e2
        refine ⟨e3, ?_⟩
        have sp := s2.put (d := a) (o2 := .dK kvv)
        rw [idf, id0] at sp
        rw [put_upd e3]
        exact o1.rt dv v _ _ h2 sp (w2.put k2 e2) (r2.put k2 k1 e2)
      · obtain ⟨e3, r3⟩ := back r2
        exact ⟨e3, o1.bk δ2 σ2 _ _ h2 r3⟩
      · obtain ⟨e3, r3⟩ := back r2
        exact ⟨e3, o1.ct δ2 σ2 _ _ h2 r3⟩
    · exact .inr ⟨_, es, a, ob, rfl, .inl ⟨kvv, r.wd.sub _ _ hd, for_core hg hb r1 o1 (walk_keys hd z) hr⟩⟩
theorem ds_forK {i : Nat} {x : Str} {tg : Expr} {body : List Stmt} {g : TG} {d : DG} {tb : TS} {sb : DTs} {p0 pos : Pos} (hp : PassesOwn (model X.prog X.w) X.A X.env X.xe) (hc : X.calm = true) (hv : PE X (.Name x p0) (tVar i)) (hg : DGm X tg g d) (hb : DSs X body tb sb)
    (hs : ∀ y, foldedSetIterable (.Name x p0) X.env y = pure y := by intro _; rfl) : DS X (.For tg (.Name x p0) body [] pos) (tForK i g tb) (dForS (iK (dVar i)) d sb) := by
  have h1 := ps_for (pos := pos) hp hc (pi_keys hv) hg.pg hb.pss hs
  have h2 := ps_lock h1
  refine ⟨⟨fun pins s σ H D I h => ?_⟩, ent_forK hg.en hb.en⟩
  rcases h with h | h
  · exact h2.run pins s σ H D I h
  · exact h1.run pins s σ H D I h
end
end DL
/-! The data layer, part 7: two clauses in a comprehension, targets that are tuples, texts. -/
namespace DL
open PySem PySem.Spec L2
/-- all but the list at D stays -/
structure StepX (D : Addr) (b : Option Addr) (Hf H Hf' H' : Hp) : Prop where
  sub : Sub Hf Hf'
  oth : ∀ a o, H a = some o → b ≠ some a → a ≠ D → H' a = some o
  new : ∀ a, Hf a = none → H a ≠ none → Hf' a = none
theorem Step.x {D : Addr} {b : Option Addr} {Hf H Hf' H' : Hp} (s : Step b Hf H Hf' H') : StepX D b Hf H Hf' H' := ⟨s.sub, fun a o h hb _ => s.oth a o h hb, s.new⟩
theorem StepX.trans {D : Addr} {b : Option Addr} {Hf H Hf1 H1 Hf2 H2 : Hp} (s : StepX D b Hf H Hf1 H1) (w : Wd b Hf2 H2) (hD : Hf2 D = none) (t : StepX D b Hf1 H1 Hf2 H2) : StepX D b Hf H Hf2 H2 where
  sub := s.sub.trans t.sub
  oth := fun a o h hb hn => t.oth a o (s.oth a o h hb hn) hb hn
  new := fun a h0 h1 => by
    by_cases hn : a = D
    · subst hn; exact hD
    · by_cases hb : b = some a
      · subst hb
        exact w.bag.1
      · cases e : H a with
        | none => exact absurd e h1
        | some o => exact t.new a (s.new a h0 h1) (by rw [s.oth a o e hb hn]; exact fun z => nomatch z)
theorem Rep.moveX {D : Addr} {b : Option Addr} {K : PySem.W.Frag} {Hf0 H0 Hf H Hf' H' : Hp} {δ : Sl} {σ : L2.St} (r : Rep b K Hf0 H0 Hf H δ σ) (s : StepX D b Hf H Hf' H') (w : Wd b Hf' H') (h0 : H0 D = none)
    (hn : ∀ (j : Nat) (dv : DV), δ[j]? = some (some dv) → isOwn dv = true → σ[j]? ≠ some (some (V.ref D))) : Rep b K Hf0 H0 Hf' H' δ σ where
  wd := w
  st := ⟨r.st.sub.trans s.sub, fun a o h hb => s.oth a o (r.st.oth a o h hb) hb (fun z => by subst z; rw [h0] at h; cases h), fun a e1 e2 => by
    by_cases hb : b = some a
    · subst hb
      exact w.bag.1
    · cases e : H0 a with
      | none => exact absurd e e2
      | some o => exact s.new a (r.st.new a e1 e2) (by rw [r.st.oth a o e hb]; exact fun z => nomatch z)⟩
  len := r.len
  sl := fun i dv e => by
    obtain ⟨v, e1, h⟩ := r.sl i dv e
    refine ⟨v, e1, ?_⟩
    cases dv with
    | d x => exact Da.mono s.sub h
    | bag => exact h
    | own ds =>
      obtain ⟨p, xs, rfl, h0, hb, h1, h2⟩ := h
      have ne : p ≠ D := fun z => hn i _ e rfl (by rw [e1, z])
      exact ⟨p, xs, rfl, s.new p h0 (by rw [h1]; exact fun z => nomatch z), hb, s.oth p _ h1 hb ne, h2.mono s.sub⟩
    | ownD ds =>
      obtain ⟨p, xs, rfl, h0, hb, h1, h2⟩ := h
      have ne : p ≠ D := fun z => hn i _ e rfl (by rw [e1, z])
      exact ⟨p, xs, rfl, s.new p h0 (by rw [h1]; exact fun z => nomatch z), hb, s.oth p _ h1 hb ne, h2.mono s.sub⟩
  fresh := r.fresh
  dist := r.dist
theorem ownsub_wipe {δ : Sl} {σ : L2.St} (hl : δ.length = σ.length) : ∀ vs : List Nat, OwnSub (wipeD δ vs) (L2.wipe σ vs) δ σ ∧ (wipeD δ vs).length = (L2.wipe σ vs).length
  | [] => ⟨OwnSub.refl _ _, hl⟩
  | v :: vs => by
    obtain ⟨h1, h2⟩ := ownsub_wipe hl vs
    exact ⟨(OwnSub.set (fun y e => by cases e) h2).trans h1, by show ((wipeD δ vs).set v none).length = ((L2.wipe σ vs).set v none).length; rw [List.length_set, List.length_set, h2]⟩
section
variable {X : Cx} {K : PySem.W.Frag} {te ta tb tc : TE} {t u w : DT} {tt tt1 tt2 : TT} {q q1 q2 : DTt}
def dLc2In (g : DG) (q : DTt) (u : DT) (δ : Sl) : List D → List D → (List D → Prop) → Prop
  | [], acc, Q => Q acc
  | x :: xs, acc, Q => g x δ fun δ2 => q δ2 fun c => if c = true then u δ2 fun y => ∃ d, y = .d d ∧ acc.length < sizeLine ∧ dLc2In g q u δ xs (acc ++ [d]) Q else dLc2In g q u δ xs acc Q
def dLc2Go (g : DG) (q : DTt) (it1 : DTi) (g1 : DG) (q1 : DTt) (u : DT) (vs1 : List Nat) (δ : Sl) : List D → List D → (List D → Prop) → Prop
  | [], acc, Q => Q acc
  | x :: xs, acc, Q => g x δ fun δ2 => q δ2 fun c => if c = true then it1 δ2 fun ds1 => dLc2In g1 q1 u (wipeD δ2 vs1) ds1 acc fun acc' => dLc2Go g q it1 g1 q1 u vs1 δ xs acc' Q else dLc2Go g q it1 g1 q1 u vs1 δ xs acc Q
def dLc2O (it : DTi) (g : DG) (q : DTt) (it1 : DTi) (g1 : DG) (q1 : DTt) (u : DT) (vs vs1 : List Nat) : DTi := fun δ Q => it δ fun ds => dLc2Go g q it1 g1 q1 u vs1 (wipeD δ vs) ds [] Q
def dLc2 (it : DTi) (g : DG) (q : DTt) (it1 : DTi) (g1 : DG) (q1 : DTt) (u : DT) (vs vs1 : List Nat) : DT := fun δ Q => dLc2O it g q it1 g1 q1 u vs vs1 δ fun ys => Q (.d (.list ys))
theorem entf_lc2 {wi wi1 : TI} {it it1 : DTi} {g g1 : TG} {d d1 : DG} {vs vs1 : List Nat} (hi : EntI K wi it) (hg : EntG K g d) (hw : GWipe g vs) (ht : EntT K tt q) (hi1 : EntI K wi1 it1) (hg1 : EntG K g1 d1) (hw1 : GWipe g1 vs1) (ht1 : EntT K tt1 q1) (he : Ent K te u) :
    EntF K (tLc2 wi g tt wi1 g1 tt1 te vs vs1) (dLc2O it d q it1 d1 q1 u vs vs1) := fun b Hf0 H0 Hf H δ σ Q Q' r hq k =>
  hi b Hf0 H0 Hf H δ σ _ _ r hq fun ds J Hf1 H1 hr s1 w1 wk D hD => by
    have hbD : b ≠ some D := fun hb => by
      subst hb
      obtain ⟨_, _, _, _, _, _, h1, _⟩ := w1.bag
      rw [hD] at h1; cases h1
    have hDH : H D = none := by
      cases e : H D with
      | none => rfl
      | some o => rw [s1.oth D o e hbD] at hD; cases hD
    have rr := r.move s1 w1
    have hDH0 : H0 D = none := by
      cases e : H0 D with
      | none => rfl
      | some o => rw [rr.st.oth D o e hbD] at hD; cases hD
    have rw0 : Rep b K Hf0 H0 Hf1 H1 (wipeD δ vs) (L2.wipe σ vs) := rr.wipe vs
    have noD : ∀ {δ2 : Sl} {σ2 : L2.St}, OwnSub δ2 σ2 (wipeD δ vs) (L2.wipe σ vs) → ∀ (j : Nat) (dv : DV), δ2[j]? = some (some dv) → isOwn dv = true → σ2[j]? ≠ some (some (V.ref D)) := fun {δ2 σ2} os j dv e o es => by
      obtain ⟨j', dv', e', o', es'⟩ := os j dv D e o es
      obtain ⟨v, e1, hv⟩ := rw0.sl j' dv' e'
      rw [es'] at e1
      cases e1
      cases dv' with
      | own ds => obtain ⟨p', xs', ep, _, _, hp', _⟩ := hv; cases ep; rw [hD] at hp'; cases hp'
      | ownD ds => obtain ⟨p', xs', ep, _, _, hp', _⟩ := hv; cases ep; rw [hD] at hp'; cases hp'
      | d _ => cases o'
      | bag => cases o'
    obtain ⟨sD, wD⟩ := Step.laidO (o := .lst []) w1 hD
    let Go := dLc2Go d q it1 d1 q1 u vs1 (wipeD δ vs)
    refine ⟨fun i m H' => m = ds.length - i ∧ i ≤ ds.length ∧ ∃ Hf' acc dacc, Step b Hf1 H1 Hf' H' ∧ Wd b Hf' H' ∧ Hf' D = none ∧ H' D = some (.lst acc) ∧ DaAll K Hf' acc dacc ∧ acc.length ≤ sizeLine ∧ Go (ds.drop i) dacc Q, ?_, ?_⟩
    · exact ⟨ds.length, by simp, Nat.zero_le _, Hf1, [], [], sD, wD, w1.fresh hD, upd_same, .nil, Nat.zero_le _, hr⟩
    rintro i m H' ⟨rfl, hi', Hf', acc, dacc, s', w', hfD, hHD, al, la, hgo⟩
    by_cases hlt : i < ds.length
    · refine .inr ⟨wk.go i Hf' H' s'.sub w' hlt, fun H2 => ∃ Hf2 acc2 dacc2, Step b Hf1 H1 Hf2 H2 ∧ Wd b Hf2 H2 ∧ Hf2 D = none ∧ H2 D = some (.lst acc2) ∧ DaAll K Hf2 acc2 dacc2 ∧ acc2.length ≤ sizeLine ∧ Go (ds.drop (i + 1)) dacc2 Q,
        fun H2 ⟨Hf2, acc2, dacc2, a⟩ => ⟨ds.length - (i + 1), by omega, rfl, hlt, Hf2, acc2, dacc2, a⟩, fun x H2 hy => ?_⟩
      obtain ⟨Hf2, dx, s2, w2, e, hx⟩ := wk.yld i Hf' H' x H2 s'.sub w' hlt hy
      have ed : ds.drop i = dx :: ds.drop (i + 1) := by
        rw [List.drop_eq_getElem_cons hlt]
        congr 1
        rw [List.getElem?_eq_getElem hlt] at e
        exact Option.some.inj e
      rw [ed] at hgo
      refine hw x σ H2 _ (hg b Hf0 H0 Hf2 H2 (wipeD δ vs) (L2.wipe σ vs) x dx _ _ (rw0.move (s'.trans w2 s2) w2) hx hgo fun δ3 σ3 h3 r3 os3 => ?_)
      refine ht b Hf0 H0 Hf2 H2 δ3 σ3 _ _ r3 h3 fun c Hf4 H4 h4 s4 w4 => ?_
      have s24 : Step b Hf' H' Hf4 H4 := s2.trans w4 s4
      have hfD4 := s24.new D hfD (by rw [hHD]; exact fun z => nomatch z)
      have hHD4 := s24.oth D _ hHD hbD
      have s14 := s'.trans w4 s24
      cases c with
      | false =>
        have h4 : Go (ds.drop (i + 1)) dacc Q := h4
        exact ⟨Hf4, acc, dacc, s14, w4, hfD4, hHD4, al.mono s24.sub, la, h4⟩
      | true =>
        have r4 := r3.move s4 w4
        refine hi1 b Hf0 H0 Hf4 H4 δ3 σ3 _ _ r4 h4 fun ds1 J1 Hf5 H5 h5 s5 w5 wk1 => ?_
        have hfD5 := s5.new D hfD4 (by rw [hHD4]; exact fun z => nomatch z)
        have hHD5 := s5.oth D _ hHD4 hbD
        have s15 := s14.trans w5 s5
        have r5 := r4.move s5 w5
        have r5w : Rep b K Hf0 H0 Hf5 H5 (wipeD δ3 vs1) (L2.wipe σ3 vs1) := r5.wipe vs1
        have os5 : OwnSub (wipeD δ3 vs1) (L2.wipe σ3 vs1) (wipeD δ vs) (L2.wipe σ vs) := (ownsub_wipe r5.len vs1).1.trans os3
        have h5 : dLc2In d1 q1 u (wipeD δ3 vs1) ds1 dacc (fun acc' => Go (ds.drop (i + 1)) acc' Q) := h5
        refine ⟨fun j kk H6 => kk = ds1.length - j ∧ j ≤ ds1.length ∧ ∃ Hf6 acc6 dacc6, Step b Hf1 H1 Hf6 H6 ∧ StepX D b Hf5 H5 Hf6 H6 ∧ Wd b Hf6 H6 ∧ Hf6 D = none ∧ H6 D = some (.lst acc6) ∧ DaAll K Hf6 acc6 dacc6 ∧ acc6.length ≤ sizeLine ∧ dLc2In d1 q1 u (wipeD δ3 vs1) (ds1.drop j) dacc6 (fun acc' => Go (ds.drop (i + 1)) acc' Q), ?_, ?_⟩
        · exact ⟨ds1.length, by simp, Nat.zero_le _, Hf5, acc, dacc, s15, (Step.refl _ _ _).x, w5, hfD5, hHD5, al.mono (s24.sub.trans s5.sub), la, h5⟩
        rintro j kk H6 ⟨rfl, hj', Hf6, acc6, dacc6, s16, x56, w6, hfD6, hHD6, al6, la6, hin⟩
        by_cases hlj : j < ds1.length
        · refine .inr ⟨wk1.go j Hf6 H6 x56.sub w6 hlj, fun H7 => ∃ Hf7 acc7 dacc7, Step b Hf1 H1 Hf7 H7 ∧ StepX D b Hf5 H5 Hf7 H7 ∧ Wd b Hf7 H7 ∧ Hf7 D = none ∧ H7 D = some (.lst acc7) ∧ DaAll K Hf7 acc7 dacc7 ∧ acc7.length ≤ sizeLine ∧ dLc2In d1 q1 u (wipeD δ3 vs1) (ds1.drop (j + 1)) dacc7 (fun acc' => Go (ds.drop (i + 1)) acc' Q),
            fun H7 ⟨Hf7, acc7, dacc7, a⟩ => ⟨ds1.length - (j + 1), by omega, rfl, hlj, Hf7, acc7, dacc7, a⟩, fun x1 H7 hy1 => ?_⟩
          obtain ⟨Hf7, dx1, s7, w7, e1, hx1⟩ := wk1.yld j Hf6 H6 x1 H7 x56.sub w6 hlj hy1
          have hfD7 := s7.new D hfD6 (by rw [hHD6]; exact fun z => nomatch z)
          have hHD7 := s7.oth D _ hHD6 hbD
          have ed1 : ds1.drop j = dx1 :: ds1.drop (j + 1) := by
            rw [List.drop_eq_getElem_cons hlj]
            congr 1
            rw [List.getElem?_eq_getElem hlj] at e1
            exact Option.some.inj e1
          rw [ed1] at hin
          have x57 := x56.trans w7 hfD7 s7.x
          have r7 : Rep b K Hf0 H0 Hf7 H7 (wipeD δ3 vs1) (L2.wipe σ3 vs1) := r5w.moveX x57 w7 hDH0 (noD os5)
          refine hw1 x1 σ3 H7 _ (hg1 b Hf0 H0 Hf7 H7 (wipeD δ3 vs1) (L2.wipe σ3 vs1) x1 dx1 _ _ r7 hx1 hin fun δ8 σ8 h8 r8 os8 => ?_)
          refine ht1 b Hf0 H0 Hf7 H7 δ8 σ8 _ _ r8 h8 fun c9 Hf9 H9 h9 s9 w9 => ?_
          have s69 := s7.trans w9 s9
          have hfD9 := s9.new D hfD7 (by rw [hHD7]; exact fun z => nomatch z)
          have hHD9 := s9.oth D _ hHD7 hbD
          have x59 := x57.trans w9 hfD9 s9.x
          have s19 := s16.trans w9 s69
          cases c9 with
          | false =>
            have h9 : dLc2In d1 q1 u (wipeD δ3 vs1) (ds1.drop (j + 1)) dacc6 (fun acc' => Go (ds.drop (i + 1)) acc' Q) := h9
            exact ⟨Hf9, acc6, dacc6, s19, x59, w9, hfD9, hHD9, al6.mono s69.sub, la6, h9⟩
          | true =>
            refine he b Hf0 H0 Hf9 H9 δ8 σ8 _ _ (r8.move s9 w9) h9 fun dv v HfA HA hA sA wA rA => ?_
            obtain ⟨dd, rfl, lz, hA⟩ := hA
            have hfDA := sA.new D hfD9 (by rw [hHD9]; exact fun z => nomatch z)
            have hHDA := sA.oth D _ hHD9 hbD
            have s6A := s69.trans wA sA
            have x5A := x59.trans wA hfDA sA.x
            have s1A := s19.trans wA sA
            rw [← al6.length] at lz
            refine ⟨acc6, hHDA, lz, HfA, acc6 ++ [v], dacc6 ++ [dd], ?_, ?_, wA.write hfDA hbD, hfDA, upd_same, (al6.mono s6A.sub).snoc rA, by rw [List.length_append]; simp; omega, hA⟩
            · exact ⟨s1A.sub, fun a o h hb => by rw [upd_ne (ne_of_none h hD)]; exact s1A.oth a o h hb, s1A.new⟩
            · exact ⟨x5A.sub, fun a o h hb hn => by rw [upd_ne hn]; exact x5A.oth a o h hb hn, x5A.new⟩
        · have ej : j = ds1.length := by omega
          subst ej
          rw [List.drop_length] at hin
          exact .inl ⟨wk1.stop Hf6 H6 x56.sub w6, Hf6, acc6, dacc6, s16, w6, hfD6, hHD6, al6, la6, hin⟩
    · have e : i = ds.length := by omega
      subst e
      rw [List.drop_length] at hgo
      exact .inl ⟨wk.stop Hf' H' s'.sub w', k dacc D acc Hf' H' hgo (s1.trans w' s') w' hDH hfD hbD hHD la al⟩
theorem de_lc2 {elt tg iter tg1 iter1 : Expr} {ifs ifs1 : List Expr} {scope : Scope} {own : List (Str × Nat)} {vs1 : List Nat} {pos : Pos} {wi wi1 : TI} {it it1 : DTi} {g g1 : TG} {d d1 : DG} (hc : X.calm = true) (hN : X.N.Nodup) (hi : DI X tg iter wi it) (ok : BlkOk X.N X.env.scope scope own) (hv : ∀ i ∈ vs1, i ∈ own.map (·.2))
    (hg : ∀ (s : Shared) (H : Hp) (C : Addr) (cl : List (Str × Addr)) (fp : List Addr), DGm (X.blk s H scope (compEnvC scope cl C X.env) fp) tg g d) (hw : GWipe g (own.map (·.2))) (ht : ∀ (s : Shared) (H : Hp) (C : Addr) (cl : List (Str × Addr)) (fp : List Addr), DPt (X.blk s H scope (compEnvC scope cl C X.env) fp) ifs tt q)
    (hi1 : ∀ (s : Shared) (H : Hp) (C : Addr) (cl : List (Str × Addr)) (fp : List Addr), DI (X.blk s H scope (compEnvC scope cl C X.env) fp) tg1 iter1 wi1 it1)
    (hg1 : ∀ (s : Shared) (H : Hp) (C : Addr) (cl : List (Str × Addr)) (fp : List Addr), DGm (X.blk s H scope (compEnvC scope cl C X.env) fp) tg1 g1 d1) (hw1 : GWipe g1 vs1) (ht1 : ∀ (s : Shared) (H : Hp) (C : Addr) (cl : List (Str × Addr)) (fp : List Addr), DPt (X.blk s H scope (compEnvC scope cl C X.env) fp) ifs1 tt1 q1)
    (he : ∀ (s : Shared) (H : Hp) (C : Addr) (cl : List (Str × Addr)) (fp : List Addr), DE (X.blk s H scope (compEnvC scope cl C X.env) fp) elt te u) (hs : ∀ x, foldedSetIterable iter X.env x = pure x := by intro _; rfl) (hs1 : ∀ env x, foldedSetIterable iter1 env x = pure x := by intro _ _; rfl) :
    DE X (.ListComp elt [⟨tg, iter, ifs, 0⟩, ⟨tg1, iter1, ifs1, 0⟩] scope pos) (tLc2 wi g tt wi1 g1 tt1 te (own.map (·.2)) vs1) (dLc2 it d q it1 d1 q1 u (own.map (·.2)) vs1) :=
  ⟨pe_lc2 hc hN hi.pi ok hv (fun s H C cl fp => (hg s H C cl fp).pg) (fun s H C cl fp => (ht s H C cl fp).pts) (fun s H C cl fp => (hi1 s H C cl fp).pi) (fun s H C cl fp => (hg1 s H C cl fp).pg) (fun s H C cl fp => (ht1 s H C cl fp).pts) (fun s H C cl fp => (he s H C cl fp).pe) hs hs1,
    (entf_lc2 hi.en (hg X.s_0 X.H_0 0 [] []).en hw (ht X.s_0 X.H_0 0 [] []).en (hi1 X.s_0 X.H_0 0 [] []).en (hg1 X.s_0 X.H_0 0 [] []).en hw1 (ht1 X.s_0 X.H_0 0 [] []).en (he X.s_0 X.H_0 0 [] []).en).ent⟩
/-! ### texts -/
def dSplit (t u : DT) : DT := fun δ Q => t δ fun x => (∃ a, x = .d (.str a)) ∧ u δ fun y => ∃ a b, x = .d (.str a) ∧ y = .d (.str b) ∧ (b.length == 0) = false ∧ a.length + 2 ≤ sizeLine ∧ (Txt.split a b).length ≤ sizeLine ∧ Q (.d (.list ((Txt.split a b).map .str)))
theorem de_split {o e : Expr} {apos pos : Pos} (h1 : DE X o ta t) (h2 : DE X e tb u) (hs : starEach [e] X.env = [(false, eval e X.env)] := by rfl) (hbase : attributeBase o "split" X.env (eval o X.env) = eval o X.env := by rfl) (hline : (apos.endLine == pos.line) = true := by rfl) :
    DE X (.Call (.Attribute o "split" apos) [e] [] pos) (tM1 (fun x xs H Q => ∃ a b, x = .str a ∧ xs = [.str b] ∧ (b.length == 0) = false ∧ a.length + 2 ≤ sizeLine ∧ rNewStrs (Txt.split a b) H Q) ta tb) (dSplit t u) := ⟨pe_split h1.pe h2.pe hs hbase hline, fun b Hf0 H0 Hf H δ σ Q Q' r hq k =>
  h1.en b Hf0 H0 Hf H δ σ _ _ r hq fun dv v Hf1 H1 h s1 w1 r1 => by
    obtain ⟨⟨x, rfl⟩, h⟩ := h
    cases r1
    refine ⟨⟨x, rfl⟩, ?_⟩
    refine h2.en b Hf0 H0 Hf1 H1 δ σ _ _ (r.move s1 w1) h fun dv2 v2 Hf2 H2 h' s2 w2 r2 => ?_
    obtain ⟨a, c, e0, rfl, hz, hl, hl2, hq⟩ := h'
    cases e0
    cases r2
    refine ⟨x, c, rfl, rfl, hz, hl, fun p hp => ?_⟩
    obtain ⟨s3, w3⟩ := Step.laid (o := .lst ((Txt.split x c).map V.str)) w2 hp
    exact k _ _ _ _ hq ((s1.trans w2 s2).trans w3 s3) w3 (.list upd_same (by rw [List.length_map]; exact hl2) (DaAll.strs _))⟩
end
end DL
/-! The data layer, part G: promises of defs that are called where no repr is under way (repr asks that). -/
namespace DL
open PySem PySem.Spec PyProof.Rows L2
/-- a def's promise, where nothing is guarded -/
structure FnG (P : Program) (w : World) (K : PySem.W.Frag) (mg : Str → Option Value) (base : Heap) (k : Nat) (f : Addr) (fd : FuncData) (ps : List Str) (sp : Sp) : Prop where
  len : ∀ vs H Q E, sp vs H Q E → vs.length = ps.length
  go : ∀ (A : Around) (outer : List Env) (s : Shared) (H : Hp) (args : Args) (us : List Value) (vs : List V) (Q : VK) (E : XK), A.guards = some [] → Room k A → Env0 P w K mg base A outer s H →
    BindsTo s fd args (ps.zip us) → Vals vs us → sp vs H Q E → codeAny (model P w) A (.call (.ref f) args) (CR CX0 outer P w H s Q E) s
theorem FnG.up {P : Program} {w : World} {K : PySem.W.Frag} {mg : Str → Option Value} {base : Heap} {j k : Nat} {f : Addr} {fd : FuncData} {ps : List Str} {sp : Sp} (F : FnG P w K mg base j f fd ps sp) (h : j ≤ k) : FnG P w K mg base k f fd ps sp :=
  ⟨F.len, fun A outer s H args us vs Q E hg hr => F.go A outer s H args us vs Q E hg (hr.mono h)⟩
theorem FnG.weak {P : Program} {w : World} {K : PySem.W.Frag} {mg : Str → Option Value} {base : Heap} {k : Nat} {f : Addr} {fd : FuncData} {ps : List Str} {sp sp' : Sp} (F : FnG P w K mg base k f fd ps sp) (h : ∀ vs H Q E, sp' vs H Q E → sp vs H Q E) : FnG P w K mg base k f fd ps sp' :=
  ⟨fun vs H Q E q => F.len vs H Q E (h _ _ _ _ q), fun A outer s H args us vs Q E hg hr he hb hv hs => F.go A outer s H args us vs Q E hg hr he hb hv (h _ _ _ _ hs)⟩
section
variable {X : Cx} {K : PySem.W.Frag}
theorem pe_callG {k : Nat} {f : Addr} {fd : FuncData} {ps : List Str} {sp : Sp} {x : Str} {e : Expr} {es : List Expr} {ta : TA} {p pos : Pos} (F : FnG X.prog X.w X.K X.mg X.base k f fd ps sp) (hgd : X.A.guards = some []) (hr : Room k X.A) (hg : Gl X x) (hm : X.mg x = some (.ref f)) (hk : PySem.W.keepIn X.K (.ref f) = true) (hb : Binds X.K fd ps [])
    (ha : PA X (e :: es) ta) (hdb : (x == ("__debug__" : Str)) = false) (he : starEach (e :: es) X.env = (false, eval e X.env) :: starEach es X.env) (hpl : (backTo pos (starEach es X.env)).any (·.1) = false) :
    PE X (.Call (.Name x p) (e :: es) [] pos) (tCall sp [] E0 ta) := by
  refine ⟨fun pins s σ H Q I h => wpAny_Call_Name_kw (ld_glob I hg hm ?_ hdb)⟩
  refine PySem.W.callWith_K (h₀ := X.base) I.ok.mod.kin hk (thn (ha.run pos pins s σ H _ I h) ?_) he hpl
  rintro us s1 ⟨vs, H1, I1, r, q⟩
  have q' : sp vs H1 Q E0 := by
    have z : sp (vs ++ []) H1 Q E0 := q
    rw [List.append_nil] at z
    exact z
  have hl : (us ++ []).length = ps.length := by rw [List.append_nil, ← r.length]; exact F.len _ _ _ _ q'
  have hbd := hb s1 us I1.kIn hl
  rw [List.append_nil] at hbd
  refine ⟨I1.kIn, wpAny_call (codeAny_mono (F.go X.A X.stack s1 H1 ⟨us, []⟩ us vs Q E0 hgd hr I1.env0 hbd r q') ?_)⟩
  intro res s' hq
  cases res with
  | error _ => exact False.elim hq
  | ok fl =>
    cases fl with
    | ret u => exact I1.after hq
    | _ => exact False.elim hq
theorem de_callG {k : Nat} {f : Addr} {fd : FuncData} {ps : List Str} {S : RCD} {x : Str} {e : Expr} {es : List Expr} {ta : TA} {u : DTa} {p pos : Pos} (F : FnG X.prog X.w X.K X.mg X.base k f fd ps (spD X.K S)) (hS : Mono S) (hgd : X.A.guards = some []) (hr : Room k X.A) (hg : Gl X x) (hm : X.mg x = some (.ref f)) (hk : PySem.W.keepIn X.K (.ref f) = true) (hb : Binds X.K fd ps [])
    (ha : DA X (e :: es) ta u) (hdb : (x == ("__debug__" : Str)) = false := by decide) (he : starEach (e :: es) X.env = (false, eval e X.env) :: starEach es X.env := by rfl) (hpl : (backTo pos (starEach es X.env)).any (·.1) = false := by rfl) :
    DE X (.Call (.Name x p) (e :: es) [] pos) (tCall (spD X.K S) [] E0 ta) (dCall S u) := ⟨pe_callG F hgd hr hg hm hk hb ha.pa hdb he hpl, ent_call hS ha.en⟩
/-- from a body to the promise, by values -/
theorem okG {P : Program} {w : World} {mg : Str → Option Value} {base : Heap} {x : Str} {st : Stmt} {f : Addr} {fd : FuncData} {N ps : List Str} {k : Nat} {sp : Sp} (F : FnP K x st f fd) (sc : FnScope N ps (defScope st)) (len : ∀ vs H Q E, sp vs H Q E → vs.length = ps.length)
    (hbody : ∀ (cdv : Value) (A : Around) (outer : List Env) (s : Shared) (H : Hp) (vs : List V) (Q : VK) (E : XK), A.guards = some [] → Room k (A.deeper (PyProof.Rows.envOfC x (defScope st) s.heap.objs.size f cdv)) → sp vs H Q E →
      ∃ ts, PSs (cxOf CX0 P w K mg base N x (defScope st) f cdv A outer s H E) (defBody st) ts ∧ ts { nx := fun _ H' => Q .non H', rt := Q } (L2.start N vs) H) : FnG P w K mg base (k + 1) f fd ps sp := by
  obtain ⟨oc, od, dV, kV, doc, pm, an, cdv, ct, osl, rfl, lk, hcd, _, _⟩ := F.ex
  refine ⟨len, fun A outer s H args us vs Q E hgd hr e0 hb r hsp => ?_⟩
  have old : ∀ b o, base.get? b = some o → s.heap.get? b = some o := fun b o e => (e0.bs b o e).1
  have KX : K.In s.heap := e0.mod.kin.keeps old
  refine codeAny_call_function hr.depth (KX _ _ lk) rfl sc.co sc.gen rfl (PySem.W.codeRec_of KX hcd) (hb _ _ _ _ ?_)
  refine wpAny_newFunctionEnv_cells sc.kind ?_ ?_
  · rintro ⟨n, v⟩ hy
    rcases sc.par n (List.of_mem_zip hy).1 with q | q
    · exact .inl q
    · exact .inr ⟨q, PySem.W.cellsFrom_some _ _ _ (.inl q)⟩
  · intro env he s1 xx
    subst he
    refine ⟨(e0.mod.nolimit.keeps old).keeps xx.toInCall.keep, codeAny_func ?_⟩
    obtain ⟨t, ht, hq⟩ := hbody cdv A outer s H vs Q E hgd (hr.deeper _) hsp
    have J0 : Inv (cxOf CX0 P w K mg base N x (defScope st) f cdv A outer s H E) [] (L2.start N vs) H s1 := inv_start sc hr.hd e0 (len _ _ _ _ hsp) r xx
    refine wpAny_mono (ht.run [] s1 (L2.start N vs) H _ J0 hq) ?_ fun e s' hs => hs
    intro fl s' hs
    cases fl with
    | ret u =>
      obtain ⟨v, σ', H', J, rv, q⟩ := hs
      exact ⟨v, H', J.os, J.bare, J.base, J.hok, rv, q⟩
    | next =>
      obtain ⟨σ', H', J, q⟩ := hs
      exact ⟨.non, H', J.os, J.bare, J.base, J.hok, rfl, q⟩
    | brk => obtain ⟨_, _, _, q⟩ := hs; exact False.elim q
    | cont => obtain ⟨_, _, _, q⟩ := hs; exact False.elim q
/-- THE RULE of a def over trees -/
theorem okT {P : Program} {w : World} {mg : Str → Option Value} {base : Heap} {x : Str} {st : Stmt} {f : Addr} {fd : FuncData} {N ps : List Str} {k : Nat} {S : RCD} (F : FnP K x st f fd) (sc : FnScope N ps (defScope st)) (len : ∀ ds Q, S ds Q → ds.length = ps.length)
    (hbody : ∀ (cdv : Value) (A : Around) (outer : List Env) (s : Shared) (H : Hp) (E : XK), A.guards = some [] → Room k (A.deeper (PyProof.Rows.envOfC x (defScope st) s.heap.objs.size f cdv)) →
      ∃ ts t, DSs (cxOf CX0 P w K mg base N x (defScope st) f cdv A outer s H E) (defBody st) ts t ∧ ∀ ds (Q : DV → Prop), S ds Q → t { nx := fun _ => Q (.d .non), rt := Q } (startD N ds)) : FnG P w K mg base (k + 1) f fd ps (spD K S) := by
  refine okG F sc (fun vs H Q E h => ?_) (fun cdv A outer s H vs Q E hgd hr h => ?_)
  · obtain ⟨b, Hf, ds, w, r, no, hS⟩ := h
    rw [r.length]
    exact len _ _ hS
  · obtain ⟨ts, t, hd, ht⟩ := hbody cdv A outer s H E hgd hr
    obtain ⟨b, Hf, ds, w, r, no, hS⟩ := h
    exact ⟨ts, hd.pss, hd.en b Hf H Hf H (startD N ds) (L2.start N vs) _ _ (rep_start w r no) (ht ds _ hS)
      ⟨fun δ σ Hf' H' h1 r1 => h1 .non Hf' H' r1.st r1.wd .non, fun dv v Hf' H' h1 s1 w1 r1 => h1 v Hf' H' s1 w1 r1, fun _ _ _ _ h => h.elim, fun _ _ _ _ h => h.elim⟩⟩
end
/-! ### the law's own call -/
/-- the script is handed in, nothing else is tracked -/
theorem callG {P : Program} {w : World} {K : PySem.W.Frag} {mg mb : Str → Option Value} {k : Nat} {fa a : Addr} {fd : FuncData} {x : Str} {sp : Sp} {s₁ : Shared} {vs : List Value} {ns : List Int}
    (KX : K.In s₁.heap) (hns : s₁.heap.Ns mainGlobals mg) (hb : s₁.heap.Ns builtinsNs mb) (hbb : ∀ x : Str, x ≠ "__name__" → mb x = bootBuiltins x) (hlim : s₁.heap.NoLimit) (hgens : s₁.gens = #[])
    (ha : s₁.heap.get? a = some { cls := .type "list", data := .seq vs.toArray }) (hi : IntsAre vs ns) (hl : ns.length ≤ sizeLine) (hr : Room k callerA)
    (F : ∀ base : Heap, K.In base → base.Ns mainGlobals mg → FnG P w K mg base k fa fd [x] sp) (hbind : ∀ (s : Shared) (u : Value), BindsTo s fd ⟨[u], []⟩ [(x, u)])
    (hsp : ∀ H : Hp, Only H → SqL K H a (ns.map V.int) → sp [.ref a] H (fun v _ => v = .bl true) E0) :
    codeAny (model P w) callerA (.call (.ref fa) ⟨[.ref a], []⟩) (fun r s' => r = .ok (.ret (.bool true)) ∧ OldK s₁.heap s'.heap ∧ s'.os = s₁.os ∧ AllBare s'.gens) s₁ := by
  have rv := vals_ints hi
  have main : ∀ H : Hp, Only H → SqL K H a (ns.map V.int) → HOk P w H s₁.heap → (∀ b, H b ≠ none → b = a) → (H a ≠ none → K.lookup a = none) →
      codeAny (model P w) callerA (.call (.ref fa) ⟨[.ref a], []⟩) (fun r s' => r = .ok (.ret (.bool true)) ∧ OldK s₁.heap s'.heap ∧ s'.os = s₁.os ∧ AllBare s'.gens) s₁ := by
    intro H hO hS hok hA hK
    have dictNot : ∀ (b : Addr) (o : Obj) (es : Array DictEntry) (ep : Nat), s₁.heap.get? b = some o → o.data = .dict es ep → H b = none := by
      intro b o es ep e d
      by_cases q : H b = none
      · exact q
      · have e' := hA b q
        subst e'
        rw [ha] at e
        cases e
        cases d
    have ns_ : ∀ {b : Addr} {m : Str → Option Value}, s₁.heap.Ns b m → (hidT s₁.heap H).Ns b m := by
      rintro b m ⟨o, es, ep, e, d, r⟩
      exact ⟨o, es, ep, hidT_get e (dictNot b o es ep e d), d, r⟩
    have inK : K.In (hidT s₁.heap H) := by
      intro b o e
      refine hidT_get (KX b o e) ?_
      by_cases q : H b = none
      · exact q
      · have e' := hA b q
        subst e'
        rw [hK q] at e; cases e
    have limB : (hidT s₁.heap H).NoLimit := by
      obtain ⟨mc, h1, h2⟩ := hlim
      exact ⟨mc, ns_ h1, h2⟩
    have e0 : Env0 P w K mg (hidT s₁.heap H) callerA [] s₁ H := by
      refine ⟨rfl, ⟨inK, ns_ hns, ⟨mb, ns_ hb, hbb⟩, limB⟩, fun b o e => of_hidT e, Nat.le_of_eq (hidT_size _ _), trivial, ?_, hok, .of_eq hgens⟩
      intro b hb
      cases hb
    refine codeAny_mono ((F _ inK (ns_ hns)).go callerA [] s₁ H ⟨[.ref a], []⟩ [.ref a] [.ref a] _ E0 rfl hr e0 (hbind s₁ (.ref a)) (.cons rfl .nil) (hsp H hO hS)) ?_
    intro r s' h
    cases r with
    | error e => exact False.elim h
    | ok fl =>
      cases fl with
      | ret u =>
        obtain ⟨v, H', os, bare, un, hok', r', q⟩ := h
        have q : v = .bl true := q
        subst q
        have r' : u = Value.bool true := r'
        subst r'
        refine ⟨rfl, OldK.of_keep fun b o e => ?_, os, bare⟩
        rcases hO b with z | ⟨ob, xs, z⟩
        · exact un.keep b o e z (fun m => by cases m) (fun m => by cases m)
        · have e1 := (hok b _ z).1
          have e2 := (hok' b _ (un.frzs b ob _ z)).1
          rw [e] at e1
          cases e1
          exact e2
      | _ => exact False.elim h
  by_cases hk : K.lookup a = none
  · let H : Hp := fun b => if b = a then some (.frz { cls := .type "list", data := .seq vs.toArray } (.lst (ns.map V.int))) else none
    have at_ : H a = some (.frz { cls := .type "list", data := .seq vs.toArray } (.lst (ns.map V.int))) := if_pos rfl
    have off : ∀ b, b ≠ a → H b = none := fun b hb => if_neg hb
    refine main H (fun b => ?_) (.inl (.inr ⟨_, at_⟩)) (fun b u z => ?_) (fun b z => ?_) fun _ => hk
    · by_cases hb : b = a
      · subst hb; exact .inr ⟨_, _, at_⟩
      · exact .inl (off b hb)
    · by_cases hb : b = a
      · subst hb
        rw [at_] at z
        cases z
        exact ⟨ha, by rw [List.length_map]; exact hl, vs, _, rv, ha⟩
      · rw [off b hb] at z; cases z
    · exact Classical.byContradiction fun hb => z (off b hb)
  · cases e : K.lookup a with
    | none => exact absurd e hk
    | some o =>
      have e1 := KX a o e
      rw [ha] at e1
      cases e1
      have lenV := hi.length
      refine main (fun _ => none) (fun _ => .inl rfl) (.inr ⟨_, vs.toArray, _, e, rfl, rfl, rfl, by rw [List.size_toArray, lenV]; exact hl, by simpa using rv⟩) ?_ ?_ ?_
      · intro b u z; cases z
      · intro b z; exact absurd rfl z
      · intro z; exact absurd rfl z
theorem walkG {l : PySem.W.OpenLaw} {n k : Nat} {q : Program} {loose : List Str} {XP : (Str → Option Value) → Heap → Prop} {YP : World → Heap → Prop} {d : DefRec} {x : Str}
    (hn : l.most = some n) (hn2 : n ≤ sizeLine) (hdf : d.params.defaults = []) (hr : Room k callerA)
    (F : ∀ (w : World) (mg : Str → Option Value) (fa : Addr) (h : Heap), YP w h → h.Ns mainGlobals mg → mg d.name = some (.ref fa) →
      ∃ (K : PySem.W.Frag) (fd : FuncData) (sp : Sp), K.In h ∧ (∀ (s : Shared) (u : Value), BindsTo s fd ⟨[u], []⟩ [(x, u)]) ∧
        (∀ (H : Hp) (a : Addr) (ns : List Int), ns.length ≤ n → Only H → SqL K H a (ns.map V.int) → sp [.ref a] H (fun v _ => v = .bl true) E0) ∧
        ∀ base : Heap, K.In base → base.Ns mainGlobals mg → FnG l.prog w K mg base k fa fd [x] sp) :
    PySem.W.WalkO q loose XP YP l.row.toRowW d [] (fun f vs => PySem.call f vs) := by
  refine Att.attach_call hn hdf ?_
  intro w s₀ s₁ mg mb fa o pm cd doc a vs ns G Y ho hd hcd hmg hobj hints hlen hg
  obtain ⟨K, fd, sp, KX, hb, hsp, hF⟩ := F w mg fa _ Y G.T.g hmg
  exact callG KX G.T.g G.T.b G.T.builtins G.T.nolimit hg hobj hints (Nat.le_trans hlen hn2) hr hF hb fun H hO hS => hsp H a ns hlen hO hS
end DL
/-! The data layer, part 8: repr. -/
namespace DL
open PySem PySem.Spec L2
/-- the table of modules is among the written things -/
def SysIn (K : PySem.W.Frag) : Prop := ∃ (o : Obj) (es : Array DictEntry) (ep : Nat), K.lookup sysModules = some o ∧ o.data = .dict es ep
section
variable {X : Cx} {pins : List (Addr × Obj)} {σ : L2.St} {H : Hp} {s : Shared}
theorem sys_free (I : Inv X pins σ H s) (hS : SysIn X.K) : H sysModules = none := by
  obtain ⟨o, es, ep, hk, _⟩ := hS
  exact (I.bs _ o (I.mod.kin _ o hk)).2
theorem nin_app {a : Addr} {as bs : List Addr} (h1 : a ∉ as) (h2 : a ∉ bs) : a ∉ as ++ bs := fun h => (List.mem_append.mp h).elim h1 h2
theorem nin_cons {a b : Addr} {as : List Addr} (h1 : a ≠ b) (h2 : a ∉ as) : a ∉ b :: as := fun h => (List.mem_cons.mp h).elim h1 h2
mutual
theorem Da.reads (I : Inv X pins σ H s) (hS : SysIn X.K) : ∀ {v : V} {d : D}, Da X.K H v d → noObj d = true → ∀ u, RelV v u → ∃ as, Reads s.heap u (py d) as ∧ sysModules ∉ as
  | _, _, .non, _, u, r => by cases r; exact ⟨_, Reads.none, fun h => nomatch h⟩
  | _, _, .bl b, _, u, r => by cases r; exact ⟨_, Reads.bool b, fun h => nomatch h⟩
  | _, _, .int i, _, u, r => by obtain ⟨t, rfl⟩ := r; exact ⟨_, Reads.int i t, fun h => nomatch h⟩
  | _, _, .str x, _, u, r => by obtain ⟨t, rfl⟩ := r; exact ⟨_, Reads.str x t, fun h => nomatch h⟩
  | _, _, .list (a := a) h z al, p, u, r => by
    cases r
    obtain ⟨its, rv, ⟨o, n, ho, hc, _, hd⟩, _⟩ := I.list (SqL.of h)
    obtain ⟨as, hr, hn⟩ := DaAll.reads I hS al p its rv
    have ne : sysModules ≠ a := fun e => by rw [← e, sys_free I hS] at h; cases h
    exact ⟨_, Reads.list ho hc hd hr, nin_cons ne hn⟩
  | _, _, .tup h z al, p, u, r => by
    cases r
    obtain ⟨its, rv, ⟨o, ho, hc, n, hd⟩, _⟩ := I.tuple h
    obtain ⟨as, hr, hn⟩ := DaAll.reads I hS al p its rv
    exact ⟨_, Reads.tuple ho hc hd hr, hn⟩
  | _, _, .dict (a := a) h z kv, p, u, r => by
    cases r
    obtain ⟨_, hsm, vs, rel, o, es, ep, ho, hex, hdt, hk, hp, nd⟩ := h.ok I.hok
    obtain ⟨as, bs, h1, h2, n1, n2⟩ := DaKv.reads I hS kv p vs es.toList rel hp
    have ne : sysModules ≠ a := fun e => by rw [← e] at hsm; cases hsm
    exact ⟨_, Reads.dict ho hex.1 hdt h1 h2, nin_app (nin_cons ne n1) n2⟩
  | _, _, .obj _ _ _, p, u, r => by cases p
theorem DaAll.reads (I : Inv X pins σ H s) (hS : SysIn X.K) : ∀ {v : List V} {d : List D}, DaAll X.K H v d → noObjAll d = true → ∀ us, Vals v us → ∃ as, ReadsAll s.heap us (pyAll d) as ∧ sysModules ∉ as
  | _, _, .nil, _, us, r => by cases r; exact ⟨_, ReadsAll.nil, fun h => nomatch h⟩
  | _, _, .cons h t, p, us, r => by
    have p' : (noObj _ && noObjAll _) = true := p
    obtain ⟨p1, p2⟩ := Bool.and_eq_true_iff.mp p'
    cases r with
    | cons r1 r2 =>
      obtain ⟨as, q1, n1⟩ := Da.reads I hS h p1 _ r1
      obtain ⟨bs, q2, n2⟩ := DaAll.reads I hS t p2 _ r2
      exact ⟨_, ReadsAll.cons q1 q2, nin_app n1 n2⟩
theorem DaKv.reads (I : Inv X pins σ H s) (hS : SysIn X.K) : ∀ {v : List (Key × V)} {d : List (Key × D)}, DaKv X.K H v d → noObjKv d = true → ∀ (us : List (Key × Value)) (es : List DictEntry), KV v us → Pairs (mixKind X.prog X.w) es us →
    ∃ as bs, ReadsAll s.heap (es.map (·.key)) ((pyKv d).map (·.1)) as ∧ ReadsAll s.heap (es.map (·.val)) ((pyKv d).map (·.2)) bs ∧ sysModules ∉ as ∧ sysModules ∉ bs
  | _, _, .nil, _, us, es, r, pr => by cases r; cases pr; exact ⟨_, _, ReadsAll.nil, ReadsAll.nil, (fun h => nomatch h), fun h => nomatch h⟩
  | _, _, .cons (k := k) h t, p, us, es, r, pr => by
    have p' : (noObj _ && noObjKv _) = true := p
    obtain ⟨p1, p2⟩ := Bool.and_eq_true_iff.mp p'
    cases r with
    | cons r1 r2 =>
      cases pr with
      | @cons en _ _ _ k1 v1 pr =>
        obtain ⟨e1, rv⟩ := r1
        obtain ⟨bs, q1, n1⟩ := Da.reads I hS h p1 _ rv
        obtain ⟨as2, bs2, q2, q3, n2, n3⟩ := DaKv.reads I hS t p2 _ _ r2 pr
        rw [← e1] at k1
        have k1 : keyIs k en.key = true := k1
        have hk : ∃ as, Reads s.heap en.key (keyPy k) as ∧ sysModules ∉ as := by
          rcases keyIs_shape k1 with ⟨i, tk, rfl, e⟩ | ⟨x, tk, rfl, e⟩
          · exact ⟨[], by rw [e]; exact Reads.int i tk, by simp⟩
          · exact ⟨[], by rw [e]; exact Reads.str x tk, by simp⟩
        obtain ⟨as, q4, n4⟩ := hk
        exact ⟨_, _, ReadsAll.cons q4 q2, ReadsAll.cons (by show Reads s.heap en.val _ _; rw [v1]; exact q1) q3, nin_app n4 n2, nin_app n1 n3⟩
end
end
/-- the text of a tree -/
def shown (d : D) : Str := (py d).shown
/-- it can be shown -/
structure Show (d : D) : Prop where
  no : noObj d = true
  ok : (py d).showable = true
  sz : (shown d).length ≤ sizeLine
  dp : (py d).depth ≤ 60
section
variable {X : Cx} {K : PySem.W.Frag}
def rRepr (K : PySem.W.Frag) : List V → Hp → VK → Prop := fun xs H Q => ∃ x d, xs = [x] ∧ Da K H x d ∧ Show d ∧ Q (.str (shown d)) H
theorem cr_repr (hS : SysIn X.K) (hgd : X.A.guards = some []) (hu : X.A.units + 64 < cLine) : CallR X (.builtin "repr") (rRepr X.K) := by
  intro pins s σ H vs us Q I r h
  obtain ⟨x, d, rfl, hd, sh, q⟩ := h
  obtain ⟨u, rfl, rx⟩ := vals1 r
  have hd0 := hd
  have fin : ∀ (h' : Heap) (tk' : Nat) (tk : Tok), (∀ b o, s.heap.get? b = some o → h'.get? b = some o) → EP X pins σ Q (.str (shown d) tk) { s with heap := h', toks := tk' } := fun h' tk' tk hk => ⟨.str (shown d), H, I.kept hk, ⟨_, rfl⟩, q⟩
  have ref : ∀ a, u = .ref a → wpAny (model X.prog X.w) X.A (call (.builtin "repr") [u]) (EP X pins σ Q) X.xe s := fun a e => by
    subst e
    obtain ⟨as, rd, hn⟩ := hd.reads I hS sh.no _ rx
    have := sh.dp
    exact repr_of_reads' rd sh.ok (fun _ => hn) hgd (by omega) (fun _ _ e => e) (fun h' u tk hk => fin h' tk u hk) sh.sz
  cases hd with
  | non => cases rx; exact P.repr_of_none (fin s.heap _ _ fun _ _ e => e)
  | bl b => cases rx; exact P.repr_of_bool (fin s.heap _ _ fun _ _ e => e)
  | int i =>
    obtain ⟨t, rfl⟩ := rx
    exact P.repr_of_int (by have z := sh.ok; exact of_decide_eq_true z) (fin s.heap _ _ fun _ _ e => e)
  | str y =>
    obtain ⟨t, rfl⟩ := rx
    exact P.repr_of_str (fin s.heap _ _ fun _ _ e => e) sh.sz
  | list => exact ref _ rx
  | tup => exact ref _ rx
  | dict => exact ref _ rx
  | obj => exact ref _ rx
def rcRepr : RCD := rc1 fun a Q => Show a ∧ Q (.d (.str (shown a)))
theorem en_repr : EntC K (rRepr K) rcRepr := entc1 fun b Hf H v a Q Q' w hv hq k => ⟨v, a, rfl, hv.mono w.sub, hq.1, k _ _ Hf H hq.2 (Step.refl _ _ _) w (.str _)⟩
end
end DL
/-! The data layer, part 9: sorted of any list of alike trees; tuples without items among them too. -/
namespace DL
open PySem PySem.W PyProof.Rows PySem.SeqAt
section
variable {prog : Program} {w : World} {A : Around} {E : Value → Shared → Prop} {s : Shared}
/-- tuple's own __lt__ as sorting calls it -/
theorem call_tuple_lt {Q : Value → Shared → Prop} {l b : Addr} {items items2 : Array Value} {e r : Nat → Bool} (hl : s.heap.IsTuple l items) (hb : s.heap.IsTuple b items2)
    (he : ∀ j (h1 : j < items.size) (h2 : j < items2.size), EqAt A.in1 s items[j] items2[j] (e j)) (hr : ∀ j (h1 : j < items.size) (h2 : j < items2.size), e j = false → RcLt A.in1 s items[j] items2[j] (r j))
    (h : Q (.bool (firstLt e r (decide (items.size < items2.size)) (List.range (min items.size items2.size)))) s) : wpAny (model prog w) A (call (.builtin "tuple.__lt__") [.ref l, .ref b]) Q E s := by
  obtain ⟨⟨c1, d1, x1, sl⟩, ho, q1, n, q2⟩ := id hl
  obtain ⟨⟨c2, d2, x2, sl2⟩, ho2, q3, n2, q4⟩ := id hb
  simp only at q1 q2 q3 q4
  subst q1 q2 q3 q4
  exact call_meets F.slot_tuple_lt ⟨_, ho, rfl⟩ F.entry_tuple_lt (F.args_tuple_lt_2 _ _) (tuple_ltAt l b items items2 n n2 d1 d2 sl sl2 e r) ⟨ho, ho2, he, hr, h⟩
theorem oneLt_tup {xs ys : List PyData} {a b : Value} {as bs : List Addr} {Q : Bool → Shared → Prop} (ra : Reads s.heap a (.tuple xs) as) (rb : Reads s.heap b (.tuple ys) bs) (hal : alikeAll xs ys = true)
    (hu : A.units + min (PyData.tuple xs).depth (PyData.tuple ys).depth < cLine) (hq : Q (dataLt (.tuple xs) (.tuple ys)) s) : wpAny (model prog w) A (oneLt' true a b) Q E s := by
  cases ra with
  | @tuple l o vs n _ _ h1 h2 h3 h4 =>
    cases rb with
    | @tuple l' o' vs' n' _ _ k1 k2 k3 k4 =>
      have n1 : vs.size = xs.length := by simpa using ReadsAll.length _ _ _ h4
      have n2 : vs'.size = ys.length := by simpa using ReadsAll.length _ _ _ k4
      rw [dataLt_tuple, ← firstLt_toks xs ys hal, ← n1, ← n2] at hq
      rw [oneLt'_eq]
      simp only [if_true]
      refine wpAny_bind (wpAny_cRoomFor (room_here hu) (wpAny_bind (wpAny_callSpecialIfBound?_slot (T := "tuple") ⟨_, h1, h2⟩ F.slot_tuple_lt
        (call_tuple_lt (e := pairEq xs ys) (r := fun j => dataLt (xs.getD j .none) (ys.getD j .none)) ⟨_, h1, h2, _, h3⟩ ⟨_, k1, k2, _, k3⟩ (fun j j1 j2 => ?_) (fun j j1 j2 hj => ?_) (wpAny_truthy_bool hq)))))
      · have z := eqAt_alikeAll xs ys A.in1 s vs.toList vs'.toList _ _ h4 k4 hal (room_in hu) j (by simpa using j1) (by simpa using j2)
        simpa using z
      · have z := rcLt_alikeAll xs ys A.in1 s vs.toList vs'.toList _ _ h4 k4 hal (room_in hu) j (by simpa using j1) (by simpa using j2) hj
        simpa using z
def headItem (f : PyData → Bool) : List PyData → Bool
  | d :: _ => f d
  | [] => false
def hasItem : PyData → Bool
  | .tuple (_ :: _) => true
  | _ => false
/-- the first items of tuples -/
theorem firsts_tups {M : Model} : ∀ (vs : List Value) (ds : List PyData) {Q : List (Option Value) → Shared → Prop}, EachIs (fun v d => ∃ as, Reads s.heap v d as) vs ds → (∀ d, d ∈ ds → ∃ xs, d = .tuple xs) →
    (∀ os : List (Option Value), os.map Option.isSome = ds.map hasItem → Q os s) → wpAny M A (vs.mapM firstOfTuple') Q E s
  | [], _, Q, .nil, _, h => by rw [List.mapM_nil]; exact wpAny_pure (h [] rfl)
  | v :: vs, _, Q, .cons (b := d) (bs := ds) ⟨as, r⟩ t, ht, h => by
    obtain ⟨xs, rfl⟩ := ht d (List.mem_cons_self ..)
    cases r with
    | @tuple a o its n _ _ ho hc hd hr =>
      rw [List.mapM_cons]
      refine wpAny_bind ?_
      rw [kas_first_eq]
      refine wpAny_bind (Looks.here (show Looks M s.heap (typeOf (.ref a)) o.cls from (Looks.ld ho).andThen .now) ?_)
      rw [hc, if_neg (by first | decide | simp)]
      refine wpAny_bind (listItems_at ho hd (wpAny_pure (wpAny_bind ?_)))
      refine firsts_tups vs ds (Q := fun bs s' => wpAny M A (pure (its[0]? :: bs)) Q E s') t (fun d hd => ht d (List.mem_cons_of_mem _ hd)) fun os e => wpAny_pure (h _ ?_)
      rw [List.map_cons, List.map_cons, e]
      congr 1
      have hl := SeqAt.ReadsAll.length _ _ _ hr
      rw [Array.length_toList] at hl
      cases xs with
      | nil =>
        have hz : its.size = 0 := hl
        rw [Array.getElem?_eq_none (by omega)]
        rfl
      | cons x r =>
        have hz : its.size = r.length + 1 := hl
        rw [Array.getElem?_eq_getElem (by omega)]
        rfl
theorem oneType_tups {M : Model} {vs : List Value} {ds : List PyData} {Q : SortKind → Shared → Prop} {k : Bool → SortKind} (h2 : 2 ≤ vs.length) (t : EachIs (fun v d => ∃ as, Reads s.heap v d as) vs ds) (ht : ∀ d, d ∈ ds → ∃ xs, d = .tuple xs) (h : Q (k true) s) :
    wpAny M A (do let r ← oneTypeOnly' vs.toArray; pure (k r.isSome)) Q E s := by
  have hT : ∀ v ∈ vs, Looks M s.heap (typeOf v) (Value.type "tuple") := fun v hv => by
    obtain ⟨d, hd, as, r⟩ := t.left v hv
    obtain ⟨xs, rfl⟩ := ht d hd
    exact looks_reads r
  obtain ⟨v₁, vr, rfl⟩ : ∃ v₁ vr, vs = v₁ :: vr := by
    match vs, h2 with
    | v₁ :: vr, _ => exact ⟨v₁, vr, rfl⟩
  rw [oneTypeOnly'_eq, List.mapM_toArray, map_eq_pure_bind]
  refine wpAny_bind (wpAny_bind (wpAny_bind (kas_mapM (r := Value.type "tuple") _ (fun v hv Q' hq => (hT v hv).here hq) (wpAny_pure ?_))))
  have hall : ((List.map (fun _ => Value.type "tuple") (v₁ :: vr)).toArray.all fun x => x == Value.type "tuple") = true := by
    simp only [List.all_toArray, List.all_map, List.all_eq_true]
    intro _ _
    exact beq_self_eq_true _
  have h0 : (List.map (fun _ => Value.type "tuple") (v₁ :: vr)).toArray[0]? = some (Value.type "tuple") := by simp
  rw [h0]
  simp only [hall, if_true]
  exact wpAny_pure (wpAny_pure h)
/-- tuples, some without an item, can be sorted -/
theorem sorts_tups {vs : List Value} {ds : List PyData} (e : EachIs (fun v d => ∃ as, Reads s.heap v d as) vs ds) (hal : AllAlike ds) (ht : ∀ d, d ∈ ds → ∃ xs, d = .tuple xs) (hu : ∀ d, d ∈ ds → A.units + d.depth < cLine) : SortsAt prog w A s (dataKind s.heap ds) vs := by
  by_cases hall : ∀ d, d ∈ ds → ∃ x r, d = .tuple (x :: r)
  · exact SortsAt.data e hal (.inl hall) hu
  have room : ∀ {d d' : PyData}, d ∈ ds → A.units + min d.depth d'.depth < cLine := fun {d d'} hd => Nat.lt_of_le_of_lt (Nat.add_le_add_left (Nat.min_le_left _ _) _) (hu d hd)
  refine ⟨fun v hv => ?_, ?_⟩
  · obtain ⟨d, hd, as, r⟩ := e.left v hv
    exact ⟨_, dataKind_some hal hd r⟩
  have nall : ∀ os : List (Option Value), os.map Option.isSome = ds.map hasItem → os.toArray.all (fun x => x.isSome) = false := fun os eo => by
    cases q : os.toArray.all (fun x => x.isSome) with
    | false => rfl
    | true =>
      exfalso
      apply hall
      intro d hd
      obtain ⟨xs, rfl⟩ := ht d hd
      rw [List.all_toArray, List.all_eq_true] at q
      have m : hasItem (.tuple xs) ∈ os.map Option.isSome := by rw [eo]; exact List.mem_map.mpr ⟨_, hd, rfl⟩
      obtain ⟨o, ho, ee⟩ := List.mem_map.mp m
      have z := q o ho
      rw [ee] at z
      cases xs with
      | nil => cases z
      | cons x r => exact ⟨x, r, rfl⟩
  have kinds : ∀ (kd : SortKind) (os0 : Bool), (∀ os : List (Option Value), os.map Option.isSome = ds.map hasItem → (os.toArray[0]?.bind id).isSome = os0) → kd = (if os0 = true then general' else oneType') →
      2 ≤ vs.length → ∀ (E : Value → Shared → Prop) {Q : SortKind → Shared → Prop}, Q kd s → wpAny (model prog w) A (keyKind' vs.toArray) Q E s := by
    intro kd os0 hos ek h2 E Q hq
    rw [keyKind'_eq, List.mapM_toArray, map_eq_pure_bind]
    refine wpAny_bind (wpAny_bind (firsts_tups vs ds e ht fun os eo => wpAny_pure ?_))
    rw [if_neg (by rw [nall os eo]; exact Bool.false_ne_true)]
    cases os0 with
    | true =>
      rw [if_pos (hos os eo)]
      rw [if_pos rfl] at ek
      rw [ek] at hq
      exact wpAny_pure hq
    | false =>
      rw [if_neg (by rw [hos os eo]; exact Bool.false_ne_true)]
      rw [if_neg Bool.false_ne_true] at ek
      rw [ek] at hq
      exact oneType_tups (k := fun b => if b = true then oneType' else general') h2 e ht (by rw [if_pos rfl]; exact hq)
  have lts : ∀ (kd : SortKind), (kd = general' ∨ kd = oneType') → PyProof.Rows.H.LtAt prog w A s (dataKind s.heap ds) kd := by
    intro kd hk E x y a b Q ha hb hq
    obtain ⟨d, as, hd, ra, rfl⟩ := dataKind_inv ha
    obtain ⟨d', as', hd', rb, rfl⟩ := dataKind_inv hb
    have hdd := hal d hd d' hd'
    have hroom := room (d' := d') hd
    have hq' : Q (dataLt d d') s := hq
    obtain ⟨xs, rfl⟩ := ht d hd
    obtain ⟨ys, rfl⟩ := ht d' hd'
    rcases hk with rfl | rfl
    · exact oneLt_alike (f := false) (fun z => by cases z) ra rb hdd (fun z => by cases z) hroom hq'
    · exact oneLt_tup ra rb (by simpa [alike] using hdd) hroom hq'
  have hd0 : ∀ os : List (Option Value), os.map Option.isSome = ds.map hasItem → (os.toArray[0]?.bind id).isSome = headItem hasItem ds := fun os eo => by
    cases ds with
    | nil =>
      cases os with
      | nil => rfl
      | cons _ _ => cases eo
    | cons d r =>
      cases os with
      | nil => cases eo
      | cons o r' =>
        rw [List.map_cons, List.map_cons] at eo
        have e1 := (List.cons.inj eo).1
        simp only [List.getElem?_toArray, List.getElem?_cons_zero]
        cases o with
        | none => exact e1
        | some _ => exact e1
  cases q : headItem hasItem ds with
  | true => exact ⟨general', lts _ (.inl rfl), kinds general' true (fun os eo => (hd0 os eo).trans q) rfl⟩
  | false => exact ⟨oneType', lts _ (.inr rfl), kinds oneType' false (fun os eo => (hd0 os eo).trans q) rfl⟩
/-- they can be sorted: the library's ways, and tuples of any kind -/
def Sorty (ds : List PyData) : Prop := Sortable ds ∨ ∀ d, d ∈ ds → ∃ xs, d = .tuple xs
theorem sorts_any {vs : List Value} {ds : List PyData} (e : EachIs (fun v d => ∃ as, Reads s.heap v d as) vs ds) (hal : AllAlike ds) (hk : Sorty ds) (hu : ∀ d, d ∈ ds → A.units + d.depth < cLine) : SortsAt prog w A s (dataKind s.heap ds) vs := by
  rcases hk with hk | hk
  · exact SortsAt.data e hal hk hu
  · exact sorts_tups e hal hk hu
theorem sorted_any {β : Type} {vs : List Value} {bs : List β} {enc : β → PyData} {R : Value → β → Prop} {l : Addr} {Q : Value → Shared → Prop} (hl : s.heap.IsList l vs.toArray) (e : EachIs R vs bs) (er : EachIs (fun v b => ∃ as, Reads s.heap v (enc b) as) vs bs) (hal : AllAlike (bs.map enc)) (hk : Sorty (bs.map enc)) (hL : bs.length ≤ sizeLine)
    (hu : ∀ b, b ∈ bs → A.units + 2 + (enc b).depth < cLine) (h : ∀ out, out.length = bs.length → EachIs R out (bs.mergeSort (dataLe false enc)) → Q (.ref (s.heap.objs.size + 1)) { s with heap := sortedAll s.heap vs (List.toArray out) }) :
    wpAny (model prog w) A (call (.builtin "sorted") [.ref l]) Q E s := by
  have er' : EachIs (fun v b => ∃ as, Reads (sortingHeap (copyHeap s.heap vs) (s.heap.objs.size + 1) vs) v (enc b) as) vs bs := er.mono fun _ _ ⟨as, r⟩ => ⟨as, PyProof.Rows.Reads.keeps (fun _ _ => sorting_copy_old) r⟩
  have er2 := each_map (R := fun v d => ∃ as, Reads (sortingHeap (copyHeap s.heap vs) (s.heap.objs.size + 1) vs) v d as) enc er'
  refine sorted_vals hl (sorts_any (s := { s with heap := sortingHeap (copyHeap s.heap vs) (s.heap.objs.size + 1) vs }) er2 hal hk (bound_map hu)) (by rw [e.length]; exact hL) ?_
  exact h _ (by rw [sortVals_length false rfl]; exact e.length) (sortVals_data false e er' hal)
end
/-! ### over trees -/
open L2
/-- a before or at b -/
def leD (a b : D) : Bool := dataLe false py a b
def sortD (ds : List D) : List D := ds.mergeSort leD
structure Srt (ds : List D) : Prop where
  no : noObjAll ds = true
  al : AllAlike (ds.map py)
  ty : Sorty (ds.map py)
  dp : ∀ d ∈ ds, (py d).depth ≤ 40
section
variable {X : Cx} {K : PySem.W.Frag}
def rSortD (K : PySem.W.Frag) : List V → Hp → VK → Prop := fun vs H Q => ∃ (a : Addr) (xs : List V) (ds : List D), vs = [V.ref a] ∧ SqL K H a xs ∧ DaAll K H xs ds ∧ Srt ds ∧ ∀ (p : Addr) (ys : List V), H p = none → Paired (fun v d => (v, d) ∈ xs.zip ds) ys (sortD ds) → ys.length = xs.length → Q (.ref p) (upd H p (.lst ys))
theorem each_da {H : Hp} : ∀ {xs : List V} {ds : List D} {us : List Value}, Vals xs us → DaAll K H xs ds → EachIs (fun u d => ∃ v, RelV v u ∧ Da K H v d ∧ (v, d) ∈ xs.zip ds) us ds
  | _, _, _, .nil, .nil => .nil
  | _, _, _, .cons r t, .cons h t' => .cons ⟨_, r, h, List.mem_cons_self ..⟩ ((each_da t t').mono fun _ _ ⟨v, a, b, c⟩ => ⟨v, a, b, List.mem_cons_of_mem _ c⟩)
theorem da_each {R : V → D → Prop} : ∀ {us : List Value} {ds : List D}, EachIs (fun u d => ∃ v, RelV v u ∧ R v d) us ds → ∃ xs, Vals xs us ∧ Paired R xs ds
  | _, _, .nil => ⟨[], .nil, .nil⟩
  | _, _, .cons ⟨v, r, h⟩ t => by
    obtain ⟨xs, a, b⟩ := da_each t
    exact ⟨v :: xs, .cons r a, .cons h b⟩
theorem each_reads {pins : List (Addr × Obj)} {σ : L2.St} {H : Hp} {s : Shared} (I : Inv X pins σ H s) (hS : SysIn X.K) : ∀ {us : List Value} {ds : List D}, EachIs (fun u d => ∃ v, RelV v u ∧ Da X.K H v d) us ds → noObjAll ds = true → EachIs (fun u d => ∃ as, Reads s.heap u (py d) as) us ds
  | _, _, .nil, _ => .nil
  | _, _, .cons ⟨v, r, h⟩ t, p => by
    have p' : (noObj _ && noObjAll _) = true := p
    obtain ⟨p1, p2⟩ := Bool.and_eq_true_iff.mp p'
    obtain ⟨as, q, _⟩ := h.reads I hS p1 _ r
    exact .cons ⟨as, q⟩ (each_reads I hS t p2)
theorem cr_sortD (hS : SysIn X.K) (hu : X.A.units + 64 < cLine) : CallR X (.builtin "sorted") (rSortD X.K) := by
  intro pins s σ H vs us Q I r h
  obtain ⟨a, xs, ds, rfl, hs, ha, st, q⟩ := h
  obtain ⟨its, rv, hl, hz⟩ := I.list hs
  rw [Vals.ref1 r]
  have e := each_da rv ha
  have er := each_reads I hS (e.mono fun _ _ ⟨v, a, b, _⟩ => ⟨v, a, b⟩) st.no
  have hlen : ds.length ≤ sizeLine := by rw [← ha.length]; exact hz
  refine sorted_any (R := fun u d => ∃ v, RelV v u ∧ (v, d) ∈ xs.zip ds) (enc := py) hl.isList (e.mono fun _ _ ⟨v, a, _, c⟩ => ⟨v, a, c⟩) er st.al st.ty hlen (fun d hd => by have := st.dp d hd; omega) fun out ho hout => ?_
  obtain ⟨ys, vy, dy⟩ := da_each hout
  obtain ⟨ep, he'⟩ := PyProof.Rows.sortedAll_at s.heap its out.toArray
  have hp : H (s.heap.objs.size + 1) = none := I.hok.fresh (Nat.le_succ _)
  have ly : ys.length = xs.length := by rw [vy.length, ho, ha.length]
  exact ⟨.ref _, upd H (s.heap.objs.size + 1) (.lst ys), I.laid (t' := s.toks) (fun _ _ => PyProof.Rows.sortedAll_old) (Nat.le_succ _) ⟨by rw [ly]; exact hz, out, ep, vy, he'⟩, rfl, q _ ys hp dy ly⟩
theorem DaAll.zip {Hf : Hp} : ∀ {xs : List V} {ds : List D} {v : V} {d : D}, DaAll K Hf xs ds → (v, d) ∈ xs.zip ds → Da K Hf v d
  | _, _, _, _, .nil, h => by cases h
  | _, _, _, _, .cons h t, m => by
    rcases List.mem_cons.mp m with e | m
    · cases e; exact h
    · exact DaAll.zip t m
theorem DaAll.ofZip {Hf : Hp} {xs : List V} {ds : List D} (al : DaAll K Hf xs ds) : ∀ {ys : List V} {es : List D}, Paired (fun v d => (v, d) ∈ xs.zip ds) ys es → DaAll K Hf ys es
  | _, _, .nil => .nil
  | _, _, .cons h t => .cons (al.zip h) (DaAll.ofZip al t)
def rcSortD : RCD := rc1 fun a Q => ∃ ds, a = .list ds ∧ Srt ds ∧ Q (.d (.list (sortD ds)))
theorem en_sortD : EntC K (rSortD K) rcSortD := entc1 fun b Hf H v a Q Q' w hv hq k => by
  obtain ⟨ds, rfl, st, hq⟩ := hq
  cases hv with
  | @list a xs _ h z al =>
    refine ⟨_, xs, ds, rfl, SqL.of (w.sub _ _ h), al.mono w.sub, st, fun p ys hp dy ly => ?_⟩
    obtain ⟨s2, w2⟩ := Step.laid (o := .lst ys) w hp
    exact k _ _ _ _ hq s2 w2 (.list upd_same (by rw [ly]; exact z) ((al.ofZip dy).mono s2.sub))
end
end DL
/-! The data layer, part S: set(xs) and sorted(set(xs)) for keys that are told by value (texts, ints). -/
namespace DL
open PySem PySem.W PyProof.Rows L2
/-! ### lists by pairs -/
theorem prPerm {α β : Type} {R : α → β → Prop} {l l1 : List α} (p : l1.Perm l) : ∀ {ks : List β}, Paired R l ks → ∃ ks1, ks1.Perm ks ∧ Paired R l1 ks1 := by
  induction p with
  | nil => intro ks h; exact ⟨ks, List.Perm.refl _, h⟩
  | cons x _ ih =>
    intro ks h
    cases h with
    | cons r t =>
      obtain ⟨k1, p1, h1⟩ := ih t
      exact ⟨_ :: k1, p1.cons _, .cons r h1⟩
  | swap x y l =>
    intro ks h
    cases h with
    | cons r t =>
      cases t with
      | cons r2 t => exact ⟨_, List.Perm.swap _ _ _, .cons r2 (.cons r t)⟩
  | trans _ _ ih1 ih2 =>
    intro ks h
    obtain ⟨k1, p1, h1⟩ := ih2 h
    obtain ⟨k2, p2, h2⟩ := ih1 h1
    exact ⟨k2, p2.trans p1, h2⟩
theorem prLeft {α β : Type} {R : α → β → Prop} : ∀ {l : List α} {ks : List β} {a : α}, Paired R l ks → a ∈ l → ∃ k, k ∈ ks ∧ R a k
  | _, _, _, .nil, h => by cases h
  | _, _, _, .cons r t, h => by
    rcases List.mem_cons.mp h with e | h
    · subst e; exact ⟨_, List.mem_cons_self .., r⟩
    · obtain ⟨k, m, q⟩ := prLeft t h
      exact ⟨k, List.mem_cons_of_mem _ m, q⟩
theorem prRight {α β : Type} {R : α → β → Prop} : ∀ {l : List α} {ks : List β} {k : β}, Paired R l ks → k ∈ ks → ∃ a, a ∈ l ∧ R a k
  | _, _, _, .nil, h => by cases h
  | _, _, _, .cons r t, h => by
    rcases List.mem_cons.mp h with e | h
    · subst e; exact ⟨_, List.mem_cons_self .., r⟩
    · obtain ⟨a, m, q⟩ := prRight t h
      exact ⟨a, List.mem_cons_of_mem _ m, q⟩
theorem prMapL {α β γ : Type} {R : γ → β → Prop} {f : α → γ} : ∀ {l : List α} {ks : List β}, Paired (fun a k => R (f a) k) l ks → Paired R (l.map f) ks
  | _, _, .nil => .nil
  | _, _, .cons r t => .cons r (prMapL t)
section
variable {P : Program} {w : World} {κ : Type} [DecidableEq κ] (knd : PySem.KeyKind P w κ)
/-- an entry stands for a key -/
def EntK (e : Int × Value) (k : κ) : Prop := knd.is k e.2 = true ∧ e.1 = knd.hash k ∧ e.2.scannable = true
/-- the set at a has just the keys L; it can be walked -/
def SetG (h : Heap) (a : Addr) (L : List κ) : Prop :=
  ∃ o es ep t ks, h.get? a = some o ∧ o.ExactSet ∧ o.data = .set es ep t ∧ Paired (EntK knd) es.toList ks ∧ ks.Perm L ∧ L.Nodup ∧ L.length < scanBound ∧ t.fits es.size = true ∧ Ris t.place.toList ∧ (w.params.followText "set-order" = true ∨ t.led = true)
variable {knd} {h h' : Heap} {a : Addr} {L : List κ}
theorem SetG.at (R : SetG knd h a L) (k : ∀ o, h.get? a = some o → h'.get? a = some o) : SetG knd h' a L := by
  obtain ⟨o, es, ep, t, ks, ho, r⟩ := R
  exact ⟨o, es, ep, t, ks, k o ho, r⟩
theorem elems_of {l : List (Int × Value)} {ks : List κ} (p : Paired (EntK knd) l ks) : ElemsOf knd l := fun e he => by
  obtain ⟨k, _, q1, q2, q3⟩ := prLeft p he
  exact ⟨⟨k, q1, q2⟩, q3⟩
theorem size_of {es : Array (Int × Value)} {ks : List κ} (p : Paired (EntK knd) es.toList ks) : es.size = ks.length := by
  have := Paired.length p
  rw [Array.length_toList] at this
  exact this
variable {A : Around} {E : Value → Shared → Prop} {s : Shared}
/-- the entries are laid, then perhaps laid anew -/
theorem setG_tail {g : Bool → Sem Unit} (hg : ∀ (b : Bool) (s₁ : Shared) (Q' : Unit → Shared → Prop), Q' () s₁ → wpAny (model P w) A (g b) Q' E s₁)
    {o : Obj} {es : Array (Int × Value)} {ep : Nat} {t : SetTable} (ho : s.heap.get? a = some o) (hex : o.ExactSet) (hd : o.data = .set es ep t)
    {es1 : Array (Int × Value)} {t2 : SetTable} {ks : List κ} (p1 : Paired (EntK knd) es1.toList ks) (q1 : ks.Perm L) (nd : L.Nodup) (hb : L.length < scanBound)
    (hf : t2.fits es1.size = true) (hr : Ris t2.place.toList) (hl : w.params.followText "set-order" = true ∨ t2.led = true) {dummy : Bool} {R : Option Bool → Shared → Prop}
    (hR : ∀ h', Heap.SameBut a s.heap h' → SetG knd h' a L → R (some true) { s with heap := h' }) :
    wpAny (model P w) A (do
        storeSet a es1 t2
        if (!dummy && t2.tooFull) = true then do
            g (relayAll t2 es1 (SetTable.grown es1.size)).2.2
            storeSet a (relayAll t2 es1 (SetTable.grown es1.size)).1 (relayAll t2 es1 (SetTable.grown es1.size)).2.1
            pure (some true)
          else pure (some true)) R E s := by
  have hsz : es1.size = L.length := (size_of p1).trans q1.length_eq
  have hb1 : es1.size < scanBound := by rw [hsz]; exact hb
  refine wpAny_bind (wpAny_storeSet_of ho hd ?_ (fits_of_scanBound hb1))
  have ho1 := store_at (es' := es1) (t' := t2) ho hd
  have sb1 := Heap.SameBut.update s.heap a (Obj.putSet es1 t2)
  split
  · have pm := relayAll_perm t2 es1 (SetTable.grown es1.size)
    have hf3 := relayAll_fits t2 es1 (SetTable.grown es1.size)
    have hr3 := relayAll_ris t2 es1 (SetTable.grown es1.size)
    have hl3 := relayAll_led t2 es1 (SetTable.grown es1.size)
    generalize relayAll t2 es1 (SetTable.grown es1.size) = Z at pm hf3 hr3 hl3 ⊢
    obtain ⟨es2, t3, gave⟩ := Z
    dsimp only at pm hf3 hr3 hl3 ⊢
    obtain ⟨ks2, pk, p2⟩ := prPerm pm p1
    have hb2 : es2.size < scanBound := by rw [size_of p2, pk.length_eq, q1.length_eq]; exact hb
    refine wpAny_bind (hg _ _ _ (wpAny_bind (wpAny_storeSet_of ho1 rfl ?_ (fits_of_scanBound hb2))))
    have ho2 := store_at (es' := es2) (t' := t3) ho1 rfl
    refine wpAny_pure (hR _ (sb1.trans (Heap.SameBut.update _ a _)) ⟨_, es2, _, t3, ks2, ho2, hex, rfl, p2, pk.trans q1, nd, hb, hf3, hr3, ?_⟩)
    exact hl.imp id fun z => by rw [hl3]; exact z
  · exact wpAny_pure (hR _ sb1 ⟨_, es1, _, t2, ks, ho1, hex, rfl, p1, q1, nd, hb, hf, hr, hl⟩)
/-- a key is added -/
def addK (L : List κ) (k : κ) : List κ := if k ∈ L then L else k :: L
theorem setG_add {k : κ} {x : Value} {Q : Bool → Shared → Prop} (hx : knd.is k x = true) (hsc : x.scannable = true) (R : SetG knd s.heap a L) (room : L.length + 1 < scanBound)
    (hQ : ∀ h' b, Heap.SameBut a s.heap h' → SetG knd h' a (addK L k) → Q b { s with heap := h' }) :
    wpAny (model P w) A (setAddHashed a x (knd.hash k)) Q E s := by
  obtain ⟨o, es, ep, t, ks, ho, hex, hd, pr, pm0, nd, hb, hf, hr, hl⟩ := R
  have hel : ElemsOf knd es.toList := elems_of pr
  have hsz : es.size < scanBound := by rw [size_of pr, pm0.length_eq]; exact hb
  unfold setAddHashed setAddHashedIn
  refine wpAny_holding (wpAny_bind (wpAny_setState_of ho hd hf ?_))
  dsimp only
  rw [byScan_of hsc hsz hel]
  simp only [↓reduceIte]
  unfold setAddByScan
  refine wpAny_bind (wpAny_bind (wpAny_rule (wpAny_bind (wpAny_setScan_of hx ho hd hf hel ?_))))
  cases hfi : List.findIdx? (fun e => knd.is k e.2) es.toList with
  | some j =>
    dsimp only
    obtain ⟨hj, pj, _⟩ := List.findIdx?_eq_some_iff_getElem.mp hfi
    have hk : k ∈ L := by
      obtain ⟨k', m', r1, _, _⟩ := prLeft pr (List.getElem_mem hj)
      have e := knd.inj _ _ _ pj r1
      rw [e]
      exact pm0.mem_iff.mp m'
    refine wpAny_pure (wpAny_pure ?_)
    have ea : addK L k = L := if_pos hk
    refine hQ s.heap _ (Heap.SameBut.refl a s.heap) ?_
    rw [ea]
    exact ⟨o, es, ep, t, ks, ho, hex, hd, pr, pm0, nd, hb, hf, hr, hl⟩
  | none =>
    dsimp only
    have hk : k ∉ L := fun m => by
      obtain ⟨e, he, q, _⟩ := prRight pr (pm0.mem_iff.mpr m)
      have c := List.findIdx?_eq_none_iff.mp hfi e he
      rw [q] at c
      cases c
    have ea : addK L k = k :: L := if_neg hk
    have hgw : ∀ (b : Bool) {s₁ : Shared} {Q' : Unit → Shared → Prop}, Q' () s₁ → wpAny (model P w) A (match b with | true => rule "set.scan.the-table-gave-way" | false => pure ()) Q' E s₁ :=
      fun b s₁ Q' q => by cases b <;> first | exact wpAny_pure q | exact wpAny_rule q
    have pm := layNew_perm t es (knd.hash k) x
    have hf1 := layNew_fits t es (knd.hash k) x
    have hr1 := layNew_ris t es (knd.hash k) x hr
    have hl1 := layNew_led t es (knd.hash k) x
    generalize layNew t es (knd.hash k) x = Z at pm hf1 hr1 hl1 ⊢
    obtain ⟨es1, t1, dummy, gave⟩ := Z
    dsimp only at pm hf1 hr1 hl1 ⊢
    rw [Array.toList_push] at pm
    have pc : es1.toList.Perm ((knd.hash k, x) :: es.toList) := pm.trans (List.perm_append_singleton _ _)
    obtain ⟨ks1, pk, p1⟩ := prPerm pc (.cons ⟨hx, rfl, hsc⟩ pr)
    have q1 : ks1.Perm (k :: L) := pk.trans (pm0.cons k)
    have nd1 : (k :: L).Nodup := List.nodup_cons.mpr ⟨hk, nd⟩
    have hled : w.params.followText "set-order" = true ∨ t1.led = true := hl.imp id fun z => by rw [hl1]; exact z
    have fin : ∀ b h', Heap.SameBut a s.heap h' → SetG knd h' a (k :: L) → Q b { s with heap := h' } := fun b h' sb r => hQ h' b sb (by rw [ea]; exact r)
    refine wpAny_bind (hgw _ ?_)
    split
    · refine wpAny_bind ?_
      rw [hashByValue_scannable 8 hsc]
      refine wpAny_pure ?_
      refine setG_tail ?_ ho hex hd p1 q1 nd1 room ?_ ?_ ?_ ?_
      · intro b s₁ Q' q; cases b <;> first | exact wpAny_pure q | exact wpAny_rule q
      · first | (split <;> first | exact hf1 | exact SetTable.fits_plain_off hf1) | exact hf1
      · first | (split <;> exact hr1) | exact hr1
      · first | (split <;> exact hled) | exact hled
      · intro h' sb r; dsimp only; exact wpAny_pure (fin _ h' sb r)
    · refine wpAny_bind (wpAny_pure ?_)
      simp only [↓reduceIte]
      refine setG_tail ?_ ho hex hd p1 q1 nd1 room hf1 hr1 hled ?_
      · intro b s₁ Q' q; cases b <;> first | exact wpAny_pure q | exact wpAny_rule q
      · intro h' sb r; dsimp only; exact wpAny_pure (fin _ h' sb r)
/-- the keys, each once -/
def distK (ks : List κ) : List κ := ks.foldl addK []
theorem addK_mem {L : List κ} {k x : κ} : x ∈ addK L k ↔ x ∈ L ∨ x = k := by
  unfold addK
  by_cases h : k ∈ L
  · rw [if_pos h]
    exact ⟨.inl, fun z => z.elim id fun e => e ▸ h⟩
  · rw [if_neg h, List.mem_cons]
    exact Or.comm
theorem foldl_addK_mem (x : κ) : ∀ (ks L : List κ), x ∈ ks.foldl addK L ↔ x ∈ L ∨ x ∈ ks
  | [], L => by simp
  | k :: ks, L => by rw [List.foldl_cons, foldl_addK_mem x ks, addK_mem, List.mem_cons, or_assoc]
theorem distK_mem {ks : List κ} {x : κ} : x ∈ distK ks ↔ x ∈ ks := by
  unfold distK
  rw [foldl_addK_mem]
  simp
theorem addK_nodup {L : List κ} {k : κ} (h : L.Nodup) : (addK L k).Nodup := by
  unfold addK
  by_cases c : k ∈ L
  · rw [if_pos c]; exact h
  · rw [if_neg c]; exact List.nodup_cons.mpr ⟨c, h⟩
theorem foldl_addK_nodup : ∀ (ks L : List κ), L.Nodup → (ks.foldl addK L).Nodup
  | [], _, h => h
  | k :: ks, L, h => foldl_addK_nodup ks _ (addK_nodup h)
theorem distK_nodup (ks : List κ) : (distK ks).Nodup := foldl_addK_nodup ks [] List.nodup_nil
theorem addK_len (L : List κ) (k : κ) : (addK L k).length ≤ L.length + 1 := by
  unfold addK; split <;> simp
theorem foldl_addK_len : ∀ (ks L : List κ), (ks.foldl addK L).length ≤ L.length + ks.length
  | [], L => by simp
  | k :: ks, L => by
    have h1 := foldl_addK_len ks (addK L k)
    have h2 := addK_len L k
    rw [List.foldl_cons, List.length_cons]
    omega
theorem distK_len (ks : List κ) : (distK ks).length ≤ ks.length := by
  have := foldl_addK_len ks []
  simpa [distK] using this
/-- set.update over anything that is walked -/
theorem setG_loop {I : Addr} {fp wr : List Addr} {G : Array GenState → Array GenState → Prop} {n : Nat} {Pv : Nat → Value → Prop} {St : Nat → Shared → Prop} {R : Result → Shared → Prop}
    (W : WalksS P w A.in1 I fp wr G n Pv St) (S : Addr) (hSf : S ∉ fp) (ks : List κ) (hn : n = ks.length) (hb : ks.length + 1 < scanBound) (hval : ∀ i v, Pv i v → ∃ k, ks[i]? = some k ∧ knd.is k v = true ∧ v.scannable = true) :
    ∀ (m i : Nat) (s : Shared), n - i = m → i ≤ n → St i s → SetG knd s.heap S (distK (ks.take i)) →
      (∀ s', Moved (S :: wr) G s s' → SetG knd s'.heap S (distK ks) → R (.ok (.ret .none)) s') →
      codeAny (model P w) A (.builtin "set.update.loop" ⟨[.ref S, .ref I], []⟩) R s := by
  have hSw : S ∉ wr := fun h => hSf (W.sub _ h)
  have hsub : ∀ b ∈ wr, b ∈ S :: wr := fun b hb => List.mem_cons_of_mem _ hb
  intro m
  induction m with
  | zero =>
    intro i s hm hi hst hS hR
    have e : ks.take i = ks := List.take_of_length_le (by omega)
    have ei : i = n := by omega
    subst ei
    rw [e] at hS
    refine codeAny_builtin F.entry_set_update_loop ?_
    rw [Around.under_plainId F.plain_set_update_loop _]
    show wpAny _ A.in1 (pyNext (.ref I) >>= _) _ _ s
    refine wpAny_bind (W.done s _ _ hst fun s' mv => ?_)
    exact wpAny_pure (hR s' (mv.mono hsub) (hS.at fun o e => mv.heap S o hSw e))
  | succ m ih =>
    intro i s hm hi hst hS hR
    have hlt : i < n := by omega
    refine codeAny_builtin F.entry_set_update_loop ?_
    rw [Around.under_plainId F.plain_set_update_loop _]
    show wpAny _ A.in1 (pyNext (.ref I) >>= _) _ _ s
    refine wpAny_bind (W.item i s _ _ hlt hst fun v s' hP hst' mv => ?_)
    obtain ⟨k, hk, hx, hsc⟩ := hval i v hP
    have hS' : SetG knd s'.heap S (distK (ks.take i)) := hS.at fun o e => mv.heap S o hSw e
    show wpAny _ A.in1 (holding [v] (setAdd S v) >>= _) _ _ s'
    refine wpAny_bind (wpAny_holding ?_)
    unfold setAdd
    refine wpAny_holding (wpAny_bind (knd.pyHash (k := k) hx ?_))
    have hl := distK_len (ks.take i)
    rw [List.length_take] at hl
    refine setG_add (s := { s' with toks := s'.toks + 1 }) hx hsc hS' (by omega) fun h' _ hsb hS2 => ?_
    have e2 : distK (ks.take (i + 1)) = addK (distK (ks.take i)) k := by
      unfold distK
      rw [List.take_add_one, hk, Option.toList_some, List.foldl_append, List.foldl_cons, List.foldl_nil]
    rw [← e2] at hS2
    refine wpAny_pure ⟨plainId_quiet F.plain_set_update_loop _, ih (i + 1) _ (by omega) hlt (W.frame _ s' _ _ hst' (Nat.le_succ _) fun b hb o e => ?_) hS2 fun s'' mv' hS'' => hR s'' (Moved.trans W.gtrans ((mv.mono hsub).then_heap (Nat.le_succ _) fun b o hb e => ?_) mv') hS''⟩
    · rw [hsb.2 b (fun z : b = S => hSf (by rw [← z]; exact hb))]; exact e
    · rw [hsb.2 b (fun z : b = S => hb (by rw [z]; exact List.mem_cons_self))]; exact e
theorem setG_new {o : Obj} (ho : h.get? a = some { cls := .type "set", dict := none, data := .set #[] 0 (.fresh 0 0 (!w.params.followText "set-order")) }) : SetG knd h a ([] : List κ) := by
  refine ⟨_, #[], 0, _, [], ho, ⟨rfl, rfl, rfl⟩, rfl, .nil, List.Perm.refl _, List.nodup_nil, (by show 0 < scanBound; decide), by rfl, List.Pairwise.nil, ?_⟩
  show _ ∨ (!w.params.followText "set-order") = true
  cases w.params.followText "set-order"
  · exact .inr rfl
  · exact .inl rfl
end
end DL
/-! The data layer, part S2: set(x), sorted(set(x)) by calls. -/
namespace DL
open PySem PySem.W PyProof.Rows L2
theorem prAt {α β : Type} {R : α → β → Prop} : ∀ {l : List α} {ks : List β}, Paired R l ks → ∀ (i : Nat) (v : α), l[i]? = some v → ∃ k, ks[i]? = some k ∧ R v k
  | _, _, .nil, i, v, h => by simp at h
  | _, _, .cons r t, 0, v, h => by simp at h; subst h; exact ⟨_, rfl, r⟩
  | _, _, .cons r t, i + 1, v, h => by
    obtain ⟨k, e, q⟩ := prAt t i v (by simpa using h)
    exact ⟨k, by simpa using e, q⟩
section
variable {P : Program} {w : World} {κ : Type} [DecidableEq κ] {knd : PySem.KeyKind P w κ} {A : Around} {E : Value → Shared → Prop} {s : Shared}
theorem eachOf {α β : Type} {R : α → β → Prop} : ∀ {l : List α} {ks : List β}, Paired R l ks → EachIs R l ks
  | _, _, .nil => .nil
  | _, _, .cons r t => .cons r (eachOf t)
set_option maxRecDepth 100000 in
set_option maxHeartbeats 3200000 in
/-- set(x), x a list of keys -/
theorem call_set_listK {l : Addr} {items : Array Value} (ks : List κ) {Q : Value → Shared → Prop} (hh : A.handled = none) (hl : s.heap.IsList l items) (hit : Paired (fun v k => knd.is k v = true ∧ v.scannable = true) items.toList ks) (hb : ks.length + 1 < scanBound)
    (h : ∀ (h' : Heap) (tk : Nat), SetG knd h' s.heap.objs.size (distK ks) → (∀ b o, s.heap.get? b = some o → h'.get? b = some o) → Q (.ref s.heap.objs.size) { s with heap := h', toks := tk }) :
    wpAny (model P w) A (call (.type "set") [.ref l]) Q E s := by
  have hisz : items.size = ks.length := by
    have q := Paired.length hit
    rw [Array.length_toList] at q
    exact q
  let nu : Obj := { cls := .type "set", dict := none, data := .set #[] 0 (.fresh 0 0 (!w.params.followText "set-order")) }
  obtain ⟨c, tl, hmro⟩ := F.called_set.mro
  have hmade := F.called_set.made
  have hsub := F.called_set.sub
  refine wpAny_call (codeAny_of_tree ?_)
  show wpAny _ _ (callAny (.type "set") _) _ _ _
  refine wpAny_pure ⟨Code.quiet_builtin _ (by decide +kernel), codeAny_builtin F.entry_type_call ?_⟩
  rw [Around.under_plain (weight_type_call_type "set" [.ref l] []) rfl]
  have h1 := F.called_set.notType
  have h2 := F.called_set.canCreate
  have hct := F.typeCall_set_1 (.ref l)
  repeat (any_goals (first | assumption | wp_step))
  refine codeAny_mono (code_set_led1 (.ref l) (E := E) (Q₁ := fun obj s₁ => obj = .ref s.heap.objs.size ∧ s₁ = { s with heap := s.heap.push nu }) ⟨rfl, rfl⟩) fun r s₁ hr => ?_
  cases r with
  | error e => exact hr
  | ok fl =>
    cases fl with
    | ret obj =>
      obtain ⟨rfl, rfl⟩ := hr
      have hS : (s.heap.push nu).get? s.heap.objs.size = some nu := Heap.get?_push_size _ rfl
      have hT : Shared.TypeIs { s with heap := s.heap.push nu } (.ref s.heap.objs.size) "set" := ⟨_, hS, rfl⟩
      have hli := F.called_set.init.lookup
      have hbi := F.called_set.init.bind (.ref s.heap.objs.size)
      repeat (any_goals (first | assumption | wp_step))
      refine codeAny_mono (codeAny_call_builtin (R := wants (fun r s₂ => r = .none ∧ ∃ h' tk, s₂ = { s with heap := h', toks := tk } ∧ SetG knd h' s.heap.objs.size (distK ks) ∧ (∀ b o, s.heap.get? b = some o → h'.get? b = some o)) E) F.called_set.init.plain F.entry_set_init (check_set_init_1 hT ?_)) fun r₂ s₂ hr₂ => ?_
      · obtain ⟨ol, hol, hcl, nl, hdl⟩ := hl
        obtain ⟨ocls, odict, odata, oslots⟩ := ol
        simp only at hcl hdl
        subst hcl; subst hdl
        have hol' : (s.heap.push nu).get? l = some { cls := .type "list", dict := odict, data := .seq items nl, slots := oslots } := Heap.get?_push_of_some _ hol
        have hsls := F.sub_list_set
        have hslf := F.sub_list_frozenset
        have hne : (Value.type "list" == Value.type "dict") = false := by decide
        have hl1 : (s.heap.push nu).IsList l items := ⟨_, hol', rfl, nl, rfl⟩
        unfold Builtin.«set.__init__» noKeywords Builtin.Frozenset.updateFrom
        generalize hPI : pyIter = PI
        wp_walk
        subst hPI
        refine wpAny_pyIter_list hl1 (wpAny_bind (wpAny_runValue ?_))
        have hlS : l < s.heap.objs.size := Heap.lt_size hol
        have hh3 : A.in1.in1.in1.handled = none := by simp [hh]
        have hneI : l ≠ (s.heap.push nu).objs.size := by rw [Heap.size_push]; exact Nat.ne_of_lt (Nat.lt_succ_of_lt hlS)
        have hSf : s.heap.objs.size ∉ [(s.heap.push nu).objs.size, l] := by
          rw [Heap.size_push]; simp only [List.mem_cons, List.mem_singleton, List.not_mem_nil, or_false, not_or]
          exact ⟨Nat.ne_of_lt (Nat.lt_succ_self _), Nat.ne_of_gt hlS⟩
        have hval : ∀ (i : Nat) (v : Value), items[i]? = some v → ∃ k, ks[i]? = some k ∧ knd.is k v = true ∧ v.scannable = true := fun i v hv => prAt hit i v (by rw [Array.getElem?_toList]; exact hv)
        refine setG_loop ((Walks.list hh3 _ l hneI items).toS) s.heap.objs.size hSf ks hisz hb hval (items.size - 0) 0 _ (by omega) (Nat.zero_le _) ⟨⟨_, Heap.get?_push_size _ rfl, rfl, rfl⟩, (hl1.push _)⟩ ?hS0 ?hR
        case hS0 =>
          exact setG_new (o := nu) (Heap.get?_push_of_some _ hS)
        case hR =>
          intro s' mv hS'
          obtain ⟨h', g2, d', tk', os'⟩ := s'
          have eg : g2 = s.gens := mv.gens
          have ed : d' = s.drawn := mv.drawn
          have eo : os' = s.os := mv.os
          subst eg; subst ed; subst eo
          refine wpAny_pure (wpAny_pure ⟨rfl, h', tk', rfl, hS', fun b o e => ?_⟩)
          have hb0 : b < s.heap.objs.size := Heap.lt_size e
          refine mv.heap b o ?_ (Heap.get?_push_of_some _ (Heap.get?_push_of_some _ e))
          simp only [List.mem_cons, List.mem_singleton, List.not_mem_nil, or_false, not_or]
          exact ⟨Nat.ne_of_lt hb0, by rw [Heap.size_push]; exact Nat.ne_of_lt (Nat.lt_succ_of_lt hb0)⟩
      · cases r₂ with
        | error e => exact hr₂
        | ok fl₂ =>
          cases fl₂ with
          | ret r =>
            obtain ⟨rfl, h', tk, rfl, hS', hk'⟩ := hr₂
            repeat (any_goals (first | assumption | wp_step))
            exact h _ _ hS' hk'
          | _ => exact hr₂.elim
    | _ => exact hr.elim
set_option maxRecDepth 100000 in
set_option maxHeartbeats 3200000 in
/-- set(x), x a tuple of keys -/
theorem call_set_tupleK {l : Addr} {items : Array Value} (ks : List κ) {Q : Value → Shared → Prop} (hh : A.handled = none) (hl : s.heap.IsTuple l items) (hit : Paired (fun v k => knd.is k v = true ∧ v.scannable = true) items.toList ks) (hb : ks.length + 1 < scanBound)
    (h : ∀ (h' : Heap) (tk : Nat), SetG knd h' s.heap.objs.size (distK ks) → (∀ b o, s.heap.get? b = some o → h'.get? b = some o) → Q (.ref s.heap.objs.size) { s with heap := h', toks := tk }) :
    wpAny (model P w) A (call (.type "set") [.ref l]) Q E s := by
  have hisz : items.size = ks.length := by
    have q := Paired.length hit
    rw [Array.length_toList] at q
    exact q
  let nu : Obj := { cls := .type "set", dict := none, data := .set #[] 0 (.fresh 0 0 (!w.params.followText "set-order")) }
  obtain ⟨c, tl, hmro⟩ := F.called_set.mro
  have hmade := F.called_set.made
  have hsub := F.called_set.sub
  refine wpAny_call (codeAny_of_tree ?_)
  show wpAny _ _ (callAny (.type "set") _) _ _ _
  refine wpAny_pure ⟨Code.quiet_builtin _ (by decide +kernel), codeAny_builtin F.entry_type_call ?_⟩
  rw [Around.under_plain (weight_type_call_type "set" [.ref l] []) rfl]
  have h1 := F.called_set.notType
  have h2 := F.called_set.canCreate
  have hct := F.typeCall_set_1 (.ref l)
  repeat (any_goals (first | assumption | wp_step))
  refine codeAny_mono (code_set_led1 (.ref l) (E := E) (Q₁ := fun obj s₁ => obj = .ref s.heap.objs.size ∧ s₁ = { s with heap := s.heap.push nu }) ⟨rfl, rfl⟩) fun r s₁ hr => ?_
  cases r with
  | error e => exact hr
  | ok fl =>
    cases fl with
    | ret obj =>
      obtain ⟨rfl, rfl⟩ := hr
      have hS : (s.heap.push nu).get? s.heap.objs.size = some nu := Heap.get?_push_size _ rfl
      have hT : Shared.TypeIs { s with heap := s.heap.push nu } (.ref s.heap.objs.size) "set" := ⟨_, hS, rfl⟩
      have hli := F.called_set.init.lookup
      have hbi := F.called_set.init.bind (.ref s.heap.objs.size)
      repeat (any_goals (first | assumption | wp_step))
      refine codeAny_mono (codeAny_call_builtin (R := wants (fun r s₂ => r = .none ∧ ∃ h' tk, s₂ = { s with heap := h', toks := tk } ∧ SetG knd h' s.heap.objs.size (distK ks) ∧ (∀ b o, s.heap.get? b = some o → h'.get? b = some o)) E) F.called_set.init.plain F.entry_set_init (check_set_init_1 hT ?_)) fun r₂ s₂ hr₂ => ?_
      · obtain ⟨ol, hol, hcl, nl, hdl⟩ := hl
        obtain ⟨ocls, odict, odata, oslots⟩ := ol
        simp only at hcl hdl
        subst hcl; subst hdl
        have hol' : (s.heap.push nu).get? l = some { cls := .type "tuple", dict := odict, data := .seq items nl, slots := oslots } := Heap.get?_push_of_some _ hol
        have hsls := F.sub_tuple_set
        have hslf := F.sub_tuple_frozenset
        have hne : (Value.type "tuple" == Value.type "dict") = false := by decide
        have hl1 : (s.heap.push nu).IsTuple l items := ⟨_, hol', rfl, nl, rfl⟩
        unfold Builtin.«set.__init__» noKeywords Builtin.Frozenset.updateFrom
        generalize hPI : pyIter = PI
        wp_walk
        subst hPI
        refine wpAny_pyIter_tuple hl1 (wpAny_bind (wpAny_runValue ?_))
        have hlS : l < s.heap.objs.size := Heap.lt_size hol
        have hh3 : A.in1.in1.in1.handled = none := by simp [hh]
        have hneI : l ≠ (s.heap.push nu).objs.size := by rw [Heap.size_push]; exact Nat.ne_of_lt (Nat.lt_succ_of_lt hlS)
        have hSf : s.heap.objs.size ∉ [(s.heap.push nu).objs.size, l] := by
          rw [Heap.size_push]; simp only [List.mem_cons, List.mem_singleton, List.not_mem_nil, or_false, not_or]
          exact ⟨Nat.ne_of_lt (Nat.lt_succ_self _), Nat.ne_of_gt hlS⟩
        have hval : ∀ (i : Nat) (v : Value), items[i]? = some v → ∃ k, ks[i]? = some k ∧ knd.is k v = true ∧ v.scannable = true := fun i v hv => prAt hit i v (by rw [Array.getElem?_toList]; exact hv)
        refine setG_loop ((Walks.tuple hh3 _ l hneI items).toS) s.heap.objs.size hSf ks hisz hb hval (items.size - 0) 0 _ (by omega) (Nat.zero_le _) ⟨⟨_, Heap.get?_push_size _ rfl, rfl, rfl⟩, (hl1.push _)⟩ ?hS0 ?hR
        case hS0 =>
          exact setG_new (o := nu) (Heap.get?_push_of_some _ hS)
        case hR =>
          intro s' mv hS'
          obtain ⟨h', g2, d', tk', os'⟩ := s'
          have eg : g2 = s.gens := mv.gens
          have ed : d' = s.drawn := mv.drawn
          have eo : os' = s.os := mv.os
          subst eg; subst ed; subst eo
          refine wpAny_pure (wpAny_pure ⟨rfl, h', tk', rfl, hS', fun b o e => ?_⟩)
          have hb0 : b < s.heap.objs.size := Heap.lt_size e
          refine mv.heap b o ?_ (Heap.get?_push_of_some _ (Heap.get?_push_of_some _ e))
          simp only [List.mem_cons, List.mem_singleton, List.not_mem_nil, or_false, not_or]
          exact ⟨Nat.ne_of_lt hb0, by rw [Heap.size_push]; exact Nat.ne_of_lt (Nat.lt_succ_of_lt hb0)⟩
      · cases r₂ with
        | error e => exact hr₂
        | ok fl₂ =>
          cases fl₂ with
          | ret r =>
            obtain ⟨rfl, h', tk, rfl, hS', hk'⟩ := hr₂
            repeat (any_goals (first | assumption | wp_step))
            exact h _ _ hS' hk'
          | _ => exact hr₂.elim
    | _ => exact hr.elim
/-- sorted(s), s such a set -/
theorem sorted_setG {a : Addr} {L : List κ} {enc : κ → PyData} {Q : Value → Shared → Prop} (R : SetG knd s.heap a L) (hh : A.handled = none) (hrd : ∀ (h : Heap) v k, knd.is k v = true → Reads h v (enc k) []) (hal : ∀ ks : List κ, AllAlike (ks.map enc)) (hst : ∀ ks : List κ, Sorty (ks.map enc)) (hdp : ∀ k, (enc k).depth = 0) (hu : A.units + 4 < cLine)
    (hQ : ∀ s' p (out : List Value) (c : Nat) (ks : List κ), (∀ b o, s.heap.get? b = some o → s'.heap.get? b = some o) → s'.gens = s.gens → s'.os = s.os → s.heap.objs.size ≤ p →
      s'.heap.get? p = some (seqObj "list" out.toArray c) → ks.Perm L → EachIs (fun v k => knd.is k v = true) out (ks.mergeSort (dataLe false enc)) → Q (.ref p) s') :
    wpAny (model P w) A (call (.builtin "sorted") [.ref a]) Q E s := by
  obtain ⟨o, es, ep, t, ks, ho, hex, hd, pr, pm0, nd, hb, hf, hr, hl⟩ := R
  have hsz : es.size < scanBound := by rw [size_of pr, pm0.length_eq]; exact hb
  refine Calls.call_function_entry kind_sorted plain_sorted entry_sorted (args_sorted1 _) ?_
  unfold Builtin.«sorted»
  refine wpAny_bind (m := checkCount "sorted" 1 1 _) (wpAny_pure ?_)
  refine wpAny_bind (collect_set (A := A.in1) hh ⟨o, ho, hex.1, hd⟩ hf hsz hr hl fun s1 vs k1 hz g1 o1 pm => ?_)
  have pr2 : Paired (fun v k => knd.is k v = true) (es.toList.map (·.2)) ks := prMapL (R := fun v k => knd.is k v = true) (f := fun e : Int × Value => e.2) (Paired.mapP pr fun _ _ z => z.1)
  obtain ⟨ks1, pk, pr3⟩ := prPerm pm pr2
  have hlen : vs.length ≤ sizeLine := by
    rw [Paired.length pr3, pk.length_eq, pm0.length_eq]
    exact fits_of_scanBound hb
  have e : EachIs (fun v k => knd.is k v = true) vs ks1 := eachOf pr3
  refine wpAny_bind (wpAny_newList ?_ hlen)
  have hoL : (s1.heap.push (seqObj "list" vs.toArray 0)).get? s1.heap.objs.size = some (seqObj "list" vs.toArray 0) := Heap.get?_push_size _ rfl
  have er : EachIs (fun v d => ∃ as, Reads (sortingHeap (s1.heap.push (seqObj "list" vs.toArray 0)) s1.heap.objs.size vs) v (enc d) as) vs ks1 := e.mono fun v k z => ⟨_, hrd _ v k z⟩
  have so : SortsAt P w A.in1.in1 { s1 with heap := sortingHeap (s1.heap.push (seqObj "list" vs.toArray 0)) s1.heap.objs.size vs } (dataKind (sortingHeap (s1.heap.push (seqObj "list" vs.toArray 0)) s1.heap.objs.size vs) (ks1.map enc)) vs :=
    sorts_any (s := { s1 with heap := sortingHeap (s1.heap.push (seqObj "list" vs.toArray 0)) s1.heap.objs.size vs }) (each_map (R := fun v d => ∃ as, Reads (sortingHeap (s1.heap.push (seqObj "list" vs.toArray 0)) s1.heap.objs.size vs) v d as) enc er) (hal ks1) (hst ks1) (fun d hd => by
      obtain ⟨k, _, rfl⟩ := List.mem_map.mp hd
      rw [hdp k]
      show A.units + 1 + 1 + 0 < cLine
      omega)
  refine wpAny_bind (wpAny_holding (wpAny_call_entry slot_list_sort ⟨_, hoL, rfl⟩ entry_list_sort (list_sort_vals (s := { s1 with heap := s1.heap.push (seqObj "list" vs.toArray 0) }) hoL so hlen ⟨_, rfl, ?_⟩) (args_list_sort _)))
  generalize hout : sortVals (dataKind (sortingHeap (s1.heap.push (seqObj "list" vs.toArray 0)) s1.heap.objs.size vs) (ks1.map enc)) false vs vs = out
  have eo : EachIs (fun v k => knd.is k v = true) out (ks1.mergeSort (dataLe false enc)) := by
    rw [← hout]
    exact sortVals_data false e er (hal ks1)
  obtain ⟨c, hc⟩ := sortedHeap_at (vs := vs) (out := out.toArray) hoL
  refine wpAny_pure ⟨_, rfl, hQ _ s1.heap.objs.size out c ks1 (fun b u e => ?_) g1 o1 hz hc (pk.trans pm0) eo⟩
  have q := k1 b u e
  have hlt := Heap.lt_size q
  show (sortedHeap (s1.heap.push (seqObj "list" vs.toArray 0)) s1.heap.objs.size vs out.toArray).get? b = some u
  rw [sortedHeap_old (Nat.ne_of_lt hlt) (by rw [size_push']; exact Nat.lt_succ_of_lt hlt)]
  exact Heap.get?_push_of_some _ q
end
end DL
/-! The data layer, part S3: sorted(set(x)) over trees, x of texts. -/
namespace DL
open PySem PySem.W PyProof.Rows L2
def SetX (P : Program) (w : World) (a : Addr) (L : List Str) : HO := .ext fun h => SetG (strKind P w) h a L
theorem setX_ok {P : Program} {w : World} {H : Hp} {h : Heap} {a : Addr} {L : List Str} (R : SetG (strKind P w) h a L) : ObjOk P w H h a (SetX P w a L) := by
  refine ⟨R, ?_, fun h1 h2 p k => SetG.at p k⟩
  obtain ⟨o, _, _, _, _, ho, _⟩ := R
  exact ⟨o, ho⟩
/-- texts by code points -/
def leS (a b : Str) : Bool := decide (a.cps.toList ≤ b.cps.toList)
theorem leS_data : leS = dataLe false (fun k : Str => PyData.str k) := by
  rw [dataLe_str]; rfl
theorem leS_eq : ∀ a b : Str, leS a b = leD (.str a) (.str b) := fun a b => by
  rw [leS_data]; rfl
theorem leS_trans (a b c : Str) (h1 : leS a b = true) (h2 : leS b c = true) : leS a c = true := by
  unfold leS at *
  rw [decide_eq_true_eq] at *
  exact List.le_trans h1 h2
theorem leS_total (a b : Str) : (leS a b || leS b a) = true := by
  unfold leS
  rw [Bool.or_eq_true, decide_eq_true_eq, decide_eq_true_eq]
  exact List.le_total _ _
theorem leS_antisymm (a b : Str) (h1 : leS a b = true) (h2 : leS b a = true) : a = b := by
  unfold leS at *
  rw [decide_eq_true_eq] at *
  have e := List.le_antisymm h1 h2
  cases a; cases b
  simp at e
  rw [e]
def sortS (l : List Str) : List Str := l.mergeSort leS
theorem sortS_perm (l : List Str) : (sortS l).Perm l := List.mergeSort_perm l leS
theorem sortS_sorted (l : List Str) : (sortS l).Pairwise (fun a b => leS a b = true) := List.pairwise_mergeSort leS_trans leS_total l
theorem sortS_of_perm {l m : List Str} (p : l.Perm m) : sortS l = sortS m :=
  List.Perm.eq_of_pairwise (le := fun a b => leS a b = true) (fun a b _ _ h1 h2 => leS_antisymm a b h1 h2) (sortS_sorted l) (sortS_sorted m) (((sortS_perm l).trans p).trans (sortS_perm m).symm)
theorem sortD_strs (l : List Str) : sortD (l.map .str) = (sortS l).map .str := by
  unfold sortD sortS
  exact (List.map_mergeSort (f := D.str) (fun a _ b _ => leS_eq a b)).symm
theorem alike_strs (ks : List Str) : AllAlike (ks.map fun k => PyData.str k) := AllAlike.of fun _ _ => rfl
theorem sorty_strs (ks : List Str) : Sorty (ks.map fun k => PyData.str k) := .inl (Sortable.others fun _ => ⟨(fun z => by cases z), (fun _ z => by cases z)⟩)
theorem srt_strs (ks : List Str) : Srt (ks.map .str) := by
  have e : (ks.map D.str).map py = ks.map fun k => PyData.str k := by rw [List.map_map]; rfl
  refine ⟨?_, by rw [e]; exact alike_strs ks, by rw [e]; exact sorty_strs ks, fun d hd => ?_⟩
  · clear e
    induction ks with
    | nil => rfl
    | cons k ks ih => exact ih
  · obtain ⟨k, _, rfl⟩ := List.mem_map.mp hd
    exact Nat.zero_le _
section
variable {X : Cx} {K : PySem.W.Frag}
theorem paired_strs {P : Program} {w : World} : ∀ {ss : List Str} {us : List Value}, Vals (ss.map V.str) us → Paired (fun v k => (strKind P w).is k v = true ∧ v.scannable = true) us ss
  | [], _, .nil => .nil
  | x :: ss, _, .cons r t => by
    obtain ⟨tk, rfl⟩ := r
    refine .cons ⟨?_, rfl⟩ (paired_strs t)
    show Value.isStrOf x (.str x tk) = true
    simp [Value.isStrOf]
def rSetS (K : PySem.W.Frag) (P : Program) (w : World) : List V → Hp → VK → Prop := fun xs H Q => ∃ (a : Addr) (ss : List Str), xs = [.ref a] ∧ (SqL K H a (ss.map V.str) ∨ SqT K H a (ss.map V.str)) ∧ ss.length + 1 < scanBound ∧ ∀ p, H p = none → Q (.ref p) (upd H p (SetX P w p (distK ss)))
theorem cr_setS (hc : X.calm = true) : CallR X (.type "set") (rSetS X.K X.prog X.w) := by
  intro pins s σ H xs us Q I r h
  obtain ⟨l, ss, rfl, hl, hf, q⟩ := h
  rw [Vals.ref1 r]
  have hn : H s.heap.objs.size = none := I.hok.fresh (Nat.le_refl _)
  have fin : ∀ (h' : Heap) (tk : Nat), SetG (strKind X.prog X.w) h' s.heap.objs.size (distK ss) → (∀ b o, s.heap.get? b = some o → h'.get? b = some o) → EP X pins σ Q (.ref s.heap.objs.size) { s with heap := h', toks := tk } := fun h' tk R k =>
    ⟨.ref _, upd H s.heap.objs.size (SetX X.prog X.w s.heap.objs.size (distK ss)), I.laid (t' := tk) k (Nat.le_refl _) (setX_ok R), rfl, q _ hn⟩
  rcases hl with hl | hl
  · obtain ⟨its, rv, pl, hz⟩ := I.list hl
    exact call_set_listK (P := X.prog) (w := X.w) (knd := strKind X.prog X.w) ss (I.ok.hd hc) pl.isList (by simpa using paired_strs rv) hf fin
  · obtain ⟨its, rv, ⟨o, ho, hcl, n, hd⟩, hz⟩ := I.tuple hl
    exact call_set_tupleK (P := X.prog) (w := X.w) (knd := strKind X.prog X.w) ss (I.ok.hd hc) ⟨o, ho, hcl, n, hd⟩ (by simpa using paired_strs rv) hf fin
def rSortSetS (P : Program) (w : World) : List V → Hp → VK → Prop := fun xs H Q => ∃ (a : Addr) (L : List Str), xs = [.ref a] ∧ H a = some (SetX P w a L) ∧ L.length ≤ sizeLine ∧ ∀ p, H p = none → Q (.ref p) (upd H p (.lst ((sortS L).map V.str)))
theorem vals_eachS {P : Program} {w : World} : ∀ {us : List Value} {ks : List Str}, EachIs (fun v k => (strKind P w).is k v = true) us ks → Vals (ks.map V.str) us
  | _, _, .nil => .nil
  | _, _, .cons r t => by
    obtain ⟨tk, rfl⟩ := Value.isStrOf_shape r
    exact .cons ⟨tk, rfl⟩ (vals_eachS t)
theorem cr_sortSetS (hc : X.calm = true) (hu : X.A.units + 64 < cLine) : CallR X (.builtin "sorted") (rSortSetS X.prog X.w) := by
  intro pins s σ H vs us Q I r h
  obtain ⟨a, L, rfl, ha, hz, q⟩ := h
  have R : SetG (strKind X.prog X.w) s.heap a L := (I.hok a _ ha).1
  rw [Vals.ref1 r]
  refine sorted_setG (enc := fun k : Str => PyData.str k) R (I.ok.hd hc) (fun h v k z => ?_) alike_strs sorty_strs (fun _ => rfl) (by omega) fun s' p out c ks k g o hp hg pm eo => ?_
  · obtain ⟨tk, rfl⟩ := Value.isStrOf_shape z
    exact Reads.str k tk
  · have es : ks.mergeSort (dataLe false fun k => PyData.str k) = sortS L := by
      rw [← leS_data]
      exact sortS_of_perm pm
    rw [es] at eo
    have hv := vals_eachS eo
    have hn : H p = none := I.hok.fresh hp
    have hlen : ((sortS L).map V.str).length ≤ sizeLine := by rw [List.length_map, (sortS_perm L).length_eq]; exact hz
    have J : Inv X pins σ (upd H p (.lst ((sortS L).map V.str))) { s with heap := s'.heap, gens := s'.gens, drawn := s'.drawn, toks := s'.toks } :=
      I.call (ch := []) (Un.laid k hp hn) (I.hok.laid k hp ⟨hlen, out, c, hv, hg⟩) (by rw [g]; exact I.bare) (fun _ z => nomatch z)
    have e : s' = { s with heap := s'.heap, gens := s'.gens, drawn := s'.drawn, toks := s'.toks } := by
      cases s'
      cases s
      cases o
      rfl
    rw [e]
    exact ⟨.ref p, _, J, rfl, q p hn⟩
/-- sorted(set(e)) -/
def strsOf : List D → Option (List Str)
  | [] => some []
  | .str x :: r => (strsOf r).map (x :: ·)
  | _ :: _ => none
theorem strsOf_map : ∀ {ds : List D} {ss : List Str}, strsOf ds = some ss → ds = ss.map .str
  | [], _, e => by cases e; rfl
  | .str x :: r, ss, e => by
    cases q : strsOf r with
    | none => simp [strsOf, q] at e
    | some z => simp [strsOf, q] at e; subst e; rw [strsOf_map q]; rfl
  | .non :: _, _, e => by cases e
  | .bl _ :: _, _, e => by cases e
  | .int _ :: _, _, e => by cases e
  | .list _ :: _, _, e => by cases e
  | .tup _ :: _, _, e => by cases e
  | .dict _ :: _, _, e => by cases e
  | .obj _ _ :: _, _, e => by cases e
theorem strsOf_of (ss : List Str) : strsOf (ss.map .str) = some ss := by
  induction ss with
  | nil => rfl
  | cons x ss ih => show (strsOf (ss.map .str)).map (x :: ·) = _; rw [ih]; rfl
def dSortSet (u : DTa) : DT := fun δ Q => u δ fun dvs => ∃ a ds ss, dvs = [.d a] ∧ seqOf a = some ds ∧ strsOf ds = some ss ∧ ss.length < 1000 ∧ Q (.d (.list ((sortS (distK ss)).map .str)))
theorem de_sortSet {e : Expr} {ta : TA} {u : DTa} {p pos p2 pos2 : Pos} (hc : X.calm = true) (hu : X.A.units + 64 < cLine) (hg : Gl X "sorted") (hm : X.mg "sorted" = none) (hg2 : Gl X "set") (hm2 : X.mg "set" = none) (h : DA X [e] ta u)
    (he : starEach [e] X.env = (false, eval e X.env) :: starEach [] X.env := by rfl) (hpl : (backTo pos2 (starEach [] X.env)).any (·.1) = false := by rfl)
    (he2 : starEach [.Call (.Name "set" p2) [e] [] pos2] X.env = (false, eval (.Call (.Name "set" p2) [e] [] pos2) X.env) :: starEach [] X.env := by rfl) (hpl2 : (backTo pos (starEach [] X.env)).any (·.1) = false := by rfl) :
    DE X (.Call (.Name "sorted" p) [.Call (.Name "set" p2) [e] [] pos2] [] pos) (tCB (rSortSetS X.prog X.w) (tCons (tCB (rSetS X.K X.prog X.w) ta) tNil)) (dSortSet u) := by
  refine ⟨pe_callB (cr_sortSetS hc hu) hg hm (by decide +kernel) (pa_cons (pe_callTy (cr_setS hc) hg2 hm2 (by decide +kernel) h.pa (by decide) (by decide) he hpl) pa_nil he2) (by decide) (by decide) he2 hpl2, ?_⟩
  intro b Hf0 H0 Hf H δ σ Q Q' r hq k
  refine h.en b Hf0 H0 Hf H δ σ _ _ r hq fun dvs vs Hf1 H1 hr s1 w1 r1 => ?_
  obtain ⟨a, ds, ss, rfl, ea, es, hl, hq⟩ := hr
  match vs, r1 with
  | [v], ⟨rv, _⟩ =>
    obtain ⟨pp, xs, rfl, hs, z, al⟩ := Da.seq rv ea
    rw [strsOf_map es] at al
    have ex := DaAll.un_strs ss al
    subst ex
    refine ⟨pp, ss, rfl, hs.imp w1.sub.seqL w1.sub.seqT, Nat.lt_of_lt_of_le (Nat.succ_lt_succ hl) (by decide), fun p hp => ?_⟩
    obtain ⟨s2, w2⟩ := Step.laidO (o := SetX X.prog X.w p (distK ss)) w1 hp
    have hd := distK_len ss
    have hz : (distK ss).length ≤ sizeLine := Nat.le_trans (Nat.le_trans hd (Nat.le_of_lt hl)) (by decide)
    refine ⟨p, _, rfl, upd_same, hz, fun p' hp' => ?_⟩
    obtain ⟨s3, w3⟩ := Step.laid (o := .lst ((sortS (distK ss)).map V.str)) w2 hp'
    exact k _ _ _ _ hq ((s1.trans w2 s2).trans w3 s3) w3 (.list upd_same (by rw [List.length_map, (sortS_perm _).length_eq]; exact hz) (DaAll.strs _))
end
end DL
/-! The data layer, part A: names, calls of the program's own defs, several targets, items of lists. -/
namespace DL
open PySem PySem.Spec PyProof.Rows L2
section
variable {X : Cx} {K : PySem.W.Frag} {te ta tb : TE} {t u : DT}
theorem dv (i : Nat) {x : Str} {pos : Pos} (hN : X.N[i]? = some x := by rfl) (hv : Vis X.env.scope x := by first | exact Or.inl rfl | exact Or.inr (Or.inl rfl) | exact Or.inr (Or.inr rfl)) (hd : (x == ("__debug__" : Str)) = false := by decide)
    (hcd : (x == ("__classdict__" : Str)) = false := by decide) : DE X (.Name x pos) (tVar i) (dVar i) := ⟨pe_var hN hv hd hcd, ent_var⟩
/-- a def of the program keeps its promise, and is found by its name -/
structure CallD (P : Program) (w : World) (K : PySem.W.Frag) (mg : Str → Option Value) (k : Nat) (x : Str) (ps : List Str) (S : RCD) : Prop where
  mono : Mono S
  ex : ∃ (f : Addr) (fd : FuncData), mg x = some (.ref f) ∧ PySem.W.keepIn K (.ref f) = true ∧ Binds K fd ps [] ∧ ∀ base : Heap, K.In base → base.Ns mainGlobals mg → FnG P w K mg base k f fd ps (spD K S)
/-- the surroundings, as every def of one law meets them -/
structure Here (X : Cx) (P : Program) (w : World) (K : PySem.W.Frag) (mg : Str → Option Value) : Prop where
  hp : X.prog = P
  hw : X.w = w
  hK : X.K = K
  hmg : X.mg = mg
  kin : K.In X.base
  ns : X.base.Ns mainGlobals mg
theorem de_callC {P : Program} {w : World} {mg : Str → Option Value} {k : Nat} {ps : List Str} {S : RCD} {x : Str} {e : Expr} {es : List Expr} {tt : TA} {q : DTa} {p pos : Pos} (C : CallD P w K mg k x ps S) (hX : Here X P w K mg) (hgd : X.A.guards = some []) (hr : Room k X.A) (hg : Gl X x)
    (ha : DA X (e :: es) tt q) (hdb : (x == ("__debug__" : Str)) = false := by decide) (he : starEach (e :: es) X.env = (false, eval e X.env) :: starEach es X.env := by rfl) (hpl : (backTo pos (starEach es X.env)).any (·.1) = false := by rfl) :
    DE X (.Call (.Name x p) (e :: es) [] pos) (tCall (spD X.K S) [] E0 tt) (dCall S q) := by
  obtain ⟨rfl, rfl, rfl, rfl, h1, h2⟩ := hX
  obtain ⟨f, fd, hm, hk, hb, F⟩ := C.ex
  exact de_callG (F X.base h1 h2) C.mono hgd hr hg hm hk hb ha hdb he hpl
/-- THE RULE of a def of the program -/
theorem CallD.of {P : Program} {w : World} {mg : Str → Option Value} {x : Str} {st : Stmt} {f : Addr} {fd : FuncData} {N ps : List Str} {k : Nat} {S : RCD} (F : FnP K x st f fd) (hm : mg x = some (.ref f)) (hk : PySem.W.keepIn K (.ref f) = true) (hb : Binds K fd ps []) (sc : FnScope N ps (defScope st)) (mono : Mono S) (len : ∀ ds Q, S ds Q → ds.length = ps.length)
    (hbody : ∀ (base : Heap) (cdv : Value) (A : Around) (outer : List Env) (s : Shared) (H : Hp) (E : XK), Here (cxOf CX0 P w K mg base N x (defScope st) f cdv A outer s H E) P w K mg → A.guards = some [] → Room k (A.deeper (PyProof.Rows.envOfC x (defScope st) s.heap.objs.size f cdv)) →
      ∃ ts t, DSs (cxOf CX0 P w K mg base N x (defScope st) f cdv A outer s H E) (defBody st) ts t ∧ ∀ ds (Q : DV → Prop), S ds Q → t { nx := fun _ => Q (.d .non), rt := Q } (startD N ds)) : CallD P w K mg (k + 1) x ps S :=
  ⟨mono, f, fd, hm, hk, hb, fun base h1 h2 => okT F sc len fun cdv A outer s H E hg hr => hbody base cdv A outer s H E ⟨rfl, rfl, rfl, rfl, h1, h2⟩ hg hr⟩
theorem CallD.up {P : Program} {w : World} {mg : Str → Option Value} {j k : Nat} {x : Str} {ps : List Str} {S : RCD} (C : CallD P w K mg j x ps S) (h : j ≤ k) : CallD P w K mg k x ps S := by
  obtain ⟨m, f, fd, h1, h2, h3, F⟩ := C
  exact ⟨m, f, fd, h1, h2, h3, fun base a b => (F base a b).up h⟩
/-! ### several targets -/
abbrev DGs := List D → Sl → (Sl → Prop) → Prop
def EntGs (K : PySem.W.Frag) (g : TGs) (d : DGs) : Prop := ∀ (b : Option Addr) (Hf0 H0 Hf H : Hp) (δ : Sl) (σ : L2.St) (vs : List V) (xs : List D) (Q : Sl → Prop) (Q' : L2.St → Hp → Prop), Rep b K Hf0 H0 Hf H δ σ → DaAll K Hf vs xs → d xs δ Q → (∀ δ' σ', Q δ' → Rep b K Hf0 H0 Hf H δ' σ' → OwnSub δ' σ' δ σ → Q' σ' H) → g vs σ H Q'
structure DGms (X : Cx) (ts : List Expr) (g : TGs) (d : DGs) : Prop where
  pgs : PGs X ts g
  en : EntGs X.K g d
def gsNil : DGs := fun xs δ Q => xs = [] ∧ Q δ
def gsCons (g : DG) (h : DGs) : DGs := fun xs δ Q => ∃ x r, xs = x :: r ∧ g x δ fun δ' => h r δ' Q
theorem dgs_nil : DGms X [] gNil gsNil := ⟨pgs_nil, fun b Hf0 H0 Hf H δ σ vs xs Q Q' r h hq k => by
  obtain ⟨rfl, hq⟩ := hq
  cases h
  exact ⟨rfl, k _ _ hq r (OwnSub.refl _ _)⟩⟩
theorem dgs_cons {e : Expr} {es : List Expr} {g : TG} {d : DG} {gs : TGs} {ds : DGs} (h1 : DGm X e g d) (h2 : DGms X es gs ds) (hs : (assignEach (e :: es) X.env).map (·.2) = assign e X.env :: (assignEach es X.env).map (·.2) := by rfl) : DGms X (e :: es) (gCons g gs) (gsCons d ds) := ⟨pgs_cons h1.pg h2.pgs hs, fun b Hf0 H0 Hf H δ σ vs xs Q Q' r h hq k => by
  obtain ⟨x, xr, rfl, hq⟩ := hq
  cases h with
  | cons hx hr =>
    exact ⟨_, _, rfl, h1.en b Hf0 H0 Hf H δ σ _ x _ _ r hx hq fun δ' σ' hq' r' o' => h2.en b Hf0 H0 Hf H δ' σ' _ xr Q Q' r' hr hq' fun δ2 σ2 hq2 r2 o2 => k δ2 σ2 hq2 r2 (o2.trans o')⟩⟩
def gTupD (n : Nat) (ds : DGs) : DG := fun x δ Q => ∃ xs, x = .tup xs ∧ xs.length = n ∧ ds xs δ Q
theorem dg_tup {es : List Expr} {k n : Nat} {pos : Pos} {gs : TGs} {ds : DGs} (hc : X.calm = true) (h : DGms X es gs ds) (hn : (assignEach es X.env).length = n := by rfl) (hst : (assignEach es X.env).findIdx? (·.1) = none := by rfl) : DGm X (.Tuple es k pos) (gTup X.K n gs) (gTupD n ds) := ⟨pg_tup hc h.pgs hn hst, fun b Hf0 H0 Hf H δ σ v x Q Q' r hx hq k => by
  obtain ⟨xs, rfl, hl, hq⟩ := hq
  cases hx with
  | tup hs z al => exact ⟨_, _, rfl, r.wd.sub.seqT hs, by rw [al.length]; exact hl, h.en b Hf0 H0 Hf H δ σ _ xs Q Q' r al hq k⟩⟩
theorem ds_asg {tg e : Expr} {pos : Pos} {g : TG} {d : DG} (h : DE X e te t) (hg : DGm X tg g d) (hs : swapsWithSole [tg] e pos.line X.env = pure false := by rfl) (hw : swappedStores [tg] e X.env = pure none := by rfl)
    (h1 : (assignEach [tg] X.env).map (·.2) = [assign tg X.env] := by rfl) : DS X (.Assign [tg] e pos) (tAsg te g) (dAsg t d) := ⟨ps_asg h.pe hg.pg hs hw h1, ent_asg h.en hg.en⟩
/-- the targets' names are the block's own -/
def GsWipe (g : TGs) (vs : List Nat) : Prop := ∀ xs σ σ0 H Q, L2.wipe σ vs = L2.wipe σ0 vs → g xs σ H Q → g xs σ H fun σ2 H2 => L2.wipe σ2 vs = L2.wipe σ0 vs ∧ Q σ2 H2
/-! ### items of a list, by values -/
theorem get_list : PGet X (fun o i H Q => ∃ p xs k v, o = .ref p ∧ i = .int k ∧ 0 ≤ k ∧ H p = some (.lst xs) ∧ atI xs k = some v ∧ Q v H) := by
  intro pins s σ H o i ov iv Q I ro ri h
  obtain ⟨p, xs, k, z, rfl, rfl, h0, hp, he, q⟩ := h
  cases ro
  obtain ⟨tk, rfl⟩ := ri
  obtain ⟨its, r, pl, hz⟩ := I.list (SqL.of hp)
  obtain ⟨j, h1, h2, h3, h4, h5⟩ := atI_get he
  obtain ⟨w, ew, rw'⟩ := r.get h2
  have hl := r.length
  have hn := line63
  have hj : k.toNat = j := by
    rw [seqIndex_of h0 h5] at h1
    exact Option.some.inj h1
  exact wpAny_getItem_list pl.isList h0 (by omega) (by rw [hj]; simpa using ew) ⟨z, H, I, rw', q⟩
end
end DL
/-! The data layer, part B: the head's facts with the table of modules, the law's bag and takings from it. -/
namespace DL
open PySem PySem.Spec PyProof.Rows L2
/-! ### the head -/
def sysB (K : PySem.W.Frag) : Bool := match K.lookup sysModules with
  | some ⟨_, _, .dict _ _, _⟩ => true
  | _ => false
theorem sysB_ok {K : PySem.W.Frag} (h : sysB K = true) : SysIn K := by
  unfold sysB at h
  cases q : K.lookup sysModules with
  | none => rw [q] at h; cases h
  | some o =>
    obtain ⟨oc, od, dt, osl⟩ := o
    rw [q] at h
    cases dt with
    | dict es ep => exact ⟨_, es, ep, q, rfl⟩
    | _ => cases h
def obsT (fa : List He.Fa) (fn : List He.DefD) (K : PySem.W.Frag) : Bool × He.AlD := (sysB K, He.obsD fa fn K)
def SaysT (fa : List He.Fa) (fn : List He.DefD) (K : PySem.W.Frag) : Prop := obsT fa fn K = (true, He.valD fn)
def obsTG (n : Nat) (fa : List He.Fa) (fn : List He.DefD) (g : Addr → Option Obj) : Bool × He.AlD := obsT fa fn (He.frG g (sysModules :: He.asD g n))
def hookT (n : Nat) (fa : List He.Fa) (fn : List He.DefD) : PySem.W.Hook where
  α := Bool × He.AlD
  obs := fun s => obsTG n fa fn s.heap.get?
  val := fun _ => (true, He.valD fn)
  says := fun _ h => ∃ K : PySem.W.Frag, K.In h ∧ SaysT fa fn K
  of := fun _ _ e => ⟨_, He.frG_in, e⟩
  keeps := fun _ _ _ ⟨K, hK, c⟩ k => ⟨K, PySem.W.Frag.In.keeps hK k, c⟩
theorem obsTG_eq {n : Nat} {fa : List He.Fa} {fn : List He.DefD} {g : Addr → Option Obj} {s : Shared} (h : ∀ a, g a = s.heap.get? a) : obsTG n fa fn g = (hookT n fa fn).obs s := by
  have e : g = s.heap.get? := funext h
  rw [e] <;> rfl
theorem SaysT.sys {fa : List He.Fa} {fn : List He.DefD} {K : PySem.W.Frag} (c : SaysT fa fn K) : SysIn K := sysB_ok (congrArg (fun z : Bool × He.AlD => z.1) c)
theorem SaysT.d {fa : List He.Fa} {fn : List He.DefD} {K : PySem.W.Frag} (c : SaysT fa fn K) : He.SaysD fa fn K := congrArg (fun z : Bool × He.AlD => z.2) c
/-- a def, found by its name -/
def Got (K : PySem.W.Frag) (mg : Str → Option Value) (x : Str) (st : Stmt) (ps : List Str) : Prop := ∃ (f : Addr) (fd : FuncData), FnP K x st f fd ∧ mg x = some (.ref f) ∧ PySem.W.keepIn K (.ref f) = true ∧ Binds K fd ps []
theorem Got.call {P : Program} {w : World} {K : PySem.W.Frag} {mg : Str → Option Value} {x : Str} {st : Stmt} {N ps : List Str} {k : Nat} {S : RCD} (G : Got K mg x st ps) (sc : FnScope N ps (defScope st)) (mono : Mono S) (len : ∀ ds Q, S ds Q → ds.length = ps.length)
    (hbody : ∀ (base : Heap) (f : Addr) (cdv : Value) (A : Around) (outer : List Env) (s : Shared) (H : Hp) (E : XK), Here (cxOf CX0 P w K mg base N x (defScope st) f cdv A outer s H E) P w K mg → A.guards = some [] → Room k (A.deeper (PyProof.Rows.envOfC x (defScope st) s.heap.objs.size f cdv)) →
      ∃ ts t, DSs (cxOf CX0 P w K mg base N x (defScope st) f cdv A outer s H E) (defBody st) ts t ∧ ∀ ds (Q : DV → Prop), S ds Q → t { nx := fun _ => Q (.d .non), rt := Q } (startD N ds)) : CallD P w K mg (k + 1) x ps S := by
  obtain ⟨f, fd, F, h1, h2, h3⟩ := G
  exact CallD.of F h1 h2 h3 sc mono len fun base cdv A outer s H E hX hg hr => hbody base f cdv A outer s H E hX hg hr
/-! ### the bag -/
abbrev rAbs : List V → Hp → VK → Prop := fun xs H Q => ∃ i, xs = [.int i] ∧ Q (.int (if i < 0 then -i else i)) H
def tBag (K : PySem.W.Frag) : TS := tRet (tLst (tCons (tC (.int 0)) (tCons (tC (.int 1234567891)) (tCons (tC (.int 0)) (tCons (tLc (iList K (L2.tSl (rSlL K) (tVar 0) tNoPart (tPart (tC (.int 63))))) (gName 1) tYes (tCB rAbs (tCons (tVar 1) tNil)) [1]) tNil)))))
def spBag (K : PySem.W.Frag) : Sp := fun vs H Q _ => ∃ (a : Addr) (ns : List Int), vs = [.ref a] ∧ SqL K H a (ns.map V.int) ∧ ns.length ≤ sizeLine ∧ ∀ p Hf' H', Wd (some p) Hf' H' → Q (.ref p) H'
theorem cut_ints (ns : List Int) (lo hi : Option Int) : ∃ cs : List Int, cutV (ns.map V.int) lo hi = cs.map V.int ∧ cs.length ≤ ns.length := by
  refine ⟨(ns.drop (HT.sIx ns.length 0 lo)).take (HT.sIx ns.length ns.length hi - HT.sIx ns.length 0 lo), ?_, ?_⟩
  · simp [cutV, List.map_take, List.map_drop]
  · simp only [List.length_take, List.length_drop]
    omega
theorem read_bag {K : PySem.W.Frag} {vs : List V} {H : Hp} {Q : VK} {E : XK} (h : spBag K vs H Q E) : tBag K { nx := fun _ H' => Q .non H', rt := Q } (L2.start ["_law_script", "_law_cell"] vs) H := by
  obtain ⟨a, ns, rfl, hS, hz, hQ⟩ := h
  refine ⟨_, rfl, _, rfl, a, _, rfl, hS, fun p hp => ?_⟩
  obtain ⟨cs, ecs, hlen0⟩ := cut_ints ns none (some 63)
  rw [ecs]
  have hlen : cs.length ≤ sizeLine := Nat.le_trans hlen0 hz
  refine ⟨p, rfl, ⟨_, SqL.of upd_same⟩, fun D hD => ?_⟩
  have hpD : p ≠ D := fun e => by subst e; rw [upd_same] at hD; cases hD
  have hDH : H D = none := by rw [upd_ne hpD.symm] at hD; exact hD
  refine lc_list (xs := cs.map V.int) (fun i H' => (∀ x, x ≠ D → H' x = upd H p (.lst (cs.map V.int)) x) ∧ ∃ acc : List Int, H' D = some (.lst (acc.map V.int)) ∧ acc.length = i ∧ i ≤ cs.length ∧ ∀ x ∈ acc, 0 ≤ x) ⟨fun x hx => upd_ne hx, [], upd_same, rfl, Nat.zero_le _, fun _ h => nomatch h⟩ (fun i H' _ h => SqL.of (by rw [h.1 p hpD, upd_same])) (fun i x H' hx h => ?_) (fun H' h => ?_)
  · obtain ⟨h1, acc, h2, h3, h4, h5⟩ := h
    rw [List.getElem?_map] at hx
    cases e : cs[i]? with
    | none => rw [e] at hx; cases hx
    | some y =>
      rw [e] at hx
      cases hx
      have hi : i < cs.length := (List.getElem?_eq_some_iff.mp e).1
      refine ⟨rfl, V.int y, rfl, y, rfl, acc.map V.int, h2, by rw [List.length_map]; omega, fun z hz => by rw [upd_ne hz]; exact h1 z hz, acc ++ [if y < 0 then -y else y], ?_, by simp [h3], hi, fun z hz => ?_⟩
      · rw [upd_same, List.map_append]; rfl
      · rcases List.mem_append.mp hz with h | h
        · exact h5 z h
        · rw [List.mem_singleton.mp h]
          split <;> omega
  · obtain ⟨h1, acc, h2, h3, h4, h5⟩ := h
    refine ⟨(show (4 : Nat) ≤ sizeLine by decide), fun q hq => ?_⟩
    have hqD : q ≠ D := fun e => by rw [e, h2] at hq; cases hq
    refine hQ q (fun x => if x = D then some (.lst (acc.map V.int)) else none) _ ⟨fun x o hx => ?_, ?_⟩
    · by_cases e : x = D
      · subst e
        rw [if_pos rfl] at hx
        rw [upd_ne hqD.symm, h2]
        exact hx
      · rw [if_neg e] at hx; cases hx
    · exact ⟨if_neg hqD, 0, 1234567891, 0, D, acc, upd_same, if_pos rfl, by decide, by decide, by decide, by decide, h5⟩
/-! ### takings -/
section
variable (K : PySem.W.Frag)
abbrev rGetL : V → V → Hp → VK → Prop := fun o i H Q => ∃ p xs k v, o = .ref p ∧ i = .int k ∧ 0 ≤ k ∧ H p = some (.lst xs) ∧ atI xs k = some v ∧ Q v H
abbrev rInt1 : List V → Hp → VK → Prop := fun xs H Q => (∃ i, xs = [.int i] ∧ Q (.int i) H) ∨ ∃ k, xs = [.bl k] ∧ Q (.int (if k then 1 else 0)) H
def bg (n : Int) : TE := tOp (rIx K) (tVar 0) (tC (.int n))
def tI1 (t : TE) : TE := tCB rInt1 (tCons t tNil)
abbrev rPlus : R2 := rI0 fun i j => .int (i + j)
abbrev rTimes : R2 := rI CMul fun i j => .int (i * j)
abbrev rRest : R2 := rI (fun _ j => 0 < j) fun i j => .int (i % j)
abbrev rFloor : R2 := rI CDiv fun i j => .int (i / j)
def tT1c : TS := tSeq (tAsg (tOp rPlus (tOp rPlus (tOp rTimes (bg K 1) (tC (.int 48271))) (tOp rRest (tI1 (tVar 2)) (tC (.int 2147483647)))) (tOp rTimes (tC (.int 7919)) (bg K 2))) (gName 3))
  (tAsg (tOp rRest (tI1 (tVar 3)) (tC (.int 2147483647))) (gSub (tVar 0) (tC (.int 1)) rSetL))
def tT1b : TS := tSeq (tAugS (tVar 0) (tC (.int 2)) (tC (.int 1)) rGetL (ipI fun i j => i + j) rSetL)
  (tSeq (tIfS (tTest (tOp (rI0 fun i j => .bl (decide (j ≤ i))) (tVar 2) (tC (.int 1000000000000000000)))) (tAsg (tVar 2) (gSub (tVar 0) (tC (.int 0)) rSetL)) tNext)
  (tT1c K))
def tTake1 : TS := tSeq (tAsg (tC (.int 0)) (gName 2))
  (tSeq (tIfS (tTest (tOp (rI0 fun i j => .bl (decide (i < j))) (bg K 2) (tCB (rLen K) (tCons (bg K 3) tNil)))) (tAsg (tOp (rIx K) (bg K 3) (bg K 2)) (gName 2)) tNext)
  (tT1b K))
def tTake2 : TS := tSeq (tAsg (tOp rRest (tI1 (bg K 0)) (tVar 1)) (gName 4)) (tSeq (tAsg (tOp rFloor (bg K 0) (tVar 1)) (gSub (tVar 0) (tC (.int 0)) rSetL)) (tRet (tVar 4)))
def tTake3 : TS := tSeq (tAsg (tOp rRest (tI1 (tOp rTimes (tOp rPlus (bg K 1) (tC (.int 1))) (tC (.int 39373)))) (tC (.int 1000000007))) (gName 5))
  (tSeq (tAsg (tOp rRest (tI1 (tOp rTimes (tOp rRest (tI1 (tOp rTimes (tVar 5) (tVar 5))) (tC (.int 998244353))) (tC (.int 30011)))) (tC (.int 998244353))) (gName 6))
  (tRet (tOp rRest (tI1 (tOp rFloor (tVar 6) (tC (.int 7)))) (tVar 1))))
def tTake : TS := tSeq (tIfS (tTest (tOp rEq (bg K 0) (tC (.int 0)))) (tTake1 K) tNext) (tSeq (tIfS (tTest (tOp (rI0 fun i j => .bl (decide (j < i))) (bg K 0) (tC (.int 0)))) (tTake2 K) tNext) (tTake3 K))
end
/-- the bag stands so -/
structure BagAt (H0 H : Hp) (a l : Addr) (cs : List Int) (d m c : Int) : Prop where
  at_ : H a = some (.lst [.int d, .int m, .int c, .ref l])
  ls : H l = some (.lst (cs.map V.int))
  oth : ∀ x, x ≠ a → H x = H0 x
  d0 : 0 ≤ d
  m0 : 0 ≤ m
  m1 : m < 2147483647
  c0 : 0 ≤ c
theorem BagAt.upd {H0 H : Hp} {a l : Addr} {cs : List Int} {d m c d' m' c' : Int} (h : BagAt H0 H a l cs d m c) (ne : l ≠ a) (h1 : 0 ≤ d') (h2 : 0 ≤ m') (h3 : m' < 2147483647) (h4 : 0 ≤ c') : BagAt H0 (upd H a (.lst [.int d', .int m', .int c', .ref l])) a l cs d' m' c' :=
  ⟨upd_same, by rw [upd_ne ne]; exact h.ls, fun x hx => by rw [upd_ne hx]; exact h.oth x hx, h1, h2, h3, h4⟩
theorem bg_ok {K : PySem.W.Frag} {σ : L2.St} {H : Hp} {a : Addr} {xs : List V} {i : Int} {v : V} {Q : VK} (hs : σ[0]? = some (some (.ref a))) (h : H a = some (.lst xs)) (e : atI xs i = some v) (q : Q v H) : bg K i σ H Q := ⟨_, hs, Or.inl ⟨a, xs, i, v, rfl, rfl, SqL.of h, e, q⟩⟩
theorem read_take3 {K : PySem.W.Frag} {σ : L2.St} {H0 H : Hp} {a l : Addr} {cs : List Int} {d m c n : Int} {E : Ends} (B : BagAt H0 H a l cs d m c) (h0 : σ[0]? = some (some (.ref a))) (h1 : σ[1]? = some (some (.int n))) (hl : 6 < σ.length) (hn : 0 < n) (hQ : ∀ r, 0 ≤ r → r < n → E.rt (.int r) H) : tTake3 K E σ H := by
  have g5 : ∀ v : V, (σ.set 5 (some v))[5]? = some (some v) := fun v => List.getElem?_set_self (by omega)
  have g6 : ∀ v w : V, ((σ.set 5 (some v)).set 6 (some w))[6]? = some (some w) := fun v w => List.getElem?_set_self (by rw [List.length_set]; omega)
  have g1 : ∀ v w : V, ((σ.set 5 (some v)).set 6 (some w))[1]? = some (some (.int n)) := fun v w => by rw [List.getElem?_set_ne (by decide), List.getElem?_set_ne (by decide)]; exact h1
  have m0 := B.m0
  have m1 := B.m1
  refine bg_ok h0 B.at_ rfl ⟨_, _, rfl, rfl, _, _, rfl, rfl, Or.inr ⟨by decide, by decide⟩, Or.inl ⟨_, rfl, _, _, rfl, rfl, (show (0 : Int) < 1000000007 by decide), ?_⟩⟩
  have b1 : (0 : Int) ≤ (m + 1) * 39373 % 1000000007 := Int.emod_nonneg _ (by decide)
  have b2 : (m + 1) * 39373 % 1000000007 < 1000000007 := Int.emod_lt_of_pos _ (by decide)
  refine ⟨_, g5 _, _, g5 _, _, _, rfl, rfl, Or.inl ⟨by omega, by omega⟩, Or.inl ⟨_, rfl, _, _, rfl, rfl, (show (0 : Int) < 998244353 by decide), _, _, rfl, rfl, Or.inr ⟨by decide, by decide⟩, Or.inl ⟨_, rfl, _, _, rfl, rfl, (show (0 : Int) < 998244353 by decide), ?_⟩⟩⟩
  refine ⟨_, g6 _ _, _, _, rfl, rfl, ⟨by decide, by decide⟩, Or.inl ⟨_, rfl, _, g1 _ _, _, _, rfl, rfl, hn, ?_⟩⟩
  exact hQ _ (Int.emod_nonneg _ (by omega)) (Int.emod_lt_of_pos _ hn)
theorem read_take2 {K : PySem.W.Frag} {σ : L2.St} {H0 H : Hp} {a l : Addr} {cs : List Int} {d m c n : Int} {E : Ends} (B : BagAt H0 H a l cs d m c) (ne : l ≠ a) (h0 : σ[0]? = some (some (.ref a))) (h1 : σ[1]? = some (some (.int n))) (hl : 6 < σ.length) (hn : 0 < n) (hn2 : n < 1073741824) (hQ : ∀ r d' H', 0 ≤ r → r < n → BagAt H0 H' a l cs d' m c → E.rt (.int r) H') : tTake2 K E σ H := by
  have g0 : ∀ v : V, (σ.set 4 (some v))[0]? = some (some (.ref a)) := fun v => by rw [List.getElem?_set_ne (by decide)]; exact h0
  have g1 : ∀ v : V, (σ.set 4 (some v))[1]? = some (some (.int n)) := fun v => by rw [List.getElem?_set_ne (by decide)]; exact h1
  have g4 : ∀ v : V, (σ.set 4 (some v))[4]? = some (some v) := fun v => List.getElem?_set_self (by omega)
  refine bg_ok h0 B.at_ rfl (Or.inl ⟨_, rfl, _, h1, _, _, rfl, rfl, hn, ?_⟩)
  refine bg_ok (g0 _) B.at_ rfl ⟨_, g1 _, _, _, rfl, rfl, ⟨hn, hn2⟩, _, g0 _, _, _, _, _, rfl, rfl, B.at_, rfl, ?_⟩
  refine ⟨_, g4 _, hQ _ (d / n) _ (Int.emod_nonneg _ (by omega)) (Int.emod_lt_of_pos _ hn) ?_⟩
  exact B.upd ne (Int.ediv_nonneg B.d0 (by omega)) B.m0 B.m1 B.c0
theorem read_take1 {K : PySem.W.Frag} {σ : L2.St} {H0 H : Hp} {a l : Addr} {cs : List Int} {d m c n : Int} {E : Ends} (B : BagAt H0 H a l cs d m c) (ne : l ≠ a) (hcs : ∀ x ∈ cs, 0 ≤ x) (h0 : σ[0]? = some (some (.ref a))) (hl : σ.length = 7)
    (hQ : ∀ σ' d' m' c' H', σ'[0]? = some (some (.ref a)) → σ'[1]? = σ[1]? → σ'.length = 7 → BagAt H0 H' a l cs d' m' c' → E.nx σ' H') : tTake1 K E σ H := by
  have ls := B.ls
  have key : ∀ (cell : Int), 0 ≤ cell → ∀ σ2 : L2.St, σ2[0]? = some (some (.ref a)) → σ2[1]? = σ[1]? → σ2[2]? = some (some (.int cell)) → σ2.length = 7 →
      tT1b K E σ2 H := by
    intro cell hc σ2 e0 e1 e2 e3
    refine ⟨_, e0, _, _, _, _, rfl, rfl, by decide, B.at_, rfl, _, _, rfl, rfl, _, _, _, _, rfl, rfl, B.at_, rfl, ?_⟩
    have B1 := B.upd (c' := c + 1) ne B.d0 B.m0 B.m1 (by have := B.c0; omega)
    have fin : ∀ (d1 : Int) (H1 : Hp), BagAt H0 H1 a l cs d1 m (c + 1) → tT1c K E σ2 H1 := by
      intro d1 H1 B2
      have k0 : ∀ v : V, (σ2.set 3 (some v))[0]? = some (some (.ref a)) := fun v => by rw [List.getElem?_set_ne (by decide)]; exact e0
      have k1 : ∀ v : V, (σ2.set 3 (some v))[1]? = σ[1]? := fun v => by rw [List.getElem?_set_ne (by decide)]; exact e1
      have k3 : ∀ v : V, (σ2.set 3 (some v))[3]? = some (some v) := fun v => List.getElem?_set_self (by omega)
      have m1 := B.m1
      have m0 := B.m0
      refine bg_ok e0 B2.at_ rfl ⟨_, _, rfl, rfl, Or.inr ⟨by decide, by decide⟩, _, e2, Or.inl ⟨_, rfl, _, _, rfl, rfl, (show (0 : Int) < 2147483647 by decide), _, _, rfl, rfl, bg_ok e0 B2.at_ rfl ⟨_, _, rfl, rfl, Or.inl ⟨by decide, by decide⟩, _, _, rfl, rfl, ?_⟩⟩⟩
      refine ⟨_, k3 _, Or.inl ⟨_, rfl, _, _, rfl, rfl, (show (0 : Int) < 2147483647 by decide), _, k0 _, _, _, _, _, rfl, rfl, B2.at_, rfl, ?_⟩⟩
      exact hQ _ d1 _ (c + 1) _ (k0 _) (k1 _) (by rw [List.length_set]; exact e3) (B2.upd ne B2.d0 (Int.emod_nonneg _ (by decide)) (Int.emod_lt_of_pos _ (by decide)) B2.c0)
    refine ⟨_, e2, _, _, rfl, rfl, _, rfl, ?_⟩
    by_cases hge : (1000000000000000000 : Int) ≤ cell
    · rw [decide_eq_true hge]
      refine ⟨_, e2, _, e0, _, _, _, _, rfl, rfl, upd_same, rfl, ?_⟩
      exact fin cell _ (B1.upd ne hc B.m0 B.m1 B1.c0)
    · rw [decide_eq_false hge]
      exact fin d _ B1
  have s0 : (σ.set 2 (some (V.int 0)))[0]? = some (some (.ref a)) := by rw [List.getElem?_set_ne (by decide)]; exact h0
  have s1 : (σ.set 2 (some (V.int 0)))[1]? = σ[1]? := by rw [List.getElem?_set_ne (by decide)]
  have s2 : ∀ (τ : L2.St) (v : V), τ.length = 7 → (τ.set 2 (some v))[2]? = some (some v) := fun τ v h => List.getElem?_set_self (by omega)
  refine bg_ok s0 B.at_ rfl (bg_ok s0 B.at_ rfl ⟨_, _, rfl, .inl ⟨_, SqL.of ls, rfl⟩, _, _, rfl, rfl, _, rfl, ?_⟩)
  rw [List.length_map]
  by_cases hlt : c < (cs.length : Int)
  · rw [decide_eq_true hlt]
    have hc0 := B.c0
    have hlt' : c.toNat < cs.length := by omega
    have hat : atI (cs.map V.int) c = some (.int cs[c.toNat]) := by
      have := atI_nat (xs := cs.map V.int) (j := c.toNat) (v := .int cs[c.toNat]) (by rw [List.getElem?_map, List.getElem?_eq_getElem hlt']; rfl)
      rw [Int.toNat_of_nonneg hc0] at this
      exact this
    refine bg_ok s0 B.at_ rfl (bg_ok s0 B.at_ rfl (Or.inl ⟨_, _, _, _, rfl, rfl, SqL.of ls, hat, ?_⟩))
    refine key _ (hcs _ (List.getElem_mem hlt')) _ ?_ ?_ (s2 _ _ (by rw [List.length_set]; exact hl)) (by rw [List.length_set, List.length_set]; exact hl)
    · rw [List.getElem?_set_ne (by decide)]; exact s0
    · rw [List.getElem?_set_ne (by decide)]; exact s1
  · rw [decide_eq_false hlt]
    exact key 0 (Int.le_refl _) _ s0 s1 (s2 _ _ hl) (by rw [List.length_set]; exact hl)
/-- what a taking promises: any number below n -/
def STake : RCD := fun ds Q => ∃ n : Int, ds = [.bag, .d (.int n)] ∧ 0 < n ∧ n < 1073741824 ∧ ∀ r, 0 ≤ r → r < n → Q (.d (.int r))
theorem mono_take : Mono STake := fun ds Q Q' h ⟨n, e, h1, h2, h3⟩ => ⟨n, e, h1, h2, fun r a b => h _ (h3 r a b)⟩
theorem read_take {K : PySem.W.Frag} {N : List Str} {vs : List V} {H : Hp} {Q : VK} {E : XK} (hN : N.length = 7) (h : spD K STake vs H Q E) : tTake K { nx := fun _ H' => Q .non H', rt := Q } (L2.start N vs) H := by
  obtain ⟨b, Hf, ds, w, r, no, n, rfl, hn, hn2, hQ⟩ := h
  match vs, r with
  | [v1, v2], ⟨rv1, rv2, _⟩ =>
    obtain ⟨a, rfl, rfl⟩ := rv1
    cases rv2
    have hl : (L2.start N [V.ref a, V.int n]).length = 7 := by
      unfold L2.start
      simp [hN]
    obtain ⟨hfa, d, m, c, l, cs, e1, e2, b1, b2, b3, b4, b5⟩ := w.bag
    have ne : l ≠ a := fun e => by rw [e, hfa] at e2; cases e2
    have B : BagAt H H a l cs d m c := ⟨e1, w.sub _ _ e2, fun _ _ => rfl, b1, b2, b3, b4⟩
    have fin : ∀ (r d' m' c' : Int) (H' : Hp), 0 ≤ r → r < n → BagAt H H' a l cs d' m' c' → Q (.int r) H' := by
      intro r d' m' c' H' r0 r1 B'
      refine hQ r r0 r1 (.int r) Hf H' ⟨Sub.refl _, fun x o h hb => ?_, fun x h _ => h⟩ ⟨fun x o h => ?_, hfa, d', m', c', l, cs, B'.at_, e2, B'.d0, B'.m0, B'.m1, B'.c0, b5⟩ (.int r)
      · rw [B'.oth x fun e => hb (by rw [e])]; exact h
      · rw [B'.oth x fun e => by rw [e, hfa] at h; cases h]
        exact w.sub x o h
    have rest : ∀ (σ : L2.St) (d' m' c' : Int) (H' : Hp), σ[0]? = some (some (.ref a)) → σ[1]? = some (some (.int n)) → σ.length = 7 → BagAt H H' a l cs d' m' c' →
        tSeq (tIfS (tTest (tOp (rI0 fun i j => .bl (decide (j < i))) (bg K 0) (tC (.int 0)))) (tTake2 K) tNext) (tTake3 K) { nx := fun _ H' => Q .non H', rt := Q } σ H' := by
      intro σ d' m' c' H' s0 s1 sl B'
      refine bg_ok s0 B'.at_ rfl ⟨_, _, rfl, rfl, _, rfl, ?_⟩
      by_cases hp : (0 : Int) < d'
      · rw [decide_eq_true hp]
        exact read_take2 B' ne s0 s1 (by omega) hn hn2 fun r d2 H2 r0 r1 B2 => fin r d2 _ _ H2 r0 r1 B2
      · rw [decide_eq_false hp]
        exact read_take3 B' s0 s1 (by omega) hn fun r r0 r1 => fin r _ _ _ H' r0 r1 B'
    refine bg_ok (a := a) rfl e1 rfl ⟨rfl, _, rfl, ?_⟩
    by_cases hd : V.int d = V.int 0
    · rw [decide_eq_true hd]
      exact read_take1 (n := n) B ne b5 rfl hl fun σ' d' m' c' H' g0 g1 gl B' => rest σ' d' m' c' H' g0 (g1.trans rfl) gl B'
    · rw [decide_eq_false hd]
      exact rest _ d m c H rfl rfl hl B
end DL
/-! The data layer, part C: defs by values, the law itself. -/
namespace DL
open PySem PySem.Spec PyProof.Rows L2
structure CallS (P : Program) (w : World) (K : PySem.W.Frag) (mg : Str → Option Value) (k : Nat) (x : Str) (ps : List Str) (sp : Sp) : Prop where
  ex : ∃ (f : Addr) (fd : FuncData), mg x = some (.ref f) ∧ PySem.W.keepIn K (.ref f) = true ∧ Binds K fd ps [] ∧ ∀ base : Heap, K.In base → base.Ns mainGlobals mg → FnG P w K mg base k f fd ps sp
section
variable {P : Program} {w : World} {K : PySem.W.Frag} {mg : Str → Option Value} {X : Cx}
theorem Got.callS {x : Str} {st : Stmt} {N ps : List Str} {k : Nat} {sp : Sp} (G : Got K mg x st ps) (sc : FnScope N ps (defScope st)) (len : ∀ vs H Q E, sp vs H Q E → vs.length = ps.length)
    (hbody : ∀ (base : Heap) (f : Addr) (cdv : Value) (A : Around) (outer : List Env) (s : Shared) (H : Hp) (E : XK), Here (cxOf CX0 P w K mg base N x (defScope st) f cdv A outer s H E) P w K mg → A.guards = some [] → Room k (A.deeper (PyProof.Rows.envOfC x (defScope st) s.heap.objs.size f cdv)) →
      ∃ ts, PSs (cxOf CX0 P w K mg base N x (defScope st) f cdv A outer s H E) (defBody st) ts ∧ ∀ vs (Q : VK), sp vs H Q E → ts { nx := fun _ H' => Q .non H', rt := Q } (L2.start N vs) H) : CallS P w K mg (k + 1) x ps sp := by
  obtain ⟨f, fd, F, h1, h2, h3⟩ := G
  refine ⟨f, fd, h1, h2, h3, fun base hk hn => okG F sc len fun cdv A outer s H vs Q E hg hr hs => ?_⟩
  obtain ⟨ts, a, b⟩ := hbody base f cdv A outer s H E ⟨rfl, rfl, rfl, rfl, hk, hn⟩ hg hr
  exact ⟨ts, a, b vs Q hs⟩
theorem pe_callS {k : Nat} {ps : List Str} {sp : Sp} {x : Str} {e : Expr} {es : List Expr} {ta : TA} {p pos : Pos} (C : CallS P w K mg k x ps sp) (hX : Here X P w K mg) (hgd : X.A.guards = some []) (hr : Room k X.A) (hg : Gl X x)
    (ha : PA X (e :: es) ta) (hdb : (x == ("__debug__" : Str)) = false := by decide) (he : starEach (e :: es) X.env = (false, eval e X.env) :: starEach es X.env := by rfl) (hpl : (backTo pos (starEach es X.env)).any (·.1) = false := by rfl) :
    PE X (.Call (.Name x p) (e :: es) [] pos) (tCall sp [] E0 ta) := by
  obtain ⟨rfl, rfl, rfl, rfl, h1, h2⟩ := hX
  obtain ⟨f, fd, hm, hk, hb, F⟩ := C.ex
  exact pe_callG (F X.base h1 h2) hgd hr hg hm hk hb ha hdb he hpl
theorem CallS.toD {k : Nat} {x : Str} {ps : List Str} {S : RCD} (C : CallS P w K mg k x ps (spD K S)) (m : Mono S) : CallD P w K mg k x ps S := ⟨m, C.ex⟩
theorem CallS.up {j k : Nat} {x : Str} {ps : List Str} {sp : Sp} (C : CallS P w K mg j x ps sp) (h : j ≤ k) : CallS P w K mg k x ps sp := by
  obtain ⟨f, fd, h1, h2, h3, F⟩ := C.ex
  exact ⟨f, fd, h1, h2, h3, fun base a b => (F base a b).up h⟩
/-- the law's own promise -/
def spLaw (K : PySem.W.Frag) : Sp := fun vs H Q _ => ∃ (a : Addr) (ns : List Int), vs = [.ref a] ∧ SqL K H a (ns.map V.int) ∧ ns.length ≤ sizeLine ∧ ∀ H', Q (.bl true) H'
def lawE : DEnds := { nx := fun _ => False, rt := fun dv => dv = .d (.bl true) }
def lawS (n : Nat) : Sl := none :: some .bag :: List.replicate n none
theorem rep_law {a p : Addr} {Hf H : Hp} (w : Wd (some p) Hf H) (n : Nat) : Rep (some p) K Hf H Hf H (lawS n) (some (.ref a) :: some (.ref p) :: List.replicate n none) where
  wd := w
  st := Step.refl _ _ _
  len := by simp [lawS]
  sl := fun i dv e => by
    match i, e with
    | 0, e => simp [lawS] at e
    | 1, e => simp [lawS] at e; subst e; exact ⟨_, rfl, p, rfl, rfl⟩
    | i + 2, e =>
      have e' : (List.replicate n (none : Option DV))[i]? = some (some dv) := by simpa [lawS] using e
      rw [List.getElem?_replicate] at e'
      split at e' <;> cases e'
  fresh := fun i dv q e ho _ => by
    match i, e with
    | 0, e => simp [lawS] at e
    | 1, e => simp [lawS] at e; subst e; cases ho
    | i + 2, e =>
      have e' : (List.replicate n (none : Option DV))[i]? = some (some dv) := by simpa [lawS] using e
      rw [List.getElem?_replicate] at e'
      split at e' <;> cases e'
  dist := fun i j dv dw q ne e ho _ _ _ => by
    match i, e with
    | 0, e => simp [lawS] at e
    | 1, e => simp [lawS] at e; subst e; cases ho
    | i + 2, e =>
      have e' : (List.replicate n (none : Option DV))[i]? = some (some dv) := by simpa [lawS] using e
      rw [List.getElem?_replicate] at e'
      split at e' <;> cases e'
theorem read_law {N : List Str} {vs : List V} {H : Hp} {Q : VK} {E : XK} {ts : TS} {t : DTs} {n : Nat} (hN : N.length = n + 2) (en : EntS K ts t) (ht : t lawE (lawS n)) (h : spLaw K vs H Q E) :
    tSeq (tAsg (tCall (spBag K) [] E0 (tCons (tVar 0) tNil)) (gName 1)) ts { nx := fun _ H' => Q .non H', rt := Q } (L2.start N vs) H := by
  obtain ⟨a, ns, rfl, hS, hz, hQ⟩ := h
  have es : L2.start N [V.ref a] = some (.ref a) :: none :: List.replicate n none := by
    unfold L2.start
    rw [hN]
    rfl
  rw [es]
  refine ⟨_, rfl, a, ns, rfl, hS, hz, fun p Hf' H' w => ?_⟩
  exact en (some p) Hf' H' Hf' H' (lawS n) _ lawE _ (rep_law w n) ht ⟨fun _ _ _ _ h => h.elim, fun dv v Hf2 H2 h s2 w2 r2 => by
    have h : dv = .d (.bl true) := h
    subst h
    cases r2
    exact hQ H2, fun _ _ _ _ h => h.elim, fun _ _ _ _ h => h.elim⟩
end
end DL
/-! The data layer, part E: ==, !=, in, not in of any trees without dicts and objects, whatever their texts are. -/
namespace DL
open PySem PySem.Spec PyProof.Rows L2
mutual
theorem plain_py : ∀ d : D, plain d = true → (py d).plain = true
  | .non, _ => rfl
  | .bl _, _ => rfl
  | .int _, _ => rfl
  | .str _, _ => rfl
  | .list xs, h => plainAll_py xs h
  | .tup xs, h => plainAll_py xs h
  | .dict _, h => nomatch h
  | .obj _ _, h => nomatch h
theorem plainAll_py : ∀ ds : List D, plainAll ds = true → PyData.plainAll (pyAll ds) = true
  | [], _ => rfl
  | x :: xs, h => by
    have h' : (plain x && plainAll xs) = true := h
    obtain ⟨h1, h2⟩ := Bool.and_eq_true_iff.mp h'
    show ((py x).plain && PyData.plainAll (pyAll xs)) = true
    rw [plain_py x h1, plainAll_py xs h2]; rfl
end
/-- how deep a tree is -/
def dep (d : D) : Nat := (py d).depth
/-- may be compared -/
def shq (d : D) : Prop := plain d = true ∧ dep d ≤ 60
theorem eqD_refl {d : D} (h : plain d = true) : eqD d d = true := SeqAt.eqv_refl_plain _ (plain_py d h)
theorem eqD_int (i j : Int) : eqD (.int i) (.int j) = decide (i = j) := by
  show PyData.eqv (.int i) (.int j) = _
  rw [PyData.eqv, Bool.eq_iff_iff]
  simp
theorem eqD_bl (i j : Bool) : eqD (.bl i) (.bl j) = decide (i = j) := by
  show PyData.eqv (.bool i) (.bool j) = _
  rw [PyData.eqv, Bool.eq_iff_iff]
  simp
theorem eqD_str (x y : Str) : eqD (.str x) (.str y) = decide (x = y) := by
  show PyData.eqv (.str x) (.str y) = _
  rw [PyData.eqv, Bool.eq_iff_iff]
  simp
theorem eqD_str' {x y : Str} : eqD (.str x) (.str y) = true ↔ x = y := by rw [eqD_str]; exact decide_eq_true_iff
section
variable {X : Cx} {K : PySem.W.Frag}
abbrev rEqP (K : PySem.W.Frag) (neg : Bool) : R2 := fun x y H Q => ∃ d e, Dp K H x d ∧ Dp K H y e ∧ d.plain = true ∧ e.plain = true ∧ d.depth ≤ 60 ∧ Q (.bl (if neg then !PyData.eqv d e else PyData.eqv d e)) H
theorem op_eqP (hu : X.A.units + 64 < cLine) : OpR X (compareOp .Eq) (rEqP X.K false) := by
  intro pins s σ H x y v u Q I rx ry h
  obtain ⟨d, e, hd, he, p1, p2, hl, q⟩ := h
  obtain ⟨as, r1⟩ := Dp.reads I d x v hd rx
  obtain ⟨bs, r2⟩ := Dp.reads I e y u he ry
  exact SeqAt.eq_plain r1 r2 p1 p2 (by have := Nat.min_le_left d.depth e.depth; omega) ⟨.bl _, H, I, rfl, q⟩
theorem op_neP (hu : X.A.units + 64 < cLine) : OpR X (compareOp .NotEq) (rEqP X.K true) := by
  intro pins s σ H x y v u Q I rx ry h
  obtain ⟨d, e, hd, he, p1, p2, hl, q⟩ := h
  obtain ⟨as, r1⟩ := Dp.reads I d x v hd rx
  obtain ⟨bs, r2⟩ := Dp.reads I e y u he ry
  exact SeqAt.ne_plain r1 r2 p1 p2 (by have := Nat.min_le_left d.depth e.depth; omega) ⟨.bl _, H, I, rfl, q⟩
def rdEqP (neg : Bool) : R2D := fun a c Q => shq a ∧ shq c ∧ Q (.d (.bl (if neg then !eqD a c else eqD a c)))
theorem en_eqP {neg : Bool} : EntR K (rEqP K neg) (rdEqP neg) := fun b Hf H x y a c Q Q' w hx hy hq k => by
  obtain ⟨⟨p1, q1⟩, ⟨p2, q2⟩, hq⟩ := hq
  exact ⟨_, _, (hx.mono w.sub).dp p1, (hy.mono w.sub).dp p2, plain_py a p1, plain_py c p2, q1, k _ _ Hf H hq (Step.refl _ _ _) w (.bl _)⟩
abbrev rInP (K : PySem.W.Frag) (neg : Bool) : R2 := fun x y H Q => ∃ d ds, Dp K H x d ∧ (Dp K H y (.list ds) ∨ Dp K H y (.tuple ds)) ∧ d.plain = true ∧ PyData.plainAll ds = true ∧ d.depth ≤ 60 ∧ Q (.bl (if neg then !ds.any (fun z => PyData.eqv z d) else ds.any fun z => PyData.eqv z d)) H
theorem op_inP (hu : X.A.units + 64 < cLine) : OpR X (compareOp .In) (rInP X.K false) := by
  intro pins s σ H x y v u Q I rx ry h
  obtain ⟨d, ds, hd, he, p1, p2, hl, q⟩ := h
  obtain ⟨as, r1⟩ := Dp.reads I d x v hd rx
  have hm := Nat.min_le_right (PyData.depthAll ds) d.depth
  rcases he with he | he
  · obtain ⟨bs, r2⟩ := Dp.reads I (.list ds) y u he ry
    exact SeqAt.in_list_data r2 r1 p2 p1 (by omega) ⟨.bl _, H, I, rfl, q⟩
  · obtain ⟨bs, r2⟩ := Dp.reads I (.tuple ds) y u he ry
    exact SeqAt.in_tuple_data r2 r1 p2 p1 (by omega) ⟨.bl _, H, I, rfl, q⟩
theorem op_notInP (hu : X.A.units + 64 < cLine) : OpR X (compareOp .NotIn) (rInP X.K true) := by
  intro pins s σ H x y v u Q I rx ry h
  obtain ⟨d, ds, hd, he, p1, p2, hl, q⟩ := h
  obtain ⟨as, r1⟩ := Dp.reads I d x v hd rx
  have hm := Nat.min_le_right (PyData.depthAll ds) d.depth
  rcases he with he | he
  · obtain ⟨bs, r2⟩ := Dp.reads I (.list ds) y u he ry
    exact SeqAt.notIn_list_data r2 r1 p2 p1 (by omega) ⟨.bl _, H, I, rfl, q⟩
  · obtain ⟨bs, r2⟩ := Dp.reads I (.tuple ds) y u he ry
    exact SeqAt.notIn_tuple_data r2 r1 p2 p1 (by omega) ⟨.bl _, H, I, rfl, q⟩
/-- is among these -/
def inD (a : D) (ds : List D) : Bool := ds.any fun y => eqD y a
def rdInP (neg : Bool) : R2D := fun a c Q => ∃ ds, seqOf c = some ds ∧ shq a ∧ plainAll ds = true ∧ Q (.d (.bl (if neg then !inD a ds else inD a ds)))
theorem en_inP {neg : Bool} : EntR K (rInP K neg) (rdInP neg) := fun b Hf H x y a c Q Q' w hx hy hq k => by
  obtain ⟨ds, e, ⟨p1, q1⟩, p2, hq⟩ := hq
  refine ⟨_, pyAll ds, (hx.mono w.sub).dp p1, ?_, plain_py a p1, plainAll_py ds p2, q1, ?_⟩
  · cases c with
    | list xs => cases e; exact .inl ((hy.mono w.sub).dp p2)
    | tup xs => cases e; exact .inr ((hy.mono w.sub).dp p2)
    | _ => cases e
  · rw [any_py]
    exact k _ _ Hf H hq (Step.refl _ _ _) w (.bl _)
end
theorem inD_strs (x : Str) (xs : List Str) : inD (.str x) (xs.map .str) = decide (x ∈ xs) := by
  unfold inD
  induction xs with
  | nil => simp
  | cons y ys ih =>
    rw [List.map_cons, List.any_cons, ih, eqD_str]
    by_cases h : y = x
    · subst h
      rw [decide_eq_true rfl, decide_eq_true (List.mem_cons_self), Bool.true_or]
    · rw [decide_eq_false h, Bool.false_or]
      by_cases h2 : x ∈ ys
      · rw [decide_eq_true h2, decide_eq_true (List.mem_cons_of_mem _ h2)]
      · rw [decide_eq_false h2, decide_eq_false (fun h3 => (List.mem_cons.mp h3).elim (fun e => h e.symm) h2)]
theorem plainAll_strs : ∀ xs : List Str, plainAll (xs.map .str) = true
  | [] => rfl
  | x :: xs => by show (true && plainAll (xs.map .str)) = true; rw [plainAll_strs xs]; rfl
theorem shq_int (i : Int) : shq (.int i) := ⟨rfl, Nat.zero_le _⟩
theorem shq_str (x : Str) : shq (.str x) := ⟨rfl, Nat.zero_le _⟩
theorem shq_bl (x : Bool) : shq (.bl x) := ⟨rfl, Nat.zero_le _⟩
end DL
/-! The data layer, part X: comprehensions whose inner readings are told place by place. -/
namespace DL
open PySem PySem.Spec PyProof.Rows L2
section
variable {K : PySem.W.Frag} {Y : Shared → Hp → Addr → List (Str × Addr) → List Addr → Cx}
theorem uniE {e : Expr} {u : DT} (hK : ∀ s H C cl fp, (Y s H C cl fp).K = K) (h : ∀ s H C cl fp, ∃ te, DE (Y s H C cl fp) e te u) : ∃ te, ∀ s H C cl fp, DE (Y s H C cl fp) e te u := by
  refine ⟨fun σ H0 Q => ∀ s H C cl fp, Classical.choose (h s H C cl fp) σ H0 Q, fun s H C cl fp => ⟨⟨fun pins s' σ H' Q I q => (Classical.choose_spec (h s H C cl fp)).pe.run pins s' σ H' Q I (q s H C cl fp)⟩, fun b Hf0 H0 Hf H' δ σ Q Q' r hq k s2 H2 C2 cl2 fp2 => ?_⟩⟩
  have en := (Classical.choose_spec (h s2 H2 C2 cl2 fp2)).en
  rw [hK s2 H2 C2 cl2 fp2] at en
  rw [hK s H C cl fp] at r k
  exact en b Hf0 H0 Hf H' δ σ Q Q' r hq k
theorem uniT {e : List Expr} {u : DTt} (hK : ∀ s H C cl fp, (Y s H C cl fp).K = K) (h : ∀ s H C cl fp, ∃ te, DPt (Y s H C cl fp) e te u) : ∃ te, ∀ s H C cl fp, DPt (Y s H C cl fp) e te u := by
  refine ⟨fun σ H0 Q => ∀ s H C cl fp, Classical.choose (h s H C cl fp) σ H0 Q, fun s H C cl fp => ⟨⟨fun pins s' σ H' Q I q => (Classical.choose_spec (h s H C cl fp)).pts.run pins s' σ H' Q I (q s H C cl fp)⟩, fun b Hf0 H0 Hf H' δ σ Q Q' r hq k s2 H2 C2 cl2 fp2 => ?_⟩⟩
  have en := (Classical.choose_spec (h s2 H2 C2 cl2 fp2)).en
  rw [hK s2 H2 C2 cl2 fp2] at en
  rw [hK s H C cl fp] at r
  exact en b Hf0 H0 Hf H' δ σ Q Q' r hq k
theorem uniI {tg e : Expr} {u : DTi} (hK : ∀ s H C cl fp, (Y s H C cl fp).K = K) (h : ∀ s H C cl fp, ∃ te, DI (Y s H C cl fp) tg e te u) : ∃ te, ∀ s H C cl fp, DI (Y s H C cl fp) tg e te u := by
  refine ⟨fun σ H0 Q => ∀ s H C cl fp, Classical.choose (h s H C cl fp) σ H0 Q, fun s H C cl fp => ⟨⟨fun pins s' σ H' Q I q => (Classical.choose_spec (h s H C cl fp)).pi.run pins s' σ H' Q I (q s H C cl fp)⟩, fun b Hf0 H0 Hf H' δ σ Q Q' r hq k s2 H2 C2 cl2 fp2 => ?_⟩⟩
  have en := (Classical.choose_spec (h s2 H2 C2 cl2 fp2)).en
  rw [hK s2 H2 C2 cl2 fp2] at en
  rw [hK s H C cl fp] at r k
  exact en b Hf0 H0 Hf H' δ σ Q Q' r hq k
end
section
variable {X : Cx} {te : TE} {t u : DT} {tt tt1 : TT} {q q1 : DTt}
abbrev Blk (X : Cx) (scope : Scope) (s : Shared) (H : Hp) (C : Addr) (cl : List (Str × Addr)) (fp : List Addr) : Cx := X.blk s H scope (compEnvC scope cl C X.env) fp
theorem de_lcE {elt tg iter : Expr} {ifs : List Expr} {scope : Scope} {own : List (Str × Nat)} {pos : Pos} {wi : TI} {it : DTi} {g : TG} {d : DG} (hc : X.calm = true) (hN : X.N.Nodup) (hi : DI X tg iter wi it) (ok : BlkOk X.N X.env.scope scope own)
    (hg : ∀ (s : Shared) (H : Hp) (C : Addr) (cl : List (Str × Addr)) (fp : List Addr), DGm (Blk X scope s H C cl fp) tg g d) (hw : GWipe g (own.map (·.2))) (ht : ∀ (s : Shared) (H : Hp) (C : Addr) (cl : List (Str × Addr)) (fp : List Addr), ∃ tt, DPt (Blk X scope s H C cl fp) ifs tt q)
    (he : ∀ (s : Shared) (H : Hp) (C : Addr) (cl : List (Str × Addr)) (fp : List Addr), ∃ te, DE (Blk X scope s H C cl fp) elt te u) (hs : ∀ x, foldedSetIterable iter X.env x = pure x := by intro _; rfl) :
    DE X (.ListComp elt [⟨tg, iter, ifs, 0⟩] scope pos) (tLc wi g (Classical.choose (uniT (K := X.K) (Y := Blk X scope) (fun _ _ _ _ _ => rfl) ht)) (Classical.choose (uniE (K := X.K) (Y := Blk X scope) (fun _ _ _ _ _ => rfl) he)) (own.map (·.2))) (dLc it d q u (own.map (·.2))) :=
  de_lc hc hN hi ok hg hw (Classical.choose_spec (uniT (K := X.K) (Y := Blk X scope) (fun _ _ _ _ _ => rfl) ht)) (Classical.choose_spec (uniE (K := X.K) (Y := Blk X scope) (fun _ _ _ _ _ => rfl) he)) hs
theorem ds_setLcE {i : Nat} {y : Str} {py : Pos} {elt tg iter : Expr} {ifs : List Expr} {scope : Scope} {own : List (Str × Nat)} {pos spos : Pos} {wi : TI} {it : DTi} {g : TG} {d : DG} (hc : X.calm = true) (hN : X.N.Nodup) (hy : X.N[i]? = some y) (hyl : X.env.scope.names.lookup y = some .local)
    (hsw : swapsWith (.ListComp elt [⟨tg, iter, ifs, 0⟩] scope pos) (some (.Name y py)) spos.line X.env = pure true) (hi : DI X tg iter wi it) (ok : BlkOk X.N X.env.scope scope own)
    (hg : ∀ (s : Shared) (H : Hp) (C : Addr) (cl : List (Str × Addr)) (fp : List Addr), DGm (Blk X scope s H C cl fp) tg g d) (hw : GWipe g (own.map (·.2))) (ht : ∀ (s : Shared) (H : Hp) (C : Addr) (cl : List (Str × Addr)) (fp : List Addr), ∃ tt, DPt (Blk X scope s H C cl fp) ifs tt q)
    (he : ∀ (s : Shared) (H : Hp) (C : Addr) (cl : List (Str × Addr)) (fp : List Addr), ∃ te, DE (Blk X scope s H C cl fp) elt te u) (hs : ∀ x, foldedSetIterable iter X.env x = pure x := by intro _; rfl) :
    DS X (.Assign [.Name y py] (.ListComp elt [⟨tg, iter, ifs, 0⟩] scope pos) spos) (tAsg (tLc wi g (Classical.choose (uniT (K := X.K) (Y := Blk X scope) (fun _ _ _ _ _ => rfl) ht)) (Classical.choose (uniE (K := X.K) (Y := Blk X scope) (fun _ _ _ _ _ => rfl) he)) (own.map (·.2))) (gName i)) (dAsg (dLc it d q u (own.map (·.2))) (gN i)) :=
  ds_setLc hc hN hy hyl hsw hi ok hg hw (Classical.choose_spec (uniT (K := X.K) (Y := Blk X scope) (fun _ _ _ _ _ => rfl) ht)) (Classical.choose_spec (uniE (K := X.K) (Y := Blk X scope) (fun _ _ _ _ _ => rfl) he)) hs
theorem ds_setLcOE {i : Nat} {y : Str} {py : Pos} {elt tg iter : Expr} {ifs : List Expr} {scope : Scope} {own : List (Str × Nat)} {pos spos : Pos} {wi : TI} {it : DTi} {g : TG} {d : DG} (hc : X.calm = true) (hN : X.N.Nodup) (hy : X.N[i]? = some y) (hyl : X.env.scope.names.lookup y = some .local)
    (hsw : swapsWith (.ListComp elt [⟨tg, iter, ifs, 0⟩] scope pos) (some (.Name y py)) spos.line X.env = pure true) (hi : DI X tg iter wi it) (ok : BlkOk X.N X.env.scope scope own)
    (hg : ∀ (s : Shared) (H : Hp) (C : Addr) (cl : List (Str × Addr)) (fp : List Addr), DGm (Blk X scope s H C cl fp) tg g d) (hw : GWipe g (own.map (·.2))) (ht : ∀ (s : Shared) (H : Hp) (C : Addr) (cl : List (Str × Addr)) (fp : List Addr), ∃ tt, DPt (Blk X scope s H C cl fp) ifs tt q)
    (he : ∀ (s : Shared) (H : Hp) (C : Addr) (cl : List (Str × Addr)) (fp : List Addr), ∃ te, DE (Blk X scope s H C cl fp) elt te u) (hs : ∀ x, foldedSetIterable iter X.env x = pure x := by intro _; rfl) :
    DS X (.Assign [.Name y py] (.ListComp elt [⟨tg, iter, ifs, 0⟩] scope pos) spos) (tAsg (tLc wi g (Classical.choose (uniT (K := X.K) (Y := Blk X scope) (fun _ _ _ _ _ => rfl) ht)) (Classical.choose (uniE (K := X.K) (Y := Blk X scope) (fun _ _ _ _ _ => rfl) he)) (own.map (·.2))) (gName i)) (dAsgO (dLcO it d q u (own.map (·.2))) i) :=
  ds_setLcO hc hN hy hyl hsw hi ok hg hw (Classical.choose_spec (uniT (K := X.K) (Y := Blk X scope) (fun _ _ _ _ _ => rfl) ht)) (Classical.choose_spec (uniE (K := X.K) (Y := Blk X scope) (fun _ _ _ _ _ => rfl) he)) hs
theorem de_lc2E {elt tg iter tg1 iter1 : Expr} {ifs ifs1 : List Expr} {scope : Scope} {own : List (Str × Nat)} {vs1 : List Nat} {pos : Pos} {wi : TI} {it it1 : DTi} {g g1 : TG} {d d1 : DG} (hc : X.calm = true) (hN : X.N.Nodup) (hi : DI X tg iter wi it) (ok : BlkOk X.N X.env.scope scope own) (hv : ∀ i ∈ vs1, i ∈ own.map (·.2))
    (hg : ∀ (s : Shared) (H : Hp) (C : Addr) (cl : List (Str × Addr)) (fp : List Addr), DGm (Blk X scope s H C cl fp) tg g d) (hw : GWipe g (own.map (·.2))) (ht : ∀ (s : Shared) (H : Hp) (C : Addr) (cl : List (Str × Addr)) (fp : List Addr), ∃ tt, DPt (Blk X scope s H C cl fp) ifs tt q)
    (hi1 : ∀ (s : Shared) (H : Hp) (C : Addr) (cl : List (Str × Addr)) (fp : List Addr), ∃ wi, DI (Blk X scope s H C cl fp) tg1 iter1 wi it1)
    (hg1 : ∀ (s : Shared) (H : Hp) (C : Addr) (cl : List (Str × Addr)) (fp : List Addr), DGm (Blk X scope s H C cl fp) tg1 g1 d1) (hw1 : GWipe g1 vs1) (ht1 : ∀ (s : Shared) (H : Hp) (C : Addr) (cl : List (Str × Addr)) (fp : List Addr), ∃ tt, DPt (Blk X scope s H C cl fp) ifs1 tt q1)
    (he : ∀ (s : Shared) (H : Hp) (C : Addr) (cl : List (Str × Addr)) (fp : List Addr), ∃ te, DE (Blk X scope s H C cl fp) elt te u) (hs : ∀ x, foldedSetIterable iter X.env x = pure x := by intro _; rfl) (hs1 : ∀ env x, foldedSetIterable iter1 env x = pure x := by intro _ _; rfl) :
    DE X (.ListComp elt [⟨tg, iter, ifs, 0⟩, ⟨tg1, iter1, ifs1, 0⟩] scope pos) (tLc2 wi g (Classical.choose (uniT (K := X.K) (Y := Blk X scope) (fun _ _ _ _ _ => rfl) ht)) (Classical.choose (uniI (K := X.K) (Y := Blk X scope) (fun _ _ _ _ _ => rfl) hi1)) g1 (Classical.choose (uniT (K := X.K) (Y := Blk X scope) (fun _ _ _ _ _ => rfl) ht1)) (Classical.choose (uniE (K := X.K) (Y := Blk X scope) (fun _ _ _ _ _ => rfl) he)) (own.map (·.2)) vs1) (dLc2 it d q it1 d1 q1 u (own.map (·.2)) vs1) :=
  de_lc2 hc hN hi ok hv hg hw (Classical.choose_spec (uniT (K := X.K) (Y := Blk X scope) (fun _ _ _ _ _ => rfl) ht)) (Classical.choose_spec (uniI (K := X.K) (Y := Blk X scope) (fun _ _ _ _ _ => rfl) hi1)) hg1 hw1 (Classical.choose_spec (uniT (K := X.K) (Y := Blk X scope) (fun _ _ _ _ _ => rfl) ht1)) (Classical.choose_spec (uniE (K := X.K) (Y := Blk X scope) (fun _ _ _ _ _ => rfl) he)) hs hs1
end
end DL
/-! The data layer, part L: walks of defs as statements of their own; loops and comprehensions read over trees. -/
namespace DL
open PySem PySem.Spec PyProof.Rows L2
theorem hu1 {k : Nat} {A : Around} (r : Room k A) : A.units + 1 < cLine := by have := r.units; omega
/-- the def's body has this reading -/
def WalkD (P : Program) (w : World) (K : PySem.W.Frag) (mg : Str → Option Value) (N : List Str) (x : Str) (st : Stmt) (k : Nat) (t : DTs) : Prop :=
  ∀ (base : Heap) (f : Addr) (cdv : Value) (A : Around) (outer : List Env) (s : Shared) (H : Hp) (E : XK), Here (cxOf CX0 P w K mg base N x (defScope st) f cdv A outer s H E) P w K mg → A.guards = some [] → Room k (A.deeper (PyProof.Rows.envOfC x (defScope st) s.heap.objs.size f cdv)) →
    ∃ ts, DSs (cxOf CX0 P w K mg base N x (defScope st) f cdv A outer s H E).nox (defBody st) ts t
def retE (Q : DV → Prop) : DEnds := { nx := fun _ => Q (.d .non), rt := Q }
section
variable {P : Program} {w : World} {K : PySem.W.Frag} {mg : Str → Option Value}
theorem Got.callW {x : Str} {st : Stmt} {N ps : List Str} {k : Nat} {S : RCD} {t : DTs} (G : Got K mg x st ps) (sc : FnScope N ps (defScope st)) (W : WalkD P w K mg N x st k t) (mono : Mono S) (len : ∀ ds Q, S ds Q → ds.length = ps.length)
    (ht : ∀ ds (Q : DV → Prop), S ds Q → t (retE Q) (startD N ds)) : CallD P w K mg (k + 1) x ps S :=
  G.call sc mono len fun base f cdv A outer s H E hX hg hr => by
    obtain ⟨ts, h⟩ := W base f cdv A outer s H E hX hg hr
    exact ⟨ts, t, ⟨h.pss.nox, h.en⟩, ht⟩
/-- a promise of nothing -/
theorem Got.none {x : Str} {st : Stmt} {ps : List Str} {k : Nat} {S : RCD} (G : Got K mg x st ps) (no : ∀ ds Q, ¬ S ds Q) : CallD P w K mg k x ps S := by
  obtain ⟨f, fd, F, h1, h2, h3⟩ := G
  exact ⟨fun ds Q Q' _ h => absurd h (no ds Q), f, fd, h1, h2, h3, fun base _ _ => ⟨fun vs H Q E ⟨_, _, ds, _, _, _, h⟩ => absurd h (no ds _), fun A outer s H args us vs Q E _ _ _ _ _ ⟨_, _, ds, _, _, _, h⟩ => absurd h (no ds _)⟩⟩
theorem fnS {x : Str} {st : Stmt} {f : Addr} {fd : FuncData} {N ps : List Str} {k : Nat} {sp : Sp} (F : FnP K x st f fd) (sc : FnScope N ps (defScope st)) (len : ∀ vs H Q E, sp vs H Q E → vs.length = ps.length)
    (hbody : ∀ (base : Heap) (cdv : Value) (A : Around) (outer : List Env) (s : Shared) (H : Hp) (E : XK), Here (cxOf CX0 P w K mg base N x (defScope st) f cdv A outer s H E) P w K mg → A.guards = some [] → Room k (A.deeper (PyProof.Rows.envOfC x (defScope st) s.heap.objs.size f cdv)) →
      ∃ ts, PSs (cxOf CX0 P w K mg base N x (defScope st) f cdv A outer s H E) (defBody st) ts ∧ ∀ vs (Q : VK), sp vs H Q E → ts { nx := fun _ H' => Q .non H', rt := Q } (L2.start N vs) H) : ∀ base : Heap, K.In base → base.Ns mainGlobals mg → FnG P w K mg base (k + 1) f fd ps sp :=
  fun base hk hn => okG F sc len fun cdv A outer s H vs Q E hg hr hs => by
    obtain ⟨ts, a, b⟩ := hbody base cdv A outer s H E ⟨rfl, rfl, rfl, rfl, hk, hn⟩ hg hr
    exact ⟨ts, a, b vs Q hs⟩
theorem de_callK {X : Cx} {k : Nat} {ps : List Str} {S : RCD} {x : Str} {e : Expr} {es : List Expr} {tt : TA} {q : DTa} {p pos : Pos} (C : CallD P w K mg k x ps S) (hk : K.In X.base) (hn : X.base.Ns mainGlobals mg) (hgd : X.A.guards = some []) (hr : Room k X.A) (hg : Gl X x)
    (ha : DA X (e :: es) tt q) (h1 : X.prog = P := by rfl) (h2 : X.w = w := by rfl) (h3 : X.K = K := by rfl) (h4 : X.mg = mg := by rfl) (hdb : (x == ("__debug__" : Str)) = false := by decide) (he : starEach (e :: es) X.env = (false, eval e X.env) :: starEach es X.env := by rfl) (hpl : (backTo pos (starEach es X.env)).any (·.1) = false := by rfl) :
    DE X (.Call (.Name x p) (e :: es) [] pos) (tCall (spD K S) [] E0 tt) (dCall S q) := by
  subst h3
  exact de_callC C ⟨h1, h2, rfl, h4, hk, hn⟩ hgd hr hg ha hdb he hpl
end
section
variable {X : Cx} {te : TE} {t : DT}
def dAppendS (i : Nat) (t : DT) : DTs := fun E δ => (∃ ds, δ[i]? = some (some (.own ds))) ∧ dAppend i t E δ
theorem ds_appendS {i : Nat} {x : Str} {e : Expr} {apos cpos p0 pos : Pos} (hv : PE X (.Name x p0) (tVar i)) (h : DE X e te t)
    (hbase : attributeBase (.Name x p0) "append" X.env (eval (.Name x p0) X.env) = eval (.Name x p0) X.env := by rfl)
    (hfew : ((backTo cpos (starEach [e] X.env)).all (fun x => !x.1) && (backToKw cpos (keywordEach [] X.env)).all (fun x => x.1.isSome)
      && decide (([e] : List Expr).length + ([] : List Keyword).length + (if ([] : List Keyword).isEmpty then 0 else 1) < 30)) = true := by rfl)
    (hline : (apos.endLine == cpos.line) = true := by rfl) (hs : starEach [e] X.env = (false, eval e X.env) :: starEach [] X.env := by rfl) (hplain : (backTo cpos (starEach [] X.env)).any (·.1) = false := by rfl)
    (hsw : swapsWith (.Call (.Attribute (.Name x p0) "append" apos) [e] [] cpos) none pos.line X.env = pure false := by rfl) :
    DS X (.Expr (.Call (.Attribute (.Name x p0) "append" apos) [e] [] cpos) pos) (tDrop (tBM X.K "list" rAppend (tVar i) (tCons te tNil))) (dAppendS i t) := ds_append hv h hbase hfew hline hs hplain hsw
end
/-! ### comprehensions over one name -/
/-- each item makes some y with R -/
theorem lcGo_all {i : Nat} {u : DT} {δ : Sl} {R : D → D → Prop} {Q : List D → Prop} : ∀ (xs acc : List D), (∀ x ∈ xs, ∀ Q' : DV → Prop, (∀ y, R x y → Q' (.d y)) → u (δ.set i (some (.d x))) Q') →
    (∀ ys : List D, ys.length = xs.length → (∀ (j : Nat) (x y : D), xs[j]? = some x → ys[j]? = some y → R x y) → Q (acc ++ ys)) → dLcGo (gN i) dYes u δ xs acc Q
  | [], acc, _, hq => by
    have := hq [] rfl (fun j x y h => by simp at h)
    rw [List.append_nil] at this
    exact this
  | x :: xs, acc, hu, hq => by
    show u (δ.set i (some (.d x))) fun y => ∃ d, y = .d d ∧ dLcGo (gN i) dYes u δ xs (acc ++ [d]) Q
    refine hu x List.mem_cons_self _ fun y hy => ⟨y, rfl, ?_⟩
    refine lcGo_all xs _ (fun z hz => hu z (List.mem_cons_of_mem _ hz)) fun ys hl hr => ?_
    rw [List.append_assoc]
    refine hq (y :: ys) (by simp [hl]) fun j x' y' h1 h2 => ?_
    cases j with
    | zero => simp at h1 h2; subst h1 h2; exact hy
    | succ j => exact hr j x' y' (by simpa using h1) (by simpa using h2)
/-- each item is taken, or not, and then makes some y with R -/
theorem lcGo_sub {i : Nat} {q : DTt} {u : DT} {δ : Sl} {R : D → Prop} {Q : List D → Prop} : ∀ (xs acc : List D), (∀ x ∈ xs, ∀ Q' : Bool → Prop, Q' true → Q' false → q (δ.set i (some (.d x))) Q') → (∀ x ∈ xs, ∀ Q' : DV → Prop, (∀ y, R y → Q' (.d y)) → u (δ.set i (some (.d x))) Q') →
    (∀ ys : List D, ys.length ≤ xs.length → (∀ y ∈ ys, R y) → Q (acc ++ ys)) → dLcGo (gN i) q u δ xs acc Q
  | [], acc, _, _, hQ => by
    have := hQ [] (Nat.le_refl _) (fun y h => nomatch h)
    rw [List.append_nil] at this
    exact this
  | x :: xs, acc, hq, hu, hQ => by
    show q (δ.set i (some (.d x))) fun c => if c = true then u (δ.set i (some (.d x))) (fun y => ∃ d, y = .d d ∧ dLcGo (gN i) q u δ xs (acc ++ [d]) Q) else dLcGo (gN i) q u δ xs acc Q
    refine hq x List.mem_cons_self _ ?_ ?_
    · refine hu x List.mem_cons_self _ fun y hy => ⟨y, rfl, ?_⟩
      refine lcGo_sub xs _ (fun z hz => hq z (List.mem_cons_of_mem _ hz)) (fun z hz => hu z (List.mem_cons_of_mem _ hz)) fun ys hl hr => ?_
      rw [List.append_assoc]
      refine hQ (y :: ys) (by simpa using hl) fun z hz => ?_
      rcases List.mem_cons.mp hz with e | h
      · rw [e]; exact hy
      · exact hr z h
    · exact lcGo_sub xs _ (fun z hz => hq z (List.mem_cons_of_mem _ hz)) (fun z hz => hu z (List.mem_cons_of_mem _ hz)) fun ys hl hr => hQ ys (Nat.le_succ_of_le hl) hr
/-- each item makes f x -/
theorem lcGo_map {i : Nat} {u : DT} {δ : Sl} (f : D → D) {Q : List D → Prop} : ∀ (xs acc : List D), (∀ x ∈ xs, ∀ Q' : DV → Prop, Q' (.d (f x)) → u (δ.set i (some (.d x))) Q') → Q (acc ++ xs.map f) → dLcGo (gN i) dYes u δ xs acc Q
  | [], acc, _, hq => by
    have hq : Q (acc ++ []) := hq
    rw [List.append_nil] at hq
    exact hq
  | x :: xs, acc, hu, hq => by
    show u (δ.set i (some (.d x))) fun y => ∃ d, y = .d d ∧ dLcGo (gN i) dYes u δ xs (acc ++ [d]) Q
    refine hu x List.mem_cons_self _ ⟨f x, rfl, ?_⟩
    exact lcGo_map f xs _ (fun z hz => hu z (List.mem_cons_of_mem _ hz)) (by rw [List.append_assoc]; exact hq)
/-- those with p, each makes f x -/
theorem lcGo_filter {i : Nat} {q : DTt} {u : DT} {δ : Sl} (p : D → Bool) (f : D → D) {Q : List D → Prop} : ∀ (xs acc : List D), (∀ x ∈ xs, ∀ Q' : Bool → Prop, Q' (p x) → q (δ.set i (some (.d x))) Q') → (∀ x ∈ xs, ∀ Q' : DV → Prop, Q' (.d (f x)) → u (δ.set i (some (.d x))) Q') → Q (acc ++ (xs.filter p).map f) → dLcGo (gN i) q u δ xs acc Q
  | [], acc, _, _, hQ => by
    have hQ : Q (acc ++ []) := hQ
    rw [List.append_nil] at hQ
    exact hQ
  | x :: xs, acc, hq, hu, hQ => by
    show q (δ.set i (some (.d x))) fun c => if c = true then u (δ.set i (some (.d x))) (fun y => ∃ d, y = .d d ∧ dLcGo (gN i) q u δ xs (acc ++ [d]) Q) else dLcGo (gN i) q u δ xs acc Q
    refine hq x List.mem_cons_self _ ?_
    by_cases hp : p x = true
    · rw [if_pos hp]
      refine hu x List.mem_cons_self _ ⟨f x, rfl, ?_⟩
      refine lcGo_filter p f xs _ (fun z hz => hq z (List.mem_cons_of_mem _ hz)) (fun z hz => hu z (List.mem_cons_of_mem _ hz)) ?_
      rw [List.filter_cons, if_pos hp] at hQ
      rw [List.append_assoc]; exact hQ
    · rw [if_neg hp]
      refine lcGo_filter p f xs _ (fun z hz => hq z (List.mem_cons_of_mem _ hz)) (fun z hz => hu z (List.mem_cons_of_mem _ hz)) ?_
      rw [List.filter_cons, if_neg hp] at hQ
      exact hQ
/-- two clauses, one name each: the inner items are F of the outer one -/
theorem lc2In_id {i1 : Nat} {u : DT} {δ : Sl} {Q : List D → Prop} : ∀ (xs acc : List D), (∀ x ∈ xs, ∀ Q' : DV → Prop, Q' (.d x) → u (δ.set i1 (some (.d x))) Q') → acc.length + xs.length ≤ sizeLine → Q (acc ++ xs) → dLc2In (gN i1) dYes u δ xs acc Q
  | [], acc, _, _, hq => by
    rw [List.append_nil] at hq
    exact hq
  | x :: xs, acc, hu, hz, hq => by
    show u (δ.set i1 (some (.d x))) fun y => ∃ d, y = .d d ∧ acc.length < sizeLine ∧ dLc2In (gN i1) dYes u δ xs (acc ++ [d]) Q
    rw [List.length_cons] at hz
    refine hu x List.mem_cons_self _ ⟨x, rfl, by omega, ?_⟩
    exact lc2In_id xs _ (fun z hz => hu z (List.mem_cons_of_mem _ hz)) (by rw [List.length_append, List.length_singleton]; omega) (by rw [List.append_assoc]; exact hq)
theorem lc2Go_flat {i i1 : Nat} {it1 : DTi} {u : DT} {vs1 : List Nat} {δ : Sl} (F : D → List D) {Q : List D → Prop} : ∀ (xs acc : List D), (∀ x ∈ xs, ∀ Q' : List D → Prop, Q' (F x) → it1 (δ.set i (some (.d x))) Q') →
    (∀ x ∈ xs, ∀ y ∈ F x, ∀ Q' : DV → Prop, Q' (.d y) → u ((wipeD (δ.set i (some (.d x))) vs1).set i1 (some (.d y))) Q') → acc.length + (xs.flatMap F).length ≤ sizeLine → Q (acc ++ xs.flatMap F) → dLc2Go (gN i) dYes it1 (gN i1) dYes u vs1 δ xs acc Q
  | [], acc, _, _, _, hq => by
    have hq : Q (acc ++ []) := hq
    rw [List.append_nil] at hq
    exact hq
  | x :: xs, acc, hi, hu, hz, hq => by
    show it1 (δ.set i (some (.d x))) fun ds1 => dLc2In (gN i1) dYes u (wipeD (δ.set i (some (.d x))) vs1) ds1 acc fun acc' => dLc2Go (gN i) dYes it1 (gN i1) dYes u vs1 δ xs acc' Q
    rw [List.flatMap_cons, List.length_append] at hz
    rw [List.flatMap_cons, ← List.append_assoc] at hq
    refine hi x List.mem_cons_self _ (lc2In_id _ _ (fun y hy => hu x List.mem_cons_self y hy) (by omega) ?_)
    exact lc2Go_flat F xs _ (fun z h => hi z (List.mem_cons_of_mem _ h)) (fun z h => hu z (List.mem_cons_of_mem _ h)) (by rw [List.length_append]; omega) hq
/-! the same over things of any kind that the items stand for -/
theorem lcGo_mapA {α : Type} {i : Nat} {u : DT} {δ : Sl} (e f : α → D) {Q : List D → Prop} : ∀ (l : List α) (acc : List D), (∀ a ∈ l, ∀ Q' : DV → Prop, Q' (.d (f a)) → u (δ.set i (some (.d (e a)))) Q') → Q (acc ++ l.map f) → dLcGo (gN i) dYes u δ (l.map e) acc Q
  | [], acc, _, hq => by
    have hq : Q (acc ++ []) := hq
    rw [List.append_nil] at hq
    exact hq
  | x :: xs, acc, hu, hq => by
    show u (δ.set i (some (.d (e x)))) fun y => ∃ d, y = .d d ∧ dLcGo (gN i) dYes u δ (xs.map e) (acc ++ [d]) Q
    refine hu x List.mem_cons_self _ ⟨f x, rfl, ?_⟩
    exact lcGo_mapA e f xs _ (fun z hz => hu z (List.mem_cons_of_mem _ hz)) (by rw [List.append_assoc]; exact hq)
theorem lcGo_filterA {α : Type} {i : Nat} {q : DTt} {u : DT} {δ : Sl} (e f : α → D) (p : α → Bool) {Q : List D → Prop} : ∀ (l : List α) (acc : List D), (∀ x ∈ l, ∀ Q' : Bool → Prop, Q' (p x) → q (δ.set i (some (.d (e x)))) Q') → (∀ x ∈ l, ∀ Q' : DV → Prop, Q' (.d (f x)) → u (δ.set i (some (.d (e x)))) Q') → Q (acc ++ (l.filter p).map f) → dLcGo (gN i) q u δ (l.map e) acc Q
  | [], acc, _, _, hQ => by
    have hQ : Q (acc ++ []) := hQ
    rw [List.append_nil] at hQ
    exact hQ
  | x :: xs, acc, hq, hu, hQ => by
    show q (δ.set i (some (.d (e x)))) fun c => if c = true then u (δ.set i (some (.d (e x)))) (fun y => ∃ d, y = .d d ∧ dLcGo (gN i) q u δ (xs.map e) (acc ++ [d]) Q) else dLcGo (gN i) q u δ (xs.map e) acc Q
    refine hq x List.mem_cons_self _ ?_
    by_cases hp : p x = true
    · rw [if_pos hp]
      refine hu x List.mem_cons_self _ ⟨f x, rfl, ?_⟩
      refine lcGo_filterA e f p xs _ (fun z hz => hq z (List.mem_cons_of_mem _ hz)) (fun z hz => hu z (List.mem_cons_of_mem _ hz)) ?_
      rw [List.filter_cons, if_pos hp] at hQ
      rw [List.append_assoc]; exact hQ
    · rw [if_neg hp]
      refine lcGo_filterA e f p xs _ (fun z hz => hq z (List.mem_cons_of_mem _ hz)) (fun z hz => hu z (List.mem_cons_of_mem _ hz)) ?_
      rw [List.filter_cons, if_neg hp] at hQ
      exact hQ
theorem lc2Go_flatA {α : Type} {i i1 : Nat} {it1 : DTi} {u : DT} {vs1 : List Nat} {δ : Sl} (e : α → D) (F : α → List D) {Q : List D → Prop} : ∀ (l : List α) (acc : List D), (∀ x ∈ l, ∀ Q' : List D → Prop, Q' (F x) → it1 (δ.set i (some (.d (e x)))) Q') →
    (∀ x ∈ l, ∀ y ∈ F x, ∀ Q' : DV → Prop, Q' (.d y) → u ((wipeD (δ.set i (some (.d (e x)))) vs1).set i1 (some (.d y))) Q') → acc.length + (l.flatMap F).length ≤ sizeLine → Q (acc ++ l.flatMap F) → dLc2Go (gN i) dYes it1 (gN i1) dYes u vs1 δ (l.map e) acc Q
  | [], acc, _, _, _, hq => by
    have hq : Q (acc ++ []) := hq
    rw [List.append_nil] at hq
    exact hq
  | x :: xs, acc, hi, hu, hz, hq => by
    show it1 (δ.set i (some (.d (e x)))) fun ds1 => dLc2In (gN i1) dYes u (wipeD (δ.set i (some (.d (e x)))) vs1) ds1 acc fun acc' => dLc2Go (gN i) dYes it1 (gN i1) dYes u vs1 δ (xs.map e) acc' Q
    rw [List.flatMap_cons, List.length_append] at hz
    rw [List.flatMap_cons, ← List.append_assoc] at hq
    refine hi x List.mem_cons_self _ (lc2In_id _ _ (fun y hy => hu x List.mem_cons_self y hy) (by omega) ?_)
    exact lc2Go_flatA e F xs _ (fun z h => hi z (List.mem_cons_of_mem _ h)) (fun z h => hu z (List.mem_cons_of_mem _ h)) (by rw [List.length_append]; omega) hq
/-- trees that all stand for something -/
theorem asMap {α : Type} (e : α → D) (p : α → Prop) : ∀ ds : List D, (∀ d ∈ ds, ∃ a, d = e a ∧ p a) → ∃ l : List α, ds = l.map e ∧ ∀ a ∈ l, p a
  | [], _ => ⟨[], rfl, fun _ h => nomatch h⟩
  | d :: ds, h => by
    obtain ⟨a, e1, pa⟩ := h d List.mem_cons_self
    obtain ⟨l, e2, pl⟩ := asMap e p ds fun x hx => h x (List.mem_cons_of_mem _ hx)
    refine ⟨a :: l, by rw [e1, e2]; rfl, fun x hx => ?_⟩
    rcases List.mem_cons.mp hx with q | q
    · rw [q]; exact pa
    · exact pl x q
theorem cutD_mem {xs : List D} {lo hi : Option Int} {d : D} (h : d ∈ cutD xs lo hi) : d ∈ xs := List.mem_of_mem_drop (List.mem_of_mem_take h)
theorem cutD_len (xs : List D) (lo hi : Option Int) : (cutD xs lo hi).length ≤ xs.length := by
  unfold cutD
  rw [List.length_take, List.length_drop]
  omega
theorem sortD_mem {ds : List D} {d : D} (h : d ∈ sortD ds) : d ∈ ds := (List.mergeSort_perm ds leD).mem_iff.mp h
theorem sortD_len (ds : List D) : (sortD ds).length = ds.length := (List.mergeSort_perm ds leD).length_eq
/-! ### for -/
theorem for_inv {g : DG} {tb : DTs} {E : DEnds} (I : List D → Sl → Prop) (step : ∀ x xs δ, I (x :: xs) δ → ∀ k : Sl → Prop, (∀ δ', I xs δ' → k δ') → g x δ fun δ2 => tb { E with nx := k, bk := E.nx, ct := k } δ2) (fin : ∀ δ, I [] δ → E.nx δ) : ∀ (ds : List D) (δ : Sl), I ds δ → dFor g tb E ds δ
  | [], δ, h => fin δ h
  | x :: xs, δ, h => step x xs δ h _ fun δ' h' => for_inv I step fin xs δ' h'
end DL
/-! The data layer, part W: how long the text of a tree is. -/
namespace DL
open PySem PySem.Spec PyProof.Rows L2
/-- each sign of the text can be shown in ten signs -/
def sgn (x : Str) : Bool := x.cps.toList.all fun c => decide (c < 4294967296)
theorem sgn_app {a b : Str} (ha : sgn a = true) (hb : sgn b = true) : sgn (a ++ b) = true := by
  unfold sgn at *
  have e : (a ++ b).cps.toList = a.cps.toList ++ b.cps.toList := by
    show (Str.append a b).cps.toList = _
    simp [Str.append]
  rw [e, List.all_append, ha, hb]
  rfl
theorem sgn_cut {z : Str} (lo hi : Option Int) (h : sgn z = true) : sgn (cutS z lo hi) = true := by
  unfold sgn at *
  rw [List.all_eq_true] at *
  intro c hc
  refine h c ?_
  unfold cutS at hc
  exact List.mem_of_mem_drop (List.mem_of_mem_take (by simpa using hc))
theorem sgn_one {z : Str} {c : Nat} (h : sgn z = true) (hc : c ∈ z.cps.toList) : sgn ⟨#[c]⟩ = true := by
  unfold sgn at *
  rw [List.all_eq_true] at h
  have := h c hc
  simpa using this
def sgnKey : Key → Bool
  | .inl _ => true
  | .inr x => sgn x
def wtKey : Key → Nat
  | .inl i => (toString i : Str).length
  | .inr x => 10 * x.length + 2
mutual
def sgnD : D → Bool
  | .str x => sgn x
  | .list xs => sgnAll xs
  | .tup xs => sgnAll xs
  | .dict kvs => sgnKv kvs
  | _ => true
def sgnAll : List D → Bool
  | [] => true
  | x :: xs => sgnD x && sgnAll xs
def sgnKv : List (Key × D) → Bool
  | [] => true
  | (k, v) :: r => sgnKey k && (sgnD v && sgnKv r)
end
mutual
/-- no less than the length of its text -/
def wt : D → Nat
  | .non => 4
  | .bl _ => 5
  | .int i => (toString i : Str).length
  | .str x => 10 * x.length + 2
  | .list xs => wts xs + 2
  | .tup xs => wts xs + 3
  | .dict kvs => wtk kvs + 2
  | .obj _ _ => 4
def wts : List D → Nat
  | [] => 0
  | x :: xs => wt x + 2 + wts xs
def wtk : List (Key × D) → Nat
  | [] => 0
  | (k, v) :: r => wtKey k + 2 + wt v + 2 + wtk r
end
theorem slen (a b : Str) : (a ++ b).length = a.length + b.length := by
  show (Str.append a b).cps.size = _
  simp [Str.append, Str.length]
def sumL : List Str → Nat
  | [] => 0
  | t :: ts => t.length + 2 + sumL ts
theorem textFrom_le : ∀ (ts : List Str) (k : Nat) (acc : Str), (textFrom k acc ts).length ≤ acc.length + sumL ts
  | [], k, acc => Nat.le_refl _
  | t :: ts, k, acc => by
    have ih := textFrom_le ts (k + 1) (acc ++ (if k > 0 then ", " else "" : String) ++ t)
    have e : (acc ++ (if k > 0 then ", " else "" : String) ++ t).length ≤ acc.length + 2 + t.length := by
      rw [slen, slen]
      have : (((if k > 0 then ", " else "" : String) : Str)).length ≤ 2 := by split <;> decide
      omega
    show (textFrom (k + 1) (acc ++ (if k > 0 then ", " else "" : String) ++ t) ts).length ≤ _
    rw [sumL]
    omega
theorem join_le : ∀ ts : List Str, (Str.join ", " ts).length ≤ sumL ts
  | [] => Nat.le_refl _
  | [x] => by show x.length ≤ x.length + 2 + 0; omega
  | x :: y :: r => by
    have ih := join_le (y :: r)
    show (x ++ ", " ++ Str.join ", " (y :: r)).length ≤ x.length + 2 + sumL (y :: r)
    have e2 : ((", " : String) : Str).length = 2 := rfl
    rw [slen, slen, e2]
    omega
theorem listText_le (ts : List Str) : (listText ts).length ≤ sumL ts + 2 := by
  unfold listText
  rw [slen]
  have h1 := textFrom_le ts 0 "["
  have e1 : ("[" : Str).length = 1 := by decide
  have e2 : ("]" : Str).length = 1 := by decide
  omega
theorem tupleText_le (ts : List Str) : (tupleText ts).length ≤ sumL ts + 3 := by
  unfold tupleText
  rw [slen, slen]
  have h1 := join_le ts
  have e1 : ("(" : Str).length = 1 := by decide
  have e2 : (((if ts.length == 1 then ",)" else ")" : String) : Str)).length ≤ 2 := by split <;> decide
  omega
theorem dictText_le (ts : List Str) : (dictText ts).length ≤ sumL ts + 2 := by
  unfold dictText
  rw [slen, slen]
  have h1 := join_le ts
  have e1 : ("{" : Str).length = 1 := by decide
  have e2 : ("}" : Str).length = 1 := by decide
  omega
theorem sgn_repr {x : Str} (h : sgn x = true) : (reprText x).length ≤ 10 * x.length + 2 := by
  refine StrLaws.reprText_len x fun c hc => ?_
  have := List.all_eq_true.mp h c hc
  have := of_decide_eq_true this
  have e : 16 ^ 8 = 4294967296 := by decide
  omega
theorem key_le {k : Key} (h : sgnKey k = true) : (PyData.shown (keyPy k)).length ≤ wtKey k := by
  cases k with
  | inl i =>
    show (PyData.shown (.int i)).length ≤ _
    rw [PyData.shown]
    exact Nat.le_refl _
  | inr x =>
    show (PyData.shown (.str x)).length ≤ _
    rw [PyData.shown]
    exact sgn_repr h
mutual
theorem shown_le : ∀ d : D, sgnD d = true → (PyData.shown (py d)).length ≤ wt d
  | .non, _ => by show (PyData.shown .none).length ≤ 4; rw [PyData.shown]; decide
  | .bl b, _ => by show (PyData.shown (.bool b)).length ≤ 5; rw [PyData.shown]; cases b <;> decide
  | .int i, _ => by show (PyData.shown (.int i)).length ≤ _; rw [PyData.shown]; exact Nat.le_refl _
  | .str x, h => by show (PyData.shown (.str x)).length ≤ _; rw [PyData.shown]; exact sgn_repr h
  | .list xs, h => by
    show (PyData.shown (.list (pyAll xs))).length ≤ wts xs + 2
    rw [PyData.shown]
    exact Nat.le_trans (listText_le _) (Nat.add_le_add_right (shownAll_le xs h) 2)
  | .tup xs, h => by
    show (PyData.shown (.tuple (pyAll xs))).length ≤ wts xs + 3
    rw [PyData.shown]
    exact Nat.le_trans (tupleText_le _) (Nat.add_le_add_right (shownAll_le xs h) 3)
  | .dict kvs, h => by
    show (PyData.shown (.dict (pyKv kvs))).length ≤ wtk kvs + 2
    rw [PyData.shown]
    exact Nat.le_trans (dictText_le _) (Nat.add_le_add_right (shownKv_le kvs h) 2)
  | .obj _ _, _ => by show (PyData.shown .none).length ≤ 4; rw [PyData.shown]; decide
theorem shownAll_le : ∀ xs : List D, sgnAll xs = true → sumL (PyData.shownAll (pyAll xs)) ≤ wts xs
  | [], _ => by show sumL (PyData.shownAll []) ≤ 0; rw [PyData.shownAll]; exact Nat.le_refl _
  | x :: xs, h => by
    have h' : (sgnD x && sgnAll xs) = true := h
    obtain ⟨h1, h2⟩ := Bool.and_eq_true_iff.mp h'
    show sumL (PyData.shownAll (py x :: pyAll xs)) ≤ wt x + 2 + wts xs
    rw [PyData.shownAll, sumL]
    have a := shown_le x h1
    have b := shownAll_le xs h2
    omega
theorem shownKv_le : ∀ kvs : List (Key × D), sgnKv kvs = true → sumL (PyData.shownKv (pyKv kvs)) ≤ wtk kvs
  | [], _ => by show sumL (PyData.shownKv []) ≤ 0; rw [PyData.shownKv]; exact Nat.le_refl _
  | (k, v) :: r, h => by
    have h' : (sgnKey k && (sgnD v && sgnKv r)) = true := h
    obtain ⟨h1, h2⟩ := Bool.and_eq_true_iff.mp h'
    obtain ⟨h3, h4⟩ := Bool.and_eq_true_iff.mp h2
    show sumL (PyData.shownKv ((keyPy k, py v) :: pyKv r)) ≤ wtKey k + 2 + wt v + 2 + wtk r
    rw [PyData.shownKv, sumL, slen, slen]
    have a := key_le h1
    have b := shown_le v h3
    have c := shownKv_le r h4
    have e : ((": " : String) : Str).length = 2 := by decide
    omega
end
theorem show_of {d : D} (no : noObj d = true) (ok : (py d).showable = true) (dp : (py d).depth ≤ 60) (sg : sgnD d = true) (hw : wt d ≤ 1000000) : Show d :=
  ⟨no, ok, Nat.le_trans (shown_le d sg) (by rw [sizeLine_eq]; omega), dp⟩
end DL
/-! Law k13: conditions, and what each def promises of them. -/
namespace K13
open PySem PySem.Spec PyProof.Rows L2 DL
inductive C where
  | cst (b : Bool) | ask (n : Str) | neg (c : C) | many (al : Bool) (cs : List C)
def word : C → Str
  | .cst true => "yes"
  | .cst false => "no"
  | .ask _ => "ask"
  | .neg _ => "not"
  | .many true _ => "all"
  | .many false _ => "any"
mutual
def enc : C → D
  | .cst true => .tup [.str "yes"]
  | .cst false => .tup [.str "no"]
  | .ask n => .tup [.str "ask", .str n]
  | .neg c => .tup [.str "not", enc c]
  | .many true cs => .tup [.str "all", .tup (encs cs)]
  | .many false cs => .tup [.str "any", .tup (encs cs)]
def encs : List C → List D
  | [] => []
  | c :: cs => enc c :: encs cs
end
theorem encs_map : ∀ cs, encs cs = cs.map enc
  | [] => rfl
  | c :: cs => by rw [encs, encs_map cs]; rfl
def below : C → List C
  | .neg c => [c]
  | .many _ cs => cs
  | _ => []
mutual
def dp : C → Nat
  | .cst _ => 0
  | .ask _ => 0
  | .neg c => dp c + 1
  | .many _ cs => dps cs + 1
def dps : List C → Nat
  | [] => 0
  | c :: cs => max (dp c) (dps cs)
end
theorem dp_mem : ∀ {cs : List C} {c : C}, c ∈ cs → dp c ≤ dps cs
  | [], _, h => nomatch h
  | c :: cs, x, h => by
    rw [dps]
    rcases List.mem_cons.mp h with e | h
    · rw [e]; exact Nat.le_max_left _ _
    · exact Nat.le_trans (dp_mem h) (Nat.le_max_right _ _)
mutual
def nodes : C → Nat
  | .cst _ => 1
  | .ask _ => 1
  | .neg c => nodes c + 1
  | .many _ cs => nodess cs + 1
def nodess : List C → Nat
  | [] => 0
  | c :: cs => nodes c + nodess cs
end
mutual
def holds (ans : List Str) : C → Bool
  | .cst b => b
  | .ask n => decide (n ∈ ans)
  | .neg c => !holds ans c
  | .many true cs => (holdss ans cs).all id
  | .many false cs => (holdss ans cs).any id
def holdss (ans : List Str) : List C → List Bool
  | [] => []
  | c :: cs => holds ans c :: holdss ans cs
end
theorem holdss_map (ans : List Str) : ∀ cs, holdss ans cs = cs.map (holds ans)
  | [] => rfl
  | c :: cs => by rw [holdss, holdss_map ans cs]; rfl
mutual
def asksOf : C → List Str
  | .cst _ => []
  | .ask n => [n]
  | .neg c => asksOf c
  | .many _ cs => asksOfs cs
def asksOfs : List C → List Str
  | [] => []
  | c :: cs => asksOf c ++ asksOfs cs
end
abbrev Tl := List (Str × C)
def tl (t : Tl) (n : Str) : Option C := (t.find? fun kv => decide (kv.1 = n)).map (·.2)
mutual
def putIn (t : Tl) : C → C
  | .cst b => .cst b
  | .ask n => (tl t n).getD (.ask n)
  | .neg c => .neg (putIn t c)
  | .many al cs => .many al (putIns t cs)
def putIns (t : Tl) : List C → List C
  | [] => []
  | c :: cs => putIn t c :: putIns t cs
end
theorem putIns_map (t : Tl) : ∀ cs, putIns t cs = cs.map (putIn t)
  | [] => rfl
  | c :: cs => by rw [putIns, putIns_map t cs]; rfl
def encT (t : Tl) : List (Key × D) := t.map fun kv => (.inr kv.1, enc kv.2)
abbrev names (xs : List Str) : List D := xs.map .str
/-- a name is short -/
def nm (x : Str) : Prop := x.length ≤ 8 ∧ sgn x = true
/-- a condition of these asks -/
structure Of (asks : List Str) (d n : Nat) (c : C) : Prop where
  sub : ∀ x ∈ asksOf c, x ∈ asks
  dp : dp c ≤ d
  nd : nodes c ≤ n
structure OfT (asks : List Str) (d n : Nat) (t : Tl) : Prop where
  len : t.length ≤ 5
  nms : ∀ kv ∈ t, nm kv.1
  cs : ∀ kv ∈ t, Of asks d n kv.2
structure Nms (asks : List Str) : Prop where
  len : asks.length ≤ 4
  all : ∀ x ∈ asks, nm x
def S_below : RCD := fun ds Q => ∃ c, ds = [.d (enc c)] ∧ Q (.d (.list ((below c).map enc)))
def S_holds (k : Nat) : RCD := fun ds Q => ∃ c ans, ds = [.d (enc c), .d (.tup (names ans))] ∧ dp c < k ∧ nodes c ≤ 10000 ∧ Q (.d (.bl (holds ans c)))
def S_asks_listed (k : Nat) : RCD := fun ds Q => ∃ c, ds = [.d (enc c)] ∧ dp c < k ∧ nodes c ≤ 10000 ∧ Q (.d (.list (names (asksOf c))))
def S_asks_in (k : Nat) : RCD := fun ds Q => ∃ c, ds = [.d (enc c)] ∧ dp c < k ∧ nodes c < 1000 ∧ Q (.d (.tup (names (sortS (distK (asksOf c))))))
def S_put (k : Nat) : RCD := fun ds Q => ∃ c t, ds = [.d (enc c), .d (.dict (encT t))] ∧ dp c < k ∧ Q (.d (enc (putIn t c)))
def S_law_alike : RCD := fun ds Q => ∃ a, ds = [.d a, .d a] ∧ shq a ∧ Show a ∧ Q (.d (.bl true))
def S_law_one : RCD := fun ds Q => ∃ xs, ds = [.bag, .d (.tup xs)] ∧ 0 < xs.length ∧ xs.length < 1000 ∧ ∀ x ∈ xs, Q (.d x)
def S_law_mixed : RCD := fun ds Q => ∃ xs, ds = [.bag, .d (.list xs)] ∧ xs.length < 1000 ∧ ∀ ys : List D, ys.length = xs.length → (∀ y ∈ ys, y ∈ xs) → Q (.d (.list ys))
def S_law_names : RCD := fun ds Q => ∃ n : Int, ds = [.bag, .d (.int n)] ∧ 0 ≤ n ∧ n ≤ 4 ∧ ∀ xs, Nms xs → Q (.d (.tup (names xs)))
def S_cond (k : Nat) : RCD := fun ds Q => ∃ (asks : List Str) (d : Nat), ds = [.bag, .d (.tup (names asks)), .d (.int d)] ∧ asks.length < 1000 ∧ d < k ∧ ∀ c, Of asks d (4 ^ d) c → Q (.d (enc c))
def S_law_all_answers : RCD := fun ds Q => ∃ asks : List Str, ds = [.d (.tup (names asks))] ∧ asks.length ≤ 4 ∧ ∀ L : List (List Str), Q (.d (.list (L.map fun a => .tup (names a))))
def S_law_wide : RCD := fun ds Q => ∃ asks : List Str, ds = [.bag, .d (.tup (names asks))] ∧ asks.length < 1000 ∧ ∀ c, Of asks 1 16 c → Q (.d (enc c))
def madeOf (asks : List Str) (t : Tl) (ans : List Str) : List Str := asks.filter fun n => match tl t n with
  | some c => holds ans c
  | none => decide (n ∈ ans)
def S_law_made_of : RCD := fun ds Q => ∃ (asks : List Str) (t : Tl) (ans : List Str), ds = [.d (.tup (names asks)), .d (.dict (encT t)), .d (.tup (names ans))] ∧ asks.length ≤ 1000 ∧ (∀ kv ∈ t, dp kv.2 < 3 ∧ nodes kv.2 ≤ 10000) ∧ Q (.d (.tup (names (madeOf asks t ans))))
def S_law_dict : RCD := fun ds Q => ∃ (asks : List Str) (d : Nat), ds = [.bag, .d (.tup (names asks)), .d (.int d)] ∧ Nms asks ∧ d < 2 ∧ ∀ t, OfT asks d (4 ^ d) t → Q (.d (.dict (encT t)))
end K13
namespace K13
open PySem PySem.Spec PyProof.Rows L2 DL
def topS (i : Nat) : Stmt := PySem.Challenge.pw_bynamealone_k13_whole_conditions_put_in.main.body.getD i (.Pass ⟨0, 0, 0, 0⟩)
abbrev s_below : Stmt := topS 1
abbrev s_holds : Stmt := topS 2
abbrev s_asks_listed : Stmt := topS 3
abbrev s_asks_in : Stmt := topS 4
abbrev s_put_in : Stmt := topS 5
abbrev s__law_bag : Stmt := topS 7
abbrev s__law_take : Stmt := topS 8
abbrev s__law_alike : Stmt := topS 9
abbrev s__law_one : Stmt := topS 10
abbrev s__law_mixed : Stmt := topS 11
abbrev s__law_names : Stmt := topS 12
abbrev s__law_condition : Stmt := topS 13
abbrev s__law_all_answers : Stmt := topS 14
abbrev s__law_wide : Stmt := topS 15
abbrev s__law_put_in : Stmt := topS 16
abbrev s__law_made_of : Stmt := topS 17
abbrev s__law_dict : Stmt := topS 18
abbrev s_law : Stmt := topS 19
structure Blt (mg : Str → Option Value) : Prop where
  b_abs : mg "abs" = none
  b_all : mg "all" = none
  b_any : mg "any" = none
  b_dict : mg "dict" = none
  b_int : mg "int" = none
  b_len : mg "len" = none
  b_list : mg "list" = none
  b_range : mg "range" = none
  b_repr : mg "repr" = none
  b_set : mg "set" = none
  b_sorted : mg "sorted" = none
  b_tuple : mg "tuple" = none
theorem sc_below : FnScope ["condition"] ["condition"] (defScope s_below) := ⟨rfl, rfl, rfl, by decide +kernel, rfl, by decide +kernel, by decide +kernel⟩
theorem sc_holds : FnScope ["condition", "answers", "word", "some", "one"] ["condition", "answers"] (defScope s_holds) := ⟨rfl, rfl, rfl, by decide +kernel, rfl, by decide +kernel, by decide +kernel⟩
theorem sc_asks_listed : FnScope ["condition", "one", "name"] ["condition"] (defScope s_asks_listed) := ⟨rfl, rfl, rfl, by decide +kernel, rfl, by decide +kernel, by decide +kernel⟩
theorem sc_asks_in : FnScope ["condition"] ["condition"] (defScope s_asks_in) := ⟨rfl, rfl, rfl, by decide +kernel, rfl, by decide +kernel, by decide +kernel⟩
theorem sc_put_in : FnScope ["condition", "told", "word", "one"] ["condition", "told"] (defScope s_put_in) := ⟨rfl, rfl, rfl, by decide +kernel, rfl, by decide +kernel, by decide +kernel⟩
theorem sc__law_bag : FnScope ["_law_script", "_law_cell"] ["_law_script"] (defScope s__law_bag) := ⟨rfl, rfl, rfl, by decide +kernel, rfl, by decide +kernel, by decide +kernel⟩
theorem sc__law_take : FnScope ["_law_bag_here", "_law_many", "_law_cell", "_law_mixed_here", "_law_value", "_law_begin", "_law_second"] ["_law_bag_here", "_law_many"] (defScope s__law_take) := ⟨rfl, rfl, rfl, by decide +kernel, rfl, by decide +kernel, by decide +kernel⟩
theorem sc__law_alike : FnScope ["_law_found", "_law_due"] ["_law_found", "_law_due"] (defScope s__law_alike) := ⟨rfl, rfl, rfl, by decide +kernel, rfl, by decide +kernel, by decide +kernel⟩
theorem sc__law_one : FnScope ["_law_bag_here", "_law_things"] ["_law_bag_here", "_law_things"] (defScope s__law_one) := ⟨rfl, rfl, rfl, by decide +kernel, rfl, by decide +kernel, by decide +kernel⟩
theorem sc__law_mixed : FnScope ["_law_bag_here", "_law_things", "_law_found", "_law_thing"] ["_law_bag_here", "_law_things"] (defScope s__law_mixed) := ⟨rfl, rfl, rfl, by decide +kernel, rfl, by decide +kernel, by decide +kernel⟩
theorem sc__law_names : FnScope ["_law_bag_here", "_law_many", "_law_menu", "_law_way", "_law_turn", "_law_letters", "_law_stem", "_law_k"] ["_law_bag_here", "_law_many"] (defScope s__law_names) := ⟨rfl, rfl, rfl, by decide +kernel, rfl, by decide +kernel, by decide +kernel⟩
theorem sc__law_condition : FnScope ["_law_bag_here", "_law_asks", "_law_deep", "_law_way", "_law_some", "_law_k"] ["_law_bag_here", "_law_asks", "_law_deep"] (defScope s__law_condition) := ⟨rfl, rfl, rfl, by decide +kernel, rfl, by decide +kernel, by decide +kernel⟩
theorem sc__law_all_answers : FnScope ["_law_asks", "_law_found", "_law_name", "_law_one_here"] ["_law_asks"] (defScope s__law_all_answers) := ⟨rfl, rfl, rfl, by decide +kernel, rfl, by decide +kernel, by decide +kernel⟩
theorem sc__law_wide : FnScope ["_law_bag_here", "_law_asks", "_law_k"] ["_law_bag_here", "_law_asks"] (defScope s__law_wide) := ⟨rfl, rfl, rfl, by decide +kernel, rfl, by decide +kernel, by decide +kernel⟩
theorem sc__law_put_in : FnScope ["_law_condition_here", "_law_told", "_law_one_here"] ["_law_condition_here", "_law_told"] (defScope s__law_put_in) := ⟨rfl, rfl, rfl, by decide +kernel, rfl, by decide +kernel, by decide +kernel⟩
theorem sc__law_made_of : FnScope ["_law_asks", "_law_told", "_law_answers", "_law_found", "_law_name", "_law_is_yes"] ["_law_asks", "_law_told", "_law_answers"] (defScope s__law_made_of) := ⟨rfl, rfl, rfl, by decide +kernel, rfl, by decide +kernel, by decide +kernel⟩
theorem sc__law_dict : FnScope ["_law_bag_here", "_law_asks", "_law_deep", "_law_found", "_law_name"] ["_law_bag_here", "_law_asks", "_law_deep"] (defScope s__law_dict) := ⟨rfl, rfl, rfl, by decide +kernel, rfl, by decide +kernel, by decide +kernel⟩
theorem sc_law : FnScope ["_law_script", "_law_bag_here", "_law_turn", "_law_asks", "_law_condition_here", "_law_told", "_law_later", "_law_kept", "_law_again", "_law_found", "_law_answers", "_law_both", "_law_name"] ["_law_script"] (defScope s_law) := ⟨rfl, rfl, rfl, by decide +kernel, rfl, by decide +kernel, by decide +kernel⟩
section
variable {P : Program} {w : World} {K : PySem.W.Frag} {mg : Str → Option Value}
theorem c_bag (B : Blt mg) (G : Got K mg "_law_bag" s__law_bag ["_law_script"]) : CallS P w K mg 1 "_law_bag" ["_law_script"] (spBag K) :=
  G.callS sc__law_bag (fun vs H Q E ⟨_, _, e, _⟩ => by rw [e]; rfl) fun base f cdv A outer s H E hX hgd hr => ⟨tBag K, pss_one (ps_ret (pe_lst (pa_cons pe_int (pa_cons pe_int (pa_cons pe_int (pa_cons
    (pe_lc (own := [("_law_cell", 1)]) (g := gName 1) (tt := tYes) rfl sc__law_bag.nd (pi_list (pe_slice sl_list (pv 0) po_none (po_some pe_int))) (blkOk_by (own := [("_law_cell", 1)]) (N := ["_law_script", "_law_cell"]) (sc := defScope s__law_bag) (by decide +kernel)) (fun _ _ _ _ _ => pg_name (i := 1) sc__law_bag.nd rfl (Or.inl rfl)) (fun _ _ _ _ _ => pts_nil) (fun _ _ _ _ _ => pe_callB call_abs rfl B.b_abs (by decide +kernel) (pa_cons (pv 1) pa_nil))) pa_nil)))))), fun vs Q h => read_bag h⟩
theorem c_take (B : Blt mg) (G : Got K mg "_law_take" s__law_take ["_law_bag_here", "_law_many"]) : CallD P w K mg 1 "_law_take" ["_law_bag_here", "_law_many"] STake :=
  (G.callS (sp := spD K STake) sc__law_take (fun vs H Q E ⟨_, _, ds, _, r, _, n, e, _⟩ => by rw [r.length, e]; rfl) fun base f cdv A outer s H E hX hgd hr => ⟨tTake K, (pss_cons (ps_if (pt_cmpR op_eq (pe_ix ix_seq (pv 0) pe_int (fun _ _ => rfl)) pe_int (nomark _)) (pss_cons (ps_set (i := 2) sc__law_take.nd rfl (Or.inl rfl) pe_int) (pss_cons (ps_if (pt_cmpR op_lt (pe_ix ix_seq (pv 0) pe_int (fun _ _ => rfl)) (pe_callB call_len (by rfl) B.b_len (by decide +kernel) (pa_cons (pe_ix ix_seq (pv 0) pe_int (fun _ _ => rfl)) pa_nil)) (nomark _)) (pss_one (ps_set (i := 2) sc__law_take.nd rfl (Or.inl rfl) (pe_ix ix_seq (pe_ix ix_seq (pv 0) pe_int (fun _ _ => rfl)) (pe_ix ix_seq (pv 0) pe_int (fun _ _ => rfl)) (fun _ _ => rfl)))) pss_nil) (pss_cons (ps_augS (pv 0) pe_int get_list pe_int ip_add set_list) (pss_cons (ps_if (pt_cmpR op_ge (pv 2) pe_int (nomark _)) (pss_one (ps_asg (pv 2) (pg_sub (pv 0) pe_int set_list))) pss_nil) (pss_cons (ps_set (i := 3) sc__law_take.nd rfl (Or.inl rfl) (pe_op op_add (pe_op op_add (pe_op op_mul (pe_ix ix_seq (pv 0) pe_int (fun _ _ => rfl)) pe_int) (pe_op op_mod (pe_callTy call_int1 (by rfl) B.b_int (by decide +kernel) (pa_cons (pv 2) pa_nil)) pe_int)) (pe_op op_mul pe_int (pe_ix ix_seq (pv 0) pe_int (fun _ _ => rfl))))) (pss_one (ps_asg (pe_op op_mod (pe_callTy call_int1 (by rfl) B.b_int (by decide +kernel) (pa_cons (pv 3) pa_nil)) pe_int) (pg_sub (pv 0) pe_int set_list)))))))) pss_nil) (pss_cons (ps_if (pt_cmpR op_gt (pe_ix ix_seq (pv 0) pe_int (fun _ _ => rfl)) pe_int (nomark _)) (pss_cons (ps_set (i := 4) sc__law_take.nd rfl (Or.inl rfl) (pe_op op_mod (pe_callTy call_int1 (by rfl) B.b_int (by decide +kernel) (pa_cons (pe_ix ix_seq (pv 0) pe_int (fun _ _ => rfl)) pa_nil)) (pv 1))) (pss_cons (ps_asg (pe_op op_fdiv (pe_ix ix_seq (pv 0) pe_int (fun _ _ => rfl)) (pv 1)) (pg_sub (pv 0) pe_int set_list)) (pss_one (ps_ret (pv 4))))) pss_nil) (pss_cons (ps_set (i := 5) sc__law_take.nd rfl (Or.inl rfl) (pe_op op_mod (pe_callTy call_int1 (by rfl) B.b_int (by decide +kernel) (pa_cons (pe_op op_mul (pe_op op_add (pe_ix ix_seq (pv 0) pe_int (fun _ _ => rfl)) pe_int) pe_int) pa_nil)) pe_int)) (pss_cons (ps_set (i := 6) sc__law_take.nd rfl (Or.inl rfl) (pe_op op_mod (pe_callTy call_int1 (by rfl) B.b_int (by decide +kernel) (pa_cons (pe_op op_mul (pe_op op_mod (pe_callTy call_int1 (by rfl) B.b_int (by decide +kernel) (pa_cons (pe_op op_mul (pv 5) (pv 5)) pa_nil)) pe_int) pe_int) pa_nil)) pe_int)) (pss_one (ps_ret (pe_op op_mod (pe_callTy call_int1 (by rfl) B.b_int (by decide +kernel) (pa_cons (pe_op op_fdiv (pv 6) pe_int) pa_nil)) (pv 1)))))))), fun vs Q h => read_take rfl h⟩).toD mono_take
def T_below  : DTs := (dSeq (dIfS (dB (dOp (rdInP false) (dOp rdIx (dVar 0) (dC (.int 0))) (dTup (dCons (dC (.str "all")) (dCons (dC (.str "any")) dNil))))) (dRet (dCB rcList (dCons (dOp rdIx (dVar 0) (dC (.int 1))) dNil))) dNext)
  (dRet (dIf (dB (dOp (rdEqP false) (dOp rdIx (dVar 0) (dC (.int 0))) (dC (.str "not")))) (dLst (dCons (dOp rdIx (dVar 0) (dC (.int 1))) dNil)) (dLst dNil))))
set_option maxHeartbeats 4000000 in
theorem w_below  (B : Blt mg) (hS : SysIn K)  : WalkD P w K mg ["condition"] "below" s_below (0) (T_below) :=
  fun base f cdv A outer s H E hX hgd hr => by
    have hk : K.In base := hX.kin
    have hn : base.Ns mainGlobals mg := hX.ns
    exact ⟨_, (ds_cons (ds_if (dq_cmp (op_inP hr.units) en_inP (de_ix (dv 0) de_int) (de_tup (da_cons de_str (da_cons de_str da_nil))) rfl) (ds_last (ds_ret (de_callTy call_list_of en_list (by rfl) B.b_list (by decide +kernel) (da_cons (de_ix (dv 0) de_int) da_nil)))) ds_nil)
      (ds_last (ds_ret (de_if (dq_cmp (op_eqP hr.units) en_eqP (de_ix (dv 0) de_int) de_str (nomark _)) (de_lst (da_cons (de_ix (dv 0) de_int) da_nil)) (de_lst da_nil)))))⟩
def T_holds (k : Nat) : DTs := (dSeq (dAsg (dOp rdIx (dVar 0) (dC (.int 0))) (gN 2))
  (dSeq (dIfS (dB (dOp (rdInP false) (dVar 2) (dTup (dCons (dC (.str "yes")) (dCons (dC (.str "no")) dNil))))) (dRet (dOp (rdEqP false) (dVar 2) (dC (.str "yes")))) dNext)
  (dSeq (dIfS (dB (dOp (rdEqP false) (dVar 2) (dC (.str "ask")))) (dRet (dOp (rdInP false) (dOp rdIx (dVar 0) (dC (.int 1))) (dVar 1))) dNext)
  (dSeq (dAsg (dLc (iL (dCall S_below (dCons (dVar 0) dNil))) (gN 4) dYes (dCall (S_holds k) (dCons (dVar 4) (dCons (dVar 1) dNil))) [4]) (gN 3))
  (dSeq (dIfS (dB (dOp (rdEqP false) (dVar 2) (dC (.str "not")))) (dRet (dNotV (dOp rdIx (dVar 3) (dC (.int 0))))) dNext)
  (dRet (dIf (dB (dOp (rdEqP false) (dVar 2) (dC (.str "all")))) (dCB rcAll (dCons (dVar 3) dNil)) (dCB rcAny (dCons (dVar 3) dNil)))))))))
set_option maxHeartbeats 4000000 in
theorem w_holds {k : Nat} (B : Blt mg) (hS : SysIn K) (C_below : CallD P w K mg 1 "below" ["condition"] S_below) (C_holds : CallD P w K mg (k + 1) "holds" ["condition", "answers"] (S_holds k)) : WalkD P w K mg ["condition", "answers", "word", "some", "one"] "holds" s_holds (k + 1) (T_holds k) :=
  fun base f cdv A outer s H E hX hgd hr => by
    have hk : K.In base := hX.kin
    have hn : base.Ns mainGlobals mg := hX.ns
    exact ⟨_, (ds_cons (ds_set (i := 2) sc_holds.nd rfl (Or.inl rfl) (de_ix (dv 0) de_int))
      (ds_cons (ds_if (dq_cmp (op_inP hr.units) en_inP (dv 2) (de_tup (da_cons de_str (da_cons de_str da_nil))) rfl) (ds_last (ds_ret (de_cmp (op_eqP hr.units) en_eqP (dv 2) de_str (nomark _)))) ds_nil)
      (ds_cons (ds_if (dq_cmp (op_eqP hr.units) en_eqP (dv 2) de_str (nomark _)) (ds_last (ds_ret (de_cmp (op_inP hr.units) en_inP (de_ix (dv 0) de_int) (dv 1) rfl))) ds_nil)
      (ds_cons (ds_setLcE (i := 3) (own := [("one", 4)]) rfl sc_holds.nd rfl rfl (sw_true rfl rfl rfl (by decide +kernel)) (di_list (de_callK C_below hk hn hgd (hr.mono (by omega)) (by rfl) (da_cons (dv 0) da_nil))) (blkOk_by (own := [("one", 4)]) (N := ["condition", "answers", "word", "some", "one"]) (sc := defScope s_holds) (by decide +kernel)) (fun _ _ _ _ _ => (dg_name (i := 4) sc_holds.nd rfl (Or.inl rfl))) (gw_name (by decide)) (fun _ _ _ _ _ => ⟨_, dp_nil⟩) (fun _ _ _ _ _ => ⟨_, (de_callK C_holds hk hn hgd (hr.mono (by omega)) (by rfl) (da_cons (dv 4) (da_cons (dv 1) da_nil)))⟩))
      (ds_cons (ds_if (dq_cmp (op_eqP hr.units) en_eqP (dv 2) de_str (nomark _)) (ds_last (ds_ret (de_not (de_ix (dv 3) de_int)))) ds_nil)
      (ds_last (ds_ret (de_if (dq_cmp (op_eqP hr.units) en_eqP (dv 2) de_str (nomark _)) (de_callB (cr_all rfl) en_all (by rfl) B.b_all (by decide +kernel) (da_cons (dv 3) da_nil)) (de_callB (cr_any rfl) en_any (by rfl) B.b_any (by decide +kernel) (da_cons (dv 3) da_nil))))))))))⟩
def T_asks_listed (k : Nat) : DTs := (dSeq (dIfS (dB (dOp (rdEqP false) (dOp rdIx (dVar 0) (dC (.int 0))) (dC (.str "ask")))) (dRet (dLst (dCons (dOp rdIx (dVar 0) (dC (.int 1))) dNil))) dNext)
  (dRet (dLc2 (iL (dCall S_below (dCons (dVar 0) dNil))) (gN 1) dYes (iL (dCall (S_asks_listed k) (dCons (dVar 1) dNil))) (gN 2) dYes (dVar 2) [1, 2] [2])))
set_option maxHeartbeats 4000000 in
theorem w_asks_listed {k : Nat} (B : Blt mg) (hS : SysIn K) (C_below : CallD P w K mg 1 "below" ["condition"] S_below) (C_asks_listed : CallD P w K mg (k + 1) "asks_listed" ["condition"] (S_asks_listed k)) : WalkD P w K mg ["condition", "one", "name"] "asks_listed" s_asks_listed (k + 1) (T_asks_listed k) :=
  fun base f cdv A outer s H E hX hgd hr => by
    have hk : K.In base := hX.kin
    have hn : base.Ns mainGlobals mg := hX.ns
    exact ⟨_, (ds_cons (ds_if (dq_cmp (op_eqP hr.units) en_eqP (de_ix (dv 0) de_int) de_str (nomark _)) (ds_last (ds_ret (de_lst (da_cons (de_ix (dv 0) de_int) da_nil)))) ds_nil)
      (ds_last (ds_ret (de_lc2E (own := [("one", 1), ("name", 2)]) (vs1 := [2]) rfl sc_asks_listed.nd  (di_list (de_callK C_below hk hn hgd (hr.mono (by omega)) (by rfl) (da_cons (dv 0) da_nil))) (blkOk_by (own := [("one", 1), ("name", 2)]) (N := ["condition", "one", "name"]) (sc := defScope s_asks_listed) (by decide +kernel)) (by decide) (fun _ _ _ _ _ => (dg_name (i := 1) sc_asks_listed.nd rfl (Or.inl rfl))) (gw_name (by decide)) (fun _ _ _ _ _ => ⟨_, dp_nil⟩) (fun _ _ _ _ _ => ⟨_, (di_list (de_callK C_asks_listed hk hn hgd (hr.mono (by omega)) (by rfl) (da_cons (dv 1) da_nil)))⟩) (fun _ _ _ _ _ => (dg_name (i := 2) sc_asks_listed.nd rfl (Or.inl rfl))) (gw_name (by decide)) (fun _ _ _ _ _ => ⟨_, dp_nil⟩) (fun _ _ _ _ _ => ⟨_, (dv 2)⟩)))))⟩
def T_asks_in (k : Nat) : DTs := (dRet (dCB rcTuple (dCons (dSortSet (dCons (dCall (S_asks_listed k) (dCons (dVar 0) dNil)) dNil)) dNil)))
set_option maxHeartbeats 4000000 in
theorem w_asks_in {k : Nat} (B : Blt mg) (hS : SysIn K) (C_asks_listed : CallD P w K mg (k + 1) "asks_listed" ["condition"] (S_asks_listed k)) : WalkD P w K mg ["condition"] "asks_in" s_asks_in (k + 1) (T_asks_in k) :=
  fun base f cdv A outer s H E hX hgd hr => by
    have hk : K.In base := hX.kin
    have hn : base.Ns mainGlobals mg := hX.ns
    exact ⟨_, (ds_last (ds_ret (de_callTy call_tuple_of en_tuple (by rfl) B.b_tuple (by decide +kernel) (da_cons (de_sortSet rfl hr.units (by rfl) B.b_sorted (by rfl) B.b_set (da_cons (de_callK C_asks_listed hk hn hgd (hr.mono (by omega)) (by rfl) (da_cons (dv 0) da_nil)) da_nil)) da_nil))))⟩
def T_put_in (k : Nat) : DTs := (dSeq (dAsg (dOp rdIx (dVar 0) (dC (.int 0))) (gN 2))
  (dSeq (dIfS (dB (dOp (rdEqP false) (dVar 2) (dC (.str "ask")))) (dRet (dIf (dB (dDIn false (dOp rdIx (dVar 0) (dC (.int 1))) (dVar 1))) (dDGet (dVar 1) (dOp rdIx (dVar 0) (dC (.int 1)))) (dVar 0))) dNext)
  (dSeq (dIfS (dB (dOp (rdEqP false) (dVar 2) (dC (.str "not")))) (dRet (dTup (dCons (dC (.str "not")) (dCons (dCall (S_put k) (dCons (dOp rdIx (dVar 0) (dC (.int 1))) (dCons (dVar 1) dNil))) dNil)))) dNext)
  (dSeq (dIfS (dB (dOp (rdInP false) (dVar 2) (dTup (dCons (dC (.str "all")) (dCons (dC (.str "any")) dNil))))) (dRet (dTup (dCons (dVar 2) (dCons (dCB rcTuple (dCons (dLc (iT (dOp rdIx (dVar 0) (dC (.int 1)))) (gN 3) dYes (dCall (S_put k) (dCons (dVar 3) (dCons (dVar 1) dNil))) [3]) dNil)) dNil)))) dNext)
  (dRet (dVar 0))))))
set_option maxHeartbeats 4000000 in
theorem w_put_in {k : Nat} (B : Blt mg) (hS : SysIn K) (C_put_in : CallD P w K mg (k + 1) "put_in" ["condition", "told"] (S_put k)) : WalkD P w K mg ["condition", "told", "word", "one"] "put_in" s_put_in (k + 1) (T_put_in k) :=
  fun base f cdv A outer s H E hX hgd hr => by
    have hk : K.In base := hX.kin
    have hn : base.Ns mainGlobals mg := hX.ns
    exact ⟨_, (ds_cons (ds_set (i := 2) sc_put_in.nd rfl (Or.inl rfl) (de_ix (dv 0) de_int))
      (ds_cons (ds_if (dq_cmp (op_eqP hr.units) en_eqP (dv 2) de_str (nomark _)) (ds_last (ds_ret (de_if (dq_din (hu1 hr) (de_ix (dv 0) de_int) (dv 1)) (de_dget (hu1 hr) (dv 1) (de_ix (dv 0) de_int)) (dv 0)))) ds_nil)
      (ds_cons (ds_if (dq_cmp (op_eqP hr.units) en_eqP (dv 2) de_str (nomark _)) (ds_last (ds_ret (de_tup (da_cons de_str (da_cons (de_callK C_put_in hk hn hgd (hr.mono (by omega)) (by rfl) (da_cons (de_ix (dv 0) de_int) (da_cons (dv 1) da_nil))) da_nil))))) ds_nil)
      (ds_cons (ds_if (dq_cmp (op_inP hr.units) en_inP (dv 2) (de_tup (da_cons de_str (da_cons de_str da_nil))) rfl) (ds_last (ds_ret (de_tup (da_cons (dv 2) (da_cons (de_callTy call_tuple_of en_tuple (by rfl) B.b_tuple (by decide +kernel) (da_cons (de_lcE (own := [("one", 3)]) rfl sc_put_in.nd  (di_tup (de_ix (dv 0) de_int)) (blkOk_by (own := [("one", 3)]) (N := ["condition", "told", "word", "one"]) (sc := defScope s_put_in) (by decide +kernel)) (fun _ _ _ _ _ => (dg_name (i := 3) sc_put_in.nd rfl (Or.inl rfl))) (gw_name (by decide)) (fun _ _ _ _ _ => ⟨_, dp_nil⟩) (fun _ _ _ _ _ => ⟨_, (de_callK C_put_in hk hn hgd (hr.mono (by omega)) (by rfl) (da_cons (dv 3) (da_cons (dv 1) da_nil)))⟩)) da_nil)) da_nil))))) ds_nil)
      (ds_last (ds_ret (dv 0)))))))⟩
def T_law_alike  : DTs := (dRet (dAndV (dOp (rdEqP false) (dVar 0) (dVar 1)) (dOp (rdEqP false) (dCB rcRepr (dCons (dVar 0) dNil)) (dCB rcRepr (dCons (dVar 1) dNil)))))
set_option maxHeartbeats 4000000 in
theorem w_law_alike  (B : Blt mg) (hS : SysIn K)  : WalkD P w K mg ["_law_found", "_law_due"] "_law_alike" s__law_alike (1) (T_law_alike) :=
  fun base f cdv A outer s H E hX hgd hr => by
    have hk : K.In base := hX.kin
    have hn : base.Ns mainGlobals mg := hX.ns
    exact ⟨_, (ds_last (ds_ret (de_and (de_cmp (op_eqP hr.units) en_eqP (dv 0) (dv 1) (nomark _)) (de_one (de_cmp (op_eqP hr.units) en_eqP (de_callB (cr_repr hS hgd hr.units) en_repr (by rfl) B.b_repr (by decide +kernel) (da_cons (dv 0) da_nil)) (de_callB (cr_repr hS hgd hr.units) en_repr (by rfl) B.b_repr (by decide +kernel) (da_cons (dv 1) da_nil)) (nomark _))))))⟩
def T_law_one  : DTs := (dRet (dOp rdIx (dVar 1) (dCall STake (dCons (dVar 0) (dCons (dCB rcLen (dCons (dVar 1) dNil)) dNil)))))
set_option maxHeartbeats 4000000 in
theorem w_law_one  (B : Blt mg) (hS : SysIn K) (C_law_take : CallD P w K mg 1 "_law_take" ["_law_bag_here", "_law_many"] STake) : WalkD P w K mg ["_law_bag_here", "_law_things"] "_law_one" s__law_one (1) (T_law_one) :=
  fun base f cdv A outer s H E hX hgd hr => by
    have hk : K.In base := hX.kin
    have hn : base.Ns mainGlobals mg := hX.ns
    exact ⟨_, (ds_last (ds_ret (de_ix (dv 1) (de_callK C_law_take hk hn hgd (hr.mono (by omega)) (by rfl) (da_cons (dv 0) (da_cons (de_callB call_len en_len (by rfl) B.b_len (by decide +kernel) (da_cons (dv 1) da_nil)) da_nil))))))⟩
def T_law_mixed  : DTs := (dSeq (dAsgO (dLstO dNil) 2)
  (dSeq (dForS (iL (dVar 1)) (gN 3) (dInsert 2 (dCons (dCall STake (dCons (dVar 0) (dCons (dOp rdAdd (dLenO 2) (dC (.int 1))) dNil))) (dCons (dVar 3) dNil))))
  (dFrz 2 (dRet (dVar 2)))))
set_option maxHeartbeats 4000000 in
theorem w_law_mixed  (B : Blt mg) (hS : SysIn K) (C_law_take : CallD P w K mg 1 "_law_take" ["_law_bag_here", "_law_many"] STake) : WalkD P w K mg ["_law_bag_here", "_law_things", "_law_found", "_law_thing"] "_law_mixed" s__law_mixed (1) (T_law_mixed) :=
  fun base f cdv A outer s H E hX hgd hr => by
    have hk : K.In base := hX.kin
    have hn : base.Ns mainGlobals mg := hX.ns
    exact ⟨_, (ds_cons (ds_setLst (i := 2) sc__law_mixed.nd rfl (Or.inl rfl) da_nil)
      (ds_cons (ds_for PassesOwn.never rfl (di_list (dv 1)) (dg_name (i := 3) sc__law_mixed.nd rfl (Or.inl rfl)) (ds_last (ds_insert (i := 2) (pv 2) (da_cons (de_callK C_law_take hk hn hgd (hr.mono (by omega)) (by rfl) (da_cons (dv 0) (da_cons (de_op op_add en_add (de_lenO (i := 2) (pv 2) (by rfl) B.b_len) de_int) da_nil))) (da_cons (dv 3) da_nil)))))
      (dss_frz (i := 2) (ds_last (ds_ret (dv 2))))))⟩
def T_law_names  : DTs := (dSeq (dAsg (dSplit (dC (.str "yes no ask not all any step row if while leave back call then else do")) (dC (.str " "))) (gN 2))
  (dSeq (dAsg (dTup (dCons (dCall STake (dCons (dVar 0) (dCons (dC (.int 5)) dNil))) (dCons (dCall STake (dCons (dVar 0) (dCons (dC (.int 16)) dNil))) dNil))) (gTupD 2 (gsCons (gN 3) (gsCons (gN 4) gsNil))))
  (dSeq (dIfS (dB (dOp (rdEqP false) (dVar 3) (dC (.int 0)))) (dRet (dCB rcTuple (dCons (dCB rcSortD (dCons (dSl rdSlL (dOp rdCatL (dSl rdSlL (dVar 2) (dPart (dVar 4)) dNoPart) (dSl rdSlL (dVar 2) dNoPart (dPart (dVar 4)))) dNoPart (dPart (dVar 1))) dNil)) dNil))) dNext)
  (dSeq (dIfS (dB (dOp (rdEqP false) (dVar 3) (dC (.int 1)))) (dRet (dCB rcTuple (dCons (dLc (iR (dCons (dVar 1) dNil)) (gN 7) dYes (dSl rdSlS (dC (.str "aaaaaaaa")) dNoPart (dPart (dOp rdAdd (dVar 7) (dC (.int 1))))) [7]) dNil))) dNext)
  (dSeq (dAsg (dC (.str "abcdefghijklmnopqrstuvwxyz")) (gN 5))
  (dSeq (dAsg (dOp rdIx (dLst (dCons (dC (.str "")) (dCons (dC (.str "")) (dCons (dOp rdIx (dVar 5) (dVar 4)) (dCons (dC (.str "zzzzzzz")) dNil))))) (dOp rdSub (dVar 3) (dC (.int 1)))) (gN 6))
  (dRet (dCB rcTuple (dCons (dCB rcSortD (dCons (dLc (iR (dCons (dVar 1) dNil)) (gN 7) dYes (dOp rdAddS (dVar 6) (dOp rdIx (dVar 5) (dOp rdMod (dCB rcInt (dCons (dOp rdAdd (dVar 4) (dOp rdMul (dC (.int 3)) (dVar 7))) dNil)) (dC (.int 26))))) [7]) dNil)) dNil)))))))))
set_option maxHeartbeats 4000000 in
theorem w_law_names  (B : Blt mg) (hS : SysIn K) (C_law_take : CallD P w K mg 1 "_law_take" ["_law_bag_here", "_law_many"] STake) : WalkD P w K mg ["_law_bag_here", "_law_many", "_law_menu", "_law_way", "_law_turn", "_law_letters", "_law_stem", "_law_k"] "_law_names" s__law_names (1) (T_law_names) :=
  fun base f cdv A outer s H E hX hgd hr => by
    have hk : K.In base := hX.kin
    have hn : base.Ns mainGlobals mg := hX.ns
    exact ⟨_, (ds_cons (ds_set (i := 2) sc__law_names.nd rfl (Or.inl rfl) (de_split de_str de_str))
      (ds_cons (ds_asg (de_tup (da_cons (de_callK C_law_take hk hn hgd (hr.mono (by omega)) (by rfl) (da_cons (dv 0) (da_cons de_int da_nil))) (da_cons (de_callK C_law_take hk hn hgd (hr.mono (by omega)) (by rfl) (da_cons (dv 0) (da_cons de_int da_nil))) da_nil))) (dg_tup rfl (dgs_cons (dg_name (i := 3) sc__law_names.nd rfl (Or.inl rfl)) (dgs_cons (dg_name (i := 4) sc__law_names.nd rfl (Or.inr rfl)) dgs_nil))))
      (ds_cons (ds_if (dq_cmp (op_eqP hr.units) en_eqP (dv 3) de_int (nomark _)) (ds_last (ds_ret (de_callTy call_tuple_of en_tuple (by rfl) B.b_tuple (by decide +kernel) (da_cons (de_callB (cr_sortD hS hr.units) en_sortD (by rfl) B.b_sorted (by decide +kernel) (da_cons (de_slice sl_list en_slL (de_op op_cat en_catL (de_slice sl_list en_slL (dv 2) (do_some (dv 4)) do_none) (de_slice sl_list en_slL (dv 2) do_none (do_some (dv 4)))) do_none (do_some (dv 1))) da_nil)) da_nil)))) ds_nil)
      (ds_cons (ds_if (dq_cmp (op_eqP hr.units) en_eqP (dv 3) de_int (nomark _)) (ds_last (ds_ret (de_callTy call_tuple_of en_tuple (by rfl) B.b_tuple (by decide +kernel) (da_cons (de_lcE (own := [("_law_k", 7)]) rfl sc__law_names.nd  (di_range (by rfl) B.b_range (da_cons (dv 1) da_nil)) (blkOk_by (own := [("_law_k", 7)]) (N := ["_law_bag_here", "_law_many", "_law_menu", "_law_way", "_law_turn", "_law_letters", "_law_stem", "_law_k"]) (sc := defScope s__law_names) (by decide +kernel)) (fun _ _ _ _ _ => (dg_name (i := 7) sc__law_names.nd rfl (Or.inl rfl))) (gw_name (by decide)) (fun _ _ _ _ _ => ⟨_, dp_nil⟩) (fun _ _ _ _ _ => ⟨_, (de_slice sl_str en_slS de_str do_none (do_some (de_op op_add en_add (dv 7) de_int)))⟩)) da_nil)))) ds_nil)
      (ds_cons (ds_set (i := 5) sc__law_names.nd rfl (Or.inr rfl) de_str)
      (ds_cons (ds_set (i := 6) sc__law_names.nd rfl (Or.inr rfl) (de_ix (de_lst (da_cons de_str (da_cons de_str (da_cons (de_ix (dv 5) (dv 4)) (da_cons de_str da_nil))))) (de_op op_sub en_sub (dv 3) de_int)))
      (ds_last (ds_ret (de_callTy call_tuple_of en_tuple (by rfl) B.b_tuple (by decide +kernel) (da_cons (de_callB (cr_sortD hS hr.units) en_sortD (by rfl) B.b_sorted (by decide +kernel) (da_cons (de_lcE (own := [("_law_k", 7)]) rfl sc__law_names.nd  (di_range (by rfl) B.b_range (da_cons (dv 1) da_nil)) (blkOk_by (own := [("_law_k", 7)]) (N := ["_law_bag_here", "_law_many", "_law_menu", "_law_way", "_law_turn", "_law_letters", "_law_stem", "_law_k"]) (sc := defScope s__law_names) (by decide +kernel)) (fun _ _ _ _ _ => (dg_name (i := 7) sc__law_names.nd rfl (Or.inl rfl))) (gw_name (by decide)) (fun _ _ _ _ _ => ⟨_, dp_nil⟩) (fun _ _ _ _ _ => ⟨_, (de_op op_add_str en_addS (dv 6) (de_ix (dv 5) (de_op op_mod en_mod (de_callTy call_int1 en_int (by rfl) B.b_int (by decide +kernel) (da_cons (de_op op_add en_add (dv 4) (de_op op_mul en_mul de_int (dv 7))) da_nil)) de_int)))⟩)) da_nil)) da_nil))))))))))⟩
def T_law_condition (k : Nat) : DTs := (dSeq (dAsg (dCall STake (dCons (dVar 0) (dCons (dC (.int 9)) dNil))) (gN 3))
  (dSeq (dIfS (dOr (dB (dOp rdLt (dVar 3) (dC (.int 5)))) (dB (dOp rdLt (dVar 2) (dC (.int 1))))) (dSeq (dIfS (dOr (dB (dOp (rdEqP false) (dVar 3) (dC (.int 0)))) (dB (dOp (rdEqP false) (dVar 1) (dTup dNil)))) (dRet (dOp rdIx (dLst (dCons (dTup (dCons (dC (.str "yes")) dNil)) (dCons (dTup (dCons (dC (.str "no")) dNil)) dNil))) (dCall STake (dCons (dVar 0) (dCons (dC (.int 2)) dNil))))) dNext)
  (dRet (dTup (dCons (dC (.str "ask")) (dCons (dCall S_law_one (dCons (dVar 0) (dCons (dVar 1) dNil))) dNil))))) dNext)
  (dSeq (dIfS (dB (dOp rdLt (dVar 3) (dC (.int 7)))) (dRet (dTup (dCons (dC (.str "not")) (dCons (dCall (S_cond k) (dCons (dVar 0) (dCons (dVar 1) (dCons (dOp rdSub (dVar 2) (dC (.int 1))) dNil)))) dNil)))) dNext)
  (dSeq (dAsg (dLc (iR (dCons (dCall STake (dCons (dVar 0) (dCons (dC (.int 4)) dNil))) dNil)) (gN 5) dYes (dCall (S_cond k) (dCons (dVar 0) (dCons (dVar 1) (dCons (dOp rdSub (dVar 2) (dC (.int 1))) dNil)))) [5]) (gN 4))
  (dRet (dTup (dCons (dOp rdIx (dLst (dCons (dC (.str "all")) (dCons (dC (.str "any")) dNil))) (dOp rdSub (dVar 3) (dC (.int 7)))) (dCons (dCB rcTuple (dCons (dVar 4) dNil)) dNil))))))))
set_option maxHeartbeats 4000000 in
theorem w_law_condition {k : Nat} (B : Blt mg) (hS : SysIn K) (C_law_take : CallD P w K mg 1 "_law_take" ["_law_bag_here", "_law_many"] STake) (C_law_one : CallD P w K mg 2 "_law_one" ["_law_bag_here", "_law_things"] S_law_one) (C_law_condition : CallD P w K mg (k + 2) "_law_condition" ["_law_bag_here", "_law_asks", "_law_deep"] (S_cond k)) : WalkD P w K mg ["_law_bag_here", "_law_asks", "_law_deep", "_law_way", "_law_some", "_law_k"] "_law_condition" s__law_condition (k + 2) (T_law_condition k) :=
  fun base f cdv A outer s H E hX hgd hr => by
    have hk : K.In base := hX.kin
    have hn : base.Ns mainGlobals mg := hX.ns
    exact ⟨_, (ds_cons (ds_set (i := 3) sc__law_condition.nd rfl (Or.inl rfl) (de_callK C_law_take hk hn hgd (hr.mono (by omega)) (by rfl) (da_cons (dv 0) (da_cons de_int da_nil))))
      (ds_cons (ds_if (DW.toQ (dw_or (dq_cmp op_lt en_lt (dv 3) de_int (nomark _)) (dw_or1 (dq_cmp op_lt en_lt (dv 2) de_int (nomark _))))) (ds_cons (ds_if (DW.toQ (dw_or (dq_cmp (op_eqP hr.units) en_eqP (dv 3) de_int (nomark _)) (dw_or1 (dq_cmp (op_eqP hr.units) en_eqP (dv 1) (de_tup da_nil) (nomark _))))) (ds_last (ds_ret (de_ix (de_lst (da_cons (de_tup (da_cons de_str da_nil)) (da_cons (de_tup (da_cons de_str da_nil)) da_nil))) (de_callK C_law_take hk hn hgd (hr.mono (by omega)) (by rfl) (da_cons (dv 0) (da_cons de_int da_nil)))))) ds_nil)
      (ds_last (ds_ret (de_tup (da_cons de_str (da_cons (de_callK C_law_one hk hn hgd (hr.mono (by omega)) (by rfl) (da_cons (dv 0) (da_cons (dv 1) da_nil))) da_nil)))))) ds_nil)
      (ds_cons (ds_if (dq_cmp op_lt en_lt (dv 3) de_int (nomark _)) (ds_last (ds_ret (de_tup (da_cons de_str (da_cons (de_callK C_law_condition hk hn hgd (hr.mono (by omega)) (by rfl) (da_cons (dv 0) (da_cons (dv 1) (da_cons (de_op op_sub en_sub (dv 2) de_int) da_nil)))) da_nil))))) ds_nil)
      (ds_cons (ds_setLcE (i := 4) (own := [("_law_k", 5)]) rfl sc__law_condition.nd rfl rfl (sw_true rfl rfl rfl (by decide +kernel)) (di_range (by rfl) B.b_range (da_cons (de_callK C_law_take hk hn hgd (hr.mono (by omega)) (by rfl) (da_cons (dv 0) (da_cons de_int da_nil))) da_nil)) (blkOk_by (own := [("_law_k", 5)]) (N := ["_law_bag_here", "_law_asks", "_law_deep", "_law_way", "_law_some", "_law_k"]) (sc := defScope s__law_condition) (by decide +kernel)) (fun _ _ _ _ _ => (dg_name (i := 5) sc__law_condition.nd rfl (Or.inl rfl))) (gw_name (by decide)) (fun _ _ _ _ _ => ⟨_, dp_nil⟩) (fun _ _ _ _ _ => ⟨_, (de_callK C_law_condition hk hn hgd (hr.mono (by omega)) (by rfl) (da_cons (dv 0) (da_cons (dv 1) (da_cons (de_op op_sub en_sub (dv 2) de_int) da_nil))))⟩))
      (ds_last (ds_ret (de_tup (da_cons (de_ix (de_lst (da_cons de_str (da_cons de_str da_nil))) (de_op op_sub en_sub (dv 3) de_int)) (da_cons (de_callTy call_tuple_of en_tuple (by rfl) B.b_tuple (by decide +kernel) (da_cons (dv 4) da_nil)) da_nil)))))))))⟩
def T_law_all_answers  : DTs := (dSeq (dAsg (dLst (dCons (dTup dNil) dNil)) (gN 1))
  (dSeq (dForS (iT (dVar 0)) (gN 2) (dAsg (dOp rdCatL (dVar 1) (dLc (iL (dVar 1)) (gN 3) dYes (dOp rdCatT (dVar 3) (dTup (dCons (dVar 2) dNil))) [3])) (gN 1)))
  (dRet (dCB rcSortD (dCons (dVar 1) dNil)))))
set_option maxHeartbeats 4000000 in
theorem w_law_all_answers  (B : Blt mg) (hS : SysIn K)  : WalkD P w K mg ["_law_asks", "_law_found", "_law_name", "_law_one_here"] "_law_all_answers" s__law_all_answers (1) (T_law_all_answers) :=
  fun base f cdv A outer s H E hX hgd hr => by
    have hk : K.In base := hX.kin
    have hn : base.Ns mainGlobals mg := hX.ns
    exact ⟨_, (ds_cons (ds_set (i := 1) sc__law_all_answers.nd rfl (Or.inl rfl) (de_lst (da_cons (de_tup da_nil) da_nil)))
      (ds_cons (ds_for PassesOwn.never rfl (di_tup (dv 0)) (dg_name (i := 2) sc__law_all_answers.nd rfl (Or.inr rfl)) (ds_last (ds_set (i := 1) sc__law_all_answers.nd rfl (Or.inl rfl) (de_op op_cat en_catL (dv 1) (de_lcE (own := [("_law_one_here", 3)]) rfl sc__law_all_answers.nd  (di_list (dv 1)) (blkOk_by (own := [("_law_one_here", 3)]) (N := ["_law_asks", "_law_found", "_law_name", "_law_one_here"]) (sc := defScope s__law_all_answers) (by decide +kernel)) (fun _ _ _ _ _ => (dg_name (i := 3) sc__law_all_answers.nd rfl (Or.inl rfl))) (gw_name (by decide)) (fun _ _ _ _ _ => ⟨_, dp_nil⟩) (fun _ _ _ _ _ => ⟨_, (de_op op_catA en_catT (dv 3) (de_tup (da_cons (dv 2) da_nil)))⟩))))))
      (ds_last (ds_ret (de_callB (cr_sortD hS hr.units) en_sortD (by rfl) B.b_sorted (by decide +kernel) (da_cons (dv 1) da_nil))))))⟩
def T_law_wide  : DTs := (dRet (dTup (dCons (dOp rdIx (dLst (dCons (dC (.str "all")) (dCons (dC (.str "any")) dNil))) (dCall STake (dCons (dVar 0) (dCons (dC (.int 2)) dNil)))) (dCons (dCB rcTuple (dCons (dLc (iR (dCons (dCall STake (dCons (dVar 0) (dCons (dC (.int 16)) dNil))) dNil)) (gN 2) dYes (dCall (S_cond 1) (dCons (dVar 0) (dCons (dVar 1) (dCons (dC (.int 0)) dNil)))) [2]) dNil)) dNil))))
set_option maxHeartbeats 4000000 in
theorem w_law_wide  (B : Blt mg) (hS : SysIn K) (C_law_take : CallD P w K mg 1 "_law_take" ["_law_bag_here", "_law_many"] STake) (C_law_condition : CallD P w K mg 3 "_law_condition" ["_law_bag_here", "_law_asks", "_law_deep"] (S_cond 1)) : WalkD P w K mg ["_law_bag_here", "_law_asks", "_law_k"] "_law_wide" s__law_wide (3) (T_law_wide) :=
  fun base f cdv A outer s H E hX hgd hr => by
    have hk : K.In base := hX.kin
    have hn : base.Ns mainGlobals mg := hX.ns
    exact ⟨_, (ds_last (ds_ret (de_tup (da_cons (de_ix (de_lst (da_cons de_str (da_cons de_str da_nil))) (de_callK C_law_take hk hn hgd (hr.mono (by omega)) (by rfl) (da_cons (dv 0) (da_cons de_int da_nil)))) (da_cons (de_callTy call_tuple_of en_tuple (by rfl) B.b_tuple (by decide +kernel) (da_cons (de_lcE (own := [("_law_k", 2)]) rfl sc__law_wide.nd  (di_range (by rfl) B.b_range (da_cons (de_callK C_law_take hk hn hgd (hr.mono (by omega)) (by rfl) (da_cons (dv 0) (da_cons de_int da_nil))) da_nil)) (blkOk_by (own := [("_law_k", 2)]) (N := ["_law_bag_here", "_law_asks", "_law_k"]) (sc := defScope s__law_wide) (by decide +kernel)) (fun _ _ _ _ _ => (dg_name (i := 2) sc__law_wide.nd rfl (Or.inl rfl))) (gw_name (by decide)) (fun _ _ _ _ _ => ⟨_, dp_nil⟩) (fun _ _ _ _ _ => ⟨_, (de_callK C_law_condition hk hn hgd (hr.mono (by omega)) (by rfl) (da_cons (dv 0) (da_cons (dv 1) (da_cons de_int da_nil))))⟩)) da_nil)) da_nil)))))⟩
def T_law_put_in (k : Nat) : DTs := (dSeq (dIfS (dB (dOp (rdEqP false) (dOp rdIx (dVar 0) (dC (.int 0))) (dC (.str "ask")))) (dRet (dDGet2 (dVar 1) (dOp rdIx (dVar 0) (dC (.int 1))) (dVar 0))) dNext)
  (dSeq (dIfS (dB (dOp (rdEqP false) (dOp rdIx (dVar 0) (dC (.int 0))) (dC (.str "not")))) (dRet (dTup (dCons (dC (.str "not")) (dCons (dCall (S_put k) (dCons (dOp rdIx (dVar 0) (dC (.int 1))) (dCons (dVar 1) dNil))) dNil)))) dNext)
  (dSeq (dIfS (dB (dOp (rdInP false) (dOp rdIx (dVar 0) (dC (.int 0))) (dTup (dCons (dC (.str "all")) (dCons (dC (.str "any")) dNil))))) (dRet (dTup (dCons (dOp rdIx (dVar 0) (dC (.int 0))) (dCons (dCB rcTuple (dCons (dLc (iT (dOp rdIx (dVar 0) (dC (.int 1)))) (gN 2) dYes (dCall (S_put k) (dCons (dVar 2) (dCons (dVar 1) dNil))) [2]) dNil)) dNil)))) dNext)
  (dRet (dVar 0)))))
set_option maxHeartbeats 4000000 in
theorem w_law_put_in {k : Nat} (B : Blt mg) (hS : SysIn K) (C_law_put_in : CallD P w K mg (k + 1) "_law_put_in" ["_law_condition_here", "_law_told"] (S_put k)) : WalkD P w K mg ["_law_condition_here", "_law_told", "_law_one_here"] "_law_put_in" s__law_put_in (k + 1) (T_law_put_in k) :=
  fun base f cdv A outer s H E hX hgd hr => by
    have hk : K.In base := hX.kin
    have hn : base.Ns mainGlobals mg := hX.ns
    exact ⟨_, (ds_cons (ds_if (dq_cmp (op_eqP hr.units) en_eqP (de_ix (dv 0) de_int) de_str (nomark _)) (ds_last (ds_ret (de_dget2 (hu1 hr) (dv 1) (de_ix (dv 0) de_int) (dv 0)))) ds_nil)
      (ds_cons (ds_if (dq_cmp (op_eqP hr.units) en_eqP (de_ix (dv 0) de_int) de_str (nomark _)) (ds_last (ds_ret (de_tup (da_cons de_str (da_cons (de_callK C_law_put_in hk hn hgd (hr.mono (by omega)) (by rfl) (da_cons (de_ix (dv 0) de_int) (da_cons (dv 1) da_nil))) da_nil))))) ds_nil)
      (ds_cons (ds_if (dq_cmp (op_inP hr.units) en_inP (de_ix (dv 0) de_int) (de_tup (da_cons de_str (da_cons de_str da_nil))) rfl) (ds_last (ds_ret (de_tup (da_cons (de_ix (dv 0) de_int) (da_cons (de_callTy call_tuple_of en_tuple (by rfl) B.b_tuple (by decide +kernel) (da_cons (de_lcE (own := [("_law_one_here", 2)]) rfl sc__law_put_in.nd  (di_tup (de_ix (dv 0) de_int)) (blkOk_by (own := [("_law_one_here", 2)]) (N := ["_law_condition_here", "_law_told", "_law_one_here"]) (sc := defScope s__law_put_in) (by decide +kernel)) (fun _ _ _ _ _ => (dg_name (i := 2) sc__law_put_in.nd rfl (Or.inl rfl))) (gw_name (by decide)) (fun _ _ _ _ _ => ⟨_, dp_nil⟩) (fun _ _ _ _ _ => ⟨_, (de_callK C_law_put_in hk hn hgd (hr.mono (by omega)) (by rfl) (da_cons (dv 2) (da_cons (dv 1) da_nil)))⟩)) da_nil)) da_nil))))) ds_nil)
      (ds_last (ds_ret (dv 0))))))⟩
def T_law_made_of  : DTs := (dSeq (dAsgO (dLstO dNil) 3)
  (dSeq (dForS (iT (dVar 0)) (gN 4) (dSeq (dAsg (dOp (rdInP false) (dVar 4) (dVar 2)) (gN 5))
  (dSeq (dIfS (dB (dDIn false (dVar 4) (dVar 1))) (dAsg (dCall (S_holds 3) (dCons (dDGet (dVar 1) (dVar 4)) (dCons (dVar 2) dNil))) (gN 5)) dNext)
  (dIfS (dB (dVar 5)) (dAppendS 3 (dVar 4)) dNext))))
  (dFrz 3 (dRet (dCB rcTuple (dCons (dVar 3) dNil))))))
set_option maxHeartbeats 4000000 in
theorem w_law_made_of  (B : Blt mg) (hS : SysIn K) (C_holds : CallD P w K mg 4 "holds" ["condition", "answers"] (S_holds 3)) : WalkD P w K mg ["_law_asks", "_law_told", "_law_answers", "_law_found", "_law_name", "_law_is_yes"] "_law_made_of" s__law_made_of (4) (T_law_made_of) :=
  fun base f cdv A outer s H E hX hgd hr => by
    have hk : K.In base := hX.kin
    have hn : base.Ns mainGlobals mg := hX.ns
    exact ⟨_, (ds_cons (ds_setLst (i := 3) sc__law_made_of.nd rfl (Or.inl rfl) da_nil)
      (ds_cons (ds_for PassesOwn.never rfl (di_tup (dv 0)) (dg_name (i := 4) sc__law_made_of.nd rfl (Or.inl rfl)) (ds_cons (ds_set (i := 5) sc__law_made_of.nd rfl (Or.inl rfl) (de_cmp (op_inP hr.units) en_inP (dv 4) (dv 2) rfl))
      (ds_cons (ds_if (dq_din (hu1 hr) (dv 4) (dv 1)) (ds_last (ds_set (i := 5) sc__law_made_of.nd rfl (Or.inl rfl) (de_callK C_holds hk hn hgd (hr.mono (by omega)) (by rfl) (da_cons (de_dget (hu1 hr) (dv 1) (dv 4)) (da_cons (dv 2) da_nil))))) ds_nil)
      (ds_last (ds_if (dq_val (dv 5)) (ds_last (ds_appendS (i := 3) (pv 3) (dv 4))) ds_nil)))))
      (dss_frz (i := 3) (ds_last (ds_ret (de_callTy call_tuple_of en_tuple (by rfl) B.b_tuple (by decide +kernel) (da_cons (dv 3) da_nil)))))))⟩
def T_law_dict  : DTs := (dSeq (dAsgO (dLcO (iT (dVar 1)) (gN 4) (dB (dOp rdGt (dCall STake (dCons (dVar 0) (dCons (dC (.int 3)) dNil))) (dC (.int 0)))) (dTup (dCons (dVar 4) (dCons (dCall (S_cond 2) (dCons (dVar 0) (dCons (dVar 1) (dCons (dVar 2) dNil)))) dNil))) [4]) 3)
  (dSeq (dIfS (dAnd (dB (dOp (rdEqP false) (dCall STake (dCons (dVar 0) (dCons (dC (.int 3)) dNil))) (dC (.int 0)))) (dAnd (dB (dOp (rdInP true) (dC (.str "other")) (dVar 1))) (dB (dOp rdLt (dCB rcLen (dCons (dVar 1) dNil)) (dC (.int 4)))))) (dAppendS 3 (dTup (dCons (dC (.str "other")) (dCons (dCall (S_cond 2) (dCons (dVar 0) (dCons (dVar 1) (dCons (dVar 2) dNil)))) dNil)))) dNext)
  (dFrz 3 (dRet (dCB rcDictP (dCons (dCall S_law_mixed (dCons (dVar 0) (dCons (dVar 3) dNil))) dNil))))))
set_option maxHeartbeats 4000000 in
theorem w_law_dict  (B : Blt mg) (hS : SysIn K) (C_law_take : CallD P w K mg 1 "_law_take" ["_law_bag_here", "_law_many"] STake) (C_law_condition : CallD P w K mg 4 "_law_condition" ["_law_bag_here", "_law_asks", "_law_deep"] (S_cond 2)) (C_law_mixed : CallD P w K mg 2 "_law_mixed" ["_law_bag_here", "_law_things"] S_law_mixed) : WalkD P w K mg ["_law_bag_here", "_law_asks", "_law_deep", "_law_found", "_law_name"] "_law_dict" s__law_dict (4) (T_law_dict) :=
  fun base f cdv A outer s H E hX hgd hr => by
    have hk : K.In base := hX.kin
    have hn : base.Ns mainGlobals mg := hX.ns
    exact ⟨_, (ds_cons (ds_setLcOE (i := 3) (own := [("_law_name", 4)]) rfl sc__law_dict.nd rfl rfl (sw_true rfl rfl rfl (by decide +kernel)) (di_tup (dv 1)) (blkOk_by (own := [("_law_name", 4)]) (N := ["_law_bag_here", "_law_asks", "_law_deep", "_law_found", "_law_name"]) (sc := defScope s__law_dict) (by decide +kernel)) (fun _ _ _ _ _ => (dg_name (i := 4) sc__law_dict.nd rfl (Or.inl rfl))) (gw_name (by decide)) (fun _ _ _ _ _ => ⟨_, (dp_one (dq_cmp op_gt en_gt (de_callK C_law_take hk hn hgd (hr.mono (by omega)) (by rfl) (da_cons (dv 0) (da_cons de_int da_nil))) de_int (nomark _)))⟩) (fun _ _ _ _ _ => ⟨_, (de_tup (da_cons (dv 4) (da_cons (de_callK C_law_condition hk hn hgd (hr.mono (by omega)) (by rfl) (da_cons (dv 0) (da_cons (dv 1) (da_cons (dv 2) da_nil)))) da_nil)))⟩))
      (ds_cons (ds_if (DW.toQ (dw_and (dq_cmp (op_eqP hr.units) en_eqP (de_callK C_law_take hk hn hgd (hr.mono (by omega)) (by rfl) (da_cons (dv 0) (da_cons de_int da_nil))) de_int (nomark _)) (dw_and (dq_cmp (op_notInP hr.units) en_inP de_str (dv 1) rfl) (dw_and1 (dq_cmp op_lt en_lt (de_callB call_len en_len (by rfl) B.b_len (by decide +kernel) (da_cons (dv 1) da_nil)) de_int (nomark _)))))) (ds_last (ds_appendS (i := 3) (pv 3) (de_tup (da_cons de_str (da_cons (de_callK C_law_condition hk hn hgd (hr.mono (by omega)) (by rfl) (da_cons (dv 0) (da_cons (dv 1) (da_cons (dv 2) da_nil)))) da_nil))))) ds_nil)
      (dss_frz (i := 3) (ds_last (ds_ret (de_callTy (call_dictP rfl) en_dictP (by rfl) B.b_dict (by decide +kernel) (da_cons (de_callK C_law_mixed hk hn hgd (hr.mono (by omega)) (by rfl) (da_cons (dv 0) (da_cons (dv 3) da_nil))) da_nil)))))))⟩
def T_law : DTs := (dSeq (dForS (iR (dCons (dC (.int 6)) dNil)) (gN 2) (dSeq (dAsg (dCall S_law_names (dCons (dVar 1) (dCons (dCall STake (dCons (dVar 1) (dCons (dC (.int 5)) dNil))) dNil))) (gN 3))
  (dSeq (dAsg (dIf (dB (dOp rdGt (dCall STake (dCons (dVar 1) (dCons (dC (.int 4)) dNil))) (dC (.int 0)))) (dCall (S_cond 2) (dCons (dVar 1) (dCons (dVar 3) (dCons (dC (.int 1)) dNil)))) (dCall S_law_wide (dCons (dVar 1) (dCons (dVar 3) dNil)))) (gN 4))
  (dSeq (dPar 5 6 (dCons (dCall S_law_dict (dCons (dVar 1) (dCons (dVar 3) (dCons (dC (.int 1)) dNil)))) (dCons (dCall S_law_dict (dCons (dVar 1) (dCons (dVar 3) (dCons (dC (.int 0)) dNil)))) dNil)))
  (dSeq (dAsg (dCB rcRepr (dCons (dLst (dCons (dVar 4) (dCons (dVar 5) dNil))) dNil)) (gN 7))
  (dSeq (dForS (iR (dCons (dC (.int 2)) dNil)) (gN 8) (dSeq (dAsg (dCall (S_put 3) (dCons (dVar 4) (dCons (dVar 5) dNil))) (gN 9))
  (dIfS (dOr (dNot (dB (dCall S_law_alike (dCons (dVar 9) (dCons (dCall (S_put 3) (dCons (dVar 4) (dCons (dVar 5) dNil))) dNil))))) (dB (dOp (rdEqP true) (dCB rcRepr (dCons (dLst (dCons (dVar 4) (dCons (dVar 5) dNil))) dNil)) (dVar 7)))) (dRet (dC (.bl false))) dNext)))
  (dSeq (dForS (iL (dCall S_law_all_answers (dCons (dVar 3) dNil))) (gN 10) (dIfS (dNot (dB (dCall S_law_alike (dCons (dCall (S_holds 3) (dCons (dVar 9) (dCons (dVar 10) dNil))) (dCons (dCall (S_holds 3) (dCons (dVar 4) (dCons (dCall S_law_made_of (dCons (dVar 3) (dCons (dVar 5) (dCons (dVar 10) dNil)))) dNil))) dNil))))) (dRet (dC (.bl false))) dNext))
  (dSeq (dIfS (dOr (dB (dOp (rdEqP true) (dLc (iT (dCall (S_asks_in 3) (dCons (dVar 9) dNil))) (gN 12) (dB (dOp (rdInP true) (dVar 12) (dVar 3))) (dVar 12) [12]) (dLst dNil))) (dB (dOp (rdEqP true) (dCall (S_put 3) (dCons (dVar 4) (dCons dDNew dNil))) (dVar 4)))) (dRet (dC (.bl false))) dNext)
  (dSeq (dAsgOD (dDictD (dCons (dVar 6) dNil)) 11)
  (dSeq (dForS (iK (dVar 5)) (gN 12) (dDPut 11 (dVar 12) (dCall (S_put 3) (dCons (dDGet (dVar 5) (dVar 12)) (dCons (dVar 6) dNil)))))
  (dFrz 11 (dIfS (dB (dOp (rdEqP true) (dCall (S_put 3) (dCons (dVar 9) (dCons (dVar 6) dNil))) (dCall (S_put 3) (dCons (dVar 4) (dCons (dVar 11) dNil))))) (dRet (dC (.bl false))) dNext))))))))))))
  (dRet (dC (.bl true))))
set_option maxHeartbeats 4000000 in
theorem c_law (B : Blt mg) (hS : SysIn K) (C_bag : CallS P w K mg 1 "_law_bag" ["_law_script"] (spBag K)) (C_law_take : CallD P w K mg 1 "_law_take" ["_law_bag_here", "_law_many"] STake) (C_law_names : CallD P w K mg 2 "_law_names" ["_law_bag_here", "_law_many"] S_law_names) (C_law_condition : CallD P w K mg 4 "_law_condition" ["_law_bag_here", "_law_asks", "_law_deep"] (S_cond 2)) (C_law_wide : CallD P w K mg 4 "_law_wide" ["_law_bag_here", "_law_asks"] S_law_wide) (C_law_dict : CallD P w K mg 5 "_law_dict" ["_law_bag_here", "_law_asks", "_law_deep"] S_law_dict) (C_put_in : CallD P w K mg 4 "put_in" ["condition", "told"] (S_put 3)) (C_law_put_in : CallD P w K mg 4 "_law_put_in" ["_law_condition_here", "_law_told"] (S_put 3)) (C_law_alike : CallD P w K mg 2 "_law_alike" ["_law_found", "_law_due"] S_law_alike) (C_law_all_answers : CallD P w K mg 2 "_law_all_answers" ["_law_asks"] S_law_all_answers) (C_holds : CallD P w K mg 4 "holds" ["condition", "answers"] (S_holds 3)) (C_law_made_of : CallD P w K mg 5 "_law_made_of" ["_law_asks", "_law_told", "_law_answers"] S_law_made_of) (C_asks_in : CallD P w K mg 5 "asks_in" ["condition"] (S_asks_in 3)) (ht : T_law lawE (lawS 11)) {f : Addr} {fd : FuncData} (F : FnP K "law" s_law f fd) : ∀ base : Heap, K.In base → base.Ns mainGlobals mg → FnG P w K mg base 6 f fd ["_law_script"] (spLaw K) :=
  fnS F sc_law (fun vs H Q E ⟨_, _, e, _⟩ => by rw [e]; rfl) fun base cdv A outer s H E hX hgd hr => by
    have hk : K.In base := hX.kin
    have hn : base.Ns mainGlobals mg := hX.ns
    have rest := (show DSs (cxOf CX0 P w K mg base ["_law_script", "_law_bag_here", "_law_turn", "_law_asks", "_law_condition_here", "_law_told", "_law_later", "_law_kept", "_law_again", "_law_found", "_law_answers", "_law_both", "_law_name"] "law" (defScope s_law) f cdv A outer s H E).nox (defBody s_law).tail _ T_law from (ds_cons (ds_for PassesOwn.never rfl (di_range (by rfl) B.b_range (da_cons de_int da_nil)) (dg_name (i := 2) sc_law.nd rfl (Or.inl rfl)) (ds_cons (ds_set (i := 3) sc_law.nd rfl (Or.inr rfl) (de_callK C_law_names hk hn hgd (hr.mono (by omega)) (by rfl) (da_cons (dv 1) (da_cons (de_callK C_law_take hk hn hgd (hr.mono (by omega)) (by rfl) (da_cons (dv 1) (da_cons de_int da_nil))) da_nil))))
      (ds_cons (ds_set (i := 4) sc_law.nd rfl (Or.inl rfl) (de_if (dq_cmp op_gt en_gt (de_callK C_law_take hk hn hgd (hr.mono (by omega)) (by rfl) (da_cons (dv 1) (da_cons de_int da_nil))) de_int (nomark _)) (de_callK C_law_condition hk hn hgd (hr.mono (by omega)) (by rfl) (da_cons (dv 1) (da_cons (dv 3) (da_cons de_int da_nil)))) (de_callK C_law_wide hk hn hgd (hr.mono (by omega)) (by rfl) (da_cons (dv 1) (da_cons (dv 3) da_nil)))))
      (ds_cons (ds_par (i := 5) (j := 6) rfl sc_law.nd rfl rfl (by decide) rfl rfl (da_cons (de_callK C_law_dict hk hn hgd (hr.mono (by omega)) (by rfl) (da_cons (dv 1) (da_cons (dv 3) (da_cons de_int da_nil)))) (da_cons (de_callK C_law_dict hk hn hgd (hr.mono (by omega)) (by rfl) (da_cons (dv 1) (da_cons (dv 3) (da_cons de_int da_nil)))) da_nil)))
      (ds_cons (ds_set (i := 7) sc_law.nd rfl (Or.inl rfl) (de_callB (cr_repr hS hgd hr.units) en_repr (by rfl) B.b_repr (by decide +kernel) (da_cons (de_lst (da_cons (dv 4) (da_cons (dv 5) da_nil))) da_nil)))
      (ds_cons (ds_for PassesOwn.never rfl (di_range (by rfl) B.b_range (da_cons de_int da_nil)) (dg_name (i := 8) sc_law.nd rfl (Or.inl rfl)) (ds_cons (ds_set (i := 9) sc_law.nd rfl (Or.inl rfl) (de_callK C_put_in hk hn hgd (hr.mono (by omega)) (by rfl) (da_cons (dv 4) (da_cons (dv 5) da_nil))))
      (ds_last (ds_if (DW.toQ (dw_or (dq_not (dq_val (de_callK C_law_alike hk hn hgd (hr.mono (by omega)) (by rfl) (da_cons (dv 9) (da_cons (de_callK C_law_put_in hk hn hgd (hr.mono (by omega)) (by rfl) (da_cons (dv 4) (da_cons (dv 5) da_nil))) da_nil))))) (dw_or1 (dq_cmp (op_neP hr.units) en_eqP (de_callB (cr_repr hS hgd hr.units) en_repr (by rfl) B.b_repr (by decide +kernel) (da_cons (de_lst (da_cons (dv 4) (da_cons (dv 5) da_nil))) da_nil)) (dv 7) (nomark _))))) (ds_last (ds_ret de_bl)) ds_nil))))
      (ds_cons (ds_for PassesOwn.never rfl (di_list (de_callK C_law_all_answers hk hn hgd (hr.mono (by omega)) (by rfl) (da_cons (dv 3) da_nil))) (dg_name (i := 10) sc_law.nd rfl (Or.inl rfl)) (ds_last (ds_if (dq_not (dq_val (de_callK C_law_alike hk hn hgd (hr.mono (by omega)) (by rfl) (da_cons (de_callK C_holds hk hn hgd (hr.mono (by omega)) (by rfl) (da_cons (dv 9) (da_cons (dv 10) da_nil))) (da_cons (de_callK C_holds hk hn hgd (hr.mono (by omega)) (by rfl) (da_cons (dv 4) (da_cons (de_callK C_law_made_of hk hn hgd (hr.mono (by omega)) (by rfl) (da_cons (dv 3) (da_cons (dv 5) (da_cons (dv 10) da_nil)))) da_nil))) da_nil))))) (ds_last (ds_ret de_bl)) ds_nil)))
      (ds_cons (ds_if (DW.toQ (dw_or (dq_cmp (op_neP hr.units) en_eqP (de_lcE (own := [("_law_name", 12)]) rfl sc_law.nd  (di_tup (de_callK C_asks_in hk hn hgd (hr.mono (by omega)) (by rfl) (da_cons (dv 9) da_nil))) (blkOk_by (own := [("_law_name", 12)]) (N := ["_law_script", "_law_bag_here", "_law_turn", "_law_asks", "_law_condition_here", "_law_told", "_law_later", "_law_kept", "_law_again", "_law_found", "_law_answers", "_law_both", "_law_name"]) (sc := defScope s_law) (by decide +kernel)) (fun _ _ _ _ _ => (dg_name (i := 12) sc_law.nd rfl (Or.inl rfl))) (gw_name (by decide)) (fun _ _ _ _ _ => ⟨_, (dp_one (dq_cmp (op_notInP hr.units) en_inP (dv 12) (dv 3) rfl))⟩) (fun _ _ _ _ _ => ⟨_, (dv 12)⟩)) (de_lst da_nil) (nomark _)) (dw_or1 (dq_cmp (op_neP hr.units) en_eqP (de_callK C_put_in hk hn hgd (hr.mono (by omega)) (by rfl) (da_cons (dv 4) (da_cons de_dnew da_nil))) (dv 4) (nomark _))))) (ds_last (ds_ret de_bl)) ds_nil)
      (ds_cons (ds_setDictD (i := 11) sc_law.nd rfl (Or.inl rfl) (by rfl) B.b_dict (da_cons (dv 6) da_nil))
      (ds_cons (ds_forK (i := 5) PassesOwn.never rfl (pv 5) (dg_name (i := 12) sc_law.nd rfl (Or.inl rfl)) (ds_last (ds_dput (i := 11) (hu1 hr) (pv 11) (dv 12) (de_callK C_put_in hk hn hgd (hr.mono (by omega)) (by rfl) (da_cons (de_dget (hu1 hr) (dv 5) (dv 12)) (da_cons (dv 6) da_nil))))))
      (dss_frz (i := 11) (ds_last (ds_if (dq_cmp (op_neP hr.units) en_eqP (de_callK C_put_in hk hn hgd (hr.mono (by omega)) (by rfl) (da_cons (dv 9) (da_cons (dv 6) da_nil))) (de_callK C_put_in hk hn hgd (hr.mono (by omega)) (by rfl) (da_cons (dv 4) (da_cons (dv 11) da_nil))) (nomark _)) (ds_last (ds_ret de_bl)) ds_nil)))))))))))))
      (ds_last (ds_ret de_bl))))
    exact ⟨_, PSs.nox (pss_cons (ps_set (i := 1) sc_law.nd rfl (Or.inl rfl) (pe_callS C_bag ⟨rfl, rfl, rfl, rfl, hk, hn⟩ hgd (hr.mono (by omega)) (by rfl) (pa_cons (pv 0) pa_nil))) (DSs.pss (t := T_law) rest)), fun vs Q h => read_law rfl rest.en ht h⟩
end
end K13
/-! Law k13: the readings. -/
namespace K13
open PySem PySem.Spec PyProof.Rows L2 DL
theorem w1 : ("yes" : Str) ≠ "no" := by decide +kernel
theorem w2 : ("yes" : Str) ≠ "ask" := by decide +kernel
theorem w3 : ("yes" : Str) ≠ "not" := by decide +kernel
theorem w4 : ("yes" : Str) ≠ "all" := by decide +kernel
theorem w5 : ("yes" : Str) ≠ "any" := by decide +kernel
theorem w6 : ("no" : Str) ≠ "ask" := by decide +kernel
theorem w7 : ("no" : Str) ≠ "not" := by decide +kernel
theorem w8 : ("no" : Str) ≠ "all" := by decide +kernel
theorem w9 : ("no" : Str) ≠ "any" := by decide +kernel
theorem w10 : ("ask" : Str) ≠ "not" := by decide +kernel
theorem w11 : ("ask" : Str) ≠ "all" := by decide +kernel
theorem w12 : ("ask" : Str) ≠ "any" := by decide +kernel
theorem w13 : ("not" : Str) ≠ "all" := by decide +kernel
theorem w14 : ("not" : Str) ≠ "any" := by decide +kernel
theorem w15 : ("all" : Str) ≠ "any" := by decide +kernel
theorem sz (n : Nat) (h : n ≤ 100000) : n ≤ sizeLine := by rw [sizeLine_eq]; omega
theorem at0 (x : D) (xs : List D) : atD (.tup (x :: xs)) 0 = some x := by
  show L2.atI (x :: xs) 0 = some x
  exact L2.atI_nat (j := 0) rfl
theorem at1 (x y : D) (xs : List D) : atD (.tup (x :: y :: xs)) 1 = some y := by
  show L2.atI (x :: y :: xs) 1 = some y
  exact L2.atI_nat (j := 1) rfl
theorem atL0 (x : D) (xs : List D) : atD (.list (x :: xs)) 0 = some x := by
  show L2.atI (x :: xs) 0 = some x
  exact L2.atI_nat (j := 0) rfl
theorem shs (x : Str) : shq (.str x) ↔ True := ⟨fun _ => trivial, fun _ => shq_str x⟩
theorem shi (x : Int) : shq (.int x) ↔ True := ⟨fun _ => trivial, fun _ => shq_int x⟩
theorem pl2 (x y : Str) : plainAll [.str x, .str y] = true := rfl
theorem in2 (x y z : Str) : inD (.str x) [.str y, .str z] = (decide (y = x) || decide (z = x)) := by
  unfold inD
  rw [List.any_cons, List.any_cons, List.any_nil, eqD_str, eqD_str, Bool.or_false]
theorem below_ok (ds : List DV) (Q : DV → Prop) (h : S_below ds Q) : T_below (retE Q) (startD ["condition"] ds) := by
  obtain ⟨c, rfl, hq⟩ := h
  cases c with
  | cst b => cases b <;> simp [T_below, enc, below, dSeq, dIfS, dB, dOp, dVar, dC, dNil, dCons, dTup, dLst, dRet, dNext, dIf, dCB, dCall, dAnd, dOr, dNot, dAndV, dOrV, dNotV, dAsg, gN, dPar, dSl, dNoPart, dPart, rdAdd, rdSub, rdMul, rdMod, rdLt, rdLe, rdGt, rdGe, rdI0, rdI, rdAddS, rdCatT, rdCatL, rdSlL, rdSlS, rdIx, rdEqP, rdInP, rc1, rcList, rcTuple, rcLen, rcInt, rcRepr, rcSortD, rcDictP, asD, seqOf, lenD, isOwn, retE, startD, gTupD, gsCons, gsNil, dDGet, dDIn, dDGet2, dDNew, keyOfD, dForS, dFrz, frz, dAppendS, dAppend, dInsert, dLenO, dAsgO, dLstO, dAsgOD, dDictD, dDPut, iL, iT, iR, iK, dLc, dLcO, wipeD, STake, shs, shi, pl2, in2, eqD_str, eqD_int, at0, at1, atL0, sz, w1, w2, w3, w4, w5, w6, w7, w8, w9, w10, w11, w12, w13, w14, w15, w1.symm, w2.symm, w3.symm, w4.symm, w5.symm, w6.symm, w7.symm, w8.symm, w9.symm, w10.symm, w11.symm, w12.symm, w13.symm, w14.symm, w15.symm] at hq ⊢ <;> exact hq
  | ask n => simp [T_below, enc, below, dSeq, dIfS, dB, dOp, dVar, dC, dNil, dCons, dTup, dLst, dRet, dNext, dIf, dCB, dCall, dAnd, dOr, dNot, dAndV, dOrV, dNotV, dAsg, gN, dPar, dSl, dNoPart, dPart, rdAdd, rdSub, rdMul, rdMod, rdLt, rdLe, rdGt, rdGe, rdI0, rdI, rdAddS, rdCatT, rdCatL, rdSlL, rdSlS, rdIx, rdEqP, rdInP, rc1, rcList, rcTuple, rcLen, rcInt, rcRepr, rcSortD, rcDictP, asD, seqOf, lenD, isOwn, retE, startD, gTupD, gsCons, gsNil, dDGet, dDIn, dDGet2, dDNew, keyOfD, dForS, dFrz, frz, dAppendS, dAppend, dInsert, dLenO, dAsgO, dLstO, dAsgOD, dDictD, dDPut, iL, iT, iR, iK, dLc, dLcO, wipeD, STake, shs, shi, pl2, in2, eqD_str, eqD_int, at0, at1, atL0, sz, w1, w2, w3, w4, w5, w6, w7, w8, w9, w10, w11, w12, w13, w14, w15, w1.symm, w2.symm, w3.symm, w4.symm, w5.symm, w6.symm, w7.symm, w8.symm, w9.symm, w10.symm, w11.symm, w12.symm, w13.symm, w14.symm, w15.symm] at hq ⊢; exact hq
  | neg c => simp [T_below, enc, below, dSeq, dIfS, dB, dOp, dVar, dC, dNil, dCons, dTup, dLst, dRet, dNext, dIf, dCB, dCall, dAnd, dOr, dNot, dAndV, dOrV, dNotV, dAsg, gN, dPar, dSl, dNoPart, dPart, rdAdd, rdSub, rdMul, rdMod, rdLt, rdLe, rdGt, rdGe, rdI0, rdI, rdAddS, rdCatT, rdCatL, rdSlL, rdSlS, rdIx, rdEqP, rdInP, rc1, rcList, rcTuple, rcLen, rcInt, rcRepr, rcSortD, rcDictP, asD, seqOf, lenD, isOwn, retE, startD, gTupD, gsCons, gsNil, dDGet, dDIn, dDGet2, dDNew, keyOfD, dForS, dFrz, frz, dAppendS, dAppend, dInsert, dLenO, dAsgO, dLstO, dAsgOD, dDictD, dDPut, iL, iT, iR, iK, dLc, dLcO, wipeD, STake, shs, shi, pl2, in2, eqD_str, eqD_int, at0, at1, atL0, sz, w1, w2, w3, w4, w5, w6, w7, w8, w9, w10, w11, w12, w13, w14, w15, w1.symm, w2.symm, w3.symm, w4.symm, w5.symm, w6.symm, w7.symm, w8.symm, w9.symm, w10.symm, w11.symm, w12.symm, w13.symm, w14.symm, w15.symm] at hq ⊢; exact hq
  | many al cs => cases al <;> simp [T_below, enc, encs_map, below, dSeq, dIfS, dB, dOp, dVar, dC, dNil, dCons, dTup, dLst, dRet, dNext, dIf, dCB, dCall, dAnd, dOr, dNot, dAndV, dOrV, dNotV, dAsg, gN, dPar, dSl, dNoPart, dPart, rdAdd, rdSub, rdMul, rdMod, rdLt, rdLe, rdGt, rdGe, rdI0, rdI, rdAddS, rdCatT, rdCatL, rdSlL, rdSlS, rdIx, rdEqP, rdInP, rc1, rcList, rcTuple, rcLen, rcInt, rcRepr, rcSortD, rcDictP, asD, seqOf, lenD, isOwn, retE, startD, gTupD, gsCons, gsNil, dDGet, dDIn, dDGet2, dDNew, keyOfD, dForS, dFrz, frz, dAppendS, dAppend, dInsert, dLenO, dAsgO, dLstO, dAsgOD, dDictD, dDPut, iL, iT, iR, iK, dLc, dLcO, wipeD, STake, shs, shi, pl2, in2, eqD_str, eqD_int, at0, at1, atL0, sz, w1, w2, w3, w4, w5, w6, w7, w8, w9, w10, w11, w12, w13, w14, w15, w1.symm, w2.symm, w3.symm, w4.symm, w5.symm, w6.symm, w7.symm, w8.symm, w9.symm, w10.symm, w11.symm, w12.symm, w13.symm, w14.symm, w15.symm] at hq ⊢ <;> exact hq
theorem mono_below : Mono S_below := fun ds Q Q' h ⟨c, e, q⟩ => ⟨c, e, h _ q⟩
theorem mono_holds {k : Nat} : Mono (S_holds k) := fun ds Q Q' h ⟨c, a, e, h1, h2, q⟩ => ⟨c, a, e, h1, h2, h _ q⟩
theorem mono_asks {k : Nat} : Mono (S_asks_listed k) := fun ds Q Q' h ⟨c, e, h1, h2, q⟩ => ⟨c, e, h1, h2, h _ q⟩
theorem mono_asks_in {k : Nat} : Mono (S_asks_in k) := fun ds Q Q' h ⟨c, e, h1, h2, q⟩ => ⟨c, e, h1, h2, h _ q⟩
theorem mono_put {k : Nat} : Mono (S_put k) := fun ds Q Q' h ⟨c, t, e, h1, q⟩ => ⟨c, t, e, h1, h _ q⟩
theorem mono_alike : Mono S_law_alike := fun ds Q Q' h ⟨a, e, h1, h2, q⟩ => ⟨a, e, h1, h2, h _ q⟩
theorem mono_one : Mono S_law_one := fun ds Q Q' h ⟨a, e, h1, h2, q⟩ => ⟨a, e, h1, h2, fun x hx => h _ (q x hx)⟩
theorem mono_mixed : Mono S_law_mixed := fun ds Q Q' h ⟨a, e, h1, q⟩ => ⟨a, e, h1, fun x hx hy => h _ (q x hx hy)⟩
theorem mono_names : Mono S_law_names := fun ds Q Q' h ⟨a, e, h1, h2, q⟩ => ⟨a, e, h1, h2, fun x hx => h _ (q x hx)⟩
theorem mono_cond {k : Nat} : Mono (S_cond k) := fun ds Q Q' h ⟨a, d, e, h1, h2, q⟩ => ⟨a, d, e, h1, h2, fun x hx => h _ (q x hx)⟩
theorem mono_answers : Mono S_law_all_answers := fun ds Q Q' h ⟨a, e, h1, q⟩ => ⟨a, e, h1, fun x => h _ (q x)⟩
theorem mono_wide : Mono S_law_wide := fun ds Q Q' h ⟨a, e, h1, q⟩ => ⟨a, e, h1, fun x hx => h _ (q x hx)⟩
theorem mono_made : Mono S_law_made_of := fun ds Q Q' h ⟨a, t, n, e, h1, h2, q⟩ => ⟨a, t, n, e, h1, h2, h _ q⟩
theorem mono_dict : Mono S_law_dict := fun ds Q Q' h ⟨a, d, e, h1, h2, q⟩ => ⟨a, d, e, h1, h2, fun x hx => h _ (q x hx)⟩
/-! sizes -/
mutual
theorem asks_len : ∀ c : C, (asksOf c).length ≤ nodes c
  | .cst _ => by simp [asksOf]
  | .ask _ => by simp [asksOf, nodes]
  | .neg c => by rw [asksOf, nodes]; exact Nat.le_succ_of_le (asks_len c)
  | .many _ cs => by rw [asksOf, nodes]; exact Nat.le_succ_of_le (asks_lens cs)
theorem asks_lens : ∀ cs : List C, (asksOfs cs).length ≤ nodess cs
  | [] => by simp [asksOfs]
  | c :: cs => by
    rw [asksOfs, nodess, List.length_append]
    exact Nat.add_le_add (asks_len c) (asks_lens cs)
end
theorem nodes_mem : ∀ {cs : List C} {c : C}, c ∈ cs → nodes c ≤ nodess cs
  | [], _, h => nomatch h
  | c :: cs, x, h => by
    rw [nodess]
    rcases List.mem_cons.mp h with e | h
    · rw [e]; exact Nat.le_add_right _ _
    · exact Nat.le_trans (nodes_mem h) (Nat.le_add_left _ _)
theorem below_dp {c x : C} (h : x ∈ below c) : dp x < dp c := by
  cases c with
  | cst _ => cases h
  | ask _ => cases h
  | neg c => rw [List.mem_singleton.mp h, dp]; omega
  | many al cs => rw [dp]; have := dp_mem (show x ∈ cs from h); omega
theorem below_nodes {c x : C} (h : x ∈ below c) : nodes x ≤ nodes c := by
  cases c with
  | cst _ => cases h
  | ask _ => cases h
  | neg c => rw [List.mem_singleton.mp h, nodes]; omega
  | many al cs => rw [nodes]; have := nodes_mem (show x ∈ cs from h); omega
/-! holds -/
theorem holds_some {k : Nat} {c : C} {ans : List Str} {w : DV} {Q : DV → Prop} (hd : dp c < k + 1) (hn : nodes c ≤ 10000) (hq : Q (.d (.list ((below c).map fun c => .bl (holds ans c))))) :
    dLc (iL (dCall S_below (dCons (dVar 0) dNil))) (gN 4) dYes (dCall (S_holds k) (dCons (dVar 4) (dCons (dVar 1) dNil))) [4] [some (.d (enc c)), some (.d (.tup (names ans))), some w, none, none] Q := by
  refine ⟨_, rfl, rfl, c, rfl, _, rfl, ?_⟩
  refine lcGo_mapA enc (fun c => .bl (holds ans c)) (below c) [] (fun x hx Q' hq' => ?_) hq
  exact ⟨_, rfl, _, rfl, rfl, x, ans, rfl, by have := below_dp hx; omega, by have := below_nodes hx; omega, hq'⟩
theorem holds_ok {k : Nat} (ds : List DV) (Q : DV → Prop) (h : S_holds (k + 1) ds Q) : T_holds k (retE Q) (startD ["condition", "answers", "word", "some", "one"] ds) := by
  obtain ⟨c, ans, rfl, hd, hn, hq⟩ := h
  cases c with
  | cst b => cases b <;> simp [T_holds, enc, holds, dSeq, dIfS, dB, dOp, dVar, dC, dNil, dCons, dTup, dLst, dRet, dNext, dIf, dCB, dCall, dAnd, dOr, dNot, dAndV, dOrV, dNotV, dAsg, gN, dPar, dSl, dNoPart, dPart, rdAdd, rdSub, rdMul, rdMod, rdLt, rdLe, rdGt, rdGe, rdI0, rdI, rdAddS, rdCatT, rdCatL, rdSlL, rdSlS, rdIx, rdEqP, rdInP, rc1, rcList, rcTuple, rcLen, rcInt, rcRepr, rcSortD, rcDictP, asD, seqOf, lenD, isOwn, retE, startD, gTupD, gsCons, gsNil, dDGet, dDIn, dDGet2, dDNew, keyOfD, dForS, dFrz, frz, dAppendS, dAppend, dInsert, dLenO, dAsgO, dLstO, dAsgOD, dDictD, dDPut, iL, iT, iR, iK, dLc, dLcO, wipeD, STake, shs, shi, pl2, in2, eqD_str, eqD_int, at0, at1, atL0, sz, w1, w2, w3, w4, w5, w6, w7, w8, w9, w10, w11, w12, w13, w14, w15, w1.symm, w2.symm, w3.symm, w4.symm, w5.symm, w6.symm, w7.symm, w8.symm, w9.symm, w10.symm, w11.symm, w12.symm, w13.symm, w14.symm, w15.symm] at hq ⊢ <;> exact hq
  | ask n => simp [T_holds, enc, holds, dSeq, dIfS, dB, dOp, dVar, dC, dNil, dCons, dTup, dLst, dRet, dNext, dIf, dCB, dCall, dAnd, dOr, dNot, dAndV, dOrV, dNotV, dAsg, gN, dPar, dSl, dNoPart, dPart, rdAdd, rdSub, rdMul, rdMod, rdLt, rdLe, rdGt, rdGe, rdI0, rdI, rdAddS, rdCatT, rdCatL, rdSlL, rdSlS, rdIx, rdEqP, rdInP, rc1, rcList, rcTuple, rcLen, rcInt, rcRepr, rcSortD, rcDictP, asD, seqOf, lenD, isOwn, retE, startD, gTupD, gsCons, gsNil, dDGet, dDIn, dDGet2, dDNew, keyOfD, dForS, dFrz, frz, dAppendS, dAppend, dInsert, dLenO, dAsgO, dLstO, dAsgOD, dDictD, dDPut, iL, iT, iR, iK, dLc, dLcO, wipeD, STake, shs, shi, pl2, in2, eqD_str, eqD_int, at0, at1, atL0, sz, w1, w2, w3, w4, w5, w6, w7, w8, w9, w10, w11, w12, w13, w14, w15, w1.symm, w2.symm, w3.symm, w4.symm, w5.symm, w6.symm, w7.symm, w8.symm, w9.symm, w10.symm, w11.symm, w12.symm, w13.symm, w14.symm, w15.symm, inD_strs, plainAll_strs] at hq ⊢; exact hq
  | neg c =>
    have key := @holds_some k (.neg c) ans (.d (.str "not"))
    simp [T_holds, enc, holds, below, dSeq, dIfS, dB, dOp, dVar, dC, dRet, dNext, dTup, dCons, dNil, asD, dAsg, gN, rdIx, rdEqP, rdInP, seqOf, startD, retE, dNotV, dIf, shs, shi, pl2, in2, eqD_str, eqD_int, at0, at1, atL0, sz, w1, w2, w3, w4, w5, w6, w7, w8, w9, w10, w11, w12, w13, w14, w15, w1.symm, w2.symm, w3.symm, w4.symm, w5.symm, w6.symm, w7.symm, w8.symm, w9.symm, w10.symm, w11.symm, w12.symm, w13.symm, w14.symm, w15.symm] at hq key ⊢
    refine key hd hn ⟨_, rfl, _, atL0 _ _, ?_⟩
    cases e : holds ans c
    · rw [e] at hq; exact .inl ⟨rfl, hq⟩
    · rw [e] at hq; exact .inr ⟨rfl, hq⟩
  | many al cs =>
    cases al
    · have key := @holds_some k (.many false cs) ans (.d (.str "any"))
      simp [T_holds, enc, holds, below, dSeq, dIfS, dB, dOp, dVar, dC, dRet, dNext, dTup, dCons, dNil, asD, dAsg, gN, rdIx, rdEqP, rdInP, seqOf, startD, retE, dNotV, dIf, dCB, rcAny, rc1, shs, shi, pl2, in2, eqD_str, eqD_int, at0, at1, atL0, sz, w1, w2, w3, w4, w5, w6, w7, w8, w9, w10, w11, w12, w13, w14, w15, w1.symm, w2.symm, w3.symm, w4.symm, w5.symm, w6.symm, w7.symm, w8.symm, w9.symm, w10.symm, w11.symm, w12.symm, w13.symm, w14.symm, w15.symm] at hq key ⊢
      exact key hd hn ⟨_, rfl, cs.map (holds ans), by simp, by rw [← holdss_map]; exact hq⟩
    · have key := @holds_some k (.many true cs) ans (.d (.str "all"))
      simp [T_holds, enc, holds, below, dSeq, dIfS, dB, dOp, dVar, dC, dRet, dNext, dTup, dCons, dNil, asD, dAsg, gN, rdIx, rdEqP, rdInP, seqOf, startD, retE, dNotV, dIf, dCB, rcAll, rc1, shs, shi, pl2, in2, eqD_str, eqD_int, at0, at1, atL0, sz, w1, w2, w3, w4, w5, w6, w7, w8, w9, w10, w11, w12, w13, w14, w15, w1.symm, w2.symm, w3.symm, w4.symm, w5.symm, w6.symm, w7.symm, w8.symm, w9.symm, w10.symm, w11.symm, w12.symm, w13.symm, w14.symm, w15.symm] at hq key ⊢
      exact key hd hn ⟨_, rfl, cs.map (holds ans), by simp, by rw [← holdss_map]; exact hq⟩
/-! asks -/
theorem asksOfs_flat : ∀ cs : List C, asksOfs cs = cs.flatMap asksOf
  | [] => rfl
  | c :: cs => by rw [asksOfs, asksOfs_flat cs]; rfl
theorem below_asks (c : C) (h : ∀ n, c ≠ .ask n) : (below c).flatMap asksOf = asksOf c := by
  cases c with
  | cst _ => rfl
  | ask n => exact absurd rfl (h n)
  | neg c => simp [below, asksOf]
  | many al cs => simp [below, asksOf, asksOfs_flat]
theorem names_flat (l : List C) : (l.flatMap fun c => names (asksOf c)) = names (l.flatMap asksOf) := by
  induction l with
  | nil => rfl
  | cons c l ih => rw [List.flatMap_cons, List.flatMap_cons, ih, names, names, names, List.map_append]
theorem asks_some {k : Nat} {c : C} {Q : DV → Prop} (hc : ∀ n, c ≠ .ask n) (hd : dp c < k + 1) (hn : nodes c ≤ 10000) (hq : Q (.d (.list (names (asksOf c))))) :
    dLc2 (iL (dCall S_below (dCons (dVar 0) dNil))) (gN 1) dYes (iL (dCall (S_asks_listed k) (dCons (dVar 1) dNil))) (gN 2) dYes (dVar 2) [1, 2] [2] [some (.d (enc c)), none, none] Q := by
  refine ⟨_, rfl, rfl, c, rfl, _, rfl, ?_⟩
  refine lc2Go_flatA enc (fun c => names (asksOf c)) (below c) [] (fun x hx Q' hq' => ?_) (fun x hx y hy Q' hq' => ?_) ?_ ?_
  · exact ⟨_, rfl, rfl, x, rfl, by have := below_dp hx; omega, by have := below_nodes hx; omega, _, rfl, hq'⟩
  · exact ⟨_, rfl, hq'⟩
  · rw [names_flat, below_asks c hc]
    have := asks_len c
    rw [List.length_nil, List.length_map]
    exact sz _ (by omega)
  · rw [names_flat, below_asks c hc]
    exact hq
theorem asks_listed_ok {k : Nat} (ds : List DV) (Q : DV → Prop) (h : S_asks_listed (k + 1) ds Q) : T_asks_listed k (retE Q) (startD ["condition", "one", "name"] ds) := by
  obtain ⟨c, rfl, hd, hn, hq⟩ := h
  cases c with
  | cst b =>
    have key := @asks_some k (.cst b) Q (fun n e => by cases e) hd hn hq
    cases b <;> simp [T_asks_listed, enc, dSeq, dIfS, dB, dOp, dVar, dC, dRet, dNext, rdIx, rdEqP, startD, retE, shs, shi, pl2, in2, eqD_str, eqD_int, at0, at1, atL0, sz, w1, w2, w3, w4, w5, w6, w7, w8, w9, w10, w11, w12, w13, w14, w15, w1.symm, w2.symm, w3.symm, w4.symm, w5.symm, w6.symm, w7.symm, w8.symm, w9.symm, w10.symm, w11.symm, w12.symm, w13.symm, w14.symm, w15.symm] at key ⊢ <;> exact key
  | ask n => simp [T_asks_listed, enc, asksOf, names, dSeq, dIfS, dB, dOp, dVar, dC, dNil, dCons, dTup, dLst, dRet, dNext, dIf, dCB, dCall, dAnd, dOr, dNot, dAndV, dOrV, dNotV, dAsg, gN, dPar, dSl, dNoPart, dPart, rdAdd, rdSub, rdMul, rdMod, rdLt, rdLe, rdGt, rdGe, rdI0, rdI, rdAddS, rdCatT, rdCatL, rdSlL, rdSlS, rdIx, rdEqP, rdInP, rc1, rcList, rcTuple, rcLen, rcInt, rcRepr, rcSortD, rcDictP, asD, seqOf, lenD, isOwn, retE, startD, gTupD, gsCons, gsNil, dDGet, dDIn, dDGet2, dDNew, keyOfD, dForS, dFrz, frz, dAppendS, dAppend, dInsert, dLenO, dAsgO, dLstO, dAsgOD, dDictD, dDPut, iL, iT, iR, iK, dLc, dLcO, wipeD, STake, shs, shi, pl2, in2, eqD_str, eqD_int, at0, at1, atL0, sz, w1, w2, w3, w4, w5, w6, w7, w8, w9, w10, w11, w12, w13, w14, w15, w1.symm, w2.symm, w3.symm, w4.symm, w5.symm, w6.symm, w7.symm, w8.symm, w9.symm, w10.symm, w11.symm, w12.symm, w13.symm, w14.symm, w15.symm] at hq ⊢; exact hq
  | neg c =>
    have key := @asks_some k (.neg c) Q (fun n e => by cases e) hd hn hq
    simp [T_asks_listed, enc, dSeq, dIfS, dB, dOp, dVar, dC, dRet, dNext, rdIx, rdEqP, startD, retE, shs, shi, pl2, in2, eqD_str, eqD_int, at0, at1, atL0, sz, w1, w2, w3, w4, w5, w6, w7, w8, w9, w10, w11, w12, w13, w14, w15, w1.symm, w2.symm, w3.symm, w4.symm, w5.symm, w6.symm, w7.symm, w8.symm, w9.symm, w10.symm, w11.symm, w12.symm, w13.symm, w14.symm, w15.symm] at key ⊢
    exact key
  | many al cs =>
    have key := @asks_some k (.many al cs) Q (fun n e => by cases e) hd hn hq
    cases al <;> simp [T_asks_listed, enc, dSeq, dIfS, dB, dOp, dVar, dC, dRet, dNext, rdIx, rdEqP, startD, retE, shs, shi, pl2, in2, eqD_str, eqD_int, at0, at1, atL0, sz, w1, w2, w3, w4, w5, w6, w7, w8, w9, w10, w11, w12, w13, w14, w15, w1.symm, w2.symm, w3.symm, w4.symm, w5.symm, w6.symm, w7.symm, w8.symm, w9.symm, w10.symm, w11.symm, w12.symm, w13.symm, w14.symm, w15.symm] at key ⊢ <;> exact key
theorem asks_in_ok {k : Nat} (ds : List DV) (Q : DV → Prop) (h : S_asks_in k ds Q) : T_asks_in k (retE Q) (startD ["condition"] ds) := by
  obtain ⟨c, rfl, hd, hn, hq⟩ := h
  have := asks_len c
  exact ⟨_, rfl, rfl, c, rfl, hd, by omega, _, _, _, rfl, rfl, strsOf_of _, by omega, _, rfl, _, rfl, hq⟩
/-! put_in -/
theorem val_encT (n : Str) : ∀ t : Tl, valD (encT t) (.inr n) = (tl t n).map enc
  | [] => rfl
  | (m, c) :: t => by
    have ih := val_encT n t
    unfold valD tl encT at *
    rw [List.map_cons, List.find?_cons, List.find?_cons]
    by_cases h : m = n
    · subst h
      simp
    · have h2 : ¬ ((Sum.inr m : Key) = Sum.inr n) := fun e => h (Sum.inr.inj e)
      simp only [decide_eq_false h, decide_eq_false h2]
      exact ih
theorem put_many {k : Nat} {cs : List C} {t : Tl} {w : Str} {o : Option DV} {Q : DV → Prop} (hd : ∀ c ∈ cs, dp c < k) (hq : Q (.d (.list (cs.map fun c => enc (putIn t c))))) :
    dLc (iT (dOp rdIx (dVar 0) (dC (.int 1)))) (gN 3) dYes (dCall (S_put k) (dCons (dVar 3) (dCons (dVar 1) dNil))) [3] [some (.d (.tup [.str w, .tup (cs.map enc)])), some (.d (.dict (encT t))), o, none] Q := by
  refine ⟨_, rfl, _, _, rfl, rfl, _, _, rfl, at1 _ _ _, _, rfl, ?_⟩
  refine lcGo_mapA enc (fun c => enc (putIn t c)) cs [] (fun x hx Q' hq' => ?_) hq
  exact ⟨_, rfl, _, rfl, rfl, x, t, rfl, hd x hx, hq'⟩
theorem put_in_ok {k : Nat} (ds : List DV) (Q : DV → Prop) (h : S_put (k + 1) ds Q) : T_put_in k (retE Q) (startD ["condition", "told", "word", "one"] ds) := by
  obtain ⟨c, t, rfl, hd, hq⟩ := h
  cases c with
  | cst b => cases b <;> simp [T_put_in, enc, putIn, dSeq, dIfS, dB, dOp, dVar, dC, dNil, dCons, dTup, dLst, dRet, dNext, dIf, dCB, dCall, dAnd, dOr, dNot, dAndV, dOrV, dNotV, dAsg, gN, dPar, dSl, dNoPart, dPart, rdAdd, rdSub, rdMul, rdMod, rdLt, rdLe, rdGt, rdGe, rdI0, rdI, rdAddS, rdCatT, rdCatL, rdSlL, rdSlS, rdIx, rdEqP, rdInP, rc1, rcList, rcTuple, rcLen, rcInt, rcRepr, rcSortD, rcDictP, asD, seqOf, lenD, isOwn, retE, startD, gTupD, gsCons, gsNil, dDGet, dDIn, dDGet2, dDNew, keyOfD, dForS, dFrz, frz, dAppendS, dAppend, dInsert, dLenO, dAsgO, dLstO, dAsgOD, dDictD, dDPut, iL, iT, iR, iK, dLc, dLcO, wipeD, STake, shs, shi, pl2, in2, eqD_str, eqD_int, at0, at1, atL0, sz, w1, w2, w3, w4, w5, w6, w7, w8, w9, w10, w11, w12, w13, w14, w15, w1.symm, w2.symm, w3.symm, w4.symm, w5.symm, w6.symm, w7.symm, w8.symm, w9.symm, w10.symm, w11.symm, w12.symm, w13.symm, w14.symm, w15.symm] at hq ⊢ <;> exact hq
  | ask n =>
    rw [putIn] at hq
    cases e : tl t n with
    | none =>
      rw [e] at hq
      simp [T_put_in, enc, val_encT, e, dSeq, dIfS, dB, dOp, dVar, dC, dNil, dCons, dTup, dLst, dRet, dNext, dIf, dCB, dCall, dAnd, dOr, dNot, dAndV, dOrV, dNotV, dAsg, gN, dPar, dSl, dNoPart, dPart, rdAdd, rdSub, rdMul, rdMod, rdLt, rdLe, rdGt, rdGe, rdI0, rdI, rdAddS, rdCatT, rdCatL, rdSlL, rdSlS, rdIx, rdEqP, rdInP, rc1, rcList, rcTuple, rcLen, rcInt, rcRepr, rcSortD, rcDictP, asD, seqOf, lenD, isOwn, retE, startD, gTupD, gsCons, gsNil, dDGet, dDIn, dDGet2, dDNew, keyOfD, dForS, dFrz, frz, dAppendS, dAppend, dInsert, dLenO, dAsgO, dLstO, dAsgOD, dDictD, dDPut, iL, iT, iR, iK, dLc, dLcO, wipeD, STake, shs, shi, pl2, in2, eqD_str, eqD_int, at0, at1, atL0, sz, w1, w2, w3, w4, w5, w6, w7, w8, w9, w10, w11, w12, w13, w14, w15, w1.symm, w2.symm, w3.symm, w4.symm, w5.symm, w6.symm, w7.symm, w8.symm, w9.symm, w10.symm, w11.symm, w12.symm, w13.symm, w14.symm, w15.symm] at hq ⊢
      exact hq
    | some c =>
      rw [e] at hq
      simp [T_put_in, enc, val_encT, e, dSeq, dIfS, dB, dOp, dVar, dC, dNil, dCons, dTup, dLst, dRet, dNext, dIf, dCB, dCall, dAnd, dOr, dNot, dAndV, dOrV, dNotV, dAsg, gN, dPar, dSl, dNoPart, dPart, rdAdd, rdSub, rdMul, rdMod, rdLt, rdLe, rdGt, rdGe, rdI0, rdI, rdAddS, rdCatT, rdCatL, rdSlL, rdSlS, rdIx, rdEqP, rdInP, rc1, rcList, rcTuple, rcLen, rcInt, rcRepr, rcSortD, rcDictP, asD, seqOf, lenD, isOwn, retE, startD, gTupD, gsCons, gsNil, dDGet, dDIn, dDGet2, dDNew, keyOfD, dForS, dFrz, frz, dAppendS, dAppend, dInsert, dLenO, dAsgO, dLstO, dAsgOD, dDictD, dDPut, iL, iT, iR, iK, dLc, dLcO, wipeD, STake, shs, shi, pl2, in2, eqD_str, eqD_int, at0, at1, atL0, sz, w1, w2, w3, w4, w5, w6, w7, w8, w9, w10, w11, w12, w13, w14, w15, w1.symm, w2.symm, w3.symm, w4.symm, w5.symm, w6.symm, w7.symm, w8.symm, w9.symm, w10.symm, w11.symm, w12.symm, w13.symm, w14.symm, w15.symm] at hq ⊢
      exact hq
  | neg c =>
    have h2 : S_put k [.d (enc c), .d (.dict (encT t))] fun x => x = .d (enc (putIn t c)) := ⟨c, t, rfl, by rw [dp] at hd; omega, rfl⟩
    simp [T_put_in, enc, putIn, dSeq, dIfS, dB, dOp, dVar, dC, dNil, dCons, dTup, dLst, dRet, dNext, dIf, dCB, dCall, dAnd, dOr, dNot, dAndV, dOrV, dNotV, dAsg, gN, dPar, dSl, dNoPart, dPart, rdAdd, rdSub, rdMul, rdMod, rdLt, rdLe, rdGt, rdGe, rdI0, rdI, rdAddS, rdCatT, rdCatL, rdSlL, rdSlS, rdIx, rdEqP, rdInP, rc1, rcList, rcTuple, rcLen, rcInt, rcRepr, rcSortD, rcDictP, asD, seqOf, lenD, isOwn, retE, startD, gTupD, gsCons, gsNil, dDGet, dDIn, dDGet2, dDNew, keyOfD, dForS, dFrz, frz, dAppendS, dAppend, dInsert, dLenO, dAsgO, dLstO, dAsgOD, dDictD, dDPut, iL, iT, iR, iK, dLc, dLcO, wipeD, STake, shs, shi, pl2, in2, eqD_str, eqD_int, at0, at1, atL0, sz, w1, w2, w3, w4, w5, w6, w7, w8, w9, w10, w11, w12, w13, w14, w15, w1.symm, w2.symm, w3.symm, w4.symm, w5.symm, w6.symm, w7.symm, w8.symm, w9.symm, w10.symm, w11.symm, w12.symm, w13.symm, w14.symm, w15.symm] at hq ⊢
    exact mono_put _ _ _ (fun x e => by subst e; exact ⟨_, ⟨_, rfl, rfl⟩, sz 2 (by decide), hq⟩) h2
  | many al cs =>
    have hd' : ∀ c ∈ cs, dp c < k := fun c hc => by rw [dp] at hd; have := dp_mem hc; omega
    rw [putIn] at hq
    cases al
    · have key := @put_many k cs t "any" (some (.d (.str "any")))
      simp [T_put_in, enc, encs_map, putIns_map, dSeq, dIfS, dB, dOp, dVar, dC, dRet, dNext, dTup, dCons, dNil, asD, dAsg, gN, rdIx, rdEqP, rdInP, seqOf, startD, retE, dCB, rcTuple, rc1, shs, shi, pl2, in2, eqD_str, eqD_int, at0, at1, atL0, sz, w1, w2, w3, w4, w5, w6, w7, w8, w9, w10, w11, w12, w13, w14, w15, w1.symm, w2.symm, w3.symm, w4.symm, w5.symm, w6.symm, w7.symm, w8.symm, w9.symm, w10.symm, w11.symm, w12.symm, w13.symm, w14.symm, w15.symm] at hq key ⊢
      refine key hd' ?_
      simp
      exact hq
    · have key := @put_many k cs t "all" (some (.d (.str "all")))
      simp [T_put_in, enc, encs_map, putIns_map, dSeq, dIfS, dB, dOp, dVar, dC, dRet, dNext, dTup, dCons, dNil, asD, dAsg, gN, rdIx, rdEqP, rdInP, seqOf, startD, retE, dCB, rcTuple, rc1, shs, shi, pl2, in2, eqD_str, eqD_int, at0, at1, atL0, sz, w1, w2, w3, w4, w5, w6, w7, w8, w9, w10, w11, w12, w13, w14, w15, w1.symm, w2.symm, w3.symm, w4.symm, w5.symm, w6.symm, w7.symm, w8.symm, w9.symm, w10.symm, w11.symm, w12.symm, w13.symm, w14.symm, w15.symm] at hq key ⊢
      refine key hd' ?_
      simp
      exact hq
end K13
/-! Law k13: the readings of the law's own defs. -/
namespace K13
open PySem PySem.Spec PyProof.Rows L2 DL
theorem tk {δ : Sl} {n : Int} {Q : DV → Prop} (h0 : δ[0]? = some (some .bag)) (h1 : 0 < n) (h2 : n < 1073741824) (hq : ∀ r, 0 ≤ r → r < n → Q (.d (.int r))) : dCall STake (dCons (dVar 0) (dCons (dC (.int n)) dNil)) δ Q := ⟨_, h0, rfl, n, rfl, h1, h2, hq⟩
theorem frz_own {δ : Sl} {i : Nat} {ds : List D} (h : δ[i]? = some (some (.own ds))) (hz : ds.length ≤ sizeLine) : frz i δ = some (δ.set i (some (.d (.list ds)))) := by
  unfold frz
  rw [h]
  exact if_pos hz
theorem frz_ownD {δ : Sl} {i : Nat} {ds : List (Key × D)} (h : δ[i]? = some (some (.ownD ds))) (hz : ds.length ≤ sizeLine) : frz i δ = some (δ.set i (some (.d (.dict ds)))) := by
  unfold frz
  rw [h]
  exact if_pos hz
theorem alike_ok (ds : List DV) (Q : DV → Prop) (h : S_law_alike ds Q) : T_law_alike (retE Q) (startD ["_law_found", "_law_due"] ds) := by
  obtain ⟨a, rfl, hs, hw, hq⟩ := h
  refine ⟨_, rfl, _, rfl, a, a, rfl, rfl, hs, hs, _, rfl, ?_⟩
  show if eqD a a = true then _ else _
  rw [eqD_refl hs.1, if_pos rfl]
  refine ⟨_, rfl, _, rfl, hw, _, rfl, _, rfl, hw, _, _, rfl, rfl, shq_str _, shq_str _, ?_⟩
  show Q (.d (.bl (eqD (.str (shown a)) (.str (shown a)))))
  rw [eqD_refl rfl]
  exact hq
theorem at_mem {xs : List D} {r : Int} (h0 : 0 ≤ r) (h1 : r < (xs.length : Int)) : ∃ x, x ∈ xs ∧ L2.atI xs r = some x := by
  have h : r.toNat < xs.length := by omega
  refine ⟨xs[r.toNat], List.getElem_mem h, ?_⟩
  have e := atI_nat (xs := xs) (j := r.toNat) (v := xs[r.toNat]) (List.getElem?_eq_getElem h)
  rw [Int.toNat_of_nonneg h0] at e
  exact e
theorem one_ok (ds : List DV) (Q : DV → Prop) (h : S_law_one ds Q) : T_law_one (retE Q) (startD ["_law_bag_here", "_law_things"] ds) := by
  obtain ⟨xs, rfl, h1, h2, hq⟩ := h
  refine ⟨_, rfl, _, rfl, _, rfl, _, rfl, _, rfl, rfl, _, rfl, by omega, by omega, fun r r0 r1 => ?_⟩
  obtain ⟨x, hx, e⟩ := at_mem r0 r1
  exact ⟨_, _, rfl, rfl, r, x, rfl, e, hq x hx⟩
theorem mixed_ok (ds : List DV) (Q : DV → Prop) (h : S_law_mixed ds Q) : T_law_mixed (retE Q) (startD ["_law_bag_here", "_law_things", "_law_found", "_law_thing"] ds) := by
  obtain ⟨xs, rfl, h1, hq⟩ := h
  refine ⟨[], rfl, Nat.zero_le _, _, rfl, xs, rfl, ?_⟩
  refine for_inv (fun rest δ => ∃ found o, δ = [some .bag, some (.d (.list xs)), some (.own found), o] ∧ found.length + rest.length = xs.length ∧ (∀ y ∈ found, y ∈ xs) ∧ ∀ y ∈ rest, y ∈ xs) ?_ ?_ xs _ ⟨[], none, rfl, Nat.zero_add _, (fun _ h => nomatch h), fun _ h => h⟩
  · rintro x rest δ ⟨found, o, rfl, hl, hf, hr⟩ k hk
    rw [List.length_cons] at hl
    refine ⟨⟨found, rfl⟩, _, rfl, found, rfl, _, _, rfl, rfl, _, _, rfl, rfl, rfl, _, rfl, by omega, by omega, fun r r0 r1 => ⟨_, rfl, r, x, found, rfl, rfl, ?_, r0, by omega, hk _ ⟨found.take r.toNat ++ [x] ++ found.drop r.toNat, _, rfl, ?_, fun y hy => ?_, fun y hy => hr y (List.mem_cons_of_mem _ hy)⟩⟩⟩
    · rw [sizeLine_eq]; omega
    · rw [List.length_append, List.length_append, List.length_take, List.length_drop, List.length_singleton]
      omega
    · rcases List.mem_append.mp hy with hy | hy
      · rcases List.mem_append.mp hy with hy | hy
        · exact hf y (List.mem_of_mem_take hy)
        · rw [List.mem_singleton.mp hy]
          exact hr x List.mem_cons_self
      · exact hf y (List.mem_of_mem_drop hy)
  · rintro δ ⟨found, o, rfl, hl, hf, hr⟩
    have hz : found.length ≤ sizeLine := by rw [sizeLine_eq]; rw [List.length_nil] at hl; omega
    exact ⟨_, frz_own rfl hz, _, rfl, hq found (by simpa using hl) hf⟩
/-! put in by the law -/
theorem lput_many {k : Nat} {cs : List C} {t : Tl} {w : Str} {Q : DV → Prop} (hd : ∀ c ∈ cs, dp c < k) (hq : Q (.d (.list (cs.map fun c => enc (putIn t c))))) :
    dLc (iT (dOp rdIx (dVar 0) (dC (.int 1)))) (gN 2) dYes (dCall (S_put k) (dCons (dVar 2) (dCons (dVar 1) dNil))) [2] [some (.d (.tup [.str w, .tup (cs.map enc)])), some (.d (.dict (encT t))), none] Q := by
  refine ⟨_, rfl, _, _, rfl, rfl, _, _, rfl, at1 _ _ _, _, rfl, ?_⟩
  refine lcGo_mapA enc (fun c => enc (putIn t c)) cs [] (fun x hx Q' hq' => ?_) hq
  exact ⟨_, rfl, _, rfl, rfl, x, t, rfl, hd x hx, hq'⟩
theorem lput_ok {k : Nat} (ds : List DV) (Q : DV → Prop) (h : S_put (k + 1) ds Q) : T_law_put_in k (retE Q) (startD ["_law_condition_here", "_law_told", "_law_one_here"] ds) := by
  obtain ⟨c, t, rfl, hd, hq⟩ := h
  cases c with
  | cst b => cases b <;> simp [T_law_put_in, enc, putIn, dSeq, dIfS, dB, dOp, dVar, dC, dNil, dCons, dTup, dLst, dRet, dNext, dIf, dCB, dCall, dAnd, dOr, dNot, dAndV, dOrV, dNotV, dAsg, gN, dPar, dSl, dNoPart, dPart, rdAdd, rdSub, rdMul, rdMod, rdLt, rdLe, rdGt, rdGe, rdI0, rdI, rdAddS, rdCatT, rdCatL, rdSlL, rdSlS, rdIx, rdEqP, rdInP, rc1, rcList, rcTuple, rcLen, rcInt, rcRepr, rcSortD, rcDictP, asD, seqOf, lenD, isOwn, retE, startD, gTupD, gsCons, gsNil, dDGet, dDIn, dDGet2, dDNew, keyOfD, dForS, dFrz, frz, dAppendS, dAppend, dInsert, dLenO, dAsgO, dLstO, dAsgOD, dDictD, dDPut, iL, iT, iR, iK, dLc, dLcO, wipeD, STake, shs, shi, pl2, in2, eqD_str, eqD_int, at0, at1, atL0, sz, w1, w2, w3, w4, w5, w6, w7, w8, w9, w10, w11, w12, w13, w14, w15, w1.symm, w2.symm, w3.symm, w4.symm, w5.symm, w6.symm, w7.symm, w8.symm, w9.symm, w10.symm, w11.symm, w12.symm, w13.symm, w14.symm, w15.symm] at hq ⊢ <;> exact hq
  | ask n =>
    rw [putIn] at hq
    cases e : tl t n with
    | none =>
      rw [e] at hq
      simp [T_law_put_in, enc, val_encT, e, dSeq, dIfS, dB, dOp, dVar, dC, dNil, dCons, dTup, dLst, dRet, dNext, dIf, dCB, dCall, dAnd, dOr, dNot, dAndV, dOrV, dNotV, dAsg, gN, dPar, dSl, dNoPart, dPart, rdAdd, rdSub, rdMul, rdMod, rdLt, rdLe, rdGt, rdGe, rdI0, rdI, rdAddS, rdCatT, rdCatL, rdSlL, rdSlS, rdIx, rdEqP, rdInP, rc1, rcList, rcTuple, rcLen, rcInt, rcRepr, rcSortD, rcDictP, asD, seqOf, lenD, isOwn, retE, startD, gTupD, gsCons, gsNil, dDGet, dDIn, dDGet2, dDNew, keyOfD, dForS, dFrz, frz, dAppendS, dAppend, dInsert, dLenO, dAsgO, dLstO, dAsgOD, dDictD, dDPut, iL, iT, iR, iK, dLc, dLcO, wipeD, STake, shs, shi, pl2, in2, eqD_str, eqD_int, at0, at1, atL0, sz, w1, w2, w3, w4, w5, w6, w7, w8, w9, w10, w11, w12, w13, w14, w15, w1.symm, w2.symm, w3.symm, w4.symm, w5.symm, w6.symm, w7.symm, w8.symm, w9.symm, w10.symm, w11.symm, w12.symm, w13.symm, w14.symm, w15.symm] at hq ⊢
      exact hq
    | some c =>
      rw [e] at hq
      simp [T_law_put_in, enc, val_encT, e, dSeq, dIfS, dB, dOp, dVar, dC, dNil, dCons, dTup, dLst, dRet, dNext, dIf, dCB, dCall, dAnd, dOr, dNot, dAndV, dOrV, dNotV, dAsg, gN, dPar, dSl, dNoPart, dPart, rdAdd, rdSub, rdMul, rdMod, rdLt, rdLe, rdGt, rdGe, rdI0, rdI, rdAddS, rdCatT, rdCatL, rdSlL, rdSlS, rdIx, rdEqP, rdInP, rc1, rcList, rcTuple, rcLen, rcInt, rcRepr, rcSortD, rcDictP, asD, seqOf, lenD, isOwn, retE, startD, gTupD, gsCons, gsNil, dDGet, dDIn, dDGet2, dDNew, keyOfD, dForS, dFrz, frz, dAppendS, dAppend, dInsert, dLenO, dAsgO, dLstO, dAsgOD, dDictD, dDPut, iL, iT, iR, iK, dLc, dLcO, wipeD, STake, shs, shi, pl2, in2, eqD_str, eqD_int, at0, at1, atL0, sz, w1, w2, w3, w4, w5, w6, w7, w8, w9, w10, w11, w12, w13, w14, w15, w1.symm, w2.symm, w3.symm, w4.symm, w5.symm, w6.symm, w7.symm, w8.symm, w9.symm, w10.symm, w11.symm, w12.symm, w13.symm, w14.symm, w15.symm] at hq ⊢
      exact hq
  | neg c =>
    have h2 : S_put k [.d (enc c), .d (.dict (encT t))] fun x => x = .d (enc (putIn t c)) := ⟨c, t, rfl, by rw [dp] at hd; omega, rfl⟩
    simp [T_law_put_in, enc, putIn, dSeq, dIfS, dB, dOp, dVar, dC, dNil, dCons, dTup, dLst, dRet, dNext, dIf, dCB, dCall, dAnd, dOr, dNot, dAndV, dOrV, dNotV, dAsg, gN, dPar, dSl, dNoPart, dPart, rdAdd, rdSub, rdMul, rdMod, rdLt, rdLe, rdGt, rdGe, rdI0, rdI, rdAddS, rdCatT, rdCatL, rdSlL, rdSlS, rdIx, rdEqP, rdInP, rc1, rcList, rcTuple, rcLen, rcInt, rcRepr, rcSortD, rcDictP, asD, seqOf, lenD, isOwn, retE, startD, gTupD, gsCons, gsNil, dDGet, dDIn, dDGet2, dDNew, keyOfD, dForS, dFrz, frz, dAppendS, dAppend, dInsert, dLenO, dAsgO, dLstO, dAsgOD, dDictD, dDPut, iL, iT, iR, iK, dLc, dLcO, wipeD, STake, shs, shi, pl2, in2, eqD_str, eqD_int, at0, at1, atL0, sz, w1, w2, w3, w4, w5, w6, w7, w8, w9, w10, w11, w12, w13, w14, w15, w1.symm, w2.symm, w3.symm, w4.symm, w5.symm, w6.symm, w7.symm, w8.symm, w9.symm, w10.symm, w11.symm, w12.symm, w13.symm, w14.symm, w15.symm] at hq ⊢
    exact mono_put _ _ _ (fun x e => by subst e; exact ⟨_, ⟨_, rfl, rfl⟩, sz 2 (by decide), hq⟩) h2
  | many al cs =>
    have hd' : ∀ c ∈ cs, dp c < k := fun c hc => by rw [dp] at hd; have := dp_mem hc; omega
    rw [putIn] at hq
    cases al
    · have key := @lput_many k cs t "any"
      simp [T_law_put_in, enc, encs_map, putIns_map, dSeq, dIfS, dB, dOp, dVar, dC, dRet, dNext, dTup, dCons, dNil, asD, dAsg, gN, rdIx, rdEqP, rdInP, seqOf, startD, retE, dCB, rcTuple, rc1, shs, shi, pl2, in2, eqD_str, eqD_int, at0, at1, atL0, sz, w1, w2, w3, w4, w5, w6, w7, w8, w9, w10, w11, w12, w13, w14, w15, w1.symm, w2.symm, w3.symm, w4.symm, w5.symm, w6.symm, w7.symm, w8.symm, w9.symm, w10.symm, w11.symm, w12.symm, w13.symm, w14.symm, w15.symm] at hq key ⊢
      refine key hd' ?_
      simp
      exact hq
    · have key := @lput_many k cs t "all"
      simp [T_law_put_in, enc, encs_map, putIns_map, dSeq, dIfS, dB, dOp, dVar, dC, dRet, dNext, dTup, dCons, dNil, asD, dAsg, gN, rdIx, rdEqP, rdInP, seqOf, startD, retE, dCB, rcTuple, rc1, shs, shi, pl2, in2, eqD_str, eqD_int, at0, at1, atL0, sz, w1, w2, w3, w4, w5, w6, w7, w8, w9, w10, w11, w12, w13, w14, w15, w1.symm, w2.symm, w3.symm, w4.symm, w5.symm, w6.symm, w7.symm, w8.symm, w9.symm, w10.symm, w11.symm, w12.symm, w13.symm, w14.symm, w15.symm] at hq key ⊢
      refine key hd' ?_
      simp
      exact hq
/-! answers, made of -/
theorem made_ok (ds : List DV) (Q : DV → Prop) (h : S_law_made_of ds Q) : T_law_made_of (retE Q) (startD ["_law_asks", "_law_told", "_law_answers", "_law_found", "_law_name", "_law_is_yes"] ds) := by
  obtain ⟨asks, t, ans, rfl, hl, ht, hq⟩ := h
  refine ⟨[], rfl, Nat.zero_le _, _, rfl, names asks, rfl, ?_⟩
  refine for_inv (fun rest δ => ∃ done todo : List Str, ∃ o1 o2, asks = done ++ todo ∧ rest = names todo ∧ δ = [some (.d (.tup (names asks))), some (.d (.dict (encT t))), some (.d (.tup (names ans))), some (.own (names (madeOf done t ans))), o1, o2]) ?_ ?_ _ _ ⟨[], asks, none, none, rfl, rfl, rfl⟩
  · rintro x rest δ ⟨done, todo, o1, o2, e1, e2, rfl⟩ k hk
    cases todo with
    | nil => cases e2
    | cons n todo =>
      obtain ⟨rfl, rfl⟩ := List.cons.inj e2
      have fin : ∀ b : Bool, (match tl t n with | some c => holds ans c | none => decide (n ∈ ans)) = b → (dIfS (dB (dVar 5)) (dAppendS 3 (dVar 4)) dNext) { nx := k, rt := (retE Q).rt, bk := fun _ => False, ct := k } [some (.d (.tup (names asks))), some (.d (.dict (encT t))), some (.d (.tup (names ans))), some (.own (names (madeOf done t ans))), some (.d (.str n)), some (.d (.bl b))] := by
        intro b hb
        refine ⟨_, rfl, b, rfl, ?_⟩
        have hm : madeOf (done ++ [n]) t ans = madeOf done t ans ++ (if b = true then [n] else []) := by
          unfold madeOf
          rw [List.filter_append, ← hb]
          congr 1
          rw [List.filter_cons]
          rfl
        cases b with
        | true =>
          refine ⟨⟨_, rfl⟩, _, rfl, _, _, rfl, rfl, ?_, hk _ ⟨done ++ [n], todo, some (.d (.str n)), some (.d (.bl true)), by rw [e1, List.append_assoc]; rfl, rfl, ?_⟩⟩
          · have h1 : (madeOf done t ans).length ≤ done.length := List.length_filter_le _ _
            have h2 : asks.length = done.length + (todo.length + 1) := by rw [e1, List.length_append, List.length_cons]
            rw [sizeLine_eq, List.length_map]
            omega
          · rw [hm]; simp
        | false => exact hk _ ⟨done ++ [n], todo, some (.d (.str n)), some (.d (.bl false)), by rw [e1, List.append_assoc]; rfl, rfl, by rw [hm]; simp⟩
      refine ⟨_, rfl, _, rfl, _, _, rfl, rfl, names ans, rfl, shq_str n, plainAll_strs ans, _, rfl, ?_⟩
      refine ⟨_, rfl, _, rfl, _, _, _, rfl, rfl, rfl, _, rfl, ?_⟩
      show if (valD (encT t) (.inr n)).isSome = true then _ else _
      rw [val_encT]
      cases e : tl t n with
      | none =>
        refine fin (inD (.str n) (names ans)) ?_
        rw [e, inD_strs]
      | some c =>
        obtain ⟨kv, hkv, ekv⟩ : ∃ kv ∈ t, kv.2 = c := by
          unfold tl at e
          cases q : t.find? (fun kv => decide (kv.1 = n)) with
          | none => rw [q] at e; cases e
          | some kv => rw [q] at e; cases e; exact ⟨kv, List.mem_of_find?_eq_some q, rfl⟩
        have := ht kv hkv
        rw [ekv] at this
        refine ⟨_, rfl, _, rfl, _, _, _, _, rfl, rfl, rfl, (by rw [val_encT, e]; rfl), _, rfl, rfl, c, ans, rfl, this.1, this.2, _, rfl, ?_⟩
        exact fin (holds ans c) (by rw [e])
  · rintro δ ⟨done, todo, o1, o2, e1, e2, rfl⟩
    cases todo with
    | cons _ _ => cases e2
    | nil =>
      rw [List.append_nil] at e1
      subst e1
      have hz : (names (madeOf asks t ans)).length ≤ sizeLine := by
        have h1 : (madeOf asks t ans).length ≤ asks.length := List.length_filter_le _ _
        rw [sizeLine_eq, List.length_map]
        omega
      exact ⟨_, frz_own rfl hz, _, rfl, _, rfl, _, rfl, hq⟩
end K13
/-! Law k13: names, conditions, dicts as they are drawn. -/
namespace K13
open PySem PySem.Spec PyProof.Rows L2 DL
abbrev menuT : Str := "yes no ask not all any step row if while leave back call then else do"
theorem menu_len : (Txt.split menuT (" " : Str)).length = 16 := by decide +kernel
theorem menu_nm : ((Txt.split menuT (" " : Str)).all fun x => decide (x.length ≤ 8) && sgn x) = true := by decide +kernel
theorem abc_sgn : sgn "abcdefghijklmnopqrstuvwxyz" = true := by decide +kernel
theorem abc_len : (("abcdefghijklmnopqrstuvwxyz" : Str).length : Int) = 26 := by decide +kernel
theorem cut_upto (xs : List D) (n : Int) (h : 0 ≤ n) : ((cutD xs none (some n)).length : Int) ≤ n := by
  unfold DL.cutD
  rw [List.length_take, List.length_drop]
  simp only [HT.sIx]
  rw [if_neg (by omega)]
  omega
theorem at_str {z : Str} {r : Int} (h : z.length ≤ 1000) (h0 : 0 ≤ r) (h1 : r < (z.length : Int)) : ∃ c, atD (.str z) r = some (.str ⟨#[c]⟩) ∧ c ∈ z.cps.toList := by
  have hz : z.length ≤ sizeLine := sz _ (by omega)
  have h2 : r.toNat < z.cps.toList.length := by
    have : z.cps.toList.length = z.length := by simp [Str.length]
    omega
  refine ⟨z.cps.toList[r.toNat], ?_, List.getElem_mem h2⟩
  have e := atI_nat (xs := z.cps.toList) (j := r.toNat) (v := z.cps.toList[r.toNat]) (List.getElem?_eq_getElem h2)
  rw [Int.toNat_of_nonneg h0] at e
  show (if z.length ≤ sizeLine then (L2.atI z.cps.toList r).map (fun c => D.str ⟨#[c]⟩) else none) = _
  rw [if_pos hz, e]
  rfl
theorem len_app (a b : Str) : (a ++ b).length = a.length + b.length := by
  show (Str.append a b).cps.size = _
  simp [Str.append, Str.length]
theorem names_fin {Q : DV → Prop} (hq : ∀ xs, Nms xs → Q (.d (.tup (names xs)))) (ds : List D) (hl : ds.length ≤ 4) (h : ∀ d ∈ ds, ∃ x, d = .str x ∧ nm x) : Q (.d (.tup ds)) := by
  obtain ⟨l, rfl, hp⟩ := asMap D.str nm ds h
  exact hq l ⟨by simpa using hl, hp⟩
theorem srt_of (ds : List D) (h : ∀ d ∈ ds, ∃ x, d = .str x ∧ nm x) : Srt ds := by
  obtain ⟨l, rfl, hp⟩ := asMap D.str nm ds h
  exact srt_strs l
theorem names_ok (ds : List DV) (Q : DV → Prop) (h : S_law_names ds Q) : T_law_names (retE Q) (startD ["_law_bag_here", "_law_many", "_law_menu", "_law_way", "_law_turn", "_law_letters", "_law_stem", "_law_k"] ds) := by
  obtain ⟨n, rfl, n0, n1, hq⟩ := h
  have menu : ∀ d ∈ names (Txt.split menuT (" " : Str)), ∃ x, d = .str x ∧ nm x := fun d hd => by
    obtain ⟨x, hx, rfl⟩ := List.mem_map.mp hd
    obtain ⟨h1, h2⟩ := Bool.and_eq_true_iff.mp (List.all_eq_true.mp menu_nm x hx)
    exact ⟨x, rfl, of_decide_eq_true h1, h2⟩
  refine ⟨⟨_, rfl⟩, _, _, rfl, rfl, by decide +kernel, sz _ (by decide +kernel), (by rw [menu_len]; exact sz _ (by decide)), _, rfl, ?_⟩
  refine tk rfl (by decide) (by decide) fun way a0 a1 => tk rfl (by decide) (by decide) fun turn b0 b1 => ⟨_, rfl, sz 2 (by decide), _, rfl, _, rfl, rfl, _, _, rfl, _, _, rfl, rfl, ?_⟩
  refine ⟨_, rfl, _, _, rfl, rfl, shq_int _, shq_int _, _, rfl, ?_⟩
  show if eqD (.int way) (.int 0) = true then _ else _
  rw [eqD_int]
  by_cases hw : way = 0
  · rw [decide_eq_true hw, if_pos rfl]
    have key : ∀ d ∈ cutD (cutD (names (Txt.split menuT (" " : Str))) (some turn) none ++ cutD (names (Txt.split menuT (" " : Str))) none (some turn)) none (some n), ∃ x, d = .str x ∧ nm x := fun d hd => by
      rcases List.mem_append.mp (cutD_mem hd) with h | h
      · exact menu d (cutD_mem h)
      · exact menu d (cutD_mem h)
    have hz : (cutD (names (Txt.split menuT (" " : Str))) (some turn) none).length + (cutD (names (Txt.split menuT (" " : Str))) none (some turn)).length ≤ sizeLine := by
      have h1 := cutD_len (names (Txt.split menuT (" " : Str))) (some turn) none
      have h2 := cutD_len (names (Txt.split menuT (" " : Str))) none (some turn)
      rw [List.length_map, menu_len] at h1 h2
      exact sz _ (by omega)
    refine ⟨_, rfl, _, rfl, turn, rfl, _, rfl, _, rfl, _, rfl, _, rfl, turn, rfl, _, rfl, _, rfl, _, _, rfl, rfl, _, _, rfl, rfl, hz, _, rfl, n, rfl, _, rfl, _, rfl, _, rfl, _, rfl, srt_of _ key, _, rfl, _, rfl, ?_⟩
    refine names_fin hq _ ?_ fun d hd => key d (sortD_mem hd)
    rw [sortD_len]
    exact Int.ofNat_le.mp (Int.le_trans (cut_upto _ n n0) n1)
  · rw [decide_eq_false hw]
    refine ⟨_, rfl, _, _, rfl, rfl, shq_int _, shq_int _, _, rfl, ?_⟩
    show if eqD (.int way) (.int 1) = true then _ else _
    rw [eqD_int]
    by_cases hw1 : way = 1
    · rw [decide_eq_true hw1, if_pos rfl]
      refine ⟨_, rfl, n, rfl, n0, by omega, ?_⟩
      refine lcGo_all (R := fun _ y => ∃ x, y = .str x ∧ nm x) _ [] (fun x hx Q' h => ?_) fun ys hl hr => ?_
      · obtain ⟨i, hi, rfl⟩ := List.mem_map.mp hx
        exact ⟨_, rfl, _, _, rfl, rfl, _, _, rfl, rfl, _, rfl, _, rfl, _, rfl, sz _ (by decide +kernel), h _ ⟨_, rfl, Nat.le_trans (cutS_length _ _ _) (by decide +kernel), sgn_cut _ _ (by decide +kernel)⟩⟩
      · refine ⟨_, rfl, _, rfl, names_fin hq _ ?_ fun d hd => ?_⟩
        · rw [List.nil_append, hl, List.length_map, List.length_range]
          omega
        · obtain ⟨j, hj, rfl⟩ := List.getElem_of_mem hd
          have hj' : j < ys.length := by simpa using hj
          have hj2 : j < ((List.range n.toNat).map fun (i : Nat) => D.int i).length := by rw [← hl]; exact hj'
          exact hr j _ _ (List.getElem?_eq_getElem hj2) (List.getElem?_eq_getElem hj')
    · rw [decide_eq_false hw1]
      refine ⟨_, rfl, ?_⟩
      obtain ⟨c, hc, hcm⟩ := at_str (z := "abcdefghijklmnopqrstuvwxyz") (r := turn) (by decide +kernel) b0 (by rw [abc_len]; omega)
      obtain ⟨stem, hs, hl, hsg⟩ : ∃ stem : Str, atD (.list [.str "", .str "", .str ⟨#[c]⟩, .str "zzzzzzz"]) (way - 1) = some (.str stem) ∧ stem.length ≤ 7 ∧ sgn stem = true := by
        have : way = 2 ∨ way = 3 ∨ way = 4 := by omega
        rcases this with rfl | rfl | rfl
        · exact ⟨"", rfl, by decide +kernel, by decide +kernel⟩
        · exact ⟨_, rfl, (show (1 : Nat) ≤ 7 by decide), sgn_one abc_sgn hcm⟩
        · exact ⟨"zzzzzzz", rfl, by decide +kernel, by decide +kernel⟩
      refine ⟨_, rfl, _, rfl, _, _, rfl, rfl, _, _, rfl, hc, _, rfl, sz 4 (by decide), _, rfl, _, _, rfl, rfl, _, _, rfl, rfl, _, _, rfl, rfl, _, _, rfl, hs, _, rfl, ?_⟩
      refine ⟨_, rfl, n, rfl, n0, by omega, ?_⟩
      refine lcGo_all (R := fun _ y => ∃ x, y = .str x ∧ nm x) _ [] (fun x hx Q' h => ?_) fun ys hl' hr => ?_
      · obtain ⟨i, hi, rfl⟩ := List.mem_map.mp hx
        have m0 : 0 ≤ (turn + 3 * (i : Int)) % 26 := Int.emod_nonneg _ (by decide)
        have m1 : (turn + 3 * (i : Int)) % 26 < 26 := Int.emod_lt_of_pos _ (by decide)
        obtain ⟨c2, hc2, hcm2⟩ := at_str (z := "abcdefghijklmnopqrstuvwxyz") (r := (turn + 3 * (i : Int)) % 26) (by decide +kernel) m0 (by rw [abc_len]; exact m1)
        have h1 : stem.length + (⟨#[c2]⟩ : Str).length ≤ 8 := by
          have : (⟨#[c2]⟩ : Str).length = 1 := rfl
          omega
        refine ⟨_, rfl, _, rfl, _, rfl, _, rfl, _, _, rfl, rfl, _, _, rfl, rfl, Or.inl ⟨by decide, by decide⟩, _, _, rfl, rfl, _, _, rfl, rfl, _, rfl, _, rfl, _, _, rfl, rfl, _, _, rfl, rfl, (show (0 : Int) < 26 by decide), _, _, rfl, rfl, _, _, rfl, hc2, _, _, rfl, rfl, _, _, rfl, rfl, sz _ (by omega), h _ ⟨_, rfl, ?_, sgn_app hsg (sgn_one abc_sgn hcm2)⟩⟩
        show (stem ++ (⟨#[c2]⟩ : Str)).length ≤ 8
        rw [len_app]
        exact h1
      · have key : ∀ d ∈ ([] ++ ys), ∃ x, d = .str x ∧ nm x := fun d hd => by
          obtain ⟨j, hj, rfl⟩ := List.getElem_of_mem hd
          have hj' : j < ys.length := by simpa using hj
          have hj2 : j < ((List.range n.toNat).map fun (i : Nat) => D.int i).length := by rw [← hl']; exact hj'
          exact hr j _ _ (List.getElem?_eq_getElem hj2) (List.getElem?_eq_getElem hj')
        refine ⟨_, rfl, _, rfl, srt_of _ key, _, rfl, _, rfl, names_fin hq _ ?_ fun d hd => key d (sortD_mem hd)⟩
        rw [sortD_len, List.nil_append, hl', List.length_map, List.length_range]
        omega
end K13
/-! Law k13: conditions, answers, dicts as they are drawn. -/
namespace K13
open PySem PySem.Spec PyProof.Rows L2 DL PySem.SeqAt PySem.W
theorem dep_names : ∀ xs : List Str, PyData.depthAll (pyAll (names xs)) = 0
  | [] => rfl
  | x :: xs => by
    show max (PyData.depth (.str x)) (PyData.depthAll (pyAll (names xs))) = 0
    rw [dep_names xs]; rfl
theorem shq_names (xs : List Str) : shq (.tup (names xs)) := by
  refine ⟨plainAll_strs xs, ?_⟩
  show PyData.depthAll (pyAll (names xs)) + 1 ≤ 60
  rw [dep_names]
  omega
theorem eq_nil (xs : List Str) : eqD (.tup (names xs)) (.tup []) = xs.isEmpty := by
  cases xs with
  | nil => rfl
  | cons x xs => rfl
theorem nodess_le {B : Nat} : ∀ cs : List C, (∀ c ∈ cs, nodes c ≤ B) → nodess cs ≤ cs.length * B
  | [], _ => Nat.zero_le _
  | c :: cs, h => by
    rw [nodess, List.length_cons, Nat.succ_mul]
    have h1 := h c List.mem_cons_self
    have h2 := nodess_le cs fun x hx => h x (List.mem_cons_of_mem _ hx)
    omega
theorem dps_le {B : Nat} : ∀ cs : List C, (∀ c ∈ cs, dp c ≤ B) → dps cs ≤ B
  | [], _ => Nat.zero_le _
  | c :: cs, h => by
    rw [dps]
    have h1 := h c List.mem_cons_self
    have h2 := dps_le cs fun x hx => h x (List.mem_cons_of_mem _ hx)
    omega
theorem asks_mem : ∀ {cs : List C} {x : Str}, x ∈ asksOfs cs → ∃ c ∈ cs, x ∈ asksOf c
  | [], _, h => nomatch h
  | c :: cs, x, h => by
    rw [asksOfs] at h
    rcases List.mem_append.mp h with h | h
    · exact ⟨c, List.mem_cons_self, h⟩
    · obtain ⟨y, hy, hx⟩ := asks_mem h
      exact ⟨y, List.mem_cons_of_mem _ hy, hx⟩
theorem Of.cst (asks : List Str) (d : Nat) (b : Bool) : Of asks d (4 ^ d) (.cst b) := ⟨(fun x h => nomatch h), Nat.zero_le _, Nat.one_le_pow _ _ (by decide)⟩
theorem Of.ask {asks : List Str} {n : Str} (d : Nat) (h : n ∈ asks) : Of asks d (4 ^ d) (.ask n) := ⟨(fun x hx => by rw [asksOf] at hx; rw [List.mem_singleton.mp hx]; exact h), Nat.zero_le _, Nat.one_le_pow _ _ (by decide)⟩
theorem Of.neg {asks : List Str} {d : Nat} {c : C} (h : Of asks d (4 ^ d) c) : Of asks (d + 1) (4 ^ (d + 1)) (.neg c) := by
  refine ⟨fun x hx => h.sub x hx, ?_, ?_⟩
  · rw [K13.dp]; have := h.dp; omega
  · rw [nodes]
    have h1 := h.nd
    have h2 : 1 ≤ 4 ^ d := Nat.one_le_pow _ _ (by decide)
    rw [Nat.pow_succ]
    omega
theorem Of.many {asks : List Str} {d B : Nat} {al : Bool} {cs : List C} (h : ∀ c ∈ cs, Of asks d B c) : Of asks (d + 1) (cs.length * B + 1) (.many al cs) := by
  refine ⟨fun x hx => ?_, ?_, ?_⟩
  · rw [asksOf] at hx
    obtain ⟨c, hc, hx⟩ := asks_mem hx
    exact (h c hc).sub x hx
  · rw [K13.dp]; have := dps_le cs fun c hc => (h c hc).dp; omega
  · rw [nodes]; have := nodess_le cs fun c hc => (h c hc).nd; omega
theorem Of.le {asks : List Str} {d B B' : Nat} {c : C} (h : Of asks d B c) (l : B ≤ B') : Of asks d B' c := ⟨h.sub, h.dp, Nat.le_trans h.nd l⟩
theorem all_of {R : D → Prop} {xs ys : List D} (hl : ys.length = xs.length) (hr : ∀ (j : Nat) (x y : D), xs[j]? = some x → ys[j]? = some y → R y) : ∀ y ∈ ys, R y := fun y hy => by
  obtain ⟨j, hj, rfl⟩ := List.getElem_of_mem hy
  have hj2 : j < xs.length := by rw [← hl]; exact hj
  exact hr j _ _ (List.getElem?_eq_getElem hj2) (List.getElem?_eq_getElem hj)
theorem cond_ok {k : Nat} (ds : List DV) (Q : DV → Prop) (h : S_cond (k + 1) ds Q) : T_law_condition k (retE Q) (startD ["_law_bag_here", "_law_asks", "_law_deep", "_law_way", "_law_some", "_law_k"] ds) := by
  obtain ⟨asks, d, rfl, hl, hd, hq⟩ := h
  refine tk rfl (by decide) (by decide) fun way a0 a1 => ⟨_, rfl, ?_⟩
  have leaf : ∀ E : DEnds, E.rt = Q → (dSeq (dIfS (dOr (dB (dOp (rdEqP false) (dVar 3) (dC (.int 0)))) (dB (dOp (rdEqP false) (dVar 1) (dTup dNil)))) (dRet (dOp rdIx (dLst (dCons (dTup (dCons (dC (.str "yes")) dNil)) (dCons (dTup (dCons (dC (.str "no")) dNil)) dNil))) (dCall STake (dCons (dVar 0) (dCons (dC (.int 2)) dNil))))) dNext)
      (dRet (dTup (dCons (dC (.str "ask")) (dCons (dCall S_law_one (dCons (dVar 0) (dCons (dVar 1) dNil))) dNil))))) E [some .bag, some (.d (.tup (names asks))), some (.d (.int d)), some (.d (.int way)), none, none] := by
    intro E hE
    have yes : (dRet (dOp rdIx (dLst (dCons (dTup (dCons (dC (.str "yes")) dNil)) (dCons (dTup (dCons (dC (.str "no")) dNil)) dNil))) (dCall STake (dCons (dVar 0) (dCons (dC (.int 2)) dNil))))) E [some .bag, some (.d (.tup (names asks))), some (.d (.int d)), some (.d (.int way)), none, none] := by
      refine ⟨_, rfl, sz 1 (by decide), _, rfl, sz 1 (by decide), _, rfl, sz 2 (by decide), tk rfl (by decide) (by decide) fun r r0 r1 => ?_⟩
      rw [hE]
      have : r = 0 ∨ r = 1 := by omega
      rcases this with rfl | rfl
      · exact ⟨_, _, rfl, rfl, _, _, rfl, rfl, hq _ (Of.cst asks d true)⟩
      · exact ⟨_, _, rfl, rfl, _, _, rfl, rfl, hq _ (Of.cst asks d false)⟩
    refine ⟨_, rfl, _, _, rfl, rfl, shq_int _, shq_int _, _, rfl, ?_⟩
    by_cases hw : eqD (.int way) (.int 0) = true
    · show if eqD (.int way) (.int 0) = true then _ else _
      rw [if_pos hw]
      exact yes
    · show if eqD (.int way) (.int 0) = true then _ else _
      rw [if_neg hw]
      refine ⟨_, rfl, _, rfl, Nat.zero_le _, _, _, rfl, rfl, shq_names _, ⟨rfl, (show (1 : Nat) ≤ 60 by decide)⟩, _, rfl, ?_⟩
      show if eqD (.tup (names asks)) (.tup []) = true then _ else _
      rw [eq_nil]
      cases e : asks.isEmpty with
      | true => exact yes
      | false =>
        have hp : 0 < asks.length := by
          cases asks with
          | nil => cases e
          | cons _ _ => exact Nat.zero_lt_succ _
        refine ⟨_, rfl, _, rfl, rfl, names asks, rfl, by simpa using hp, by simpa using hl, fun x hx => ?_⟩
        obtain ⟨n, hn, rfl⟩ := List.mem_map.mp hx
        refine ⟨_, rfl, sz 2 (by decide), ?_⟩
        rw [hE]
        exact hq _ (Of.ask d hn)
  refine ⟨_, rfl, _, _, rfl, rfl, way, 5, rfl, rfl, _, rfl, ?_⟩
  by_cases h5 : way < 5
  · rw [decide_eq_true h5]
    exact leaf _ rfl
  · rw [decide_eq_false h5]
    refine ⟨_, rfl, _, _, rfl, rfl, _, 1, rfl, rfl, _, rfl, ?_⟩
    cases d with
    | zero => exact leaf _ rfl
    | succ d =>
      have hd1 : ¬ (((d + 1 : Nat) : Int) < 1) := by omega
      rw [decide_eq_false hd1]
      have hsub : ((d + 1 : Nat) : Int) - 1 = (d : Int) := by omega
      have rec_ : ∀ (δ : Sl) (Q' : DV → Prop), δ[0]? = some (some .bag) → δ[1]? = some (some (.d (.tup (names asks)))) → δ[2]? = some (some (.d (.int ((d + 1 : Nat) : Int)))) → (∀ c, Of asks d (4 ^ d) c → Q' (.d (enc c))) →
          dCall (S_cond k) (dCons (dVar 0) (dCons (dVar 1) (dCons (dOp rdSub (dVar 2) (dC (.int 1))) dNil))) δ Q' := by
        intro δ Q' e0 e1 e2 hq'
        refine ⟨_, e0, _, e1, _, e2, _, _, rfl, rfl, _, _, rfl, rfl, rfl, asks, d, ?_, hl, by omega, hq'⟩
        show [DV.bag, DV.d (.tup (names asks)), DV.d (.int (((d + 1 : Nat) : Int) - 1))] = _
        rw [hsub]
      refine ⟨_, rfl, _, _, rfl, rfl, way, 7, rfl, rfl, _, rfl, ?_⟩
      by_cases h7 : way < 7
      · rw [decide_eq_true h7]
        refine rec_ _ _ rfl rfl rfl fun c hc => ⟨_, rfl, sz 2 (by decide), hq _ (Of.neg hc)⟩
      · rw [decide_eq_false h7]
        refine tk rfl (by decide) (by decide) fun m m0 m1 => ⟨m, rfl, m0, by omega, ?_⟩
        refine lcGo_all (R := fun _ y => ∃ c, y = enc c ∧ Of asks d (4 ^ d) c) _ [] (fun x hx Q' h => rec_ _ _ rfl rfl rfl fun c hc => h _ ⟨c, rfl, hc⟩) fun ys hl' hr => ?_
        obtain ⟨cs, rfl, hcs⟩ := asMap enc (Of asks d (4 ^ d)) ys (all_of hl' hr)
        have hlen : cs.length ≤ 3 := by
          rw [List.length_map, List.length_map, List.length_range] at hl'
          omega
        have ofm : ∀ al, Of asks (d + 1) (4 ^ (d + 1)) (.many al cs) := fun al => (Of.many (al := al) hcs).le (by
          have h2 : 1 ≤ 4 ^ d := Nat.one_le_pow _ _ (by decide)
          have h3 : cs.length * 4 ^ d ≤ 3 * 4 ^ d := Nat.mul_le_mul_right _ hlen
          rw [Nat.pow_succ]
          omega)
        have e2 : ∀ al, enc (.many al cs) = .tup [.str (if al = true then "all" else "any"), .tup (cs.map enc)] := fun al => by cases al <;> rw [enc, encs_map] <;> rfl
        refine ⟨_, rfl, _, rfl, sz 2 (by decide), ?_⟩
        have hw : way = 7 ∨ way = 8 := by omega
        rcases hw with rfl | rfl
        · exact ⟨_, rfl, _, _, rfl, rfl, _, _, rfl, rfl, _, _, rfl, rfl, _, _, rfl, rfl, _, rfl, _, rfl, _, rfl, _, rfl, sz 2 (by decide), by have := hq _ (ofm true); rw [e2] at this; exact this⟩
        · exact ⟨_, rfl, _, _, rfl, rfl, _, _, rfl, rfl, _, _, rfl, rfl, _, _, rfl, rfl, _, rfl, _, rfl, _, rfl, _, rfl, sz 2 (by decide), by have := hq _ (ofm false); rw [e2] at this; exact this⟩
theorem enc_many (al : Bool) (cs : List C) : enc (.many al cs) = .tup [.str (if al = true then "all" else "any"), .tup (cs.map enc)] := by
  cases al <;> rw [enc, encs_map] <;> rfl
theorem wide_ok (ds : List DV) (Q : DV → Prop) (h : S_law_wide ds Q) : T_law_wide (retE Q) (startD ["_law_bag_here", "_law_asks", "_law_k"] ds) := by
  obtain ⟨asks, rfl, hl, hq⟩ := h
  have rest : ∀ al : Bool, (dCB rcTuple (dCons (dLc (iR (dCons (dCall STake (dCons (dVar 0) (dCons (dC (.int 16)) dNil))) dNil)) (gN 2) dYes (dCall (S_cond 1) (dCons (dVar 0) (dCons (dVar 1) (dCons (dC (.int 0)) dNil)))) [2]) dNil)) [some .bag, some (.d (.tup (names asks))), none] fun y => ∃ ds, asD [.d (.str (if al = true then "all" else "any")), y] = some ds ∧ ds.length ≤ sizeLine ∧ Q (.d (.tup ds)) := by
    intro al
    refine tk rfl (by decide) (by decide) fun m m0 m1 => ⟨m, rfl, m0, by omega, ?_⟩
    refine lcGo_all (R := fun _ y => ∃ c, y = enc c ∧ Of asks 0 (4 ^ 0) c) _ [] (fun x hx Q' h => ?_) fun ys hl' hr => ?_
    · exact ⟨_, rfl, _, rfl, rfl, asks, 0, rfl, hl, by decide, fun c hc => h _ ⟨c, rfl, hc⟩⟩
    · obtain ⟨cs, rfl, hcs⟩ := asMap enc (Of asks 0 (4 ^ 0)) ys (all_of hl' hr)
      have hlen : cs.length ≤ 15 := by
        rw [List.length_map, List.length_map, List.length_range] at hl'
        omega
      refine ⟨_, rfl, _, rfl, _, rfl, sz 2 (by decide), ?_⟩
      have h1 := hq (.many al cs) ((Of.many (al := al) hcs).le (by omega))
      rw [enc_many] at h1
      exact h1
  refine ⟨_, rfl, sz 2 (by decide), tk rfl (by decide) (by decide) fun r r0 r1 => ?_⟩
  have hr : r = 0 ∨ r = 1 := by omega
  rcases hr with rfl | rfl
  · exact ⟨_, _, rfl, rfl, _, _, rfl, rfl, rest true⟩
  · exact ⟨_, _, rfl, rfl, _, _, rfl, rfl, rest false⟩
/-! answers -/
abbrev tupN (a : List Str) : D := .tup (names a)
theorem pyAll_names (a : List Str) : pyAll (names a) = a.map PyData.str := by
  rw [pyAll_map, names, List.map_map]; rfl
theorem alike_names : ∀ a b : List Str, alikeAll (a.map PyData.str) (b.map PyData.str) = true
  | [], _ => by rw [List.map_nil, alikeAll]
  | _ :: _, [] => by rw [List.map_nil, List.map_cons, alikeAll]
  | x :: a, y :: b => by
    rw [List.map_cons, List.map_cons, alikeAll, alike_names a b]
    rfl
theorem noObj_names : ∀ a : List Str, noObjAll (names a) = true
  | [] => rfl
  | x :: a => by
    show (true && noObjAll (names a)) = true
    rw [noObj_names a]; rfl
theorem srt_tups (L : List (List Str)) : Srt (L.map tupN) := by
  have e : (L.map tupN).map py = L.map fun a => PyData.tuple (a.map PyData.str) := by
    rw [List.map_map]
    refine List.map_congr_left fun a _ => ?_
    show PyData.tuple (pyAll (names a)) = _
    rw [pyAll_names]
  refine ⟨?_, ?_, ?_, fun d hd => ?_⟩
  · clear e
    induction L with
    | nil => rfl
    | cons a L ih =>
      show (noObjAll (names a) && noObjAll (L.map tupN)) = true
      rw [noObj_names, ih]; rfl
  · rw [e]
    refine AllAlike.of fun a b => ?_
    rw [alike]
    exact alike_names a b
  · rw [e]
    refine .inr fun d hd => ?_
    obtain ⟨a, _, rfl⟩ := List.mem_map.mp hd
    exact ⟨_, rfl⟩
  · obtain ⟨a, _, rfl⟩ := List.mem_map.mp hd
    show PyData.depthAll (pyAll (names a)) + 1 ≤ 40
    rw [dep_names]
    omega
theorem answers_ok (ds : List DV) (Q : DV → Prop) (h : S_law_all_answers ds Q) : T_law_all_answers (retE Q) (startD ["_law_asks", "_law_found", "_law_name", "_law_one_here"] ds) := by
  obtain ⟨asks, rfl, hl, hq⟩ := h
  refine ⟨_, rfl, Nat.zero_le _, _, rfl, sz 1 (by decide), _, rfl, _, rfl, names asks, rfl, ?_⟩
  refine for_inv (fun rest δ => ∃ (todo : List Str) (L : List (List Str)) (o1 o2 : Option DV), rest = names todo ∧ todo.length ≤ 4 ∧ L.length * 2 ^ todo.length ≤ 16 ∧ (∀ a ∈ L, a.length + todo.length ≤ 4) ∧ δ = [some (.d (.tup (names asks))), some (.d (.list (L.map tupN))), o1, o2]) ?_ ?_ _ _ ⟨asks, [[]], none, none, rfl, hl, ?_, fun a ha => ?_, rfl⟩
  · rintro x rest δ ⟨todo, L, o1, o2, e, h4, h16, hL, rfl⟩ k hk
    cases todo with
    | nil => cases e
    | cons n todo =>
      obtain ⟨rfl, rfl⟩ := List.cons.inj e
      rw [List.length_cons] at h4 h16 hL
      have hp : 1 ≤ 2 ^ todo.length := Nat.one_le_pow _ _ (by decide)
      have h16' : (L.length + L.length) * 2 ^ todo.length ≤ 16 := by
        rw [Nat.pow_succ] at h16
        rw [Nat.add_mul]
        have : L.length * (2 ^ todo.length * 2) = L.length * 2 ^ todo.length + L.length * 2 ^ todo.length := by rw [← Nat.mul_assoc, Nat.mul_two]
        omega
      have hLl : L.length + L.length ≤ 16 := Nat.le_trans (Nat.le_mul_of_pos_right _ hp) h16'
      refine ⟨_, rfl, _, rfl, _, rfl, lcGo_mapA tupN (fun a => .tup (names a ++ [.str n])) L [] (fun a ha Q' hq' => ?_) ?_⟩
      · exact ⟨_, rfl, _, rfl, _, rfl, sz 1 (by decide), _, _, rfl, rfl, _, _, rfl, rfl, by
          have := hL a ha
          rw [List.length_map]
          exact sz _ (by simp; omega), hq'⟩
      · refine ⟨_, _, rfl, rfl, _, _, rfl, rfl, by rw [List.nil_append, List.length_map, List.length_map]; exact sz _ (by omega), _, rfl, hk _ ⟨todo, L ++ L.map (· ++ [n]), some (.d (.str n)), o2, rfl, by omega, by rw [List.length_append, List.length_map]; exact h16', fun a ha => ?_, ?_⟩⟩
        · rcases List.mem_append.mp ha with ha | ha
          · have := hL a ha; omega
          · obtain ⟨b, hb, rfl⟩ := List.mem_map.mp ha
            have := hL b hb
            rw [List.length_append, List.length_singleton]
            omega
        · rw [List.map_append, List.map_map, List.nil_append]
          have : (tupN ∘ fun x => x ++ [n]) = fun a => D.tup (names a ++ [.str n]) := by
            funext a
            show D.tup (names (a ++ [n])) = _
            rw [names, List.map_append]
            rfl
          rw [this]
          rfl
  · rintro δ ⟨todo, L, o1, o2, e, h4, h16, hL, rfl⟩
    refine ⟨_, rfl, _, rfl, _, rfl, srt_tups L, ?_⟩
    obtain ⟨l, e2, _⟩ := asMap tupN (fun _ => True) (sortD (L.map tupN)) fun d hd => by
      obtain ⟨a, _, rfl⟩ := List.mem_map.mp (sortD_mem hd)
      exact ⟨a, rfl, trivial⟩
    have h1 := hq l
    show Q (.d (.list (sortD (L.map tupN))))
    rw [e2]
    exact h1
  · have : 2 ^ asks.length ≤ 2 ^ 4 := Nat.pow_le_pow_right (by decide) hl
    simp only [List.length_singleton]
    omega
  · rw [List.mem_singleton.mp ha]
    simpa using hl
/-! dicts -/
abbrev pr (kv : Str × C) : D := .tup [.str kv.1, enc kv.2]
theorem pairs_pr : ∀ l : Tl, pairsD (l.map pr) = some (encT l)
  | [] => rfl
  | kv :: l => by
    show (pairsD (l.map pr)).map ((Sum.inr kv.1, enc kv.2) :: ·) = _
    rw [pairs_pr l]; rfl
theorem put_mem {kvs : List (Key × D)} {k : Key} {v : D} {x : Key × D} (h : x ∈ putD kvs k v) : x ∈ kvs ∨ x = (k, v) := by
  unfold putD at h
  split at h
  · obtain ⟨y, hy, e⟩ := List.mem_map.mp h
    by_cases q : y.1 = k
    · rw [if_pos q] at e
      exact .inr (by rw [← e, q])
    · rw [if_neg q] at e
      exact .inl (by rw [← e]; exact hy)
  · rcases List.mem_append.mp h with h | h
    · exact .inl h
    · exact .inr (List.mem_singleton.mp h)
theorem merge_mem : ∀ (more kvs : List (Key × D)) {x : Key × D}, x ∈ mergeD kvs more → x ∈ kvs ∨ x ∈ more
  | [], kvs, x, h => .inl h
  | kv :: more, kvs, x, h => by
    rcases merge_mem more (putD kvs kv.1 kv.2) h with h | h
    · rcases put_mem h with h | h
      · exact .inl h
      · exact .inr (by rw [h]; exact List.mem_cons_self)
    · exact .inr (List.mem_cons_of_mem _ h)
theorem asT (p : Str × C → Prop) : ∀ ds : List (Key × D), (∀ d ∈ ds, ∃ kv : Str × C, d = (.inr kv.1, enc kv.2) ∧ p kv) → ∃ t : Tl, ds = encT t ∧ ∀ kv ∈ t, p kv
  | [], _ => ⟨[], rfl, fun _ h => nomatch h⟩
  | d :: ds, h => by
    obtain ⟨a, e1, pa⟩ := h d List.mem_cons_self
    obtain ⟨l, e2, pl⟩ := asT p ds fun x hx => h x (List.mem_cons_of_mem _ hx)
    refine ⟨a :: l, by rw [e1, e2]; rfl, fun x hx => ?_⟩
    rcases List.mem_cons.mp hx with q | q
    · rw [q]; exact pa
    · exact pl x q
theorem dict_ok (ds : List DV) (Q : DV → Prop) (h : S_law_dict ds Q) : T_law_dict (retE Q) (startD ["_law_bag_here", "_law_asks", "_law_deep", "_law_found", "_law_name"] ds) := by
  obtain ⟨asks, d, rfl, hn, hd, hq⟩ := h
  have hal : asks.length < 1000 := by have := hn.len; omega
  have fin : ∀ ys : List D, ys.length ≤ 5 → (∀ y ∈ ys, ∃ kv, y = pr kv ∧ (nm kv.1 ∧ Of asks d (4 ^ d) kv.2)) → (dFrz 3 (dRet (dCB rcDictP (dCons (dCall S_law_mixed (dCons (dVar 0) (dCons (dVar 3) dNil))) dNil)))) (retE Q) [some .bag, some (.d (.tup (names asks))), some (.d (.int d)), some (.own ys), none] := by
    intro ys hl hy
    refine ⟨_, frz_own rfl (sz _ (by omega)), _, rfl, _, rfl, rfl, ys, rfl, by omega, fun zs hz hm => ?_⟩
    obtain ⟨l, rfl, hp⟩ := asMap pr (fun kv => nm kv.1 ∧ Of asks d (4 ^ d) kv.2) zs fun z hz => hy z (hm z hz)
    refine ⟨_, rfl, _, _, rfl, pairs_pr l, ?_⟩
    obtain ⟨t, e, ht⟩ := asT (fun kv => nm kv.1 ∧ Of asks d (4 ^ d) kv.2) (mergeD [] (encT l)) fun x hx => by
      rcases merge_mem _ _ hx with h | h
      · cases h
      · obtain ⟨kv, hkv, rfl⟩ := List.mem_map.mp h
        exact ⟨kv, rfl, hp kv hkv⟩
    have hlen : t.length ≤ 5 := by
      have h1 := mergeD_len (encT l) []
      rw [e] at h1
      have h2 : (encT t).length = t.length := List.length_map _
      have h3 : (encT l).length = l.length := List.length_map _
      rw [List.length_map] at hz
      rw [List.length_nil] at h1
      omega
    show Q (.d (.dict (mergeD [] (encT l))))
    rw [e]
    exact hq t ⟨hlen, fun kv h => (ht kv h).1, fun kv h => (ht kv h).2⟩
  refine ⟨_, rfl, names asks, rfl, ?_⟩
  refine lcGo_sub (R := fun y => ∃ kv, y = pr kv ∧ (nm kv.1 ∧ Of asks d (4 ^ d) kv.2)) _ [] (fun x hx Q' h1 h2 => ?_) (fun x hx Q' h => ?_) fun ys hl hr => ?_
  · refine tk rfl (by decide) (by decide) fun r r0 r1 => ⟨_, _, rfl, rfl, r, 0, rfl, rfl, _, rfl, ?_⟩
    cases decide ((0 : Int) < r)
    · exact h2
    · exact h1
  · obtain ⟨n, hn', rfl⟩ := List.mem_map.mp hx
    exact ⟨_, rfl, _, rfl, _, rfl, _, rfl, rfl, asks, d, rfl, hal, hd, fun c hc => ⟨_, rfl, sz 2 (by decide), h _ ⟨(n, c), rfl, hn.all n hn', hc⟩⟩⟩
  · rw [List.length_map] at hl
    have hl4 := hn.len
    rw [List.nil_append]
    have no : (dFrz 3 (dRet (dCB rcDictP (dCons (dCall S_law_mixed (dCons (dVar 0) (dCons (dVar 3) dNil))) dNil)))) (retE Q) [some .bag, some (.d (.tup (names asks))), some (.d (.int d)), some (.own ys), none] := fin ys (by omega) hr
    refine tk rfl (by decide) (by decide) fun r r0 r1 => ⟨_, _, rfl, rfl, shq_int _, shq_int _, _, rfl, ?_⟩
    show if eqD (.int r) (.int 0) = true then _ else _
    cases eqD (.int r) (.int 0)
    · exact no
    · refine ⟨_, rfl, _, _, rfl, rfl, names asks, rfl, shq_str _, plainAll_strs asks, _, rfl, ?_⟩
      show if (!inD (.str "other") (names asks)) = true then _ else _
      cases (!inD (.str "other") (names asks))
      · exact no
      · refine ⟨_, rfl, _, rfl, _, rfl, _, _, rfl, rfl, _, _, rfl, rfl, _, rfl, ?_⟩
        show if decide (((names asks).length : Int) < 4) = true then _ else _
        cases decide (((names asks).length : Int) < 4)
        · exact no
        · refine ⟨⟨_, rfl⟩, _, rfl, _, rfl, _, rfl, rfl, asks, d, rfl, hal, hd, fun c hc => ⟨_, rfl, sz 2 (by decide), _, _, rfl, rfl, ?_, fin (ys ++ [pr ("other", c)]) ?_ fun y hy => ?_⟩⟩
          · rw [sizeLine_eq]; omega
          · rw [List.length_append, List.length_singleton]; omega
          · rcases List.mem_append.mp hy with h | h
            · exact hr y h
            · exact ⟨("other", c), List.mem_singleton.mp h, ⟨(show ("other" : Str).length ≤ 8 by decide +kernel), (show sgn "other" = true by decide +kernel)⟩, hc⟩
end K13
/-! Law k13: the plain law. -/
namespace K13
open PySem PySem.Spec PyProof.Rows L2 DL
/-! ### trees of conditions -/
mutual
theorem plain_enc : ∀ c : C, plain (enc c) = true
  | .cst true => rfl
  | .cst false => rfl
  | .ask _ => rfl
  | .neg c => by show (true && (plain (enc c) && true)) = true; rw [plain_enc c]; rfl
  | .many true cs => by show (true && (plainAll (encs cs) && true)) = true; rw [plain_encs cs]; rfl
  | .many false cs => by show (true && (plainAll (encs cs) && true)) = true; rw [plain_encs cs]; rfl
theorem plain_encs : ∀ cs : List C, plainAll (encs cs) = true
  | [] => rfl
  | c :: cs => by show (plain (enc c) && plainAll (encs cs)) = true; rw [plain_enc c, plain_encs cs]; rfl
end
mutual
theorem noObj_enc : ∀ c : C, noObj (enc c) = true
  | .cst true => rfl
  | .cst false => rfl
  | .ask _ => rfl
  | .neg c => by show (true && (noObj (enc c) && true)) = true; rw [noObj_enc c]; rfl
  | .many true cs => by show (true && (noObjAll (encs cs) && true)) = true; rw [noObj_encs cs]; rfl
  | .many false cs => by show (true && (noObjAll (encs cs) && true)) = true; rw [noObj_encs cs]; rfl
theorem noObj_encs : ∀ cs : List C, noObjAll (encs cs) = true
  | [] => rfl
  | c :: cs => by show (noObj (enc c) && noObjAll (encs cs)) = true; rw [noObj_enc c, noObj_encs cs]; rfl
end
mutual
theorem shw_enc : ∀ c : C, (py (enc c)).showable = true
  | .cst true => rfl
  | .cst false => rfl
  | .ask _ => rfl
  | .neg c => by show (true && ((py (enc c)).showable && true)) = true; rw [shw_enc c]; rfl
  | .many true cs => by show (true && (PyData.showableAll (pyAll (encs cs)) && true)) = true; rw [shw_encs cs]; rfl
  | .many false cs => by show (true && (PyData.showableAll (pyAll (encs cs)) && true)) = true; rw [shw_encs cs]; rfl
theorem shw_encs : ∀ cs : List C, PyData.showableAll (pyAll (encs cs)) = true
  | [] => rfl
  | c :: cs => by show ((py (enc c)).showable && PyData.showableAll (pyAll (encs cs))) = true; rw [shw_enc c, shw_encs cs]; rfl
end
mutual
theorem dep_enc : ∀ c : C, (py (enc c)).depth ≤ 2 * dp c + 1
  | .cst true => by show (1 : Nat) ≤ _; omega
  | .cst false => by show (1 : Nat) ≤ _; omega
  | .ask _ => by show (1 : Nat) ≤ _; omega
  | .neg c => by
    show max 0 (max (py (enc c)).depth 0) + 1 ≤ 2 * (dp c + 1) + 1
    have := dep_enc c
    omega
  | .many true cs => by
    show max 0 (max (PyData.depthAll (pyAll (encs cs)) + 1) 0) + 1 ≤ 2 * (dps cs + 1) + 1
    have := dep_encs cs
    omega
  | .many false cs => by
    show max 0 (max (PyData.depthAll (pyAll (encs cs)) + 1) 0) + 1 ≤ 2 * (dps cs + 1) + 1
    have := dep_encs cs
    omega
theorem dep_encs : ∀ cs : List C, PyData.depthAll (pyAll (encs cs)) ≤ 2 * dps cs + 1
  | [] => by show (0 : Nat) ≤ _; omega
  | c :: cs => by
    show max (py (enc c)).depth (PyData.depthAll (pyAll (encs cs))) ≤ 2 * max (dp c) (dps cs) + 1
    have h1 := dep_enc c
    have h2 := dep_encs cs
    omega
end
mutual
theorem sgn_enc : ∀ c : C, (∀ x ∈ asksOf c, nm x) → sgnD (enc c) = true
  | .cst true, _ => by decide +kernel
  | .cst false, _ => by decide +kernel
  | .ask n, h => by
    show (sgn "ask" && (sgn n && true)) = true
    rw [(h n (by simp [asksOf])).2]; decide +kernel
  | .neg c, h => by
    show (sgn "not" && (sgnD (enc c) && true)) = true
    rw [sgn_enc c h]; decide +kernel
  | .many true cs, h => by
    show (sgn "all" && (sgnAll (encs cs) && true)) = true
    rw [sgn_encs cs h]; decide +kernel
  | .many false cs, h => by
    show (sgn "any" && (sgnAll (encs cs) && true)) = true
    rw [sgn_encs cs h]; decide +kernel
theorem sgn_encs : ∀ cs : List C, (∀ x ∈ asksOfs cs, nm x) → sgnAll (encs cs) = true
  | [], _ => rfl
  | c :: cs, h => by
    show (sgnD (enc c) && sgnAll (encs cs)) = true
    rw [sgn_enc c fun x hx => h x (by rw [asksOfs]; exact List.mem_append_left _ hx), sgn_encs cs fun x hx => h x (by rw [asksOfs]; exact List.mem_append_right _ hx)]
    rfl
end
theorem len3 : ("yes" : Str).length = 3 ∧ ("no" : Str).length = 2 ∧ ("ask" : Str).length = 3 ∧ ("not" : Str).length = 3 ∧ ("all" : Str).length = 3 ∧ ("any" : Str).length = 3 := by decide +kernel
mutual
theorem wt_enc : ∀ c : C, (∀ x ∈ asksOf c, nm x) → wt (enc c) + 2 ≤ 200 * nodes c
  | .cst true, _ => by
    show (10 * ("yes" : Str).length + 2) + 2 + 0 + 3 + 2 ≤ 200 * 1
    rw [len3.1]; decide
  | .cst false, _ => by
    show (10 * ("no" : Str).length + 2) + 2 + 0 + 3 + 2 ≤ 200 * 1
    rw [len3.2.1]; decide
  | .ask n, h => by
    show (10 * ("ask" : Str).length + 2) + 2 + ((10 * n.length + 2) + 2 + 0) + 3 + 2 ≤ 200 * 1
    rw [len3.2.2.1]
    have := (h n (by simp [asksOf])).1
    omega
  | .neg c, h => by
    show (10 * ("not" : Str).length + 2) + 2 + (wt (enc c) + 2 + 0) + 3 + 2 ≤ 200 * (nodes c + 1)
    rw [len3.2.2.2.1]
    have := wt_enc c h
    omega
  | .many true cs, h => by
    show (10 * ("all" : Str).length + 2) + 2 + ((wts (encs cs) + 3) + 2 + 0) + 3 + 2 ≤ 200 * (nodess cs + 1)
    rw [len3.2.2.2.2.1]
    have := wt_encs cs h
    omega
  | .many false cs, h => by
    show (10 * ("any" : Str).length + 2) + 2 + ((wts (encs cs) + 3) + 2 + 0) + 3 + 2 ≤ 200 * (nodess cs + 1)
    rw [len3.2.2.2.2.2]
    have := wt_encs cs h
    omega
theorem wt_encs : ∀ cs : List C, (∀ x ∈ asksOfs cs, nm x) → wts (encs cs) ≤ 200 * nodess cs
  | [], _ => Nat.zero_le _
  | c :: cs, h => by
    show wt (enc c) + 2 + wts (encs cs) ≤ 200 * (nodes c + nodess cs)
    have h1 := wt_enc c fun x hx => h x (by rw [asksOfs]; exact List.mem_append_left _ hx)
    have h2 := wt_encs cs fun x hx => h x (by rw [asksOfs]; exact List.mem_append_right _ hx)
    omega
end
theorem shq_enc {c : C} (h : dp c ≤ 20) : shq (enc c) := ⟨plain_enc c, by have := dep_enc c; show (py (enc c)).depth ≤ 60; omega⟩
theorem show_enc {c : C} (h : dp c ≤ 20) (hn : nodes c ≤ 1000) (ha : ∀ x ∈ asksOf c, nm x) : Show (enc c) :=
  show_of (noObj_enc c) (shw_enc c) (by have := dep_enc c; omega) (sgn_enc c ha) (by have := wt_enc c ha; omega)
/-! ### dicts of conditions -/
theorem noObj_T : ∀ t : Tl, noObjKv (encT t) = true
  | [] => rfl
  | kv :: t => by show (noObj (enc kv.2) && noObjKv (encT t)) = true; rw [noObj_enc, noObj_T t]; rfl
theorem shw_T : ∀ t : Tl, PyData.showableKv (pyKv (encT t)) = true
  | [] => rfl
  | kv :: t => by show (true && (py (enc kv.2)).showable && PyData.showableKv (pyKv (encT t))) = true; rw [shw_enc, shw_T t]; rfl
theorem dep_T : ∀ t : Tl, (∀ kv ∈ t, dp kv.2 ≤ 20) → PyData.depthKv (pyKv (encT t)) ≤ 41
  | [], _ => by show (0 : Nat) ≤ 41; omega
  | kv :: t, h => by
    show max (max 0 (py (enc kv.2)).depth) (PyData.depthKv (pyKv (encT t))) ≤ 41
    have h1 := dep_enc kv.2
    have h2 := h kv List.mem_cons_self
    have h3 := dep_T t fun x hx => h x (List.mem_cons_of_mem _ hx)
    omega
theorem sgn_T : ∀ t : Tl, (∀ kv ∈ t, nm kv.1 ∧ ∀ x ∈ asksOf kv.2, nm x) → sgnKv (encT t) = true
  | [], _ => rfl
  | kv :: t, h => by
    show (sgn kv.1 && (sgnD (enc kv.2) && sgnKv (encT t))) = true
    have h1 := h kv List.mem_cons_self
    rw [h1.1.2, sgn_enc _ h1.2, sgn_T t fun x hx => h x (List.mem_cons_of_mem _ hx)]
    rfl
theorem wt_T : ∀ t : Tl, (∀ kv ∈ t, (nm kv.1 ∧ ∀ x ∈ asksOf kv.2, nm x) ∧ nodes kv.2 ≤ 1000) → wtk (encT t) ≤ 300000 * t.length
  | [], _ => Nat.zero_le _
  | kv :: t, h => by
    show (10 * kv.1.length + 2) + 2 + wt (enc kv.2) + 2 + wtk (encT t) ≤ 300000 * (t.length + 1)
    have h1 := h kv List.mem_cons_self
    have h2 := wt_enc kv.2 h1.1.2
    have h3 := wt_T t fun x hx => h x (List.mem_cons_of_mem _ hx)
    have h4 := h1.1.1.1
    have h5 := h1.2
    omega
theorem show_pair {asks : List Str} {c : C} {t : Tl} {d n : Nat} (hn : Nms asks) (hc : Of asks 1 16 c) (ht : OfT asks d n t) (hd : d ≤ 20) (hN : n ≤ 100) : Show (.list [enc c, .dict (encT t)]) := by
  have ac : ∀ x ∈ asksOf c, nm x := fun x hx => hn.all x (hc.sub x hx)
  have at_ : ∀ kv ∈ t, nm kv.1 ∧ ∀ x ∈ asksOf kv.2, nm x := fun kv h => ⟨ht.nms kv h, fun x hx => hn.all x ((ht.cs kv h).sub x hx)⟩
  have wk : ∀ t : Tl, (∀ kv ∈ t, (nm kv.1 ∧ ∀ x ∈ asksOf kv.2, nm x) ∧ nodes kv.2 ≤ 100) → wtk (encT t) ≤ 30000 * t.length := by
    intro t
    induction t with
    | nil => intro _; exact Nat.zero_le _
    | cons kv t ih =>
      intro h
      show (10 * kv.1.length + 2) + 2 + wt (enc kv.2) + 2 + wtk (encT t) ≤ 30000 * (t.length + 1)
      have h1 := h kv List.mem_cons_self
      have h2 := wt_enc kv.2 h1.1.2
      have h3 := ih fun x hx => h x (List.mem_cons_of_mem _ hx)
      have h4 := h1.1.1.1
      have h5 := h1.2
      omega
  refine show_of ?_ ?_ ?_ ?_ ?_
  · show (noObj (enc c) && (noObjKv (encT t) && true)) = true
    rw [noObj_enc, noObj_T]; rfl
  · show ((py (enc c)).showable && (PyData.showableKv (pyKv (encT t)) && true)) = true
    rw [shw_enc, shw_T]; rfl
  · show max (py (enc c)).depth (max (PyData.depthKv (pyKv (encT t)) + 1) 0) + 1 ≤ 60
    have h1 := dep_enc c
    have h2 := hc.dp
    have h3 := dep_T t fun kv h => Nat.le_trans (ht.cs kv h).dp hd
    omega
  · show (sgnD (enc c) && (sgnKv (encT t) && true)) = true
    rw [sgn_enc c ac, sgn_T t at_]; rfl
  · show wt (enc c) + 2 + ((wtk (encT t) + 2) + 2 + 0) + 2 ≤ 1000000
    have h1 := wt_enc c ac
    have h2 := hc.nd
    have h3 := wk t fun kv h => ⟨at_ kv h, Nat.le_trans (ht.cs kv h).nd hN⟩
    have h4 := ht.len
    omega
/-! ### put in -/
theorem tl_mem {t : Tl} {n : Str} {c : C} (h : tl t n = some c) : ∃ kv ∈ t, kv.1 = n ∧ kv.2 = c := by
  unfold tl at h
  cases q : t.find? (fun kv => decide (kv.1 = n)) with
  | none => rw [q] at h; cases h
  | some kv =>
    rw [q] at h
    cases h
    have h2 : decide (kv.1 = n) = true := List.find?_some (p := fun kv : Str × C => decide (kv.1 = n)) q
    exact ⟨kv, List.mem_of_find?_eq_some q, of_decide_eq_true h2, rfl⟩
theorem tl_none {t : Tl} {n : Str} (h : tl t n = none) : ∀ kv ∈ t, kv.1 ≠ n := fun kv hkv e => by
  unfold tl at h
  cases q : t.find? (fun kv => decide (kv.1 = n)) with
  | none =>
    have := List.find?_eq_none.mp q kv hkv
    rw [decide_eq_true e] at this
    exact this rfl
  | some kv => rw [q] at h; cases h
mutual
theorem sub_put {asks : List Str} {t : Tl} (ht : ∀ kv ∈ t, ∀ x ∈ asksOf kv.2, x ∈ asks) : ∀ c : C, (∀ x ∈ asksOf c, x ∈ asks) → ∀ x ∈ asksOf (putIn t c), x ∈ asks
  | .cst _, _, x, hx => by rw [putIn, asksOf] at hx; cases hx
  | .ask n, h, x, hx => by
    rw [putIn] at hx
    cases e : tl t n with
    | none => rw [e] at hx; exact h x hx
    | some c =>
      rw [e] at hx
      obtain ⟨kv, hkv, _, rfl⟩ := tl_mem e
      exact ht kv hkv x hx
  | .neg c, h, x, hx => by rw [putIn, asksOf] at hx; exact sub_put ht c h x hx
  | .many al cs, h, x, hx => by rw [putIn, asksOf] at hx; exact sub_puts ht cs h x hx
theorem sub_puts {asks : List Str} {t : Tl} (ht : ∀ kv ∈ t, ∀ x ∈ asksOf kv.2, x ∈ asks) : ∀ cs : List C, (∀ x ∈ asksOfs cs, x ∈ asks) → ∀ x ∈ asksOfs (putIns t cs), x ∈ asks
  | [], _, x, hx => by rw [putIns, asksOfs] at hx; cases hx
  | c :: cs, h, x, hx => by
    rw [putIns, asksOfs] at hx
    rcases List.mem_append.mp hx with hx | hx
    · exact sub_put ht c (fun y hy => h y (by rw [asksOfs]; exact List.mem_append_left _ hy)) x hx
    · exact sub_puts ht cs (fun y hy => h y (by rw [asksOfs]; exact List.mem_append_right _ hy)) x hx
end
mutual
theorem dp_put {t : Tl} {d : Nat} (ht : ∀ kv ∈ t, dp kv.2 ≤ d) : ∀ c : C, dp (putIn t c) ≤ dp c + d
  | .cst _ => Nat.zero_le _
  | .ask n => by
    rw [putIn]
    cases e : tl t n with
    | none => exact Nat.zero_le _
    | some c =>
      obtain ⟨kv, hkv, _, rfl⟩ := tl_mem e
      exact Nat.le_trans (ht kv hkv) (Nat.le_add_left _ _)
  | .neg c => by rw [putIn, dp, dp]; have := dp_put ht c; omega
  | .many al cs => by rw [putIn, dp, dp]; have := dp_puts ht cs; omega
theorem dp_puts {t : Tl} {d : Nat} (ht : ∀ kv ∈ t, dp kv.2 ≤ d) : ∀ cs : List C, dps (putIns t cs) ≤ dps cs + d
  | [] => Nat.zero_le _
  | c :: cs => by
    rw [putIns, dps, dps]
    have h1 := dp_put ht c
    have h2 := dp_puts ht cs
    omega
end
mutual
theorem nd_put {t : Tl} {b : Nat} (hb : 1 ≤ b) (ht : ∀ kv ∈ t, nodes kv.2 ≤ b) : ∀ c : C, nodes (putIn t c) ≤ nodes c * b
  | .cst _ => by rw [putIn, nodes]; omega
  | .ask n => by
    rw [putIn]
    cases e : tl t n with
    | none => show nodes (.ask n) ≤ _; rw [nodes]; omega
    | some c =>
      obtain ⟨kv, hkv, _, rfl⟩ := tl_mem e
      have := ht kv hkv
      show nodes kv.2 ≤ nodes (.ask n) * b
      rw [show nodes (.ask n) = 1 from rfl]
      omega
  | .neg c => by rw [putIn, nodes, nodes]; have := nd_put hb ht c; rw [Nat.add_mul]; omega
  | .many al cs => by rw [putIn, nodes, nodes]; have := nd_puts hb ht cs; rw [Nat.add_mul]; omega
theorem nd_puts {t : Tl} {b : Nat} (hb : 1 ≤ b) (ht : ∀ kv ∈ t, nodes kv.2 ≤ b) : ∀ cs : List C, nodess (putIns t cs) ≤ nodess cs * b
  | [] => Nat.zero_le _
  | c :: cs => by
    rw [putIns, nodess, nodess, Nat.add_mul]
    exact Nat.add_le_add (nd_put hb ht c) (nd_puts hb ht cs)
end
theorem Of.put {asks : List Str} {t : Tl} {c : C} {dc nc d n : Nat} (hc : Of asks dc nc c) (ht : OfT asks d n t) (hn : 1 ≤ n) : Of asks (dc + d) (nc * n) (putIn t c) :=
  ⟨sub_put (fun kv h => (ht.cs kv h).sub) c hc.sub, Nat.le_trans (dp_put (fun kv h => (ht.cs kv h).dp) c) (Nat.add_le_add_right hc.dp d),
    Nat.le_trans (nd_put hn (fun kv h => (ht.cs kv h).nd) c) (Nat.mul_le_mul_right n hc.nd)⟩
mutual
theorem put_nil : ∀ c : C, putIn [] c = c
  | .cst _ => rfl
  | .ask _ => rfl
  | .neg c => by rw [putIn, put_nil c]
  | .many al cs => by rw [putIn, put_nils cs]
theorem put_nils : ∀ cs : List C, putIns [] cs = cs
  | [] => rfl
  | c :: cs => by rw [putIns, put_nil c, put_nils cs]
end
mutual
theorem put_put {a b ab : Tl} (h : ∀ n, tl ab n = match tl a n with | some c => some (putIn b c) | none => tl b n) : ∀ c : C, putIn b (putIn a c) = putIn ab c
  | .cst _ => rfl
  | .ask n => by
    rw [putIn, putIn, h n]
    cases tl a n with
    | none => rfl
    | some c => rfl
  | .neg c => by rw [putIn, putIn, putIn, put_put h c]
  | .many al cs => by rw [putIn, putIn, putIn, put_puts h cs]
theorem put_puts {a b ab : Tl} (h : ∀ n, tl ab n = match tl a n with | some c => some (putIn b c) | none => tl b n) : ∀ cs : List C, putIns b (putIns a cs) = putIns ab cs
  | [] => rfl
  | c :: cs => by rw [putIns, putIns, putIns, put_put h c, put_puts h cs]
end
mutual
theorem holds_put {asks : List Str} {t : Tl} {ans : List Str} : ∀ c : C, (∀ x ∈ asksOf c, x ∈ asks) → holds ans (putIn t c) = holds (madeOf asks t ans) c
  | .cst _, _ => rfl
  | .ask n, h => by
    have hn : n ∈ asks := h n (by simp [asksOf])
    rw [putIn]
    show _ = decide (n ∈ madeOf asks t ans)
    have e : decide (n ∈ madeOf asks t ans) = (match tl t n with | some c => holds ans c | none => decide (n ∈ ans)) := by
      rw [Bool.eq_iff_iff, decide_eq_true_iff, madeOf, List.mem_filter]
      exact ⟨fun h => h.2, fun h => ⟨hn, h⟩⟩
    rw [e]
    cases tl t n with
    | none => rfl
    | some c => rfl
  | .neg c, h => by rw [putIn, holds, holds, holds_put c h]
  | .many true cs, h => by rw [putIn, holds, holds, holds_puts cs h]
  | .many false cs, h => by rw [putIn, holds, holds, holds_puts cs h]
theorem holds_puts {asks : List Str} {t : Tl} {ans : List Str} : ∀ cs : List C, (∀ x ∈ asksOfs cs, x ∈ asks) → holdss ans (putIns t cs) = holdss (madeOf asks t ans) cs
  | [], _ => rfl
  | c :: cs, h => by
    rw [putIns, holdss, holdss, holds_put c fun x hx => h x (by rw [asksOfs]; exact List.mem_append_left _ hx), holds_puts cs fun x hx => h x (by rw [asksOfs]; exact List.mem_append_right _ hx)]
end
/-! ### one dict over another -/
def putT (b : Tl) (n : Str) (c : C) : Tl := if (b.any fun kv => decide (kv.1 = n)) = true then b.map (fun kv => if kv.1 = n then (kv.1, c) else kv) else b ++ [(n, c)]
theorem any_encT (n : Str) : ∀ b : Tl, ((encT b).any fun kv => decide (kv.1 = .inr n)) = b.any fun kv => decide (kv.1 = n)
  | [] => rfl
  | kv :: b => by
    show (decide ((Sum.inr kv.1 : Key) = .inr n) || (encT b).any fun kv => decide (kv.1 = .inr n)) = (decide (kv.1 = n) || b.any fun kv => decide (kv.1 = n))
    rw [any_encT n b]
    by_cases h : kv.1 = n
    · rw [decide_eq_true h, decide_eq_true (by rw [h])]
    · rw [decide_eq_false h, decide_eq_false (fun e => h (Sum.inr.inj e))]
theorem map_encT (n : Str) (c : C) : ∀ b : Tl, ((encT b).map fun kv => if kv.1 = .inr n then (kv.1, enc c) else kv) = encT (b.map fun kv => if kv.1 = n then (kv.1, c) else kv)
  | [] => rfl
  | kv :: b => by
    show (if (Sum.inr kv.1 : Key) = .inr n then ((Sum.inr kv.1 : Key), enc c) else (Sum.inr kv.1, enc kv.2)) :: ((encT b).map fun kv => if kv.1 = .inr n then (kv.1, enc c) else kv) = encT ((if kv.1 = n then (kv.1, c) else kv) :: b.map fun kv => if kv.1 = n then (kv.1, c) else kv)
    rw [map_encT n c b]
    by_cases h : kv.1 = n
    · rw [if_pos (by rw [h]), if_pos h]; rfl
    · rw [if_neg (fun e => h (Sum.inr.inj e)), if_neg h]; rfl
theorem put_encT (b : Tl) (n : Str) (c : C) : putD (encT b) (.inr n) (enc c) = encT (putT b n c) := by
  unfold putD putT
  rw [any_encT]
  by_cases h : (b.any fun kv => decide (kv.1 = n)) = true
  · rw [if_pos h, if_pos h, map_encT]
  · rw [if_neg h, if_neg h]
    unfold encT
    rw [List.map_append]; rfl
theorem tl_cons (kv : Str × C) (b : Tl) (m : Str) : tl (kv :: b) m = if kv.1 = m then some kv.2 else tl b m := by
  unfold tl
  rw [List.find?_cons]
  by_cases h : kv.1 = m
  · rw [if_pos h]; simp [h]
  · rw [if_neg h]; simp [h]
theorem tl_map (n : Str) (c : C) (m : Str) : ∀ b : Tl, (b.any fun kv => decide (kv.1 = n)) = true → tl (b.map fun kv => if kv.1 = n then (kv.1, c) else kv) m = if m = n then some c else tl b m := by
  have other : ∀ b : Tl, m ≠ n → tl (b.map fun kv => if kv.1 = n then (kv.1, c) else kv) m = tl b m := by
    intro b hm
    induction b with
    | nil => rfl
    | cons kv b ih =>
      rw [List.map_cons, tl_cons, tl_cons, ih]
      by_cases h : kv.1 = n
      · rw [if_pos h]
        have : kv.1 ≠ m := fun e => hm (by rw [← e, h])
        rw [if_neg this, if_neg this]
      · rw [if_neg h]
  intro b hb
  by_cases hm : m = n
  · rw [if_pos hm]
    subst hm
    induction b with
    | nil => cases hb
    | cons kv b ih =>
      rw [List.map_cons, tl_cons]
      by_cases h : kv.1 = m
      · rw [if_pos h, if_pos h]
      · rw [if_neg h, if_neg h]
        refine ih ?_
        rw [List.any_cons, decide_eq_false h, Bool.false_or] at hb
        exact hb
  · rw [if_neg hm]
    exact other b hm
theorem tl_put (b : Tl) (n : Str) (c : C) (m : Str) : tl (putT b n c) m = if m = n then some c else tl b m := by
  unfold putT
  by_cases h : (b.any fun kv => decide (kv.1 = n)) = true
  · rw [if_pos h]; exact tl_map n c m b h
  · rw [if_neg h]
    have key : ∀ b : Tl, tl (b ++ [(n, c)]) m = match tl b m with | some x => some x | none => if m = n then some c else none := by
      intro b
      induction b with
      | nil =>
        show tl [(n, c)] m = _
        rw [tl_cons]
        by_cases e : n = m
        · subst e; rw [if_pos rfl]; simp [tl]
        · have e' : m ≠ n := fun z => e z.symm
          rw [if_neg e]; simp [tl, e']
      | cons kv b ih =>
        rw [List.cons_append, tl_cons, tl_cons, ih]
        by_cases e : kv.1 = m
        · rw [if_pos e, if_pos e]
        · rw [if_neg e, if_neg e]
    rw [key b]
    by_cases hm : m = n
    · subst hm
      rw [if_pos rfl]
      cases q : tl b m with
      | none => rw [if_pos rfl]
      | some x =>
        obtain ⟨kv, hkv, e, _⟩ := tl_mem q
        exact absurd (List.any_eq_true.mpr ⟨kv, hkv, decide_eq_true e⟩) h
    · rw [if_neg hm, if_neg hm]
      cases tl b m <;> rfl
theorem putT_len (b : Tl) (n : Str) (c : C) : (putT b n c).length ≤ b.length + 1 := by
  unfold putT
  split <;> simp
end K13
/-! Law k13: the law's own reading. -/
namespace K13
open PySem PySem.Spec PyProof.Rows L2 DL
def Shp (δ : Sl) : Prop := ∃ o2 o3 o4 o5 o6 o7 o8 o9 o10 o11 o12, δ = [none, some .bag, o2, o3, o4, o5, o6, o7, o8, o9, o10, o11, o12]
theorem tk1 {δ : Sl} {n : Int} {Q : DV → Prop} (h0 : δ[1]? = some (some .bag)) (h1 : 0 < n) (h2 : n < 1073741824) (hq : ∀ r, 0 ≤ r → r < n → Q (.d (.int r))) : dCall STake (dCons (dVar 1) (dCons (dC (.int n)) dNil)) δ Q := ⟨_, h0, rfl, n, rfl, h1, h2, hq⟩
theorem eq_refl {d : D} (h : plain d = true) : (if true = true then !eqD d d else eqD d d) = false := by rw [eqD_refl h]; rfl
theorem law_ok : T_law lawE (lawS 11) := by
  refine ⟨6, rfl, by decide, by decide, ?_⟩
  refine for_inv (fun _ δ => Shp δ) ?_ (fun δ _ => rfl) _ _ ⟨none, none, none, none, none, none, none, none, none, none, none, rfl⟩
  rintro x _ δ ⟨o2, o3, o4, o5, o6, o7, o8, o9, o10, o11, o12, rfl⟩ k hk
  refine ⟨_, rfl, tk1 rfl (by decide) (by decide) fun n n0 n1 => ⟨rfl, n, rfl, n0, by omega, fun asks hn => ⟨_, rfl, ?_⟩⟩⟩
  have hal : asks.length < 1000 := by have := hn.len; omega
  -- the condition
  have rest : ∀ c, Of asks 1 16 c → ∀ E : DEnds, E.nx = k → E.rt = lawE.rt →
      (dSeq (dPar 5 6 (dCons (dCall S_law_dict (dCons (dVar 1) (dCons (dVar 3) (dCons (dC (.int 1)) dNil)))) (dCons (dCall S_law_dict (dCons (dVar 1) (dCons (dVar 3) (dCons (dC (.int 0)) dNil)))) dNil)))
      (dSeq (dAsg (dCB rcRepr (dCons (dLst (dCons (dVar 4) (dCons (dVar 5) dNil))) dNil)) (gN 7))
      (dSeq (dForS (iR (dCons (dC (.int 2)) dNil)) (gN 8) (dSeq (dAsg (dCall (S_put 3) (dCons (dVar 4) (dCons (dVar 5) dNil))) (gN 9))
      (dIfS (dOr (dNot (dB (dCall S_law_alike (dCons (dVar 9) (dCons (dCall (S_put 3) (dCons (dVar 4) (dCons (dVar 5) dNil))) dNil))))) (dB (dOp (rdEqP true) (dCB rcRepr (dCons (dLst (dCons (dVar 4) (dCons (dVar 5) dNil))) dNil)) (dVar 7)))) (dRet (dC (.bl false))) dNext)))
      (dSeq (dForS (iL (dCall S_law_all_answers (dCons (dVar 3) dNil))) (gN 10) (dIfS (dNot (dB (dCall S_law_alike (dCons (dCall (S_holds 3) (dCons (dVar 9) (dCons (dVar 10) dNil))) (dCons (dCall (S_holds 3) (dCons (dVar 4) (dCons (dCall S_law_made_of (dCons (dVar 3) (dCons (dVar 5) (dCons (dVar 10) dNil)))) dNil))) dNil))))) (dRet (dC (.bl false))) dNext))
      (dSeq (dIfS (dOr (dB (dOp (rdEqP true) (dLc (iT (dCall (S_asks_in 3) (dCons (dVar 9) dNil))) (gN 12) (dB (dOp (rdInP true) (dVar 12) (dVar 3))) (dVar 12) [12]) (dLst dNil))) (dB (dOp (rdEqP true) (dCall (S_put 3) (dCons (dVar 4) (dCons dDNew dNil))) (dVar 4)))) (dRet (dC (.bl false))) dNext)
      (dSeq (dAsgOD (dDictD (dCons (dVar 6) dNil)) 11)
      (dSeq (dForS (iK (dVar 5)) (gN 12) (dDPut 11 (dVar 12) (dCall (S_put 3) (dCons (dDGet (dVar 5) (dVar 12)) (dCons (dVar 6) dNil)))))
      (dFrz 11 (dIfS (dB (dOp (rdEqP true) (dCall (S_put 3) (dCons (dVar 9) (dCons (dVar 6) dNil))) (dCall (S_put 3) (dCons (dVar 4) (dCons (dVar 11) dNil))))) (dRet (dC (.bl false))) dNext)))))))))
      E [none, some .bag, some (.d x), some (.d (.tup (names asks))), some (.d (enc c)), o5, o6, o7, o8, o9, o10, o11, o12] := by
    intro c hc E hE hR
    -- the dicts
    refine ⟨_, rfl, _, rfl, rfl, asks, 1, rfl, hn, by decide, fun t ht => ⟨_, rfl, _, rfl, rfl, asks, 0, rfl, hn, by decide, fun l hl => ⟨_, _, rfl, ?_⟩⟩⟩
    have ac : ∀ y ∈ asksOf c, nm y := fun y hy => hn.all y (hc.sub y hy)
    have hf : Of asks 2 64 (putIn t c) := hc.put ht (by decide)
    have hf' : ∀ y ∈ asksOf (putIn t c), nm y := fun y hy => hn.all y (hf.sub y hy)
    have hsh := show_pair hn hc ht (by decide) (by decide)
    have dc : dp c < 3 := by have := hc.dp; omega
    have df : dp (putIn t c) < 3 := by have := hf.dp; omega
    -- kept
    refine ⟨_, rfl, _, rfl, _, rfl, sz 2 (by decide), _, rfl, hsh, _, rfl, ?_⟩
    -- put in, twice
    refine ⟨2, rfl, by decide, by decide, ?_⟩
    have two : ∀ (o8' : Option DV) (E2 : DEnds) (y : D), E2.rt = lawE.rt → (∀ o8'', E2.nx [none, some .bag, some (.d x), some (.d (.tup (names asks))), some (.d (enc c)), some (.d (.dict (encT t))), some (.d (.dict (encT l))), some (.d (.str (shown (.list [enc c, .dict (encT t)])))), o8'', some (.d (enc (putIn t c))), o10, o11, o12]) → ∀ o9',
        (dSeq (dAsg (dCall (S_put 3) (dCons (dVar 4) (dCons (dVar 5) dNil))) (gN 9))
      (dIfS (dOr (dNot (dB (dCall S_law_alike (dCons (dVar 9) (dCons (dCall (S_put 3) (dCons (dVar 4) (dCons (dVar 5) dNil))) dNil))))) (dB (dOp (rdEqP true) (dCB rcRepr (dCons (dLst (dCons (dVar 4) (dCons (dVar 5) dNil))) dNil)) (dVar 7)))) (dRet (dC (.bl false))) dNext)) E2 [none, some .bag, some (.d x), some (.d (.tup (names asks))), some (.d (enc c)), some (.d (.dict (encT t))), some (.d (.dict (encT l))), some (.d (.str (shown (.list [enc c, .dict (encT t)])))), some (.d y), o9', o10, o11, o12] := by
      intro o8' E2 y hR2 hn2 o9'
      refine ⟨_, rfl, _, rfl, rfl, c, t, rfl, dc, _, rfl, ?_⟩
      refine ⟨_, rfl, _, rfl, _, rfl, rfl, c, t, rfl, dc, rfl, enc (putIn t c), rfl, shq_enc (by omega), show_enc (by omega) (by have := hf.nd; omega) hf', true, rfl, ?_⟩
      refine ⟨_, rfl, _, rfl, _, rfl, sz 2 (by decide), _, rfl, hsh, _, rfl, _, _, rfl, rfl, shq_str _, shq_str _, _, rfl, ?_⟩
      rw [eq_refl rfl]
      exact hn2 _
    refine for_inv (fun rest δ => ∃ o8' o9', δ = [none, some .bag, some (.d x), some (.d (.tup (names asks))), some (.d (enc c)), some (.d (.dict (encT t))), some (.d (.dict (encT l))), some (.d (.str (shown (.list [enc c, .dict (encT t)])))), o8', o9', o10, o11, o12] ∧ (rest = [] → o9' = some (.d (enc (putIn t c))))) ?_ ?_ _ _ ⟨o8, o9, rfl, fun h => by cases h⟩
    · rintro y rest δ ⟨o8', o9', rfl, _⟩ k2 hk2
      refine two o8' _ y ?_ (fun o8'' => ?_) o9'
      · exact hR
      · exact hk2 _ ⟨o8'', _, rfl, fun _ => rfl⟩
    rintro δ ⟨o8', o9', rfl, h9⟩
    rw [h9 rfl]
    clear two h9 o9'
    -- all answers
    refine ⟨_, rfl, rfl, asks, rfl, hn.len, fun L => ⟨_, rfl, ?_⟩⟩
    refine for_inv (fun rest δ => ∃ (todo : List (List Str)) (o10' : Option DV), rest = todo.map (fun a => D.tup (names a)) ∧ δ = [none, some .bag, some (.d x), some (.d (.tup (names asks))), some (.d (enc c)), some (.d (.dict (encT t))), some (.d (.dict (encT l))), some (.d (.str (shown (.list [enc c, .dict (encT t)])))), o8', some (.d (enc (putIn t c))), o10', o11, o12]) ?_ ?_ _ _ ⟨L, o10, rfl, rfl⟩
    · rintro y rest δ ⟨todo, o10', e, rfl⟩ k2 hk2
      cases todo with
      | nil => cases e
      | cons a todo =>
        obtain ⟨rfl, rfl⟩ := List.cons.inj e
        have h1 : ∀ kv ∈ t, dp kv.2 < 3 ∧ nodes kv.2 ≤ 10000 := fun kv h => ⟨by have := (ht.cs kv h).dp; omega, by have := (ht.cs kv h).nd; omega⟩
        have fin : (dIfS (dNot (dB (dC (.bl true)))) (dRet (dC (.bl false))) dNext) { nx := k2, rt := E.rt, bk := fun _ => False, ct := k2 } [none, some .bag, some (.d x), some (.d (.tup (names asks))), some (.d (enc c)), some (.d (.dict (encT t))), some (.d (.dict (encT l))), some (.d (.str (shown (.list [enc c, .dict (encT t)])))), o8', some (.d (enc (putIn t c))), some (.d (.tup (names a))), o11, o12] := ⟨true, rfl, hk2 _ ⟨todo, _, rfl, rfl⟩⟩
        obtain ⟨b, hb, hk3⟩ := fin
        cases hb
        refine ⟨_, rfl, _, rfl, rfl, putIn t c, a, rfl, df, by have := hf.nd; omega, _, rfl, _, rfl, _, rfl, _, rfl, rfl, asks, t, a, rfl, by omega, h1, rfl, c, madeOf asks t a, rfl, dc, by have := hc.nd; omega, rfl, .bl (holds a (putIn t c)), ?_, shq_bl _, show_of rfl rfl (by show (0 : Nat) ≤ 60; omega) rfl (by show (5 : Nat) ≤ 1000000; omega), true, rfl, hk3⟩
        rw [holds_put (asks := asks) c hc.sub]
    rintro δ ⟨todo, o10', e, rfl⟩
    -- no other asks; nothing put in
    refine ⟨_, rfl, rfl, putIn t c, rfl, df, by have := hf.nd; omega, _, rfl, ?_⟩
    refine lcGo_filterA D.str D.str (fun y => !decide (y ∈ asks)) (sortS (distK (asksOf (putIn t c)))) [] (fun y hy Q' hq' => ?_) (fun y hy Q' hq' => ⟨_, rfl, hq'⟩) ?_
    · refine ⟨_, rfl, _, rfl, _, _, rfl, rfl, names asks, rfl, shq_str y, plainAll_strs asks, _, rfl, ?_⟩
      show Q' (!inD (.str y) (names asks))
      rw [inD_strs]
      exact hq'
    have none_ : (sortS (distK (asksOf (putIn t c)))).filter (fun y => !decide (y ∈ asks)) = [] := by
      rw [List.filter_eq_nil_iff]
      intro y hy
      have h1 : y ∈ asks := hf.sub y (distK_mem.mp ((sortS_perm _).mem_iff.mp hy))
      simp [h1]
    rw [none_]
    refine ⟨_, rfl, Nat.zero_le _, _, _, rfl, rfl, ⟨rfl, (show (1 : Nat) ≤ 60 by decide)⟩, ⟨rfl, (show (1 : Nat) ≤ 60 by decide)⟩, false, rfl, ?_⟩
    refine ⟨_, rfl, rfl, c, [], rfl, dc, _, rfl, _, _, rfl, rfl, ?_, shq_enc (by omega), false, ?_, ?_⟩
    · rw [put_nil]; exact shq_enc (by omega)
    · rw [put_nil, eq_refl (plain_enc c)]
    -- both
    refine ⟨_, rfl, _, rfl, _, rfl, _, rfl, ?_⟩
    have h3 : ∀ kv ∈ t, dp kv.2 < 3 := fun kv h => by have := (ht.cs kv h).dp; omega
    refine for_inv (fun rest δ => ∃ (done todo : Tl) (b : Tl) (o12' : Option DV), t = done ++ todo ∧ rest = todo.map (fun kv => D.str kv.1) ∧ b.length ≤ 5 + done.length ∧ (∀ n, tl b n = if n ∈ done.map (·.1) then (tl t n).map (putIn l) else tl l n) ∧ δ = [none, some .bag, some (.d x), some (.d (.tup (names asks))), some (.d (enc c)), some (.d (.dict (encT t))), some (.d (.dict (encT l))), some (.d (.str (shown (.list [enc c, .dict (encT t)])))), o8', some (.d (enc (putIn t c))), o10', some (.ownD (encT b)), o12']) ?_ ?_ _ _ ⟨[], t, l, o12, rfl, ?_, ?_, fun n => by simp, rfl⟩
    · rintro y rest δ ⟨done, todo, b, o12', et, e, hbl, hb, rfl⟩ k2 hk2
      cases todo with
      | nil => cases e
      | cons kv todo =>
        obtain ⟨rfl, rfl⟩ := List.cons.inj e
        have hkv : kv ∈ t := by rw [et]; exact List.mem_append_right _ List.mem_cons_self
        obtain ⟨c2, hc2⟩ : ∃ c2, tl t kv.1 = some c2 := by
          cases q : tl t kv.1 with
          | some c2 => exact ⟨c2, rfl⟩
          | none => exact absurd rfl (tl_none q kv hkv)
        obtain ⟨kv2, hkv2, _, ekv2⟩ := tl_mem hc2
        have hl5 := ht.len
        have hdl : done.length + (todo.length + 1) ≤ 5 := by
          have := congrArg List.length et
          rw [List.length_append, List.length_cons] at this
          omega
        refine ⟨_, rfl, _, rfl, _, _, _, _, rfl, rfl, rfl, (by rw [val_encT, hc2]; rfl), _, rfl, rfl, c2, l, rfl, by rw [← ekv2]; exact h3 kv2 hkv2, ⟨_, rfl⟩, _, rfl, _, _, _, _, rfl, rfl, rfl, rfl, ?_, hk2 _ ⟨done ++ [kv], todo, putT b kv.1 (putIn l c2), some (.d (.str kv.1)), by rw [et, List.append_assoc]; rfl, rfl, ?_, fun n => ?_, ?_⟩⟩
        · have : (encT b).length = b.length := List.length_map _
          rw [this, sizeLine_eq]; omega
        · have := putT_len b kv.1 (putIn l c2)
          rw [List.length_append, List.length_singleton]; omega
        · rw [tl_put, hb n]
          by_cases hn' : n = kv.1
          · subst hn'
            rw [if_pos rfl, if_pos (by simp), hc2]; rfl
          · rw [if_neg hn']
            by_cases hd' : n ∈ done.map (·.1)
            · rw [if_pos hd', if_pos (by rw [List.map_append]; exact List.mem_append_left _ hd')]
            · rw [if_neg hd', if_neg (fun h => by
                rw [List.map_append] at h
                rcases List.mem_append.mp h with h | h
                · exact hd' h
                · exact hn' (by simpa using h))]
        · rw [put_encT]; rfl
    · rintro δ ⟨done, todo, b, o12', et, e, hbl, hb, rfl⟩
      cases todo with
      | cons _ _ => cases e
      | nil =>
        rw [List.append_nil] at et
        subst et
        have hb2 : ∀ n, tl b n = match tl t n with | some c => some (putIn l c) | none => tl l n := fun n => by
          rw [hb n]
          cases q : tl t n with
          | none =>
            rw [if_neg]
            intro h
            obtain ⟨kv, hkv, e⟩ := List.mem_map.mp h
            exact tl_none q kv hkv e
          | some c2 =>
            obtain ⟨kv, hkv, e, _⟩ := tl_mem q
            rw [if_pos (List.mem_map.mpr ⟨kv, hkv, e⟩)]; rfl
        have hz : (encT b).length ≤ sizeLine := by
          have : (encT b).length = b.length := List.length_map _
          have := ht.len
          exact sz _ (by omega)
        have h2 := put_put hb2 c
        have hf2 : Of asks 2 64 (putIn l (putIn t c)) := hf.put hl (by decide)
        have d2 : dp (putIn l (putIn t c)) ≤ 20 := by have := hf2.dp; omega
        refine ⟨_, frz_ownD rfl hz, _, rfl, _, rfl, rfl, putIn t c, l, rfl, df, _, rfl, _, rfl, rfl, c, b, rfl, dc, _, _, rfl, rfl, shq_enc d2, by rw [← h2]; exact shq_enc d2, false, ?_, ?_⟩
        · rw [← h2, eq_refl (plain_enc _)]
        · show E.nx _
          rw [hE]
          exact hk _ ⟨_, _, _, _, _, _, _, _, _, _, _, rfl⟩
    · unfold encT; rw [List.map_map]; rfl
    · have := hl.len
      omega
  refine tk1 rfl (by decide) (by decide) fun r r0 r1 => ⟨_, _, rfl, rfl, r, 0, rfl, rfl, _, rfl, ?_⟩
  cases decide ((0 : Int) < r)
  · exact ⟨_, rfl, _, rfl, rfl, asks, rfl, hal, fun c hc => ⟨_, rfl, rest c hc _ rfl rfl⟩⟩
  · exact ⟨_, rfl, _, rfl, rfl, asks, 1, rfl, hal, by decide, fun c hc => ⟨_, rfl, rest c (hc.le (by decide)) _ rfl rfl⟩⟩
end K13
namespace K13
open PySem PySem.Spec PyProof.Rows L2 DL
structure Gots (K : PySem.W.Frag) (mg : Str → Option Value) : Prop where
  g_below : Got K mg "below" s_below ["condition"]
  g_holds : Got K mg "holds" s_holds ["condition", "answers"]
  g_asks_listed : Got K mg "asks_listed" s_asks_listed ["condition"]
  g_asks_in : Got K mg "asks_in" s_asks_in ["condition"]
  g_put_in : Got K mg "put_in" s_put_in ["condition", "told"]
  g_law_bag : Got K mg "_law_bag" s__law_bag ["_law_script"]
  g_law_take : Got K mg "_law_take" s__law_take ["_law_bag_here", "_law_many"]
  g_law_alike : Got K mg "_law_alike" s__law_alike ["_law_found", "_law_due"]
  g_law_one : Got K mg "_law_one" s__law_one ["_law_bag_here", "_law_things"]
  g_law_mixed : Got K mg "_law_mixed" s__law_mixed ["_law_bag_here", "_law_things"]
  g_law_names : Got K mg "_law_names" s__law_names ["_law_bag_here", "_law_many"]
  g_law_condition : Got K mg "_law_condition" s__law_condition ["_law_bag_here", "_law_asks", "_law_deep"]
  g_law_all_answers : Got K mg "_law_all_answers" s__law_all_answers ["_law_asks"]
  g_law_wide : Got K mg "_law_wide" s__law_wide ["_law_bag_here", "_law_asks"]
  g_law_put_in : Got K mg "_law_put_in" s__law_put_in ["_law_condition_here", "_law_told"]
  g_law_made_of : Got K mg "_law_made_of" s__law_made_of ["_law_asks", "_law_told", "_law_answers"]
  g_law_dict : Got K mg "_law_dict" s__law_dict ["_law_bag_here", "_law_asks", "_law_deep"]
def d_below : He.DefD := ⟨("below", none), "below", "below", defArgs s_below, defBody s_below, defScope s_below, [], []⟩
def d_holds : He.DefD := ⟨("holds", none), "holds", "holds", defArgs s_holds, defBody s_holds, defScope s_holds, [], []⟩
def d_asks_listed : He.DefD := ⟨("asks_listed", none), "asks_listed", "asks_listed", defArgs s_asks_listed, defBody s_asks_listed, defScope s_asks_listed, [], []⟩
def d_asks_in : He.DefD := ⟨("asks_in", none), "asks_in", "asks_in", defArgs s_asks_in, defBody s_asks_in, defScope s_asks_in, [], []⟩
def d_put_in : He.DefD := ⟨("put_in", none), "put_in", "put_in", defArgs s_put_in, defBody s_put_in, defScope s_put_in, [], []⟩
def d__law_bag : He.DefD := ⟨("_law_bag", none), "_law_bag", "_law_bag", defArgs s__law_bag, defBody s__law_bag, defScope s__law_bag, [], []⟩
def d__law_take : He.DefD := ⟨("_law_take", none), "_law_take", "_law_take", defArgs s__law_take, defBody s__law_take, defScope s__law_take, [], []⟩
def d__law_alike : He.DefD := ⟨("_law_alike", none), "_law_alike", "_law_alike", defArgs s__law_alike, defBody s__law_alike, defScope s__law_alike, [], []⟩
def d__law_one : He.DefD := ⟨("_law_one", none), "_law_one", "_law_one", defArgs s__law_one, defBody s__law_one, defScope s__law_one, [], []⟩
def d__law_mixed : He.DefD := ⟨("_law_mixed", none), "_law_mixed", "_law_mixed", defArgs s__law_mixed, defBody s__law_mixed, defScope s__law_mixed, [], []⟩
def d__law_names : He.DefD := ⟨("_law_names", none), "_law_names", "_law_names", defArgs s__law_names, defBody s__law_names, defScope s__law_names, [], []⟩
def d__law_condition : He.DefD := ⟨("_law_condition", none), "_law_condition", "_law_condition", defArgs s__law_condition, defBody s__law_condition, defScope s__law_condition, [], []⟩
def d__law_all_answers : He.DefD := ⟨("_law_all_answers", none), "_law_all_answers", "_law_all_answers", defArgs s__law_all_answers, defBody s__law_all_answers, defScope s__law_all_answers, [], []⟩
def d__law_wide : He.DefD := ⟨("_law_wide", none), "_law_wide", "_law_wide", defArgs s__law_wide, defBody s__law_wide, defScope s__law_wide, [], []⟩
def d__law_put_in : He.DefD := ⟨("_law_put_in", none), "_law_put_in", "_law_put_in", defArgs s__law_put_in, defBody s__law_put_in, defScope s__law_put_in, [], []⟩
def d__law_made_of : He.DefD := ⟨("_law_made_of", none), "_law_made_of", "_law_made_of", defArgs s__law_made_of, defBody s__law_made_of, defScope s__law_made_of, [], []⟩
def d__law_dict : He.DefD := ⟨("_law_dict", none), "_law_dict", "_law_dict", defArgs s__law_dict, defBody s__law_dict, defScope s__law_dict, [], []⟩
def d_law : He.DefD := ⟨("law", none), "law", "law", defArgs s_law, defBody s_law, defScope s_law, [], []⟩
def fn : List He.DefD := [d_below, d_holds, d_asks_listed, d_asks_in, d_put_in, d__law_bag, d__law_take, d__law_alike, d__law_one, d__law_mixed, d__law_names, d__law_condition, d__law_all_answers, d__law_wide, d__law_put_in, d__law_made_of, d__law_dict, d_law]
def fa : List He.Fa := [.glo "below", .glo "holds", .glo "asks_listed", .glo "asks_in", .glo "put_in", .glo "_law_bag", .glo "_law_take", .glo "_law_alike", .glo "_law_one", .glo "_law_mixed", .glo "_law_names", .glo "_law_condition", .glo "_law_all_answers", .glo "_law_wide", .glo "_law_put_in", .glo "_law_made_of", .glo "_law_dict", .glo "law", .free "abs", .free "all", .free "any", .free "dict", .free "int", .free "len", .free "list", .free "range", .free "repr", .free "set", .free "sorted", .free "tuple"]
abbrev R : PySem.W.OpenRow := PySem.W.OpenLaw.row PySem.Challenge.rw_bynamealone_k13_whole_conditions_put_in
abbrev hk : PySem.W.Hook := hookT 4 fa fn
def ob (s : PySem.W.SharedT) : Bool × He.AlD := obsTG 4 fa fn (HandSHeadRun.getT s)
theorem ob_eq (s : PySem.W.SharedT) : ob s = hk.obs s.abs := obsTG_eq (HandSHeadRun.getT_eq s)
def names_ : List PySem.Str := ["below", "holds", "asks_listed", "asks_in", "put_in", "_law_bag", "_law_take", "_law_alike", "_law_one", "_law_mixed", "_law_names", "_law_condition", "_law_all_answers", "_law_wide", "_law_put_in", "_law_made_of", "_law_dict"]
theorem run (w : World) : HandSHeadRun.RunEq R (PySem.W.view R.prog [19]) hk ob 4000 names_ w := by
  intro os
  kernel_rfl
section
variable {K : PySem.W.Frag} {mg : Str → Option Value} {h : Heap}
theorem blt (X : K.In h) (G : h.Ns mainGlobals mg) (c : He.SaysD fa fn K) : Blt mg where
  b_abs := He.free_ok X G (c.fact 18 (f := .free "abs") rfl)
  b_all := He.free_ok X G (c.fact 19 (f := .free "all") rfl)
  b_any := He.free_ok X G (c.fact 20 (f := .free "any") rfl)
  b_dict := He.free_ok X G (c.fact 21 (f := .free "dict") rfl)
  b_int := He.free_ok X G (c.fact 22 (f := .free "int") rfl)
  b_len := He.free_ok X G (c.fact 23 (f := .free "len") rfl)
  b_list := He.free_ok X G (c.fact 24 (f := .free "list") rfl)
  b_range := He.free_ok X G (c.fact 25 (f := .free "range") rfl)
  b_repr := He.free_ok X G (c.fact 26 (f := .free "repr") rfl)
  b_set := He.free_ok X G (c.fact 27 (f := .free "set") rfl)
  b_sorted := He.free_ok X G (c.fact 28 (f := .free "sorted") rfl)
  b_tuple := He.free_ok X G (c.fact 29 (f := .free "tuple") rfl)
theorem got_below (X : K.In h) (G : h.Ns mainGlobals mg) (c : He.SaysD fa fn K) : Got K mg "below" s_below ["condition"] := by
  obtain ⟨fd, F⟩ := c.def_ 0 (d := d_below) rfl
  exact ⟨_, fd, F, He.glo_ok X G (c.fact 0 (f := .glo "below") rfl), F.kp, F.bindsN fun _ _ _ _ _ _ us hl => match us, hl with | [_], _ => rfl⟩
theorem got_holds (X : K.In h) (G : h.Ns mainGlobals mg) (c : He.SaysD fa fn K) : Got K mg "holds" s_holds ["condition", "answers"] := by
  obtain ⟨fd, F⟩ := c.def_ 1 (d := d_holds) rfl
  exact ⟨_, fd, F, He.glo_ok X G (c.fact 1 (f := .glo "holds") rfl), F.kp, F.bindsN fun _ _ _ _ _ _ us hl => match us, hl with | [_, _], _ => rfl⟩
theorem got_asks_listed (X : K.In h) (G : h.Ns mainGlobals mg) (c : He.SaysD fa fn K) : Got K mg "asks_listed" s_asks_listed ["condition"] := by
  obtain ⟨fd, F⟩ := c.def_ 2 (d := d_asks_listed) rfl
  exact ⟨_, fd, F, He.glo_ok X G (c.fact 2 (f := .glo "asks_listed") rfl), F.kp, F.bindsN fun _ _ _ _ _ _ us hl => match us, hl with | [_], _ => rfl⟩
theorem got_asks_in (X : K.In h) (G : h.Ns mainGlobals mg) (c : He.SaysD fa fn K) : Got K mg "asks_in" s_asks_in ["condition"] := by
  obtain ⟨fd, F⟩ := c.def_ 3 (d := d_asks_in) rfl
  exact ⟨_, fd, F, He.glo_ok X G (c.fact 3 (f := .glo "asks_in") rfl), F.kp, F.bindsN fun _ _ _ _ _ _ us hl => match us, hl with | [_], _ => rfl⟩
theorem got_put_in (X : K.In h) (G : h.Ns mainGlobals mg) (c : He.SaysD fa fn K) : Got K mg "put_in" s_put_in ["condition", "told"] := by
  obtain ⟨fd, F⟩ := c.def_ 4 (d := d_put_in) rfl
  exact ⟨_, fd, F, He.glo_ok X G (c.fact 4 (f := .glo "put_in") rfl), F.kp, F.bindsN fun _ _ _ _ _ _ us hl => match us, hl with | [_, _], _ => rfl⟩
theorem got_law_bag (X : K.In h) (G : h.Ns mainGlobals mg) (c : He.SaysD fa fn K) : Got K mg "_law_bag" s__law_bag ["_law_script"] := by
  obtain ⟨fd, F⟩ := c.def_ 5 (d := d__law_bag) rfl
  exact ⟨_, fd, F, He.glo_ok X G (c.fact 5 (f := .glo "_law_bag") rfl), F.kp, F.bindsN fun _ _ _ _ _ _ us hl => match us, hl with | [_], _ => rfl⟩
theorem got_law_take (X : K.In h) (G : h.Ns mainGlobals mg) (c : He.SaysD fa fn K) : Got K mg "_law_take" s__law_take ["_law_bag_here", "_law_many"] := by
  obtain ⟨fd, F⟩ := c.def_ 6 (d := d__law_take) rfl
  exact ⟨_, fd, F, He.glo_ok X G (c.fact 6 (f := .glo "_law_take") rfl), F.kp, F.bindsN fun _ _ _ _ _ _ us hl => match us, hl with | [_, _], _ => rfl⟩
theorem got_law_alike (X : K.In h) (G : h.Ns mainGlobals mg) (c : He.SaysD fa fn K) : Got K mg "_law_alike" s__law_alike ["_law_found", "_law_due"] := by
  obtain ⟨fd, F⟩ := c.def_ 7 (d := d__law_alike) rfl
  exact ⟨_, fd, F, He.glo_ok X G (c.fact 7 (f := .glo "_law_alike") rfl), F.kp, F.bindsN fun _ _ _ _ _ _ us hl => match us, hl with | [_, _], _ => rfl⟩
theorem got_law_one (X : K.In h) (G : h.Ns mainGlobals mg) (c : He.SaysD fa fn K) : Got K mg "_law_one" s__law_one ["_law_bag_here", "_law_things"] := by
  obtain ⟨fd, F⟩ := c.def_ 8 (d := d__law_one) rfl
  exact ⟨_, fd, F, He.glo_ok X G (c.fact 8 (f := .glo "_law_one") rfl), F.kp, F.bindsN fun _ _ _ _ _ _ us hl => match us, hl with | [_, _], _ => rfl⟩
theorem got_law_mixed (X : K.In h) (G : h.Ns mainGlobals mg) (c : He.SaysD fa fn K) : Got K mg "_law_mixed" s__law_mixed ["_law_bag_here", "_law_things"] := by
  obtain ⟨fd, F⟩ := c.def_ 9 (d := d__law_mixed) rfl
  exact ⟨_, fd, F, He.glo_ok X G (c.fact 9 (f := .glo "_law_mixed") rfl), F.kp, F.bindsN fun _ _ _ _ _ _ us hl => match us, hl with | [_, _], _ => rfl⟩
theorem got_law_names (X : K.In h) (G : h.Ns mainGlobals mg) (c : He.SaysD fa fn K) : Got K mg "_law_names" s__law_names ["_law_bag_here", "_law_many"] := by
  obtain ⟨fd, F⟩ := c.def_ 10 (d := d__law_names) rfl
  exact ⟨_, fd, F, He.glo_ok X G (c.fact 10 (f := .glo "_law_names") rfl), F.kp, F.bindsN fun _ _ _ _ _ _ us hl => match us, hl with | [_, _], _ => rfl⟩
theorem got_law_condition (X : K.In h) (G : h.Ns mainGlobals mg) (c : He.SaysD fa fn K) : Got K mg "_law_condition" s__law_condition ["_law_bag_here", "_law_asks", "_law_deep"] := by
  obtain ⟨fd, F⟩ := c.def_ 11 (d := d__law_condition) rfl
  exact ⟨_, fd, F, He.glo_ok X G (c.fact 11 (f := .glo "_law_condition") rfl), F.kp, F.bindsN fun _ _ _ _ _ _ us hl => match us, hl with | [_, _, _], _ => rfl⟩
theorem got_law_all_answers (X : K.In h) (G : h.Ns mainGlobals mg) (c : He.SaysD fa fn K) : Got K mg "_law_all_answers" s__law_all_answers ["_law_asks"] := by
  obtain ⟨fd, F⟩ := c.def_ 12 (d := d__law_all_answers) rfl
  exact ⟨_, fd, F, He.glo_ok X G (c.fact 12 (f := .glo "_law_all_answers") rfl), F.kp, F.bindsN fun _ _ _ _ _ _ us hl => match us, hl with | [_], _ => rfl⟩
theorem got_law_wide (X : K.In h) (G : h.Ns mainGlobals mg) (c : He.SaysD fa fn K) : Got K mg "_law_wide" s__law_wide ["_law_bag_here", "_law_asks"] := by
  obtain ⟨fd, F⟩ := c.def_ 13 (d := d__law_wide) rfl
  exact ⟨_, fd, F, He.glo_ok X G (c.fact 13 (f := .glo "_law_wide") rfl), F.kp, F.bindsN fun _ _ _ _ _ _ us hl => match us, hl with | [_, _], _ => rfl⟩
theorem got_law_put_in (X : K.In h) (G : h.Ns mainGlobals mg) (c : He.SaysD fa fn K) : Got K mg "_law_put_in" s__law_put_in ["_law_condition_here", "_law_told"] := by
  obtain ⟨fd, F⟩ := c.def_ 14 (d := d__law_put_in) rfl
  exact ⟨_, fd, F, He.glo_ok X G (c.fact 14 (f := .glo "_law_put_in") rfl), F.kp, F.bindsN fun _ _ _ _ _ _ us hl => match us, hl with | [_, _], _ => rfl⟩
theorem got_law_made_of (X : K.In h) (G : h.Ns mainGlobals mg) (c : He.SaysD fa fn K) : Got K mg "_law_made_of" s__law_made_of ["_law_asks", "_law_told", "_law_answers"] := by
  obtain ⟨fd, F⟩ := c.def_ 15 (d := d__law_made_of) rfl
  exact ⟨_, fd, F, He.glo_ok X G (c.fact 15 (f := .glo "_law_made_of") rfl), F.kp, F.bindsN fun _ _ _ _ _ _ us hl => match us, hl with | [_, _, _], _ => rfl⟩
theorem got_law_dict (X : K.In h) (G : h.Ns mainGlobals mg) (c : He.SaysD fa fn K) : Got K mg "_law_dict" s__law_dict ["_law_bag_here", "_law_asks", "_law_deep"] := by
  obtain ⟨fd, F⟩ := c.def_ 16 (d := d__law_dict) rfl
  exact ⟨_, fd, F, He.glo_ok X G (c.fact 16 (f := .glo "_law_dict") rfl), F.kp, F.bindsN fun _ _ _ _ _ _ us hl => match us, hl with | [_, _, _], _ => rfl⟩
theorem gots (X : K.In h) (G : h.Ns mainGlobals mg) (c : He.SaysD fa fn K) : Gots K mg := ⟨got_below X G c, got_holds X G c, got_asks_listed X G c, got_asks_in X G c, got_put_in X G c, got_law_bag X G c, got_law_take X G c, got_law_alike X G c, got_law_one X G c, got_law_mixed X G c, got_law_names X G c, got_law_condition X G c, got_law_all_answers X G c, got_law_wide X G c, got_law_put_in X G c, got_law_made_of X G c, got_law_dict X G c⟩
end

section
variable {P : Program} {w : World} {K : PySem.W.Frag} {mg : Str → Option Value}
theorem c_below (B : Blt mg) (hS : SysIn K) (G : Gots K mg) : CallD P w K mg 1 "below" ["condition"] S_below := G.g_below.callW sc_below (w_below B hS) mono_below (fun ds Q ⟨_, e, _⟩ => by rw [e]; rfl) below_ok
theorem c_holds (B : Blt mg) (hS : SysIn K) (G : Gots K mg) : ∀ k, CallD P w K mg (k + 1) "holds" ["condition", "answers"] (S_holds k)
  | 0 => G.g_holds.none fun ds Q ⟨c, a, e, h, _⟩ => absurd h (Nat.not_lt_zero _)
  | k + 1 => G.g_holds.callW sc_holds (w_holds B hS (c_below B hS G) (c_holds B hS G k)) mono_holds (fun ds Q ⟨_, _, e, _⟩ => by rw [e]; rfl) holds_ok
theorem c_asks (B : Blt mg) (hS : SysIn K) (G : Gots K mg) : ∀ k, CallD P w K mg (k + 1) "asks_listed" ["condition"] (S_asks_listed k)
  | 0 => G.g_asks_listed.none fun ds Q ⟨c, e, h, _⟩ => absurd h (Nat.not_lt_zero _)
  | k + 1 => G.g_asks_listed.callW sc_asks_listed (w_asks_listed B hS (c_below B hS G) (c_asks B hS G k)) mono_asks (fun ds Q ⟨_, e, _⟩ => by rw [e]; rfl) asks_listed_ok
theorem c_put (B : Blt mg) (hS : SysIn K) (G : Gots K mg) : ∀ k, CallD P w K mg (k + 1) "put_in" ["condition", "told"] (S_put k)
  | 0 => G.g_put_in.none fun ds Q ⟨c, t, e, h, _⟩ => absurd h (Nat.not_lt_zero _)
  | k + 1 => G.g_put_in.callW sc_put_in (w_put_in B hS (c_put B hS G k)) mono_put (fun ds Q ⟨_, _, e, _⟩ => by rw [e]; rfl) put_in_ok
theorem c_lput (B : Blt mg) (hS : SysIn K) (G : Gots K mg) : ∀ k, CallD P w K mg (k + 1) "_law_put_in" ["_law_condition_here", "_law_told"] (S_put k)
  | 0 => G.g_law_put_in.none fun ds Q ⟨c, t, e, h, _⟩ => absurd h (Nat.not_lt_zero _)
  | k + 1 => G.g_law_put_in.callW sc__law_put_in (w_law_put_in B hS (c_lput B hS G k)) mono_put (fun ds Q ⟨_, _, e, _⟩ => by rw [e]; rfl) lput_ok
theorem c_one (B : Blt mg) (hS : SysIn K) (G : Gots K mg) : CallD P w K mg 2 "_law_one" ["_law_bag_here", "_law_things"] S_law_one := G.g_law_one.callW sc__law_one (w_law_one B hS (c_take B G.g_law_take)) mono_one (fun ds Q ⟨_, e, _⟩ => by rw [e]; rfl) one_ok
theorem c_cond (B : Blt mg) (hS : SysIn K) (G : Gots K mg) : ∀ k, CallD P w K mg (k + 2) "_law_condition" ["_law_bag_here", "_law_asks", "_law_deep"] (S_cond k)
  | 0 => G.g_law_condition.none fun ds Q ⟨a, d, e, _, h, _⟩ => absurd h (Nat.not_lt_zero _)
  | k + 1 => G.g_law_condition.callW sc__law_condition (w_law_condition B hS (c_take B G.g_law_take) (c_one B hS G) (c_cond B hS G k)) mono_cond (fun ds Q ⟨_, _, e, _⟩ => by rw [e]; rfl) cond_ok
theorem law_all (B : Blt mg) (hS : SysIn K) (G : Gots K mg) {f : Addr} {fd : FuncData} (F : FnP K "law" s_law f fd) : ∀ base : Heap, K.In base → base.Ns mainGlobals mg → FnG P w K mg base 6 f fd ["_law_script"] (spLaw K) :=
  c_law B hS (c_bag B G.g_law_bag) (c_take B G.g_law_take)
    (G.g_law_names.callW sc__law_names (w_law_names B hS (c_take B G.g_law_take)) mono_names (fun ds Q ⟨_, e, _⟩ => by rw [e]; rfl) names_ok)
    (c_cond B hS G 2)
    (G.g_law_wide.callW sc__law_wide (w_law_wide B hS (c_take B G.g_law_take) (c_cond B hS G 1)) mono_wide (fun ds Q ⟨_, e, _⟩ => by rw [e]; rfl) wide_ok)
    (G.g_law_dict.callW sc__law_dict (w_law_dict B hS (c_take B G.g_law_take) (c_cond B hS G 2) (G.g_law_mixed.callW sc__law_mixed (w_law_mixed B hS (c_take B G.g_law_take)) mono_mixed (fun ds Q ⟨_, e, _⟩ => by rw [e]; rfl) mixed_ok)) mono_dict (fun ds Q ⟨_, _, e, _⟩ => by rw [e]; rfl) dict_ok)
    (c_put B hS G 3) (c_lput B hS G 3)
    (G.g_law_alike.callW sc__law_alike (w_law_alike B hS) mono_alike (fun ds Q ⟨_, e, _⟩ => by rw [e]; rfl) alike_ok)
    (G.g_law_all_answers.callW sc__law_all_answers (w_law_all_answers B hS) mono_answers (fun ds Q ⟨_, e, _⟩ => by rw [e]; rfl) answers_ok)
    (c_holds B hS G 3)
    (G.g_law_made_of.callW sc__law_made_of (w_law_made_of B hS (c_holds B hS G 3)) mono_made (fun ds Q ⟨_, _, _, e, _⟩ => by rw [e]; rfl) made_ok)
    (G.g_asks_in.callW sc_asks_in (w_asks_in B hS (c_asks B hS G 3)) mono_asks_in (fun ds Q ⟨_, e, _⟩ => by rw [e]; rfl) asks_in_ok)
    law_ok F
end
end K13
open PySem PySem.W PySem.Calls PyProof.Rows
theorem PySem.Challenge.cw_bynamealone_k13_whole_conditions_put_in_holds : PySem.Challenge.rw_bynamealone_k13_whole_conditions_put_in.Holds := by
  w_on; o_law
  refine HandSHeadRun.head_any (r := OpenLaw.row PySem.Challenge.rw_bynamealone_k13_whole_conditions_put_in) (q := view (OpenLaw.row PySem.Challenge.rw_bynamealone_k13_whole_conditions_put_in).prog [19]) (H := K13.hk) (ob := K13.ob) (M := 4000) (loose := K13.names_) (d := HandSHeadRun.topDef (OpenLaw.row PySem.Challenge.rw_bynamealone_k13_whole_conditions_put_in).prog 19) (kwd := []) K13.ob_eq
    (by kernel_rfl) (fun s => by kernel_rfl) K13.run (by kernel_rfl) (by kernel_rfl) (by kernel_rfl) (by rfl) (by first | assumption | decide +kernel) (by decide +kernel) ⟨rfl, rfl, rfl, rfl, rfl, by decide +kernel⟩ ?hw ?hc
  case hw => w_witness2
  case hc =>
    refine DL.walkG (l := PySem.Challenge.rw_bynamealone_k13_whole_conditions_put_in) (n := 63) (k := 6) (x := "_law_script") rfl (by decide) (by kernel_rfl) ⟨rfl, by decide, by decide⟩ ?F
    intro w mg fa h Y G hmg0
    obtain ⟨K, KX, c⟩ := Y
    have hmg : mg ("law" : PySem.Str) = some (.ref fa) := by
      have e : (HandSHeadRun.topDef (OpenLaw.row PySem.Challenge.rw_bynamealone_k13_whole_conditions_put_in).prog 19).name = ("law" : PySem.Str) := by kernel_rfl
      rw [← e]
      exact hmg0
    obtain ⟨fd, F⟩ := c.d.def_ 17 (d := K13.d_law) rfl
    have e := hmg.symm.trans (He.glo_ok KX G (c.d.fact 17 (f := .glo "law") rfl))
    cases e
    have b := L2.FunD.bindsA (ps := ["_law_script"]) F fun _ _ _ _ _ _ us hl => match us, hl with | [_], _ => rfl
    exact ⟨K, fd, DL.spLaw K, KX, fun s v => b s [v] rfl, fun H a ns hl _ hS => ⟨a, ns, rfl, hS, Nat.le_trans hl (by decide), fun _ => rfl⟩, K13.law_all (P := (PySem.Challenge.rw_bynamealone_k13_whole_conditions_put_in).prog) (w := w) (K13.blt KX G c.d) c.sys (K13.gots KX G c.d) F⟩
