import PyProof.Rows.All
import Wide.All
import OpenK.AllK
import Wide.FinOn
import HandS.ForMost
import HandS.Evl
import HandS.Walk
import HandS.Deep
import HandS.IsInst
import HandS.Conv
import HandS.Zip
import HandS.TupAny
import HandS.Property
import HandS.TupSets
import HandS.SortRule
import KE.DataMinMax
import HandS.Gcd
import KE.GoesEnum
import HandS.Strs
import HandS.Style
import HandS.Sort
import PySem.Challenge.RW_pegstreet_k60_can_stick_whole
set_option Elab.async false
set_option linter.all false
set_option maxRecDepth 100000
set_option maxHeartbeats 4000000
set_option maxRecDepth 100000
set_option maxHeartbeats 2000000
/-! DLa: data, what represents it, cells of a frame, the state of a frame. -/
namespace DL
open PySem L2 Evl

inductive D where
  | non | bl (b : Bool) | int (i : Int) | str (x : Str)
  | lst (xs : List D) | lsk (xs : List D) | tup (xs : List D) | tupf (xs : List D)
  | ins (C : Addr) (fs : List (Str × D))
  | rng (lo hi : Int)

mutual
inductive Rep (K : PySem.W.Frag) (G : Hp) : D → V → Prop
  | non : Rep K G .non .non
  | bl (b : Bool) : Rep K G (.bl b) (.bl b)
  | int (i : Int) : Rep K G (.int i) (.int i)
  | str (x : Str) : Rep K G (.str x) (.str x)
  | lst {a : Addr} {vs : List V} {ds : List D} : G a = some (.lst vs) → Reps K G ds vs → Rep K G (.lst ds) (.ref a)
  | lsk {a : Addr} {vs : List V} {ds : List D} : SqL K G a vs → Reps K G ds vs → Rep K G (.lsk ds) (.ref a)
  | tup {a : Addr} {vs : List V} {ds : List D} : SqT K G a vs → Reps K G ds vs → Rep K G (.tup ds) (.ref a)
  | tupf {a : Addr} {o : Obj} {vs : List V} {ds : List D} : G a = some (.frz o (.tup vs)) → o.dict = none → Reps K G ds vs → Rep K G (.tupf ds) (.ref a)
  | ins {a C dx : Addr} {fs : List (Str × D)} {fvs : List (Str × V)} : G a = some (.ins C dx fvs) → RepF K G fs fvs → Rep K G (.ins C fs) (.ref a)
  | rng {a : Addr} {lo hi : Int} : G a = some (.rng lo hi) → Rep K G (.rng lo hi) (.ref a)
inductive Reps (K : PySem.W.Frag) (G : Hp) : List D → List V → Prop
  | nil : Reps K G [] []
  | cons {d : D} {v : V} {ds : List D} {vs : List V} : Rep K G d v → Reps K G ds vs → Reps K G (d :: ds) (v :: vs)
inductive RepF (K : PySem.W.Frag) (G : Hp) : List (Str × D) → List (Str × V) → Prop
  | nil : RepF K G [] []
  | cons {f : Str} {d : D} {v : V} {fs : List (Str × D)} {fvs : List (Str × V)} : Rep K G d v → RepF K G fs fvs → RepF K G ((f, d) :: fs) ((f, v) :: fvs)
end

section
variable {K : PySem.W.Frag} {G G' H H' : Hp}
theorem Rep.mono {d : D} {v : V} (e : Ex G G') (h : Rep K G d v) : Rep K G' d v :=
  Rep.rec (motive_1 := fun d v _ => Rep K G' d v) (motive_2 := fun ds vs _ => Reps K G' ds vs) (motive_3 := fun fs fvs _ => RepF K G' fs fvs)
    .non .bl .int .str (fun h _ r => .lst (e _ _ h) r) (fun h _ r => .lsk (ex_l e h) r) (fun h _ r => .tup (ex_t e h) r) (fun h d _ r => .tupf (e _ _ h) d r) (fun h _ r => .ins (e _ _ h) r) (fun h => .rng (e _ _ h)) .nil (fun _ _ a b => .cons a b) .nil (fun _ _ a b => .cons a b) h
theorem Reps.mono {ds : List D} {vs : List V} (e : Ex G G') (h : Reps K G ds vs) : Reps K G' ds vs :=
  Reps.rec (motive_1 := fun d v _ => Rep K G' d v) (motive_2 := fun ds vs _ => Reps K G' ds vs) (motive_3 := fun fs fvs _ => RepF K G' fs fvs)
    .non .bl .int .str (fun h _ r => .lst (e _ _ h) r) (fun h _ r => .lsk (ex_l e h) r) (fun h _ r => .tup (ex_t e h) r) (fun h d _ r => .tupf (e _ _ h) d r) (fun h _ r => .ins (e _ _ h) r) (fun h => .rng (e _ _ h)) .nil (fun _ _ a b => .cons a b) .nil (fun _ _ a b => .cons a b) h
theorem RepF.mono {ds : List (Str × D)} {vs : List (Str × V)} (e : Ex G G') (h : RepF K G ds vs) : RepF K G' ds vs :=
  RepF.rec (motive_1 := fun d v _ => Rep K G' d v) (motive_2 := fun ds vs _ => Reps K G' ds vs) (motive_3 := fun fs fvs _ => RepF K G' fs fvs)
    .non .bl .int .str (fun h _ r => .lst (e _ _ h) r) (fun h _ r => .lsk (ex_l e h) r) (fun h _ r => .tup (ex_t e h) r) (fun h d _ r => .tupf (e _ _ h) d r) (fun h _ r => .ins (e _ _ h) r) (fun h => .rng (e _ _ h)) .nil (fun _ _ a b => .cons a b) .nil (fun _ _ a b => .cons a b) h
theorem Reps.length : ∀ {ds : List D} {vs : List V}, Reps K G ds vs → ds.length = vs.length
  | [], _, .nil => rfl
  | _ :: _, _, .cons _ r => by rw [List.length_cons, List.length_cons, Reps.length r]
theorem Reps.get : ∀ {ds : List D} {vs : List V} {i : Nat} {d : D}, Reps K G ds vs → ds[i]? = some d → ∃ v, vs[i]? = some v ∧ Rep K G d v
  | [], _, _, _, .nil, h => by cases h
  | _ :: _, _, 0, _, .cons a _, h => by
    cases h
    exact ⟨_, rfl, a⟩
  | _ :: _, _, i + 1, _, .cons _ r, h => Reps.get (i := i) r h
theorem Reps.getV : ∀ {ds : List D} {vs : List V} {i : Nat} {v : V}, Reps K G ds vs → vs[i]? = some v → ∃ d, ds[i]? = some d ∧ Rep K G d v
  | [], _, _, _, .nil, h => by cases h
  | _ :: _, _, 0, _, .cons a _, h => by
    cases h
    exact ⟨_, rfl, a⟩
  | _ :: _, _, i + 1, _, .cons _ r, h => Reps.getV (i := i) r h
theorem Reps.append : ∀ {ds es : List D} {vs ws : List V}, Reps K G ds vs → Reps K G es ws → Reps K G (ds ++ es) (vs ++ ws)
  | [], _, _, _, .nil, h => h
  | _ :: _, _, _, _, .cons a r, h => .cons a (Reps.append r h)
theorem Reps.set : ∀ {ds : List D} {vs : List V} {i : Nat} {d : D} {v : V}, Reps K G ds vs → Rep K G d v → Reps K G (ds.set i d) (vs.set i v)
  | [], _, _, _, _, .nil, _ => .nil
  | _ :: _, _, 0, _, _, .cons _ r, h => .cons h r
  | _ :: _, _, i + 1, _, _, .cons a r, h => .cons a (Reps.set (i := i) r h)
theorem Reps.take : ∀ {ds : List D} {vs : List V} (n : Nat), Reps K G ds vs → Reps K G (ds.take n) (vs.take n)
  | _, _, 0, _ => .nil
  | [], _, _ + 1, .nil => .nil
  | _ :: _, _, n + 1, .cons a r => .cons a (Reps.take n r)
theorem Reps.drop : ∀ {ds : List D} {vs : List V} (n : Nat), Reps K G ds vs → Reps K G (ds.drop n) (vs.drop n)
  | _, _, 0, h => h
  | [], _, _ + 1, .nil => .nil
  | _ :: _, _, n + 1, .cons _ r => Reps.drop n r
theorem RepF.get : ∀ {fs : List (Str × D)} {fvs : List (Str × V)} {f : Str} {d : D}, RepF K G fs fvs → fs.lookup f = some d → ∃ v, fvs.lookup f = some v ∧ Rep K G d v
  | [], _, _, _, .nil, h => by cases h
  | (g, e) :: fs, _, f, d, .cons (v := v) (fvs := fvs) a r, h => by
    rw [List.lookup_cons] at h ⊢
    cases q : f == g with
    | true =>
      rw [q] at h
      cases h
      exact ⟨v, rfl, a⟩
    | false =>
      rw [q] at h
      exact RepF.get r h
theorem RepF.none : ∀ {fs : List (Str × D)} {fvs : List (Str × V)} {f : Str}, RepF K G fs fvs → fs.lookup f = Option.none → fvs.lookup f = Option.none
  | [], _, _, .nil, _ => rfl
  | (g, e) :: fs, _, f, .cons (v := v) (fvs := fvs) a r, h => by
    rw [List.lookup_cons] at h ⊢
    cases q : f == g with
    | true =>
      rw [q] at h
      cases h
    | false =>
      rw [q] at h
      exact RepF.none r h
theorem RepF.length : ∀ {fs : List (Str × D)} {fvs : List (Str × V)}, RepF K G fs fvs → fs.length = fvs.length
  | [], _, .nil => rfl
  | _ :: _, _, .cons _ r => by rw [List.length_cons, List.length_cons, RepF.length r]

/-! ### the heap grows: G is what is known for good, H is all; what is new of G is new of H -/
structure Ext (G H G' H' : Hp) : Prop where
  g : Ex G G'
  h : Ex H H'
  gh : Ex G' H'
  new : ∀ a o, G a = none → H a = some o → G' a = none
theorem Ext.refl (e : Ex G H) : Ext G H G H := ⟨Ex.refl _, Ex.refl _, e, fun _ _ h _ => h⟩
theorem Ext.trans {G1 H1 G2 H2 : Hp} (a : Ext G H G1 H1) (b : Ext G1 H1 G2 H2) : Ext G H G2 H2 :=
  ⟨a.g.trans b.g, a.h.trans b.h, b.gh, fun x o h1 h2 => b.new x o (a.new x o h1 h2) (a.h x o h2)⟩
theorem Ext.add {p : Addr} {o : HO} (e : Ex G H) (h : H p = none) : Ext G H (upd G p o) (upd H p o) := by
  have hg : G p = none := fresh_back e h
  refine ⟨Ex.new hg, Ex.new h, fun a u q => ?_, fun a u q1 q2 => ?_⟩
  · by_cases ha : a = p
    · subst ha; rw [upd_same] at q ⊢; exact q
    · rw [upd_ne ha] at q ⊢; exact e _ _ q
  · rw [upd_ne (ne_of_none q2 h)]; exact q1
theorem Ext.addO {p : Addr} {o : HO} (e : Ex G H) (h : H p = none) : Ext G H G (upd H p o) :=
  ⟨Ex.refl _, Ex.new h, e.trans (Ex.new h), fun a u q1 q2 => q1⟩
/-- a new object that stands already joins what is known -/
theorem Ext.join {G1 H1 : Hp} {p : Addr} {o : HO} (x : Ext G H G1 H1) (h : H p = none) (h1 : H1 p = some o) (hg : G1 p = none) : Ext G H (upd G1 p o) H1 := by
  refine ⟨x.g.trans (Ex.new hg), x.h, fun a u q => ?_, fun a u q1 q2 => ?_⟩
  · by_cases ha : a = p
    · subst ha; rw [upd_same] at q; rw [h1]; exact q
    · rw [upd_ne ha] at q; exact x.gh _ _ q
  · rw [upd_ne (ne_of_none q2 h)]; exact x.new a u q1 q2
end

/-! ### the cells of a frame -/
inductive Cell where
  | unk | fro (d : D) | own (ds : List D) | owl (dss : List (List D)) | owi (p C : Addr) (fs : List (Str × D)) | owo (u : HO)
abbrev Env := List Cell
structure Ent where
  G : Hp
  H : Hp
inductive Rows (K : PySem.W.Frag) (G H : Hp) : List (List D) → List Addr → Prop
  | nil : Rows K G H [] []
  | cons {ds : List D} {dss : List (List D)} {q : Addr} {qs : List Addr} {vs : List V} : H q = some (.lst vs) → Reps K G ds vs → Rows K G H dss qs → Rows K G H (ds :: dss) (q :: qs)
def CellOk (K : PySem.W.Frag) (G H : Hp) : Cell → Option V → List Addr → Prop
  | .unk, _, _ => True
  | .fro d, o, _ => ∃ v, o = some v ∧ Rep K G d v
  | .own ds, o, fp => ∃ p vs, o = some (.ref p) ∧ p ∈ fp ∧ H p = some (.lst vs) ∧ Reps K G ds vs
  | .owl dss, o, fp => ∃ p qs, o = some (.ref p) ∧ (p :: qs).Nodup ∧ (∀ q ∈ p :: qs, q ∈ fp) ∧ H p = some (.lst (qs.map V.ref)) ∧ Rows K G H dss qs
  | .owi p C fs, o, fp => ∃ dx fvs, o = some (.ref p) ∧ p ∈ fp ∧ H p = some (.ins C dx fvs) ∧ RepF K G fs fvs
  | .owo u, o, fp => ∃ p, o = some (.ref p) ∧ p ∈ fp ∧ H p = some u
section
variable {K : PySem.W.Frag} {E : Ent} {G G' H H' : Hp} {σ : L2.St} {ρ : Env}
theorem Rows.mono (x : Ext G H G' H') : ∀ {dss : List (List D)} {qs : List Addr}, Rows K G H dss qs → Rows K G' H' dss qs
  | [], _, .nil => .nil
  | _ :: _, _, .cons a b r => .cons (x.h _ _ a) (b.mono x.g) (Rows.mono x r)
theorem CellOk.mono (x : Ext G H G' H') {c : Cell} {o : Option V} {fp : List Addr} (h : CellOk K G H c o fp) : CellOk K G' H' c o fp := by
  cases c with
  | unk => trivial
  | fro d =>
    obtain ⟨v, e, r⟩ := h
    exact ⟨v, e, r.mono x.g⟩
  | own ds =>
    obtain ⟨p, vs, e, h1, h2, r⟩ := h
    exact ⟨p, vs, e, h1, x.h _ _ h2, r.mono x.g⟩
  | owl dss =>
    obtain ⟨p, qs, e, h1, h2, h3, r⟩ := h
    exact ⟨p, qs, e, h1, h2, x.h _ _ h3, r.mono x⟩
  | owi p C fs =>
    obtain ⟨dx, fvs, e, h1, h2, r⟩ := h
    exact ⟨dx, fvs, e, h1, x.h _ _ h2, r.mono x.g⟩
  | owo u =>
    obtain ⟨p, e, h1, h2⟩ := h
    exact ⟨p, e, h1, x.h _ _ h2⟩
theorem Rows.at : ∀ {dss : List (List D)} {qs : List Addr}, Ex G G' → (∀ q ∈ qs, H' q = H q) → Rows K G H dss qs → Rows K G' H' dss qs
  | [], _, _, _, .nil => .nil
  | _ :: _, _, e, h, .cons a b r => .cons ((h _ List.mem_cons_self).trans a) (b.mono e) (Rows.at e (fun q hq => h q (List.mem_cons_of_mem _ hq)) r)
/-- the footprint of a cell as it was -/
theorem CellOk.at (e : Ex G G') {c : Cell} {o : Option V} {fp : List Addr} (x : ∀ q ∈ fp, H' q = H q) (h : CellOk K G H c o fp) : CellOk K G' H' c o fp := by
  cases c with
  | unk => trivial
  | fro d =>
    obtain ⟨v, e', r⟩ := h
    exact ⟨v, e', r.mono e⟩
  | own ds =>
    obtain ⟨p, vs, e', h1, h2, r⟩ := h
    exact ⟨p, vs, e', h1, (x p h1).trans h2, r.mono e⟩
  | owl dss =>
    obtain ⟨p, qs, e', h1, h2, h3, r⟩ := h
    exact ⟨p, qs, e', h1, h2, (x p (h2 p List.mem_cons_self)).trans h3, r.at e fun q hq => x q (h2 q (List.mem_cons_of_mem _ hq))⟩
  | owi p C fs =>
    obtain ⟨dx, fvs, e', h1, h2, r⟩ := h
    exact ⟨dx, fvs, e', h1, (x p h1).trans h2, r.mono e⟩
  | owo u =>
    obtain ⟨p, e', h1, h2⟩ := h
    exact ⟨p, e', h1, (x p h1).trans h2⟩
structure Fps (K : PySem.W.Frag) (E : Ent) (G H : Hp) (σ : L2.St) (ρ : Env) (fp : Nat → List Addr) : Prop where
  ok : ∀ i c o, ρ[i]? = some c → σ[i]? = some o → CellOk K G H c o (fp i)
  dom : ∀ i a, a ∈ fp i → E.H a = none ∧ G a = none ∧ ∃ o, H a = some o
  inj : ∀ i j a, a ∈ fp i → a ∈ fp j → i = j
structure RS (K : PySem.W.Frag) (E : Ent) (G H : Hp) (σ : L2.St) (ρ : Env) : Prop where
  ext : Ext E.G E.H G H
  len : σ.length = ρ.length
  fps : ∃ fp, Fps K E G H σ ρ fp
theorem RS.gh (R : RS K E G H σ ρ) : Ex G H := R.ext.gh
theorem RS.mono (R : RS K E G H σ ρ) (x : Ext G H G' H') : RS K E G' H' σ ρ := by
  obtain ⟨e, l, fp, f⟩ := R
  refine ⟨e.trans x, l, fp, ⟨fun i c o h1 h2 => (f.ok i c o h1 h2).mono x, fun i a h => ?_, f.inj⟩⟩
  obtain ⟨h1, h2, o, h3⟩ := f.dom i a h
  exact ⟨h1, x.new a o h2 h3, o, x.h _ _ h3⟩
theorem RS.slot (R : RS K E G H σ ρ) {i : Nat} {c : Cell} (h : ρ[i]? = some c) : ∃ o, σ[i]? = some o := by
  have hi : i < σ.length := by
    rw [R.len]
    exact (List.getElem?_eq_some_iff.mp h).1
  exact ⟨_, List.getElem?_eq_getElem hi⟩
theorem RS.fro (R : RS K E G H σ ρ) {i : Nat} {d : D} (h : ρ[i]? = some (.fro d)) : ∃ v, σ[i]? = some (some v) ∧ Rep K G d v := by
  obtain ⟨o, ho⟩ := R.slot h
  obtain ⟨fp, f⟩ := R.fps
  obtain ⟨v, e, r⟩ := f.ok i _ o h ho
  subst e
  exact ⟨v, ho, r⟩
theorem get_set {α : Type} {l : List α} {i j : Nat} {x y : α} (h : (l.set i x)[j]? = some y) : (i = j ∧ y = x) ∨ (i ≠ j ∧ l[j]? = some y) := by
  by_cases e : i = j
  · subst e
    by_cases hl : i < l.length
    · rw [List.getElem?_set_self hl] at h
      exact .inl ⟨rfl, (Option.some.inj h).symm⟩
    · rw [List.getElem?_eq_none (by rw [List.length_set]; omega)] at h
      cases h
  · rw [List.getElem?_set_ne e] at h
    exact .inr ⟨e, h⟩
/-- a cell is written: the addresses of the others stay apart from nf -/
theorem RS.setAny (R : RS K E G H σ ρ) {i : Nat} {v : V} {c : Cell} {nf : List Addr} {G1 H1 : Hp} (R1 : RS K E G1 H1 σ ρ) (x : Ext G1 H1 G H) (hc : CellOk K G H c (some v) nf)
    (hn : ∀ a ∈ nf, H1 a = none ∧ G a = none ∧ ∃ o, H a = some o) : RS K E G H (σ.set i (some v)) (ρ.set i c) := by
  obtain ⟨e, l, _⟩ := R
  obtain ⟨e1, _, fp, f⟩ := R1
  refine ⟨e, by rw [List.length_set, List.length_set]; exact l, fun k => if k = i then nf else fp k, ⟨fun j c' o h1 h2 => ?_, fun j a h => ?_, fun j k a h1 h2 => ?_⟩⟩
  · rcases get_set h1 with ⟨q, rfl⟩ | ⟨q, h1⟩
    · subst q
      rcases get_set h2 with ⟨_, rfl⟩ | ⟨q, _⟩
      · rw [if_pos rfl]; exact hc
      · exact absurd rfl q
    · rcases get_set h2 with ⟨q', _⟩ | ⟨_, h2⟩
      · exact absurd q' q
      · rw [if_neg (Ne.symm q)]
        exact (f.ok j c' o h1 h2).mono x
  · have h : a ∈ (if j = i then nf else fp j) := h
    split at h
    · obtain ⟨a1, a2, a3⟩ := hn a h
      exact ⟨fresh_back e1.h a1, a2, a3⟩
    · obtain ⟨a1, a2, o, a3⟩ := f.dom j a h
      exact ⟨a1, x.new a o a2 a3, o, x.h _ _ a3⟩
  · have h1 : a ∈ (if j = i then nf else fp j) := h1
    have h2 : a ∈ (if k = i then nf else fp k) := h2
    have old : ∀ m, a ∈ fp m → a ∈ nf → False := fun m hm hb => by
      obtain ⟨_, _, o, a3⟩ := f.dom m a hm
      rw [(hn a hb).1] at a3
      cases a3
    split at h1
    · split at h2
      · omega
      · exact (old k h2 h1).elim
    · split at h2
      · exact (old j h1 h2).elim
      · exact f.inj j k a h1 h2
theorem RS.setFro (R : RS K E G H σ ρ) {i : Nat} {d : D} {v : V} (r : Rep K G d v) : RS K E G H (σ.set i (some v)) (ρ.set i (.fro d)) :=
  RS.setAny R R (Ext.refl R.gh) (nf := []) ⟨v, rfl, r⟩ fun a h => by cases h
/-- a new list that stands at p -/
theorem RS.setOwn {G1 H1 : Hp} (R1 : RS K E G1 H1 σ ρ) (x : Ext G1 H1 G H) {i : Nat} {p : Addr} {vs : List V} {ds : List D} (h1 : H1 p = none) (hg : G p = none) (hp : H p = some (.lst vs)) (r : Reps K G ds vs) :
    RS K E G H (σ.set i (some (.ref p))) (ρ.set i (.own ds)) :=
  RS.setAny (R1.mono x) R1 x (nf := [p]) ⟨p, vs, rfl, List.mem_singleton.mpr rfl, hp, r⟩ fun a h => by
    rw [List.mem_singleton.mp h]
    exact ⟨h1, hg, _, hp⟩
theorem RS.unk (R : RS K E G H σ ρ) (i : Nat) : RS K E G H σ (ρ.set i .unk) := by
  obtain ⟨e, l, fp, f⟩ := R
  refine ⟨e, by rw [List.length_set]; exact l, fp, ⟨fun j c o h1 h2 => ?_, f.dom, f.inj⟩⟩
  rcases get_set h1 with ⟨_, rfl⟩ | ⟨_, h1⟩
  · trivial
  · exact f.ok j c o h1 h2
/-- what a cell owns may be written, what is new may join it -/
theorem RS.wr (R : RS K E G H σ ρ) {i : Nat} {c : Cell} (h : ρ[i]? = some c) : ∃ o fi, σ[i]? = some o ∧ CellOk K G H c o fi ∧ (∀ a ∈ fi, E.H a = none ∧ G a = none ∧ ∃ u, H a = some u) ∧
    ∀ G' H' H2 c' fi', Ext G H G' H' → (∀ a, a ∉ fi' → H2 a = H' a) → (∀ a ∈ fi', (a ∈ fi ∨ (H a = none ∧ G' a = none)) ∧ ∃ u, H2 a = some u) → CellOk K G' H2 c' o fi' → RS K E G' H2 σ (ρ.set i c') := by
  obtain ⟨o, ho⟩ := R.slot h
  obtain ⟨e, l, fp, f⟩ := R
  refine ⟨o, fp i, ho, f.ok i c o h ho, f.dom i, fun G' H' H2 c' fi' x hout hin hc => ?_⟩
  have free : ∀ a ∈ fi', E.H a = none ∧ G' a = none := fun a ha => by
    rcases (hin a ha).1 with z | z
    · obtain ⟨d1, d2, u, d3⟩ := f.dom i a z
      exact ⟨d1, x.new a u d2 d3⟩
    · exact ⟨fresh_back e.h z.1, z.2⟩
  have out : ∀ a, (E.H a ≠ none ∨ G' a ≠ none) → H2 a = H' a := fun a z => hout a fun q => by
    obtain ⟨q1, q2⟩ := free a q
    rcases z with z | z
    · exact z q1
    · exact z q2
  have t := e.trans x
  refine ⟨⟨t.g, fun a u q => ?_, fun a u q => ?_, t.new⟩, by rw [List.length_set]; exact l, fun k => if k = i then fi' else fp k, ⟨fun j c2 o2 h3 h4 => ?_, fun j a ha => ?_, fun j k a h3 h4 => ?_⟩⟩
  · rw [out a (.inl (by rw [q]; exact fun z => nomatch z))]; exact t.h _ _ q
  · rw [out a (.inr (by rw [q]; exact fun z => nomatch z))]; exact t.gh _ _ q
  · rcases get_set h3 with ⟨q, rfl⟩ | ⟨q, h3⟩
    · subst q
      rw [ho] at h4
      cases h4
      rw [if_pos rfl]; exact hc
    · rw [if_neg (Ne.symm q)]
      have c0 := (f.ok j c2 o2 h3 h4).mono x
      refine c0.at (Ex.refl _) fun a ha => hout a fun z => ?_
      rcases (hin a z).1 with y | y
      · exact q (f.inj i j a y ha)
      · obtain ⟨_, _, u, d3⟩ := f.dom j a ha
        rw [y.1] at d3; cases d3
  · have ha : a ∈ (if j = i then fi' else fp j) := ha
    split at ha
    · exact ⟨(free a ha).1, (free a ha).2, (hin a ha).2⟩
    · rename_i hj
      obtain ⟨a1, a2, u, a3⟩ := f.dom j a ha
      refine ⟨a1, x.new a u a2 a3, ?_⟩
      refine ⟨u, (hout a fun z => ?_).trans (x.h _ _ a3)⟩
      rcases (hin a z).1 with y | y
      · exact hj (f.inj j i a ha y)
      · rw [y.1] at a3; cases a3
  · have h3 : a ∈ (if j = i then fi' else fp j) := h3
    have h4 : a ∈ (if k = i then fi' else fp k) := h4
    have old : ∀ m, m ≠ i → a ∈ fp m → a ∈ fi' → False := fun m hm h5 h6 => by
      rcases (hin a h6).1 with y | y
      · exact hm (f.inj m i a h5 y)
      · obtain ⟨_, _, u, d3⟩ := f.dom m a h5
        rw [y.1] at d3; cases d3
    split at h3
    · split at h4
      · omega
      · rename_i hk; exact (old k hk h4 h3).elim
    · rename_i hj
      split at h4
      · exact (old j hj h3 h4).elim
      · exact f.inj j k a h3 h4
/-- the list that a cell owns: it may be written -/
theorem RS.own (R : RS K E G H σ ρ) {i : Nat} {ds : List D} (h : ρ[i]? = some (.own ds)) : ∃ p vs, σ[i]? = some (some (.ref p)) ∧ H p = some (.lst vs) ∧ G p = none ∧ E.H p = none ∧ Reps K G ds vs ∧
    ∀ G' H' vs' ds', Ext G H G' H' → Reps K G' ds' vs' → RS K E G' (upd H' p (.lst vs')) σ (ρ.set i (.own ds')) := by
  obtain ⟨o, fi, ho, ⟨p, vs, rfl, h1, h2, r⟩, dm, w⟩ := R.wr h
  obtain ⟨d1, d2, _⟩ := dm p h1
  refine ⟨p, vs, ho, h2, d2, d1, r, fun G' H' vs' ds' x r' => w G' H' _ (.own ds') [p] x (fun a ha => upd_ne fun z => ha (by rw [z]; exact List.mem_singleton.mpr rfl)) (fun a ha => ?_) ⟨p, vs', rfl, List.mem_singleton.mpr rfl, upd_same, r'⟩⟩
  rw [List.mem_singleton.mp ha]
  exact ⟨.inl h1, _, upd_same⟩
/-- what a cell owns becomes known for good -/
theorem RS.frz (R : RS K E G H σ ρ) {i : Nat} {c : Cell} (h : ρ[i]? = some c) : ∃ o fi, σ[i]? = some o ∧ CellOk K G H c o fi ∧ ∀ d, (∀ G', Ex G G' → Ex G' H → (∀ a ∈ fi, G' a = H a) → ∃ v, o = some v ∧ Rep K G' d v) → ∃ G', Ex G G' ∧ RS K E G' H σ (ρ.set i (.fro d)) := by
  obtain ⟨o, ho⟩ := R.slot h
  obtain ⟨e, l, fp, f⟩ := R
  refine ⟨o, fp i, ho, f.ok i c o h ho, fun d hd => ?_⟩
  classical
  let G' : Hp := fun a => if a ∈ fp i then H a else G a
  have g1 : Ex G G' := fun a u q => by
    show (if a ∈ fp i then H a else G a) = some u
    split
    · exact e.gh _ _ q
    · exact q
  have g2 : Ex G' H := fun a u q => by
    have q : (if a ∈ fp i then H a else G a) = some u := q
    split at q
    · exact q
    · exact e.gh _ _ q
  have g3 : ∀ a ∈ fp i, G' a = H a := fun a ha => by
    show (if a ∈ fp i then H a else G a) = H a
    rw [if_pos ha]
  refine ⟨G', g1, ⟨⟨e.g.trans g1, e.h, g2, fun a u q1 q2 => ?_⟩, by rw [List.length_set]; exact l, fun k => if k = i then [] else fp k, ⟨fun j c2 o2 h3 h4 => ?_, fun j a ha => ?_, fun j k a h3 h4 => ?_⟩⟩⟩
  · show (if a ∈ fp i then H a else G a) = none
    split
    · rename_i ha
      rw [(f.dom i a ha).1] at q2; cases q2
    · exact e.new a u q1 q2
  · rcases get_set h3 with ⟨q, rfl⟩ | ⟨q, h3⟩
    · subst q
      rw [ho] at h4
      cases h4
      exact hd G' g1 g2 g3
    · rw [if_neg (Ne.symm q)]
      exact (f.ok j c2 o2 h3 h4).at g1 fun _ _ => rfl
  · have ha : a ∈ (if j = i then [] else fp j) := ha
    split at ha
    · cases ha
    · rename_i hj
      obtain ⟨a1, a2, a3⟩ := f.dom j a ha
      refine ⟨a1, ?_, a3⟩
      show (if a ∈ fp i then H a else G a) = none
      rw [if_neg fun z => hj (f.inj j i a ha z)]
      exact a2
  · have h3 : a ∈ (if j = i then [] else fp j) := h3
    have h4 : a ∈ (if k = i then [] else fp k) := h4
    split at h3
    · cases h3
    · split at h4
      · cases h4
      · exact f.inj j k a h3 h4
theorem RS.freeze (R : RS K E G H σ ρ) {i : Nat} {ds : List D} (h : ρ[i]? = some (.own ds)) : ∃ G', Ex G G' ∧ RS K E G' H σ (ρ.set i (.fro (.lst ds))) := by
  obtain ⟨o, fi, ho, ⟨p, vs, rfl, h1, h2, r⟩, w⟩ := R.frz h
  exact w _ fun G' g1 g2 g3 => ⟨_, rfl, .lst ((g3 p h1).trans h2) (r.mono g1)⟩
/-- lists of lists -/
theorem Rows.reps {G2 : Hp} : ∀ {dss : List (List D)} {qs : List Addr}, Ex G G2 → (∀ q ∈ qs, G2 q = H q) → Rows K G H dss qs → Reps K G2 (dss.map D.lst) (qs.map V.ref)
  | [], _, _, _, .nil => .nil
  | _ :: _, _, e, h, .cons a b r => .cons (.lst ((h _ List.mem_cons_self).trans a) (b.mono e)) (Rows.reps e (fun q hq => h q (List.mem_cons_of_mem _ hq)) r)
theorem RS.freezeL (R : RS K E G H σ ρ) {i : Nat} {dss : List (List D)} (h : ρ[i]? = some (.owl dss)) : ∃ G', Ex G G' ∧ RS K E G' H σ (ρ.set i (.fro (.lst (dss.map D.lst)))) := by
  obtain ⟨o, fi, ho, ⟨p, qs, rfl, h1, h2, h3, r⟩, w⟩ := R.frz h
  exact w _ fun G' g1 g2 g3 => ⟨_, rfl, .lst ((g3 p (h2 p List.mem_cons_self)).trans h3) (r.reps g1 fun q hq => g3 q (h2 q (List.mem_cons_of_mem _ hq)))⟩
theorem RS.freezeI (R : RS K E G H σ ρ) {i : Nat} {p C : Addr} {fs : List (Str × D)} (h : ρ[i]? = some (.owi p C fs)) : ∃ G', Ex G G' ∧ RS K E G' H σ (ρ.set i (.fro (.ins C fs))) := by
  obtain ⟨o, fi, ho, ⟨dx, fvs, rfl, h1, h2, r⟩, w⟩ := R.frz h
  exact w _ fun G' g1 g2 g3 => ⟨_, rfl, .ins ((g3 p h1).trans h2) (r.mono g1)⟩
end
end DL
set_option maxRecDepth 100000
set_option maxHeartbeats 2000000
/-! DLb: the judgements over data: expressions, tests, arguments, walks, targets, statements. -/
namespace DL
open PySem L2 Evl

theorem PE.imp {X : Cx} {e : Expr} {t t' : TE} (p : PE X e t) (h : ∀ σ H Q, t' σ H Q → t σ H Q) : PE X e t' := ⟨fun pins s σ H Q I q => p.run pins s σ H Q I (h _ _ _ q)⟩
theorem PT.imp {X : Cx} {e : Expr} {t t' : TT} (p : PT X e t) (h : ∀ σ H Q, t' σ H Q → t σ H Q) : PT X e t' := ⟨fun pins s σ H Q I q => p.run pins s σ H Q I (h _ _ _ q)⟩
theorem PW.imp {X : Cx} {e : Expr} {t t' : TT} (p : PW X e t) (h : ∀ σ H Q, t' σ H Q → t σ H Q) : PW X e t' := ⟨fun wh pins s σ H Q I q => p.run wh pins s σ H Q I (h _ _ _ q)⟩
theorem PTs.imp {X : Cx} {e : List Expr} {t t' : TT} (p : PTs X e t) (h : ∀ σ H Q, t' σ H Q → t σ H Q) : PTs X e t' := ⟨fun pins s σ H Q I q => p.run pins s σ H Q I (h _ _ _ q)⟩
theorem PA.imp {X : Cx} {e : List Expr} {t t' : TA} (p : PA X e t) (h : ∀ σ H Q, t' σ H Q → t σ H Q) : PA X e t' := ⟨fun pos pins s σ H Q I q => p.run pos pins s σ H Q I (h _ _ _ q)⟩
theorem PSs.imp {X : Cx} {e : List Stmt} {t t' : TS} (p : PSs X e t) (h : ∀ D σ H, t' D σ H → t D σ H) : PSs X e t' := ⟨fun pins s σ H D I q => p.run pins s σ H D I (h _ _ _ q)⟩
theorem PI.imp {X : Cx} {tg e : Expr} {t t' : TI} (p : PI X tg e t) (h : ∀ σ H R, t' σ H R → t σ H R) : PI X tg e t' := ⟨fun pins s σ H R I q => p.run pins s σ H R I (h _ _ _ q)⟩
theorem PG.imp {X : Cx} {tg : Expr} {t t' : TG} (p : PG X tg t) (h : ∀ v σ H Q, t' v σ H Q → t v σ H Q) : PG X tg t' := ⟨fun pins s σ H v u Q I r q => p.run pins s σ H v u Q I r (h _ _ _ _ q)⟩

def tD (K : PySem.W.Frag) (ρ : Env) (d : D) : TE := fun σ H Q => ∃ E G, RS K E G H σ ρ ∧ ∀ v G' H', Ext G H G' H' → Rep K G' d v → Q v H'
/-- a new list, not yet known -/
def tDN (K : PySem.W.Frag) (ρ : Env) (ds : List D) : TE := fun σ H Q => ∃ E G, RS K E G H σ ρ ∧ ∀ p vs G' H', Ext G H G' H' → H p = none → G' p = none → H' p = some (.lst vs) → Reps K G' ds vs → Q (.ref p) H'
/-- a list, known or owned -/
def tDL (K : PySem.W.Frag) (ρ : Env) (ds : List D) : TE := fun σ H Q => ∃ E G, RS K E G H σ ρ ∧ ∀ p vs G' H', Ext G H G' H' → SqL K H' p vs → Reps K G' ds vs → Q (.ref p) H'
def tDT (K : PySem.W.Frag) (ρ : Env) (b : Bool) : TT := fun σ H Q => ∃ E G, RS K E G H σ ρ ∧ ∀ G' H', Ext G H G' H' → Q b H'
def tDA (K : PySem.W.Frag) (ρ : Env) (ds : List D) : TA := fun σ H Q => ∃ E G, RS K E G H σ ρ ∧ ∀ vs G' H', Ext G H G' H' → Reps K G' ds vs → Q vs H'
abbrev DE (X : Cx) (e : Expr) (ρ : Env) (d : D) : Prop := PE X e (tD X.K ρ d)
abbrev DN (X : Cx) (e : Expr) (ρ : Env) (ds : List D) : Prop := PE X e (tDN X.K ρ ds)
abbrev DLs (X : Cx) (e : Expr) (ρ : Env) (ds : List D) : Prop := PE X e (tDL X.K ρ ds)
abbrev DT (X : Cx) (e : Expr) (ρ : Env) (b : Bool) : Prop := PT X e (tDT X.K ρ b)
abbrev DW (X : Cx) (e : Expr) (ρ : Env) (b : Bool) : Prop := PW X e (tDT X.K ρ b)
abbrev DTs (X : Cx) (es : List Expr) (ρ : Env) (b : Bool) : Prop := PTs X es (tDT X.K ρ b)
abbrev DA (X : Cx) (es : List Expr) (ρ : Env) (ds : List D) : Prop := PA X es (tDA X.K ρ ds)

section
variable {X : Cx} {ρ : Env} {e a b c : Expr} {d da db dc : D} {ds es : List D} {pos : Pos}
theorem dn_e (h : DN X e ρ ds) : DE X e ρ (.lst ds) := PE.imp h fun σ H Q ⟨E, G, R, k⟩ => ⟨E, G, R, fun p vs G' H' x h0 hg hp r =>
  k _ _ _ (x.join h0 hp hg) (.lst upd_same (r.mono (Ex.new hg)))⟩
theorem de_l (h : DE X e ρ (.lst ds)) : DLs X e ρ ds := PE.imp h fun σ H Q ⟨E, G, R, k⟩ => ⟨E, G, R, fun v G' H' x r => by
  cases r with
  | lst h1 h2 => exact k _ _ _ _ x (sq_of (x.gh _ _ h1)) h2⟩
theorem de_lk (h : DE X e ρ (.lsk ds)) : DLs X e ρ ds := PE.imp h fun σ H Q ⟨E, G, R, k⟩ => ⟨E, G, R, fun v G' H' x r => by
  cases r with
  | lsk h1 h2 => exact k _ _ _ _ x (ex_l x.gh h1) h2⟩
theorem dn_l (h : DN X e ρ ds) : DLs X e ρ ds := de_l (dn_e h)
theorem de_eq {d' : D} (h : DE X e ρ d) (q : d = d') : DE X e ρ d' := q ▸ h
theorem dn_eq {ds' : List D} (h : DN X e ρ ds) (q : ds = ds') : DN X e ρ ds' := q ▸ h
theorem dt_eq {b b' : Bool} (h : DT X e ρ b) (q : b = b') : DT X e ρ b' := q ▸ h

/-! ### names, constants -/
theorem de_v (i : Nat) {x : Str} (h : ρ[i]? = some (.fro d) := by rfl) (hN : X.N[i]? = some x := by rfl) (hv : Vis X.env.scope x := by first | exact Or.inl rfl | exact Or.inr (Or.inl rfl) | exact Or.inr (Or.inr rfl)) (hd : (x == ("__debug__" : Str)) = false := by decide)
    (hcd : (x == ("__classdict__" : Str)) = false := by decide) : DE X (.Name x pos) ρ d := PE.imp (pv i hN hv hd hcd) fun σ H Q ⟨E, G, R, k⟩ => by
  obtain ⟨v, h1, r⟩ := R.fro h
  exact ⟨v, h1, k v G H (Ext.refl R.gh) r⟩
theorem dl_v (i : Nat) {x : Str} (h : ρ[i]? = some (.own ds) := by rfl) (hN : X.N[i]? = some x := by rfl) (hv : Vis X.env.scope x := by first | exact Or.inl rfl | exact Or.inr (Or.inl rfl) | exact Or.inr (Or.inr rfl)) (hd : (x == ("__debug__" : Str)) = false := by decide)
    (hcd : (x == ("__classdict__" : Str)) = false := by decide) : DLs X (.Name x pos) ρ ds := PE.imp (pv i hN hv hd hcd) fun σ H Q ⟨E, G, R, k⟩ => by
  obtain ⟨p, vs, h1, h2, _, _, r, _⟩ := R.own h
  exact ⟨_, h1, k p vs G H (Ext.refl R.gh) (sq_of h2) r⟩
theorem de_c {v : V} (p : PE X e (tC v)) (h : ∀ G, Rep X.K G d v) : DE X e ρ d := PE.imp p fun σ H Q ⟨E, G, R, k⟩ => k v G H (Ext.refl R.gh) (h G)
theorem de_int {i : Int} {j pos} : DE X (.Constant (.int i) j pos) ρ (.int i) := de_c pe_int fun _ => .int i
theorem de_bl {i : Bool} {j pos} : DE X (.Constant (.bool i) j pos) ρ (.bl i) := de_c pe_bl fun _ => .bl i
theorem de_non {j pos} : DE X (.Constant .none j pos) ρ .non := de_c pe_non fun _ => .non
theorem de_str {x : Str} {j pos} : DE X (.Constant (.str x) j pos) ρ (.str x) := de_c pe_str fun _ => .str x

/-! ### two operands -/
theorem op_imp {r : R2} (ra rb : TE) (ha : ∀ σ H Q, tD X.K ρ da σ H Q → ra σ H Q) (hb : ∀ σ H Q, tD X.K ρ db σ H Q → rb σ H Q)
    (hr : ∀ v w G H Q, Ex G H → Rep X.K G da v → Rep X.K G db w → (∀ z G' H', Ext G H G' H' → Rep X.K G' d z → Q z H') → r v w H Q) :
    ∀ σ H Q, tD X.K ρ d σ H Q → tOp r ra rb σ H Q := fun σ H Q ⟨E, G, R, k⟩ =>
  ha _ _ _ ⟨E, G, R, fun v G1 H1 x1 r1 => hb _ _ _ ⟨E, G1, R.mono x1, fun w G2 H2 x2 r2 => hr v w G2 H2 Q x2.gh (r1.mono x2.g) r2 fun z G' H' x r => k z G' H' ((x1.trans x2).trans x) r⟩⟩
theorem de_op {op : Operator} {r : R2} (ho : OpR X (binaryOp op) r) (ha : DE X a ρ da) (hb : DE X b ρ db)
    (hr : ∀ v w G H Q, Ex G H → Rep X.K G da v → Rep X.K G db w → (∀ z G' H', Ext G H G' H' → Rep X.K G' d z → Q z H') → r v w H Q) : DE X (.BinOp a op b pos) ρ d :=
  PE.imp (pe_op ho ha hb) (op_imp _ _ (fun _ _ _ h => h) (fun _ _ _ h => h) hr)
theorem int2 {r : Int → Int → Prop} {i j : Int} {z : V} {v w : V} {G H : Hp} {Q : VK} {K : PySem.W.Frag} (ra : Rep K G (.int i) v) (rb : Rep K G (.int j) w) (hr : r i j) (k : Q z H) : ∃ i' j', v = .int i' ∧ w = .int j' ∧ r i j ∧ (i' = i ∧ j' = j ∧ Q z H) := by
  cases ra
  cases rb
  exact ⟨i, j, rfl, rfl, hr, rfl, rfl, k⟩
variable {i j : Int}
theorem de_add (ha : DE X a ρ (.int i)) (hb : DE X b ρ (.int j)) : DE X (.BinOp a .Add b pos) ρ (.int (i + j)) := de_op op_add ha hb fun v w G H Q e ra rb k => by
  cases ra; cases rb
  exact ⟨i, j, rfl, rfl, k _ _ _ (Ext.refl e) (.int _)⟩
theorem de_sub (ha : DE X a ρ (.int i)) (hb : DE X b ρ (.int j)) : DE X (.BinOp a .Sub b pos) ρ (.int (i - j)) := de_op op_sub ha hb fun v w G H Q e ra rb k => by
  cases ra; cases rb
  exact ⟨i, j, rfl, rfl, k _ _ _ (Ext.refl e) (.int _)⟩
theorem de_mul (ha : DE X a ρ (.int i)) (hb : DE X b ρ (.int j)) (hc : CMul i j) : DE X (.BinOp a .Mult b pos) ρ (.int (i * j)) := de_op op_mul ha hb fun v w G H Q e ra rb k => by
  cases ra; cases rb
  exact ⟨i, j, rfl, rfl, hc, k _ _ _ (Ext.refl e) (.int _)⟩
theorem de_fdiv (ha : DE X a ρ (.int i)) (hb : DE X b ρ (.int j)) (hc : 0 < j ∧ j < 1073741824) : DE X (.BinOp a .FloorDiv b pos) ρ (.int (i / j)) := de_op op_fdiv ha hb fun v w G H Q e ra rb k => by
  cases ra; cases rb
  exact ⟨i, j, rfl, rfl, hc, k _ _ _ (Ext.refl e) (.int _)⟩
theorem de_mod (ha : DE X a ρ (.int i)) (hb : DE X b ρ (.int j)) (hc : 0 < j) : DE X (.BinOp a .Mod b pos) ρ (.int (i % j)) := de_op op_mod ha hb fun v w G H Q e ra rb k => by
  cases ra; cases rb
  exact ⟨i, j, rfl, rfl, hc, k _ _ _ (Ext.refl e) (.int _)⟩
theorem de_pow (ha : DE X a ρ (.int i)) (hb : DE X b ρ (.int j)) (hc : CPow i j) : DE X (.BinOp a .Pow b pos) ρ (.int (i ^ j.toNat)) := de_op op_pow ha hb fun v w G H Q e ra rb k => by
  cases ra; cases rb
  exact ⟨i, j, rfl, rfl, hc, k _ _ _ (Ext.refl e) (.int _)⟩
theorem de_powC {v : Int} (ha : DE X a ρ (.int i)) (hb : DE X b ρ (.int j)) (hc : 0 ≤ j ∧ j ≤ 100 ∧ i.natAbs < 2 ^ 64) (hv : i ^ j.toNat = v) : DE X (.BinOp a .Pow b pos) ρ (.int v) := de_eq (de_pow ha hb ⟨hc.1, by omega, hc.2.2⟩) (by rw [hv])
theorem de_neg (ha : DE X a ρ (.int i)) : DE X (.UnaryOp .USub a pos) ρ (.int (-i)) := PE.imp (pe_un un_neg ha) fun σ H Q ⟨E, G, R, k⟩ =>
  ⟨E, G, R, fun v G1 H1 x1 r1 => by
    cases r1
    exact ⟨i, rfl, k _ _ _ x1 (.int _)⟩⟩
/-- lists and tuples put together -/
theorem dn_op {op : Operator} {r : R2} (ho : OpR X (binaryOp op) r) (ha : DE X a ρ da) (hb : DE X b ρ db)
    (hr : ∀ v w G H Q, Ex G H → Rep X.K G da v → Rep X.K G db w → (∀ p vs, H p = none → Reps X.K G ds vs → Q (.ref p) (upd H p (.lst vs))) → r v w H Q) : DN X (.BinOp a op b pos) ρ ds :=
  PE.imp (pe_op ho ha hb) fun σ H Q ⟨E, G, R, k⟩ => ⟨E, G, R, fun v G1 H1 x1 r1 => ⟨E, G1, R.mono x1, fun w G2 H2 x2 r2 => hr v w G2 H2 Q x2.gh (r1.mono x2.g) r2 fun p vs hp r =>
    k p vs G2 _ ((x1.trans x2).trans (Ext.addO x2.gh hp)) (fresh_back (x1.h.trans x2.h) hp) (fresh_back x2.gh hp) upd_same r⟩⟩
theorem dn_cat (ha : DE X a ρ (.lst ds)) (hb : DE X b ρ (.lst es)) (hz : ds.length + es.length ≤ 100000) : DN X (.BinOp a .Add b pos) ρ (ds ++ es) := dn_op op_cat ha hb fun v w G H Q e ra rb k => by
  cases ra with
  | lst h1 q1 =>
    cases rb with
    | lst h2 q2 => exact ⟨_, _, _, _, rfl, rfl, e _ _ h1, e _ _ h2, sz_of (by rw [← q1.length, ← q2.length]; exact hz), fun p hp => k p _ hp (q1.append q2)⟩
theorem reps_rep {K : PySem.W.Frag} {G : Hp} {vs : List V} (h : Reps K G ds vs) : ∀ n : Nat, Reps K G (List.replicate n ds).flatten (List.replicate n vs).flatten
  | 0 => .nil
  | n + 1 => by
    rw [List.replicate_succ, List.replicate_succ, List.flatten_cons, List.flatten_cons]
    exact h.append (reps_rep h n)
theorem dn_rep (ha : DE X a ρ (.lst ds)) (hb : DE X b ρ (.int i)) (hz : ds.length ≤ 100 ∧ 0 ≤ i ∧ i ≤ 100) : DN X (.BinOp a .Mult b pos) ρ (List.replicate i.toNat ds).flatten := dn_op op_rep ha hb fun v w G H Q e ra rb k => by
  cases rb
  cases ra with
  | lst h1 q1 =>
    refine ⟨_, _, _, rfl, rfl, e _ _ h1, by omega, by omega, sz_of ?_, fun p hp => k p _ hp (reps_rep q1 _)⟩
    rw [← q1.length]
    have : ds.length * i.toNat ≤ 100 * 100 := Nat.mul_le_mul hz.1 (by omega)
    omega
theorem de_catT (ha : DE X a ρ (.tup ds)) (hb : DE X b ρ (.tup es)) (hz : ds ≠ [] ∧ es ≠ [] ∧ ds.length + es.length ≤ 100000) : DE X (.BinOp a .Add b pos) ρ (.tup (ds ++ es)) := de_op op_catT ha hb fun v w G H Q e ra rb k => by
  cases ra with
  | tup h1 q1 =>
    cases rb with
    | tup h2 q2 =>
      refine ⟨_, _, _, _, rfl, rfl, ex_t e h1, ex_t e h2, fun z => hz.1 ?_, sz_of (by rw [← q1.length, ← q2.length]; exact hz.2.2), fun z => (hz.2.1 ?_).elim, fun _ p hp => k _ _ _ (Ext.add e hp) (.tup (st_of upd_same) ((q1.append q2).mono (Ex.new (fresh_back e hp))))⟩
      · subst z; cases q1; rfl
      · subst z; cases q2; rfl

/-! ### comparisons -/
theorem de_cmp {op : CmpOp} {r : R2} (ho : OpR X (compareOp op) r) (ha : DE X a ρ da) (hb : DE X b ρ db)
    (hr : ∀ v w G H Q, Ex G H → Rep X.K G da v → Rep X.K G db w → (∀ z G' H', Ext G H G' H' → Rep X.K G' d z → Q z H') → r v w H Q) (hm : behindInMarks op b = false) : DE X (.Compare a [op] [b] pos) ρ d :=
  PE.imp (pe_cmpR ho ha hb hm) (op_imp _ _ (fun _ _ _ h => h) (fun _ _ _ h => h) hr)
theorem dt_cmp {op : CmpOp} {r : R2} {k0 : Bool} (ho : OpR X (compareOp op) r) (ha : DE X a ρ da) (hb : DE X b ρ db)
    (hr : ∀ v w G H Q, Ex G H → Rep X.K G da v → Rep X.K G db w → (∀ z G' H', Ext G H G' H' → Rep X.K G' (.bl k0) z → Q z H') → r v w H Q) (hm : behindInMarks op b = false) : DT X (.Compare a [op] [b] pos) ρ k0 :=
  PT.imp (pt_cmpR ho ha hb hm) fun σ H Q ⟨E, G, R, k⟩ => op_imp (d := .bl k0) _ _ (fun _ _ _ h => h) (fun _ _ _ h => h) hr σ H _ ⟨E, G, R, fun v G' H' x r => by
    cases r
    exact ⟨_, rfl, k _ _ x⟩⟩
theorem rlt {K : PySem.W.Frag} {p : Int → Int → Bool} : ∀ v w G H Q, Ex G H → Rep K G (.int i) v → Rep K G (.int j) w → (∀ z G' H', Ext G H G' H' → Rep K G' (.bl (p i j)) z → Q z H') → rI0 (fun i j => .bl (p i j)) v w H Q := fun v w G H Q e ra rb k => by
  cases ra; cases rb
  exact ⟨i, j, rfl, rfl, k _ _ _ (Ext.refl e) (.bl _)⟩
theorem req {K : PySem.W.Frag} : ∀ v w G H Q, Ex G H → Rep K G (.int i) v → Rep K G (.int j) w → (∀ z G' H', Ext G H G' H' → Rep K G' (.bl (decide (i = j))) z → Q z H') → rEq v w H Q := fun v w G H Q e ra rb k => by
  cases ra; cases rb
  refine ⟨rfl, k _ _ _ (Ext.refl e) ?_⟩
  have : decide (V.int i = V.int j) = decide (i = j) := by rw [dec_int, Bool.beq_eq_decide_eq]
  rw [this]
  exact .bl _
theorem rne {K : PySem.W.Frag} : ∀ v w G H Q, Ex G H → Rep K G (.int i) v → Rep K G (.int j) w → (∀ z G' H', Ext G H G' H' → Rep K G' (.bl (!decide (i = j))) z → Q z H') → rNe v w H Q := fun v w G H Q e ra rb k => by
  cases ra; cases rb
  refine ⟨rfl, k _ _ _ (Ext.refl e) ?_⟩
  have : decide (V.int i = V.int j) = decide (i = j) := by rw [dec_int, Bool.beq_eq_decide_eq]
  rw [this]
  exact .bl _
theorem de_lt (ha : DE X a ρ (.int i)) (hb : DE X b ρ (.int j)) : DE X (.Compare a [.Lt] [b] pos) ρ (.bl (decide (i < j))) := de_cmp op_lt ha hb (rlt (p := fun i j => decide (i < j))) (nomark _)
theorem de_le (ha : DE X a ρ (.int i)) (hb : DE X b ρ (.int j)) : DE X (.Compare a [.LtE] [b] pos) ρ (.bl (decide (i ≤ j))) := de_cmp op_le ha hb (rlt (p := fun i j => decide (i ≤ j))) (nomark _)
theorem de_gt (ha : DE X a ρ (.int i)) (hb : DE X b ρ (.int j)) : DE X (.Compare a [.Gt] [b] pos) ρ (.bl (decide (j < i))) := de_cmp op_gt ha hb (rlt (p := fun i j => decide (j < i))) (nomark _)
theorem de_ge (ha : DE X a ρ (.int i)) (hb : DE X b ρ (.int j)) : DE X (.Compare a [.GtE] [b] pos) ρ (.bl (decide (j ≤ i))) := de_cmp op_ge ha hb (rlt (p := fun i j => decide (j ≤ i))) (nomark _)
theorem de_eqI (ha : DE X a ρ (.int i)) (hb : DE X b ρ (.int j)) : DE X (.Compare a [.Eq] [b] pos) ρ (.bl (decide (i = j))) := de_cmp op_eq ha hb req (nomark _)
theorem de_neI (ha : DE X a ρ (.int i)) (hb : DE X b ρ (.int j)) : DE X (.Compare a [.NotEq] [b] pos) ρ (.bl (!decide (i = j))) := de_cmp op_ne ha hb rne (nomark _)
theorem dt_lt (ha : DE X a ρ (.int i)) (hb : DE X b ρ (.int j)) : DT X (.Compare a [.Lt] [b] pos) ρ (decide (i < j)) := dt_cmp op_lt ha hb (rlt (p := fun i j => decide (i < j))) (nomark _)
theorem dt_le (ha : DE X a ρ (.int i)) (hb : DE X b ρ (.int j)) : DT X (.Compare a [.LtE] [b] pos) ρ (decide (i ≤ j)) := dt_cmp op_le ha hb (rlt (p := fun i j => decide (i ≤ j))) (nomark _)
theorem dt_gt (ha : DE X a ρ (.int i)) (hb : DE X b ρ (.int j)) : DT X (.Compare a [.Gt] [b] pos) ρ (decide (j < i)) := dt_cmp op_gt ha hb (rlt (p := fun i j => decide (j < i))) (nomark _)
theorem dt_ge (ha : DE X a ρ (.int i)) (hb : DE X b ρ (.int j)) : DT X (.Compare a [.GtE] [b] pos) ρ (decide (j ≤ i)) := dt_cmp op_ge ha hb (rlt (p := fun i j => decide (j ≤ i))) (nomark _)
theorem dt_eqI (ha : DE X a ρ (.int i)) (hb : DE X b ρ (.int j)) : DT X (.Compare a [.Eq] [b] pos) ρ (decide (i = j)) := dt_cmp op_eq ha hb req (nomark _)
theorem dt_neI (ha : DE X a ρ (.int i)) (hb : DE X b ρ (.int j)) : DT X (.Compare a [.NotEq] [b] pos) ρ (!decide (i = j)) := dt_cmp op_ne ha hb rne (nomark _)
/-- two bools -/
theorem reqB {K : PySem.W.Frag} {x y : Bool} : ∀ v w G H Q, Ex G H → Rep K G (.bl x) v → Rep K G (.bl y) w → (∀ z G' H', Ext G H G' H' → Rep K G' (.bl (x == y)) z → Q z H') → rEq v w H Q := fun v w G H Q e ra rb k => by
  cases ra; cases rb
  refine ⟨rfl, k _ _ _ (Ext.refl e) ?_⟩
  rw [dec_bl]
  exact .bl _
theorem de_eqB {x y : Bool} (ha : DE X a ρ (.bl x)) (hb : DE X b ρ (.bl y)) : DE X (.Compare a [.Eq] [b] pos) ρ (.bl (x == y)) := de_cmp op_eq ha hb reqB (nomark _)
/-- is None -/
def D.isNon : D → Bool
  | .non => true
  | _ => false
theorem Rep.isNon {K : PySem.W.Frag} {G : Hp} {v : V} (r : Rep K G d v) : decide (v = .non) = d.isNon := by
  cases r <;> rfl
theorem risN {K : PySem.W.Frag} : ∀ v w G H Q, Ex G H → Rep K G da v → Rep K G .non w → (∀ z G' H', Ext G H G' H' → Rep K G' (.bl da.isNon) z → Q z H') → (fun x y H Q => y = V.non ∧ Q (V.bl (decide (x = V.non))) H : R2) v w H Q := fun v w G H Q e ra rb k => by
  cases rb
  refine ⟨rfl, ?_⟩
  rw [ra.isNon]
  exact k _ _ _ (Ext.refl e) (.bl _)
theorem rnotN {K : PySem.W.Frag} : ∀ v w G H Q, Ex G H → Rep K G da v → Rep K G .non w → (∀ z G' H', Ext G H G' H' → Rep K G' (.bl (!da.isNon)) z → Q z H') → (fun x y H Q => y = V.non ∧ Q (V.bl (!decide (x = V.non))) H : R2) v w H Q := fun v w G H Q e ra rb k => by
  cases rb
  refine ⟨rfl, ?_⟩
  rw [ra.isNon]
  exact k _ _ _ (Ext.refl e) (.bl _)
theorem de_isN {j' p'} (ha : DE X a ρ da) : DE X (.Compare a [.Is] [.Constant .none j' p'] pos) ρ (.bl da.isNon) := de_cmp op_isN ha de_non risN (nomark _)
theorem de_notN {j' p'} (ha : DE X a ρ da) : DE X (.Compare a [.IsNot] [.Constant .none j' p'] pos) ρ (.bl (!da.isNon)) := de_cmp op_notN ha de_non rnotN (nomark _)
theorem dt_isN {j' p'} (ha : DE X a ρ da) : DT X (.Compare a [.Is] [.Constant .none j' p'] pos) ρ da.isNon := dt_cmp op_isN ha de_non risN (nomark _)
theorem dt_notN {j' p'} (ha : DE X a ρ da) : DT X (.Compare a [.IsNot] [.Constant .none j' p'] pos) ρ (!da.isNon) := dt_cmp op_notN ha de_non rnotN (nomark _)
end
end DL
set_option maxRecDepth 100000
set_option maxHeartbeats 2000000
/-! DLc: and, or, not, displays, subscripts, membership, equality, built-ins. -/
namespace DL
open PySem PySem.Spec PyProof.Rows L2 Evl
section
variable {X : Cx} {ρ : Env} {e a b c : Expr} {d da db dc : D} {ds es : List D} {pos : Pos} {i j : Int} {b1 b2 : Bool} {rest : List Expr}

/-! ### tests -/
theorem dt_v (h : DE X e ρ (.bl b1)) (he : ∀ whole, isTrue e X.env whole = (do let v ← whole; standAt e.pos; holding [v] (truthy v)) := by intro _; rfl) : DT X e ρ b1 := PT.imp (pt_val h he) fun σ H Q ⟨E, G, R, k⟩ => ⟨E, G, R, fun v G' H' x r => by
  cases r
  exact ⟨_, rfl, k _ _ x⟩⟩
theorem dt_run {pins : List (Addr × Obj)} {s : Shared} {σ : L2.St} {H G : Hp} {E : Ent} (hc : DT X c ρ b1) (I : Inv X pins σ H s) (R : RS X.K E G H σ ρ) :
    wpAny (model X.prog X.w) X.A (isTrue c X.env (eval c X.env)) (fun k s1 => k = b1 ∧ ∃ G1 H1, Inv X pins σ H1 s1 ∧ Ext G H G1 H1) X.xe s :=
  thn (hc.run pins s σ H (fun k H' => k = b1 ∧ ∃ G', Ext G H G' H') I ⟨E, G, R, fun G' H' x => ⟨rfl, G', x⟩⟩) fun k s1 ⟨H1, I1, e, G1, x⟩ => ⟨e, G1, H1, I1, x⟩
theorem dw_and1 (ha : DT X a ρ b1) : DW X (.BoolOp .And [a] pos) ρ b1 := pw_and1 ha
theorem dw_or1 (ha : DT X a ρ b1) : DW X (.BoolOp .Or [a] pos) ρ b1 := pw_or1 ha
theorem dw_and (ha : DT X a ρ b1) (hb : b1 = true → DW X (.BoolOp .And (b :: rest) pos) ρ b2) : DW X (.BoolOp .And (a :: b :: rest) pos) ρ (b1 && b2) := ⟨fun wh pins s σ H Q I ⟨E, G, R, k⟩ => by
  refine isTrue_and (thn (dt_run ha I R) fun c s1 ⟨e, G1, H1, I1, x⟩ => ?_)
  subst e
  cases c with
  | true => exact (hb rfl).run wh pins s1 σ H1 Q I1 ⟨E, G1, R.mono x, fun G2 H2 x2 => k _ _ (x.trans x2)⟩
  | false => exact ⟨H1, I1, k _ _ x⟩⟩
theorem dw_or (ha : DT X a ρ b1) (hb : b1 = false → DW X (.BoolOp .Or (b :: rest) pos) ρ b2) : DW X (.BoolOp .Or (a :: b :: rest) pos) ρ (b1 || b2) := ⟨fun wh pins s σ H Q I ⟨E, G, R, k⟩ => by
  refine isTrue_or (thn (dt_run ha I R) fun c s1 ⟨e, G1, H1, I1, x⟩ => ?_)
  subst e
  cases c with
  | false => exact (hb rfl).run wh pins s1 σ H1 Q I1 ⟨E, G1, R.mono x, fun G2 H2 x2 => k _ _ (x.trans x2)⟩
  | true => exact ⟨H1, I1, k _ _ x⟩⟩
theorem dw_t (h : DW X e ρ b1) : DT X e ρ b1 := PW.pt h
theorem dt_not (ha : DT X a ρ b1) : DT X (.UnaryOp .Not a pos) ρ (!b1) := PT.imp (pt_not ha) fun σ H Q ⟨E, G, R, k⟩ => ⟨E, G, R, fun G' H' x => k _ _ x⟩
/-- as values -/
theorem de_one {op} (h : DE X a ρ d) : DE X (.BoolOp op [a] pos) ρ d := pe_one h
theorem de_and (ha : DE X a ρ (.bl b1)) (hb : b1 = true → DE X (.BoolOp .And (b :: rest) pos) ρ (.bl b2)) : DE X (.BoolOp .And (a :: b :: rest) pos) ρ (.bl (b1 && b2)) := by
  cases b1 with
  | true => exact PE.imp (pe_and ha (hb rfl)) fun σ H Q ⟨E, G, R, k⟩ => ⟨E, G, R, fun v G1 H1 x1 r => by
      cases r
      exact ⟨_, rfl, iteT ⟨E, G1, R.mono x1, fun w G2 H2 x2 r2 => k _ _ _ (x1.trans x2) r2⟩⟩⟩
  | false => exact ⟨fun pins s σ H Q I ⟨E, G, R, k⟩ => BoolOp_and (thn (ha.run pins s σ H _ I ⟨E, G, R, fun v G' H' x r => (show (fun v H' => v = V.bl false ∧ Q (.bl false) H') v H' from by
        cases r
        exact ⟨rfl, k _ _ _ x (.bl _)⟩)⟩) fun v s1 ⟨y, H1, I1, r1, q1⟩ => by
      obtain ⟨rfl, q1⟩ := q1
      cases r1
      exact wpAny_truthy_bool ⟨.bl false, H1, I1, rfl, q1⟩)⟩
theorem de_or (ha : DE X a ρ (.bl b1)) (hb : b1 = false → DE X (.BoolOp .Or (b :: rest) pos) ρ (.bl b2)) : DE X (.BoolOp .Or (a :: b :: rest) pos) ρ (.bl (b1 || b2)) := by
  cases b1 with
  | false => exact PE.imp (pe_or ha (hb rfl)) fun σ H Q ⟨E, G, R, k⟩ => ⟨E, G, R, fun v G1 H1 x1 r => by
      cases r
      exact ⟨_, rfl, iteF ⟨E, G1, R.mono x1, fun w G2 H2 x2 r2 => k _ _ _ (x1.trans x2) r2⟩⟩⟩
  | true => exact ⟨fun pins s σ H Q I ⟨E, G, R, k⟩ => BoolOp_or (thn (ha.run pins s σ H _ I ⟨E, G, R, fun v G' H' x r => (show (fun v H' => v = V.bl true ∧ Q (.bl true) H') v H' from by
        cases r
        exact ⟨rfl, k _ _ _ x (.bl _)⟩)⟩) fun v s1 ⟨y, H1, I1, r1, q1⟩ => by
      obtain ⟨rfl, q1⟩ := q1
      cases r1
      exact wpAny_truthy_bool ⟨.bl true, H1, I1, rfl, q1⟩)⟩
theorem de_not (ha : DE X a ρ (.bl b1)) : DE X (.UnaryOp .Not a pos) ρ (.bl (!b1)) := PE.imp (pe_not ha) fun σ H Q ⟨E, G, R, k⟩ => ⟨E, G, R, fun v G' H' x r => by
  cases r
  exact ⟨_, rfl, k _ _ _ x (.bl _)⟩⟩
/-- a if c else b -/
theorem de_ifE (hc : DT X c ρ b1) (ha : b1 = true → DE X a ρ d) (hb : b1 = false → DE X b ρ d) : DE X (.IfExp c a b pos) ρ d := ⟨fun pins s σ H Q I ⟨E, G, R, k⟩ => by
  refine wpAny_IfExp (thn (dt_run hc I R) fun c s1 ⟨e, G1, H1, I1, x⟩ => ?_)
  subst e
  cases c with
  | true => exact (ha rfl).run pins s1 σ H1 Q I1 ⟨E, G1, R.mono x, fun v G2 H2 x2 r => k _ _ _ (x.trans x2) r⟩
  | false => exact (hb rfl).run pins s1 σ H1 Q I1 ⟨E, G1, R.mono x, fun v G2 H2 x2 r => k _ _ _ (x.trans x2) r⟩⟩

/-! ### arguments, displays -/
theorem da_nil : DA X [] ρ [] := PA.imp pa_nil fun σ H Q ⟨E, G, R, k⟩ => k _ _ _ (Ext.refl R.gh) .nil
theorem da_cons {es' : List Expr} (ha : DE X e ρ d) (hr : DA X es' ρ ds) (hs : starEach (e :: es') X.env = (false, eval e X.env) :: starEach es' X.env := by rfl) : DA X (e :: es') ρ (d :: ds) := PA.imp (pa_cons ha hr hs) fun σ H Q ⟨E, G, R, k⟩ =>
  ⟨E, G, R, fun v G1 H1 x1 r1 => ⟨E, G1, R.mono x1, fun vs G2 H2 x2 r2 => k _ _ _ (x1.trans x2) (.cons (r1.mono x2.g) r2)⟩⟩
theorem de_tup {es' : List Expr} {x1} (h : DA X es' ρ ds) (hz : ds.length ≤ 100000 := by simp) : DE X (.Tuple es' x1 pos) ρ (.tup ds) := PE.imp (pe_tup h) fun σ H Q ⟨E, G, R, k⟩ =>
  ⟨E, G, R, fun vs G' H' x r => ⟨sz_of (by rw [← r.length]; exact hz), fun p hp => k _ _ _ (x.trans (Ext.add x.gh hp)) (.tup (st_of upd_same) (r.mono (Ex.new (fresh_back x.gh hp))))⟩⟩
theorem dn_lst {es' : List Expr} (h : DA X es' ρ ds) (hz : ds.length ≤ 100000 := by simp) : DN X (.List es' pos) ρ ds := PE.imp (pe_lst h) fun σ H Q ⟨E, G, R, k⟩ =>
  ⟨E, G, R, fun vs G' H' x r => ⟨sz_of (by rw [← r.length]; exact hz), fun p hp => k p vs G' _ (x.trans (Ext.addO x.gh hp)) (fresh_back x.h hp) (fresh_back x.gh hp) upd_same r⟩⟩

/-! ### subscripts -/
theorem atI_len {α β : Type} {xs : List α} {ys : List β} {i : Int} {x : α} (hl : xs.length = ys.length) (h : atI xs i = some x) : ∃ j, ixN ys.length i = some j ∧ xs[j]? = some x := by
  unfold atI at h
  rw [hl] at h
  cases q : ixN ys.length i with
  | none => rw [q] at h; cases h
  | some j => rw [q] at h; exact ⟨j, rfl, h⟩
theorem Reps.atI {K : PySem.W.Frag} {G : Hp} {vs : List V} (r : Reps K G ds vs) (h : atI ds i = some d) : ∃ v, L2.atI vs i = some v ∧ Rep K G d v := by
  obtain ⟨j, h1, h2⟩ := atI_len r.length h
  obtain ⟨v, h3, r3⟩ := r.get h2
  refine ⟨v, ?_, r3⟩
  unfold L2.atI
  rw [h1]
  exact h3
theorem de_ixL (ha : DLs X a ρ ds) (hb : DE X b ρ (.int i)) (h : atI ds i = some d) (hs : PlainIx b := by intro _ _; rfl) : DE X (.Subscript a b pos) ρ d := PE.imp (pe_ix ix_list ha hb hs) fun σ H Q ⟨E, G, R, k⟩ =>
  ⟨E, G, R, fun p vs G1 H1 x1 h1 r1 => ⟨E, G1, R.mono x1, fun w G2 H2 x2 r2 => by
    cases r2
    obtain ⟨v, h3, r3⟩ := r1.atI h
    exact ⟨p, vs, i, v, rfl, rfl, ex_l x2.h h1, h3, k _ _ _ (x1.trans x2) (r3.mono x2.g)⟩⟩⟩
theorem de_ixT (ha : DE X a ρ (.tup ds)) (hb : DE X b ρ (.int i)) (h : atI ds i = some d) (hs : PlainIx b := by intro _ _; rfl) : DE X (.Subscript a b pos) ρ d := PE.imp (pe_ix ix_tup ha hb hs) fun σ H Q ⟨E, G, R, k⟩ =>
  ⟨E, G, R, fun v G1 H1 x1 r1 => ⟨E, G1, R.mono x1, fun w G2 H2 x2 r2 => by
    cases r2
    cases r1 with
    | tup h1 r1 =>
      obtain ⟨v, h3, r3⟩ := r1.atI h
      exact ⟨_, _, i, v, rfl, rfl, ex_t x2.gh (ex_t x2.g h1), h3, k _ _ _ (x1.trans x2) (r3.mono x2.g)⟩⟩⟩
theorem atI_map {α β : Type} {xs : List α} {f : α → β} {i : Int} {x : α} (h : atI xs i = some x) : atI (xs.map f) i = some (f x) := by
  unfold atI at h ⊢
  rw [List.length_map]
  cases q : ixN xs.length i with
  | none => rw [q] at h; cases h
  | some j =>
    rw [q] at h
    have h : xs[j]? = some x := h
    show (xs.map f)[j]? = some (f x)
    rw [List.getElem?_map, h]; rfl
theorem atI_pos {α : Type} {xs : List α} {i : Int} {x : α} (h0 : 0 ≤ i) (h : xs[i.toNat]? = some x) : atI xs i = some x := by
  have := atI_nat h
  rw [Int.toNat_of_nonneg h0] at this
  exact this
theorem atI_getD {α : Type} {xs : List α} {i : Int} (z : α) (h0 : 0 ≤ i) (h : i < xs.length) : atI xs i = some (xs.getD i.toNat z) := by
  refine atI_pos h0 ?_
  rw [List.getD_eq_getElem?_getD]
  have : i.toNat < xs.length := by omega
  rw [List.getElem?_eq_getElem this]; rfl
theorem atI_end {α : Type} {xs : List α} {x : α} (h : xs.getLast? = some x) : atI xs (-1) = some x := by
  cases xs with
  | nil => cases h
  | cons y ys =>
    have e : (y :: ys) = (y :: ys).dropLast ++ [x] := by
      have h2 := List.dropLast_concat_getLast (l := y :: ys) (by simp)
      rw [List.getLast?_eq_some_getLast (by simp)] at h
      rw [← Option.some.inj h]
      exact h2.symm
    rw [e]
    exact atI_last _ _
/-- a list's item, by encoding -/
theorem de_ixM {α : Type} {xs : List α} {f : α → D} (z : α) (ha : DLs X a ρ (xs.map f)) (hb : DE X b ρ (.int i)) (h : 0 ≤ i ∧ i < xs.length) (hs : PlainIx b := by intro _ _; rfl) : DE X (.Subscript a b pos) ρ (f (xs.getD i.toNat z)) :=
  de_ixL ha hb (atI_map (atI_getD z h.1 h.2)) hs
theorem de_ixTM {α : Type} {xs : List α} {f : α → D} (z : α) (ha : DE X a ρ (.tup (xs.map f))) (hb : DE X b ρ (.int i)) (h : 0 ≤ i ∧ i < xs.length) (hs : PlainIx b := by intro _ _; rfl) : DE X (.Subscript a b pos) ρ (f (xs.getD i.toNat z)) :=
  de_ixT ha hb (atI_map (atI_getD z h.1 h.2)) hs
/-- slices of lists -/
abbrev cutD (ds : List D) (lo hi : Option Int) : List D := (ds.drop (HT.sIx ds.length 0 lo)).take (HT.sIx ds.length ds.length hi - HT.sIx ds.length 0 lo)
def tDO (K : PySem.W.Frag) (ρ : Env) (o : Option Int) : TO := fun σ H Q => ∃ E G, RS K E G H σ ρ ∧ ∀ G' H', Ext G H G' H' → Q o H'
abbrev DO (X : Cx) (e : Option Expr) (ρ : Env) (o : Option Int) : Prop := PO X e (tDO X.K ρ o)
theorem do_none : DO X none ρ none := ⟨fun pins s σ H Q I ⟨E, G, R, k⟩ => po_none.run pins s σ H Q I (k _ _ (Ext.refl R.gh))⟩
theorem do_some (h : DE X e ρ (.int i)) : DO X (some e) ρ (some i) := ⟨fun pins s σ H Q I ⟨E, G, R, k⟩ => (po_some h).run pins s σ H Q I ⟨E, G, R, fun v G' H' x r => by
  cases r
  exact ⟨i, rfl, k _ _ x⟩⟩⟩
theorem dn_slice {lo hi : Option Expr} {l h : Option Int} {p2 : Pos} (he : DLs X e ρ ds) (hl : DO X lo ρ l) (hh : DO X hi ρ h) : DN X (.Subscript e (.Slice lo hi none p2) pos) ρ (cutD ds l h) := PE.imp (pe_slice sl_list he hl hh) fun σ H Q ⟨E, G, R, k⟩ =>
  ⟨E, G, R, fun p vs G1 H1 x1 h1 r1 => ⟨E, G1, R.mono x1, fun G2 H2 x2 => ⟨E, G2, (R.mono x1).mono x2, fun G3 H3 x3 => ⟨p, vs, rfl, ex_l x3.h (ex_l x2.h h1), fun q hq => by
    have x := (x1.trans x2).trans x3
    refine k q _ G3 _ (x.trans (Ext.addO x.gh hq)) (fresh_back x.h hq) (fresh_back x.gh hq) upd_same ?_
    have r := (r1.mono x2.g).mono x3.g
    unfold cutV cutD
    rw [← r.length]
    exact (r.drop _).take _⟩⟩⟩⟩

/-! ### membership, equality -/
def D.flat : D → Bool
  | .non => true
  | .bl _ => true
  | .int _ => true
  | _ => false
/-- ints in a list or tuple of ints -/
theorem inV_ints (k : Int) : ∀ ns : List Int, inV (.int k) (ns.map V.int) = decide (k ∈ ns) := fun ns => by
  unfold inV
  induction ns with
  | nil => rfl
  | cons n ns ih =>
    rw [List.map_cons, List.any_cons, ih]
    by_cases h : k = n
    · subst h
      have : eqV (V.int k) (V.int k) = true := by simp [eqV]
      rw [this]; simp
    · have : eqV (V.int n) (V.int k) = false := by simp [eqV]; exact fun z => h z.symm
      rw [this]; simp [h]
theorem reps_ints {K : PySem.W.Frag} {G : Hp} : ∀ {ns : List Int} {vs : List V}, Reps K G (ns.map D.int) vs → vs = ns.map V.int
  | [], _, .nil => rfl
  | _ :: _, _, .cons h r => by
    cases h
    rw [reps_ints r]; rfl
theorem reps_of_ints {K : PySem.W.Frag} {G : Hp} : ∀ ns : List Int, Reps K G (ns.map D.int) (ns.map V.int)
  | [] => .nil
  | _ :: ns => .cons (.int _) (reps_of_ints ns)
theorem flat_ints (ns : List Int) : (ns.map V.int).all flatV = true := by
  rw [List.all_map]
  exact List.all_eq_true.mpr fun _ _ => rfl
variable {ns : List Int}
theorem rin_L {K : PySem.W.Frag} {neg : Bool} {ta tb : TE} (ha : ∀ σ H Q, tD K ρ (.int i) σ H Q → ta σ H Q) (hb : ∀ σ H Q, tDL K ρ (ns.map D.int) σ H Q → tb σ H Q) : ∀ σ H Q, tD K ρ (.bl (if neg then !decide (i ∈ ns) else decide (i ∈ ns))) σ H Q → tOp (rIn K neg) ta tb σ H Q := fun σ H Q ⟨E, G, R, k⟩ =>
  ha _ _ _ ⟨E, G, R, fun v G1 H1 x1 r1 => hb _ _ _ ⟨E, G1, R.mono x1, fun p vs G2 H2 x2 h2 r2 => by
    cases r1
    cases reps_ints r2
    refine ⟨p, _, rfl, .inl h2, rfl, flat_ints ns, ?_⟩
    rw [inV_ints]
    exact k _ _ _ (x1.trans x2) (.bl _)⟩⟩
theorem rin_T {K : PySem.W.Frag} {neg : Bool} {ta tb : TE} (ha : ∀ σ H Q, tD K ρ (.int i) σ H Q → ta σ H Q) (hb : ∀ σ H Q, tD K ρ (.tup (ns.map D.int)) σ H Q → tb σ H Q) : ∀ σ H Q, tD K ρ (.bl (if neg then !decide (i ∈ ns) else decide (i ∈ ns))) σ H Q → tOp (rIn K neg) ta tb σ H Q := fun σ H Q ⟨E, G, R, k⟩ =>
  ha _ _ _ ⟨E, G, R, fun v G1 H1 x1 r1 => hb _ _ _ ⟨E, G1, R.mono x1, fun w G2 H2 x2 r2 => by
    cases r1
    cases r2 with
    | tup h2 r2 =>
      cases reps_ints r2
      refine ⟨_, _, rfl, .inr (ex_t x2.gh h2), rfl, flat_ints ns, ?_⟩
      rw [inV_ints]
      exact k _ _ _ (x1.trans x2) (.bl _)⟩⟩
theorem test_imp {t : TE} {b0 : Bool} (h : ∀ σ H Q, tD X.K ρ (.bl b0) σ H Q → t σ H Q) : ∀ σ H Q, tDT X.K ρ b0 σ H Q → tTest t σ H Q := fun σ H Q ⟨E, G, R, k⟩ => h _ _ _ ⟨E, G, R, fun v G' H' x r => by
  cases r
  exact ⟨_, rfl, k _ _ x⟩⟩
theorem de_inL (ha : DE X a ρ (.int i)) (hb : DLs X b ρ (ns.map D.int)) (hm : behindInMarks .In b = false := by rfl) : DE X (.Compare a [.In] [b] pos) ρ (.bl (decide (i ∈ ns))) := PE.imp (pe_cmpR op_in_seq ha hb hm) (rin_L (neg := false) (fun _ _ _ h => h) fun _ _ _ h => h)
theorem de_ninL (ha : DE X a ρ (.int i)) (hb : DLs X b ρ (ns.map D.int)) (hm : behindInMarks .NotIn b = false := by rfl) : DE X (.Compare a [.NotIn] [b] pos) ρ (.bl (!decide (i ∈ ns))) := PE.imp (pe_cmpR op_notIn_seq ha hb hm) (rin_L (neg := true) (fun _ _ _ h => h) fun _ _ _ h => h)
theorem dt_inL (ha : DE X a ρ (.int i)) (hb : DLs X b ρ (ns.map D.int)) (hm : behindInMarks .In b = false := by rfl) : DT X (.Compare a [.In] [b] pos) ρ (decide (i ∈ ns)) := PT.imp (pt_cmpR op_in_seq ha hb hm) (test_imp (rin_L (neg := false) (fun _ _ _ h => h) fun _ _ _ h => h))
theorem dt_ninL (ha : DE X a ρ (.int i)) (hb : DLs X b ρ (ns.map D.int)) (hm : behindInMarks .NotIn b = false := by rfl) : DT X (.Compare a [.NotIn] [b] pos) ρ (!decide (i ∈ ns)) := PT.imp (pt_cmpR op_notIn_seq ha hb hm) (test_imp (rin_L (neg := true) (fun _ _ _ h => h) fun _ _ _ h => h))
theorem dt_inT (ha : DE X a ρ (.int i)) (hb : DE X b ρ (.tup (ns.map D.int))) (hm : behindInMarks .In b = false := by rfl) : DT X (.Compare a [.In] [b] pos) ρ (decide (i ∈ ns)) := PT.imp (pt_cmpR op_in_seq ha hb hm) (test_imp (rin_T (neg := false) (fun _ _ _ h => h) fun _ _ _ h => h))
theorem dt_ninT (ha : DE X a ρ (.int i)) (hb : DE X b ρ (.tup (ns.map D.int))) (hm : behindInMarks .NotIn b = false := by rfl) : DT X (.Compare a [.NotIn] [b] pos) ρ (!decide (i ∈ ns)) := PT.imp (pt_cmpR op_notIn_seq ha hb hm) (test_imp (rin_T (neg := true) (fun _ _ _ h => h) fun _ _ _ h => h))
end
end DL
set_option maxRecDepth 100000
set_option maxHeartbeats 2000000
/-! DLd: calls of built-ins and of defs, fields, what is walked, targets. -/
namespace DL
open PySem PySem.Spec PyProof.Rows L2 Evl
section
variable {X : Cx} {ρ : Env} {e a b c o : Expr} {es' : List Expr} {d da db dc : D} {ds es : List D} {pos p : Pos} {i j : Int} {b1 b2 : Bool} {x f m : Str} {id T : String} {r : List V → Hp → VK → Prop}

/-! ### built-ins -/
theorem de_callB (hc : CallR X (.builtin id) r) (hm : X.mg x = none) (hv : bootBuiltins x = some (.builtin id)) (ha : DA X (e :: es') ρ ds)
    (hr : ∀ vs G H Q, Ex G H → Reps X.K G ds vs → (∀ z G' H', Ext G H G' H' → Rep X.K G' d z → Q z H') → r vs H Q) (hg : Gl X x := by rfl) (hn : x ≠ "__name__" := by decide) (hdb : (x == ("__debug__" : Str)) = false := by decide)
    (he : starEach (e :: es') X.env = (false, eval e X.env) :: starEach es' X.env := by rfl) (hpl : (backTo pos (starEach es' X.env)).any (·.1) = false := by rfl) : DE X (.Call (.Name x p) (e :: es') [] pos) ρ d :=
  PE.imp (pe_callB hc hg hm hv ha hn hdb he hpl) fun σ H Q ⟨E, G, R, k⟩ => ⟨E, G, R, fun vs G1 H1 x1 r1 => hr vs G1 H1 Q x1.gh r1 fun z G' H' x r => k _ _ _ (x1.trans x) r⟩
theorem de_callTy (hc : CallR X (.type T) r) (hm : X.mg x = none) (hv : bootBuiltins x = some (.type T)) (ha : DA X (e :: es') ρ ds)
    (hr : ∀ vs G H Q, Ex G H → Reps X.K G ds vs → (∀ z G' H', Ext G H G' H' → Rep X.K G' d z → Q z H') → r vs H Q) (hg : Gl X x := by rfl) (hn : x ≠ "__name__" := by decide) (hdb : (x == ("__debug__" : Str)) = false := by decide)
    (he : starEach (e :: es') X.env = (false, eval e X.env) :: starEach es' X.env := by rfl) (hpl : (backTo pos (starEach es' X.env)).any (·.1) = false := by rfl) : DE X (.Call (.Name x p) (e :: es') [] pos) ρ d :=
  PE.imp (pe_callTy hc hg hm hv ha hn hdb he hpl) fun σ H Q ⟨E, G, R, k⟩ => ⟨E, G, R, fun vs G1 H1 x1 r1 => hr vs G1 H1 Q x1.gh r1 fun z G' H' x r => k _ _ _ (x1.trans x) r⟩
/-- one argument, a list known or owned -/
def tDLA (K : PySem.W.Frag) (ρ : Env) (ds : List D) : TA := tCons (tDL K ρ ds) tNil
theorem pa_l (h : DLs X e ρ ds) (hs : starEach [e] X.env = (false, eval e X.env) :: starEach [] X.env := by rfl) : PA X [e] (tDLA X.K ρ ds) := pa_cons h pa_nil hs
theorem l_imp {t : Hp → VK → Prop} {K : PySem.W.Frag} (h : ∀ p vs G H Q, Ex G H → SqL K H p vs → Reps K G ds vs → (∀ z G' H', Ext G H G' H' → Rep K G' d z → Q z H') → r [.ref p] H Q) : ∀ σ H Q, tD K ρ d σ H Q → tCB r (tDLA K ρ ds) σ H Q := fun σ H Q ⟨E, G, R, k⟩ =>
  ⟨E, G, R, fun p vs G1 H1 x1 h1 r1 => h p vs G1 H1 Q x1.gh h1 r1 fun z G' H' x r => k _ _ _ (x1.trans x) r⟩
theorem de_lenL (hm : X.mg "len" = none) (ha : DLs X e ρ ds) (hg : Gl X "len" := by rfl) (he : starEach [e] X.env = (false, eval e X.env) :: starEach [] X.env := by rfl) : DE X (.Call (.Name "len" p) [e] [] pos) ρ (.int (ds.length : Int)) :=
  PE.imp (pe_callB call_len_seq hg hm PySem.boot_len (pa_l ha he) (by decide) (by decide) he rfl) fun σ H Q ⟨E, G, R, k⟩ => ⟨E, G, R, fun q vs G1 H1 x1 h1 r1 => ⟨q, vs, rfl, .inl h1, by rw [← r1.length]; exact k _ _ _ x1 (.int _)⟩⟩
theorem de_lenT (hm : X.mg "len" = none) (ha : DE X e ρ (.tup ds)) (hg : Gl X "len" := by rfl) (he : starEach [e] X.env = (false, eval e X.env) :: starEach [] X.env := by rfl) : DE X (.Call (.Name "len" p) [e] [] pos) ρ (.int (ds.length : Int)) := by
  refine de_callB call_len_seq hm PySem.boot_len (da_cons ha da_nil he) (fun vs G H Q ex r k => ?_) hg (by decide) (by decide) he rfl
  cases r with
  | cons r1 r2 =>
    cases r2
    cases r1 with
    | tup h1 q1 => exact ⟨_, _, rfl, .inr (ex_t ex h1), by rw [← q1.length]; exact k _ _ _ (Ext.refl ex) (.int _)⟩
theorem de_lenM {α : Type} {xs : List α} {g : α → D} (hm : X.mg "len" = none) (ha : DLs X e ρ (xs.map g)) (hg : Gl X "len" := by rfl) (he : starEach [e] X.env = (false, eval e X.env) :: starEach [] X.env := by rfl) : DE X (.Call (.Name "len" p) [e] [] pos) ρ (.int (xs.length : Int)) :=
  de_eq (de_lenL hm ha hg he) (by rw [List.length_map])
theorem de_lenTM {α : Type} {xs : List α} {g : α → D} (hm : X.mg "len" = none) (ha : DE X e ρ (.tup (xs.map g))) (hg : Gl X "len" := by rfl) (he : starEach [e] X.env = (false, eval e X.env) :: starEach [] X.env := by rfl) : DE X (.Call (.Name "len" p) [e] [] pos) ρ (.int (xs.length : Int)) :=
  de_eq (de_lenT hm ha hg he) (by rw [List.length_map])
theorem de_int1 (hm : X.mg "int" = none) (ha : DE X e ρ (.int i)) (hg : Gl X "int" := by rfl) (hv : bootBuiltins "int" = some (.type "int") := by decide +kernel) (he : starEach [e] X.env = (false, eval e X.env) :: starEach [] X.env := by rfl) : DE X (.Call (.Name "int" p) [e] [] pos) ρ (.int i) := by
  refine de_callTy call_int1 hm hv (da_cons ha da_nil he) (fun vs G H Q ex r k => ?_) hg (by decide) (by decide) he rfl
  cases r with
  | cons r1 r2 =>
    cases r2; cases r1
    exact .inl ⟨i, rfl, k _ _ _ (Ext.refl ex) (.int _)⟩
theorem de_intB (hm : X.mg "int" = none) (ha : DE X e ρ (.bl b1)) (hg : Gl X "int" := by rfl) (hv : bootBuiltins "int" = some (.type "int") := by decide +kernel) (he : starEach [e] X.env = (false, eval e X.env) :: starEach [] X.env := by rfl) : DE X (.Call (.Name "int" p) [e] [] pos) ρ (.int (if b1 then 1 else 0)) := by
  refine de_callTy call_int1 hm hv (da_cons ha da_nil he) (fun vs G H Q ex r k => ?_) hg (by decide) (by decide) he rfl
  cases r with
  | cons r1 r2 =>
    cases r2; cases r1
    exact .inr ⟨b1, rfl, k _ _ _ (Ext.refl ex) (.int _)⟩
theorem de_min2 (hc : X.calm = true) (hm : X.mg "min" = none) (ha : DE X a ρ (.int i)) (hb : DE X b ρ (.int j)) (hg : Gl X "min" := by rfl) (hv : bootBuiltins "min" = some (.builtin "min") := by decide +kernel) (hs : starEach [a, b] X.env = (false, eval a X.env) :: starEach [b] X.env := by rfl) (hs2 : starEach [b] X.env = (false, eval b X.env) :: starEach [] X.env := by rfl) (hpl : (backTo pos (starEach [b] X.env)).any (·.1) = false := by rfl) :
    DE X (.Call (.Name "min" p) [a, b] [] pos) ρ (.int (if j < i then j else i)) := by
  refine de_callB (call_min2 hc) hm hv (da_cons ha (da_cons hb da_nil hs2) hs) (fun vs G H Q ex r k => ?_) hg (by decide) (by decide) hs hpl
  cases r with
  | cons r1 r2 =>
    cases r2 with
    | cons r2 r3 =>
      cases r3; cases r1; cases r2
      exact ⟨i, j, rfl, k _ _ _ (Ext.refl ex) (.int _)⟩
theorem de_max2 (hc : X.calm = true) (hm : X.mg "max" = none) (ha : DE X a ρ (.int i)) (hb : DE X b ρ (.int j)) (hg : Gl X "max" := by rfl) (hv : bootBuiltins "max" = some (.builtin "max") := by decide +kernel) (hs : starEach [a, b] X.env = (false, eval a X.env) :: starEach [b] X.env := by rfl) (hs2 : starEach [b] X.env = (false, eval b X.env) :: starEach [] X.env := by rfl) (hpl : (backTo pos (starEach [b] X.env)).any (·.1) = false := by rfl) :
    DE X (.Call (.Name "max" p) [a, b] [] pos) ρ (.int (if j > i then j else i)) := by
  refine de_callB (call_max2 hc) hm hv (da_cons ha (da_cons hb da_nil hs2) hs) (fun vs G H Q ex r k => ?_) hg (by decide) (by decide) hs hpl
  cases r with
  | cons r1 r2 =>
    cases r2 with
    | cons r2 r3 =>
      cases r3; cases r1; cases r2
      exact ⟨i, j, rfl, k _ _ _ (Ext.refl ex) (.int _)⟩
/-- list(..), tuple(..) -/
theorem dn_list (hm : X.mg "list" = none) (ha : DLs X e ρ ds) (hg : Gl X "list" := by rfl) (hv : bootBuiltins "list" = some (.type "list") := by decide +kernel) (he : starEach [e] X.env = (false, eval e X.env) :: starEach [] X.env := by rfl) : DN X (.Call (.Name "list" p) [e] [] pos) ρ ds :=
  PE.imp (pe_callTy call_list_of hg hm hv (pa_l ha he) (by decide) (by decide) he rfl) fun σ H Q ⟨E, G, R, k⟩ => ⟨E, G, R, fun q vs G1 H1 x1 h1 r1 => ⟨q, vs, rfl, .inl h1, fun l hl => k l vs G1 _ (x1.trans (Ext.addO x1.gh hl)) (fresh_back x1.h hl) (fresh_back x1.gh hl) upd_same r1⟩⟩
theorem dn_listT (hm : X.mg "list" = none) (ha : DE X e ρ (.tup ds)) (hg : Gl X "list" := by rfl) (hv : bootBuiltins "list" = some (.type "list") := by decide +kernel) (he : starEach [e] X.env = (false, eval e X.env) :: starEach [] X.env := by rfl) : DN X (.Call (.Name "list" p) [e] [] pos) ρ ds :=
  PE.imp (pe_callTy call_list_of hg hm hv (pa_cons ha pa_nil he) (by decide) (by decide) he rfl) fun σ H Q ⟨E, G, R, k⟩ => ⟨E, G, R, fun v G1 H1 x1 r1 => by
    cases r1 with
    | tup h1 q1 => exact ⟨_, _, rfl, .inr (ex_t x1.gh h1), fun l hl => k l _ G1 _ (x1.trans (Ext.addO x1.gh hl)) (fresh_back x1.h hl) (fresh_back x1.gh hl) upd_same q1⟩⟩
theorem de_tuple (hm : X.mg "tuple" = none) (ha : DLs X e ρ ds) (hg : Gl X "tuple" := by rfl) (hv : bootBuiltins "tuple" = some (.type "tuple") := by decide +kernel) (he : starEach [e] X.env = (false, eval e X.env) :: starEach [] X.env := by rfl) : DE X (.Call (.Name "tuple" p) [e] [] pos) ρ (.tup ds) :=
  PE.imp (pe_callTy call_tuple_of hg hm hv (pa_l ha he) (by decide) (by decide) he rfl) fun σ H Q ⟨E, G, R, k⟩ => ⟨E, G, R, fun q vs G1 H1 x1 h1 r1 => ⟨q, vs, rfl, .inl ⟨h1, fun l hl => k _ _ _ (x1.trans (Ext.add x1.gh hl)) (.tup (st_of upd_same) (r1.mono (Ex.new (fresh_back x1.gh hl))))⟩⟩⟩
theorem de_tupleT (hm : X.mg "tuple" = none) (ha : DE X e ρ (.tup ds)) (hg : Gl X "tuple" := by rfl) (hv : bootBuiltins "tuple" = some (.type "tuple") := by decide +kernel) (he : starEach [e] X.env = (false, eval e X.env) :: starEach [] X.env := by rfl) : DE X (.Call (.Name "tuple" p) [e] [] pos) ρ (.tup ds) :=
  PE.imp (pe_callTy call_tuple_of hg hm hv (pa_cons ha pa_nil he) (by decide) (by decide) he rfl) fun σ H Q ⟨E, G, R, k⟩ => ⟨E, G, R, fun v G1 H1 x1 r1 => by
    cases r1 with
    | tup h1 q1 => exact ⟨_, _, rfl, .inr ⟨ex_t x1.gh h1, k _ _ _ x1 (.tup h1 q1)⟩⟩⟩
/-- sum, all -/
theorem reps_bls {K : PySem.W.Frag} {G : Hp} : ∀ {ns : List Bool} {vs : List V}, Reps K G (ns.map D.bl) vs → vs = ns.map V.bl
  | [], _, .nil => rfl
  | _ :: _, _, .cons h r => by
    cases h
    rw [reps_bls r]; rfl
theorem de_sum {ns : List Int} (hc : X.calm = true) (hm : X.mg "sum" = none) (ha : DLs X e ρ (ns.map D.int)) (hg : Gl X "sum" := by rfl) (hv : bootBuiltins "sum" = some (.builtin "sum") := by decide +kernel) (he : starEach [e] X.env = (false, eval e X.env) :: starEach [] X.env := by rfl) : DE X (.Call (.Name "sum" p) [e] [] pos) ρ (.int ns.sum) :=
  PE.imp (pe_callB (cr_sum hc) hg hm hv (pa_l ha he) (by decide) (by decide) he rfl) fun σ H Q ⟨E, G, R, k⟩ => ⟨E, G, R, fun q vs G1 H1 x1 h1 r1 => by
    cases reps_ints r1
    exact ⟨q, ns, rfl, h1, k _ _ _ x1 (.int _)⟩⟩
theorem de_all {bs : List Bool} (hc : X.calm = true) (hm : X.mg "all" = none) (ha : DLs X e ρ (bs.map D.bl)) (hg : Gl X "all" := by rfl) (hv : bootBuiltins "all" = some (.builtin "all") := by decide +kernel) (he : starEach [e] X.env = (false, eval e X.env) :: starEach [] X.env := by rfl) : DE X (.Call (.Name "all" p) [e] [] pos) ρ (.bl (bs.all fun b => b)) :=
  PE.imp (pe_callB (cr_all hc) hg hm hv (pa_l ha he) (by decide) (by decide) he rfl) fun σ H Q ⟨E, G, R, k⟩ => ⟨E, G, R, fun q vs G1 H1 x1 h1 r1 => by
    cases reps_bls r1
    exact ⟨q, bs, rfl, h1, k _ _ _ x1 (.bl _)⟩⟩
/-- isinstance -/
def tyName : D → Option String
  | .non => some "NoneType"
  | .bl _ => some "bool"
  | .int _ => some "int"
  | .str _ => some "str"
  | .lst _ => some "list"
  | .tup _ => some "tuple"
  | .tupf _ => some "tuple"
  | _ => none
theorem rep_ty {K : PySem.W.Frag} {G H : Hp} {v : V} {t : String} (ex : Ex G H) (r : Rep K G d v) (h : tyName d = some t) : TyX K H v (.type t) := by
  cases r with
  | non => cases h; exact .base .non
  | bl b => cases h; exact .base (.bl b)
  | int i => cases h; exact .base (.int i)
  | str x => cases h; exact .base (.str x)
  | lst h1 r => cases h; exact .base (.lst (ex _ _ h1))
  | lsk h1 r => cases h
  | tup h1 r =>
    cases h
    rcases ex_t ex h1 with (h1 | ⟨o, h1⟩) | ⟨o, its, n, h1, h2, _⟩
    · exact .base (.tup h1)
    · exact .fTuple h1
    · exact .kTuple h1 h2
  | tupf h1 _ r => cases h; exact .fTuple (ex _ _ h1)
  | ins h1 r => cases h
  | rng h1 => cases h
theorem de_isi {t : String} {q1 : Pos} {cls : Str} {cn : String} (hm : X.mg "isinstance" = none) (hm2 : X.mg cls = none) (ha : DE X e ρ d) (ht : tyName d = some t) (hk : kitB t cn = some b1) (hv2 : bootBuiltins cls = some (.type cn)) (hg : Gl X "isinstance" := by rfl) (hg2 : Gl X cls := by rfl)
    (hn : cls ≠ "__name__" := by decide) (hdb : (cls == ("__debug__" : Str)) = false := by decide) (hv : bootBuiltins "isinstance" = some (.builtin "isinstance") := by decide +kernel) (hs : starEach [e, .Name cls q1] X.env = (false, eval e X.env) :: starEach [.Name cls q1] X.env := by rfl) (hs2 : starEach [.Name cls q1] X.env = (false, eval (.Name cls q1) X.env) :: starEach [] X.env := by rfl) (hpl : (backTo pos (starEach [.Name cls q1] X.env)).any (·.1) = false := by rfl) :
    DE X (.Call (.Name "isinstance" p) [e, .Name cls q1] [] pos) ρ (.bl b1) :=
  PE.imp (pe_callB call_isi hg hm hv (pa_cons ha (pa_cons (pe_bltn (v := .ty cn) hg2 hm2 hv2 rfl hn hdb) pa_nil hs2) hs) (by decide) (by decide) hs hpl) fun σ H Q ⟨E, G, R, k⟩ => ⟨E, G, R, fun v G1 H1 x1 r1 =>
    ⟨v, .ty cn, .type t, .type cn, b1, rfl, .ty cn, rep_ty x1.gh r1 ht, kit_ty hk, k _ _ _ x1 (.bl _)⟩⟩
/-- isinstance(x, (list, tuple)) -/
theorem de_isi2 {t : String} {q1 q2 q3 : Pos} {c1 c2 : Str} {n1 n2 : String} {x1} (hm : X.mg "isinstance" = none) (hm1 : X.mg c1 = none) (hm2 : X.mg c2 = none) (ha : DE X e ρ d) (ht : tyName d = some t) (hk1 : kitB t n1 = some b1) (hk2 : b1 = false → kitB t n2 = some b2) (hv1 : bootBuiltins c1 = some (.type n1)) (hv2 : bootBuiltins c2 = some (.type n2)) (hg : Gl X "isinstance" := by rfl) (hg1 : Gl X c1 := by rfl) (hg2 : Gl X c2 := by rfl)
    (hn1 : c1 ≠ "__name__" := by decide) (hdb1 : (c1 == ("__debug__" : Str)) = false := by decide) (hn2 : c2 ≠ "__name__" := by decide) (hdb2 : (c2 == ("__debug__" : Str)) = false := by decide) (hv : bootBuiltins "isinstance" = some (.builtin "isinstance") := by decide +kernel)
    (hs : starEach [e, .Tuple [.Name c1 q1, .Name c2 q2] x1 q3] X.env = (false, eval e X.env) :: starEach [.Tuple [.Name c1 q1, .Name c2 q2] x1 q3] X.env := by rfl) (hs2 : starEach [.Tuple [.Name c1 q1, .Name c2 q2] x1 q3] X.env = (false, eval (.Tuple [.Name c1 q1, .Name c2 q2] x1 q3) X.env) :: starEach [] X.env := by rfl) (hpl : (backTo pos (starEach [.Tuple [.Name c1 q1, .Name c2 q2] x1 q3] X.env)).any (·.1) = false := by rfl) :
    DE X (.Call (.Name "isinstance" p) [e, .Tuple [.Name c1 q1, .Name c2 q2] x1 q3] [] pos) ρ (.bl (b1 || b2)) :=
  PE.imp (pe_callB call_isiT hg hm hv (pa_cons ha (pa_cons (pe_tup (pa_cons (pe_bltn (v := .ty n1) hg1 hm1 hv1 rfl hn1 hdb1) (pa_cons (pe_bltn (v := .ty n2) hg2 hm2 hv2 rfl hn2 hdb2) pa_nil))) pa_nil hs2) hs) (by decide) (by decide) hs hpl) fun σ H Q ⟨E, G, R, k⟩ => ⟨E, G, R, fun v G1 H1 x1 r1 =>
    ⟨sz_of (show 2 ≤ 100000 by decide), fun p hp => by
      have r2 := (rep_ty x1.gh r1 ht)
      have ty : TyX X.K (upd H1 p (.tup [.ty n1, .ty n2])) v (.type t) := rep_ty (x1.gh.trans (Ex.new hp)) r1 ht
      refine ⟨v, p, [.ty n1, .ty n2], .type t, [.type n1, .type n2], b1 || b2, rfl, upd_same, .cons (.ty n1) (.cons (.ty n2) .nil), ty, ?_, k _ _ _ (x1.trans (Ext.addO x1.gh hp)) (.bl _)⟩
      refine kitAny_cons (kit_ty hk1) (fun hf => ?_) (fun ht' => by rw [ht']; rfl)
      rw [hf, Bool.false_or]
      exact kitAny_cons (kit_ty (hk2 hf)) (fun hf2 => by rw [hf2]; exact kitAny_nil) fun h => h⟩⟩

/-! ### fields, own defs -/
theorem de_fld {C : Addr} {fs : List (Str × D)} (ho : DE X o ρ (.ins C fs)) (cl : Cls X.K C) (na : NoAttr X.K C f) (hf : fs.lookup f = some d) (hb : attributeBase o f X.env (eval o X.env) = eval o X.env := by rfl) : DE X (.Attribute o f pos) ρ d := PE.imp (pe_fld ho hb) fun σ H Q ⟨E, G, R, k⟩ =>
  ⟨E, G, R, fun v G1 H1 x1 r1 => by
    cases r1 with
    | ins h1 q1 =>
      obtain ⟨w, h2, r2⟩ := q1.get hf
      exact ⟨_, C, _, _, w, rfl, x1.gh _ _ h1, cl, na, h2, k _ _ _ x1 r2⟩⟩
/-- a def's promise: from these data to this datum, what stands stays -/
def spD (F : PySem.W.Frag → List D → D → Prop) (K : PySem.W.Frag) : Sp := fun vs H Q _ => ∃ G ds d, Ex G H ∧ Reps K G ds vs ∧ F K ds d ∧ ∀ v G' H', Ext G H G' H' → Rep K G' d v → Q v H'
variable {k : Nat} {fa C g : Addr} {fd : FuncData} {ps : List Str} {F : PySem.W.Frag → List D → D → Prop}
theorem de_call (hF : FnOk X.prog X.w X.K X.mg X.base CX0 k fa fd ps (spD F X.K)) (hr : Room k X.A) (hm : X.mg x = some (.ref fa)) (hk : PySem.W.keepIn X.K (.ref fa) = true) (hb : Binds X.K fd ps []) (ha : DA X (e :: es') ρ ds) (hf : F X.K ds d) (hg : Gl X x := by rfl)
    (hdb : (x == ("__debug__" : Str)) = false := by decide) (he : starEach (e :: es') X.env = (false, eval e X.env) :: starEach es' X.env := by rfl) (hpl : (backTo pos (starEach es' X.env)).any (·.1) = false := by rfl) : DE X (.Call (.Name x p) (e :: es') [] pos) ρ d :=
  PE.imp (pe_call hF hr hg hm hk hb .nil pass0 ha hdb he hpl) fun σ H Q ⟨E, G, R, k⟩ => ⟨E, G, R, fun vs G1 H1 x1 r1 => by
    show spD F X.K (vs ++ []) H1 Q E0
    rw [List.append_nil]
    exact ⟨G1, ds, d, x1.gh, r1, hf, fun v G' H' x r => k _ _ _ (x1.trans x) r⟩⟩
theorem de_meth {pl : Sem Bool} {apos : Pos} {fs : List (Str × D)} (ho : DE X o ρ (.ins C fs)) (cl : Cls X.K C) (hM : Meth X.K C m fa) (hF : FnOk X.prog X.w X.K X.mg X.base CX0 k fa fd ps (spD F X.K)) (hr : Room k X.A) (hb : Binds X.K fd ps []) (hl : fs.lookup m = none) (ha : DA X (e :: es') ρ ds) (hf : F X.K (.ins C fs :: ds) d)
    (hst : starEach (e :: es') X.env = (false, eval e X.env) :: starEach es' X.env := by rfl) (hpl : (backTo pos (starEach es' X.env)).any (·.1) = false := by rfl)
    (ht : eval (.Call (.Attribute o m apos) (e :: es') [] pos) X.env = (do
      let ov ← eval o X.env
      standAt apos.atName
      let (f, first) ← holding [ov] (getMethod ov m pl)
      callWith pos f first (backTo pos (starEach (e :: es') X.env)) (backToKw pos (keywordEach [] X.env))) := by rfl) : DE X (.Call (.Attribute o m apos) (e :: es') [] pos) ρ d :=
  PE.imp (pe_meth (pl := pl) ho cl hM hF hr hb .nil pass0 ha hst hpl ht) fun σ H Q ⟨E, G, R, k⟩ => ⟨E, G, R, fun v G1 H1 x1 r1 => by
    cases r1 with
    | ins h1 q1 =>
      refine ⟨_, _, _, rfl, x1.gh _ _ h1, q1.none hl, E, G1, R.mono x1, fun vs G2 H2 x2 r2 => ?_⟩
      show spD F X.K (.ref _ :: (vs ++ [])) H2 Q E0
      rw [List.append_nil]
      exact ⟨G2, _, d, x2.gh, .cons (.ins (x2.g _ _ h1) (q1.mono x2.g)) r2, hf, fun v G' H' x r => k _ _ _ ((x1.trans x2).trans x) r⟩⟩
/-- a property -/
theorem de_prop {pa : Addr} {fs : List (Str × D)} (ho : DE X o ρ (.ins C fs)) (cl : Cls X.K C) (hp : PropOf X.K C f pa fa) (hF : FnOk X.prog X.w X.K X.mg X.base CX0 k fa fd ps (spD F X.K)) (hr : Room (k + 1) X.A) (hb : Binds X.K fd ps []) (hf : F X.K [.ins C fs] d) (hab : attributeBase o f X.env (eval o X.env) = eval o X.env := by rfl) : DE X (.Attribute o f pos) ρ d :=
  PE.imp (pe_prop ho cl hp hF hr hb .nil pass0 hab) fun σ H Q ⟨E, G, R, k⟩ => ⟨E, G, R, fun v G1 H1 x1 r1 => by
    cases r1 with
    | ins h1 q1 =>
      exact ⟨_, _, _, rfl, x1.gh _ _ h1, G1, [.ins C fs], d, x1.gh, .cons (.ins h1 q1) .nil, hf, fun v G' H' x r => k _ _ _ (x1.trans x) r⟩⟩
end
end DL
set_option maxRecDepth 100000
set_option maxHeartbeats 2000000
/-! DLe: what is walked, targets, comprehensions. -/
namespace DL
open PySem PySem.Spec PyProof.Rows L2 Evl

def YD (K : PySem.W.Frag) (G' : Hp) (d : D) (H2 : Hp) (x : V) (H3 : Hp) : Prop := ∀ G2, Ex G' G2 → Ex G2 H2 → ∃ G3, Ext G2 H2 G3 H3 ∧ Rep K G3 d x
def tDI (K : PySem.W.Frag) (ρ : Env) (ds : List D) : TI := fun σ H R => ∃ E G, RS K E G H σ ρ ∧ ∀ J G' H', Ext G H G' H' → Walk J ds.length (fun H2 => Ex G' H2) (fun i H2 x H3 => ∃ d, ds[i]? = some d ∧ YD K G' d H2 x H3) → R J H'
abbrev DI (X : Cx) (tg e : Expr) (ρ : Env) (ds : List D) : Prop := PI X tg e (tDI X.K ρ ds)
def tDG (K : PySem.W.Frag) (js : List Nat) (ρ : Env) (d : D) (ρ' : Env) : TG := fun v σ H Q => ∃ E G, RS K E G H σ ρ ∧ Rep K G d v ∧ ∀ σ', (∀ E' G' H', Ex G G' → RS K E' G' H' σ ρ → RS K E' G' H' σ' ρ') → (∀ vs : List Nat, (∀ j ∈ js, j ∈ vs) → wipe σ' vs = wipe σ vs) → Q σ' H
abbrev DG (X : Cx) (tg : Expr) (js : List Nat) (ρ : Env) (d : D) (ρ' : Env) : Prop := PG X tg (tDG X.K js ρ d ρ')

section
variable {X : Cx} {ρ ρ' : Env} {e a b c o tg : Expr} {es' : List Expr} {d da db dc : D} {ds es : List D} {pos p : Pos} {i j : Int} {b1 b2 : Bool} {x f m : Str}
theorem yd_same {K : PySem.W.Frag} {G' H2 : Hp} {v : V} (r : Rep K G' d v) : YD K G' d H2 v H2 := fun G2 e1 e2 => ⟨G2, Ext.refl e2, r.mono e1⟩
theorem yd_pair {K : PySem.W.Frag} {G' H2 : Hp} {T : Addr} {v w : V} (r1 : Rep K G' da v) (r2 : Rep K G' db w) (hT : H2 T = none) : YD K G' (.tup [da, db]) H2 (.ref T) (upd H2 T (.tup [v, w])) := fun G2 e1 e2 =>
  ⟨_, Ext.add e2 hT, .tup (st_of upd_same) (.cons (r1.mono (e1.trans (Ex.new (fresh_back e2 hT)))) (.cons (r2.mono (e1.trans (Ex.new (fresh_back e2 hT)))) .nil))⟩
theorem di_lst (h : DE X e ρ (.lst ds)) : DI X tg e ρ ds := PI.imp (pi_list h) fun σ H R ⟨E, G, S, k⟩ => ⟨E, G, S, fun v G1 H1 x1 r1 => by
  cases r1 with
  | lst h1 q1 =>
    refine ⟨_, rfl, ⟨_, sq_of (x1.gh _ _ h1)⟩, k _ G1 _ x1 ?_⟩
    rw [q1.length]
    refine Walk.mono (walk_list (K := X.K)) (fun H2 e2 => sq_of (e2 _ _ h1)) fun i H2 y H3 _ _ h3 => ?_
    obtain ⟨rfl, h3⟩ := h3
    obtain ⟨d, h4, r4⟩ := q1.getV h3
    exact ⟨d, h4, yd_same r4⟩⟩
theorem di_lsk (h : DE X e ρ (.lsk ds)) : DI X tg e ρ ds := PI.imp (pi_list h) fun σ H R ⟨E, G, S, k⟩ => ⟨E, G, S, fun v G1 H1 x1 r1 => by
  cases r1 with
  | lsk h1 q1 =>
    refine ⟨_, rfl, ⟨_, ex_l x1.gh h1⟩, k _ G1 _ x1 ?_⟩
    rw [q1.length]
    refine Walk.mono (walk_list (K := X.K)) (fun H2 e2 => ex_l e2 h1) fun i H2 y H3 _ _ h3 => ?_
    obtain ⟨rfl, h3⟩ := h3
    obtain ⟨d, h4, r4⟩ := q1.getV h3
    exact ⟨d, h4, yd_same r4⟩⟩
theorem di_tup (h : DE X e ρ (.tup ds)) : DI X tg e ρ ds := PI.imp (pi_tup h) fun σ H R ⟨E, G, S, k⟩ => ⟨E, G, S, fun v G1 H1 x1 r1 => by
  cases r1 with
  | tup h1 q1 =>
    refine ⟨_, rfl, ⟨_, ex_t x1.gh h1⟩, k _ G1 _ x1 ?_⟩
    rw [q1.length]
    refine Walk.mono (walk_tup (K := X.K)) (fun H2 e2 => ex_t e2 h1) fun i H2 y H3 _ _ h3 => ?_
    obtain ⟨rfl, h3⟩ := h3
    obtain ⟨d, h4, r4⟩ := q1.getV h3
    exact ⟨d, h4, yd_same r4⟩⟩
theorem di_dn (h : DN X e ρ ds) : DI X tg e ρ ds := di_lst (dn_e h)
abbrev rngD (lo : Int) (n : Nat) : List D := (List.range n).map fun k : Nat => D.int (lo + (k : Int))
theorem walk_rngD {K : PySem.W.Frag} {G' : Hp} {lo : Int} {n : Nat} : Walk (Itr lo n) (rngD lo n).length (fun H2 => Ex G' H2) (fun i H2 x H3 => ∃ d, (rngD lo n)[i]? = some d ∧ YD K G' d H2 x H3) := by
  rw [List.length_map, List.length_range]
  refine Walk.mono walk_range (fun _ _ => trivial) fun i H2 y H3 hi _ h3 => ?_
  obtain ⟨rfl, rfl⟩ := h3
  exact ⟨.int (lo + (i : Int)), by rw [List.getElem?_map, List.getElem?_range hi]; rfl, yd_same (.int _)⟩
theorem di_range1 (hm : X.mg "range" = none) (ha : DE X a ρ (.int i)) (hb : -100000 ≤ i ∧ i ≤ 100000) (hg : Gl X "range" := by rfl) (hs : starEach [a] X.env = (false, eval a X.env) :: starEach [] X.env := by rfl) : DI X tg (.Call (.Name "range" p) [a] [] pos) ρ (rngD 0 i.toNat) :=
  PI.imp (pi_range1 hg hm (da_cons ha da_nil hs) hs) fun σ H R ⟨E, G, S, k⟩ => ⟨E, G, S, fun vs G1 H1 x1 r1 => by
    cases r1 with
    | cons r1 r2 =>
      cases r2; cases r1
      exact ⟨i, rfl, by omega, by omega, k _ G1 H1 x1 walk_rngD⟩⟩
theorem di_rangeN {n : Nat} (hm : X.mg "range" = none) (ha : DE X a ρ (.int (n : Int))) (hb : n ≤ 90000) (hg : Gl X "range" := by rfl) (hs : starEach [a] X.env = (false, eval a X.env) :: starEach [] X.env := by rfl) : DI X tg (.Call (.Name "range" p) [a] [] pos) ρ ((List.range n).map fun k : Nat => D.int (k : Int)) := by
  have h := di_range1 (tg := tg) (pos := pos) (p := p) hm ha ⟨by omega, by omega⟩ hg hs
  have e1 : rngD 0 ((n : Int)).toNat = (List.range n).map fun k : Nat => D.int (k : Int) := by
    rw [Int.toNat_natCast]
    refine List.map_congr_left fun k _ => ?_
    rw [Int.zero_add]
  rw [e1] at h
  exact h
theorem di_range2 (hm : X.mg "range" = none) (ha : DE X a ρ (.int i)) (hc : DE X b ρ (.int j)) (hb : -100000 ≤ i ∧ i ≤ 100000 ∧ -100000 ≤ j ∧ j ≤ 100000) (hg : Gl X "range" := by rfl) (hs : starEach [a, b] X.env = (false, eval a X.env) :: starEach [b] X.env := by rfl) (hs2 : starEach [b] X.env = (false, eval b X.env) :: starEach [] X.env := by rfl) (hpl : (backTo pos (starEach [b] X.env)).any (·.1) = false := by rfl) : DI X tg (.Call (.Name "range" p) [a, b] [] pos) ρ (rngD i (j - i).toNat) :=
  PI.imp (pi_range2 hg hm (da_cons ha (da_cons hc da_nil hs2) hs) (by rw [hs, hs2]; rfl) (by rw [hs2]; rfl)) fun σ H R ⟨E, G, S, k⟩ => ⟨E, G, S, fun vs G1 H1 x1 r1 => by
    cases r1 with
    | cons r1 r2 =>
      cases r2 with
      | cons r2 r3 =>
        cases r3; cases r1; cases r2
        exact ⟨i, j, rfl, by omega, k _ G1 H1 x1 walk_rngD⟩⟩
/-- enumerate(list) -/
abbrev enumD (ds : List D) : List D := (List.range ds.length).map fun k : Nat => D.tup [.int (k : Int), ds.getD k .non]
theorem di_enumL {elts : List Expr} {kk : Nat} {tpos : Pos} (hm : X.mg "enumerate" = none) (ha : DE X e ρ (.lst ds)) (hg : Gl X "enumerate" := by rfl) (hs : starEach [e] X.env = [(false, eval e X.env)] := by rfl) : DI X (.Tuple elts kk tpos) (.Call (.Name "enumerate" p) [e] [] pos) ρ (enumD ds) :=
  PI.imp (pi_enum hg hm (da_cons ha da_nil hs) hs) fun σ H R ⟨E, G, S, k⟩ => ⟨E, G, S, fun vs G1 H1 x1 r1 => by
    cases r1 with
    | cons r1 r2 =>
      cases r2
      cases r1 with
      | lst h1 q1 =>
        refine ⟨_, _, rfl, sq_of (x1.gh _ _ h1), k _ G1 H1 x1 ?_⟩
        rw [List.length_map, List.length_range, q1.length]
        refine Walk.mono (walk_enum (K := X.K)) (fun H2 e2 => sq_of (e2 _ _ h1)) fun i H2 y H3 hi _ h3 => ?_
        obtain ⟨T, v, w, rfl, hT, rfl, h4, h5⟩ := h3
        cases h4
        obtain ⟨d, h6, r6⟩ := q1.getV h5
        refine ⟨.tup [.int (i : Int), d], ?_, yd_pair (.int _) r6 hT⟩
        rw [List.getElem?_map, List.getElem?_range (by rw [q1.length]; exact hi)]
        show some (D.tup [.int (i : Int), ds.getD i .non]) = _
        rw [List.getD_eq_getElem?_getD, h6]; rfl⟩

/-! ### targets -/
theorem wipe_get {σ : L2.St} : ∀ (vs : List Nat) (i : Nat), (wipe σ vs)[i]? = if i ∈ vs ∧ i < σ.length then some none else σ[i]?
  | [], i => by simp [wipe]
  | v :: vs, i => by
    unfold wipe
    by_cases h : v = i
    · subst h
      by_cases hl : v < σ.length
      · rw [List.getElem?_set_self (by rw [wipe_length]; exact hl), if_pos ⟨List.mem_cons_self, hl⟩]
      · rw [List.getElem?_eq_none (by rw [List.length_set, wipe_length]; omega), if_neg (fun z => hl z.2), List.getElem?_eq_none (by omega)]
    · rw [List.getElem?_set_ne h, wipe_get vs i]
      by_cases hi : i ∈ vs ∧ i < σ.length
      · rw [if_pos hi, if_pos ⟨List.mem_cons_of_mem _ hi.1, hi.2⟩]
      · rw [if_neg hi, if_neg fun z => hi ⟨(List.mem_cons.mp z.1).resolve_left fun q => h q.symm, z.2⟩]
theorem wipe_set {σ : L2.St} {vs : List Nat} {j : Nat} {o : Option V} (h : j ∈ vs) : wipe (σ.set j o) vs = wipe σ vs := by
  refine List.ext_getElem? fun i => ?_
  rw [wipe_get, wipe_get, List.length_set]
  by_cases hi : i ∈ vs ∧ i < σ.length
  · rw [if_pos hi, if_pos hi]
  · rw [if_neg hi, if_neg hi]
    by_cases e : j = i
    · subst e
      have : ¬ j < σ.length := fun z => hi ⟨h, z⟩
      rw [List.getElem?_eq_none (by rw [List.length_set]; omega), List.getElem?_eq_none (by omega)]
    · rw [List.getElem?_set_ne e]
def wipeC (ρ : Env) : List Nat → Env
  | [] => ρ
  | v :: vs => (wipeC ρ vs).set v .unk
theorem RS.wipe {K : PySem.W.Frag} {E : Ent} {G H : Hp} {σ : L2.St} (R : RS K E G H σ ρ) : ∀ vs : List Nat, RS K E G H (wipe σ vs) (wipeC ρ vs)
  | [] => R
  | v :: vs => by
    obtain ⟨e, l, fp, f⟩ := RS.wipe R vs
    refine ⟨e, ?_, fp, ⟨fun j c o h1 h2 => ?_, f.dom, f.inj⟩⟩
    · show ((L2.wipe σ vs).set v none).length = ((wipeC ρ vs).set v .unk).length
      rw [List.length_set, List.length_set]; exact l
    · have h1 : ((wipeC ρ vs).set v Cell.unk)[j]? = some c := h1
      have h2 : ((L2.wipe σ vs).set v none)[j]? = some o := h2
      rcases get_set h1 with ⟨q, rfl⟩ | ⟨q, h1⟩
      · trivial
      · rcases get_set h2 with ⟨q', _⟩ | ⟨_, h2⟩
        · exact absurd q' q
        · exact f.ok j c o h1 h2
theorem dg_name (j : Nat) (hN : X.N.Nodup) (hi : X.N[j]? = some x := by rfl) (hx : Loc X.env.scope x := by first | exact Or.inl rfl | exact Or.inr rfl) (hf : X.fn x = true ∨ X.env.scope.names.lookup x = some .local := by first | exact .inl rfl | exact .inr rfl) : DG X (.Name x pos) [j] ρ d (ρ.set j (.fro d)) :=
  PG.imp (pg_name hN hi hx hf) fun v σ H Q ⟨E, G, R, r, k⟩ => k _ (fun E' G' H' e R' => R'.setFro (r.mono e)) fun vs h => wipe_set (h j (List.mem_singleton.mpr rfl))
theorem dg_tup2 {t1 t2 : Expr} {js1 js2 : List Nat} {ρ1 ρ2 : Env} {kk : Nat} (hc : X.calm = true) (g1 : DG X t1 js1 ρ da ρ1) (g2 : DG X t2 js2 ρ1 db ρ2) (hs1 : (assignEach [t1, t2] X.env).map (·.2) = assign t1 X.env :: (assignEach [t2] X.env).map (·.2) := by rfl)
    (hs2 : (assignEach [t2] X.env).map (·.2) = assign t2 X.env :: (assignEach [] X.env).map (·.2) := by rfl) (hn : (assignEach [t1, t2] X.env).length = 2 := by rfl) (hst : (assignEach [t1, t2] X.env).findIdx? (·.1) = none := by rfl) :
    DG X (.Tuple [t1, t2] kk pos) (js1 ++ js2) ρ (.tup [da, db]) ρ2 := PG.imp (pg_tup hc (pgs_cons g1 (pgs_cons g2 pgs_nil hs2) hs1) hn hst) fun v σ H Q ⟨E, G, R, r, k⟩ => by
  cases r with
  | tup h1 q1 =>
    cases q1 with
    | cons r1 q1 =>
      cases q1 with
      | cons r2 q1 =>
        cases q1
        refine ⟨_, _, rfl, ex_t R.gh h1, rfl, _, _, rfl, E, G, R, r1, fun σ1 U1 w1 => ⟨_, _, rfl, E, G, U1 _ _ _ (Ex.refl _) R, r2, fun σ2 U2 w2 => ⟨rfl, k _ (fun E' G' H' e R' => U2 _ _ _ e (U1 _ _ _ e R')) fun vs h => ?_⟩⟩⟩
        rw [w2 vs fun j hj => h j (List.mem_append_right _ hj), w1 vs fun j hj => h j (List.mem_append_left _ hj)]

/-! ### comprehensions -/
theorem dts_nil : DTs X [] ρ true := PTs.imp pts_nil fun σ H Q ⟨E, G, R, k⟩ => k G H (Ext.refl R.gh)
theorem dts_one (h : DT X c ρ b1) : DTs X [c] ρ b1 := pts_one h
theorem Ext.mut {G H G' H' : Hp} {q : Addr} {o : HO} (x : Ext G H G' H') (h : H q = none) (hg : G' q = none) : Ext G H G' (upd H' q o) := by
  refine ⟨x.g, fun a u z => ?_, fun a u z => ?_, x.new⟩
  · rw [upd_ne (ne_of_none z h)]; exact x.h _ _ z
  · rw [upd_ne (ne_of_none z hg)]; exact x.gh _ _ z
theorem wipe_wipe {σ : L2.St} {vs : List Nat} : wipe (wipe σ vs) vs = wipe σ vs := by
  refine List.ext_getElem? fun i => ?_
  rw [wipe_get, wipe_length, wipe_get]
  by_cases q : i ∈ vs ∧ i < σ.length
  · rw [if_pos q, if_pos q]
  · rw [if_neg q, if_neg q]
/-- what a comprehension asks: its names (vs) forgotten, a turn for each item -/
theorem lc_imp {α : Type} {K : PySem.W.Frag} {as : List α} {f g : α → D} {bt : α → Bool} {vs js : List Nat} {ρb : α → Env} {tt : TT} {te : TE} {tgt : TG} (hjs : ∀ j ∈ js, j ∈ vs) (hz : as.length ≤ 90000)
    (hg : ∀ a ∈ as, ∀ v σ H Q, tDG K js (wipeC ρ vs) (f a) (ρb a) v σ H Q → tgt v σ H Q) (ht : ∀ a ∈ as, ∀ σ H Q, tDT K (ρb a) (bt a) σ H Q → tt σ H Q) (he : ∀ a ∈ as, bt a = true → ∀ σ H Q, tD K (ρb a) (g a) σ H Q → te σ H Q) :
    ∀ σ H Q, tDN K ρ ((as.filter bt).map g) σ H Q → tLc (tDI K ρ (as.map f)) tgt tt te vs σ H Q := by
  rintro σ H Q ⟨E, G, R, k⟩
  refine ⟨E, G, R, fun J G1 H1 x1 W => fun Dl hD => ?_⟩
  rw [List.length_map] at W
  refine lc_it W (fun i H2 => ∃ G2 acc, Ext G1 H1 G2 H2 ∧ H2 Dl = some (.lst acc) ∧ G2 Dl = none ∧ Reps K G2 (((as.take i).filter bt).map g) acc)
    ⟨G1, [], Ext.addO x1.gh hD, upd_same, fresh_back x1.gh hD, .nil⟩ (fun i H2 _ ⟨G2, acc, x2, _⟩ => x2.g.trans x2.gh) (fun i v H2 H3 hi ⟨G2, acc, x2, hDl, hG2, r2⟩ hy => ?_) fun H2 ⟨G2, acc, x2, hDl, hG2, r2⟩ => ?_
  · obtain ⟨d, hd, hy⟩ := hy
    have hai : as[i]? = some as[i] := List.getElem?_eq_getElem hi
    rw [List.getElem?_map, hai] at hd
    cases hd
    have ham : as[i] ∈ as := List.getElem_mem hi
    obtain ⟨G3, x3, r3⟩ := hy G2 x2.g x2.gh
    have tk : as.take (i + 1) = as.take i ++ [as[i]] := by rw [List.take_succ, hai]; rfl
    refine hg _ ham v _ _ _ ⟨E, G3, (R.mono (x1.trans (x2.trans x3))).wipe vs, r3, fun σ3 U3 w3 => ⟨by rw [w3 vs hjs, wipe_wipe], ?_⟩⟩
    have R3 := U3 _ _ _ (Ex.refl _) ((R.mono (x1.trans (x2.trans x3))).wipe vs)
    refine ht _ ham _ _ _ ⟨E, G3, R3, fun G4 H4 x4 => ?_⟩
    have hDl4 : H4 Dl = some (.lst acc) := x4.h _ _ (x3.h _ _ hDl)
    have hG4 : G4 Dl = none := x4.new _ _ (x3.new _ _ hG2 hDl) (x3.h _ _ hDl)
    cases hb : bt as[i] with
    | true =>
      refine iteT (he _ ham hb _ _ _ ⟨E, G4, R3.mono x4, fun w G5 H5 x5 r5 => ⟨acc, x5.h _ _ hDl4, ?_, ?_⟩⟩)
      · refine sz_lt ?_
        rw [← r2.length, List.length_map]
        have := List.length_filter_le bt (as.take i)
        rw [List.length_take] at this
        omega
      · have hD5 : G5 Dl = none := x5.new _ _ hG4 hDl4
        refine ⟨G5, acc ++ [w], ((x2.trans x3).trans (x4.trans x5)).mut hD hD5, upd_same, hD5, ?_⟩
        rw [tk, List.filter_append, List.map_append, List.filter_cons, if_pos hb]
        exact (r2.mono (x3.g.trans (x4.g.trans x5.g))).append (.cons r5 .nil)
    | false =>
      refine iteF ⟨G4, acc, (x2.trans x3).trans x4, hDl4, hG4, ?_⟩
      rw [tk, List.filter_append, List.map_append, List.filter_cons, if_neg (by rw [hb]; decide)]
      show Reps K G4 (_ ++ []) acc
      rw [List.append_nil]
      exact r2.mono (x3.g.trans x4.g)
  · rw [List.take_length] at r2
    exact k Dl acc G2 H2 (x1.trans x2) (fresh_back x1.h hD) hG2 hDl r2
/-- a turn's parts, all at once -/
theorem pg_any {tgt : TG} (h : ∀ v σ H Q, tgt v σ H Q → ∃ t, PG X tg t ∧ t v σ H Q) : PG X tg tgt := ⟨fun pins s σ H v u Q I r q => by
  obtain ⟨t, h1, h2⟩ := h _ _ _ _ q
  exact h1.run pins s σ H v u Q I r h2⟩
theorem pts_any {es : List Expr} {t0 : TT} (h : ∀ σ H Q, t0 σ H Q → ∃ t, PTs X es t ∧ t σ H Q) : PTs X es t0 := ⟨fun pins s σ H Q I q => by
  obtain ⟨t, h1, h2⟩ := h _ _ _ q
  exact h1.run pins s σ H Q I h2⟩
theorem pe_any {t0 : TE} (h : ∀ σ H Q, t0 σ H Q → ∃ t, PE X e t ∧ t σ H Q) : PE X e t0 := ⟨fun pins s σ H Q I q => by
  obtain ⟨t, h1, h2⟩ := h _ _ _ q
  exact h1.run pins s σ H Q I h2⟩
theorem pss_any {sts : List Stmt} {t0 : TS} (h : ∀ D σ H, t0 D σ H → ∃ t, PSs X sts t ∧ t D σ H) : PSs X sts t0 := ⟨fun pins s σ H D I q => by
  obtain ⟨t, h1, h2⟩ := h _ _ _ q
  exact h1.run pins s σ H D I h2⟩
/-- the contexts of a comprehension's block -/
abbrev Blk (X : Cx) (scope : Scope) (P : Cx → Prop) : Prop := ∀ (s : Shared) (H : Hp) (C : Addr) (cl : List (Str × Addr)) (fp : List Addr), P (X.blk s H scope (compEnvC scope cl C X.env) fp)
def uG {α : Type} (K : PySem.W.Frag) (as : List α) (js : List Nat) (ρ0 : Env) (f : α → D) (ρb : α → Env) : TG := fun v σ H Q => ∃ a, a ∈ as ∧ tDG K js ρ0 (f a) (ρb a) v σ H Q
def uT {α : Type} (K : PySem.W.Frag) (as : List α) (ρb : α → Env) (bt : α → Bool) : TT := fun σ H Q => ∃ a, a ∈ as ∧ tDT K (ρb a) (bt a) σ H Q
def uE {α : Type} (K : PySem.W.Frag) (as : List α) (ρb : α → Env) (bt : α → Bool) (g : α → D) : TE := fun σ H Q => ∃ a, a ∈ as ∧ bt a = true ∧ tD K (ρb a) (g a) σ H Q
theorem lc_u {α : Type} {K : PySem.W.Frag} {as : List α} {f g : α → D} {bt : α → Bool} {vs js : List Nat} {ρb : α → Env} (hjs : ∀ j ∈ js, j ∈ vs) (hz : as.length ≤ 90000) :
    ∀ σ H Q, tDN K ρ ((as.filter bt).map g) σ H Q → tLc (tDI K ρ (as.map f)) (uG K as js (wipeC ρ vs) f ρb) (uT K as ρb bt) (uE K as ρb bt g) vs σ H Q :=
  lc_imp hjs hz (fun a ha _ _ _ _ h => ⟨a, ha, h⟩) (fun a ha _ _ _ h => ⟨a, ha, h⟩) (fun a ha hb _ _ _ h => ⟨a, ha, hb, h⟩)
/-- [elt for tg in iter if ..] -/
theorem dn_lc {α : Type} {as : List α} (f g : α → D) (bt : α → Bool) {js : List Nat} {ρb : α → Env} {elt iter : Expr} {ifs : List Expr} {scope : Scope} (own : List (Str × Nat)) (hc : X.calm = true) (hN : X.N.Nodup) (hi : DI X tg iter ρ (as.map f)) (ok : BlkOk X.N X.env.scope scope own) (hjs : ∀ j ∈ js, j ∈ own.map (·.2)) (hz : as.length ≤ 90000)
    (hg : Blk X scope fun Y => ∀ a ∈ as, DG Y tg js (wipeC ρ (own.map (·.2))) (f a) (ρb a)) (ht : Blk X scope fun Y => ∀ a ∈ as, DTs Y ifs (ρb a) (bt a)) (he : Blk X scope fun Y => ∀ a ∈ as, bt a = true → DE Y elt (ρb a) (g a)) (hs : ∀ x, foldedSetIterable iter X.env x = pure x := by intro _; rfl) :
    DN X (.ListComp elt [⟨tg, iter, ifs, 0⟩] scope pos) ρ ((as.filter bt).map g) :=
  PE.imp (pe_lc hc hN hi ok (fun s H C cl fp => pg_any fun v σ H Q ⟨a, ha, h⟩ => ⟨_, hg s _ C cl fp a ha, h⟩) (fun s H C cl fp => pts_any fun σ H Q ⟨a, ha, h⟩ => ⟨_, ht s _ C cl fp a ha, h⟩) (fun s H C cl fp => pe_any fun σ H Q ⟨a, ha, hb, h⟩ => ⟨_, he s _ C cl fp a ha hb, h⟩) hs) (lc_u hjs hz)
end
end DL
set_option maxRecDepth 100000
set_option maxHeartbeats 2000000
/-! DLf: statements over data, a def's promise by its body. -/
namespace DL
open PySem PySem.Spec PyProof.Rows L2 Evl

structure Post where
  nx : Env → Prop
  rt : D → Prop
  bk : Env → Prop := fun _ => False
  ct : Env → Prop := fun _ => False
def tS (K : PySem.W.Frag) (ρ : Env) (P : Post) : TS := fun Dn σ H => ∃ E G, RS K E G H σ ρ ∧
  (∀ σ' G' H' ρ', RS K E G' H' σ' ρ' → P.nx ρ' → Dn.nx σ' H') ∧ (∀ v G' H' d, Ext E.G E.H G' H' → Rep K G' d v → P.rt d → Dn.rt v H') ∧
  (∀ σ' G' H' ρ', RS K E G' H' σ' ρ' → P.bk ρ' → Dn.bk σ' H') ∧ (∀ σ' G' H' ρ', RS K E G' H' σ' ρ' → P.ct ρ' → Dn.ct σ' H')
abbrev DS (X : Cx) (sts : List Stmt) (ρ : Env) (P : Post) : Prop := PSs X sts (tS X.K ρ P)

section
variable {X : Cx} {ρ ρ' : Env} {P : Post} {e a b c o tg : Expr} {d da db dc : D} {ds es : List D} {pos p pos' : Pos} {i j : Int} {b1 b2 : Bool} {x f m : Str} {rest body els : List Stmt}
theorem ds_nil (h : P.nx ρ) : DS X [] ρ P := PSs.imp pss_nil fun Dn σ H ⟨E, G, R, k, _⟩ => k _ _ _ _ R h
theorem ds_weak {P' : Post} (h : DS X rest ρ P') (hn : ∀ ρ, P'.nx ρ → P.nx ρ) (hr : ∀ d, P'.rt d → P.rt d) (hb : ∀ ρ, P'.bk ρ → P.bk ρ) (hc : ∀ ρ, P'.ct ρ → P.ct ρ) : DS X rest ρ P := PSs.imp h fun Dn σ H ⟨E, G, R, k1, k2, k3, k4⟩ =>
  ⟨E, G, R, fun σ' G' H' ρ' R' q => k1 _ _ _ _ R' (hn _ q), fun v G' H' d x r q => k2 _ _ _ _ x r (hr _ q), fun σ' G' H' ρ' R' q => k3 _ _ _ _ R' (hb _ q), fun σ' G' H' ρ' R' q => k4 _ _ _ _ R' (hc _ q)⟩
/-- a cell that is owned becomes known for good; a cell is forgotten -/
theorem ds_freeze (n : Nat) (h : ρ[n]? = some (.own ds)) (k : DS X rest (ρ.set n (.fro (.lst ds))) P) : DS X rest ρ P := PSs.imp k fun Dn σ H ⟨E, G, R, q⟩ => by
  obtain ⟨G', eg, R'⟩ := R.freeze h
  exact ⟨E, G', R', q⟩
theorem ds_unk (n : Nat) (k : DS X rest (ρ.set n .unk) P) : DS X rest ρ P := PSs.imp k fun Dn σ H ⟨E, G, R, q⟩ => ⟨E, G, R.unk n, q⟩

/-! ### assignments -/
theorem ds_asgS {st : Stmt} {n : Nat} (hp : PS X st (tAsg (tD X.K ρ d) (gName n))) (k : DS X rest (ρ.set n (.fro d)) P) : DS X (st :: rest) ρ P := PSs.imp (pss_cons hp k) fun Dn σ H ⟨E, G, R, k1, k2, k3, k4⟩ =>
  ⟨E, G, R, fun v G1 H1 x1 r1 => ⟨E, G1, (R.mono x1).setFro r1, k1, k2, k3, k4⟩⟩
theorem ds_asg (n : Nat) (hN : X.N.Nodup) (he : DE X e ρ d) (k : DS X rest (ρ.set n (.fro d)) P) (hi : X.N[n]? = some x := by rfl) (hx : Loc X.env.scope x := by first | exact Or.inl rfl | exact Or.inr rfl) (hs : swapsWith e (some (.Name x pos')) pos.line X.env = pure false := by rfl) (hf : X.fn x = true ∨ X.env.scope.names.lookup x = some .local := by first | exact .inl rfl | exact .inr rfl) :
    DS X (.Assign [.Name x pos'] e pos :: rest) ρ P := ds_asgS (ps_set hN hi hx he hs hf) k
theorem ds_asgNS {st : Stmt} {n : Nat} (hp : PS X st (tAsg (tDN X.K ρ ds) (gName n))) (k : DS X rest (ρ.set n (.own ds)) P) : DS X (st :: rest) ρ P := PSs.imp (pss_cons hp k) fun Dn σ H ⟨E, G, R, k1, k2, k3, k4⟩ =>
  ⟨E, G, R, fun p vs G1 H1 x1 h0 hg hp r1 => ⟨E, G1, R.setOwn x1 h0 hg hp r1, k1, k2, k3, k4⟩⟩
/-- a new list is owned by the name -/
theorem ds_asgN (n : Nat) (hN : X.N.Nodup) (he : DN X e ρ ds) (k : DS X rest (ρ.set n (.own ds)) P) (hi : X.N[n]? = some x := by rfl) (hx : Loc X.env.scope x := by first | exact Or.inl rfl | exact Or.inr rfl) (hs : swapsWith e (some (.Name x pos')) pos.line X.env = pure false := by rfl) (hf : X.fn x = true ∨ X.env.scope.names.lookup x = some .local := by first | exact .inl rfl | exact .inr rfl) :
    DS X (.Assign [.Name x pos'] e pos :: rest) ρ P := ds_asgNS (ps_set hN hi hx he hs hf) k
/-- name = [..] on one line -/
theorem ds_asgLc {α : Type} {as : List α} (n : Nat) (f g : α → D) (bt : α → Bool) {js : List Nat} {ρb : α → Env} {elt iter : Expr} {ifs : List Expr} {scope : Scope} {spos py : Pos} (own : List (Str × Nat)) (hc : X.calm = true) (hN : X.N.Nodup) (hi : DI X tg iter ρ (as.map f)) (ok : BlkOk X.N X.env.scope scope own) (hjs : ∀ j ∈ js, j ∈ own.map (·.2)) (hz : as.length ≤ 90000)
    (hg : Blk X scope fun Y => ∀ a ∈ as, DG Y tg js (wipeC ρ (own.map (·.2))) (f a) (ρb a)) (ht : Blk X scope fun Y => ∀ a ∈ as, DTs Y ifs (ρb a) (bt a)) (he : Blk X scope fun Y => ∀ a ∈ as, bt a = true → DE Y elt (ρb a) (g a)) (k : DS X rest (ρ.set n (.own ((as.filter bt).map g))) P)
    (hsw : swapsWith (.ListComp elt [⟨tg, iter, ifs, 0⟩] scope pos) (some (.Name x py)) spos.line X.env = pure true := by first | exact sw_true rfl rfl rfl (by decide +kernel)) (hy : X.N[n]? = some x := by rfl) (hyl : X.env.scope.names.lookup x = some .local := by rfl) (hs : ∀ x, foldedSetIterable iter X.env x = pure x := by intro _; rfl) :
    DS X (.Assign [.Name x py] (.ListComp elt [⟨tg, iter, ifs, 0⟩] scope pos) spos :: rest) ρ P :=
  PSs.imp (pss_cons (ps_setLc (g := uG X.K as js (wipeC ρ (own.map (·.2))) f ρb) (tt := uT X.K as ρb bt) (te := uE X.K as ρb bt g) hc hN hy hyl hsw hi ok (fun s H C cl fp => pg_any fun v σ H Q ⟨a, ha, h⟩ => ⟨_, hg s _ C cl fp a ha, h⟩) (fun s H C cl fp => pts_any fun σ H Q ⟨a, ha, h⟩ => ⟨_, ht s _ C cl fp a ha, h⟩) (fun s H C cl fp => pe_any fun σ H Q ⟨a, ha, hb, h⟩ => ⟨_, he s _ C cl fp a ha hb, h⟩) hs) k)
    fun Dn σ H ⟨E, G, R, k1, k2, k3, k4⟩ => lc_u (g := g) (bt := bt) hjs hz σ H (fun x H1 => gName n x σ H1 (tS X.K (ρ.set n (.own ((as.filter bt).map g))) P Dn)) ⟨E, G, R, fun p vs G1 H1 x1 h0 hg hp r1 => ⟨E, G1, R.setOwn x1 h0 hg hp r1, k1, k2, k3, k4⟩⟩
/-- a target that is not a name: (a, b) = e -/
theorem ds_asgG {js : List Nat} (he : DE X e ρ d) (hg : DG X tg js ρ d ρ') (k : DS X rest ρ' P) (hs : swapsWithSole [tg] e pos.line X.env = pure false := by rfl) (hw : swappedStores [tg] e X.env = pure none := by rfl)
    (h1 : (assignEach [tg] X.env).map (·.2) = [assign tg X.env] := by rfl) : DS X (.Assign [tg] e pos :: rest) ρ P := PSs.imp (pss_cons (ps_asg he hg hs hw h1) k) fun Dn σ H ⟨E, G, R, k1, k2, k3, k4⟩ =>
  ⟨E, G, R, fun v G1 H1 x1 r1 => ⟨E, G1, R.mono x1, r1, fun σ' U _ => ⟨E, G1, U _ _ _ (Ex.refl _) (R.mono x1), k1, k2, k3, k4⟩⟩⟩
/-- xs.append(e), xs owned -/
theorem ds_app (n : Nat) {apos : Pos} (ho : ρ[n]? = some (.own ds)) (he : DE X e ρ d) (hz : ds.length < 90000) (k : DS X rest (ρ.set n (.own (ds ++ [d]))) P) (hN : X.N[n]? = some x := by rfl) (hv : Vis X.env.scope x := by first | exact Or.inl rfl | exact Or.inr (Or.inl rfl)) (hd : (x == ("__debug__" : Str)) = false := by decide) (hcd : (x == ("__classdict__" : Str)) = false := by decide)
    (hbase : attributeBase (.Name x p) "append" X.env (eval (.Name x p) X.env) = eval (.Name x p) X.env := by rfl)
    (hfew : ((backTo pos' (starEach [e] X.env)).all (fun x => !x.1) && (backToKw pos' (keywordEach [] X.env)).all (fun x => x.1.isSome)
      && decide (([e] : List Expr).length + ([] : List Keyword).length + (if ([] : List Keyword).isEmpty then 0 else 1) < 30)) = true := by rfl)
    (hline : (apos.endLine == pos'.line) = true := by rfl) (hst : starEach [e] X.env = (false, eval e X.env) :: starEach [] X.env := by rfl) (hpl : (backTo pos' (starEach [] X.env)).any (·.1) = false := by rfl)
    (hs : swapsWith (.Call (.Attribute (.Name x p) "append" apos) [e] [] pos') none pos.line X.env = pure false := by rfl) : DS X (.Expr (.Call (.Attribute (.Name x p) "append" apos) [e] [] pos') pos :: rest) ρ P :=
  PSs.imp (pss_cons (ps_expr (pe_bm PySem.F.plainAttrs_list PySem.F.slot_list_append PySem.F.type_list_append mt_append (pv n hN (hv.elim .inl fun z => .inr z) hd hcd) (pa_cons he pa_nil hst) hbase hfew hline hst hpl) hs) k) fun Dn σ H ⟨E, G, R, k1, k2, k3, k4⟩ => by
    obtain ⟨q, vs, h1, h2, h3, h4, r0, upd'⟩ := R.own ho
    refine ⟨_, h1, .inl ⟨rfl, _, SqL.of h2⟩, E, G, R, fun v G1 H1 x1 r1 => ⟨q, vs, v, rfl, rfl, x1.h _ _ h2, sz_lt (by rw [← r0.length]; omega), ?_⟩⟩
    exact ⟨E, G1, upd' _ _ _ _ x1 ((r0.mono x1.g).append (.cons r1 .nil)), k1, k2, k3, k4⟩
/-- xs[i] = e, xs owned -/
theorem ds_setI (n : Nat) {spos : Pos} {k' : Nat} (ho : ρ[n]? = some (.own ds)) (he : DE X e ρ d) (hi : DE X b ρ (.int i)) (hk : ixN ds.length i = some k') (k : DS X rest (ρ.set n (.own (ds.set k' d))) P) (hN : X.N[n]? = some x := by rfl) (hv : Vis X.env.scope x := by first | exact Or.inl rfl | exact Or.inr (Or.inl rfl)) (hd : (x == ("__debug__" : Str)) = false := by decide) (hcd : (x == ("__classdict__" : Str)) = false := by decide)
    (ha : ∀ v, assign (.Subscript (.Name x p) b spos) X.env v = (do
      let ov ← holding [v] (eval (.Name x p) X.env)
      let iv ← holding [v, ov] (eval b X.env)
      standAt spos
      holding [v, ov, iv] (setItem ov iv v)
      release [v, ov, iv] []) := by intro _; rfl)
    (hs : swapsWithSole [.Subscript (.Name x p) b spos] e pos.line X.env = pure false := by rfl) (hw : swappedStores [.Subscript (.Name x p) b spos] e X.env = pure none := by rfl)
    (h1 : (assignEach [.Subscript (.Name x p) b spos] X.env).map (·.2) = [assign (.Subscript (.Name x p) b spos) X.env] := by rfl) : DS X (.Assign [.Subscript (.Name x p) b spos] e pos :: rest) ρ P :=
  PSs.imp (pss_cons (ps_asg he (pg_sub (pv n hN (hv.elim .inl fun z => .inr z) hd hcd) hi set_list ha) hs hw h1) k) fun Dn σ H ⟨E, G, R, k1, k2, k3, k4⟩ => ⟨E, G, R, fun v G1 H1 x1 r1 => by
    have R1 := R.mono x1
    obtain ⟨q, vs, h1, h2, h3, h4, r0, upd'⟩ := R1.own ho
    refine ⟨_, h1, E, G1, R1, fun w G2 H2 x2 r2 => ?_⟩
    cases r2
    refine ⟨q, vs, i, k', rfl, rfl, x2.h _ _ h2, by rw [← r0.length]; exact hk, ?_⟩
    exact ⟨E, G2, upd' _ _ _ _ x2 ((r0.mono x2.g).set (r1.mono x2.g)), k1, k2, k3, k4⟩⟩
/-- x += e, ints -/
theorem ds_augI (n : Nat) (hN : X.N.Nodup) (ho : ρ[n]? = some (.fro (.int i))) (he : DE X e ρ (.int j)) (k : DS X rest (ρ.set n (.fro (.int (i + j)))) P) (hi : X.N[n]? = some x := by rfl) (hx : Loc X.env.scope x := by first | exact Or.inl rfl | exact Or.inr rfl) (hf : X.fn x = true ∨ X.env.scope.names.lookup x = some .local := by first | exact .inl rfl | exact .inr rfl) :
    DS X (.AugAssign (.Name x pos') .Add e pos :: rest) ρ P := PSs.imp (pss_cons (ps_aug hN hi hx he ip_add hf) k) fun Dn σ H ⟨E, G, R, k1, k2, k3, k4⟩ => by
  obtain ⟨v, h1, r⟩ := R.fro ho
  cases r
  refine ⟨_, h1, E, G, R, fun w G1 H1 x1 r1 => ?_⟩
  cases r1
  exact ⟨i, j, rfl, rfl, E, G1, (R.mono x1).setFro (.int _), k1, k2, k3, k4⟩

/-! ### control -/
theorem ds_ret (he : DE X e ρ d) (h : P.rt d) : DS X (.Return (some e) pos :: rest) ρ P := PSs.imp (pss_cons (u := tNever) (ps_ret he) pss_never) fun Dn σ H ⟨E, G, R, k1, k2, k3, k4⟩ =>
  ⟨E, G, R, fun v G1 H1 x1 r1 => k2 v G1 H1 d (R.ext.trans x1) r1 h⟩
/-- return xs, xs owned -/
theorem ds_retO (n : Nat) (ho : ρ[n]? = some (.own ds)) (h : P.rt (.lst ds)) (hN : X.N[n]? = some x := by rfl) (hv : Vis X.env.scope x := by first | exact Or.inl rfl | exact Or.inr (Or.inl rfl)) (hd : (x == ("__debug__" : Str)) = false := by decide) (hcd : (x == ("__classdict__" : Str)) = false := by decide) : DS X (.Return (some (.Name x p)) pos :: rest) ρ P := by
  refine ds_freeze n ho (ds_ret (de_v n ?_ hN hv hd hcd) h)
  rw [List.getElem?_set_self (List.getElem?_eq_some_iff.mp ho).1]
theorem ds_retN (h : P.rt .non) : DS X (.Return none pos :: rest) ρ P := PSs.imp (pss_cons (u := tNever) ps_retN pss_never) fun Dn σ H ⟨E, G, R, k1, k2, k3, k4⟩ => k2 .non G H .non R.ext .non h
theorem ds_break (h : P.bk ρ) : DS X (.Break pos :: rest) ρ P := PSs.imp (pss_cons (u := tNever) ps_break pss_never) fun Dn σ H ⟨E, G, R, k1, k2, k3, k4⟩ => k3 _ _ _ _ R h
theorem ds_pass (k : DS X rest ρ P) : DS X (.Pass pos :: rest) ρ P := PSs.imp (pss_cons ps_pass k) fun Dn σ H h => h
theorem ds_expr (he : DE X e ρ d) (k : DS X rest ρ P) (hs : swapsWith e none pos.line X.env = pure false := by rfl) : DS X (.Expr e pos :: rest) ρ P := PSs.imp (pss_cons (ps_expr he hs) k) fun Dn σ H ⟨E, G, R, q⟩ =>
  ⟨E, G, R, fun v G1 H1 x1 r1 => ⟨E, G1, R.mono x1, q⟩⟩
/-- an if, Mid between it and what follows -/
theorem ds_if (hc : DT X c ρ b1) (Mid : Env → Prop) (h1 : b1 = true → DS X body ρ { P with nx := Mid }) (h2 : b1 = false → DS X els ρ { P with nx := Mid }) (k : ∀ ρ', Mid ρ' → DS X rest ρ' P) : DS X (.If c body els pos :: rest) ρ P := by
  have kk : PSs X rest (fun Dn σ H => ∃ ρ', Mid ρ' ∧ tS X.K ρ' P Dn σ H) := pss_any fun Dn σ H ⟨ρ', hm, h⟩ => ⟨_, k ρ' hm, h⟩
  have bb : PSs X body (fun Dn σ H => b1 = true ∧ tS X.K ρ { P with nx := Mid } Dn σ H) := pss_any fun Dn σ H ⟨hb, h⟩ => ⟨_, h1 hb, h⟩
  have ee : PSs X els (fun Dn σ H => b1 = false ∧ tS X.K ρ { P with nx := Mid } Dn σ H) := pss_any fun Dn σ H ⟨hb, h⟩ => ⟨_, h2 hb, h⟩
  refine PSs.imp (pss_cons (ps_if hc bb ee) kk) fun Dn σ H ⟨E, G, R, k1, k2, k3, k4⟩ => ⟨E, G, R, fun G1 H1 x1 => ?_⟩
  have fin : tS X.K ρ { P with nx := Mid } { Dn with nx := fun σ H => ∃ ρ', Mid ρ' ∧ tS X.K ρ' P Dn σ H } σ H1 := ⟨E, G1, R.mono x1, fun σ' G' H' ρ' R' hm => ⟨ρ', hm, E, G', R', k1, k2, k3, k4⟩, k2, k3, k4⟩
  cases b1 with
  | true => exact iteT ⟨rfl, fin⟩
  | false => exact iteF ⟨rfl, fin⟩
/-- an if whose body leaves (return, break), no else -/
theorem ds_ifR (hc : DT X c ρ b1) (h1 : b1 = true → DS X body ρ { P with nx := fun _ => False }) (k : b1 = false → DS X rest ρ P) : DS X (.If c body [] pos :: rest) ρ P :=
  ds_if hc (fun ρ' => b1 = false ∧ ρ' = ρ) (fun h => ds_weak (h1 h) (fun _ z => z.elim) (fun _ z => z) (fun _ z => z) (fun _ z => z)) (fun h => ds_nil ⟨h, rfl⟩) fun ρ' ⟨h, e⟩ => by rw [e]; exact k h
/-- an if at the end of a block -/
theorem ds_ifE (hc : DT X c ρ b1) (h1 : b1 = true → DS X body ρ P) (h2 : b1 = false → DS X els ρ P) : DS X (.If c body els pos :: []) ρ P :=
  ds_if hc P.nx h1 h2 fun ρ' h => ds_nil h
theorem RS.base {K : PySem.W.Frag} {E : Ent} {G H G1 H1 : Hp} {σ : L2.St} (R : RS K E G H σ ρ) (x : Ext E.G E.H G1 H1) (e : Ex G1 G) : RS K ⟨G1, E.H⟩ G H σ ρ :=
  ⟨⟨e, R.ext.h, R.ext.gh, fun a o h1 h2 => R.ext.new a o (fresh_back x.g h1) h2⟩, R.len, let ⟨fp, f⟩ := R.fps; ⟨fp, f.ok, f.dom, f.inj⟩⟩
theorem ext_unbase {E : Ent} {G H G1 H1 : Hp} (x : Ext E.G E.H G1 H1) (y : Ext G1 E.H G H) : Ext E.G E.H G H :=
  ⟨x.g.trans y.g, y.h, y.gh, fun a o h1 h2 => y.new a o (x.new a o h1 h2) h2⟩
theorem RS.unbase {K : PySem.W.Frag} {E : Ent} {G H G1 H1 : Hp} {σ : L2.St} (R : RS K ⟨G1, E.H⟩ G H σ ρ) (x : Ext E.G E.H G1 H1) : RS K E G H σ ρ :=
  ⟨ext_unbase x R.ext, R.len, let ⟨fp, f⟩ := R.fps; ⟨fp, f.ok, f.dom, f.inj⟩⟩
/-- a for: I i behind i turns -/
theorem ds_for {α : Type} {as : List α} {f : α → D} {js : List Nat} (I : Nat → Env → Prop) (Bk : Env → Prop) {iter : Expr} (hp : PassesOwn (model X.prog X.w) X.A X.env X.xe) (hc : X.calm = true) (hi : DI X tg iter ρ (as.map f)) (h0 : I 0 ρ)
    (hs : ∀ i a ρ1, as[i]? = some a → I i ρ1 → ∃ ρ2, DG X tg js ρ1 (f a) ρ2 ∧ DS X body ρ2 { nx := I (i + 1), ct := I (i + 1), bk := Bk, rt := P.rt }) (hd : ∀ ρ1, I as.length ρ1 → DS X rest ρ1 P) (hb : ∀ ρ1, Bk ρ1 → DS X rest ρ1 P)
    (hfs : ∀ x, foldedSetIterable iter X.env x = pure x := by intro _; rfl) : DS X (.For tg iter body [] pos :: rest) ρ P := by
  have kk : PSs X rest (fun Dn σ H => ∃ ρ', (I as.length ρ' ∨ Bk ρ') ∧ tS X.K ρ' P Dn σ H) := pss_any fun Dn σ H ⟨ρ', hm, h⟩ => ⟨_, hm.elim (hd ρ') (hb ρ'), h⟩
  have gg : PG X tg (fun v σ H Q => ∃ ρ1 d ρ2, DG X tg js ρ1 d ρ2 ∧ tDG X.K js ρ1 d ρ2 v σ H Q) := pg_any fun v σ H Q ⟨ρ1, d, ρ2, h1, h2⟩ => ⟨_, h1, h2⟩
  have bb : PSs X body (fun Dn σ H => ∃ ρ2 P2, DS X body ρ2 P2 ∧ tS X.K ρ2 P2 Dn σ H) := pss_any fun Dn σ H ⟨ρ2, P2, h1, h2⟩ => ⟨_, h1, h2⟩
  refine PSs.imp (pss_cons (ps_for hp hc hi gg bb hfs) kk) fun Dn σ H ⟨E, G, R, k1, k2, k3, k4⟩ => ⟨E, G, R, fun J G1 H1 x1 W => ?_⟩
  rw [List.length_map] at W
  have x0 : Ext E.G E.H G1 H1 := R.ext.trans x1
  refine for_it (g := fun v σ H Q => ∃ ρ1 d ρ2, DG X tg js ρ1 d ρ2 ∧ tDG X.K js ρ1 d ρ2 v σ H Q) (tb := fun Dn σ H => ∃ ρ2 P2, DS X body ρ2 P2 ∧ tS X.K ρ2 P2 Dn σ H) (D := { Dn with nx := fun σ H => ∃ ρ', (I as.length ρ' ∨ Bk ρ') ∧ tS X.K ρ' P Dn σ H })
    W (fun i σ2 H2 => ∃ ρ1 G2, RS X.K E G2 H2 σ2 ρ1 ∧ Ex G1 G2 ∧ I i ρ1) ⟨ρ, G1, R.mono x1, Ex.refl _, h0⟩ (fun i σ2 H2 _ ⟨ρ1, G2, R2, e2, _⟩ => e2.trans R2.gh) (fun i v σ2 H2 H3 hi ⟨ρ1, G2, R2, e2, h2⟩ hy => ?_) fun σ2 H2 ⟨ρ1, G2, R2, e2, h2⟩ => ?_
  · obtain ⟨d, hd', hy⟩ := hy
    have hai : as[i]? = some as[i] := List.getElem?_eq_getElem hi
    rw [List.getElem?_map, hai] at hd'
    cases hd'
    obtain ⟨G3, x3, r3⟩ := hy G2 e2 R2.gh
    obtain ⟨ρ2, hg, hbody⟩ := hs i _ ρ1 hai h2
    refine ⟨ρ1, _, ρ2, hg, E, G3, R2.mono x3, r3, fun σ3 U3 _ => ⟨ρ2, _, hbody, ⟨G1, E.H⟩, G3, (U3 _ _ _ (Ex.refl _) (R2.mono x3)).base x0 (e2.trans x3.g), fun σ' G' H' ρ' R' q => ?_, fun v G' H' d x r q => k2 v G' H' d (ext_unbase x0 x) r q, fun σ' G' H' ρ' R' q => ?_, fun σ' G' H' ρ' R' q => ?_⟩⟩
    · exact ⟨ρ', G', R'.unbase x0, R'.ext.g, q⟩
    · exact ⟨ρ', .inr q, E, G', R'.unbase x0, k1, k2, k3, k4⟩
    · exact ⟨ρ', G', R'.unbase x0, R'.ext.g, q⟩
  · exact ⟨ρ1, .inl h2, E, G2, R2, k1, k2, k3, k4⟩
/-- a while: W by a number that falls -/
theorem ds_while (W : Nat → Env → Prop) (Bk : Env → Prop) (hp : PassesOwn (model X.prog X.w) X.A X.env X.xe) (m0 : Nat) (h0 : W m0 ρ)
    (hs : ∀ m ρ1, W m ρ1 → ∃ b1, DT X c ρ1 b1 ∧ (b1 = true → DS X body ρ1 { nx := fun ρ' => ∃ m', m' < m ∧ W m' ρ', ct := fun ρ' => ∃ m', m' < m ∧ W m' ρ', bk := Bk, rt := P.rt }) ∧ (b1 = false → Bk ρ1)) (hb : ∀ ρ1, Bk ρ1 → DS X rest ρ1 P) : DS X (.While c body [] pos :: rest) ρ P := by
  have kk : PSs X rest (fun Dn σ H => ∃ ρ', Bk ρ' ∧ tS X.K ρ' P Dn σ H) := pss_any fun Dn σ H ⟨ρ', hm, h⟩ => ⟨_, hb ρ' hm, h⟩
  have cc : PT X c (fun σ H Q => ∃ ρ1 b1, DT X c ρ1 b1 ∧ tDT X.K ρ1 b1 σ H Q) := ⟨fun pins s σ H Q I ⟨ρ1, b1, h1, h2⟩ => h1.run pins s σ H Q I h2⟩
  have bb : PSs X body (fun Dn σ H => ∃ ρ2 P2, DS X body ρ2 P2 ∧ tS X.K ρ2 P2 Dn σ H) := pss_any fun Dn σ H ⟨ρ2, P2, h1, h2⟩ => ⟨_, h1, h2⟩
  refine PSs.imp (pss_cons (ps_while hp cc bb) kk) fun Dn σ H ⟨E, G, R, k1, k2, k3, k4⟩ => ?_
  refine ⟨fun m σ H => ∃ ρ1 G1, RS X.K E G1 H σ ρ1 ∧ W m ρ1, ⟨m0, ρ, G, R, h0⟩, fun m σ1 H1 ⟨ρ1, G1, R1, w1⟩ => ?_⟩
  obtain ⟨b1, h1, h2, h3⟩ := hs m ρ1 w1
  refine ⟨ρ1, b1, h1, E, G1, R1, fun G2 H2 x2 => ?_⟩
  cases b1 with
  | true =>
    refine iteT ⟨fun σ' H' => ∃ m', m' < m ∧ ∃ ρ' G', RS X.K E G' H' σ' ρ' ∧ W m' ρ', fun σ' H' z => z, ρ1, _, h2 rfl, E, G2, R1.mono x2, fun σ' G' H' ρ' R' ⟨m', hm, q⟩ => ⟨m', hm, ρ', G', R', q⟩, k2, fun σ' G' H' ρ' R' q => ⟨ρ', q, E, G', R', k1, k2, k3, k4⟩, fun σ' G' H' ρ' R' ⟨m', hm, q⟩ => ⟨m', hm, ρ', G', R', q⟩⟩
  | false => exact iteF ⟨ρ1, h3 rfl, E, G2, R1.mono x2, k1, k2, k3, k4⟩
end

/-! ### a def, by its body -/
def ini (N : List Str) (ds : List D) : Env := ds.map Cell.fro ++ List.replicate (N.length - ds.length) .unk
theorem rs_start {K : PySem.W.Frag} {G H : Hp} {ds : List D} {vs : List V} {N : List Str} (e : Ex G H) (r : Reps K G ds vs) : RS K ⟨G, H⟩ G H (L2.start N vs) (ini N ds) := by
  refine ⟨Ext.refl e, ?_, fun _ => [], ⟨fun i c o h1 h2 => ?_, fun i a h => (by cases h), fun i j a h => (by cases h)⟩⟩
  · unfold L2.start ini
    rw [List.length_append, List.length_append, List.length_map, List.length_map, List.length_replicate, List.length_replicate, r.length]
  · unfold ini at h1
    unfold L2.start at h2
    by_cases hi : i < ds.length
    · rw [List.getElem?_append_left (by rw [List.length_map]; exact hi), List.getElem?_map, List.getElem?_eq_getElem hi] at h1
      cases h1
      obtain ⟨v, hv, rv⟩ := r.get (List.getElem?_eq_getElem hi)
      rw [List.getElem?_append_left (by rw [List.length_map, ← r.length]; exact hi), List.getElem?_map, hv] at h2
      cases h2
      exact ⟨v, rfl, rv⟩
    · rw [List.getElem?_append_right (by rw [List.length_map]; omega), List.getElem?_replicate] at h1
      split at h1
      · cases h1; trivial
      · cases h1
abbrev retP (d : D) : Post := { nx := fun _ => d = .non, rt := fun d' => d' = d }
/-- THE RULE: F says what the def gives of which data; the body is walked at such data -/
theorem dfn {P : Program} {w : World} {K : PySem.W.Frag} {mg : Str → Option Value} {base : Heap} {x qual : Str} {st : Stmt} {fa : Addr} {fd : FuncData} {N ps : List Str} {k : Nat} {F : PySem.W.Frag → List D → D → Prop} (U : Fun K x qual st fa fd) (S : FnScope N ps (defScope st)) (hl : ∀ ds d, F K ds d → ds.length = ps.length)
    (hb : ∀ (cdv : Value) (A : Around) (outer : List PySem.Env) (s : Shared) (H : Hp) (E : XK) (ds : List D) (d : D), Room k (A.deeper (envOfC qual (defScope st) s.heap.objs.size fa cdv)) → F K ds d →
      DS (cxOf CX0 P w K mg base N qual (defScope st) fa cdv A outer s H E).nox (defBody st) (ini N ds) (retP d)) :
    FnOk P w K mg base CX0 (k + 1) fa fd ps (spD F K) := by
  refine U.ok S (fun vs H Q E h => ?_) (fun cdv A outer s H vs Q E hr h => ?_)
  · obtain ⟨G, ds, d, e, r, hf, _⟩ := h
    rw [← r.length, hl ds d hf]
  · obtain ⟨G, ds, d, e, r, hf, k⟩ := h
    refine ⟨_, hb cdv A outer s H E ds d hr hf, ⟨G, H⟩, G, rs_start e r, fun σ' G' H' ρ' R' q => ?_, fun v G' H' d' x r' q => ?_, fun _ _ _ _ _ z => z.elim, fun _ _ _ _ _ z => z.elim⟩
    · have q : d = .non := q
      subst q
      exact k .non G' H' R'.ext .non
    · have q : d' = d := q
      subst q
      exact k v G' H' x r'

/-- a def of the module, as its callers use it -/
structure Df (P : Program) (w : World) (K : PySem.W.Frag) (mg : Str → Option Value) (base : Heap) (x : Str) (k : Nat) (ps : List Str) (F : PySem.W.Frag → List D → D → Prop) : Prop where
  ex : ∃ fa fd, FnOk P w K mg base CX0 k fa fd ps (spD F K) ∧ mg x = some (.ref fa) ∧ PySem.W.keepIn K (.ref fa) = true ∧ Binds K fd ps []
section
variable {X : Cx} {ρ : Env} {e o : Expr} {es' : List Expr} {d : D} {ds : List D} {pos p : Pos} {x m f : Str} {k j : Nat} {ps : List Str} {F : PySem.W.Frag → List D → D → Prop} {C : Addr} {fs : List (Str × D)}
theorem de_callD (h : Df X.prog X.w X.K X.mg X.base x k ps F) (hr : Room j X.A) (ha : DA X (e :: es') ρ ds) (hf : F X.K ds d) (hk : k ≤ j := by decide) (hg : Gl X x := by rfl)
    (hdb : (x == ("__debug__" : Str)) = false := by decide) (he : starEach (e :: es') X.env = (false, eval e X.env) :: starEach es' X.env := by rfl) (hpl : (backTo pos (starEach es' X.env)).any (·.1) = false := by rfl) : DE X (.Call (.Name x p) (e :: es') [] pos) ρ d := by
  obtain ⟨fa, fd, h1, h2, h3, h4⟩ := h.ex
  exact de_call h1 (hr.mono hk) h2 h3 h4 ha hf hg hdb he hpl
/-- a method, a property of the class at C -/
structure Dm (P : Program) (w : World) (K : PySem.W.Frag) (mg : Str → Option Value) (base : Heap) (C : Addr) (m : Str) (k : Nat) (ps : List Str) (F : PySem.W.Frag → List D → D → Prop) : Prop where
  cl : Cls K C
  ex : ∃ fa fd, FnOk P w K mg base CX0 k fa fd ps (spD F K) ∧ Meth K C m fa ∧ Binds K fd ps []
structure Dp' (P : Program) (w : World) (K : PySem.W.Frag) (mg : Str → Option Value) (base : Heap) (C : Addr) (f : Str) (k : Nat) (ps : List Str) (F : PySem.W.Frag → List D → D → Prop) : Prop where
  cl : Cls K C
  ex : ∃ pa fa fd, FnOk P w K mg base CX0 k fa fd ps (spD F K) ∧ PropOf K C f pa fa ∧ Binds K fd ps []
theorem de_methD {pl : Sem Bool} {apos : Pos} (h : Dm X.prog X.w X.K X.mg X.base C m k ps F) (hr : Room j X.A) (ho : DE X o ρ (.ins C fs)) (ha : DA X (e :: es') ρ ds) (hf : F X.K (.ins C fs :: ds) d) (hl : fs.lookup m = none := by decide +kernel) (hk : k ≤ j := by decide)
    (hst : starEach (e :: es') X.env = (false, eval e X.env) :: starEach es' X.env := by rfl) (hpl : (backTo pos (starEach es' X.env)).any (·.1) = false := by rfl)
    (ht : eval (.Call (.Attribute o m apos) (e :: es') [] pos) X.env = (do
      let ov ← eval o X.env
      standAt apos.atName
      let (f, first) ← holding [ov] (getMethod ov m pl)
      callWith pos f first (backTo pos (starEach (e :: es') X.env)) (backToKw pos (keywordEach [] X.env))) := by rfl) : DE X (.Call (.Attribute o m apos) (e :: es') [] pos) ρ d := by
  obtain ⟨fa, fd, h1, h2, h3⟩ := h.ex
  exact de_meth (pl := pl) ho h.cl h2 h1 (hr.mono hk) h3 hl ha hf hst hpl ht
theorem de_propD (h : Dp' X.prog X.w X.K X.mg X.base C f k ps F) (hr : Room j X.A) (ho : DE X o ρ (.ins C fs)) (hf : F X.K [.ins C fs] d) (hk : k + 1 ≤ j := by decide) (hab : attributeBase o f X.env (eval o X.env) = eval o X.env := by rfl) : DE X (.Attribute o f pos) ρ d := by
  obtain ⟨pa, fa, fd, h1, h2, h3⟩ := h.ex
  exact de_prop ho h.cl h2 h1 (hr.mono hk) h3 hf hab
end
end DL
set_option maxRecDepth 100000
set_option maxHeartbeats 2000000
/-! DLg: equality, membership, order of data; sorted, min. -/
namespace DL
open PySem PySem.Spec PyProof.Rows L2 Evl

mutual
def D.py : D → PyData
  | .non => .none
  | .bl b => .bool b
  | .int i => .int i
  | .str x => .str x
  | .lst ds => .list (D.pyL ds)
  | .lsk ds => .list (D.pyL ds)
  | .tup ds => .tuple (D.pyL ds)
  | .tupf ds => .tuple (D.pyL ds)
  | .ins _ _ => .none
  | .rng _ _ => .none
def D.pyL : List D → List PyData
  | [] => []
  | d :: ds => d.py :: D.pyL ds
end
theorem pyL_map : ∀ ds : List D, D.pyL ds = ds.map D.py
  | [] => by simp [D.pyL]
  | d :: ds => by rw [D.pyL, pyL_map ds]; rfl
/-- comparable data: no instances within, not deeper than n -/
def D.nice : Nat → D → Bool
  | _, .non => true
  | _, .bl _ => true
  | _, .int _ => true
  | _, .str x => PyData.strOk x
  | n + 1, .lst ds => ds.all (D.nice n)
  | n + 1, .lsk ds => ds.all (D.nice n)
  | n + 1, .tup ds => ds.all (D.nice n)
  | n + 1, .tupf ds => ds.all (D.nice n)
  | _, _ => false
theorem nice_up : ∀ (n : Nat) (d : D), d.nice n = true → d.nice (n + 1) = true := by
  intro n
  induction n with
  | zero =>
    intro d h
    cases d <;> simp_all [D.nice]
  | succ n ih =>
    intro d h
    cases d with
    | lst ds => simp only [D.nice, List.all_eq_true] at h ⊢; exact fun x hx => ih x (h x hx)
    | lsk ds => simp only [D.nice, List.all_eq_true] at h ⊢; exact fun x hx => ih x (h x hx)
    | tup ds => simp only [D.nice, List.all_eq_true] at h ⊢; exact fun x hx => ih x (h x hx)
    | tupf ds => simp only [D.nice, List.all_eq_true] at h ⊢; exact fun x hx => ih x (h x hx)
    | _ => simp_all [D.nice]
theorem nice_lay : ∀ (n : Nat) (d : D), d.nice n = true → d.py.canLay0 = true ∧ d.py.depth ≤ n := by
  have lst : ∀ (n : Nat) (ih : ∀ d : D, d.nice n = true → d.py.canLay0 = true ∧ d.py.depth ≤ n) (ds : List D), (∀ d ∈ ds, d.nice n = true) → PyData.canLayAll0 (D.pyL ds) = true ∧ PyData.depthAll (D.pyL ds) ≤ n := by
    intro n ih ds
    induction ds with
    | nil => intro _; exact ⟨by simp [D.pyL, PyData.canLayAll0], by simp [D.pyL, PyData.depthAll]⟩
    | cons d ds ih2 =>
      intro h
      obtain ⟨a1, a2⟩ := ih d (h d List.mem_cons_self)
      obtain ⟨b1, b2⟩ := ih2 fun x hx => h x (List.mem_cons_of_mem _ hx)
      refine ⟨by rw [D.pyL, PyData.canLayAll0, a1, b1]; rfl, ?_⟩
      rw [D.pyL, PyData.depthAll]
      omega
  intro n
  induction n with
  | zero =>
    intro d h
    cases d <;> simp_all [D.nice, D.py, PyData.canLay0, PyData.depth]
  | succ n ih =>
    intro d h
    cases d with
    | lst ds =>
      simp only [D.nice, List.all_eq_true] at h
      obtain ⟨a, b⟩ := lst n ih ds h
      exact ⟨by rw [D.py, PyData.canLay0]; exact a, by rw [D.py, PyData.depth]; omega⟩
    | lsk ds =>
      simp only [D.nice, List.all_eq_true] at h
      obtain ⟨a, b⟩ := lst n ih ds h
      exact ⟨by rw [D.py, PyData.canLay0]; exact a, by rw [D.py, PyData.depth]; omega⟩
    | tup ds =>
      simp only [D.nice, List.all_eq_true] at h
      obtain ⟨a, b⟩ := lst n ih ds h
      exact ⟨by rw [D.py, PyData.canLay0]; exact a, by rw [D.py, PyData.depth]; omega⟩
    | tupf ds =>
      simp only [D.nice, List.all_eq_true] at h
      obtain ⟨a, b⟩ := lst n ih ds h
      exact ⟨by rw [D.py, PyData.canLay0]; exact a, by rw [D.py, PyData.depth]; omega⟩
    | _ => simp_all [D.nice, D.py, PyData.canLay0, PyData.depth]
theorem nice_shaped {d : D} (h : d.nice 60 = true) : SeqAt.shaped d.py = true := by
  obtain ⟨a, b⟩ := nice_lay 60 d h
  unfold SeqAt.shaped
  rw [a, Bool.true_and]
  exact decide_eq_true (by omega)
theorem rep_dp {K : PySem.W.Frag} {G H : Hp} (e : Ex G H) : ∀ (n : Nat) (d : D) (v : V), d.nice n = true → Rep K G d v → Dp K H v d.py := by
  have lst : ∀ (n : Nat) (ih : ∀ (d : D) (v : V), d.nice n = true → Rep K G d v → Dp K H v d.py) (ds : List D) (vs : List V), (∀ d ∈ ds, d.nice n = true) → Reps K G ds vs → DpAll K H vs (D.pyL ds) := by
    intro n ih ds
    induction ds with
    | nil => intro vs _ r; cases r; rw [D.pyL]; exact .nil
    | cons d ds ih2 =>
      intro vs h r
      cases r with
      | cons r1 r2 => rw [D.pyL]; exact .cons (ih d _ (h d List.mem_cons_self) r1) (ih2 _ (fun x hx => h x (List.mem_cons_of_mem _ hx)) r2)
  intro n
  induction n with
  | zero =>
    intro d v h r
    cases r with
    | non => rw [D.py]; exact .non
    | bl b => rw [D.py]; exact .bl b
    | int i => rw [D.py]; exact .int i
    | str x => rw [D.py]; exact .str x
    | _ => simp [D.nice] at h
  | succ n ih =>
    intro d v h r
    cases r with
    | non => rw [D.py]; exact .non
    | bl b => rw [D.py]; exact .bl b
    | int i => rw [D.py]; exact .int i
    | str x => rw [D.py]; exact .str x
    | lst h1 q1 =>
      simp only [D.nice, List.all_eq_true] at h
      rw [D.py]; exact .lst (sq_of (e _ _ h1)) (lst n ih _ _ h q1)
    | lsk h1 q1 =>
      simp only [D.nice, List.all_eq_true] at h
      rw [D.py]; exact .lst (ex_l e h1) (lst n ih _ _ h q1)
    | tup h1 q1 =>
      simp only [D.nice, List.all_eq_true] at h
      rw [D.py]; exact .tup (ex_t e h1) (lst n ih _ _ h q1)
    | tupf h1 _ q1 =>
      simp only [D.nice, List.all_eq_true] at h
      rw [D.py]; exact .tup (.inl (.inr ⟨_, e _ _ h1⟩)) (lst n ih _ _ h q1)
    | ins _ _ => simp [D.nice] at h
    | rng _ => simp [D.nice] at h
theorem reps_dp {K : PySem.W.Frag} {G H : Hp} (e : Ex G H) (n : Nat) : ∀ (ds : List D) (vs : List V), (∀ d ∈ ds, d.nice n = true) → Reps K G ds vs → DpAll K H vs (D.pyL ds)
  | [], _, _, .nil => by rw [D.pyL]; exact .nil
  | d :: ds, _, h, .cons r1 r2 => by
    rw [D.pyL]
    exact .cons (rep_dp e n d _ (h d List.mem_cons_self) r1) (reps_dp e n ds _ (fun x hx => h x (List.mem_cons_of_mem _ hx)) r2)

/-- an encoding that == tells apart -/
structure EqEnc {α : Type} (f : α → D) : Prop where
  eq : ∀ x y, PyData.eqv (f x).py (f y).py = true ↔ x = y
theorem enc_int : EqEnc D.int := ⟨fun x y => by rw [D.py, D.py, PyData.eqv]; exact beq_iff_eq⟩
theorem eqvAll_iff {α : Type} {f : α → D} (h : EqEnc f) : ∀ xs ys : List α, PyData.eqvAll (D.pyL (xs.map f)) (D.pyL (ys.map f)) = true ↔ xs = ys
  | [], [] => by simp [D.pyL, PyData.eqvAll]
  | [], y :: ys => by simp [D.pyL, PyData.eqvAll]
  | x :: xs, [] => by simp [D.pyL, PyData.eqvAll]
  | x :: xs, y :: ys => by
    rw [List.map_cons, List.map_cons, D.pyL, D.pyL, PyData.eqvAll, Bool.and_eq_true, h.eq, eqvAll_iff h xs ys, List.cons.injEq]
theorem enc_tup {α : Type} {f : α → D} (h : EqEnc f) : EqEnc (fun xs : List α => D.tup (xs.map f)) := ⟨fun x y => by
  show PyData.eqv (D.tup _).py (D.tup _).py = true ↔ _
  rw [D.py, D.py, PyData.eqv]; exact eqvAll_iff h x y⟩
theorem enc_tupf {α : Type} {f : α → D} (h : EqEnc f) : EqEnc (fun xs : List α => D.tupf (xs.map f)) := ⟨fun x y => by
  show PyData.eqv (D.tupf _).py (D.tupf _).py = true ↔ _
  rw [D.py, D.py, PyData.eqv]; exact eqvAll_iff h x y⟩
theorem enc_lst {α : Type} {f : α → D} (h : EqEnc f) : EqEnc (fun xs : List α => D.lst (xs.map f)) := ⟨fun x y => by
  show PyData.eqv (D.lst _).py (D.lst _).py = true ↔ _
  rw [D.py, D.py, PyData.eqv]; exact eqvAll_iff h x y⟩
abbrev encP (p : Int × Int) : D := .tup [.int p.1, .int p.2]
theorem enc_pair : EqEnc encP := ⟨fun x y => by
  obtain ⟨a, b⟩ := x
  obtain ⟨c, d⟩ := y
  show PyData.eqv (D.tup _).py (D.tup _).py = true ↔ _
  rw [D.py, D.py, PyData.eqv]
  simp only [D.pyL, D.py, PyData.eqvAll, PyData.eqv, Bool.and_true, Bool.and_eq_true, beq_iff_eq, Prod.mk.injEq]⟩
theorem nice_ints (n : Nat) (ns : List Int) : ((ns.map D.int).all (D.nice n)) = true := by
  rw [List.all_map, List.all_eq_true]
  intro x _
  cases n <;> rfl
theorem nice_pairs (n : Nat) (ps : List (Int × Int)) : ((ps.map encP).all (D.nice (n + 1))) = true := by
  rw [List.all_map, List.all_eq_true]
  intro x _
  cases n <;> rfl

section
variable {X : Cx} {ρ : Env} {e a b c o : Expr} {es' : List Expr} {d da db dc : D} {ds es : List D} {pos p : Pos} {i j : Int} {b1 b2 : Bool} {k : Nat} {α : Type} {f : α → D} {x y : α} {xs : List α}
/-! ### ==, != of data -/
theorem reqD {K : PySem.W.Frag} {b0 : Bool} (ha : da.nice 60 = true) (hb : db.nice 60 = true) (h0 : PyData.eqv da.py db.py = b0) : ∀ v w G H Q, Ex G H → Rep K G da v → Rep K G db w → (∀ z G' H', Ext G H G' H' → Rep K G' (.bl b0) z → Q z H') → rEqD K v w H Q := fun v w G H Q e ra rb k => by
  refine ⟨da.py, db.py, rep_dp e 60 _ _ ha ra, rep_dp e 60 _ _ hb rb, nice_shaped ha, nice_shaped hb, ?_⟩
  rw [h0]
  exact k _ _ _ (Ext.refl e) (.bl _)
theorem rneD {K : PySem.W.Frag} {b0 : Bool} (ha : da.nice 60 = true) (hb : db.nice 60 = true) (h0 : (!PyData.eqv da.py db.py) = b0) : ∀ v w G H Q, Ex G H → Rep K G da v → Rep K G db w → (∀ z G' H', Ext G H G' H' → Rep K G' (.bl b0) z → Q z H') → rNeD K v w H Q := fun v w G H Q e ra rb k => by
  refine ⟨da.py, db.py, rep_dp e 60 _ _ ha ra, rep_dp e 60 _ _ hb rb, nice_shaped ha, nice_shaped hb, ?_⟩
  rw [h0]
  exact k _ _ _ (Ext.refl e) (.bl _)
theorem de_eqD (hr : Room k X.A) (ha : DE X a ρ da) (hb : DE X b ρ db) (na : da.nice 60 = true) (nb : db.nice 60 = true) (h0 : PyData.eqv da.py db.py = b1) : DE X (.Compare a [.Eq] [b] pos) ρ (.bl b1) := de_cmp (op_eqD hr.units) ha hb (reqD na nb h0) (nomark _)
theorem de_neD (hr : Room k X.A) (ha : DE X a ρ da) (hb : DE X b ρ db) (na : da.nice 60 = true) (nb : db.nice 60 = true) (h0 : (!PyData.eqv da.py db.py) = b1) : DE X (.Compare a [.NotEq] [b] pos) ρ (.bl b1) := de_cmp (op_neD hr.units) ha hb (rneD na nb h0) (nomark _)
theorem dt_eqD (hr : Room k X.A) (ha : DE X a ρ da) (hb : DE X b ρ db) (na : da.nice 60 = true) (nb : db.nice 60 = true) (h0 : PyData.eqv da.py db.py = b1) : DT X (.Compare a [.Eq] [b] pos) ρ b1 := dt_cmp (op_eqD hr.units) ha hb (reqD na nb h0) (nomark _)
theorem dt_neD (hr : Room k X.A) (ha : DE X a ρ da) (hb : DE X b ρ db) (na : da.nice 60 = true) (nb : db.nice 60 = true) (h0 : (!PyData.eqv da.py db.py) = b1) : DT X (.Compare a [.NotEq] [b] pos) ρ b1 := dt_cmp (op_neD hr.units) ha hb (rneD na nb h0) (nomark _)
theorem eqv_dec [DecidableEq α] (hf : EqEnc f) (x y : α) : PyData.eqv (f x).py (f y).py = decide (x = y) := by
  rw [Bool.eq_iff_iff, hf.eq, decide_eq_true_iff]

/-! ### in, not in of data in a list -/
theorem any_dec [DecidableEq α] (hf : EqEnc f) (x : α) : ∀ xs : List α, ((D.pyL (xs.map f)).any fun z => PyData.eqv z (f x).py) = decide (x ∈ xs)
  | [] => by simp [D.pyL]
  | y :: ys => by
    rw [List.map_cons, D.pyL, List.any_cons, any_dec hf x ys, eqv_dec hf, Bool.eq_iff_iff]
    simp only [Bool.or_eq_true, decide_eq_true_iff, List.mem_cons]
    exact ⟨fun h => h.elim (fun z => .inl z.symm) .inr, fun h => h.elim (fun z => .inl z.symm) .inr⟩
theorem shapedL {ds : List D} (h : ∀ d ∈ ds, d.nice 59 = true) : SeqAt.shaped (.list (D.pyL ds)) = true := by
  have : (D.lst ds).nice 60 = true := by
    show ds.all (D.nice 59) = true
    exact List.all_eq_true.mpr h
  have q := nice_shaped this
  rw [D.py] at q
  exact q
theorem nice59 {d : D} (h : d.nice 59 = true) : d.nice 60 = true := nice_up 59 d h
theorem inD_imp [DecidableEq α] {K : PySem.W.Frag} {ta tb : TE} {b0 : Bool} (hf : EqEnc f) (nx : (f x).nice 59 = true) (nl : ∀ z ∈ xs, (f z).nice 59 = true) (ha : ∀ σ H Q, tD K ρ (f x) σ H Q → ta σ H Q) (hb : ∀ σ H Q, tDL K ρ (xs.map f) σ H Q → tb σ H Q) (h0 : decide (x ∈ xs) = b0) : ∀ σ H Q, tD K ρ (.bl b0) σ H Q → tOp (rInD K) ta tb σ H Q := fun σ H Q ⟨E, G, R, k⟩ =>
  ha _ _ _ ⟨E, G, R, fun v G1 H1 x1 r1 => hb _ _ _ ⟨E, G1, R.mono x1, fun p vs G2 H2 x2 h2 r2 => by
    have nl' : ∀ d ∈ xs.map f, d.nice 59 = true := fun d hd => by
      obtain ⟨z, hz, rfl⟩ := List.mem_map.mp hd
      exact nl z hz
    refine ⟨(f x).py, D.pyL (xs.map f), rep_dp x2.gh 59 _ _ nx (r1.mono x2.g), .lst h2 (reps_dp x2.gh 59 _ _ nl' r2), nice_shaped (nice59 nx), shapedL nl', ?_⟩
    rw [any_dec hf, h0]
    exact k _ _ _ (x1.trans x2) (.bl _)⟩⟩
theorem ninD_imp [DecidableEq α] {K : PySem.W.Frag} {ta tb : TE} {b0 : Bool} (hf : EqEnc f) (nx : (f x).nice 59 = true) (nl : ∀ z ∈ xs, (f z).nice 59 = true) (ha : ∀ σ H Q, tD K ρ (f x) σ H Q → ta σ H Q) (hb : ∀ σ H Q, tDL K ρ (xs.map f) σ H Q → tb σ H Q) (h0 : (!decide (x ∈ xs)) = b0) : ∀ σ H Q, tD K ρ (.bl b0) σ H Q → tOp (rNotInD K) ta tb σ H Q := fun σ H Q ⟨E, G, R, k⟩ =>
  ha _ _ _ ⟨E, G, R, fun v G1 H1 x1 r1 => hb _ _ _ ⟨E, G1, R.mono x1, fun p vs G2 H2 x2 h2 r2 => by
    have nl' : ∀ d ∈ xs.map f, d.nice 59 = true := fun d hd => by
      obtain ⟨z, hz, rfl⟩ := List.mem_map.mp hd
      exact nl z hz
    refine ⟨(f x).py, D.pyL (xs.map f), rep_dp x2.gh 59 _ _ nx (r1.mono x2.g), .lst h2 (reps_dp x2.gh 59 _ _ nl' r2), nice_shaped (nice59 nx), shapedL nl', ?_⟩
    rw [any_dec hf, h0]
    exact k _ _ _ (x1.trans x2) (.bl _)⟩⟩
theorem hu65 (hr : Room k X.A) : X.A.units + 65 < cLine := by have := hr.un; omega
theorem de_inD [DecidableEq α] (hr : Room k X.A) (hf : EqEnc f) (ha : DE X a ρ (f x)) (hb : DLs X b ρ (xs.map f)) (nx : (f x).nice 59 = true) (nl : ∀ z ∈ xs, (f z).nice 59 = true) (hm : behindInMarks .In b = false := by rfl) : DE X (.Compare a [.In] [b] pos) ρ (.bl (decide (x ∈ xs))) := PE.imp (pe_cmpR (op_inD (hu65 hr)) ha hb hm) (inD_imp hf nx nl (fun _ _ _ h => h) (fun _ _ _ h => h) rfl)
theorem dt_inD [DecidableEq α] (hr : Room k X.A) (hf : EqEnc f) (ha : DE X a ρ (f x)) (hb : DLs X b ρ (xs.map f)) (nx : (f x).nice 59 = true) (nl : ∀ z ∈ xs, (f z).nice 59 = true) (hm : behindInMarks .In b = false := by rfl) : DT X (.Compare a [.In] [b] pos) ρ (decide (x ∈ xs)) := PT.imp (pt_cmpR (op_inD (hu65 hr)) ha hb hm) (test_imp (inD_imp hf nx nl (fun _ _ _ h => h) (fun _ _ _ h => h) rfl))
theorem dt_ninD [DecidableEq α] (hr : Room k X.A) (hf : EqEnc f) (ha : DE X a ρ (f x)) (hb : DLs X b ρ (xs.map f)) (nx : (f x).nice 59 = true) (nl : ∀ z ∈ xs, (f z).nice 59 = true) (hm : behindInMarks .NotIn b = false := by rfl) : DT X (.Compare a [.NotIn] [b] pos) ρ (!decide (x ∈ xs)) := PT.imp (pt_cmpR (op_notInD (hu65 hr)) ha hb hm) (test_imp (ninD_imp hf nx nl (fun _ _ _ h => h) (fun _ _ _ h => h) rfl))
end
end DL
set_option maxRecDepth 100000
set_option maxHeartbeats 2000000
/-! HP: the heap of heapq: its order, the turns of its sifting. -/
namespace HQ
open PySem

section
variable {κ : Type} (lt : κ → κ → Bool)
/-- a strict order of keys, not less than is transitive -/
structure Ord : Prop where
  asym : ∀ a b, lt a b = true → lt b a = false
  trans : ∀ a b c, lt b a = false → lt c b = false → lt c a = false
abbrev Le (a b : κ) : Prop := lt b a = false
def Heapy (n : Nat) (k : Nat → κ) : Prop := ∀ i, 0 < i → i < n → Le lt (k ((i - 1) / 2)) (k i)
/-- a heap but for the place p and what stands over it -/
structure UpOk (n : Nat) (k : Nat → κ) (p : Nat) : Prop where
  h1 : ∀ i, 0 < i → i < n → i ≠ p → Le lt (k ((i - 1) / 2)) (k i)
  h2 : ∀ i, 0 < i → i < n → (i - 1) / 2 = p → 0 < p → Le lt (k ((p - 1) / 2)) (k i)
/-- a heap but for the place p and what stands over and under it -/
structure DownOk (n : Nat) (k : Nat → κ) (p : Nat) : Prop where
  h1 : ∀ i, 0 < i → i < n → i ≠ p → (i - 1) / 2 ≠ p → Le lt (k ((i - 1) / 2)) (k i)
  h2 : ∀ i, 0 < i → i < n → (i - 1) / 2 = p → 0 < p → Le lt (k ((p - 1) / 2)) (k i)
def swK (k : Nat → κ) (i j : Nat) : Nat → κ := fun m => if m = j then k i else if m = i then k j else k m
variable {lt}
theorem swK_j {k : Nat → κ} {i j : Nat} : swK k i j j = k i := by unfold swK; rw [if_pos rfl]
theorem swK_i {k : Nat → κ} {i j : Nat} (h : i ≠ j) : swK k i j i = k j := by unfold swK; rw [if_neg h, if_pos rfl]
theorem swK_o {k : Nat → κ} {i j m : Nat} (h1 : m ≠ i) (h2 : m ≠ j) : swK k i j m = k m := by unfold swK; rw [if_neg h2, if_neg h1]
theorem Heapy.root (O : Ord lt) {n : Nat} {k : Nat → κ} (h : Heapy lt n k) : ∀ i, i < n → Le lt (k 0) (k i) := by
  intro i
  induction i using Nat.strongRecOn with
  | ind i ih =>
    intro hi
    by_cases h0 : i = 0
    · subst h0
      cases q : lt (k 0) (k 0) with
      | false => exact q
      | true => exact O.asym _ _ q
    · exact O.trans _ _ _ (ih ((i - 1) / 2) (by omega) (by omega)) (h i (by omega) hi)
theorem le_of_lt (O : Ord lt) {a b : κ} (h : lt a b = true) : Le lt a b := O.asym _ _ h
theorem le_refl (O : Ord lt) (a : κ) : Le lt a a := by
  cases q : lt a a with
  | false => exact q
  | true => exact O.asym _ _ q
theorem UpOk.done0 {n : Nat} {k : Nat → κ} (h : UpOk lt n k 0) : Heapy lt n k := fun i h0 hi => h.h1 i h0 hi (by omega)
theorem UpOk.done {n : Nat} {k : Nat → κ} {p : Nat} (h : UpOk lt n k p) (q : Le lt (k ((p - 1) / 2)) (k p)) : Heapy lt n k := fun i h0 hi => by
  by_cases e : i = p
  · subst e; exact q
  · exact h.h1 i h0 hi e
theorem UpOk.step (O : Ord lt) {n : Nat} {k : Nat → κ} {p : Nat} (h : UpOk lt n k p) (hp : 0 < p) (hn : p < n) (q : lt (k p) (k ((p - 1) / 2)) = true) : UpOk lt n (swK k ((p - 1) / 2) p) ((p - 1) / 2) := by
  have hne : (p - 1) / 2 ≠ p := by omega
  have hq : Le lt (k p) (k ((p - 1) / 2)) := le_of_lt O q
  refine ⟨fun i h0 hi hip => ?_, fun i h0 hi hip hpp => ?_⟩
  · by_cases e : i = p
    · subst e
      rw [swK_j, swK_i hne]
      exact hq
    · rw [swK_o hip e]
      by_cases e2 : (i - 1) / 2 = p
      · rw [e2, swK_j]
        exact h.h2 i h0 hi e2 hp
      · by_cases e3 : (i - 1) / 2 = (p - 1) / 2
        · rw [e3, swK_i hne]
          have := h.h1 i h0 hi e
          rw [e3] at this
          exact O.trans _ _ _ hq this
        · rw [swK_o e3 e2]
          exact h.h1 i h0 hi e
  · have hg : ((p - 1) / 2 - 1) / 2 ≠ (p - 1) / 2 := by omega
    have hg2 : ((p - 1) / 2 - 1) / 2 ≠ p := by omega
    rw [swK_o hg hg2]
    have hgp := h.h1 ((p - 1) / 2) (by omega) (by omega) hne
    by_cases e : i = p
    · subst e
      rw [swK_j]
      exact hgp
    · rw [swK_o (by omega) e]
      have := h.h1 i h0 hi e
      rw [hip] at this
      exact O.trans _ _ _ hgp this
theorem DownOk.leaf {n : Nat} {k : Nat → κ} {p : Nat} (h : DownOk lt n k p) (hp : n / 2 ≤ p) : UpOk lt n k p :=
  ⟨fun i h0 hi hip => h.h1 i h0 hi hip (by omega), h.h2⟩
theorem DownOk.step (O : Ord lt) {n : Nat} {k : Nat → κ} {p c : Nat} (h : DownOk lt n k p) (hc : c = 2 * p + 1 ∨ c = 2 * p + 2) (hn : c < n) (q : ∀ i, i < n → (i = 2 * p + 1 ∨ i = 2 * p + 2) → Le lt (k c) (k i)) : DownOk lt n (swK k c p) c := by
  have hne : c ≠ p := by omega
  have hcp : (c - 1) / 2 = p := by omega
  refine ⟨fun i h0 hi hic hpc => ?_, fun i h0 hi hpc hc0 => ?_⟩
  · by_cases e : i = p
    · subst e
      rw [swK_j, swK_o (by omega) (by omega)]
      exact h.h2 c (by omega) hn hcp h0
    · rw [swK_o hic e]
      by_cases e2 : (i - 1) / 2 = p
      · rw [e2, swK_j]
        exact q i hi (by omega)
      · rw [swK_o hpc e2]
        exact h.h1 i h0 hi e e2
  · rw [hcp, swK_j, swK_o (by omega) (by omega)]
    have := h.h1 i h0 hi (by omega) (by omega)
    rw [hpc] at this
    exact this
end

/-! ### arrays of values -/
abbrev at0 (xs : Array Value) (i : Nat) : Value := xs.getD i .none
def sw (xs : Array Value) (i j : Nat) : Array Value := (xs.setIfInBounds i (at0 xs j)).setIfInBounds j (at0 xs i)
theorem sw_size (xs : Array Value) (i j : Nat) : (sw xs i j).size = xs.size := by unfold sw; rw [Array.size_setIfInBounds, Array.size_setIfInBounds]
theorem at0_get {xs : Array Value} {i : Nat} (h : i < xs.size) : xs[i]? = some (at0 xs i) := by
  unfold at0
  rw [Array.getD_eq_getD_getElem?, Array.getElem?_eq_getElem h]; rfl
theorem at0_of {xs : Array Value} {i : Nat} {v : Value} (h : xs[i]? = some v) : at0 xs i = v := by
  unfold at0
  rw [Array.getD_eq_getD_getElem?, h]; rfl
theorem sw_at {xs : Array Value} {i j m : Nat} (hi : i < xs.size) (hj : j < xs.size) : at0 (sw xs i j) m = swK (at0 xs) i j m := by
  unfold at0 sw swK
  rw [Array.getD_eq_getD_getElem?, Array.getElem?_setIfInBounds, Array.getElem?_setIfInBounds]
  by_cases h : j = m
  · subst h
    rw [if_pos rfl, if_pos (by rw [Array.size_setIfInBounds]; exact hj), if_pos rfl]; rfl
  · rw [if_neg h, if_neg (Ne.symm h)]
    by_cases h2 : i = m
    · subst h2
      rw [if_pos rfl, if_pos hi, if_pos rfl]; rfl
    · rw [if_neg h2, if_neg (Ne.symm h2), ← Array.getD_eq_getD_getElem?]
theorem sw_perm {xs : Array Value} {i j : Nat} (hi : i < xs.size) (hj : j < xs.size) : (sw xs i j).toList.Perm xs.toList := by
  unfold sw
  rw [Array.toList_setIfInBounds, Array.toList_setIfInBounds]
  have e1 : at0 xs j = xs.toList[j]'(by simpa using hj) := at0_of (by rw [Array.getElem?_eq_getElem hj]; simp)
  have e2 : at0 xs i = xs.toList[i]'(by simpa using hi) := at0_of (by rw [Array.getElem?_eq_getElem hi]; simp)
  rw [e1, e2]
  exact List.set_set_perm (by simpa using hi) (by simpa using hj)
end HQ
set_option maxRecDepth 100000
set_option maxHeartbeats 2000000
/-! HP2: heapq's own code, turn by turn. -/
namespace HQ
open PySem PySem.Spec PyProof.Rows

theorem entry_sift : entryFor table "_heapq.heapify.sift" = some Builtin.«_heapq.heapify.sift» := entryFor_of_tree (by kernel_rfl)
theorem plain_sift : plainId "_heapq.heapify.sift" = true := by decide +kernel
theorem entry_push : entryFor table "_heapq.heappush" = some Builtin.«_heapq.heappush» := entryFor_of_tree (by kernel_rfl)
theorem kind_push : builtinKind "_heapq.heappush" = none := by kernel_rfl
theorem plain_push : plainId "_heapq.heappush" = true := by decide +kernel
theorem args_push (a b : Value) : argsOk "_heapq.heappush" ⟨[a, b], []⟩ := by unfold argsOk; kernel_rfl
theorem entry_pop : entryFor table "_heapq.heappop" = some Builtin.«_heapq.heappop» := entryFor_of_tree (by kernel_rfl)
theorem kind_pop : builtinKind "_heapq.heappop" = none := by kernel_rfl
theorem plain_pop : plainId "_heapq.heappop" = true := by decide +kernel
theorem args_pop (a : Value) : argsOk "_heapq.heappop" ⟨[a], []⟩ := by unfold argsOk; kernel_rfl

/-- the list at a -/
def LS (h : Heap) (a : Addr) (xs : Array Value) : Prop := ∃ n, h.get? a = some { cls := .type "list", data := .seq xs n }
/-- all but the object at a as before -/
def KB (a : Addr) (s s' : Shared) : Prop := (∀ b o, b ≠ a → s.heap.get? b = some o → s'.heap.get? b = some o) ∧ s'.gens = s.gens ∧ s'.drawn = s.drawn ∧ s'.toks = s.toks ∧ s'.os = s.os
theorem KB.refl {a : Addr} {s : Shared} : KB a s s := ⟨fun _ _ _ h => h, rfl, rfl, rfl, rfl⟩
theorem KB.trans {a : Addr} {s s1 s2 : Shared} (x : KB a s s1) (y : KB a s1 s2) : KB a s s2 := ⟨fun b o hb h => y.1 b o hb (x.1 b o hb h), y.2.1.trans x.2.1, y.2.2.1.trans x.2.2.1, y.2.2.2.1.trans x.2.2.2.1, y.2.2.2.2.trans x.2.2.2.2⟩
section
variable {M : Model} {A : Around} {E : Value → Shared → Prop} {s : Shared} {a : Addr} {xs : Array Value}
theorem upd_list {f : Array Value → Array Value} {Q : Unit → Shared → Prop} (h : LS s.heap a xs) (hz : xs.size ≤ 100000) (hz2 : (f xs).size ≤ 100001) (q : ∀ s', LS s'.heap a (f xs) → KB a s s' → Q () s') : wpAny M A (updateSeq a f) Q E s := by
  obtain ⟨n, e⟩ := h
  refine wpAny_updateSeq e rfl (q _ ⟨_, Heap.get?_update_self (Obj.mapSeq f) e rfl⟩ ⟨fun b o hb ho => ?_, rfl, rfl, rfl, rfl⟩) (by rw [sizeLine_eq]; omega) (by rw [sizeLine_eq]; omega)
  exact (Heap.get?_update_other _ _ (Ne.symm hb)).trans ho
/-- reading the items, an item -/
def rdItems (a : Addr) : Sem (Array Value) := do
  let some ys ← seqItems? (.ref a) | unsupported "internal:_heapq"
  return ys
def rdAt (ys : Array Value) (i : Nat) : Sem Value := match ys[i]? with
  | some v => pure v
  | none => unsupported "internal:_heapq.index"
theorem rd_items {Q : Array Value → Shared → Prop} (h : LS s.heap a xs) (q : Q xs s) : wpAny M A (rdItems a) Q E s := by
  obtain ⟨n, e⟩ := h
  unfold rdItems
  exact wpAny_bind (wpAny_seqItems e rfl (wpAny_pure q))
theorem rd_at {i : Nat} {Q : Value → Shared → Prop} (h : i < xs.size) (q : Q (at0 xs i) s) : wpAny M A (rdAt xs i) Q E s := by
  unfold rdAt
  rw [at0_get h]
  exact wpAny_pure q
def swapAt (a : Addr) (i j : Nat) : Sem Unit := do
  let ys ← rdItems a
  let x ← rdAt ys i
  let y ← rdAt ys j
  updateSeq a fun zs => (zs.setIfInBounds i y).setIfInBounds j x
theorem swap_at {i j : Nat} {Q : Unit → Shared → Prop} (h : LS s.heap a xs) (hi : i < xs.size) (hj : j < xs.size) (hz : xs.size ≤ 100000) (q : ∀ s', LS s'.heap a (sw xs i j) → KB a s s' → Q () s') : wpAny M A (swapAt a i j) Q E s := by
  unfold swapAt
  refine wpAny_bind (rd_items h (wpAny_bind (rd_at hi (wpAny_bind (rd_at hj ?_)))))
  exact upd_list h hz (by rw [Array.size_setIfInBounds, Array.size_setIfInBounds]; omega) q
def lessAt (a : Addr) (size : Nat) (x y : Value) : Sem Bool := do
  let less ← holding [x, y] (do truthOfDropped (← richCompare .Lt x y))
  if (← rdItems a).size != size then
    rule "_heapq.size-changed"
    raiseError "RuntimeError" "list changed size during iteration"
  return less
theorem less_at {x y : Value} {b : Bool} {Q : Bool → Shared → Prop} (h : LS s.heap a xs) (hc : ∀ (Q : Value → Shared → Prop), Q (.bool b) s → wpAny M A (richCompare .Lt x y) Q E s) (q : Q b s) : wpAny M A (lessAt a xs.size x y) Q E s := by
  unfold lessAt
  refine wpAny_bind (wpAny_holding (wpAny_bind (hc _ ?_)))
  show wpAny M A (truthy (.bool b)) _ E s
  refine wpAny_truthy_bool ?_
  refine wpAny_bind (rd_items h ?_)
  have e : (xs.size != xs.size) = false := by simp
  rw [e]
  exact wpAny_pure q
end
section
variable {prog : Program} {w : World} {A : Around} {R : Result → Shared → Prop} {a : Addr} {κ : Type} {lt : κ → κ → Bool} {key : Value → κ} {Ok : Value → Prop} {s0 : Shared}
/-- the values compare by their keys, wherever but the list is as it was -/
def Cmp (prog : Program) (w : World) (A : Around) (a : Addr) (s0 : Shared) (lt : κ → κ → Bool) (key : Value → κ) (Ok : Value → Prop) : Prop :=
  ∀ (s : Shared) (x y : Value) (E : Value → Shared → Prop) (Q : Value → Shared → Prop), KB a s0 s → Ok x → Ok y → Q (.bool (lt (key x) (key y))) s → wpAny (model prog w) A (richCompare .Lt x y) Q E s
abbrev siftArgs (a : Addr) (down : Bool) (pos top : Nat) (res : Value) (after : Int) : Args := ⟨[.ref a, .bool false, .bool down, rawInt pos, rawInt top, res, rawInt after], []⟩
theorem sw_key {key : Value → κ} {xs : Array Value} {c p : Nat} (hc : c < xs.size) (hp : p < xs.size) : (fun i => key (at0 (sw xs c p) i)) = swK (fun i => key (at0 xs i)) c p := by
  funext i
  rw [sw_at hc hp]
  by_cases h : i = p
  · subst h
    rw [swK_j, swK_j]
  · by_cases h2 : i = c
    · subst h2
      rw [swK_i h, swK_i h]
    · rw [swK_o h2 h, swK_o h2 h]
theorem nat_nat (n : Nat) : ((n : Int)).toNat = n := Int.toNat_natCast n
/-- going up: at the end a heap of the same values -/
theorem sift_up (O : Ord lt) (hc : Cmp prog w A.in1 a s0 lt key Ok) : ∀ (pos : Nat) (xs : Array Value) (s : Shared) (res : Value), LS s.heap a xs → KB a s0 s → xs.size ≤ 100000 → pos < xs.size → (∀ v ∈ xs.toList, Ok v) → UpOk lt xs.size (fun i => key (at0 xs i)) pos →
    (∀ ys s', LS s'.heap a ys → KB a s0 s' → ys.toList.Perm xs.toList → Heapy lt ys.size (fun i => key (at0 ys i)) → R (.ok (.ret res)) s') →
    codeAny (model prog w) A (.builtin "_heapq.heapify.sift" (siftArgs a false pos 0 res (-1))) R s := by
  intro pos
  induction pos using Nat.strongRecOn with
  | ind pos ih =>
    intro xs s res hl hk hz hp hok hu hR
    refine codeAny_builtin entry_sift ?_
    rw [Around.under_plainId plain_sift _]
    unfold Builtin.«_heapq.heapify.sift» siftArgs rawInt
    dsimp only
    refine wpAny_bind ?_
    refine (rd_items hl ?_ : wpAny _ _ (rdItems a) _ _ _)
    rw [if_neg Bool.false_ne_true]
    simp only [nat_nat]
    by_cases h0 : pos > 0
    · rw [if_pos h0]
      have hpar : (pos - 1) / 2 < xs.size := by omega
      refine wpAny_bind ?_
      refine (rd_at hp ?_ : wpAny _ _ (rdAt xs pos) _ _ _)
      refine wpAny_bind ?_
      refine (rd_at hpar ?_ : wpAny _ _ (rdAt xs ((pos - 1) / 2)) _ _ _)
      rw [if_neg Bool.false_ne_true]
      refine wpAny_bind ?_
      have hm : ∀ i, i < xs.size → Ok (at0 xs i) := fun i hi => hok _ (by
        have := at0_get hi
        rw [← Array.getElem?_toList] at this
        exact List.mem_of_getElem? this)
      refine (less_at (b := lt (key (at0 xs pos)) (key (at0 xs ((pos - 1) / 2)))) hl (fun Q q => hc s _ _ _ Q hk (hm _ hp) (hm _ hpar) q) ?_ : wpAny _ _ (lessAt a xs.size _ _) _ _ _)
      cases hb : lt (key (at0 xs pos)) (key (at0 xs ((pos - 1) / 2))) with
      | true =>
        rw [if_pos rfl]
        refine wpAny_bind ?_
        refine (swap_at hl hpar hp hz fun s' hl' hk' => ?_ : wpAny _ _ (swapAt a ((pos - 1) / 2) pos) _ _ _)
        refine wpAny_pure ⟨plainId_quiet plain_sift _, ?_⟩
        have hs := sw_size xs ((pos - 1) / 2) pos
        refine ih ((pos - 1) / 2) (by omega) (sw xs ((pos - 1) / 2) pos) s' res hl' (hk.trans hk') (by rw [hs]; exact hz) (by rw [hs]; exact hpar) (fun v hv => hok v ((sw_perm hpar hp).mem_iff.mp hv)) ?_ fun ys s'' h1 h2 h3 h4 => hR ys s'' h1 h2 (h3.trans (sw_perm hpar hp)) h4
        rw [hs]
        have := UpOk.step O hu h0 hp hb
        rw [sw_key hpar hp]
        exact this
      | false =>
        rw [if_neg Bool.false_ne_true, if_pos (by decide)]
        exact wpAny_pure (hR xs s hl hk (List.Perm.refl _) (hu.done hb))
    · rw [if_neg h0, if_pos (by decide)]
      have : pos = 0 := by omega
      subst this
      exact wpAny_pure (hR xs s hl hk (List.Perm.refl _) hu.done0)
/-- going down to a leaf, then up -/
theorem sift_down (O : Ord lt) (hc : Cmp prog w A.in1 a s0 lt key Ok) : ∀ (m pos : Nat) (xs : Array Value) (s : Shared) (res : Value), xs.size - pos = m → LS s.heap a xs → KB a s0 s → xs.size ≤ 100000 → pos < xs.size → (∀ v ∈ xs.toList, Ok v) → DownOk lt xs.size (fun i => key (at0 xs i)) pos →
    (∀ ys s', LS s'.heap a ys → KB a s0 s' → ys.toList.Perm xs.toList → Heapy lt ys.size (fun i => key (at0 ys i)) → R (.ok (.ret res)) s') →
    codeAny (model prog w) A (.builtin "_heapq.heapify.sift" (siftArgs a true pos 0 res (-1))) R s := by
  intro m
  induction m using Nat.strongRecOn with
  | ind m ih =>
    intro pos xs s res hm hl hk hz hp hok hu hR
    refine codeAny_builtin entry_sift ?_
    rw [Around.under_plainId plain_sift _]
    unfold Builtin.«_heapq.heapify.sift» siftArgs rawInt
    dsimp only
    refine wpAny_bind ?_
    refine (rd_items hl ?_ : wpAny _ _ (rdItems a) _ _ _)
    rw [if_pos rfl]
    simp only [nat_nat]
    have hmem : ∀ i, i < xs.size → Ok (at0 xs i) := fun i hi => hok _ (by
      have := at0_get hi
      rw [← Array.getElem?_toList] at this
      exact List.mem_of_getElem? this)
    -- a turn: the child c takes the place
    have turn : ∀ c, (c = 2 * pos + 1 ∨ c = 2 * pos + 2) → c < xs.size → (∀ i, i < xs.size → (i = 2 * pos + 1 ∨ i = 2 * pos + 2) → Le lt (key (at0 xs c)) (key (at0 xs i))) →
        ∀ s' : Shared, LS s'.heap a (sw xs c pos) → KB a s s' → codeAny (model prog w) A (.builtin "_heapq.heapify.sift" (siftArgs a true c 0 res (-1))) R s' := fun c hcc hcn hq s' hl' hk' => by
      have hs := sw_size xs c pos
      refine ih (xs.size - c) (by omega) c (sw xs c pos) s' res (by rw [hs]) hl' (hk.trans hk') (by rw [hs]; exact hz) (by rw [hs]; exact hcn) (fun v hv => hok v ((sw_perm hcn hp).mem_iff.mp hv)) ?_ fun ys s'' h1 h2 h3 h4 => hR ys s'' h1 h2 (h3.trans (sw_perm hcn hp)) h4
      rw [hs]
      have := DownOk.step O hu hcc hcn hq
      rw [sw_key hcn hp]
      exact this
    by_cases h0 : pos < xs.size / 2
    · rw [if_pos h0]
      have hl1 : 2 * pos + 1 < xs.size := by omega
      by_cases h1 : 2 * pos + 1 + 1 < xs.size
      · rw [if_pos h1]
        refine wpAny_bind ?_
        refine (rd_at hl1 ?_ : wpAny _ _ (rdAt xs (2 * pos + 1)) _ _ _)
        refine wpAny_bind ?_
        refine (rd_at h1 ?_ : wpAny _ _ (rdAt xs (2 * pos + 1 + 1)) _ _ _)
        rw [if_neg Bool.false_ne_true]
        refine wpAny_bind ?_
        refine (less_at (b := lt (key (at0 xs (2 * pos + 1))) (key (at0 xs (2 * pos + 1 + 1)))) hl (fun Q q => hc s _ _ _ Q hk (hmem _ hl1) (hmem _ h1) q) ?_ : wpAny _ _ (lessAt a xs.size _ _) _ _ _)
        cases hb : lt (key (at0 xs (2 * pos + 1))) (key (at0 xs (2 * pos + 1 + 1))) with
        | true =>
          rw [if_neg (by decide)]
          refine wpAny_bind ?_
          refine (swap_at hl hl1 hp hz fun s' hl' hk' => ?_ : wpAny _ _ (swapAt a (2 * pos + 1) pos) _ _ _)
          refine wpAny_pure ⟨plainId_quiet plain_sift _, turn (2 * pos + 1) (.inl rfl) hl1 (fun i hi hi2 => ?_) s' hl' hk'⟩
          rcases hi2 with e | e
          · rw [e]; exact le_refl O _
          · rw [e]; exact O.asym _ _ hb
        | false =>
          rw [if_pos (by decide)]
          refine wpAny_bind ?_
          refine (swap_at hl h1 hp hz fun s' hl' hk' => ?_ : wpAny _ _ (swapAt a (2 * pos + 1 + 1) pos) _ _ _)
          refine wpAny_pure ⟨plainId_quiet plain_sift _, turn (2 * pos + 1 + 1) (.inr rfl) h1 (fun i hi hi2 => ?_) s' hl' hk'⟩
          rcases hi2 with e | e
          · rw [e]; exact hb
          · rw [e]; exact le_refl O _
      · rw [if_neg h1]
        refine wpAny_bind ?_
        refine (swap_at hl hl1 hp hz fun s' hl' hk' => ?_ : wpAny _ _ (swapAt a (2 * pos + 1) pos) _ _ _)
        refine wpAny_pure ⟨plainId_quiet plain_sift _, turn (2 * pos + 1) (.inl rfl) hl1 (fun i hi hi2 => ?_) s' hl' hk'⟩
        rcases hi2 with e | e
        · rw [e]; exact le_refl O _
        · omega
    · rw [if_neg h0]
      refine wpAny_pure ⟨plainId_quiet plain_sift _, ?_⟩
      exact sift_up O hc pos xs s res hl hk hz hp hok (hu.leaf (by omega)) hR

theorem perm_push {x : Value} {xs : Array Value} : (xs.push x).toList.Perm (x :: xs.toList) := by
  rw [Array.toList_push]
  exact List.perm_append_singleton _ _
theorem at0_push {x : Value} {xs : Array Value} {i : Nat} (h : i < xs.size) : at0 (xs.push x) i = at0 xs i := by
  refine at0_of ?_
  rw [Array.getElem?_push_lt h, ← at0_get h, Array.getElem?_eq_getElem h]
theorem list_arg {M : Model} {E : Value → Shared → Prop} {s : Shared} {xs : Array Value} {f : Bool → Sem Addr} {Q : Addr → Shared → Prop} (hl : LS s.heap a xs) (q : wpAny M A (f true) Q E s) : wpAny M A (isInstance (.ref a) (.type "list") >>= f) Q E s := by
  obtain ⟨n, e⟩ := hl
  exact wpAny_bind (wpAny_isInstance (T := "list") ⟨_, e, rfl⟩ PySem.AutoSeq1.sub_list_list q)
/-- heappush -/
theorem push_code (O : Ord lt) {x : Value} {xs : Array Value} {s : Shared} {E : Value → Shared → Prop} {Q : Value → Shared → Prop} (hc : Cmp prog w A.in1 a s lt key Ok) (hl : LS s.heap a xs) (hz : xs.size < 90000) (hok : ∀ v ∈ xs.toList, Ok v) (hx : Ok x) (hh : Heapy lt xs.size (fun i => key (at0 xs i)))
    (hQ : ∀ ys s', LS s'.heap a ys → KB a s s' → ys.toList.Perm (x :: xs.toList) → Heapy lt ys.size (fun i => key (at0 ys i)) → Q .none s') : wpAny (model prog w) A (call (.builtin "_heapq.heappush") [.ref a, x]) Q E s := by
  refine call_function_any kind_push plain_push entry_push (args_push _ _) ?_
  unfold Builtin.«_heapq.heappush»
  refine wpAny_bind ?_
  refine wpAny_bind (m := noKeywords _ _) (wpAny_pure ?_)
  refine wpAny_bind (m := checkCount _ _ _ _) (wpAny_pure ?_)
  refine wpAny_bind ?_
  refine list_arg hl ?_
  refine wpAny_pure ?_
  refine wpAny_pure ?_
  refine wpAny_bind (upd_list hl (by omega) (by rw [Array.size_push]; omega) fun s1 hl1 hk1 => ?_)
  refine wpAny_bind ?_
  refine (rd_items hl1 ?_ : wpAny _ _ (rdItems a) _ _ _)
  refine wpAny_pure ⟨plainId_quiet plain_sift _, ?_⟩
  have hs : (xs.push x).size - 1 = xs.size := by rw [Array.size_push]; omega
  rw [hs]
  refine sift_up O hc xs.size (xs.push x) s1 .none hl1 hk1 (by rw [Array.size_push]; omega) (by rw [Array.size_push]; omega) (fun v hv => ?_) ?_ fun ys s' h1 h2 h3 h4 => hQ ys s' h1 h2 (h3.trans perm_push) h4
  · rcases List.mem_cons.mp (perm_push.mem_iff.mp hv) with e | hv
    · rw [e]; exact hx
    · exact hok v hv
  · refine ⟨fun i h0 hi hne => ?_, fun i h0 hi hp _ => ?_⟩
    · rw [Array.size_push] at hi
      show Le lt (key (at0 _ _)) (key (at0 _ _))
      rw [at0_push (by omega), at0_push (by omega)]
      exact hh i h0 (by omega)
    · rw [Array.size_push] at hi
      omega
/-- heappop -/
theorem at0_pop {xs : Array Value} {i : Nat} (h : i < xs.size - 1) : at0 xs.pop i = at0 xs i := by
  refine at0_of ?_
  rw [Array.getElem?_pop, if_pos h, at0_get (by omega)]
theorem at0_set0 {xs : Array Value} {v : Value} {i : Nat} (h : 0 < i) : at0 (xs.setIfInBounds 0 v) i = at0 xs i := by
  unfold at0
  rw [Array.getD_eq_getD_getElem?, Array.getElem?_setIfInBounds, if_neg (by omega), ← Array.getD_eq_getD_getElem?]
theorem back_at {xs : Array Value} (hn : 0 < xs.size) : xs.back? = some (at0 xs (xs.size - 1)) := by
  rw [Array.back?_eq_getElem?, at0_get (by omega)]
theorem perm_pop {xs : Array Value} (hn : 0 < xs.size) : (at0 xs (xs.size - 1) :: xs.pop.toList).Perm xs.toList := by
  have e : xs = xs.pop.push (at0 xs (xs.size - 1)) := by
    refine Array.ext_getElem? fun i => ?_
    rw [Array.getElem?_push, Array.size_pop]
    by_cases h : i = xs.size - 1
    · rw [if_pos h, h, at0_get (by omega)]
    · rw [if_neg h, Array.getElem?_pop]
      by_cases h2 : i < xs.size - 1
      · rw [if_pos h2]
      · rw [if_neg h2, Array.getElem?_eq_none (by omega)]
  conv => rhs; rw [e]
  exact perm_push.symm
theorem set0_perm {α : Type} : ∀ (L : List α) (v : α) (h : 0 < L.length), (L[0] :: L.set 0 v).Perm (v :: L)
  | y :: ys, v, _ => List.Perm.swap _ _ _
theorem perm_pop0 {xs : Array Value} (hn : 1 < xs.size) : (at0 xs 0 :: (xs.pop.setIfInBounds 0 (at0 xs (xs.size - 1))).toList).Perm xs.toList := by
  refine List.Perm.trans ?_ (perm_pop (by omega))
  have hl : 0 < xs.pop.toList.length := by rw [Array.length_toList, Array.size_pop]; omega
  rw [Array.toList_setIfInBounds]
  have e0 : at0 xs 0 = xs.pop.toList[0] := by
    rw [← at0_pop (by omega)]
    refine at0_of ?_
    rw [Array.getElem?_eq_getElem (by rw [Array.size_pop]; omega)]; simp
  rw [e0]
  exact set0_perm _ _ hl
theorem pop_code (O : Ord lt) {xs : Array Value} {s : Shared} {E : Value → Shared → Prop} {Q : Value → Shared → Prop} (hc : Cmp prog w A.in1 a s lt key Ok) (hl : LS s.heap a xs) (hz : xs.size < 90000) (hn : 0 < xs.size) (hok : ∀ v ∈ xs.toList, Ok v) (hh : Heapy lt xs.size (fun i => key (at0 xs i)))
    (hQ : ∀ ys s', LS s'.heap a ys → KB a s s' → (at0 xs 0 :: ys.toList).Perm xs.toList → Heapy lt ys.size (fun i => key (at0 ys i)) → Q (at0 xs 0) s') : wpAny (model prog w) A (call (.builtin "_heapq.heappop") [.ref a]) Q E s := by
  refine call_function_any kind_pop plain_pop entry_pop (args_pop _) ?_
  unfold Builtin.«_heapq.heappop»
  refine wpAny_bind ?_
  refine wpAny_bind (m := oneArg _ _) (wpAny_pure ?_)
  refine wpAny_bind ?_
  refine list_arg hl ?_
  refine wpAny_pure ?_
  refine wpAny_pure ?_
  refine wpAny_bind ?_
  refine (rd_items hl ?_ : wpAny _ _ (rdItems a) _ _ _)
  rw [back_at hn]
  refine wpAny_bind (upd_list hl (by omega) (by rw [Array.size_pop]; omega) fun s1 hl1 hk1 => ?_)
  by_cases h1 : xs.size = 1
  · have e1 : (xs.size == 1) = true := by rw [h1]; rfl
    rw [e1]
    have e0 : xs.size - 1 = 0 := by omega
    rw [e0]
    refine wpAny_pure (hQ xs.pop s1 hl1 hk1 ?_ fun i h0 hi => ?_)
    · have := perm_pop hn
      rw [e0] at this
      exact this
    · rw [Array.size_pop] at hi
      omega
  · have e1 : (xs.size == 1) = false := by rw [beq_eq_false_iff_ne]; exact h1
    rw [e1]
    have hn2 : 1 < xs.size := by omega
    refine wpAny_bind ?_
    refine (rd_at hn ?_ : wpAny _ _ (rdAt xs 0) _ _ _)
    refine wpAny_bind (upd_list hl1 (by rw [Array.size_pop]; omega) (by rw [Array.size_setIfInBounds, Array.size_pop]; omega) fun s2 hl2 hk2 => ?_)
    refine wpAny_pure ⟨plainId_quiet plain_sift _, ?_⟩
    have hs : (xs.pop.setIfInBounds 0 (at0 xs (xs.size - 1))).size = xs.size - 1 := by rw [Array.size_setIfInBounds, Array.size_pop]
    refine sift_down O hc _ 0 _ s2 (at0 xs 0) rfl hl2 (hk1.trans hk2) (by omega) (by omega) (fun v hv => ?_) ?_ fun ys s' h1 h2 h3 h4 => hQ ys s' h1 h2 ((h3.cons _).trans (perm_pop0 hn2)) h4
    · exact hok v ((perm_pop0 hn2).mem_iff.mp (List.mem_cons_of_mem _ hv))
    · rw [hs]
      refine ⟨fun i h0 hi hne hp => ?_, fun i h0 hi hp h => by omega⟩
      show Le lt (key (at0 _ _)) (key (at0 _ _))
      rw [at0_set0 (by omega), at0_set0 h0, at0_pop (by omega), at0_pop (by omega)]
      exact hh i h0 (by omega)
end
end HQ
set_option maxRecDepth 100000
set_option maxHeartbeats 3200000
/-! LL: what the library lacks: set(t), t a tuple of tuples of ints; enumerate(t); xs += ys; t.index of ints; min of data. -/
namespace L2
open PySem PySem.Spec PyProof.Rows
section
variable {P : Program} {w : World} {A : Around} {E : Value → Shared → Prop} {s : Shared}
abbrev set0 (w : World) : Obj := { cls := .type "set", dict := none, data := .set #[] 0 (.fresh 0 0 (!w.params.followText "set-order")) }
theorem set_of_tupT {l : Addr} {vals : Array Value} (ks : List (Addr × List Int)) {Q : Value → Shared → Prop} (nh : A.handled = none) (tl : s.heap.IsTuple l vals) (ev : vals.toList = ks.map fun p => Value.ref p.1)
    (kk : ∀ p ∈ ks, IsT P w s.heap p.2 p.1) (k64 : ks.length < 64) (un : A.units + 3 < cLine)
    (fin : ∀ (h' : Heap) (tk : Nat) L es ep t, SetTR P w h' s.heap.objs.size L es ep t → Got ks ks.length L → (∀ b o, s.heap.get? b = some o → h'.get? b = some o) → Q (.ref s.heap.objs.size) { s with heap := h', toks := tk }) :
    wpAny (model P w) A (call (.type "set") [.ref l]) Q E s := by
  have zs : vals.size = ks.length := by
    rw [← Array.length_toList, ev, List.length_map]
  have ⟨c0, tl0, mro0⟩ := F.called_set.mro
  have made0 := F.called_set.made
  have sub0 := F.called_set.sub
  refine wpAny_call (codeAny_of_tree ?_)
  show wpAny _ A.in1 (callAny (.type "set") ⟨[.ref l], []⟩) _ E s
  refine wpAny_pure ⟨Code.quiet_builtin _ (by decide +kernel), codeAny_builtin F.entry_type_call ?_⟩
  rw [Around.under_plain (weight_type_call_type "set" [.ref l] []) rfl]
  have nt0 := F.called_set.notType
  have cc0 := F.called_set.canCreate
  have ct0 := F.typeCall_set_1 (.ref l)
  repeat (any_goals (first | assumption | wp_step))
  generalize hB : s.heap.objs.size = S at *
  refine codeAny_mono (code_set_led1 (P := P) (w := w) (s := s) (A := _) (.ref l) (E := E) (Q₁ := fun obj s1 => obj = .ref S ∧ s1 = { s with heap := s.heap.push (set0 w) }) ⟨by rw [hB], rfl⟩) fun r s1 hr => ?_
  cases r with
  | error e => exact hr
  | ok fl =>
    cases fl with
    | next => exact hr.elim
    | brk => exact hr.elim
    | cont => exact hr.elim
    | ret obj =>
      obtain ⟨rfl, rfl⟩ := hr
      have gS : (s.heap.push (set0 w)).get? S = some (set0 w) := by rw [← hB]; exact Heap.get?_push_size _ rfl
      have tS : Shared.TypeIs { s with heap := s.heap.push (set0 w) } (.ref S) "set" := ⟨_, gS, rfl⟩
      have il0 := F.called_set.init.lookup
      have ib0 := F.called_set.init.bind (.ref S)
      repeat (any_goals (first | assumption | wp_step))
      refine codeAny_mono (codeAny_call_builtin (R := wants (fun r s2 => r = .none ∧ ∃ h' tk L es ep t, s2 = { s with heap := h', toks := tk } ∧ SetTR P w h' S L es ep t ∧ Got ks ks.length L ∧ ∀ b o, s.heap.get? b = some o → h'.get? b = some o) E) F.called_set.init.plain F.entry_set_init (check_set_init_1 tS ?_)) fun r2 s2 hr2 => ?_
      · obtain ⟨⟨oc, od, oda, osl⟩, ol, cl, nl, dl⟩ := tl
        simp only at cl dl
        subst cl; subst dl
        have ol' : (s.heap.push (set0 w)).get? l = some { cls := .type "tuple", dict := od, data := .seq vals nl, slots := osl } := Heap.get?_push_of_some _ ol
        have ss0 := F.sub_tuple_set
        have sf0 := F.sub_tuple_frozenset
        have nd0 : (Value.type "tuple" == Value.type "dict") = false := by decide
        have tl1 : (s.heap.push (set0 w)).IsTuple l vals := ⟨_, ol', rfl, nl, rfl⟩
        unfold Builtin.«set.__init__» noKeywords Builtin.Frozenset.updateFrom
        generalize gI : pyIter = PI
        wp_walk
        subst gI
        refine wpAny_pyIter_tuple tl1 (wpAny_bind (wpAny_runValue ?_))
        have lS : l < S := by rw [← hB]; exact Heap.lt_size ol
        have nh3 : A.in1.in1.in1.handled = none := by simp [nh]
        have z1 : (s.heap.push (set0 w)).objs.size = S + 1 := by rw [Heap.size_push, hB]
        have nI : l ≠ (s.heap.push (set0 w)).objs.size := by rw [z1]; exact Nat.ne_of_lt (Nat.lt_succ_of_lt lS)
        have nS : S ∉ [(s.heap.push (set0 w)).objs.size, l] := by
          rw [z1]; simp only [List.mem_cons, List.not_mem_nil, or_false, not_or]
          exact ⟨Nat.ne_of_lt (Nat.lt_succ_self S), Nat.ne_of_gt lS⟩
        have vl : ∀ (i : Nat) (v : Value), vals[i]? = some v → ∃ p, ks[i]? = some p ∧ v = .ref p.1 := fun i v hv => by
          rw [← Array.getElem?_toList, ev, List.getElem?_map] at hv
          obtain ⟨p, hp, e⟩ := Option.map_eq_some_iff.mp hv
          exact ⟨p, hp, e.symm⟩
        have gone : ∀ b, S ≤ b → s.heap.get? b = none := fun b hb => by
          cases q : s.heap.get? b with
          | none => rfl
          | some o => exact absurd (Heap.lt_size q) (Nat.not_lt.mpr (by rw [hB]; exact hb))
        refine set_update_tups ((Walks.tuple nh3 _ l nI vals).toS) S nS ks zs k64 vl s.heap kk (gone _ (Nat.le_refl _)) (fun b hb => gone b (by rw [List.mem_singleton.mp hb, z1]; exact Nat.le_succ S)) un (vals.size - 0) 0 _ (by omega) (Nat.zero_le _)
          ⟨⟨_, Heap.get?_push_size _ rfl, rfl, rfl⟩, tl1.push _⟩ (fun b o e => Heap.get?_push_of_some _ (Heap.get?_push_of_some _ e)) ?h0 ?h1
        case h0 =>
          have g2 : ((s.heap.push (set0 w)).push { cls := .type "tuple_iterator", data := .fields #[.ref l, .int 0 0] }).get? S = some (set0 w) := Heap.get?_push_of_some _ gS
          exact ⟨[], #[], 0, _, setTR_fresh g2, Got.zero ks⟩
        case h1 =>
          rintro ⟨h', g2, d', tk', os'⟩ L es ep t mv R1 G1 keep
          obtain rfl : g2 = s.gens := mv.gens
          obtain rfl : d' = s.drawn := mv.drawn
          obtain rfl : os' = s.os := mv.os
          rw [zs] at G1
          exact wpAny_pure (wpAny_pure ⟨rfl, h', tk', L, es, ep, t, rfl, R1, G1, keep⟩)
      · cases r2 with
        | error e => exact hr2
        | ok fl2 =>
          cases fl2 with
          | next => exact hr2.elim
          | brk => exact hr2.elim
          | cont => exact hr2.elim
          | ret r =>
            obtain ⟨rfl, h', tk, L, es, ep, t, rfl, R1, G1, keep⟩ := hr2
            repeat (any_goals (first | assumption | wp_step))
            exact fin _ _ _ _ _ _ R1 G1 keep
end
section
variable {X : Cx}
/-- set(t), t a tuple of tuples of ints -/
def rSetTT (K : PySem.W.Frag) (P : Program) (w : World) : List V → Hp → VK → Prop := fun xs H Q => ∃ (l : Addr) (ks : List (Addr × List Int)), xs = [V.ref l] ∧ SqT K H l (ks.map fun p => V.ref p.1) ∧ (∀ p ∈ ks, SqT K H p.1 (p.2.map V.int)) ∧ ks.length < 64 ∧
  ∀ a L, H a = none → (∀ p ∈ L, p ∈ ks) → (∀ p ∈ ks, p.2 ∈ L.map (·.2)) → Q (.ref a) (upd H a (SetTO P w a L))
theorem cr_setTT (hc : X.calm = true) (hu : X.A.units + 64 < cLine) : CallR X (.type "set") (rSetTT X.K X.prog X.w) := by
  rintro pins s σ H xs us Q I r ⟨l, ks, rfl, hl, hk, hf, q⟩
  rw [Vals.ref1 r]
  obtain ⟨its, rv, pl, hz⟩ := I.tuple hl
  have hn : H s.heap.objs.size = none := I.hok.fresh (Nat.le_refl _)
  refine set_of_tupT (P := X.prog) (w := X.w) ks (I.ok.hd hc) pl (by simpa using refs_of_vals rv) (fun p hp => I.isT (hk p hp)) hf (by omega) fun h' tk L es ep t R g k => ?_
  exact ⟨.ref s.heap.objs.size, upd H s.heap.objs.size (SetTO X.prog X.w s.heap.objs.size L), I.laid (t' := tk) k (Nat.le_refl _) (setTO_new R.t0), rfl, q _ L hn (fun p hp => List.mem_of_mem_take (g.sub p hp)) fun p hp => g.all p (by rw [List.take_length]; exact hp)⟩
end
end L2
set_option maxRecDepth 100000
set_option maxHeartbeats 3200000
/-! LL2: enumerate(t), t.index of ints, min of data, heappush, heappop. -/
namespace L2
open PySem PySem.Spec PyProof.Rows
theorem enum_new1 {v : Value} {o : Obj} {St : Heap → Prop} (B : Begins v o St) :
    Meets (Builtin.«enumerate.__new__» ⟨[.type "enumerate", v], []⟩) (fun _ R s => St s.heap ∧
      R (.ok (.ret (.ref (s.heap.push o).objs.size))) { s with heap := (s.heap.push o).push { cls := .type "enumerate", data := .fields #[.none, .bool false, .ref s.heap.objs.size, rawInt 0, .none, .none] } }) :=
  .of_wp fun prog w A R s ⟨h1, h⟩ => by
    have sub0 := sub_enumerate
    have q1 : ∀ {A' : Around} {E : Value → Shared → Prop} {Q : Value → Shared → Prop}, Q (.ref s.heap.objs.size) { s with heap := s.heap.push o } → wpAny (model prog w) A' (pyIter v) Q E s := fun q => B.iter prog w _ _ s _ h1 q
    obtain ⟨hp, g, d, tk, os⟩ := s
    wp_walk using q1
    refine wpAny_stack_any fun st => wpAny_pure ?_
    split
    · rename_i c _ _ _ _ _
      cases (c == Value.type "enumerate") with
      | true => wp_walk using q1; exact ⟨_, rfl, h⟩
      | false => wp_walk using q1; exact ⟨_, rfl, h⟩
    · wp_walk using q1; exact ⟨_, rfl, h⟩
theorem enum_call1 {prog : Program} {w : World} {A : Around} {E : Value → Shared → Prop} {s : Shared} {v : Value} {o : Obj} {St : Heap → Prop} {Q : Value → Shared → Prop} (B : Begins v o St) (h1 : St s.heap)
    (h : ∀ h', IsEnum h' (s.heap.objs.size + 1) s.heap.objs.size 0 .none → h'.get? s.heap.objs.size = some o → (∀ b o, s.heap.get? b = some o → h'.get? b = some o) → Q (.ref (s.heap.objs.size + 1)) { s with heap := h' }) :
    wpAny (model prog w) A (call (.type "enumerate") [v]) Q E s := by
  refine callType_new F.called_enumerate (by decide) (F.typeCall_enumerate_1 _) (F.newCall_enumerate_1 _) (fun obj => F.args_object_init_2 obj _) F.entry_enumerate_new (enum_new1 B) ⟨h1, ?_⟩
  have z : (s.heap.push o).objs.size = s.heap.objs.size + 1 := Heap.size_push ..
  show _ ∧ _
  rw [z]
  have g1 := Heap.get?_push_size (s.heap.push o) (o := { cls := .type "enumerate", data := .fields #[.none, .bool false, .ref s.heap.objs.size, rawInt 0, .none, .none] }) rfl
  rw [z] at g1
  exact ⟨⟨_, g1, rfl⟩, h _ g1 (Heap.get?_push_of_some _ (Heap.get?_push_size _ B.free)) fun b o x => Heap.get?_push_of_some _ (Heap.get?_push_of_some _ x)⟩
/-- the tuple at a, each item in a new pair -/
def IteT (K : PySem.W.Frag) (a : Addr) : It :=
  ⟨fun i H => ∃ (xs : List V) (x : V), SqT K H a xs ∧ xs[i]? = some x, fun i H v H' => ∃ T x, v = .ref T ∧ H T = none ∧ H' = upd H T (.tup [.int (i : Nat), x]) ∧ ∀ xs, SqT K H a xs → xs[i]? = some x, fun i H => ∃ xs : List V, SqT K H a xs ∧ xs.length ≤ i⟩
theorem turn_enumT {P : Program} {w : World} {K : PySem.W.Frag} {elts : List Expr} {kk : Nat} {tpos : Pos} (a e it : Addr) :
    Turn P w K (.Tuple elts kk tpos) (IteT K a) [e, it] e (fun i h => (∃ old, IsEnum h e it ((i : Nat) : Int) old) ∧ h.IsTupleIter it a i ∧ e ≠ it ∧ a ≠ it ∧ e ≠ a) where
  mem := List.mem_cons_self
  obj := fun i h ⟨⟨old, he⟩, ⟨o, ho, _, hd⟩, _⟩ b hb => by
    rcases List.mem_cons.mp hb with z | z
    · exact z ▸ ⟨_, he, fun v q => nomatch q⟩
    · rw [List.mem_singleton.mp z]; exact ⟨o, ho, fun v q => by rw [hd] at q; cases q⟩
  keep := fun i h h' ⟨⟨old, he⟩, hi, ne⟩ k => ⟨⟨old, k e (by simp) _ he⟩, hi.at fun o q => k it (by simp) o q, ne⟩
  item := by
    intro X hP hw hK hc i pins s σ H E I hf ⟨⟨old, he⟩, hit, hne, nai, nea⟩ ⟨xs, x, hq, hx⟩
    subst hP hw hK
    obtain ⟨its, rv, p, hz⟩ := I.tuple hq
    obtain ⟨u, hu, ru⟩ := rv.get hx
    have le : e < s.heap.objs.size := Heap.lt_size he
    have li : it < s.heap.objs.size := by obtain ⟨_, q, _⟩ := hit; exact Heap.lt_size q
    have iu : its.toArray[i]? = some u := by simpa using hu
    have ib : i < its.toArray.size := (Array.getElem?_eq_some_iff.mp iu).1
    refine wpAny_pyNext_enum_itemD (Draws.tuple (prog := X.prog) (w := X.w) (A := X.A.in1) (by simp [I.ok.hd hc]) it a nai its.toArray) he ⟨hit, p⟩ ib hne (by simp [hne, nea]) fun x' h' tk hx' ho hit' hT hsz hk => ?_
    obtain rfl : u = x' := by rw [iu] at hx'; exact Option.some.inj hx'
    refine ⟨_, rfl, wpAny_letOwnedTupleGo_enum (s := { s with heap := h', toks := tk + 1 }) ho fun h2 he' sb => ?_⟩
    have T2 : h2.get? s.heap.objs.size = some { cls := .type "tuple", data := .seq #[.int i tk, u] } := (sb.2 _ (Nat.ne_of_gt le)).trans hT
    have new : ObjOk X.prog X.w (upd H s.heap.objs.size (.tup [.int (i : Nat), x])) h2 s.heap.objs.size (.tup [.int (i : Nat), x]) :=
      ⟨by show 2 ≤ sizeLine; decide, [.int i tk, u], .cons ⟨_, rfl⟩ (.cons ru .nil), ⟨_, T2, rfl, _, rfl⟩⟩
    have I1 : Inv X pins σ (upd H s.heap.objs.size (.tup [.int (i : Nat), x])) { s with heap := h2, toks := tk + 1 } :=
      I.turnedNew (ch := [e, it]) (fun b ob hb q => by
        have n1 : b ≠ e := fun z => hb (by simp [z])
        have n2 : b ≠ it := fun z => hb (by simp [z])
        exact (sb.2 b n1).trans (hk b ob n1 n2 q)) hf (Nat.le_refl _) new
    refine ⟨.ref s.heap.objs.size, _, I1, rfl, ⟨_, x, rfl, I.hok.fresh (Nat.le_refl _), rfl, fun ys hy => by rw [I.tuple_inj hy hq]; exact hx⟩, ⟨⟨u, ?_⟩, hit'.1.at fun o q => (sb.2 it (Ne.symm hne)).trans q, hne, nai, nea⟩, fun b hb => ?_⟩
    · have e1 : ((i + 1 : Nat) : Int) = (i : Int) + 1 := by omega
      rw [e1]; exact he'
    · have lb : b < s.heap.objs.size := by
        rcases List.mem_cons.mp hb with z | z
        · rw [z]; exact le
        · rw [List.mem_singleton.mp z]; exact li
      rw [upd_ne (Nat.ne_of_lt lb)]
      exact (hf b hb).1
  done := by
    intro X hP hw hK hc i pins s σ H E I hf ⟨⟨old, he⟩, hit, hne, nai, nea⟩ ⟨xs, hq, hx⟩
    subst hP hw hK
    obtain ⟨its, rv, p, hz⟩ := I.tuple hq
    obtain ⟨f0, f1, f2, f3, f4, f5⟩ := hf it (by simp)
    have hT : s.TypeIs (.ref e) "enumerate" := ⟨_, he, rfl⟩
    unfold pyNext
    refine wpAny_bind (wpAny_attempt (wpAny_callSpecial?_slot (name := Str.ofString "__next__") hT F.slot_enumerate_next (wpAny_call_entry F.slot_enumerate_next hT F.entry_enumerate_next ?_ (F.args_enumerate_next_1 _))))
    show wpAny _ _ (field (.ref e) 2 >>= _) _ _ _
    refine wpAny_bind (wpAny_field he rfl (x := .ref it) rfl (wpAny_bind ?_))
    have ln := rv.length
    refine wpAny_nextOf_tuple_end (I.ok.hd hc) hit p (by simp; omega) fun h' x he' ⟨o, ho, ex⟩ => ?_
    refine wpAny_bind (wpAny_isInstance (T := "StopIteration") (b := true) ⟨o, ho, ex⟩ isSubtype_stop ?_)
    exact wpAny_pure ⟨rfl, I.turned (t' := s.toks) (fun b o hb q => he' b o hb q) f0 f1 f3 f4 f5⟩
  self := fun A i s Q E ⟨⟨_, he⟩, _⟩ h => wpAny_pyIter_enum he h
def iEnumT (K : PySem.W.Frag) (ta : TA) : TI := fun σ H R => ta σ H fun vs H1 => ∃ a xs, vs = [.ref a] ∧ SqT K H1 a xs ∧ R (IteT K a) H1
theorem pi_enumT {X : Cx} {e : Expr} {ta : TA} {p pos tpos : Pos} {elts : List Expr} {kk : Nat} (hg : Gl X "enumerate") (hm : X.mg "enumerate" = none) (ha : PA X [e] ta) (hs : starEach [e] X.env = [(false, eval e X.env)] := by rfl) :
    PI X (.Tuple elts kk tpos) (.Call (.Name "enumerate" p) [e] [] pos) (iEnumT X.K ta) := by
  refine ⟨fun pins s σ H R I h => ?_⟩
  refine Call_ (ld_blt I hg hm boot_enumerate (PyProof.Rows.callWith_type1 (thn (ha.run pos pins s σ H _ I h) fun us s1 ⟨vs, H1, I1, r1, a, xs, ex, hq, q⟩ => ?_) hs rfl))
  subst ex
  rw [Vals.ref1 r1]
  obtain ⟨its, rv, pl, hz⟩ := I1.tuple hq
  refine enum_call1 (begins_tuple a its.toArray) pl fun h' he hit hk => wpAny_pyIter_enum he ?_
  have la : a < s1.heap.objs.size := by obtain ⟨o, ho, _⟩ := pl; exact Heap.lt_size ho
  refine ⟨s1.heap.objs.size + 1, [s1.heap.objs.size + 1, s1.heap.objs.size], _, _, H1, rfl, I1.kept (t' := s1.toks) hk, turn_enumT a (s1.heap.objs.size + 1) s1.heap.objs.size, ⟨⟨.none, he⟩, ⟨_, hit, rfl, rfl⟩, Nat.succ_ne_self _, Nat.ne_of_lt la, Nat.ne_of_gt (Nat.lt_succ_of_lt la)⟩, fun b hb => ?_, q⟩
  have lb : s1.heap.objs.size ≤ b := by
    rcases List.mem_cons.mp hb with z | z
    · rw [z]; exact Nat.le_succ _
    · rw [List.mem_singleton.mp z]; exact Nat.le_refl _
  exact I1.fpOk lb (I1.hok.fresh lb)
theorem walk_enumT {K : PySem.W.Frag} {a : Addr} {xs : List V} : Walk (IteT K a) xs.length (fun H => SqT K H a xs) (YPair (fun i => some (.int (i : Nat))) (fun i => xs[i]?)) :=
  ⟨fun i _ hi q => ⟨xs, xs[i], q, by simp [hi]⟩, fun _ q => ⟨xs, q, Nat.le_refl _⟩, fun i H v H' _ q ⟨T, x, h1, h2, h3, h4⟩ => ⟨T, .int (i : Nat), x, h1, h2, h3, rfl, h4 xs q⟩⟩
/-- t.index(i), the first place, ints -/
theorem mt_indexT {X : Cx} : MtR X "tuple.index" (fun x xs H Q => ∃ p, ∃ ns : List Int, ∃ z j, x = .ref p ∧ xs = [.int z] ∧ SqT X.K H p (ns.map V.int) ∧ ns[j]? = some z ∧ (∀ m, m < j → ns[m]? ≠ some z) ∧ Q (.int (j : Nat)) H) := by
  rintro pins s σ H x xs v us Q I rx rs ⟨p, ns, z, j, rfl, rfl, hq, hy, hno, q⟩
  cases rx
  obtain ⟨u, rfl, t, rfl⟩ := vals1 rs
  obtain ⟨its, r, ⟨⟨cls, dd, dt, sl⟩, ho, hc, n, hd⟩, hz⟩ := I.tuple hq
  simp only at hc hd
  subst hc hd
  have hl : its.toArray.size = ns.length := by rw [List.size_toArray, ← r.length, List.length_map]
  have hj : j < its.toArray.size := by rw [hl]; exact (List.getElem?_eq_some_iff.mp hy).1
  have at1 : ∀ (m : Nat) (hm : m < its.toArray.size), ∃ y t', ns[m]? = some y ∧ its.toArray[m] = Value.int y t' := fun m hm => by
    have hm' : m < ns.length := hl ▸ hm
    obtain ⟨w, hw, t', hw'⟩ := r.get (i := m) (x := .int ns[m]) (by simp [hm'])
    refine ⟨ns[m], t', List.getElem?_eq_getElem hm', ?_⟩
    rw [← hw', ← (List.getElem?_eq_some_iff.mp hw).2]
    simp
  have fl : (ns.map V.int).all flatV = true := by rw [List.all_map]; exact List.all_eq_true.mpr fun _ _ => rfl
  refine call_meets PySem.F.slot_tuple_index ⟨_, ho, rfl⟩ PySem.F.entry_tuple_index (PySem.F.args_tuple_index_2 _ _) (TI.tuple_indexAt p its.toArray n dd sl (.int z t) (eqU (.int z)) j hj ?_ fun m hm hmj => ?_)
    ⟨ho, fun w hw => mem_eqAt (x := .int z) ⟨t, rfl⟩ rfl r fl w (by simpa using hw), .int (j : Nat), H, I.tok _, ⟨_, rfl⟩, q⟩
  · obtain ⟨y, t', h1, h2⟩ := at1 j hj
    rw [hy] at h1
    cases h1
    rw [h2]
    exact (beq_self_eq_true z : (z == z) = true)
  · obtain ⟨y, t', h1, h2⟩ := at1 m hm
    rw [h2]
    exact (beq_eq_false_iff_ne.mpr fun e => hno m hmj (e ▸ h1) : (y == z) = false)
/-! ### min of data -/
section
variable {X : Cx}
open PySem.W (AlikeAll minD)
theorem reads_at {h : Heap} : ∀ {ds : List PyData} {us : List Value} {as : List Addr} {i : Nat} {u : Value}, ReadsAll h us ds as → us[i]? = some u → ∃ d bs, ds[i]? = some d ∧ Reads h u d bs
  | [], _, _, _, _, .nil, h => by cases h
  | _ :: _, _, _, 0, _, .cons r _, h => by cases h; exact ⟨_, _, rfl, r⟩
  | _ :: _, _, _, i + 1, _, .cons _ rs, h => reads_at (i := i) rs h
theorem vals_at : ∀ {xs : List V} {us : List Value} {i : Nat} {u : Value}, Vals xs us → us[i]? = some u → ∃ x, xs[i]? = some x ∧ RelV x u
  | [], _, _, _, .nil, h => by cases h
  | _ :: _, _, 0, _, .cons r _, h => by cases h; exact ⟨_, rfl, r⟩
  | _ :: _, _, i + 1, _, .cons _ rs, h => vals_at (i := i) rs h
/-- min(xs): the item that reads as the least -/
def rMinD (K : PySem.W.Frag) (un : Nat) : List V → Hp → VK → Prop := fun vs H Q => ∃ (a : Addr) (xs : List V) (d : PyData) (ds : List PyData), vs = [V.ref a] ∧ (SqL K H a xs ∨ SqT K H a xs) ∧ DpAll K H xs (d :: ds) ∧ AlikeAll (d :: ds) ∧ un + 1 + PyData.depthAll (d :: ds) < cLine ∧
  ∀ (i : Nat) (x : V), xs[i]? = some x → (d :: ds)[i]? = some (minD d ds) → Q x H
theorem cr_minD (hc : X.calm = true) : CallR X (.builtin "min") (rMinD X.K X.A.units) := by
  rintro pins s σ H vs us Q I r ⟨a, xs, d, ds, rfl, hs, hd, al, un, q⟩
  rw [Vals.ref1 r]
  have same : ∀ {its : List Value} {as : List Addr} (rv : Vals xs its) (hr : ReadsAll s.heap its (d :: ds) as) (i : Nat) (v : Value) (h' : Heap) (tk : Nat) (bs : List Addr), its[i]? = some v → Reads h' v (minD d ds) bs → (∀ b o, s.heap.get? b = some o → h'.get? b = some o) → EP X pins σ Q v { s with heap := h', toks := tk } := fun {its as} rv hr i v h' tk bs hi rd hk => by
    obtain ⟨d1, bs1, e1, r1⟩ := reads_at hr hi
    obtain ⟨x, hx, rx⟩ := vals_at rv hi
    have m1 : d1 ∈ d :: ds := List.mem_of_getElem? e1
    have mm : minD d ds ∈ d :: ds := by
      have : ∀ (l : List PyData) (z : PyData), minD z l ∈ z :: l := fun l => by
        induction l with
        | nil => intro z; exact List.mem_singleton.mpr rfl
        | cons y l ih =>
          intro z
          show minD (if PySem.W.dataLt y z then y else z) l ∈ _
          have := ih (if PySem.W.dataLt y z then y else z)
          split at this
          · rename_i h; rw [if_pos h]; exact List.mem_cons_of_mem _ this
          · rename_i h; rw [if_neg h]
            rcases List.mem_cons.mp this with e | e
            · rw [e]; exact List.mem_cons_self
            · exact List.mem_cons_of_mem _ (List.mem_cons_of_mem _ e)
      exact this ds d
    have eq : d1 = minD d ds := PySem.W.alike_unique d1 (minD d ds) v _ _ (al.1 _ m1 _ mm) (Reads.keeps hk r1) rd
    exact ⟨x, H, I.kept (t' := tk) hk, rx, q i x hx (by rw [e1, eq])⟩
  rcases hs with hs | hs
  · obtain ⟨its, rv, hl, _⟩ := I.list hs
    obtain ⟨as, hr⟩ := Dp.readsAll I _ _ its hd rv
    exact PySem.W.min_list_data (I.ok.hd hc) hl.isList (by simpa using hr) al un fun i v h' tk bs hi rd hk => same rv hr i v h' tk bs (by simpa using hi) rd hk
  · obtain ⟨its, rv, hl, _⟩ := I.tuple hs
    obtain ⟨as, hr⟩ := Dp.readsAll I _ _ its hd rv
    exact PySem.W.min_tuple_data (I.ok.hd hc) hl (by simpa using hr) al un fun i v h' tk bs hi rd hk => same rv hr i v h' tk bs (by simpa using hi) rd hk
end
end L2
set_option maxRecDepth 100000
set_option maxHeartbeats 3200000
/-! LL3: heappush, heappop of a list of tuples, by what its items read as. -/
namespace L2
open PySem PySem.Spec PyProof.Rows HQ
mutual
def noL : PyData → Bool
  | .list _ => false
  | .dict _ => false
  | .tuple xs => noLs xs
  | _ => true
def noLs : List PyData → Bool
  | [] => true
  | x :: xs => noL x && noLs xs
end
mutual
theorem reads_flat {h : Heap} : ∀ {v : Value} {d : PyData} {as : List Addr}, noL d = true → Reads h v d as → as = []
  | _, _, _, _, .none => rfl
  | _, _, _, _, .bool _ => rfl
  | _, _, _, _, .int _ _ => rfl
  | _, _, _, _, .str _ _ => rfl
  | _, _, _, n, .list _ _ _ _ => by simp [noL] at n
  | _, _, _, n, .tuple _ _ _ r => reads_flats (by simpa [noL] using n) r
  | _, _, _, n, .dict _ _ _ _ _ => by simp [noL] at n
theorem reads_flats {h : Heap} : ∀ {vs : List Value} {ds : List PyData} {as : List Addr}, noLs ds = true → ReadsAll h vs ds as → as = []
  | _, _, _, _, .nil => rfl
  | _, _, _, n, .cons r rs => by
    simp only [noLs, Bool.and_eq_true] at n
    rw [reads_flat n.1 r, reads_flats n.2 rs]; rfl
end
mutual
theorem reads_but {h h' : Heap} {a : Addr} {o : Obj} (ha : h.get? a = some o) (hc : o.cls ≠ .type "tuple") (hk : ∀ b o, b ≠ a → h.get? b = some o → h'.get? b = some o) : ∀ {v : Value} {d : PyData} {as : List Addr}, noL d = true → Reads h v d as → Reads h' v d as
  | _, _, _, _, .none => .none
  | _, _, _, _, .bool b => .bool b
  | _, _, _, _, .int i t => .int i t
  | _, _, _, _, .str x t => .str x t
  | _, _, _, n, .list _ _ _ _ => by simp [noL] at n
  | _, _, _, n, .tuple h1 h2 h3 r => .tuple (hk _ _ (fun e => by subst e; rw [ha] at h1; cases h1; exact hc h2) h1) h2 h3 (reads_buts ha hc hk (by simpa [noL] using n) r)
  | _, _, _, n, .dict _ _ _ _ _ => by simp [noL] at n
theorem reads_buts {h h' : Heap} {a : Addr} {o : Obj} (ha : h.get? a = some o) (hc : o.cls ≠ .type "tuple") (hk : ∀ b o, b ≠ a → h.get? b = some o → h'.get? b = some o) : ∀ {vs : List Value} {ds : List PyData} {as : List Addr}, noLs ds = true → ReadsAll h vs ds as → ReadsAll h' vs ds as
  | _, _, _, _, .nil => .nil
  | _, _, _, n, .cons r rs => by
    simp only [noLs, Bool.and_eq_true] at n
    exact .cons (reads_but ha hc hk n.1 r) (reads_buts ha hc hk n.2 rs)
end
theorem q_lift {α β : Type} {f : α → β} {l : List β} {m : List β} (p : l.Perm m) : ∀ T : List α, m = T.map f → ∃ T' : List α, T'.Perm T ∧ l = T'.map f := by
  induction p with
  | nil =>
    intro T h
    cases T with
    | nil => exact ⟨[], List.Perm.refl _, rfl⟩
    | cons _ _ => cases h
  | cons x _ ih =>
    intro T h
    cases T with
    | nil => cases h
    | cons t T =>
      cases h
      obtain ⟨T', p', e⟩ := ih T rfl
      exact ⟨t :: T', p'.cons t, by rw [e]; rfl⟩
  | swap x y l =>
    intro T h
    cases T with
    | nil => cases h
    | cons t T =>
      cases T with
      | nil => cases h
      | cons u T =>
        cases h
        exact ⟨u :: t :: T, List.Perm.swap _ _ _, rfl⟩
  | trans _ _ ih1 ih2 =>
    intro T h
    obtain ⟨T1, p1, e1⟩ := ih2 T h
    obtain ⟨T2, p2, e2⟩ := ih1 T1 e1
    exact ⟨T2, p2.trans p1, e2⟩
theorem data_ord : Ord PySem.W.dataLt := by
  refine ⟨fun a b h => ?_, fun a b c h1 h2 => ?_⟩
  · cases q : PySem.W.dataLt b a with
    | false => rfl
    | true =>
      have := lex_trans (O := itemOrd) _ _ _ h q
      rw [lex_irrefl (O := itemOrd)] at this
      cases this
  · cases q : PySem.W.dataLt c a with
    | false => rfl
    | true =>
      rcases lex_negTrans (O := itemOrd) (PySem.W.keyToks c) (PySem.W.keyToks b) (PySem.W.keyToks a) q with z | z
      · exact absurd (show PySem.W.dataLt c b = true from z) (by rw [h2]; decide)
      · exact absurd (show PySem.W.dataLt b a = true from z) (by rw [h1]; decide)
theorem Heapy.congr {κ : Type} {lt : κ → κ → Bool} {n m : Nat} {k k' : Nat → κ} (h : Heapy lt n k) (e : n = m) (q : ∀ i, i < m → k i = k' i) : Heapy lt m k' := fun i h0 hi => by
  have := h i h0 (by omega)
  rw [← q i hi, ← q ((i - 1) / 2) (by omega)]
  exact this
/-- values, model values, data -/
abbrev Tri := V × Value × PyData
abbrev HeapP (zs : List (V × PyData)) : Prop := Heapy PySem.W.dataLt zs.length (fun i => (zs.getD i (.non, .none)).2)
theorem vals_tri : ∀ (T : List Tri), (∀ t ∈ T, RelV t.1 t.2.1) → Vals (T.map (·.1)) (T.map (·.2.1))
  | [], _ => .nil
  | t :: T, h => .cons (h t List.mem_cons_self) (vals_tri T fun t ht => h t (List.mem_cons_of_mem _ ht))
theorem tri_of : ∀ {zs : List (V × PyData)} {us : List Value}, Vals (zs.map (·.1)) us → ∃ T : List Tri, T.map (fun t => (t.1, t.2.2)) = zs ∧ T.map (·.2.1) = us ∧ ∀ t ∈ T, RelV t.1 t.2.1
  | [], _, .nil => ⟨[], rfl, rfl, fun _ h => by cases h⟩
  | z :: zs, u :: _, .cons r rs => by
    obtain ⟨T, h1, h2, h3⟩ := tri_of (zs := zs) rs
    refine ⟨(z.1, u, z.2) :: T, by rw [List.map_cons, h1], by rw [List.map_cons, h2], fun t ht => ?_⟩
    rcases List.mem_cons.mp ht with e | ht
    · rw [e]; exact r
    · exact h3 t ht
section
variable {X : Cx} {pins : List (Addr × Obj)} {σ : St} {H : Hp} {s : Shared} {a : Addr}
/-- what the queue's items must be -/
def QOk (K : PySem.W.Frag) (un : Nat) (H : Hp) (zs : List (V × PyData)) : Prop := (∀ p ∈ zs, Dp K H p.1 p.2 ∧ noL p.2 = true ∧ p.2.canLay0 = true ∧ p.2 ≠ .none ∧ un + 1 + p.2.depth < cLine) ∧ ∀ p ∈ zs, ∀ q ∈ zs, PySem.W.alike p.2 q.2 = true
structure QFacts (X : Cx) (a : Addr) (s : Shared) (T : List Tri) (key : Value → PyData) : Prop where
  rd : ∀ t ∈ T, key t.2.1 = t.2.2
  cmp : Cmp X.prog X.w X.A.in1 a s PySem.W.dataLt key (fun v => v ∈ T.map (·.2.1))
theorem q_facts (I : Inv X pins σ H s) {xs0 : List V} (ha : H a = some (.lst xs0)) {T : List Tri} (ok : QOk X.K X.A.units H (T.map fun t => (t.1, t.2.2))) (hr : ∀ t ∈ T, RelV t.1 t.2.1) : QFacts X a s T (SeqAt.readOf s.heap) := by
  obtain ⟨_, its, n, _, _, e⟩ := I.lstM ha
  have rd : ∀ t ∈ T, Reads s.heap t.2.1 t.2.2 [] ∧ noL t.2.2 = true ∧ t.2.2.canLay0 = true ∧ t.2.2 ≠ .none ∧ X.A.units + 1 + t.2.2.depth < cLine := fun t ht => by
    obtain ⟨h1, h2, h3, h4, h5⟩ := ok.1 _ (List.mem_map.mpr ⟨t, ht, rfl⟩)
    obtain ⟨as, r⟩ := Dp.reads I _ _ _ h1 (hr t ht)
    have e0 := reads_flat h2 r
    subst e0
    exact ⟨r, h2, h3, h4, h5⟩
  have kk : ∀ t ∈ T, SeqAt.readOf s.heap t.2.1 = t.2.2 := fun t ht => SeqAt.readOf_eq (rd t ht).2.2.1 (rd t ht).1
  refine ⟨kk, fun s1 x y E Q kb hx hy q => ?_⟩
  obtain ⟨t, ht, rfl⟩ := List.mem_map.mp hx
  obtain ⟨u, hu, rfl⟩ := List.mem_map.mp hy
  obtain ⟨r1, n1, _, nn, d1⟩ := rd t ht
  obtain ⟨r2, n2, _, _, d2⟩ := rd u hu
  have r1' := reads_but e (by show Value.type "list" ≠ Value.type "tuple"; decide) kb.1 n1 r1
  have r2' := reads_but e (by show Value.type "list" ≠ Value.type "tuple"; decide) kb.1 n2 r2
  rw [kk t ht, kk u hu] at q
  refine PySem.W.rcLt_alike t.2.2 u.2.2 X.A.in1 s1 t.2.1 u.2.1 _ _ r1' r2' (ok.2 _ (List.mem_map.mpr ⟨t, ht, rfl⟩) _ (List.mem_map.mpr ⟨u, hu, rfl⟩)) nn ?_ X.prog X.w E Q q
  show X.A.units + 1 + _ < _
  omega
theorem heap_tri {ys : Array Value} {T : List Tri} {key : Value → PyData} (e : ys.toList = T.map (·.2.1)) (hk : ∀ t ∈ T, key t.2.1 = t.2.2) : ∀ i, i < T.length → key (at0 ys i) = ((T.map fun t => (t.1, t.2.2)).getD i (.non, .none)).2 := fun i hi => by
  have h1 : T[i]? = some T[i] := List.getElem?_eq_getElem hi
  have h2 : ys[i]? = some T[i].2.1 := by rw [← Array.getElem?_toList, e, List.getElem?_map, h1]; rfl
  rw [at0_of h2, hk _ (List.getElem_mem hi), List.getD_eq_getElem?_getD, List.getElem?_map, h1]; rfl
def rHPush (K : PySem.W.Frag) (un : Nat) : List V → Hp → VK → Prop := fun vs H Q => ∃ (a : Addr) (z : V × PyData) (zs : List (V × PyData)), vs = [.ref a, z.1] ∧ H a = some (.lst (zs.map (·.1))) ∧ QOk K un H (z :: zs) ∧ zs.length < 80000 ∧ HeapP zs ∧
  ∀ zs', zs'.Perm (z :: zs) → HeapP zs' → Q .non (upd H a (.lst (zs'.map (·.1))))
def rHPop (K : PySem.W.Frag) (un : Nat) : List V → Hp → VK → Prop := fun vs H Q => ∃ (a : Addr) (zs : List (V × PyData)), vs = [.ref a] ∧ H a = some (.lst (zs.map (·.1))) ∧ QOk K un H zs ∧ zs.length < 80000 ∧ 0 < zs.length ∧ HeapP zs ∧
  ∀ z zs', (z :: zs').Perm zs → HeapP zs' → (∀ y ∈ zs, PySem.W.dataLt y.2 z.2 = false) → Q z.1 (upd H a (.lst (zs'.map (·.1))))
theorem heap_at {zs : List (V × PyData)} (h : HeapP zs) (z : V × PyData) (h0 : zs[0]? = some z) : ∀ y ∈ zs, PySem.W.dataLt y.2 z.2 = false := fun y hy => by
  obtain ⟨i, hi, e⟩ := List.getElem_of_mem hy
  have := Heapy.root data_ord h i hi
  rw [List.getD_eq_getElem?_getD, h0, List.getD_eq_getElem?_getD, List.getElem?_eq_getElem hi, e] at this
  exact this
theorem shared_eq {s s' : Shared} (k : KB a s s') : s' = { s with heap := s'.heap, toks := s.toks } := by
  obtain ⟨h, g, d, t, o⟩ := s'
  obtain ⟨_, h1, h2, h3, h4⟩ := k
  simp only at h1 h2 h3 h4
  subst h1 h2 h3 h4
  rfl
theorem q_inv (I : Inv X pins σ H s) {xs0 : List V} (ha : H a = some (.lst xs0)) {s' : Shared} (k : KB a s s') {ys : Array Value} (hl : LS s'.heap a ys) {xs : List V} (hv : Vals xs ys.toList) (hz : xs.length ≤ sizeLine) : Inv X pins σ (upd H a (.lst xs)) s' := by
  rw [shared_eq k]
  obtain ⟨n, e⟩ := hl
  exact I.write (x := a) (e := a) (by rw [ha]; trivial) (.inl rfl) k.1 ⟨_, e⟩ ⟨hz, ys.toList, n, hv, e⟩
theorem cr_push : CallR X (.builtin "_heapq.heappush") (rHPush X.K X.A.units) := by
  rintro pins s σ H vs us Q I r ⟨a, z, zs, rfl, ha, ok, hn, hh, q⟩
  cases r with
  | cons ra r =>
    cases r with
    | cons rz r =>
      cases r
      cases ra
      rename_i u
      obtain ⟨hz, its, n, rv, hlen, e⟩ := I.lstM ha
      obtain ⟨T, t1, t2, t3⟩ := tri_of rv
      have okT : QOk X.K X.A.units H ((((z.1, u, z.2) : Tri) :: T).map fun t => (t.1, t.2.2)) := by rw [List.map_cons, t1]; exact ok
      have hrT : ∀ t ∈ (((z.1, u, z.2) : Tri) :: T), RelV t.1 t.2.1 := fun t ht => by
        rcases List.mem_cons.mp ht with e | ht
        · rw [e]; exact rz
        · exact t3 t ht
      have F := q_facts I ha okT hrT
      have el : its.toArray.toList = T.map (·.2.1) := by rw [t2]
      have hsz : its.toArray.size = T.length := by rw [List.size_toArray, ← t2, List.length_map]
      have hzl : zs.length = T.length := by rw [← t1, List.length_map]
      refine push_code (lt := PySem.W.dataLt) (key := SeqAt.readOf s.heap) (Ok := fun v => v ∈ (((z.1, u, z.2) : Tri) :: T).map (·.2.1)) data_ord F.cmp ⟨n, e⟩ (by rw [hsz]; omega) (fun v hv => ?_) (List.mem_map.mpr ⟨_, List.mem_cons_self, rfl⟩) ?_ fun ys s' h1 h2 h3 h4 => ?_
      · rw [el] at hv
        rw [List.map_cons]
        exact List.mem_cons_of_mem _ hv
      · refine Heapy.congr hh (by rw [hsz, hzl]) fun i hi => ?_
        rw [heap_tri el (fun t ht => F.rd t (List.mem_cons_of_mem _ ht)) i (by rw [← hsz]; exact hi), t1]
      · obtain ⟨T', p', e'⟩ := q_lift h3 (((z.1, u, z.2) : Tri) :: T) (by rw [List.map_cons, ← el])
        have hr' : ∀ t ∈ T', RelV t.1 t.2.1 := fun t ht => hrT t (p'.mem_iff.mp ht)
        have pz : (T'.map fun t => (t.1, t.2.2)).Perm (z :: zs) := by
          have := p'.map fun t : Tri => (t.1, t.2.2)
          rw [List.map_cons, t1] at this
          exact this
        have lz : ((T'.map fun t => (t.1, t.2.2)).map (·.1)).length ≤ sizeLine := by
          rw [List.length_map, pz.length_eq, List.length_cons, sizeLine_eq]; omega
        have ev : (T'.map fun t => (t.1, t.2.2)).map (·.1) = T'.map (·.1) := by rw [List.map_map]; rfl
        have hv : Vals ((T'.map fun t => (t.1, t.2.2)).map (·.1)) ys.toList := by rw [ev, e']; exact vals_tri T' hr'
        have ysz : ys.size = (T'.map fun t => (t.1, t.2.2)).length := by rw [← Array.length_toList, e', List.length_map, List.length_map]
        refine ⟨.non, _, q_inv I ha h2 h1 hv lz, rfl, q _ pz (Heapy.congr h4 ysz fun i hi => ?_)⟩
        exact heap_tri e' (fun t ht => F.rd t (p'.mem_iff.mp ht)) i (by rw [List.length_map] at hi; exact hi)
theorem cr_pop : CallR X (.builtin "_heapq.heappop") (rHPop X.K X.A.units) := by
  rintro pins s σ H vs us Q I r ⟨a, zs, rfl, ha, ok, hn, h0, hh, q⟩
  rw [Vals.ref1 r]
  obtain ⟨hz, its, n, rv, hlen, e⟩ := I.lstM ha
  obtain ⟨T, t1, t2, t3⟩ := tri_of rv
  have F := q_facts I ha (T := T) (by rw [t1]; exact ok) t3
  have el : its.toArray.toList = T.map (·.2.1) := by rw [t2]
  have hsz : its.toArray.size = T.length := by rw [List.size_toArray, ← t2, List.length_map]
  have hzl : zs.length = T.length := by rw [← t1, List.length_map]
  have hT0 : 0 < T.length := by omega
  have a0 : at0 its.toArray 0 = T[0].2.1 := by
    refine at0_of ?_
    rw [← Array.getElem?_toList, el, List.getElem?_map, List.getElem?_eq_getElem hT0]; rfl
  refine pop_code (lt := PySem.W.dataLt) (key := SeqAt.readOf s.heap) (Ok := fun v => v ∈ T.map (·.2.1)) data_ord F.cmp ⟨n, e⟩ (by rw [hsz]; omega) (by rw [hsz]; omega) (fun v hv => by rw [el] at hv; exact hv) ?_ fun ys s' h1 h2 h3 h4 => ?_
  · refine Heapy.congr hh (by rw [hsz, hzl]) fun i hi => ?_
    rw [heap_tri el F.rd i (by rw [← hsz]; exact hi), t1]
  · obtain ⟨T', p', e'⟩ : ∃ T', (T[0] :: T').Perm T ∧ ys.toList = T'.map (·.2.1) := by
      have tt : T = T[0] :: T.tail := by
        cases T with
        | nil => cases hT0
        | cons t T => rfl
      rw [a0, el] at h3
      have h5 : ys.toList.Perm (T.tail.map (·.2.1)) := by
        have h6 : (T[0].2.1 :: ys.toList).Perm (T[0].2.1 :: T.tail.map (·.2.1)) := by
          refine h3.trans ?_
          rw [← List.map_cons (f := fun t : Tri => t.2.1), ← tt]
        exact (List.perm_cons _).mp h6
      obtain ⟨T', p1, e1⟩ := q_lift h5 T.tail rfl
      refine ⟨T', ?_, e1⟩
      have := p1.cons T[0]
      rw [← tt] at this
      exact this
    have hr' : ∀ t ∈ T', RelV t.1 t.2.1 := fun t ht => t3 t (p'.mem_iff.mp (List.mem_cons_of_mem _ ht))
    have pz : ((T[0].1, T[0].2.2) :: T'.map fun t => (t.1, t.2.2)).Perm zs := by
      have := p'.map fun t : Tri => (t.1, t.2.2)
      rw [List.map_cons, t1] at this
      exact this
    have lz : ((T'.map fun t => (t.1, t.2.2)).map (·.1)).length ≤ sizeLine := by
      have := pz.length_eq
      rw [List.length_cons] at this
      rw [List.length_map, sizeLine_eq]; omega
    have ev : (T'.map fun t => (t.1, t.2.2)).map (·.1) = T'.map (·.1) := by rw [List.map_map]; rfl
    have hv : Vals ((T'.map fun t => (t.1, t.2.2)).map (·.1)) ys.toList := by rw [ev, e']; exact vals_tri T' hr'
    have ysz : ys.size = (T'.map fun t => (t.1, t.2.2)).length := by rw [← Array.length_toList, e', List.length_map, List.length_map]
    rw [a0]
    refine ⟨T[0].1, _, q_inv I ha h2 h1 hv lz, t3 _ (List.getElem_mem hT0), q (T[0].1, T[0].2.2) _ pz (Heapy.congr h4 ysz fun i hi => ?_) (heap_at hh _ ?_)⟩
    · exact heap_tri e' (fun t ht => F.rd t (p'.mem_iff.mp (List.mem_cons_of_mem _ ht))) i (by rw [List.length_map] at hi; exact hi)
    · rw [← t1, List.getElem?_map, List.getElem?_eq_getElem hT0]; rfl
end
end L2
set_option maxRecDepth 100000
set_option maxHeartbeats 2000000
/-! DLh: more rules: slices and sums of tuples, index, sorted, set, min, enumerate, two clauses. -/
namespace DL
open PySem PySem.Spec PyProof.Rows L2 Evl
section
variable {X : Cx} {ρ : Env} {e a b c o tg : Expr} {es' : List Expr} {d da db dc : D} {ds es : List D} {pos p : Pos} {i j : Int} {b1 b2 : Bool} {k : Nat} {x m : Str}
/-! ### tuples -/
theorem cut_all {ds : List D} {l h : Option Int} (q : HT.sIx ds.length 0 l = 0 ∧ HT.sIx ds.length ds.length h = ds.length) : cutD ds l h = ds := by
  unfold cutD
  rw [q.1, q.2, List.drop_zero, Nat.sub_zero, List.take_length]
theorem de_slT {lo hi : Option Expr} {l h : Option Int} {p2 : Pos} (he : DE X e ρ (.tup ds)) (hl : DO X lo ρ l) (hh : DO X hi ρ h) : DE X (.Subscript e (.Slice lo hi none p2) pos) ρ (.tup (cutD ds l h)) := PE.imp (pe_slice sl_tupA he hl hh) fun σ H Q ⟨E, G, R, k⟩ =>
  ⟨E, G, R, fun v G1 H1 x1 r1 => by
    cases r1 with
    | tup h1 r1 =>
      refine ⟨E, G1, R.mono x1, fun G2 H2 x2 => ⟨E, G2, (R.mono x1).mono x2, fun G3 H3 x3 => ⟨_, _, rfl, ex_t x3.gh (ex_t x3.g (ex_t x2.g h1)), fun hw => ?_, fun _ q hq => ?_⟩⟩⟩
      · have x := (x1.trans x2).trans x3
        rw [← r1.length] at hw
        rw [cut_all hw] at k
        exact k _ _ _ x (.tup (ex_t (x2.g.trans x3.g) h1) (r1.mono (x2.g.trans x3.g)))
      · have x := (x1.trans x2).trans x3
        refine k _ _ _ (x.trans (Ext.add x.gh hq)) (.tup (st_of upd_same) ?_)
        unfold cutV cutD
        rw [← r1.length]
        exact ((((r1.mono (x2.g.trans x3.g)).mono (Ex.new (fresh_back x.gh hq))).drop _).take _)⟩
theorem de_catA (ha : DE X a ρ (.tup ds)) (hb : DE X b ρ (.tup es)) (hz : ds.length + es.length ≤ 100000) : DE X (.BinOp a .Add b pos) ρ (.tup (ds ++ es)) := de_op op_catA ha hb fun v w G H Q ex ra rb k => by
  cases ra with
  | tup h1 q1 =>
    cases rb with
    | tup h2 q2 =>
      refine ⟨_, _, _, _, rfl, rfl, ex_t ex h1, ex_t ex h2, sz_of (by rw [← q1.length, ← q2.length]; exact hz), fun z => ?_, fun _ z => ?_, fun _ _ p hp => k _ _ _ (Ext.add ex hp) (.tup (st_of upd_same) ((q1.append q2).mono (Ex.new (fresh_back ex hp))))⟩
      · subst z; cases q1
        exact k _ _ _ (Ext.refl ex) (.tup h2 q2)
      · subst z; cases q2
        rw [List.append_nil] at k
        exact k _ _ _ (Ext.refl ex) (.tup h1 q1)
/-! ### tuples whose object is known -/
theorem rep_tf {K : PySem.W.Frag} {G : Hp} {v : V} (r : Rep K G (.tupf ds) v) : Rep K G (.tup ds) v := by
  cases r with
  | tupf h1 _ q => exact .tup (.inl (.inr ⟨_, h1⟩)) q
theorem de_tf (h : DE X e ρ (.tupf ds)) : DE X e ρ (.tup ds) := PE.imp h fun σ H Q ⟨E, G, R, k⟩ => ⟨E, G, R, fun v G' H' x r => k v G' H' x (rep_tf r)⟩
def rSlF (K : PySem.W.Frag) : V → Option Int → Option Int → Hp → VK → Prop := fun x lo hi H Q => ∃ a xs, x = .ref a ∧ SqT K H a xs ∧
  ((HT.sIx xs.length 0 lo = 0 ∧ HT.sIx xs.length xs.length hi = xs.length) → Q (.ref a) H) ∧ (¬ (HT.sIx xs.length 0 lo = 0 ∧ HT.sIx xs.length xs.length hi = xs.length) → ∀ p ob, H p = none → ob.dict = none → Q (.ref p) (upd H p (.frz ob (.tup (cutV xs lo hi)))))
theorem sl_tupF : SlR X (rSlF X.K) := by
  rintro pins s σ H x v vl vu lo hi sl Q I rx hs pl pu ⟨a, xs, rfl, hx, q1, q2⟩
  by_cases hw : HT.sIx xs.length 0 lo = 0 ∧ HT.sIx xs.length xs.length hi = xs.length
  · exact sl_tupA pins s σ H _ v vl vu lo hi sl Q I rx hs pl pu ⟨a, xs, rfl, hx, q1, fun z => absurd hw z⟩
  · cases rx
    obtain ⟨its, r, ht, hz⟩ := I.tuple hx
    have ln : its.toArray.size = xs.length := by rw [List.size_toArray]; exact r.length.symm
    refine ⟨"tuple", _, PyProof.Rows.slot_tuple_getitem.lookup, ht.typeIs, HT.getItem_tuple_cut ht hs pl pu (by rw [ln]; exact hw) ?_ (by rw [ln]; exact hz)⟩
    rw [ln]
    let ob : Obj := { cls := .type "tuple", data := .seq (List.take (HT.sIx xs.length xs.length hi - HT.sIx xs.length 0 lo) (List.drop (HT.sIx xs.length 0 lo) its.toArray.toList)).toArray }
    refine ⟨.ref s.heap.objs.size, _, I.laid (t' := s.toks) (o := .frz ob (.tup (cutV xs lo hi))) (fun b ob q => Heap.get?_push_of_some _ q) (Nat.le_refl _) ?_, rfl, q2 hw _ ob (I.hok.fresh (Nat.le_refl _)) rfl⟩
    exact ⟨Heap.get?_push_size _ rfl, Nat.le_trans (cutV_length xs lo hi) hz, _, (r.drop (HT.sIx xs.length 0 lo)).take (HT.sIx xs.length xs.length hi - HT.sIx xs.length 0 lo), IsTup.new _ _⟩
theorem de_slF {lo hi : Option Expr} {l h : Option Int} {p2 : Pos} (he : DE X e ρ (.tupf ds)) (hl : DO X lo ρ l) (hh : DO X hi ρ h) : DE X (.Subscript e (.Slice lo hi none p2) pos) ρ (.tupf (cutD ds l h)) := PE.imp (pe_slice sl_tupF he hl hh) fun σ H Q ⟨E, G, R, k⟩ =>
  ⟨E, G, R, fun v G1 H1 x1 r1 => by
    cases r1 with
    | tupf h1 hd r1 =>
      refine ⟨E, G1, R.mono x1, fun G2 H2 x2 => ⟨E, G2, (R.mono x1).mono x2, fun G3 H3 x3 => ⟨_, _, rfl, .inl (.inr ⟨_, x3.gh _ _ (x3.g _ _ (x2.g _ _ h1))⟩), fun hw => ?_, fun _ q ob hq hob => ?_⟩⟩⟩
      · have x := (x1.trans x2).trans x3
        rw [← r1.length] at hw
        rw [cut_all hw] at k
        exact k _ _ _ x (.tupf (x3.g _ _ (x2.g _ _ h1)) hd (r1.mono (x2.g.trans x3.g)))
      · have x := (x1.trans x2).trans x3
        refine k _ _ _ (x.trans (Ext.add x.gh hq)) (.tupf upd_same hob ?_)
        unfold cutV cutD
        rw [← r1.length]
        exact ((((r1.mono (x2.g.trans x3.g)).mono (Ex.new (fresh_back x.gh hq))).drop _).take _)⟩
/-- t[lo:hi], not the whole: its object is known, whatever t -/
theorem de_slN {lo hi : Option Expr} {l h : Option Int} {p2 : Pos} (he : DE X e ρ (.tup ds)) (hl : DO X lo ρ l) (hh : DO X hi ρ h) (hw : ¬ (HT.sIx ds.length 0 l = 0 ∧ HT.sIx ds.length ds.length h = ds.length)) : DE X (.Subscript e (.Slice lo hi none p2) pos) ρ (.tupf (cutD ds l h)) := PE.imp (pe_slice sl_tupF he hl hh) fun σ H Q ⟨E, G, R, k⟩ =>
  ⟨E, G, R, fun v G1 H1 x1 r1 => by
    cases r1 with
    | tup h1 r1 =>
      refine ⟨E, G1, R.mono x1, fun G2 H2 x2 => ⟨E, G2, (R.mono x1).mono x2, fun G3 H3 x3 => ⟨_, _, rfl, ex_t x3.gh (ex_t x3.g (ex_t x2.g h1)), fun hw' => absurd (by rw [r1.length]; exact hw') hw, fun _ q ob hq hob => ?_⟩⟩⟩
      have x := (x1.trans x2).trans x3
      refine k _ _ _ (x.trans (Ext.add x.gh hq)) (.tupf upd_same hob ?_)
      unfold cutV cutD
      rw [← r1.length]
      exact ((((r1.mono (x2.g.trans x3.g)).mono (Ex.new (fresh_back x.gh hq))).drop _).take _)⟩
def rCatF (K : PySem.W.Frag) : R2 := fun x y H Q => ∃ a b xs ys, x = .ref a ∧ y = .ref b ∧ SqT K H a xs ∧ SqT K H b ys ∧ xs.length + ys.length ≤ sizeLine ∧
  (xs = [] → Q (.ref b) H) ∧ (xs ≠ [] → ys = [] → Q (.ref a) H) ∧ (xs ≠ [] → ys ≠ [] → ∀ p ob, H p = none → ob.dict = none → Q (.ref p) (upd H p (.frz ob (.tup (xs ++ ys)))))
theorem op_catF : OpR X (binaryOp .Add) (rCatF X.K) := by
  rintro pins s σ H x y v u Q I rx ry ⟨a, b, xs, ys, rfl, rfl, ha, hb, hz, q0, q1, q2⟩
  by_cases hx : xs = []
  · exact op_catA pins s σ H _ _ v u Q I rx ry ⟨a, b, xs, ys, rfl, rfl, ha, hb, hz, q0, q1, fun z => absurd hx z⟩
  · cases rx
    cases ry
    obtain ⟨its, r1, p1, _⟩ := I.tuple ha
    obtain ⟨its2, r2, p2, _⟩ := I.tuple hb
    refine HT.cat_tup p1 p2 (fun z => hx (r1.nil_iff.mp z)) (fun z => ⟨.ref a, H, I, rfl, q1 hx (r2.nil_iff.mp z)⟩) (fun z => ?_) (by rw [← r1.length, ← r2.length]; exact hz)
    refine ⟨.ref s.heap.objs.size, _, I.laid (t' := s.toks) (o := .frz { cls := .type "tuple", data := .seq (its ++ its2).toArray } (.tup (xs ++ ys))) (fun b ob q => Heap.get?_push_of_some _ q) (Nat.le_refl _) ?_, rfl, q2 hx (fun w => z (r2.nil_iff.mpr w)) _ _ (I.hok.fresh (Nat.le_refl _)) rfl⟩
    exact ⟨Heap.get?_push_size _ rfl, by rw [List.length_append]; exact hz, _, r1.append r2, IsTup.new _ _⟩
theorem de_catF (ha : DE X a ρ (.tupf ds)) (hb : DE X b ρ (.tupf es)) (hz : ds.length + es.length ≤ 100000) : DE X (.BinOp a .Add b pos) ρ (.tupf (ds ++ es)) := de_op op_catF ha hb fun v w G H Q ex ra rb k => by
  cases ra with
  | tupf h1 d1 q1 =>
    cases rb with
    | tupf h2 d2 q2 =>
      refine ⟨_, _, _, _, rfl, rfl, .inl (.inr ⟨_, ex _ _ h1⟩), .inl (.inr ⟨_, ex _ _ h2⟩), sz_of (by rw [← q1.length, ← q2.length]; exact hz), fun z => ?_, fun _ z => ?_, fun _ _ p ob hp hob => k _ _ _ (Ext.add ex hp) (.tupf upd_same hob ((q1.append q2).mono (Ex.new (fresh_back ex hp))))⟩
      · subst z; cases q1
        exact k _ _ _ (Ext.refl ex) (.tupf h2 d2 q2)
      · subst z; cases q2
        rw [List.append_nil] at k
        exact k _ _ _ (Ext.refl ex) (.tupf h1 d1 q1)
/-! ### index -/
def tBMF (r : V → List V → Hp → VK → Prop) (to : TE) (t : TA) : TE := fun σ H Q => to σ H fun x H1 => (∃ a ob vs, x = .ref a ∧ H1 a = some (.frz ob (.tup vs)) ∧ ob.dict = none) ∧ t σ H1 fun xs H2 => r x xs H2 Q
theorem pe_bmF {name : Str} {id : String} {apos : Pos} {to : TE} {t : TA} {r : V → List V → Hp → VK → Prop} (pa : PlainAttrs "tuple") (slot : Slot "tuple" name id) (hty : typeOf (.builtin id) = pure (.type "method_descriptor")) (hm : MtR X id r) (ho : PE X o to) (ha : PA X [e] t)
    (hb : attributeBase o name X.env (eval o X.env) = eval o X.env)
    (hf : ((backTo pos (starEach [e] X.env)).all (fun x => !x.1) && (backToKw pos (keywordEach [] X.env)).all (fun x => x.1.isSome) && decide (([e] : List Expr).length + ([] : List Keyword).length + (if ([] : List Keyword).isEmpty then 0 else 1) < 30)) = true)
    (hl : (apos.endLine == pos.line) = true) (hs : starEach [e] X.env = (false, eval e X.env) :: starEach [] X.env) : PE X (.Call (.Attribute o name apos) [e] [] pos) (tBMF r to t) := by
  refine ⟨fun pins s σ H Q I h => wpAny_Call_method_late hb hf hl rfl (thn (ho.run pins s σ H _ I h) fun v s1 ⟨x, H1, I1, r1, ⟨a, ob, vs, ex, hx, hd⟩, q1⟩ => ?_)⟩
  subst ex
  obtain rfl : v = Value.ref a := r1
  obtain ⟨hg, _, its, _, ht⟩ := I1.hok a _ hx
  refine ⟨"tuple", id, pa, slot, hty, ht.typeIs, fun b eb => ?_, ?_⟩
  · cases eb
    exact ⟨ob, hg, hd⟩
  · have hA := ha.run pos pins s1 σ H1 _ I1 q1
    rw [hs] at hA ⊢
    exact Calls.callWith_builtin rfl (Calls.evalArgs_plain (thn hA fun us s2 ⟨vs, H2, I2, r2, q2⟩ => hm pins s2 σ H2 (V.ref a) vs _ us Q I2 rfl r2 q2))
theorem de_indexT {ns : List Int} {n : Nat} {apos : Pos} (ho : DE X o ρ (.tupf (ns.map D.int))) (he : DE X e ρ (.int i)) (h1 : ns[n]? = some i) (h2 : ∀ m, m < n → ns[m]? ≠ some i)
    (hb : attributeBase o "index" X.env (eval o X.env) = eval o X.env := by rfl)
    (hf : ((backTo pos (starEach [e] X.env)).all (fun x => !x.1) && (backToKw pos (keywordEach [] X.env)).all (fun x => x.1.isSome) && decide (([e] : List Expr).length + ([] : List Keyword).length + (if ([] : List Keyword).isEmpty then 0 else 1) < 30)) = true := by rfl)
    (hl : (apos.endLine == pos.line) = true := by rfl) (hs : starEach [e] X.env = (false, eval e X.env) :: starEach [] X.env := by rfl) : DE X (.Call (.Attribute o "index" apos) [e] [] pos) ρ (.int (n : Int)) :=
  PE.imp (pe_bmF PySem.F.plainAttrs_tuple PySem.F.slot_tuple_index PySem.F.type_tuple_index mt_indexT ho (da_cons he da_nil hs) hb hf hl hs) fun σ H Q ⟨E, G, R, k⟩ => ⟨E, G, R, fun v G1 H1 x1 r1 => by
    cases r1 with
    | tupf t1 d1 q1 =>
      cases reps_ints q1
      refine ⟨⟨_, _, _, rfl, x1.gh _ _ t1, d1⟩, E, G1, R.mono x1, fun vs G2 H2 x2 r2 => ?_⟩
      cases r2 with
      | cons r2 r3 =>
        cases r3; cases r2
        exact ⟨_, ns, i, n, rfl, rfl, .inl (.inr ⟨_, x2.gh _ _ (x2.g _ _ t1)⟩), h1, h2, k _ _ _ (x1.trans x2) (.int _)⟩⟩
theorem de_indexL {ns : List Int} {n : Nat} {apos : Pos} (ho : DLs X o ρ (ns.map D.int)) (he : DE X e ρ (.int i)) (h1 : ns[n]? = some i) (h2 : ∀ m, m < n → ns[m]? ≠ some i)
    (hbase : attributeBase o "index" X.env (eval o X.env) = eval o X.env := by rfl)
    (hfew : ((backTo pos (starEach [e] X.env)).all (fun x => !x.1) && (backToKw pos (keywordEach [] X.env)).all (fun x => x.1.isSome)
      && decide (([e] : List Expr).length + ([] : List Keyword).length + (if ([] : List Keyword).isEmpty then 0 else 1) < 30)) = true := by rfl)
    (hline : (apos.endLine == pos.line) = true := by rfl) (hs : starEach [e] X.env = (false, eval e X.env) :: starEach [] X.env := by rfl) : DE X (.Call (.Attribute o "index" apos) [e] [] pos) ρ (.int (n : Int)) :=
  PE.imp (pe_bm PySem.F.plainAttrs_list PySem.F.slot_list_index PySem.F.type_list_index mt_index ho (da_cons he da_nil hs) hbase hfew hline hs rfl) fun σ H Q ⟨E, G, R, k⟩ => ⟨E, G, R, fun q vs G1 H1 x1 s1 q1 => by
    cases reps_ints q1
    refine ⟨.inl ⟨rfl, _, s1⟩, E, G1, R.mono x1, fun vs G2 H2 x2 r2 => ?_⟩
    cases r2 with
    | cons r2 r3 =>
      cases r3; cases r2
      have eqi : ∀ u : Int, eqV (V.int u) (V.int i) = decide (u = i) := fun u => by simp [eqV]; exact Bool.beq_eq_decide_eq u i
      refine ⟨q, ns.map V.int, .int i, n, .int i, rfl, rfl, ex_l x2.h s1, rfl, flat_ints ns, by rw [List.getElem?_map, h1]; rfl, by rw [eqi]; exact decide_eq_true rfl, fun m z hm hz => ?_, k _ _ _ (x1.trans x2) (.int _)⟩
      rw [List.getElem?_map] at hz
      obtain ⟨u, hu, rfl⟩ := Option.map_eq_some_iff.mp hz
      rw [eqi]
      exact decide_eq_false fun e => h2 m hm (by rw [hu, e])⟩
/-! ### pairs in order -/
abbrev code64 (p : Int × Int) : Int := p.1 * 64 + p.2
def sortP (ps : List (Int × Int)) : List (Int × Int) := ps.mergeSort fun p q => decide (code64 p ≤ code64 q)
def P64 (p : Int × Int) : Prop := (0 ≤ p.1 ∧ p.1 < 64) ∧ (0 ≤ p.2 ∧ p.2 < 64)
theorem code_inj {p q : Int × Int} (hp : P64 p) (hq : P64 q) (h : code64 p = code64 q) : p = q := by
  obtain ⟨⟨a, b⟩, c, d⟩ := hp
  obtain ⟨⟨a', b'⟩, c', d'⟩ := hq
  have h : p.1 * 64 + p.2 = q.1 * 64 + q.2 := h
  exact Prod.ext (by omega) (by omega)
theorem sortP_perm (ps : List (Int × Int)) : (sortP ps).Perm ps := List.mergeSort_perm _ _
theorem sortP_sorted (ps : List (Int × Int)) : (sortP ps).Pairwise (fun p q => code64 p ≤ code64 q) := by
  have := List.pairwise_mergeSort (le := fun p q : Int × Int => decide (code64 p ≤ code64 q)) (fun a b c h1 h2 => by simp only [decide_eq_true_eq] at *; omega) (fun a b => by simp only [Bool.or_eq_true, decide_eq_true_eq]; omega) ps
  exact List.Pairwise.imp (fun h => of_decide_eq_true h) this
theorem sortP_uniq {ps qs : List (Int × Int)} (h : ∀ p ∈ ps, P64 p) (hp : qs.Perm ps) (hs : qs.Pairwise (fun p q => code64 p ≤ code64 q)) : qs = sortP ps := by
  refine List.Perm.eq_of_pairwise (fun a b ha hb h1 h2 => ?_) hs (sortP_sorted ps) (hp.trans (sortP_perm ps).symm)
  exact code_inj (h a (hp.mem_iff.mp ha)) (h b ((sortP_perm ps).mem_iff.mp hb)) (Int.le_antisymm h1 h2)
theorem reps_perm {K : PySem.W.Frag} {G : Hp} {vs ys : List V} (p : ys.Perm vs) : ∀ {ds : List D}, Reps K G ds vs → ∃ ds', ds'.Perm ds ∧ Reps K G ds' ys := by
  induction p with
  | nil => intro ds r; cases r; exact ⟨[], List.Perm.refl _, .nil⟩
  | cons x _ ih =>
    intro ds r
    cases r with
    | cons r1 r2 =>
      obtain ⟨ds', p', r'⟩ := ih r2
      exact ⟨_ :: ds', p'.cons _, .cons r1 r'⟩
  | swap x y l =>
    intro ds r
    cases r with
    | cons r1 r2 =>
      cases r2 with
      | cons r2 r3 => exact ⟨_, List.Perm.swap _ _ _, .cons r2 (.cons r1 r3)⟩
  | trans _ _ ih1 ih2 =>
    intro ds r
    obtain ⟨d1, p1, r1⟩ := ih2 r
    obtain ⟨d2, p2, r2⟩ := ih1 r1
    exact ⟨d2, p2.trans p1, r2⟩
theorem rep_pair {K : PySem.W.Frag} {G : Hp} {p : Int × Int} {v : V} (r : Rep K G (encP p) v) : ∃ t, v = .ref t ∧ SqT K G t ([p.1, p.2].map V.int) := by
  cases r with
  | tup h1 q =>
    cases q with
    | cons r1 q =>
      cases q with
      | cons r2 q => cases q; cases r1; cases r2; exact ⟨_, rfl, h1⟩
theorem bd_pair {p : Int × Int} (h : P64 p) : TS.Bd 64 [p.1, p.2] := by
  intro n hn
  rcases List.mem_cons.mp hn with e | hn
  · rw [e]; exact h.1
  · rw [List.mem_singleton.mp hn]; exact h.2
theorem reps_map {K : PySem.W.Frag} {G : Hp} {α : Type} {f : α → D} : ∀ {xs : List α} {vs : List V} {v : V}, Reps K G (xs.map f) vs → v ∈ vs → ∃ x ∈ xs, Rep K G (f x) v
  | [], _, _, .nil, h => by cases h
  | x :: xs, _, _, .cons r rs, h => by
    rcases List.mem_cons.mp h with e | h
    · rw [e]; exact ⟨x, List.mem_cons_self, r⟩
    · obtain ⟨y, hy, ry⟩ := reps_map rs h
      exact ⟨y, List.mem_cons_of_mem _ hy, ry⟩
theorem pw_of {K : PySem.W.Frag} {G : Hp} : ∀ {qs : List (Int × Int)} {ys : List V}, Reps K G (qs.map encP) ys → ys.Pairwise (fun x y => ∀ n m, TupI K G x n → TupI K G y m → TS.code 64 n ≤ TS.code 64 m) → qs.Pairwise (fun p q => code64 p ≤ code64 q)
  | [], _, _, _ => List.Pairwise.nil
  | q :: qs, _, .cons r rs, h => by
    cases h with
    | cons h1 h2 =>
      refine List.Pairwise.cons (fun q' hq' => ?_) (pw_of rs h2)
      obtain ⟨i, hi, e⟩ := List.getElem_of_mem hq'
      obtain ⟨v, hv, rv⟩ := rs.get (i := i) (d := encP q') (by rw [List.getElem?_map, List.getElem?_eq_getElem hi, e]; rfl)
      obtain ⟨t, e1, s1⟩ := rep_pair r
      obtain ⟨t', e2, s2⟩ := rep_pair rv
      have := h1 v (List.mem_of_getElem? hv) [q.1, q.2] [q'.1, q'.2] ⟨t, e1, s1⟩ ⟨t', e2, s2⟩
      rw [code_pair, code_pair] at this
      exact this
/-- sorted(pairs) -/
theorem dn_sortP {ps : List (Int × Int)} (hm : X.mg "sorted" = none) (he : DLs X e ρ (ps.map encP)) (hn : ps.length < 64) (hp : ∀ p ∈ ps, P64 p) (hg : Gl X "sorted" := by rfl) (hv : bootBuiltins "sorted" = some (.builtin "sorted") := by decide +kernel) (hs : starEach [e] X.env = (false, eval e X.env) :: starEach [] X.env := by rfl) :
    DN X (.Call (.Name "sorted" p) [e] [] pos) ρ ((sortP ps).map encP) :=
  PE.imp (pe_callB (cr_sortT (d := 2) (B := 64) (by decide)) hg hm hv (pa_l he hs) (by decide) (by decide) hs rfl) fun σ H Q ⟨E, G, R, k⟩ => ⟨E, G, R, fun q vs G1 H1 x1 h1 r1 => by
    have lv : vs.length = ps.length := by rw [← r1.length, List.length_map]
    refine ⟨q, vs, rfl, h1, by omega, fun x hx => ?_, fun ys l py pw hl => ?_⟩
    · obtain ⟨p, hp', rp⟩ := reps_map r1 hx
      obtain ⟨t, e, s⟩ := rep_pair rp
      exact ⟨[p.1, p.2], ⟨t, e, ex_t x1.gh s⟩, rfl, bd_pair (hp p hp')⟩
    · obtain ⟨ds', pd, rd⟩ := reps_perm py r1
      obtain ⟨qs, pq, rfl⟩ := q_lift pd ps rfl
      have e := sortP_uniq hp pq (pw_of (rd.mono x1.gh) pw)
      subst e
      exact k l ys G1 _ (x1.trans (Ext.addO x1.gh hl)) (fresh_back x1.h hl) (fresh_back x1.gh hl) upd_same rd⟩
/-- tuple(sorted(set(t))), t pairs in strict order -/
theorem keys_of {K : PySem.W.Frag} {G : Hp} : ∀ {ps : List (Int × Int)} {vs : List V}, Reps K G (ps.map encP) vs → ∃ ks : List (Addr × List Int), vs = ks.map (fun q => V.ref q.1) ∧ ks.map (·.2) = ps.map (fun p => [p.1, p.2]) ∧ ∀ q ∈ ks, SqT K G q.1 (q.2.map V.int)
  | [], _, .nil => ⟨[], rfl, rfl, fun _ h => by cases h⟩
  | p :: ps, _, .cons r rs => by
    obtain ⟨t, e, s⟩ := rep_pair r
    obtain ⟨ks, e1, e2, h⟩ := keys_of rs
    refine ⟨(t, [p.1, p.2]) :: ks, by rw [e, e1]; rfl, by rw [List.map_cons, List.map_cons, e2], fun q hq => ?_⟩
    rcases List.mem_cons.mp hq with z | z
    · rw [z]; exact s
    · exact h q z
theorem reps_keys {K : PySem.W.Frag} {G : Hp} : ∀ {L : List (Addr × List Int)} {ps : List (Int × Int)}, L.map (·.2) = ps.map (fun p => [p.1, p.2]) → (∀ q ∈ L, SqT K G q.1 (q.2.map V.int)) → Reps K G (ps.map encP) (L.map fun q => V.ref q.1)
  | [], [], _, _ => .nil
  | [], p :: ps, h, _ => by cases h
  | q :: L, [], h, _ => by cases h
  | q :: L, p :: ps, h, s => by
    rw [List.map_cons, List.map_cons, List.cons.injEq] at h
    refine .cons (.tup (s q List.mem_cons_self) ?_) (reps_keys h.2 fun z hz => s z (List.mem_cons_of_mem _ hz))
    rw [h.1]
    exact .cons (.int _) (.cons (.int _) .nil)
theorem sorted_keys {ps : List (Int × Int)} (hp : ∀ p ∈ ps, P64 p) (hs : ps.Pairwise (fun p q => code64 p < code64 q)) {L : List (List Int)} (h1 : ∀ l ∈ L, ∃ p ∈ ps, l = [p.1, p.2]) (h2 : ∀ p ∈ ps, [p.1, p.2] ∈ L) (nd : L.Nodup) (pw : L.Pairwise (fun l m => TS.code 64 l ≤ TS.code 64 m)) : L = ps.map fun p => [p.1, p.2] := by
  have nd2 : (ps.map fun p => [p.1, p.2]).Nodup := by
    rw [List.nodup_iff_pairwise_ne, List.pairwise_map]
    exact hs.imp fun {p q} h e => by
      simp only [List.cons.injEq, and_true] at e
      have h : p.1 * 64 + p.2 < q.1 * 64 + q.2 := h
      omega
  have cd : ∀ p : Int × Int, TS.code 64 [p.1, p.2] = code64 p := fun p => code_pair p.1 p.2
  refine List.Perm.eq_of_pairwise (le := fun l m => TS.code 64 l ≤ TS.code 64 m) (fun a b ha hb q1 q2 => ?_) pw ?_ ?_
  · obtain ⟨p, hp1, rfl⟩ := h1 a ha
    obtain ⟨q, hq1, rfl⟩ := List.mem_map.mp hb
    rw [cd, cd] at q1 q2
    rw [code_inj (hp p hp1) (hp q hq1) (Int.le_antisymm q1 q2)]
  · rw [List.pairwise_map]
    exact hs.imp fun {p q} h => by rw [cd, cd]; exact Int.le_of_lt h
  · refine (List.perm_ext_iff_of_nodup nd nd2).mpr fun l => ⟨fun h => ?_, fun h => ?_⟩
    · obtain ⟨p, hp1, e⟩ := h1 l h
      exact List.mem_map.mpr ⟨p, hp1, e.symm⟩
    · obtain ⟨p, hp1, e⟩ := List.mem_map.mp h
      rw [← e]; exact h2 p hp1
theorem de_asc {ps : List (Int × Int)} {p1 p2 q1 q2 : Pos} (hc : X.calm = true) (hr : Room k X.A) (m1 : X.mg "tuple" = none) (m2 : X.mg "sorted" = none) (m3 : X.mg "set" = none) (he : DE X e ρ (.tup (ps.map encP))) (hn : ps.length < 64) (hp : ∀ p ∈ ps, P64 p) (hs : ps.Pairwise (fun p q => code64 p < code64 q))
    (g1 : Gl X "tuple" := by rfl) (g2 : Gl X "sorted" := by rfl) (g3 : Gl X "set" := by rfl) (v1 : bootBuiltins "tuple" = some (.type "tuple") := by decide +kernel) (v2 : bootBuiltins "sorted" = some (.builtin "sorted") := by decide +kernel) (v3 : bootBuiltins "set" = some (.type "set") := by decide +kernel)
    (s3 : starEach [e] X.env = (false, eval e X.env) :: starEach [] X.env := by rfl)
    (s2 : starEach [.Call (.Name "set" p2) [e] [] q2] X.env = (false, eval (.Call (.Name "set" p2) [e] [] q2) X.env) :: starEach [] X.env := by rfl)
    (s1 : starEach [.Call (.Name "sorted" p1) [.Call (.Name "set" p2) [e] [] q2] [] q1] X.env = (false, eval (.Call (.Name "sorted" p1) [.Call (.Name "set" p2) [e] [] q2] [] q1) X.env) :: starEach [] X.env := by rfl) :
    DE X (.Call (.Name "tuple" p) [.Call (.Name "sorted" p1) [.Call (.Name "set" p2) [e] [] q2] [] q1] [] pos) ρ (.tup (ps.map encP)) := by
  have hset := pe_callTy (pos := q2) (p := p2) (cr_setTT hc (by have := hr.un; omega)) g3 m3 v3 (pa_cons he pa_nil s3) (by decide) (by decide) s3 rfl
  have hsrt := pe_callB (pos := q1) (p := p1) (cr_sortedT hc) g2 m2 v2 (pa_cons hset pa_nil s2) (by decide) (by decide) s2 rfl
  refine PE.imp (pe_callTy call_tuple_of g1 m1 v1 (pa_cons hsrt pa_nil s1) (by decide) (by decide) s1 rfl) fun σ H Q ⟨E, G, R, k⟩ => ⟨E, G, R, fun v G1 H1 x1 r1 => ?_⟩
  cases r1 with
  | tup h1 r1 =>
    obtain ⟨ks, e1, e2, h2⟩ := keys_of r1
    have lk : ks.length = ps.length := by
      have := congrArg List.length e2
      rw [List.length_map, List.length_map] at this
      exact this
    refine ⟨_, ks, rfl, ex_t x1.gh (e1 ▸ h1), fun q hq => ex_t x1.gh (h2 q hq), by omega, fun a L ha hL hL2 => ?_⟩
    have x2 : Ext G H G1 (upd H1 a (SetTO X.prog X.w a L)) := x1.trans (Ext.addO x1.gh ha)
    have inks : ∀ q ∈ L, ∃ p ∈ ps, q.2 = [p.1, p.2] := fun q hq => by
      have : q.2 ∈ ks.map (·.2) := List.mem_map.mpr ⟨q, hL q hq, rfl⟩
      rw [e2] at this
      obtain ⟨p, hp1, e⟩ := List.mem_map.mp this
      exact ⟨p, hp1, e.symm⟩
    refine ⟨a, L, 2, 64, rfl, upd_same, fun q hq => ex_t x2.gh (h2 q (hL q hq)), by decide, fun q hq => ?_, fun L' l pm nd _ pw hl => ?_⟩
    · obtain ⟨p, hp1, e⟩ := inks q hq
      rw [e]
      exact ⟨rfl, bd_pair (hp p hp1)⟩
    · have x3 : Ext G H G1 (upd (upd H1 a (SetTO X.prog X.w a L)) l (.lst (L'.map fun q => V.ref q.1))) := x2.trans (Ext.addO x2.gh hl)
      have eL : L'.map (·.2) = ps.map fun p => [p.1, p.2] := by
        refine sorted_keys hp hs (fun l hl => ?_) (fun p hp1 => ?_) nd (List.pairwise_map.mpr pw)
        · obtain ⟨q, hq, rfl⟩ := List.mem_map.mp hl
          exact inks q (pm.mem_iff.mp hq)
        · have : [p.1, p.2] ∈ ks.map (·.2) := by rw [e2]; exact List.mem_map.mpr ⟨p, hp1, rfl⟩
          obtain ⟨q, hq, e⟩ := List.mem_map.mp this
          obtain ⟨z, hz, ez⟩ := List.mem_map.mp (hL2 q hq)
          rw [← e, ← ez]
          exact List.mem_map.mpr ⟨z, pm.mem_iff.mpr hz, rfl⟩
      have rL := reps_keys (K := X.K) (G := G1) eL fun q hq => h2 q (hL q (pm.mem_iff.mp hq))
      refine ⟨l, _, rfl, .inl ⟨sq_of upd_same, fun t ht => k _ _ _ (x3.trans (Ext.add x3.gh ht)) (.tup (st_of upd_same) (rL.mono (Ex.new (fresh_back x3.gh ht))))⟩⟩
end
end DL
set_option maxRecDepth 100000
set_option maxHeartbeats 2000000
/-! DLi: min, enumerate(tuple), comprehensions of two clauses, +=, chains, heaps, own dicts, lists of own lists. -/
namespace DL
open PySem PySem.Spec PyProof.Rows L2 Evl HQ
open PySem.W (dataLt minD AlikeAll alike alikeAll keyToks keyToksAll)

/-! ### orders of data -/
theorem minD_mem : ∀ (l : List PyData) (z : PyData), minD z l ∈ z :: l
  | [], z => List.mem_singleton.mpr rfl
  | y :: l, z => by
    show minD (if dataLt y z then y else z) l ∈ _
    have := minD_mem l (if dataLt y z then y else z)
    split at this
    · rename_i h; rw [if_pos h]; exact List.mem_cons_of_mem _ this
    · rename_i h; rw [if_neg h]
      rcases List.mem_cons.mp this with e | e
      · rw [e]; exact List.mem_cons_self
      · exact List.mem_cons_of_mem _ (List.mem_cons_of_mem _ e)
theorem minD_le : ∀ (l : List PyData) (z : PyData), ∀ y ∈ z :: l, dataLt y (minD z l) = false
  | [], z, y, h => by rw [List.mem_singleton.mp h]; exact HQ.le_refl data_ord z
  | w :: l, z, y, h => by
    show dataLt y (minD (if dataLt w z then w else z) l) = false
    have ih := minD_le l (if dataLt w z then w else z)
    have i0 := ih _ List.mem_cons_self
    cases q : dataLt w z with
    | true =>
      rw [q] at ih i0
      simp only [if_true] at ih i0 ⊢
      rcases List.mem_cons.mp h with e | h
      · rw [e]; exact data_ord.trans _ _ _ i0 (data_ord.asym _ _ q)
      · rcases List.mem_cons.mp h with e | h
        · rw [e]; exact i0
        · exact ih y (List.mem_cons_of_mem _ h)
    | false =>
      rw [q] at ih i0
      simp only [Bool.false_eq_true, if_false] at ih i0 ⊢
      rcases List.mem_cons.mp h with e | h
      · rw [e]; exact i0
      · rcases List.mem_cons.mp h with e | h
        · rw [e]; exact data_ord.trans _ _ _ i0 q
        · exact ih y (List.mem_cons_of_mem _ h)
/-- a number and a tuple of numbers -/
abbrev QI := Int × List Int
abbrev encQ (q : QI) : D := .tup [.int q.1, .tup (q.2.map D.int)]
abbrev encQF (q : QI) : D := .tup [.int q.1, .tupf (q.2.map D.int)]
def qPy (q : QI) : PyData := .tuple [.int q.1, .tuple (q.2.map PyData.int)]
theorem pyL_ints (ns : List Int) : D.pyL (ns.map D.int) = ns.map PyData.int := by
  rw [pyL_map, List.map_map]
  exact List.map_congr_left fun x _ => by show (D.int x).py = _; rw [D.py]
theorem encQ_py (q : QI) : (encQ q).py = qPy q := by
  show (D.tup _).py = _
  rw [D.py, D.pyL, D.pyL, D.pyL, D.py, D.py, pyL_ints]; rfl
theorem encQF_py (q : QI) : (encQF q).py = qPy q := by
  show (D.tup _).py = _
  rw [D.py, D.pyL, D.pyL, D.pyL, D.py, D.py, pyL_ints]; rfl
theorem alike_ints : ∀ ns ms : List Int, alikeAll (ns.map PyData.int) (ms.map PyData.int) = true
  | [], _ => by simp [alikeAll]
  | _ :: _, [] => by simp [alikeAll]
  | n :: ns, m :: ms => by
    rw [List.map_cons, List.map_cons, alikeAll, alike, alike_ints ns ms]; rfl
theorem alike_q (a b : QI) : alike (qPy a) (qPy b) = true := by
  unfold qPy
  rw [alike, alikeAll, alikeAll, alikeAll, alike, alike, alike_ints]
  rfl
theorem noLs_ints : ∀ ns : List Int, noLs (ns.map PyData.int) = true
  | [] => by simp [noLs]
  | n :: ns => by rw [List.map_cons, noLs, noLs_ints ns, noL] <;> simp
theorem noL_q (a : QI) : noL (qPy a) = true := by
  unfold qPy
  rw [noL, noLs, noLs, noLs, noL, noL, noLs_ints] <;> simp
theorem toks_ints : ∀ ns ms : List Int, keyToksAll (ns.map PyData.int) = keyToksAll (ms.map PyData.int) → ns = ms
  | [], [], _ => rfl
  | [], m :: ms, h => by simp [keyToksAll] at h
  | n :: ns, [], h => by simp [keyToksAll] at h
  | n :: ns, m :: ms, h => by
    simp only [List.map_cons, keyToksAll, keyToks, List.singleton_append, List.cons.injEq, Sum.inl.injEq, true_and] at h
    rw [h.1, toks_ints ns ms h.2]
theorem toks_ints_len : ∀ ns : List Int, (keyToksAll (ns.map PyData.int)).length = 2 * ns.length + 1
  | [] => by simp [keyToksAll]
  | n :: ns => by
    rw [List.map_cons, keyToksAll, keyToks, List.length_cons, List.length_append, toks_ints_len ns, List.length_singleton, List.length_cons]; omega
theorem toks_q {a b : QI} (h : keyToks (qPy a) = keyToks (qPy b)) : a = b := by
  unfold qPy at h
  simp only [keyToks, keyToksAll, List.cons_append, List.nil_append, List.cons.injEq, Sum.inl.injEq, true_and] at h
  have := List.append_cancel_right h.2
  exact Prod.ext h.1 (toks_ints _ _ this)
theorem q_antisym {a b : QI} (h1 : dataLt (qPy a) (qPy b) = false) (h2 : dataLt (qPy b) (qPy a) = false) : a = b := toks_q (lex_total (O := itemOrd) _ _ h1 h2)
/-- the lighter goes first -/
theorem q_weight {a b : QI} (h : dataLt (qPy a) (qPy b) = false) : b.1 ≤ a.1 := by
  unfold qPy dataLt at h
  simp only [keyToks, keyToksAll, List.cons_append, List.nil_append] at h
  have h : PyProof.Rows.lexLt itemOrd (Sum.inl 1 :: Sum.inl a.1 :: _) (Sum.inl 1 :: Sum.inl b.1 :: _) = false := h
  rw [lex_self (O := itemOrd)] at h
  have := (lex_false (O := itemOrd)).mp h
  have e : itemOrd.blt (Sum.inl a.1) (Sum.inl b.1) = decide (a.1 < b.1) := rfl
  rw [e] at this
  have := of_decide_eq_false this.1
  omega
theorem q_nn (a : QI) : qPy a ≠ .none := by unfold qPy; exact fun h => nomatch h
theorem depth_ints : ∀ ns : List Int, PyData.depthAll (ns.map PyData.int) = 0
  | [] => by simp [PyData.depthAll]
  | n :: ns => by rw [List.map_cons, PyData.depthAll, depth_ints ns, PyData.depth]; rfl
theorem lay_ints : ∀ ns : List Int, PyData.canLayAll0 (ns.map PyData.int) = true
  | [] => by simp [PyData.canLayAll0]
  | n :: ns => by rw [List.map_cons, PyData.canLayAll0, lay_ints ns, PyData.canLay0]; rfl
theorem depth_q (a : QI) : (qPy a).depth ≤ 2 := by
  unfold qPy
  rw [PyData.depth, PyData.depthAll, PyData.depthAll, PyData.depthAll, PyData.depth, PyData.depth, depth_ints]
  decide
theorem lay_q (a : QI) : (qPy a).canLay0 = true := by
  unfold qPy
  rw [PyData.canLay0, PyData.canLayAll0, PyData.canLayAll0, PyData.canLayAll0, PyData.canLay0, PyData.canLay0, lay_ints]
  rfl
/-- an encoding of such pairs -/
structure QEnc (f : QI → D) : Prop where
  py : ∀ q, (f q).py = qPy q
  nice : ∀ q, (f q).nice 2 = true
theorem encQ_ok : QEnc encQ := ⟨encQ_py, fun q => by
  show ([D.int q.1, .tup (q.2.map D.int)].all (D.nice 1)) = true
  rw [List.all_cons, List.all_cons, List.all_nil]
  show (true && ((q.2.map D.int).all (D.nice 0) && true)) = true
  rw [nice_ints]; rfl⟩
theorem encQF_ok : QEnc encQF := ⟨encQF_py, fun q => by
  show ([D.int q.1, .tupf (q.2.map D.int)].all (D.nice 1)) = true
  rw [List.all_cons, List.all_cons, List.all_nil]
  show (true && ((q.2.map D.int).all (D.nice 0) && true)) = true
  rw [nice_ints]; rfl⟩
section
variable {X : Cx} {ρ : Env} {P : Post} {e a b c o tg : Expr} {es' : List Expr} {rest : List Stmt} {d da db dc : D} {ds es : List D} {pos pos' p : Pos} {i j : Int} {b1 b2 : Bool} {k : Nat} {x m : Str} {f : QI → D}
theorem depthAll_q : ∀ qs : List QI, PyData.depthAll (qs.map qPy) ≤ 2
  | [] => by simp [PyData.depthAll]
  | q :: qs => by
    rw [List.map_cons, PyData.depthAll]
    have := depth_q q
    have := depthAll_q qs
    omega
theorem pyL_q (h : QEnc f) : ∀ qs : List QI, D.pyL (qs.map f) = qs.map qPy
  | [] => by simp [D.pyL]
  | q :: qs => by rw [List.map_cons, D.pyL, pyL_q h qs, h.py]; rfl
/-- min of such pairs -/
theorem de_minQ {qs : List QI} {m : QI} (hf : QEnc f) (hc : X.calm = true) (hr : Room k X.A) (hm : X.mg "min" = none) (he : DLs X e ρ (qs.map f)) (mem : m ∈ qs) (le : ∀ y ∈ qs, dataLt (qPy y) (qPy m) = false) (hg : Gl X "min" := by rfl) (hv : bootBuiltins "min" = some (.builtin "min") := by decide +kernel) (hs : starEach [e] X.env = (false, eval e X.env) :: starEach [] X.env := by rfl) :
    DE X (.Call (.Name "min" p) [e] [] pos) ρ (f m) :=
  PE.imp (pe_callB (cr_minD hc) hg hm hv (pa_l he hs) (by decide) (by decide) hs rfl) fun σ H Q ⟨E, G, R, k⟩ => ⟨E, G, R, fun q vs G1 H1 x1 h1 r1 => by
    have dp : DpAll X.K H1 vs (qs.map qPy) := by
      rw [← pyL_q hf]
      exact reps_dp x1.gh 2 _ _ (fun d hd => by obtain ⟨q, _, rfl⟩ := List.mem_map.mp hd; exact hf.nice q) r1
    cases qs with
    | nil => cases mem
    | cons q0 qs =>
      refine ⟨q, vs, qPy q0, qs.map qPy, rfl, .inl h1, dp, ⟨fun x hx y hy => ?_, fun x hx => ?_⟩, ?_, fun i y hy hz => ?_⟩
      · obtain ⟨a, _, rfl⟩ := List.mem_map.mp (show x ∈ (q0 :: qs).map qPy from hx)
        obtain ⟨b, _, rfl⟩ := List.mem_map.mp (show y ∈ (q0 :: qs).map qPy from hy)
        exact alike_q a b
      · obtain ⟨a, _, rfl⟩ := List.mem_map.mp (show x ∈ (q0 :: qs).map qPy from hx)
        exact q_nn a
      · have := depthAll_q (q0 :: qs)
        have := hr.un
        show _ + 1 + PyData.depthAll ((q0 :: qs).map qPy) < _
        omega
      · obtain ⟨d, hd, rd⟩ := r1.getV hy
        rw [List.getElem?_map] at hd
        obtain ⟨q1, hq1, rfl⟩ := Option.map_eq_some_iff.mp hd
        have hz : ((q0 :: qs).map qPy)[i]? = _ := hz
        rw [List.getElem?_map, hq1] at hz
        have ez : qPy q1 = minD (qPy q0) (qs.map qPy) := Option.some.inj hz
        have m1 : dataLt (qPy m) (qPy q1) = false := by
          rw [ez]
          exact minD_le _ _ _ (show qPy m ∈ (q0 :: qs).map qPy from List.mem_map.mpr ⟨m, mem, rfl⟩)
        have e1 : q1 = m := q_antisym (le q1 (List.mem_of_getElem? hq1)) m1
        rw [e1] at rd
        exact k _ _ _ x1 rd⟩
/-- min of ints -/
theorem de_minI {ns : List Int} {m : Int} (hc : X.calm = true) (hm : X.mg "min" = none) (he : DLs X e ρ (ns.map D.int)) (mem : m ∈ ns) (le : ∀ y ∈ ns, m ≤ y) (hg : Gl X "min" := by rfl) (hv : bootBuiltins "min" = some (.builtin "min") := by decide +kernel) (hs : starEach [e] X.env = (false, eval e X.env) :: starEach [] X.env := by rfl) :
    DE X (.Call (.Name "min" p) [e] [] pos) ρ (.int m) :=
  PE.imp (pe_callB (cr_min hc) hg hm hv (pa_l he hs) (by decide) (by decide) hs rfl) fun σ H Q ⟨E, G, R, k⟩ => ⟨E, G, R, fun q vs G1 H1 x1 h1 r1 => by
    cases reps_ints r1
    refine ⟨q, ns, rfl, h1, List.length_pos_of_mem mem, fun m' h2 h3 => ?_⟩
    have : m' = m := Int.le_antisymm (h3 m mem) (le m' h2)
    rw [this]
    exact k _ _ _ x1 (.int _)⟩
theorem minD_ints_le {n : Int} {ns : List Int} {m : Int} (mem : m ∈ n :: ns) (le : ∀ y ∈ n :: ns, m ≤ y) : minD (.int n) (ns.map PyData.int) = .int m := by
  have h1 := minD_mem (ns.map PyData.int) (.int n)
  obtain ⟨z, hz, ez⟩ := List.mem_map.mp (show minD (.int n) (ns.map PyData.int) ∈ (n :: ns).map PyData.int from h1)
  have h2 := minD_le (ns.map PyData.int) (.int n) (.int m) (show PyData.int m ∈ (n :: ns).map PyData.int from List.mem_map.mpr ⟨m, mem, rfl⟩)
  rw [← ez, PySem.W.dataLt_int] at h2
  have h2 := of_decide_eq_false h2
  have := le z hz
  rw [← ez, show z = m by omega]
theorem de_minIT {ns : List Int} {m : Int} (hc : X.calm = true) (hr : Room k X.A) (hm : X.mg "min" = none) (he : DE X e ρ (.tup (ns.map D.int))) (mem : m ∈ ns) (le : ∀ y ∈ ns, m ≤ y) (hg : Gl X "min" := by rfl) (hv : bootBuiltins "min" = some (.builtin "min") := by decide +kernel) (hs : starEach [e] X.env = (false, eval e X.env) :: starEach [] X.env := by rfl) :
    DE X (.Call (.Name "min" p) [e] [] pos) ρ (.int m) :=
  PE.imp (pe_callB (cr_minD hc) hg hm hv (pa_cons he pa_nil hs) (by decide) (by decide) hs rfl) fun σ H Q ⟨E, G, R, k⟩ => ⟨E, G, R, fun v G1 H1 x1 r1 => by
    cases r1 with
    | tup h1 r1 =>
      rename_i a0 vs0
      have dp : DpAll X.K H1 vs0 (ns.map PyData.int) := by
        rw [← pyL_ints]
        exact reps_dp x1.gh 0 _ _ (fun d hd => by obtain ⟨q, _, rfl⟩ := List.mem_map.mp hd; rfl) r1
      cases reps_ints r1
      cases ns with
      | nil => cases mem
      | cons n ns =>
        refine ⟨_, _, .int n, ns.map PyData.int, rfl, .inr (ex_t x1.gh h1), dp, ⟨fun x hx y hy => ?_, fun x hx => ?_⟩, ?_, fun i y hy hz => ?_⟩
        · obtain ⟨a, _, rfl⟩ := List.mem_map.mp (show x ∈ (n :: ns).map PyData.int from hx)
          obtain ⟨b, _, rfl⟩ := List.mem_map.mp (show y ∈ (n :: ns).map PyData.int from hy)
          simp [alike]
        · obtain ⟨a, _, rfl⟩ := List.mem_map.mp (show x ∈ (n :: ns).map PyData.int from hx)
          exact fun h => nomatch h
        · have := depth_ints (n :: ns)
          have := hr.un
          show _ + 1 + PyData.depthAll ((n :: ns).map PyData.int) < _
          omega
        · rw [minD_ints_le mem le] at hz
          have hz : ((n :: ns).map PyData.int)[i]? = some (.int m) := hz
          rw [List.getElem?_map] at hy hz
          obtain ⟨u, hu, rfl⟩ := Option.map_eq_some_iff.mp hy
          rw [hu] at hz
          have eu : u = m := PyData.int.inj (Option.some.inj hz)
          rw [eu]
          exact k _ _ _ x1 (.int _)⟩
/-! ### enumerate(t) -/
theorem di_enumT {elts : List Expr} {kk : Nat} {tpos : Pos} (hm : X.mg "enumerate" = none) (ha : DE X e ρ (.tup ds)) (hg : Gl X "enumerate" := by rfl) (hs : starEach [e] X.env = [(false, eval e X.env)] := by rfl) : DI X (.Tuple elts kk tpos) (.Call (.Name "enumerate" p) [e] [] pos) ρ (enumD ds) :=
  PI.imp (pi_enumT hg hm (da_cons ha da_nil hs) hs) fun σ H R ⟨E, G, S, k⟩ => ⟨E, G, S, fun vs G1 H1 x1 r1 => by
    cases r1 with
    | cons r1 r2 =>
      cases r2
      cases r1 with
      | tup h1 q1 =>
        refine ⟨_, _, rfl, ex_t x1.gh h1, k _ G1 H1 x1 ?_⟩
        rw [List.length_map, List.length_range, q1.length]
        refine Walk.mono (walk_enumT (K := X.K)) (fun H2 e2 => ex_t e2 h1) fun i H2 y H3 hi _ h3 => ?_
        obtain ⟨T, v, w, rfl, hT, rfl, h4, h5⟩ := h3
        cases h4
        obtain ⟨d, h6, r6⟩ := q1.getV h5
        refine ⟨.tup [.int (i : Int), d], ?_, yd_pair (.int _) r6 hT⟩
        rw [List.getElem?_map, List.getElem?_range (by rw [q1.length]; exact hi)]
        show some (D.tup [.int (i : Int), ds.getD i .non]) = _
        rw [List.getD_eq_getElem?_getD, h6]; rfl⟩
/-! ### chains -/
theorem de_chain {l : Int} (ha : DE X a ρ (.int i)) (hb : DE X b ρ (.int j)) (hc : DE X c ρ (.int l)) (hm : lastMarks [.LtE, .Lt] [b, c] = false := by with_unfolding_all rfl) : DE X (.Compare a [.LtE, .Lt] [b, c] pos) ρ (.bl (decide (i ≤ j) && decide (j < l))) :=
  PE.imp (pe_chain op_le op_lt ha hb hc hm) fun σ H Q ⟨E, G, R, k⟩ => ⟨E, G, R, fun v G1 H1 x1 r1 => ⟨E, G1, R.mono x1, fun w G2 H2 x2 r2 => by
    cases r1; cases r2
    refine ⟨i, j, rfl, rfl, _, rfl, ?_⟩
    cases q : decide (i ≤ j) with
    | true =>
      rw [if_pos rfl]
      refine ⟨E, G2, (R.mono x1).mono x2, fun u G3 H3 x3 r3 => ?_⟩
      cases r3
      rw [q] at k
      exact ⟨j, l, rfl, rfl, k _ _ _ ((x1.trans x2).trans x3) (.bl _)⟩
    | false =>
      rw [if_neg (by decide)]
      rw [q] at k
      exact k _ _ _ (x1.trans x2) (.bl _)⟩⟩
theorem dt_chain {l : Int} (ha : DE X a ρ (.int i)) (hb : DE X b ρ (.int j)) (hc : DE X c ρ (.int l)) (hm : lastMarks [.LtE, .Lt] [b, c] = false := by with_unfolding_all rfl) : DT X (.Compare a [.LtE, .Lt] [b, c] pos) ρ (decide (i ≤ j) && decide (j < l)) :=
  PT.imp (pt_chain op_le op_lt ha hb hc hm) fun σ H Q ⟨E, G, R, k⟩ => ⟨E, G, R, fun v G1 H1 x1 r1 => ⟨E, G1, R.mono x1, fun w G2 H2 x2 r2 => by
    cases r1; cases r2
    refine ⟨i, j, rfl, rfl, _, rfl, ?_⟩
    cases q : decide (i ≤ j) with
    | true =>
      rw [if_pos rfl]
      refine ⟨E, G2, (R.mono x1).mono x2, fun u G3 H3 x3 r3 => ?_⟩
      cases r3
      rw [q] at k
      exact ⟨j, l, rfl, rfl, _, rfl, k _ _ ((x1.trans x2).trans x3)⟩
    | false =>
      rw [if_neg (by decide)]
      rw [q] at k
      exact ⟨_, rfl, k _ _ (x1.trans x2)⟩⟩⟩
/-! ### xs += ys -/
theorem ds_iadd (n : Nat) (hN : X.N.Nodup) (ho : ρ[n]? = some (.own ds)) (he : DN X e ρ es) (hz : ds.length + es.length ≤ 100000) (k : DS X rest (ρ.set n (.own (ds ++ es))) P) (hi : X.N[n]? = some x := by rfl) (hx : Loc X.env.scope x := by first | exact Or.inl rfl | exact Or.inr rfl) (hf : X.fn x = true ∨ X.env.scope.names.lookup x = some .local := by first | exact .inl rfl | exact .inr rfl) :
    DS X (.AugAssign (.Name x pos') .Add e pos :: rest) ρ P := PSs.imp (pss_cons (ps_aug hN hi hx he iop_ext hf) k) fun Dn σ H ⟨E, G, R, k1, k2, k3, k4⟩ => by
  obtain ⟨p, vs, h1, h2, _, _, _, _⟩ := R.own ho
  refine ⟨_, h1, E, G, R, fun q ws G1 H1 x1 hq hgq hq1 r1 => ?_⟩
  have R1 := R.mono x1
  obtain ⟨p', vs', h1', h2', _, _, r', w⟩ := R1.own ho
  obtain rfl : p' = p := by rw [h1] at h1'; injection h1' with h; injection h with h; injection h with h; exact h.symm
  refine ⟨p', q, vs', ws, rfl, rfl, h2', hq1, sz_of (by rw [← r'.length, ← r1.length]; exact hz), ?_⟩
  have e0 : σ.set n (some (.ref p')) = σ := by
    refine List.ext_getElem? fun i => ?_
    by_cases hi : n = i
    · subst hi
      rw [List.getElem?_set_self (List.getElem?_eq_some_iff.mp h1).1, h1]
    · rw [List.getElem?_set_ne hi]
  show tS X.K (ρ.set n (.own (ds ++ es))) P Dn (σ.set n (some (V.ref p'))) _
  rw [e0]
  exact ⟨E, G1, w G1 H1 _ _ (Ext.refl R1.gh) (r'.append r1), k1, k2, k3, k4⟩
end
end DL
set_option maxRecDepth 100000
set_option maxHeartbeats 2000000
/-! DLj: two clauses; heaps; own dicts; lists of own lists; instances. -/
namespace DL
open PySem PySem.Spec PyProof.Rows L2 Evl HQ
open PySem.W (dataLt)
/-! ### comprehensions of two clauses -/
section
variable {α β : Type}
theorem lc2_imp {K : PySem.W.Frag} {as : List α} {bs : α → List β} {f : α → D} {f1 : α → β → D} {g : α → β → D} {vs js vs1 js1 : List Nat} {ρ : Env} {ρb : α → Env} {ρc : α → β → Env} (hjs : ∀ j ∈ js, j ∈ vs) (hjs1 : ∀ j ∈ js1, j ∈ vs1) (hz : (as.flatMap bs).length ≤ 90000) :
    ∀ σ H Q, tDN K ρ (as.flatMap fun a => (bs a).map (g a)) σ H Q → tLc2 (tDI K ρ (as.map f)) (fun v σ H Q => ∃ a, a ∈ as ∧ tDG K js (wipeC ρ vs) (f a) (ρb a) v σ H Q) (fun σ H Q => ∃ a, a ∈ as ∧ tDT K (ρb a) true σ H Q)
      (fun σ H R => ∃ a, a ∈ as ∧ tDI K (ρb a) ((bs a).map (f1 a)) σ H R) (fun v σ H Q => ∃ a b, a ∈ as ∧ b ∈ bs a ∧ tDG K js1 (wipeC (ρb a) vs1) (f1 a b) (ρc a b) v σ H Q) (fun σ H Q => ∃ a b, a ∈ as ∧ b ∈ bs a ∧ tDT K (ρc a b) true σ H Q)
      (fun σ H Q => ∃ a b, a ∈ as ∧ b ∈ bs a ∧ tD K (ρc a b) (g a b) σ H Q) vs vs1 σ H Q := by
  rintro σ H Q ⟨E, G, R, k⟩
  refine ⟨E, G, R, fun J G1 H1 x1 W => fun Dl hD => ?_⟩
  rw [List.length_map] at W
  let Pv : Nat → Hp → Prop := fun i H2 => ∃ G2 acc, Ext G1 H1 G2 H2 ∧ H2 Dl = some (.lst acc) ∧ G2 Dl = none ∧ Reps K G2 ((as.take i).flatMap fun a => (bs a).map (g a)) acc
  have g1 : G1 Dl = none := fresh_back x1.gh hD
  refine ⟨fun i m H2 => m = as.length - i ∧ i ≤ as.length ∧ Pv i H2, ⟨as.length, rfl, Nat.zero_le _, G1, [], Ext.addO x1.gh hD, upd_same, g1, .nil⟩, ?_⟩
  rintro i m H2 ⟨rfl, hi, G2, acc, x2, hDl, hG2, r2⟩
  by_cases hlt : i < as.length
  · refine .inr ⟨W.goes i H2 hlt (x2.g.trans x2.gh), Pv (i + 1), fun H' p' => ⟨as.length - (i + 1), by omega, rfl, hlt, p'⟩, fun v H3 hy => ?_⟩
    obtain ⟨d, hd, hy⟩ := W.yields i H2 v H3 hlt (x2.g.trans x2.gh) hy
    have hai : as[i]? = some as[i] := List.getElem?_eq_getElem hlt
    rw [List.getElem?_map, hai] at hd
    cases hd
    have ham : as[i] ∈ as := List.getElem_mem hlt
    obtain ⟨G3, x3, r3⟩ := hy G2 x2.g x2.gh
    have tk : as.take (i + 1) = as.take i ++ [as[i]] := by rw [List.take_succ, hai]; rfl
    generalize ha : as[i] = a at *
    refine ⟨a, ham, E, G3, (R.mono (x1.trans (x2.trans x3))).wipe vs, r3, fun σ3 U3 w3 => ⟨by rw [w3 vs hjs, wipe_wipe], ?_⟩⟩
    have env : ∀ {G' H' : Hp}, Ext G1 H1 G' H' → Ex G3 G' → RS K E G' H' σ3 (ρb a) := fun {G' H'} x e => U3 _ _ _ e ((R.mono (x1.trans x)).wipe vs)
    refine ⟨a, ham, E, G3, env (x2.trans x3) (Ex.refl _), fun G4 H4 x4 => iteT ⟨a, ham, E, G4, env ((x2.trans x3).trans x4) x4.g, fun J1 G5 H5 x5 W1 => ?_⟩⟩
    rw [List.length_map] at W1
    have y5 : Ext G1 H1 G5 H5 := (x2.trans x3).trans (x4.trans x5)
    have e35 : Ex G3 G5 := x4.g.trans x5.g
    have hDl5 : H5 Dl = some (.lst acc) := x5.h _ _ (x4.h _ _ (x3.h _ _ hDl))
    have hG5 : G5 Dl = none := x5.new _ _ (x4.new _ _ (x3.new _ _ hG2 hDl) (x3.h _ _ hDl)) (x4.h _ _ (x3.h _ _ hDl))
    have small : acc.length + (bs a).length ≤ 90000 := by
      have e1 : (as.take (i + 1)).flatMap bs = (as.take i).flatMap bs ++ bs a := by rw [tk, List.flatMap_append]; simp
      have e2 : ((as.take (i + 1)).flatMap bs).length ≤ (as.flatMap bs).length := by
        conv => rhs; rw [← List.take_append_drop (i + 1) as]
        rw [List.flatMap_append, List.length_append]; omega
      rw [e1, List.length_append] at e2
      have e3 : acc.length = ((as.take i).flatMap bs).length := by
        rw [← r2.length, List.length_flatMap, List.length_flatMap]
        congr 1
        exact List.map_congr_left fun a _ => by rw [List.length_map]
      omega
    let Pw : Nat → Hp → Prop := fun j H6 => ∃ G6 acc6, Ext G1 H1 G6 H6 ∧ Ex G5 G6 ∧ H6 Dl = some (.lst acc6) ∧ G6 Dl = none ∧ acc6.length = acc.length + j ∧ Reps K G6 (((as.take i).flatMap fun a => (bs a).map (g a)) ++ ((bs a).take j).map (g a)) acc6
    refine ⟨fun j m H6 => m = (bs a).length - j ∧ j ≤ (bs a).length ∧ Pw j H6, ⟨(bs a).length, rfl, Nat.zero_le _, G5, acc, y5, Ex.refl _, hDl5, hG5, rfl, by rw [List.take_zero, List.map_nil, List.append_nil]; exact r2.mono (x3.g.trans e35)⟩, ?_⟩
    rintro j m H6 ⟨rfl, hj, G6, acc6, y6, e6, h6, hG6, l6, r6⟩
    by_cases hjl : j < (bs a).length
    · refine .inr ⟨W1.goes j H6 hjl (e6.trans y6.gh), Pw (j + 1), fun H' p' => ⟨(bs a).length - (j + 1), by omega, rfl, hjl, p'⟩, fun v1 H7 hy1 => ?_⟩
      obtain ⟨d, hd, hy1⟩ := W1.yields j H6 v1 H7 hjl (e6.trans y6.gh) hy1
      have hbi : (bs a)[j]? = some (bs a)[j] := List.getElem?_eq_getElem hjl
      rw [List.getElem?_map, hbi] at hd
      cases hd
      have hbm : (bs a)[j] ∈ bs a := List.getElem_mem hjl
      have tk1 : (bs a).take (j + 1) = (bs a).take j ++ [(bs a)[j]] := by rw [List.take_succ, hbi]; rfl
      obtain ⟨G7, x7, r7⟩ := hy1 G6 e6 y6.gh
      have y7 : Ext G1 H1 G7 H7 := y6.trans x7
      refine ⟨a, _, ham, hbm, E, G7, (env y7 (e35.trans (e6.trans x7.g))).wipe vs1, r7, fun σ4 U4 w4 => ⟨by rw [w4 vs1 hjs1, wipe_wipe], ?_⟩⟩
      have R7 := U4 _ _ _ (Ex.refl _) ((env y7 (e35.trans (e6.trans x7.g))).wipe vs1)
      refine ⟨a, _, ham, hbm, E, G7, R7, fun G8 H8 x8 => iteT ⟨a, _, ham, hbm, E, G8, R7.mono x8, fun z G9 H9 x9 r9 => ?_⟩⟩
      have x69 : Ext G6 H6 G9 H9 := x7.trans (x8.trans x9)
      have h9 : H9 Dl = some (.lst acc6) := x69.h _ _ h6
      have hG9 : G9 Dl = none := x69.new _ _ hG6 h6
      refine ⟨acc6, h9, sz_lt (by rw [l6]; omega), G9, acc6 ++ [z], (y6.trans x69).mut hD hG9, e6.trans x69.g, upd_same, hG9, by rw [List.length_append, List.length_singleton, l6]; omega, ?_⟩
      rw [tk1, List.map_append, ← List.append_assoc]
      exact (r6.mono x69.g).append (.cons r9 .nil)
    · have e : j = (bs a).length := by omega
      subst e
      refine .inl ⟨W1.stops H6 (e6.trans y6.gh), G6, acc6, y6, h6, hG6, ?_⟩
      rw [List.take_length] at r6
      rw [tk, List.flatMap_append]
      simpa using r6
  · have e : i = as.length := by omega
    subst e
    refine .inl ⟨W.stops H2 (x2.g.trans x2.gh), ?_⟩
    rw [List.take_length] at r2
    exact k Dl acc G2 H2 (x1.trans x2) (fresh_back x1.h hD) hG2 hDl r2
variable {X : Cx} {ρ : Env}
theorem dn_lc2 {as : List α} (f : α → D) (bs : α → List β) (f1 : α → β → D) (g : α → β → D) {js js1 : List Nat} {ρb : α → Env} {ρc : α → β → Env} {elt iter iter1 tg tg1 : Expr} {pos : Pos} {scope : Scope} (own : List (Str × Nat)) (vs1 : List Nat) (hc : X.calm = true) (hN : X.N.Nodup) (hi : DI X tg iter ρ (as.map f)) (ok : BlkOk X.N X.env.scope scope own)
    (hjs : ∀ j ∈ js, j ∈ own.map (·.2)) (hjs1 : ∀ j ∈ js1, j ∈ vs1) (hv : ∀ i ∈ vs1, i ∈ own.map (·.2)) (hz : (as.flatMap bs).length ≤ 90000)
    (hg : Blk X scope fun Y => ∀ a ∈ as, DG Y tg js (wipeC ρ (own.map (·.2))) (f a) (ρb a)) (hi1 : Blk X scope fun Y => ∀ a ∈ as, DI Y tg1 iter1 (ρb a) ((bs a).map (f1 a))) (hg1 : Blk X scope fun Y => ∀ a ∈ as, ∀ b ∈ bs a, DG Y tg1 js1 (wipeC (ρb a) vs1) (f1 a b) (ρc a b))
    (he : Blk X scope fun Y => ∀ a ∈ as, ∀ b ∈ bs a, DE Y elt (ρc a b) (g a b)) (hs : ∀ x, foldedSetIterable iter X.env x = pure x := by intro _; rfl) (hs1 : ∀ env x, foldedSetIterable iter1 env x = pure x := by intro _ _; rfl) :
    DN X (.ListComp elt [⟨tg, iter, [], 0⟩, ⟨tg1, iter1, [], 0⟩] scope pos) ρ (as.flatMap fun a => (bs a).map (g a)) :=
  PE.imp (pe_lc2 (vs1 := vs1) hc hN hi ok hv (fun s H C cl fp => pg_any fun v σ H Q ⟨a, ha, h⟩ => ⟨_, hg s _ C cl fp a ha, h⟩) (fun s H C cl fp => pts_any fun σ H Q ⟨a, ha, h⟩ => ⟨_, dts_nil, h⟩)
    (fun s H C cl fp => ⟨fun pins s' σ H' R I ⟨a, ha, h⟩ => (hi1 s _ C cl fp a ha).run pins s' σ H' R I h⟩) (fun s H C cl fp => pg_any fun v σ H Q ⟨a, b, ha, hb, h⟩ => ⟨_, hg1 s _ C cl fp a ha b hb, h⟩) (fun s H C cl fp => pts_any fun σ H Q ⟨a, b, ha, hb, h⟩ => ⟨_, dts_nil, h⟩)
    (fun s H C cl fp => pe_any fun σ H Q ⟨a, b, ha, hb, h⟩ => ⟨_, he s _ C cl fp a ha b hb, h⟩) hs hs1) (lc2_imp hjs hjs1 hz)
end
end DL
set_option maxRecDepth 100000
set_option maxHeartbeats 2000000
/-! DLk: heaps; own dicts; lists of own lists; instances. -/
namespace DL
open PySem PySem.Spec PyProof.Rows L2 Evl HQ
open PySem.W (dataLt)
section
variable {X : Cx} {ρ : Env} {P : Post} {e a b c o tg : Expr} {es' : List Expr} {rest : List Stmt} {d da db dc : D} {ds es : List D} {pos pos' pos2 p p2 : Pos} {i j : Int} {b1 b2 : Bool} {k n : Nat} {x y m : Str}
theorem ds_asgLc2 {α β : Type} {as : List α} (n : Nat) (f : α → D) (bs : α → List β) (f1 : α → β → D) (g : α → β → D) {js js1 : List Nat} {ρb : α → Env} {ρc : α → β → Env} {elt iter iter1 tg tg1 : Expr} {pos spos py : Pos} {scope : Scope} (own : List (Str × Nat)) (vs1 : List Nat) (hc : X.calm = true) (hN : X.N.Nodup) (hi : DI X tg iter ρ (as.map f)) (ok : BlkOk X.N X.env.scope scope own)
    (hjs : ∀ j ∈ js, j ∈ own.map (·.2)) (hjs1 : ∀ j ∈ js1, j ∈ vs1) (hv : ∀ i ∈ vs1, i ∈ own.map (·.2)) (hz : (as.flatMap bs).length ≤ 90000)
    (hg : Blk X scope fun Y => ∀ a ∈ as, DG Y tg js (wipeC ρ (own.map (·.2))) (f a) (ρb a)) (hi1 : Blk X scope fun Y => ∀ a ∈ as, DI Y tg1 iter1 (ρb a) ((bs a).map (f1 a))) (hg1 : Blk X scope fun Y => ∀ a ∈ as, ∀ b ∈ bs a, DG Y tg1 js1 (wipeC (ρb a) vs1) (f1 a b) (ρc a b))
    (he : Blk X scope fun Y => ∀ a ∈ as, ∀ b ∈ bs a, DE Y elt (ρc a b) (g a b)) (k : DS X rest (ρ.set n (.own (as.flatMap fun a => (bs a).map (g a)))) P)
    (hsw : swapsWith (.ListComp elt [⟨tg, iter, [], 0⟩, ⟨tg1, iter1, [], 0⟩] scope pos) (some (.Name x py)) spos.line X.env = pure true := by first | exact sw_true rfl rfl rfl (by decide +kernel)) (hy : X.N[n]? = some x := by rfl) (hyl : X.env.scope.names.lookup x = some .local := by rfl) (hs : ∀ x, foldedSetIterable iter X.env x = pure x := by intro _; rfl) (hs1 : ∀ env x, foldedSetIterable iter1 env x = pure x := by intro _ _; rfl) :
    DS X (.Assign [.Name x py] (.ListComp elt [⟨tg, iter, [], 0⟩, ⟨tg1, iter1, [], 0⟩] scope pos) spos :: rest) ρ P :=
  PSs.imp (pss_cons (ps_setLc2 (vs1 := vs1) (g := fun v σ H Q => ∃ a, a ∈ as ∧ tDG X.K js (wipeC ρ (own.map (·.2))) (f a) (ρb a) v σ H Q) (tt := fun σ H Q => ∃ a, a ∈ as ∧ tDT X.K (ρb a) true σ H Q) (wi1 := fun σ H R => ∃ a, a ∈ as ∧ tDI X.K (ρb a) ((bs a).map (f1 a)) σ H R) (g1 := fun v σ H Q => ∃ a b, a ∈ as ∧ b ∈ bs a ∧ tDG X.K js1 (wipeC (ρb a) vs1) (f1 a b) (ρc a b) v σ H Q) (tt1 := fun σ H Q => ∃ a b, a ∈ as ∧ b ∈ bs a ∧ tDT X.K (ρc a b) true σ H Q) (te := fun σ H Q => ∃ a b, a ∈ as ∧ b ∈ bs a ∧ tD X.K (ρc a b) (g a b) σ H Q) hc hN hy hyl hsw hi ok hv (fun s H C cl fp => pg_any fun v σ H Q ⟨a, ha, h⟩ => ⟨_, hg s _ C cl fp a ha, h⟩) (fun s H C cl fp => pts_any fun σ H Q ⟨a, ha, h⟩ => ⟨_, dts_nil, h⟩)
    (fun s H C cl fp => ⟨fun pins s' σ H' R I ⟨a, ha, h⟩ => (hi1 s _ C cl fp a ha).run pins s' σ H' R I h⟩) (fun s H C cl fp => pg_any fun v σ H Q ⟨a, b, ha, hb, h⟩ => ⟨_, hg1 s _ C cl fp a ha b hb, h⟩) (fun s H C cl fp => pts_any fun σ H Q ⟨a, b, ha, hb, h⟩ => ⟨_, dts_nil, h⟩)
    (fun s H C cl fp => pe_any fun σ H Q ⟨a, b, ha, hb, h⟩ => ⟨_, he s _ C cl fp a ha b hb, h⟩) hs hs1) k)
    fun Dn σ H ⟨E, G, R, k1, k2, k3, k4⟩ => lc2_imp hjs hjs1 hz σ H (fun x H1 => gName n x σ H1 (tS X.K (ρ.set n (.own (as.flatMap fun a => (bs a).map (g a)))) P Dn)) ⟨E, G, R, fun p vs G1 H1 x1 h0 hg hp r1 => ⟨E, G1, R.setOwn x1 h0 hg hp r1, k1, k2, k3, k4⟩⟩
/-! ### heaps of pairs -/
abbrev HeapQ (qs : List QI) : Prop := Heapy dataLt qs.length (fun i => qPy (qs.getD i (0, [])))
theorem zip_of {K : PySem.W.Frag} {G : Hp} : ∀ {qs : List QI} {vs : List V}, Reps K G (qs.map encQ) vs → ∃ zs : List (V × QI), zs.map (·.1) = vs ∧ zs.map (·.2) = qs ∧ ∀ z ∈ zs, Rep K G (encQ z.2) z.1
  | [], _, .nil => ⟨[], rfl, rfl, fun _ h => by cases h⟩
  | q :: qs, _, .cons r rs => by
    obtain ⟨zs, h1, h2, h3⟩ := zip_of rs
    refine ⟨(_, q) :: zs, by rw [List.map_cons, h1], by rw [List.map_cons, h2], fun z hz => ?_⟩
    rcases List.mem_cons.mp hz with e | hz
    · rw [e]; exact r
    · exact h3 z hz
theorem zip_reps {K : PySem.W.Frag} {G : Hp} : ∀ {zs : List (V × QI)}, (∀ z ∈ zs, Rep K G (encQ z.2) z.1) → Reps K G ((zs.map (·.2)).map encQ) (zs.map (·.1))
  | [], _ => .nil
  | z :: zs, h => .cons (h z List.mem_cons_self) (zip_reps fun z hz => h z (List.mem_cons_of_mem _ hz))
abbrev zPy (z : V × QI) : V × PyData := (z.1, qPy z.2)
theorem zip_ok {K : PySem.W.Frag} {G H : Hp} {un : Nat} (ex : Ex G H) (hu : un + 100 < cLine) {zs : List (V × QI)} (h : ∀ z ∈ zs, Rep K G (encQ z.2) z.1) : QOk K un H (zs.map zPy) := by
  refine ⟨fun p hp => ?_, fun p hp q hq => ?_⟩
  · obtain ⟨z, hz, rfl⟩ := List.mem_map.mp hp
    refine ⟨?_, noL_q z.2, lay_q z.2, q_nn z.2, ?_⟩
    · have := rep_dp ex 2 _ _ (encQ_ok.nice z.2) (h z hz)
      rw [encQ_py] at this
      exact this
    · have := depth_q z.2
      show un + 1 + (qPy z.2).depth < _
      omega
  · obtain ⟨z, _, rfl⟩ := List.mem_map.mp hp
    obtain ⟨w, _, rfl⟩ := List.mem_map.mp hq
    exact alike_q z.2 w.2
theorem zip_heap {zs : List (V × QI)} : HeapQ (zs.map (·.2)) ↔ HeapP (zs.map zPy) := by
  have e : ∀ i, i < zs.length → qPy ((zs.map (·.2)).getD i (0, [])) = ((zs.map zPy).getD i (.non, .none)).2 := fun i hi => by
    rw [List.getD_eq_getElem?_getD, List.getD_eq_getElem?_getD, List.getElem?_map, List.getElem?_map, List.getElem?_eq_getElem hi]; rfl
  constructor
  · intro h
    exact Heapy.congr h (by rw [List.length_map, List.length_map]) fun i hi => e i (by rw [List.length_map] at hi; exact hi)
  · intro h
    exact Heapy.congr h (by rw [List.length_map, List.length_map]) fun i hi => (e i (by rw [List.length_map] at hi; exact hi)).symm
theorem hu100 (hr : Room k X.A) : X.A.units + 100 < cLine := by have := hr.un; omega
/-- heappush(queue, e) -/
theorem ds_push (n : Nat) {qs : List QI} {q : QI} (hr : Room k X.A) (hm : X.mg y = some (.builtin "_heapq.heappush")) (ho : ρ[n]? = some (.own (qs.map encQ))) (he : DE X e ρ (encQ q)) (hz : qs.length < 70000) (hh : HeapQ qs)
    (kk : ∀ qs', qs'.Perm (q :: qs) → HeapQ qs' → DS X rest (ρ.set n (.own (qs'.map encQ))) P) (hg : Gl X y := by rfl) (hN : X.N[n]? = some x := by rfl) (hv : Vis X.env.scope x := by first | exact Or.inl rfl | exact Or.inr (Or.inl rfl)) (hd : (x == ("__debug__" : Str)) = false := by decide) (hcd : (x == ("__classdict__" : Str)) = false := by decide) (hdb : (y == ("__debug__" : Str)) = false := by decide)
    (hs1 : starEach [.Name x p2, e] X.env = (false, eval (.Name x p2) X.env) :: starEach [e] X.env := by rfl) (hs2 : starEach [e] X.env = (false, eval e X.env) :: starEach [] X.env := by rfl) (hpl : (backTo pos' (starEach [e] X.env)).any (·.1) = false := by rfl)
    (hs : swapsWith (.Call (.Name y p) [.Name x p2, e] [] pos') none pos.line X.env = pure false := by rfl) : DS X (.Expr (.Call (.Name y p) [.Name x p2, e] [] pos') pos :: rest) ρ P := by
  have bb : PSs X rest (fun Dn σ H => ∃ qs', qs'.Perm (q :: qs) ∧ HeapQ qs' ∧ tS X.K (ρ.set n (.own (qs'.map encQ))) P Dn σ H) := pss_any fun Dn σ H ⟨qs', h1, h2, h⟩ => ⟨_, kk qs' h1 h2, h⟩
  refine PSs.imp (pss_cons (ps_expr (pe_callBfun cr_push hg hm (pa_cons (pv n hN (hv.elim .inl fun z => .inr z) hd hcd) (pa_cons he pa_nil hs2) hs1) hdb hs1 hpl) hs) bb) fun Dn σ H ⟨E, G, R, k1, k2, k3, k4⟩ => ?_
  obtain ⟨l, vs, h1, h2, h3, h4, r0, upd'⟩ := R.own ho
  refine ⟨_, h1, E, G, R, fun v G1 H1 x1 r1 => ?_⟩
  obtain ⟨zs, e1, e2, h5⟩ := zip_of (r0.mono x1.g)
  have h6 : ∀ z ∈ ((v, q) :: zs), Rep X.K G1 (encQ z.2) z.1 := fun z hz => by
    rcases List.mem_cons.mp hz with e | hz
    · rw [e]; exact r1
    · exact h5 z hz
  refine ⟨l, (v, qPy q), zs.map zPy, rfl, by rw [List.map_map]; exact (x1.h _ _ h2).trans (by rw [← e1]; rfl), zip_ok (zs := (v, q) :: zs) x1.gh (hu100 hr) h6, ?_, zip_heap.mp (by rw [e2]; exact hh), fun zs' hp hh' => ?_⟩
  · rw [List.length_map, ← List.length_map (f := fun z : V × QI => z.2) (as := zs), e2]; omega
  · obtain ⟨ws, pw, rfl⟩ := q_lift (f := zPy) hp ((v, q) :: zs) rfl
    have rw' := zip_reps fun z hz => h6 z (pw.mem_iff.mp hz)
    have pq : (ws.map (·.2)).Perm (q :: qs) := by
      have := pw.map fun z : V × QI => z.2
      rw [List.map_cons, e2] at this
      exact this
    rw [List.map_map]
    exact ⟨ws.map (·.2), pq, zip_heap.mpr hh', E, G1, upd' _ _ _ _ x1 rw', k1, k2, k3, k4⟩
/-- target = heappop(queue) -/
theorem ds_pop (n : Nat) {qs : List QI} {js : List Nat} (hr : Room k X.A) (hm : X.mg y = some (.builtin "_heapq.heappop")) (ho : ρ[n]? = some (.own (qs.map encQ))) (hz : qs.length < 70000) (h0 : 0 < qs.length) (hh : HeapQ qs)
    (kk : ∀ q qs', (q :: qs').Perm qs → HeapQ qs' → (∀ z ∈ qs, dataLt (qPy z) (qPy q) = false) → ∃ ρ', DG X tg js (ρ.set n (.own (qs'.map encQ))) (encQ q) ρ' ∧ DS X rest ρ' P) (hg : Gl X y := by rfl) (hN : X.N[n]? = some x := by rfl) (hv : Vis X.env.scope x := by first | exact Or.inl rfl | exact Or.inr (Or.inl rfl)) (hd : (x == ("__debug__" : Str)) = false := by decide) (hcd : (x == ("__classdict__" : Str)) = false := by decide) (hdb : (y == ("__debug__" : Str)) = false := by decide)
    (hs1 : starEach [.Name x p2] X.env = (false, eval (.Name x p2) X.env) :: starEach [] X.env := by rfl)
    (hs : swapsWithSole [tg] (.Call (.Name y p) [.Name x p2] [] pos') pos.line X.env = pure false := by rfl) (hw : swappedStores [tg] (.Call (.Name y p) [.Name x p2] [] pos') X.env = pure none := by rfl)
    (ht : (assignEach [tg] X.env).map (·.2) = [assign tg X.env] := by rfl) : DS X (.Assign [tg] (.Call (.Name y p) [.Name x p2] [] pos') pos :: rest) ρ P := by
  let Ok : QI → List QI → Prop := fun q qs' => (q :: qs').Perm qs ∧ HeapQ qs' ∧ ∀ z ∈ qs, dataLt (qPy z) (qPy q) = false
  have gg : PG X tg (fun v σ H Q => ∃ (q : QI) (qs' : List QI) (ρ' : Env), DG X tg js (ρ.set n (.own (qs'.map encQ))) (encQ q) ρ' ∧ tDG X.K js (ρ.set n (.own (qs'.map encQ))) (encQ q) ρ' v σ H Q) := pg_any fun v σ H Q ⟨q, qs', ρ', h1, h2⟩ => ⟨_, h1, h2⟩
  have bb : PSs X rest (fun Dn σ H => ∃ ρ', DS X rest ρ' P ∧ tS X.K ρ' P Dn σ H) := pss_any fun Dn σ H ⟨ρ', h1, h2⟩ => ⟨_, h1, h2⟩
  refine PSs.imp (pss_cons (ps_asg (pe_callBfun cr_pop hg hm (pa_cons (pv n hN (hv.elim .inl fun z => .inr z) hd hcd) pa_nil hs1) hdb hs1 rfl) gg hs hw ht) bb) fun Dn σ H ⟨E, G, R, k1, k2, k3, k4⟩ => ?_
  obtain ⟨l, vs, h1, h2, h3, h4, r0, upd'⟩ := R.own ho
  refine ⟨_, h1, ?_⟩
  obtain ⟨zs, e1, e2, h5⟩ := zip_of r0
  have lz : zs.length = qs.length := by rw [← e2, List.length_map]
  refine ⟨l, zs.map zPy, rfl, by rw [List.map_map]; exact h2.trans (by rw [← e1]; rfl), zip_ok R.gh (hu100 hr) h5, by rw [List.length_map, lz]; omega, by rw [List.length_map, lz]; exact h0, zip_heap.mp (by rw [e2]; exact hh), fun z zs' hp hh' hmin => ?_⟩
  obtain ⟨ws0, pw0, ew0⟩ := q_lift hp zs rfl
  cases ws0 with
  | nil => cases ew0
  | cons w ws =>
    rw [List.map_cons, List.cons.injEq] at ew0
    obtain ⟨rfl, rfl⟩ := ew0
    have h6 : ∀ z ∈ (w :: ws), Rep X.K G (encQ z.2) z.1 := fun z hz => h5 z (pw0.mem_iff.mp hz)
    have pq : (w.2 :: ws.map (·.2)).Perm qs := by
      have := pw0.map fun z : V × QI => z.2
      rw [List.map_cons, e2] at this
      exact this
    have mn : ∀ z ∈ qs, dataLt (qPy z) (qPy w.2) = false := fun q hq => by
      rw [← e2] at hq
      obtain ⟨u, hu, rfl⟩ := List.mem_map.mp hq
      exact hmin (zPy u) (List.mem_map.mpr ⟨u, hu, rfl⟩)
    obtain ⟨ρ', g1, g2⟩ := kk w.2 (ws.map (·.2)) pq (zip_heap.mpr hh') mn
    have R2 := upd' G H _ _ (Ext.refl R.gh) (zip_reps fun z hz => h6 z (List.mem_cons_of_mem _ hz))
    have em : (ws.map zPy).map (·.1) = ws.map (·.1) := by rw [List.map_map]; rfl
    rw [em]
    exact ⟨w.2, ws.map (fun z => z.2), ρ', g1, E, G, R2, h6 w List.mem_cons_self, fun σ' U _ => ⟨ρ', g2, E, G, U _ _ _ (Ex.refl _) R2, k1, k2, k3, k4⟩⟩
/-! ### own dicts with int keys, all values True -/
abbrev dkD (ks : List Int) : HO := .dK (ks.map fun k => (Sum.inl k, V.bl true))
theorem ds_dict0 (n : Nat) (hN : X.N.Nodup) (k : DS X rest (ρ.set n (.owo (dkD []))) P) (hi : X.N[n]? = some x := by rfl) (hx : Loc X.env.scope x := by first | exact Or.inl rfl | exact Or.inr rfl) (hs : swapsWith (.Dict [] [] p) (some (.Name x pos')) pos.line X.env = pure false := by rfl) (hf : X.fn x = true ∨ X.env.scope.names.lookup x = some .local := by first | exact .inl rfl | exact .inr rfl) :
    DS X (.Assign [.Name x pos'] (.Dict [] [] p) pos :: rest) ρ P := PSs.imp (pss_cons (ps_set hN hi hx pe_dnewK hs hf) k) fun Dn σ H ⟨E, G, R, k1, k2, k3, k4⟩ => fun q hq =>
  ⟨E, G, RS.setAny (R.mono (Ext.addO R.gh hq)) R (Ext.addO R.gh hq) (nf := [q]) ⟨q, rfl, List.mem_singleton.mpr rfl, upd_same⟩ fun a h => by
    rw [List.mem_singleton.mp h]
    exact ⟨hq, fresh_back R.gh hq, _, upd_same⟩, k1, k2, k3, k4⟩
theorem valV_done (ks : List Int) (k : Int) : (valV (ks.map fun k => ((Sum.inl k : Key), V.bl true)) (Sum.inl k)).isSome = decide (k ∈ ks) := by
  rw [← valV_any]
  induction ks with
  | nil => rfl
  | cons a ks ih =>
    rw [List.map_cons, List.any_cons, ih]
    by_cases h : a = k
    · subst h; simp
    · have : ¬ (Sum.inl a : Key) = Sum.inl k := fun z => h (Sum.inl.inj z)
      simp [h, Ne.symm h]
theorem dt_ninO (n : Nat) {ks : List Int} (hr : Room k X.A) (ha : DE X a ρ (.int i)) (ho : ρ[n]? = some (.owo (dkD ks))) (hN : X.N[n]? = some x := by rfl) (hv : Vis X.env.scope x := by first | exact Or.inl rfl | exact Or.inr (Or.inl rfl)) (hd : (x == ("__debug__" : Str)) = false := by decide) (hcd : (x == ("__classdict__" : Str)) = false := by decide) (hm : behindInMarks .NotIn (.Name x p) = false := by rfl) :
    DT X (.Compare a [.NotIn] [.Name x p] pos) ρ (!decide (i ∈ ks)) := PT.imp (pt_cmp (pc_dnotin (by have := hr.un; omega) ha (pv n hN (hv.elim .inl fun z => .inr z) hd hcd)) hm) fun σ H Q ⟨E, G, R, k⟩ => ⟨E, G, R, fun v G1 H1 x1 r1 => by
  cases r1
  obtain ⟨o, fi, h1, ⟨q, rfl, h2, h3⟩, _⟩ := (R.mono x1).wr ho
  refine ⟨_, h1, q, _, rfl, DGet.k (k := Sum.inl i) h3, _, rfl, ?_⟩
  rw [valV_done]
  exact k _ _ x1⟩
theorem putK_done (ks : List Int) (k : Int) (h : k ∉ ks) : putK (ks.map fun k => ((Sum.inl k : Key), V.bl true)) (Sum.inl k) (V.bl true) = (ks ++ [k]).map fun k => ((Sum.inl k : Key), V.bl true) := by
  rw [putK_new, List.map_append]; rfl
  have := valV_done ks k
  rw [decide_eq_false h] at this
  cases q : valV (ks.map fun k => ((Sum.inl k : Key), V.bl true)) (Sum.inl k) with
  | none => rfl
  | some z => rw [q] at this; cases this
theorem ds_dput (n : Nat) {ks : List Int} {j0 p4 spos} (hr : Room k X.A) (ha : DE X a ρ (.int i)) (hni : i ∉ ks) (hl : ks.length < 90000) (ho : ρ[n]? = some (.owo (dkD ks))) (kk : DS X rest (ρ.set n (.owo (dkD (ks ++ [i])))) P) (hN : X.N[n]? = some x := by rfl) (hv : Vis X.env.scope x := by first | exact Or.inl rfl | exact Or.inr (Or.inl rfl)) (hd : (x == ("__debug__" : Str)) = false := by decide) (hcd : (x == ("__classdict__" : Str)) = false := by decide)
    (hs : swapsWith (.Constant (.bool true) j0 p4) (some (.Subscript (.Name x p) a spos)) pos.line X.env = pure false := by rfl) : DS X (.Assign [.Subscript (.Name x p) a spos] (.Constant (.bool true) j0 p4) pos :: rest) ρ P :=
  PSs.imp (pss_cons (ps_dput (by have := hr.un; omega) (pv n hN (hv.elim .inl fun z => .inr z) hd hcd) ha pe_bl hs) kk) fun Dn σ H ⟨E, G, R, k1, k2, k3, k4⟩ => by
    obtain ⟨o, fi, h1, ⟨q, rfl, h2, h3⟩, _⟩ := R.wr ho
    refine ⟨_, h1, E, G, R, fun v G1 H1 x1 r1 => ?_⟩
    cases r1
    obtain ⟨o', fi', h1', ⟨q', ho', h2', h3'⟩, dm, w⟩ := (R.mono x1).wr ho
    rw [h1] at h1'
    obtain rfl := Option.some.inj h1'
    cases ho'
    refine ⟨q, _, rfl, DPut.k (k := Sum.inl i) h3' (by rw [List.length_map, sizeLine_eq]; omega), E, G1, w G1 H1 _ (.owo (dkD (ks ++ [i]))) [q] (Ext.refl (R.mono x1).gh) (fun a ha => upd_ne fun z => ha (by rw [z]; exact List.mem_singleton.mpr rfl)) (fun a ha => ?_) ⟨q, rfl, List.mem_singleton.mpr rfl, ?_⟩, k1, k2, k3, k4⟩
    · rw [List.mem_singleton.mp ha]
      exact ⟨.inl h2', _, upd_same⟩
    · rw [upd_same, putK_done ks i hni]
end
end DL
set_option maxRecDepth 100000
set_option maxHeartbeats 2000000
/-! DLl: lists of own lists; instances. -/
namespace DL
open PySem PySem.Spec PyProof.Rows L2 Evl
section
variable {X : Cx} {ρ : Env} {P : Post} {e a b c o tg : Expr} {es' : List Expr} {rest : List Stmt} {d da db dc : D} {ds es : List D} {dss : List (List D)} {pos pos' pos2 p p2 p3 : Pos} {i j : Int} {b1 b2 : Bool} {k n : Nat} {x y m f : Str}
/-! ### lists of own lists -/
theorem ds_owl0 (n : Nat) (h : ρ[n]? = some (.own [])) (k : DS X rest (ρ.set n (.owl [])) P) : DS X rest ρ P := PSs.imp k fun Dn σ H ⟨E, G, R, q⟩ => by
  obtain ⟨o, fi, h1, ⟨l, vs, rfl, h2, h3, r⟩, _, w⟩ := R.wr h
  cases r
  refine ⟨E, G, w G H H (.owl []) [l] (Ext.refl R.gh) (fun _ _ => rfl) (fun a ha => ?_) ⟨l, [], rfl, by simp, fun q hq => hq, h3, .nil⟩, q⟩
  rw [List.mem_singleton.mp ha]
  exact ⟨.inl h2, _, h3⟩
theorem ds_freezeL (n : Nat) (h : ρ[n]? = some (.owl dss)) (k : DS X rest (ρ.set n (.fro (.lst (dss.map D.lst)))) P) : DS X rest ρ P := PSs.imp k fun Dn σ H ⟨E, G, R, q⟩ => by
  obtain ⟨G', eg, R'⟩ := R.freezeL h
  exact ⟨E, G', R', q⟩
theorem de_lenOwl (n : Nat) (hm : X.mg "len" = none) (h : ρ[n]? = some (.owl dss)) (hg : Gl X "len" := by rfl) (hN : X.N[n]? = some x := by rfl) (hv : Vis X.env.scope x := by first | exact Or.inl rfl | exact Or.inr (Or.inl rfl)) (hd : (x == ("__debug__" : Str)) = false := by decide) (hcd : (x == ("__classdict__" : Str)) = false := by decide)
    (he : starEach [.Name x p2] X.env = (false, eval (.Name x p2) X.env) :: starEach [] X.env := by rfl) : DE X (.Call (.Name "len" p) [.Name x p2] [] pos) ρ (.int (dss.length : Int)) :=
  PE.imp (pe_callB call_len_seq hg hm PySem.boot_len (pa_cons (pv n hN (hv.elim .inl fun z => .inr z) hd hcd) pa_nil he) (by decide) (by decide) he rfl) fun σ H Q ⟨E, G, R, k⟩ => by
    obtain ⟨o, fi, h1, ⟨l, qs, rfl, h2, h3, h4, r⟩, _, _⟩ := R.wr h
    refine ⟨_, h1, l, _, rfl, .inl (sq_of h4), ?_⟩
    have e : (qs.map V.ref).length = dss.length := by
      rw [List.length_map]
      have : ∀ {dss : List (List D)} {qs : List Addr}, Rows X.K G H dss qs → qs.length = dss.length := by
        intro dss qs r
        induction r with
        | nil => rfl
        | cons _ _ _ ih => rw [List.length_cons, List.length_cons, ih]
      exact this r
    rw [e]
    exact k _ _ _ (Ext.refl R.gh) (.int _)
theorem Rows.app {K : PySem.W.Frag} {G H : Hp} {qs' : List Addr} {dss' : List (List D)} (h : Rows K G H dss' qs') : ∀ {dss : List (List D)} {qs : List Addr}, Rows K G H dss qs → Rows K G H (dss ++ dss') (qs ++ qs')
  | [], _, .nil => h
  | _ :: _, _, .cons a b r => .cons a b (Rows.app h r)
theorem Rows.last {K : PySem.W.Frag} {G H : Hp} {l : List D} : ∀ {dss : List (List D)} {qs : List Addr}, Rows K G H (dss ++ [l]) qs → ∃ qs0 q vs, qs = qs0 ++ [q] ∧ Rows K G H dss qs0 ∧ H q = some (.lst vs) ∧ Reps K G l vs
  | [], _, .cons a b .nil => ⟨[], _, _, rfl, .nil, a, b⟩
  | _ :: _, _, .cons a b r => by
    obtain ⟨qs0, q, vs, h1, h2, h3, h4⟩ := Rows.last r
    exact ⟨_ :: qs0, q, vs, by rw [h1]; rfl, .cons a b h2, h3, h4⟩
/-- groups.append([..]) -/
theorem ds_owlApp (n : Nat) {apos : Pos} (ho : ρ[n]? = some (.owl dss)) (he : DN X e ρ es) (hz : dss.length < 90000) (k : DS X rest (ρ.set n (.owl (dss ++ [es]))) P) (hN : X.N[n]? = some x := by rfl) (hv : Vis X.env.scope x := by first | exact Or.inl rfl | exact Or.inr (Or.inl rfl)) (hd : (x == ("__debug__" : Str)) = false := by decide) (hcd : (x == ("__classdict__" : Str)) = false := by decide)
    (hb : attributeBase (.Name x p) "append" X.env (eval (.Name x p) X.env) = eval (.Name x p) X.env := by rfl)
    (hf : ((backTo pos' (starEach [e] X.env)).all (fun x => !x.1) && (backToKw pos' (keywordEach [] X.env)).all (fun x => x.1.isSome) && decide (([e] : List Expr).length + ([] : List Keyword).length + (if ([] : List Keyword).isEmpty then 0 else 1) < 30)) = true := by rfl)
    (hl : (apos.endLine == pos'.line) = true := by rfl) (hst : starEach [e] X.env = (false, eval e X.env) :: starEach [] X.env := by rfl) (hpl : (backTo pos' (starEach [] X.env)).any (·.1) = false := by rfl)
    (hs : swapsWith (.Call (.Attribute (.Name x p) "append" apos) [e] [] pos') none pos.line X.env = pure false := by rfl) : DS X (.Expr (.Call (.Attribute (.Name x p) "append" apos) [e] [] pos') pos :: rest) ρ P :=
  PSs.imp (pss_cons (ps_expr (pe_bm PySem.F.plainAttrs_list PySem.F.slot_list_append PySem.F.type_list_append mt_append (pv n hN (hv.elim .inl fun z => .inr z) hd hcd) (pa_cons he pa_nil hst) hb hf hl hst hpl) hs) k) fun Dn σ H ⟨E, G, R, k1, k2, k3, k4⟩ => by
    obtain ⟨o, fi, h1, ⟨l, qs, rfl, h2, h3, h4, r⟩, dm, w⟩ := R.wr ho
    refine ⟨_, h1, .inl ⟨rfl, _, SqL.of h4⟩, E, G, R, fun q vs G1 H1 x1 hq hgq hq1 r1 => ?_⟩
    have lq : qs.length = dss.length := by
      have : ∀ {dss : List (List D)} {qs : List Addr}, Rows X.K G H dss qs → qs.length = dss.length := by
        intro dss qs r
        induction r with
        | nil => rfl
        | cons _ _ _ ih => rw [List.length_cons, List.length_cons, ih]
      exact this r
    have ne : q ≠ l := fun z => by
      obtain ⟨_, _, u, h⟩ := dm l (h3 l List.mem_cons_self)
      rw [← z, hq] at h; cases h
    have nq : q ∉ qs := fun z => by
      obtain ⟨_, _, u, h⟩ := dm q (h3 q (List.mem_cons_of_mem _ z))
      rw [hq] at h; cases h
    have nd := List.nodup_cons.mp h2
    refine ⟨l, _, .ref q, rfl, rfl, x1.h _ _ h4, sz_lt (by rw [List.length_map, lq]; omega), E, G1, ?_, k1, k2, k3, k4⟩
    refine w G1 H1 _ (.owl (dss ++ [es])) (l :: (qs ++ [q])) x1 (fun a ha => upd_ne fun z => ha (by rw [z]; exact List.mem_cons_self)) (fun a ha => ?_) ⟨l, qs ++ [q], rfl, ?_, fun _ h => h, ?_, ?_⟩
    · rcases List.mem_cons.mp ha with z | z
      · rw [z]; exact ⟨.inl (h3 l List.mem_cons_self), _, upd_same⟩
      · rcases List.mem_append.mp z with z | z
        · have nl : a ≠ l := fun y => nd.1 (by rw [← y]; exact z)
          obtain ⟨_, _, u, hu⟩ := dm a (h3 a (List.mem_cons_of_mem _ z))
          exact ⟨.inl (h3 a (List.mem_cons_of_mem _ z)), u, by rw [upd_ne nl]; exact x1.h _ _ hu⟩
        · rw [List.mem_singleton.mp z]
          exact ⟨.inr ⟨hq, hgq⟩, _, by rw [upd_ne ne]; exact hq1⟩
    · refine List.nodup_cons.mpr ⟨fun z => ?_, List.nodup_append.mpr ⟨nd.2, by simp, fun a ha b hb => ?_⟩⟩
      · rcases List.mem_append.mp z with z | z
        · exact nd.1 z
        · exact ne (List.mem_singleton.mp z).symm
      · rw [List.mem_singleton.mp hb]
        exact fun z => nq (by rw [← z]; exact ha)
    · rw [upd_same, List.map_append]; rfl
    · refine Rows.app (.cons (by rw [upd_ne ne]; exact hq1) r1 .nil) ((r.mono x1).at (Ex.refl _) fun a ha => ?_)
      exact upd_ne fun y => nd.1 (by rw [← y]; exact ha)
/-- groups[-1].append(e) -/
theorem ds_owlLast (n : Nat) {apos spos : Pos} {l0 : List D} (ho : ρ[n]? = some (.owl (dss ++ [l0]))) (hi : DE X b ρ (.int (-1))) (he : DE X e ρ d) (hz : l0.length < 90000) (k : DS X rest (ρ.set n (.owl (dss ++ [l0 ++ [d]]))) P) (hN : X.N[n]? = some x := by rfl) (hv : Vis X.env.scope x := by first | exact Or.inl rfl | exact Or.inr (Or.inl rfl)) (hd : (x == ("__debug__" : Str)) = false := by decide) (hcd : (x == ("__classdict__" : Str)) = false := by decide)
    (hp : PlainIx b := by intro _ _; rfl)
    (hb : attributeBase (.Subscript (.Name x p) b spos) "append" X.env (eval (.Subscript (.Name x p) b spos) X.env) = eval (.Subscript (.Name x p) b spos) X.env := by rfl)
    (hf : ((backTo pos' (starEach [e] X.env)).all (fun x => !x.1) && (backToKw pos' (keywordEach [] X.env)).all (fun x => x.1.isSome) && decide (([e] : List Expr).length + ([] : List Keyword).length + (if ([] : List Keyword).isEmpty then 0 else 1) < 30)) = true := by rfl)
    (hl : (apos.endLine == pos'.line) = true := by rfl) (hst : starEach [e] X.env = (false, eval e X.env) :: starEach [] X.env := by rfl) (hpl : (backTo pos' (starEach [] X.env)).any (·.1) = false := by rfl)
    (hs : swapsWith (.Call (.Attribute (.Subscript (.Name x p) b spos) "append" apos) [e] [] pos') none pos.line X.env = pure false := by rfl) : DS X (.Expr (.Call (.Attribute (.Subscript (.Name x p) b spos) "append" apos) [e] [] pos') pos :: rest) ρ P :=
  PSs.imp (pss_cons (ps_expr (pe_bm PySem.F.plainAttrs_list PySem.F.slot_list_append PySem.F.type_list_append mt_append (pe_ix ix_list (pv n hN (hv.elim .inl fun z => .inr z) hd hcd) hi hp) (pa_cons he pa_nil hst) hb hf hl hst hpl) hs) k) fun Dn σ H ⟨E, G, R, k1, k2, k3, k4⟩ => by
    obtain ⟨o, fi, h1, ⟨l, qs, rfl, h2, h3, h4, r⟩, dm, w⟩ := R.wr ho
    obtain ⟨qs0, q, vs, rfl, r0, hq, rq⟩ := Rows.last r
    refine ⟨_, h1, E, G, R, fun iv G1 H1 x1 r1 => ?_⟩
    cases r1
    refine ⟨l, _, -1, .ref q, rfl, rfl, sq_of (x1.h _ _ h4), by rw [List.map_append]; exact atI_last _ _, .inl ⟨rfl, _, SqL.of (x1.h _ _ hq)⟩, E, G1, R.mono x1, fun v G2 H2 x2 r2 => ?_⟩
    have x := x1.trans x2
    have nd := List.nodup_cons.mp h2
    have nd2 := List.nodup_append.mp nd.2
    have mq : q ∈ qs0 ++ [q] := List.mem_append_right _ (List.mem_singleton.mpr rfl)
    have nql : l ≠ q := fun z => nd.1 (by rw [z]; exact mq)
    refine ⟨q, vs, v, rfl, rfl, x.h _ _ hq, sz_lt (by rw [← rq.length]; omega), E, G2, ?_, k1, k2, k3, k4⟩
    refine w G2 H2 _ (.owl (dss ++ [l0 ++ [d]])) (l :: (qs0 ++ [q])) x (fun a ha => upd_ne fun z => ha (by rw [z]; exact List.mem_cons_of_mem _ mq)) (fun a ha => ?_) ⟨l, qs0 ++ [q], rfl, h2, fun _ h => h, ?_, ?_⟩
    · obtain ⟨_, _, u, hu⟩ := dm a (h3 a ha)
      refine ⟨.inl (h3 a ha), ?_⟩
      by_cases ea : a = q
      · exact ⟨_, by rw [ea]; exact upd_same⟩
      · exact ⟨u, by rw [upd_ne ea]; exact x.h _ _ hu⟩
    · rw [upd_ne nql]; exact x.h _ _ h4
    · refine Rows.app (.cons upd_same ((rq.mono x.g).append (.cons r2 .nil)) .nil) ((r0.mono x).at (Ex.refl _) fun a ha => ?_)
      exact upd_ne fun y => nd2.2.2 a ha q (List.mem_singleton.mpr rfl) y
/-! ### instances -/
variable {C q : Addr} {fs : List (Str × D)}
theorem de_fldO (n : Nat) (ho : ρ[n]? = some (.owi q C fs)) (cl : Cls X.K C) (na : NoAttr X.K C f) (hf : fs.lookup f = some d) (hN : X.N[n]? = some x := by rfl) (hv : Vis X.env.scope x := by first | exact Or.inl rfl | exact Or.inr (Or.inl rfl) | exact Or.inr (Or.inr rfl)) (hd : (x == ("__debug__" : Str)) = false := by decide) (hcd : (x == ("__classdict__" : Str)) = false := by decide)
    (hb : attributeBase (.Name x p) f X.env (eval (.Name x p) X.env) = eval (.Name x p) X.env := by rfl) : DE X (.Attribute (.Name x p) f pos) ρ d := PE.imp (pe_fld (pv n hN hv hd hcd) hb) fun σ H Q ⟨E, G, R, k⟩ => by
  obtain ⟨o, fi, h1, ⟨dx, fvs, rfl, h2, h3, r⟩, _, _⟩ := R.wr ho
  obtain ⟨v, h4, r4⟩ := r.get hf
  exact ⟨_, h1, q, C, dx, fvs, v, rfl, h3, cl, na, h4, k v G H (Ext.refl R.gh) r4⟩
theorem putF_new {K : PySem.W.Frag} {G : Hp} {v : V} : ∀ {fs : List (Str × D)} {fvs : List (Str × V)}, RepF K G fs fvs → Rep K G d v → fs.lookup f = none → RepF K G (fs ++ [(f, d)]) (putF f v fvs)
  | [], _, .nil, r, _ => .cons r .nil
  | (g, e) :: fs, _, .cons r0 rs, r, h => by
    rw [List.lookup_cons] at h
    cases q : f == g with
    | true => rw [q] at h; cases h
    | false =>
      rw [q] at h
      have ne : ¬ g = f := fun z => by rw [z, beq_self_eq_true] at q; cases q
      show RepF K G _ (if g = f then _ else _)
      rw [if_neg ne]
      exact .cons r0 (putF_new rs r h)
/-- self.f = e, f new -/
theorem ds_fld (n : Nat) (ho : ρ[n]? = some (.owi q C fs)) (he : DE X e ρ d) (cl : Cls X.K C) (na : NoAttr X.K C f) (hl : fs.lookup f = none) (hz : fs.length < 900) (k : DS X rest (ρ.set n (.owi q C (fs ++ [(f, d)]))) P) (hN : X.N[n]? = some x := by rfl) (hv : Vis X.env.scope x := by first | exact Or.inl rfl | exact Or.inr (Or.inl rfl)) (hd : (x == ("__debug__" : Str)) = false := by decide) (hcd : (x == ("__classdict__" : Str)) = false := by decide)
    (hs : swapsWith e (some (.Attribute (.Name x p) f pos')) pos.line X.env = pure false := by rfl) : DS X (.Assign [.Attribute (.Name x p) f pos'] e pos :: rest) ρ P :=
  PSs.imp (pss_cons (ps_fld (pv n hN (hv.elim .inl fun z => .inr z) hd hcd) he hs) k) fun Dn σ H ⟨E, G, R, k1, k2, k3, k4⟩ => ⟨E, G, R, fun v G1 H1 x1 r1 => by
    obtain ⟨o, fi, h1, ⟨dx, fvs, rfl, h2, h3, r⟩, dm, w⟩ := (R.mono x1).wr ho
    refine ⟨_, h1, q, C, dx, fvs, rfl, h3, cl, na, by rw [← r.length]; omega, E, G1, w G1 H1 _ (.owi q C (fs ++ [(f, d)])) [q] (Ext.refl (R.mono x1).gh) (fun a ha => upd_ne fun z => ha (by rw [z]; exact List.mem_singleton.mpr rfl)) (fun a ha => ?_) ⟨dx, _, rfl, List.mem_singleton.mpr rfl, upd_same, putF_new r r1 hl⟩, k1, k2, k3, k4⟩
    rw [List.mem_singleton.mp ha]
    exact ⟨.inl h2, _, upd_same⟩⟩
/-- an initializer's promise -/
def spI (F : PySem.W.Frag → List D → List (Str × D) → Prop) (C : Addr) (K : PySem.W.Frag) : Sp := fun vs H Q _ => ∃ G H0 x dx ws ds fs, vs = V.ref x :: ws ∧ Ext G H0 G H ∧ H0 x = none ∧ G x = none ∧ H x = some (.ins C dx []) ∧ Reps K G ds ws ∧ F K ds fs ∧
  ∀ G' H' fvs dx', Ext G H0 G' H' → G' x = none → H' x = some (.ins C dx' fvs) → RepF K G' fs fvs → Q .non H'
theorem dfnI {Pr : Program} {w : World} {K : PySem.W.Frag} {mg : Str → Option Value} {base : Heap} {x qual : Str} {st : Stmt} {fa : Addr} {fd : FuncData} {N ps : List Str} {k : Nat} {F : PySem.W.Frag → List D → List (Str × D) → Prop} (U : Fun K x qual st fa fd) (S : FnScope N ps (defScope st)) (hl : ∀ ds fs, F K ds fs → ds.length + 1 = ps.length) (hN : 0 < N.length)
    (hb : ∀ (cdv : Value) (A : Around) (outer : List PySem.Env) (s : Shared) (H : Hp) (E : XK) (q : Addr) (ds : List D) (fs : List (Str × D)), Room k (A.deeper (envOfC qual (defScope st) s.heap.objs.size fa cdv)) → F K ds fs →
      DS (cxOf CX0 Pr w K mg base N qual (defScope st) fa cdv A outer s H E).nox (defBody st) (.owi q C [] :: (ds.map Cell.fro ++ List.replicate (N.length - (ds.length + 1)) .unk)) { nx := fun ρ' => ρ'[0]? = some (.owi q C fs), rt := fun _ => False }) :
    FnOk Pr w K mg base CX0 (k + 1) fa fd ps (spI F C K) := by
  refine U.ok S (fun vs H Q E h => ?_) (fun cdv A outer s H vs Q E hr h => ?_)
  · obtain ⟨G, H0, q, dx, ws, ds, fs, rfl, e, _, _, _, r, hf, _⟩ := h
    rw [List.length_cons, ← r.length, hl ds fs hf]
  · obtain ⟨G, H0, q, dx, ws, ds, fs, rfl, e, h1, h2, h3, r, hf, k⟩ := h
    refine ⟨_, hb cdv A outer s H E q ds fs hr hf, ⟨G, H0⟩, G, ⟨e, ?_, fun i => if i = 0 then [q] else [], ⟨fun i c o h4 h5 => ?_, fun i a h => ?_, fun i j a h4 h5 => ?_⟩⟩, fun σ' G' H' ρ' R' hq => ?_, fun _ _ _ _ _ _ z => z.elim, fun _ _ _ _ _ z => z.elim, fun _ _ _ _ _ z => z.elim⟩
    · unfold L2.start
      rw [List.length_append, List.length_map, List.length_replicate, List.length_cons, List.length_cons, List.length_append, List.length_map, List.length_replicate, r.length]; omega
    · unfold L2.start at h5
      rw [List.map_cons, List.cons_append] at h5
      cases i with
      | zero =>
        rw [List.getElem?_cons_zero] at h4 h5
        cases h4; cases h5
        exact ⟨dx, [], rfl, List.mem_singleton.mpr rfl, h3, .nil⟩
      | succ i =>
        rw [List.getElem?_cons_succ] at h4 h5
        by_cases hi : i < ds.length
        · rw [List.getElem?_append_left (by rw [List.length_map]; exact hi), List.getElem?_map, List.getElem?_eq_getElem hi] at h4
          cases h4
          obtain ⟨v, hv, rv⟩ := r.get (List.getElem?_eq_getElem hi)
          rw [List.getElem?_append_left (by rw [List.length_map, ← r.length]; exact hi), List.getElem?_map, hv] at h5
          cases h5
          exact ⟨v, rfl, rv⟩
        · rw [List.getElem?_append_right (by rw [List.length_map]; omega), List.getElem?_replicate] at h4
          split at h4
          · cases h4; trivial
          · cases h4
    · have h : a ∈ (if i = 0 then [q] else []) := h
      split at h
      · rw [List.mem_singleton.mp h]; exact ⟨h1, h2, _, h3⟩
      · cases h
    · have h4 : a ∈ (if i = 0 then [q] else []) := h4
      have h5 : a ∈ (if j = 0 then [q] else []) := h5
      split at h4
      · split at h5
        · omega
        · cases h5
      · cases h4
    · obtain ⟨o, fi, g1, ⟨dx', fvs, rfl, g2, g3, rr⟩, dm, _⟩ := R'.wr hq
      exact k G' H' fvs dx' R'.ext (dm q g2).2.1 g3 rr
/-- a class of the module, as its callers make it -/
structure Dk (Pr : Program) (w : World) (K : PySem.W.Frag) (mg : Str → Option Value) (base : Heap) (x : Str) (C : Addr) (k : Nat) (ps : List Str) (F : PySem.W.Frag → List D → List (Str × D) → Prop) : Prop where
  ex : ∃ fa fd, Mk K C fa ∧ FnOk Pr w K mg base CX0 k fa fd ps (spI F C K) ∧ mg x = some (.ref C) ∧ Binds K fd ps []
theorem de_make {F : PySem.W.Frag → List D → List (Str × D) → Prop} {ps : List Str} {j : Nat} (h : Dk X.prog X.w X.K X.mg X.base x C k ps F) (hr : Room j X.A) (ha : DA X (e :: es') ρ ds) (hf : F X.K ds fs) (hk : k + 1 ≤ j := by decide) (hg : Gl X x := by rfl)
    (hdb : (x == ("__debug__" : Str)) = false := by decide) (he : starEach (e :: es') X.env = (false, eval e X.env) :: starEach es' X.env := by rfl) (hpl : (backTo pos (starEach es' X.env)).any (·.1) = false := by rfl) : DE X (.Call (.Name x p) (e :: es') [] pos) ρ (.ins C fs) := by
  obtain ⟨fa, fd, h1, h2, h3, h4⟩ := h.ex
  refine PE.imp (pe_make h1 h2 (hr.mono hk) hg h3 h4 .nil pass0 ha hdb he hpl) fun σ H Q ⟨E, G, R, k⟩ => ⟨E, G, R, fun vs G1 H1 x1 r1 q dx hq hdx hne => ?_⟩
  rw [List.append_nil]
  have gq : G1 q = none := fresh_back x1.gh hq
  have e1 : Ext G1 H1 G1 (upd (upd H1 dx (.own q)) q (.ins C dx [])) := (Ext.addO x1.gh hdx).trans (Ext.addO (Ext.addO x1.gh hdx).gh (by rw [upd_ne hne.symm]; exact hq))
  refine ⟨G1, H1, q, dx, vs, ds, fs, rfl, e1, hq, gq, upd_same, r1, hf, fun G2 H2 fvs dx' x2 g2 hq2 r2 => ⟨rfl, ?_⟩⟩
  exact k _ _ _ (x1.trans (x2.join hq hq2 g2)) (.ins upd_same (r2.mono (Ex.new g2)))
end
end DL
set_option maxRecDepth 100000
set_option maxHeartbeats 2000000
/-! DLm: values of which only a property is known. -/
namespace DL
open PySem PySem.Spec PyProof.Rows L2 Evl
def tDX (K : PySem.W.Frag) (ρ : Env) (S : D → Prop) : TE := fun σ H Q => ∃ E G, RS K E G H σ ρ ∧ ∀ d v G' H', S d → Ext G H G' H' → Rep K G' d v → Q v H'
abbrev DX (X : Cx) (e : Expr) (ρ : Env) (S : D → Prop) : Prop := PE X e (tDX X.K ρ S)
/-- a promise: from such data to a datum with a property -/
def spX (F : PySem.W.Frag → List D → (D → Prop) → Prop) (K : PySem.W.Frag) : Sp := fun vs H Q _ => ∃ G ds S, Ex G H ∧ Reps K G ds vs ∧ F K ds S ∧ ∀ d v G' H', S d → Ext G H G' H' → Rep K G' d v → Q v H'
theorem dfnX {P : Program} {w : World} {K : PySem.W.Frag} {mg : Str → Option Value} {base : Heap} {x qual : Str} {st : Stmt} {fa : Addr} {fd : FuncData} {N ps : List Str} {k : Nat} {F : PySem.W.Frag → List D → (D → Prop) → Prop} (U : Fun K x qual st fa fd) (S : FnScope N ps (defScope st)) (hl : ∀ ds S, F K ds S → ds.length = ps.length)
    (hb : ∀ (cdv : Value) (A : Around) (outer : List PySem.Env) (s : Shared) (H : Hp) (E : XK) (ds : List D) (T : D → Prop), Room k (A.deeper (envOfC qual (defScope st) s.heap.objs.size fa cdv)) → F K ds T →
      DS (cxOf CX0 P w K mg base N qual (defScope st) fa cdv A outer s H E).nox (defBody st) (ini N ds) { nx := fun _ => T .non, rt := T }) :
    FnOk P w K mg base CX0 (k + 1) fa fd ps (spX F K) := by
  refine U.ok S (fun vs H Q E h => ?_) (fun cdv A outer s H vs Q E hr h => ?_)
  · obtain ⟨G, ds, T, e, r, hf, _⟩ := h
    rw [← r.length, hl ds T hf]
  · obtain ⟨G, ds, T, e, r, hf, k⟩ := h
    exact ⟨_, hb cdv A outer s H E ds T hr hf, ⟨G, H⟩, G, rs_start e r, fun σ' G' H' ρ' R' q => k .non .non G' H' q R'.ext .non, fun v G' H' d' x r' q => k d' v G' H' q x r', fun _ _ _ _ _ z => z.elim, fun _ _ _ _ _ z => z.elim⟩
structure Dx (P : Program) (w : World) (K : PySem.W.Frag) (mg : Str → Option Value) (base : Heap) (x : Str) (k : Nat) (ps : List Str) (F : PySem.W.Frag → List D → (D → Prop) → Prop) : Prop where
  ex : ∃ fa fd, FnOk P w K mg base CX0 k fa fd ps (spX F K) ∧ mg x = some (.ref fa) ∧ PySem.W.keepIn K (.ref fa) = true ∧ Binds K fd ps []
section
variable {X : Cx} {ρ : Env} {P : Post} {e a b c o tg : Expr} {es' : List Expr} {rest : List Stmt} {d da db dc : D} {ds es : List D} {pos pos' p : Pos} {j k n : Nat} {x : Str} {S T : D → Prop} {ps : List Str} {F : PySem.W.Frag → List D → (D → Prop) → Prop}
theorem dx_callD (h : Dx X.prog X.w X.K X.mg X.base x k ps F) (hr : Room j X.A) (ha : DA X (e :: es') ρ ds) (hf : F X.K ds S) (hk : k ≤ j := by decide) (hg : Gl X x := by rfl)
    (hdb : (x == ("__debug__" : Str)) = false := by decide) (he : starEach (e :: es') X.env = (false, eval e X.env) :: starEach es' X.env := by rfl) (hpl : (backTo pos (starEach es' X.env)).any (·.1) = false := by rfl) : DX X (.Call (.Name x p) (e :: es') [] pos) ρ S := by
  obtain ⟨fa, fd, h1, h2, h3, h4⟩ := h.ex
  exact PE.imp (pe_call h1 (hr.mono hk) hg h2 h3 h4 .nil pass0 ha hdb he hpl) fun σ H Q ⟨E, G, R, k⟩ => ⟨E, G, R, fun vs G1 H1 x1 r1 => by
    show spX F X.K (vs ++ []) H1 Q E0
    rw [List.append_nil]
    exact ⟨G1, ds, S, x1.gh, r1, hf, fun d v G' H' q x r => k d v G' H' q (x1.trans x) r⟩⟩
theorem dx_e (h : DE X e ρ d) : DX X e ρ (fun z => z = d) := PE.imp h fun σ H Q ⟨E, G, R, k⟩ => ⟨E, G, R, fun v G' H' x r => k d v G' H' rfl x r⟩
theorem dx_mono (h : DX X e ρ S) (q : ∀ d, S d → T d) : DX X e ρ T := PE.imp h fun σ H Q ⟨E, G, R, k⟩ => ⟨E, G, R, fun d v G' H' s x r => k d v G' H' (q d s) x r⟩
/-- a value of which only a property is known, to a name -/
theorem ds_asgX (n : Nat) (hN : X.N.Nodup) (he : DX X e ρ S) (k : ∀ d, S d → DS X rest (ρ.set n (.fro d)) P) (hi : X.N[n]? = some x := by rfl) (hx : Loc X.env.scope x := by first | exact Or.inl rfl | exact Or.inr rfl) (hs : swapsWith e (some (.Name x pos')) pos.line X.env = pure false := by rfl) (hf : X.fn x = true ∨ X.env.scope.names.lookup x = some .local := by first | exact .inl rfl | exact .inr rfl) :
    DS X (.Assign [.Name x pos'] e pos :: rest) ρ P := by
  have bb : PSs X rest (fun Dn σ H => ∃ d, S d ∧ tS X.K (ρ.set n (.fro d)) P Dn σ H) := pss_any fun Dn σ H ⟨d, hs, h⟩ => ⟨_, k d hs, h⟩
  exact PSs.imp (pss_cons (ps_set hN hi hx he hs hf) bb) fun Dn σ H ⟨E, G, R, k1, k2, k3, k4⟩ => ⟨E, G, R, fun d v G1 H1 s x1 r1 => ⟨d, s, E, G1, (R.mono x1).setFro r1, k1, k2, k3, k4⟩⟩
theorem ds_retX (he : DX X e ρ S) (h : ∀ d, S d → P.rt d) : DS X (.Return (some e) pos :: rest) ρ P := PSs.imp (pss_cons (u := tNever) (ps_ret he) pss_never) fun Dn σ H ⟨E, G, R, k1, k2, k3, k4⟩ =>
  ⟨E, G, R, fun d v G1 H1 s x1 r1 => k2 v G1 H1 d (R.ext.trans x1) r1 (h d s)⟩
/-- [a, b], of b only a property known -/
theorem dx_lst2 (ha : DE X a ρ da) (hb : DX X b ρ S) (hs : starEach [a, b] X.env = (false, eval a X.env) :: starEach [b] X.env := by rfl) (hs2 : starEach [b] X.env = (false, eval b X.env) :: starEach [] X.env := by rfl) : DX X (.List [a, b] pos) ρ (fun z => ∃ d, S d ∧ z = .lst [da, d]) :=
  PE.imp (pe_lst (pa_cons ha (pa_cons hb pa_nil hs2) hs)) fun σ H Q ⟨E, G, R, k⟩ => ⟨E, G, R, fun v G1 H1 x1 r1 => ⟨E, G1, R.mono x1, fun d w G2 H2 s x2 r2 => by
    refine ⟨sz_of (show 2 ≤ 100000 by decide), fun p hp => ?_⟩
    have x := x1.trans x2
    exact k (.lst [da, d]) (.ref p) _ _ ⟨d, s, rfl⟩ (x.trans (Ext.add x.gh hp)) (.lst upd_same (.cons ((r1.mono x2.g).mono (Ex.new (fresh_back x.gh hp))) (.cons (r2.mono (Ex.new (fresh_back x.gh hp))) .nil)))⟩⟩
/-- [f(x) for x in ..], of the values only a property known -/
theorem lcx_imp {α : Type} {K : PySem.W.Frag} {as : List α} {f : α → D} {g : α → D → Prop} {vs js : List Nat} {ρ : Env} {ρb : α → Env} {tt : TT} {te : TE} {tgt : TG} (hjs : ∀ j ∈ js, j ∈ vs) (hz : as.length ≤ 90000)
    (hg : ∀ a ∈ as, ∀ v σ H Q, tDG K js (wipeC ρ vs) (f a) (ρb a) v σ H Q → tgt v σ H Q) (ht : ∀ a ∈ as, ∀ σ H Q, tDT K (ρb a) true σ H Q → tt σ H Q) (he : ∀ a ∈ as, ∀ σ H Q, tDX K (ρb a) (g a) σ H Q → te σ H Q) :
    ∀ σ H Q, (∃ E G, RS K E G H σ ρ ∧ ∀ ds p ws G' H', ds.length = as.length → (∀ (i : Nat) a d, as[i]? = some a → ds[i]? = some d → g a d) → Ext G H G' H' → H p = none → G' p = none → H' p = some (.lst ws) → Reps K G' ds ws → Q (.ref p) H') → tLc (tDI K ρ (as.map f)) tgt tt te vs σ H Q := by
  rintro σ H Q ⟨E, G, R, k⟩
  refine ⟨E, G, R, fun J G1 H1 x1 W => fun Dl hD => ?_⟩
  rw [List.length_map] at W
  refine lc_it W (fun i H2 => ∃ G2 acc ds, Ext G1 H1 G2 H2 ∧ H2 Dl = some (.lst acc) ∧ G2 Dl = none ∧ Reps K G2 ds acc ∧ ds.length = min i as.length ∧ ∀ (j : Nat) a d, as[j]? = some a → ds[j]? = some d → g a d)
    ⟨G1, [], [], Ext.addO x1.gh hD, upd_same, fresh_back x1.gh hD, .nil, by simp, fun j a d _ h => (by simp at h)⟩ (fun i H2 _ ⟨G2, acc, ds, x2, _⟩ => x2.g.trans x2.gh) (fun i v H2 H3 hi ⟨G2, acc, ds, x2, hDl, hG2, r2, l2, g2⟩ hy => ?_) fun H2 ⟨G2, acc, ds, x2, hDl, hG2, r2, l2, g2⟩ => ?_
  · obtain ⟨d, hd, hy⟩ := hy
    have hai : as[i]? = some as[i] := List.getElem?_eq_getElem hi
    rw [List.getElem?_map, hai] at hd
    cases hd
    have ham : as[i] ∈ as := List.getElem_mem hi
    obtain ⟨G3, x3, r3⟩ := hy G2 x2.g x2.gh
    refine hg _ ham v _ _ _ ⟨E, G3, (R.mono (x1.trans (x2.trans x3))).wipe vs, r3, fun σ3 U3 w3 => ⟨by rw [w3 vs hjs, wipe_wipe], ?_⟩⟩
    have R3 := U3 _ _ _ (Ex.refl _) ((R.mono (x1.trans (x2.trans x3))).wipe vs)
    refine ht _ ham _ _ _ ⟨E, G3, R3, fun G4 H4 x4 => iteT (he _ ham _ _ _ ⟨E, G4, R3.mono x4, fun d w G5 H5 s x5 r5 => ?_⟩)⟩
    have hDl4 : H4 Dl = some (.lst acc) := x4.h _ _ (x3.h _ _ hDl)
    have hG4 : G4 Dl = none := x4.new _ _ (x3.new _ _ hG2 hDl) (x3.h _ _ hDl)
    have hD5 : G5 Dl = none := x5.new _ _ hG4 hDl4
    have l3 : ds.length = i := by rw [l2]; omega
    refine ⟨acc, x5.h _ _ hDl4, sz_lt (by rw [← r2.length, l3]; omega), G5, acc ++ [w], ds ++ [d], ((x2.trans x3).trans (x4.trans x5)).mut hD hD5, upd_same, hD5, (r2.mono (x3.g.trans (x4.g.trans x5.g))).append (.cons r5 .nil), by rw [List.length_append, l3, List.length_singleton]; omega, fun j a' d' h1 h2 => ?_⟩
    by_cases hj : j < i
    · rw [List.getElem?_append_left (by rw [l3]; exact hj)] at h2
      exact g2 j a' d' h1 h2
    · rw [List.getElem?_append_right (by rw [l3]; omega), l3] at h2
      by_cases hji : j = i
      · subst hji
        rw [Nat.sub_self, List.getElem?_cons_zero] at h2
        rw [hai] at h1
        cases h1; cases h2
        exact s
      · rw [List.getElem?_eq_none (by simp; omega)] at h2; cases h2
  · exact k ds Dl acc G2 H2 (by rw [l2]; omega) g2 (x1.trans x2) (fresh_back x1.h hD) hG2 hDl r2
theorem ds_asgLcX {α : Type} {as : List α} (n : Nat) (f : α → D) (g : α → D → Prop) {js : List Nat} {ρb : α → Env} {elt iter : Expr} {scope : Scope} {spos py pos : Pos} (own : List (Str × Nat)) (hc : X.calm = true) (hN : X.N.Nodup) (hi : DI X tg iter ρ (as.map f)) (ok : BlkOk X.N X.env.scope scope own) (hjs : ∀ j ∈ js, j ∈ own.map (·.2)) (hz : as.length ≤ 90000)
    (hg : Blk X scope fun Y => ∀ a ∈ as, DG Y tg js (wipeC ρ (own.map (·.2))) (f a) (ρb a)) (he : Blk X scope fun Y => ∀ a ∈ as, DX Y elt (ρb a) (g a)) (k : ∀ ds : List D, ds.length = as.length → (∀ (i : Nat) a d, as[i]? = some a → ds[i]? = some d → g a d) → DS X rest (ρ.set n (.own ds)) P)
    (hsw : swapsWith (.ListComp elt [⟨tg, iter, [], 0⟩] scope pos) (some (.Name x py)) spos.line X.env = pure true := by first | exact sw_true rfl rfl rfl (by decide +kernel)) (hy : X.N[n]? = some x := by rfl) (hyl : X.env.scope.names.lookup x = some .local := by rfl) (hs : ∀ x, foldedSetIterable iter X.env x = pure x := by intro _; rfl) :
    DS X (.Assign [.Name x py] (.ListComp elt [⟨tg, iter, [], 0⟩] scope pos) spos :: rest) ρ P := by
  have bb : PSs X rest (fun Dn σ H => ∃ ds : List D, ds.length = as.length ∧ (∀ (i : Nat) a d, as[i]? = some a → ds[i]? = some d → g a d) ∧ tS X.K (ρ.set n (.own ds)) P Dn σ H) := pss_any fun Dn σ H ⟨ds, h1, h2, h⟩ => ⟨_, k ds h1 h2, h⟩
  refine PSs.imp (pss_cons (ps_setLc (g := uG X.K as js (wipeC ρ (own.map (·.2))) f ρb) (tt := uT X.K as ρb (fun _ => true)) (te := fun σ H Q => ∃ a, a ∈ as ∧ tDX X.K (ρb a) (g a) σ H Q) hc hN hy hyl hsw hi ok (fun s H C cl fp => pg_any fun v σ H Q ⟨a, ha, h⟩ => ⟨_, hg s _ C cl fp a ha, h⟩) (fun s H C cl fp => pts_any fun σ H Q ⟨a, ha, h⟩ => ⟨_, dts_nil, h⟩) (fun s H C cl fp => pe_any fun σ H Q ⟨a, ha, h⟩ => ⟨_, he s _ C cl fp a ha, h⟩) hs) bb)
    fun Dn σ H ⟨E, G, R, k1, k2, k3, k4⟩ => lcx_imp (f := f) (g := g) (ρb := ρb) (tgt := uG X.K as js (wipeC ρ (own.map (fun z : Str × Nat => z.snd))) f ρb) (tt := uT X.K as ρb (fun _ => true)) (te := fun σ H Q => ∃ a, a ∈ as ∧ tDX X.K (ρb a) (g a) σ H Q) hjs hz (fun a ha _ _ _ _ h => ⟨a, ha, h⟩) (fun a ha _ _ _ h => ⟨a, ha, h⟩) (fun a ha _ _ _ h => ⟨a, ha, h⟩) σ H (fun x H1 => gName n x σ H1 fun σ H => ∃ ds : List D, ds.length = as.length ∧ (∀ (i : Nat) a d, as[i]? = some a → ds[i]? = some d → g a d) ∧ tS X.K (ρ.set n (.own ds)) P Dn σ H) ⟨E, G, R, fun ds p ws G1 H1 h1 h2 x1 h0 hg hp r1 => ⟨ds, h1, h2, E, G1, R.setOwn x1 h0 hg hp r1, k1, k2, k3, k4⟩⟩
end
end DL
set_option maxRecDepth 100000
set_option maxHeartbeats 2000000
/-! DLn: enumerate by encodings, slices by encodings, small things. -/
namespace DL
open PySem PySem.Spec PyProof.Rows L2 Evl
section
variable {X : Cx} {ρ : Env} {e a b c o tg : Expr} {d : D} {ds : List D} {pos p : Pos} {α : Type} {f : α → D} {xs : List α}
abbrev enumM (xs : List α) (f : α → D) (z : α) : List D := (List.range xs.length).map fun k : Nat => D.tup [.int (k : Int), f (xs.getD k z)]
theorem enum_eq (z : α) : enumD (xs.map f) = enumM xs f z := by
  unfold enumD enumM
  rw [List.length_map]
  refine List.map_congr_left fun k hk => ?_
  have hk := List.mem_range.mp hk
  rw [List.getD_eq_getElem?_getD, List.getD_eq_getElem?_getD, List.getElem?_map, List.getElem?_eq_getElem hk]; rfl
theorem di_enumTM {elts : List Expr} {kk : Nat} {tpos : Pos} (z : α) (hm : X.mg "enumerate" = none) (ha : DE X e ρ (.tup (xs.map f))) (hg : Gl X "enumerate" := by rfl) (hs : starEach [e] X.env = [(false, eval e X.env)] := by rfl) : DI X (.Tuple elts kk tpos) (.Call (.Name "enumerate" p) [e] [] pos) ρ (enumM xs f z) := by
  rw [← enum_eq z]
  exact di_enumT hm ha hg hs
theorem di_enumLM {elts : List Expr} {kk : Nat} {tpos : Pos} (z : α) (hm : X.mg "enumerate" = none) (ha : DE X e ρ (.lst (xs.map f))) (hg : Gl X "enumerate" := by rfl) (hs : starEach [e] X.env = [(false, eval e X.env)] := by rfl) : DI X (.Tuple elts kk tpos) (.Call (.Name "enumerate" p) [e] [] pos) ρ (enumM xs f z) := by
  rw [← enum_eq z]
  exact di_enumL hm ha hg hs
/-- slices from, up to -/
theorem cut_from (ds : List D) (i : Nat) : cutD ds (some (i : Int)) none = ds.drop i := by
  unfold cutD
  rw [HT.sIx_nat, HT.sIx_none]
  by_cases h : i ≤ ds.length
  · rw [Nat.min_eq_left h, List.take_of_length_le (by rw [List.length_drop]; exact Nat.le_refl _)]
  · rw [Nat.min_eq_right (by omega), List.drop_length, List.take_nil, List.drop_of_length_le (by omega)]
theorem cut_to (ds : List D) (i : Nat) : cutD ds none (some (i : Int)) = ds.take i := by
  unfold cutD
  rw [HT.sIx_nat, HT.sIx_none, List.drop_zero, Nat.sub_zero]
  by_cases h : i ≤ ds.length
  · rw [Nat.min_eq_left h]
  · rw [Nat.min_eq_right (by omega), List.take_length, List.take_of_length_le (by omega)]
theorem cut_mid (ds : List D) (i j : Nat) (h : i ≤ j) (hj : j ≤ ds.length) : cutD ds (some (i : Int)) (some (j : Int)) = (ds.take j).drop i := by
  unfold cutD
  rw [HT.sIx_nat, HT.sIx_nat, Nat.min_eq_left hj, Nat.min_eq_left (show i ≤ ds.length by omega), List.drop_take]
theorem cut_last (ds : List D) (h : 0 < ds.length) : cutD ds none (some (-1)) = ds.dropLast := by
  unfold cutD HT.sIx
  rw [List.drop_zero, List.dropLast_eq_take]
  congr 1
  simp only []
  rw [if_pos (by decide)]
  omega
variable {lo hi : Option Expr} {p2 : Pos} {i j : Int}
theorem dn_from (h0 : 0 ≤ i) (he : DLs X e ρ (xs.map f)) (hl : DE X a ρ (.int i)) : DN X (.Subscript e (.Slice (some a) none none p2) pos) ρ ((xs.drop i.toNat).map f) := by
  have := dn_slice (pos := pos) (p2 := p2) he (do_some hl) do_none
  rw [← Int.toNat_of_nonneg h0, cut_from, ← List.map_drop] at this
  exact this
theorem dn_to (h0 : 0 ≤ i) (he : DLs X e ρ (xs.map f)) (hl : DE X a ρ (.int i)) : DN X (.Subscript e (.Slice none (some a) none p2) pos) ρ ((xs.take i.toNat).map f) := by
  have := dn_slice (pos := pos) (p2 := p2) he do_none (do_some hl)
  rw [← Int.toNat_of_nonneg h0, cut_to, ← List.map_take] at this
  exact this
theorem dn_mid (h0 : 0 ≤ i) (h1 : i ≤ j) (h2 : j ≤ xs.length) (he : DLs X e ρ (xs.map f)) (hl : DE X a ρ (.int i)) (hh : DE X b ρ (.int j)) : DN X (.Subscript e (.Slice (some a) (some b) none p2) pos) ρ (((xs.take j.toNat).drop i.toNat).map f) := by
  have := dn_slice (pos := pos) (p2 := p2) he (do_some hl) (do_some hh)
  rw [← Int.toNat_of_nonneg h0, ← Int.toNat_of_nonneg (show 0 ≤ j by omega), cut_mid _ _ _ (by omega) (by rw [List.length_map]; omega), ← List.map_take, ← List.map_drop] at this
  exact this
theorem de_fromT (h0 : 0 ≤ i) (he : DE X e ρ (.tup (xs.map f))) (hl : DE X a ρ (.int i)) : DE X (.Subscript e (.Slice (some a) none none p2) pos) ρ (.tup ((xs.drop i.toNat).map f)) := by
  have := de_slT (pos := pos) (p2 := p2) he (do_some hl) do_none
  rw [← Int.toNat_of_nonneg h0, cut_from, ← List.map_drop] at this
  exact this
theorem de_fromF (h0 : 0 ≤ i) (he : DE X e ρ (.tupf (xs.map f))) (hl : DE X a ρ (.int i)) : DE X (.Subscript e (.Slice (some a) none none p2) pos) ρ (.tupf ((xs.drop i.toNat).map f)) := by
  have := de_slF (pos := pos) (p2 := p2) he (do_some hl) do_none
  rw [← Int.toNat_of_nonneg h0, cut_from, ← List.map_drop] at this
  exact this
theorem de_toF (h0 : 0 ≤ i) (he : DE X e ρ (.tupf (xs.map f))) (hl : DE X a ρ (.int i)) : DE X (.Subscript e (.Slice none (some a) none p2) pos) ρ (.tupf ((xs.take i.toNat).map f)) := by
  have := de_slF (pos := pos) (p2 := p2) he do_none (do_some hl)
  rw [← Int.toNat_of_nonneg h0, cut_to, ← List.map_take] at this
  exact this
theorem de_lastT (h0 : 0 < xs.length) (he : DE X e ρ (.tup (xs.map f))) (hl : DE X a ρ (.int (-1))) : DE X (.Subscript e (.Slice none (some a) none p2) pos) ρ (.tup (xs.dropLast.map f)) := by
  have := de_slT (pos := pos) (p2 := p2) he do_none (do_some hl)
  rw [cut_last _ (by rw [List.length_map]; exact h0), ← List.map_dropLast] at this
  exact this
/-- all but the last: its object is known -/
theorem de_lastN (h0 : 0 < xs.length) (he : DE X e ρ (.tup (xs.map f))) (hl : DE X a ρ (.int (-1))) : DE X (.Subscript e (.Slice none (some a) none p2) pos) ρ (.tupf (xs.dropLast.map f)) := by
  have := de_slN (pos := pos) (p2 := p2) he do_none (do_some hl) (by
    rintro ⟨_, h⟩
    unfold HT.sIx at h
    rw [List.length_map] at h
    simp only [] at h
    rw [if_pos (by decide)] at h
    omega)
  rw [cut_last _ (by rw [List.length_map]; exact h0), ← List.map_dropLast] at this
  exact this
end
end DL
set_option maxRecDepth 100000
set_option maxHeartbeats 2000000
/-! DLo: ranges as values. -/
namespace DL
open PySem PySem.Spec PyProof.Rows L2 Evl
theorem cr_range1 {X : Cx} : CallR X (.type "range") (fun vs H Q => ∃ j, vs = [V.int j] ∧ ∀ p, H p = none → Q (.ref p) (upd H p (.rng 0 j))) := by
  rintro pins s σ H vs us Q I r ⟨j, rfl, q⟩
  obtain ⟨u1, rfl, t, rfl⟩ := vals1 r
  refine call_range_1 ⟨.ref s.heap.objs.size, upd H s.heap.objs.size (.rng 0 j), I.laid (t' := s.toks + 1 + 1) (fun b o e => Heap.get?_push_of_some _ e) (Nat.le_refl _) ?_, rfl, q _ (I.hok.fresh (Nat.le_refl _))⟩
  exact ⟨_, _, _, Heap.get?_push_size _ rfl⟩
def iRngV (tl : TE) : TI := fun σ H R => tl σ H fun x H1 => ∃ a lo hi, x = .ref a ∧ H1 a = some (.rng lo hi) ∧ (-(2 ^ 62) ≤ lo ∧ lo < 2 ^ 62 ∧ -(2 ^ 62) ≤ hi ∧ hi < 2 ^ 62) ∧ R (Itr lo (hi - lo).toNat) H1
theorem pi_rngV {X : Cx} {tg l : Expr} {tl : TE} (hl : PE X l tl) : PI X tg l (iRngV tl) := by
  refine ⟨fun pins s σ H R I h => thn (hl.run pins s σ H _ I h) fun v s1 ⟨x, H1, I1, r1, a, lo, hi, ex, ha, ⟨h1, h2, h3, h4⟩, q⟩ => ?_⟩
  subst ex
  obtain rfl : v = Value.ref a := r1
  obtain ⟨t, u, k, ho⟩ := I1.hok a _ ha
  refine wpAny_pyIter_range (show IsRange s1.heap a lo hi 1 t u k from ho) (small_one h1 h2 h3 h4) ?_
  refine ⟨s1.heap.objs.size, [s1.heap.objs.size], _, _, H1, rfl, I1.kept (t' := s1.toks) fun b o e => Heap.get?_push_of_some _ e, turn_range _ lo (hi - lo).toNat, ?_, fun b hb => ?_, q⟩
  · have e1 : lo + ((0 : Nat) : Int) * 1 = lo := by simp
    have e2 : (((hi - lo).toNat : Nat) : Int) - ((0 : Nat) : Int) = Builtin.Range.rangeSize lo hi 1 := by rw [rangeSize_one]; split <;> omega
    show IsRangeIter _ _ (lo + ((0 : Nat) : Int) * 1) ((((hi - lo).toNat : Nat) : Int) - ((0 : Nat) : Int)) 1
    rw [e1, e2]
    exact Heap.get?_push_size _ rfl
  · rw [List.mem_singleton.mp hb]
    exact I1.fpOk (Nat.le_refl _) (I1.hok.fresh (Nat.le_refl _))
section
variable {X : Cx} {ρ : Env} {e a b c o tg : Expr} {d : D} {ds : List D} {pos p : Pos} {i j : Int}
theorem de_rng (hm : X.mg "range" = none) (ha : DE X e ρ (.int j)) (hg : Gl X "range" := by rfl) (hv : bootBuiltins "range" = some (.type "range") := by decide +kernel) (he : starEach [e] X.env = (false, eval e X.env) :: starEach [] X.env := by rfl) : DE X (.Call (.Name "range" p) [e] [] pos) ρ (.rng 0 j) := by
  refine de_callTy cr_range1 hm hv (da_cons ha da_nil he) (fun vs G H Q ex r k => ?_) hg (by decide) (by decide) he rfl
  cases r with
  | cons r1 r2 =>
    cases r2; cases r1
    exact ⟨j, rfl, fun p hp => k _ _ _ (Ext.add ex hp) (.rng upd_same)⟩
theorem di_rng {n : Nat} (h : DE X e ρ (.rng 0 (n : Int))) (hn : n ≤ 90000) : DI X tg e ρ ((List.range n).map fun k : Nat => D.int (k : Int)) := PI.imp (pi_rngV h) fun σ H R ⟨E, G, S, k⟩ => ⟨E, G, S, fun v G1 H1 x1 r1 => by
  cases r1 with
  | rng h1 =>
    refine ⟨_, 0, n, rfl, x1.gh _ _ h1, by omega, ?_⟩
    have e1 : ((n : Int) - 0).toNat = n := by omega
    have e2 : rngD 0 n = (List.range n).map fun k : Nat => D.int (k : Int) := List.map_congr_left fun k _ => by rw [Int.zero_add]
    rw [e1]
    have W := walk_rngD (K := X.K) (G' := G1) (lo := 0) (n := n)
    rw [e2] at W
    exact k _ G1 H1 x1 W⟩
theorem di_rangeDn (hm : X.mg "range" = none) (ha : DE X a ρ (.int i)) (hb : DE X b ρ (.int j)) (hc : DE X c ρ (.int (-1))) (hz : 0 ≤ i ∧ i ≤ 1000 ∧ 0 ≤ j ∧ j ≤ i) (hg : Gl X "range" := by rfl) (hs : starEach [a, b, c] X.env = (false, eval a X.env) :: starEach [b, c] X.env := by rfl) (hs2 : starEach [b, c] X.env = (false, eval b X.env) :: starEach [c] X.env := by rfl) (hs3 : starEach [c] X.env = (false, eval c X.env) :: starEach [] X.env := by rfl)
    (hpl : (backTo pos (starEach [b, c] X.env)).any (·.1) = false := by rfl) : DI X tg (.Call (.Name "range" p) [a, b, c] [] pos) ρ ((List.range (i - j).toNat).map fun k : Nat => D.int (i - (k : Int))) :=
  PI.imp (pi_range3 hg hm (da_cons ha (da_cons hb (da_cons hc da_nil hs3) hs2) hs) hs hpl) fun σ H R ⟨E, G, S, k⟩ => ⟨E, G, S, fun vs G1 H1 x1 r1 => by
    cases r1 with
    | cons r1 r2 =>
      cases r2 with
      | cons r2 r3 =>
        cases r3 with
        | cons r3 r4 =>
          cases r4; cases r1; cases r2; cases r3
          refine ⟨i, j, -1, (i - j).toNat, rfl, RgC.neg (by omega) (by omega) (by omega) (by omega), k _ G1 H1 x1 ?_⟩
          rw [List.length_map, List.length_range]
          refine Walk.mono walk_rangeC (fun _ _ => trivial) fun n H2 y H3 hn _ h3 => ?_
          obtain ⟨rfl, rfl⟩ := h3
          refine ⟨.int (i - (n : Int)), by rw [List.getElem?_map, List.getElem?_range hn]; rfl, yd_same ?_⟩
          show Rep X.K G1 (D.int (i - (n : Int))) (V.int (i + (n : Int) * (-1)))
          rw [show i + ((n : Nat) : Int) * (-1) = i - (n : Int) by omega]
          exact .int _⟩
/-- a new list of which only a property is known -/
def tDNX (K : PySem.W.Frag) (ρ : Env) (S : List D → Prop) : TE := fun σ H Q => ∃ E G, RS K E G H σ ρ ∧ ∀ ds p ws G' H', S ds → Ext G H G' H' → H p = none → G' p = none → H' p = some (.lst ws) → Reps K G' ds ws → Q (.ref p) H'
theorem dnx_lc {α : Type} {as : List α} (f : α → D) (g : α → D → Prop) {js : List Nat} {ρb : α → Env} {elt iter : Expr} {scope : Scope} (own : List (Str × Nat)) (hc : X.calm = true) (hN : X.N.Nodup) (hi : DI X tg iter ρ (as.map f)) (ok : BlkOk X.N X.env.scope scope own) (hjs : ∀ j ∈ js, j ∈ own.map (·.2)) (hz : as.length ≤ 90000)
    (hg : Blk X scope fun Y => ∀ a ∈ as, DG Y tg js (wipeC ρ (own.map (·.2))) (f a) (ρb a)) (he : Blk X scope fun Y => ∀ a ∈ as, DX Y elt (ρb a) (g a)) (hs : ∀ x, foldedSetIterable iter X.env x = pure x := by intro _; rfl) :
    PE X (.ListComp elt [⟨tg, iter, [], 0⟩] scope pos) (tDNX X.K ρ fun ds => ds.length = as.length ∧ ∀ (i : Nat) a d, as[i]? = some a → ds[i]? = some d → g a d) :=
  PE.imp (pe_lc (g := uG X.K as js (wipeC ρ (own.map (·.2))) f ρb) (tt := uT X.K as ρb (fun _ => true)) (te := fun σ H Q => ∃ a, a ∈ as ∧ tDX X.K (ρb a) (g a) σ H Q) hc hN hi ok (fun s H C cl fp => pg_any fun v σ H Q ⟨a, ha, h⟩ => ⟨_, hg s _ C cl fp a ha, h⟩) (fun s H C cl fp => pts_any fun σ H Q ⟨a, ha, h⟩ => ⟨_, dts_nil, h⟩) (fun s H C cl fp => pe_any fun σ H Q ⟨a, ha, h⟩ => ⟨_, he s _ C cl fp a ha, h⟩) hs)
    fun σ H Q ⟨E, G, R, k⟩ => lcx_imp (f := f) (g := g) (ρb := ρb) (tgt := uG X.K as js (wipeC ρ (own.map (fun z : Str × Nat => z.snd))) f ρb) (tt := uT X.K as ρb (fun _ => true)) (te := fun σ H Q => ∃ a, a ∈ as ∧ tDX X.K (ρb a) (g a) σ H Q) hjs hz (fun a ha _ _ _ _ h => ⟨a, ha, h⟩) (fun a ha _ _ _ h => ⟨a, ha, h⟩) (fun a ha _ _ _ h => ⟨a, ha, h⟩) σ H Q ⟨E, G, R, fun ds p ws G1 H1 h1 h2 x1 h0 hg hp r1 => k ds p ws G1 H1 ⟨h1, h2⟩ x1 h0 hg hp r1⟩
theorem ds_asgNX {S : List D → Prop} {rest : List Stmt} {P : Post} {pos' : Pos} {x : Str} (n : Nat) (hN : X.N.Nodup) (he : PE X e (tDNX X.K ρ S)) (k : ∀ ds, S ds → DS X rest (ρ.set n (.own ds)) P) (hi : X.N[n]? = some x := by rfl) (hx : Loc X.env.scope x := by first | exact Or.inl rfl | exact Or.inr rfl) (hs : swapsWith e (some (.Name x pos')) pos.line X.env = pure false := by rfl) (hf : X.fn x = true ∨ X.env.scope.names.lookup x = some .local := by first | exact .inl rfl | exact .inr rfl) :
    DS X (.Assign [.Name x pos'] e pos :: rest) ρ P := by
  have bb : PSs X rest (fun Dn σ H => ∃ ds, S ds ∧ tS X.K (ρ.set n (.own ds)) P Dn σ H) := pss_any fun Dn σ H ⟨d, hs, h⟩ => ⟨_, k d hs, h⟩
  exact PSs.imp (pss_cons (ps_set hN hi hx he hs hf) bb) fun Dn σ H ⟨E, G, R, k1, k2, k3, k4⟩ => ⟨E, G, R, fun ds p ws G1 H1 s x1 h0 hg hp r1 => ⟨ds, s, E, G1, R.setOwn x1 h0 hg hp r1, k1, k2, k3, k4⟩⟩
end
end DL
set_option maxRecDepth 100000
set_option maxHeartbeats 4000000
namespace K6
open PySem PySem.Spec PyProof.Rows L2 Evl DL
def top (i : Nat) : Stmt := PySem.Challenge.pw_pegstreet_k60_can_stick_whole.main.body.getD i (.Pass ⟨0, 0, 0, 0⟩)
abbrev s_p__wall : Stmt := top 1
abbrev N_p__wall : List Str := ["k"]
theorem sc_p__wall : FnScope N_p__wall ["k"] (defScope s_p__wall) := ⟨rfl, rfl, rfl, by decide +kernel, rfl, by decide +kernel, by decide +kernel⟩
abbrev s_p_frozen : Stmt := top 3
abbrev N_p_frozen : List Str := ["value", "item"]
theorem sc_p_frozen : FnScope N_p_frozen ["value"] (defScope s_p_frozen) := ⟨rfl, rfl, rfl, by decide +kernel, rfl, by decide +kernel, by decide +kernel⟩
abbrev s_p_is_number : Stmt := top 4
abbrev N_p_is_number : List Str := ["value"]
theorem sc_p_is_number : FnScope N_p_is_number ["value"] (defScope s_p_is_number) := ⟨rfl, rfl, rfl, by decide +kernel, rfl, by decide +kernel, by decide +kernel⟩
abbrev s_p_ascending : Stmt := top 5
abbrev N_p_ascending : List Str := ["values"]
theorem sc_p_ascending : FnScope N_p_ascending ["values"] (defScope s_p_ascending) := ⟨rfl, rfl, rfl, by decide +kernel, rfl, by decide +kernel, by decide +kernel⟩
abbrev s_p_houses_ahead : Stmt := top 7
abbrev N_p_houses_ahead : List Str := ["street", "house", "found", "index", "here", "other"]
theorem sc_p_houses_ahead : FnScope N_p_houses_ahead ["street", "house"] (defScope s_p_houses_ahead) := ⟨rfl, rfl, rfl, by decide +kernel, rfl, by decide +kernel, by decide +kernel⟩
abbrev s_p_strong_parts : Stmt := top 8
abbrev N_p_strong_parts : List Str := ["street", "ahead", "house", "parts", "part", "other"]
theorem sc_p_strong_parts : FnScope N_p_strong_parts ["street"] (defScope s_p_strong_parts) := ⟨rfl, rfl, rfl, by decide +kernel, rfl, by decide +kernel, by decide +kernel⟩
abbrev s_p_ring_weight : Stmt := top 10
abbrev N_p_ring_weight : List Str := ["street", "ring", "house"]
theorem sc_p_ring_weight : FnScope N_p_ring_weight ["street", "ring"] (defScope s_p_ring_weight) := ⟨rfl, rfl, rfl, by decide +kernel, rfl, by decide +kernel, by decide +kernel⟩
abbrev s_p_spur : Stmt := top 11
abbrev N_p_spur : List Str := ["street", "ring", "houses", "a", "b"]
theorem sc_p_spur : FnScope N_p_spur ["street", "ring"] (defScope s_p_spur) := ⟨rfl, rfl, rfl, by decide +kernel, rfl, by decide +kernel, by decide +kernel⟩
abbrev s_p_is_bare : Stmt := top 12
abbrev N_p_is_bare : List Str := ["street", "part", "house"]
theorem sc_p_is_bare : FnScope N_p_is_bare ["street", "part"] (defScope s_p_is_bare) := ⟨rfl, rfl, rfl, by decide +kernel, rfl, by decide +kernel, by decide +kernel⟩
abbrev s_p_spurred_parts : Stmt := top 13
abbrev N_p_spurred_parts : List Str := ["street", "part"]
theorem sc_p_spurred_parts : FnScope N_p_spurred_parts ["street"] (defScope s_p_spurred_parts) := ⟨rfl, rfl, rfl, by decide +kernel, rfl, by decide +kernel, by decide +kernel⟩
abbrev s_p_lightest_walk : Stmt := top 14
abbrev N_p_lightest_walk : List Str := ["street", "start", "queue", "done", "weight", "path", "house"]
theorem sc_p_lightest_walk : FnScope N_p_lightest_walk ["street", "start"] (defScope s_p_lightest_walk) := ⟨rfl, rfl, rfl, by decide +kernel, rfl, by decide +kernel, by decide +kernel⟩
abbrev s_p_lightest_ring : Stmt := top 15
abbrev N_p_lightest_ring : List Str := ["street", "part", "weight", "ring", "house", "first"]
theorem sc_p_lightest_ring : FnScope N_p_lightest_ring ["street", "part"] (defScope s_p_lightest_ring) := ⟨rfl, rfl, rfl, by decide +kernel, rfl, by decide +kernel, by decide +kernel⟩
abbrev s_p_Sticking_init : Stmt := inClass (top 17) 0
abbrev N_p_Sticking_init : List Str := ["self", "ring", "least_spur", "count", "owners", "row"]
theorem sc_p_Sticking_init : FnScope N_p_Sticking_init ["self", "ring", "least_spur", "count", "owners", "row"] (defScope s_p_Sticking_init) := ⟨rfl, rfl, rfl, by decide +kernel, rfl, by decide +kernel, by decide +kernel⟩
abbrev s_p_can_stick : Stmt := top 18
abbrev N_p_can_stick : List Str := ["street"]
theorem sc_p_can_stick : FnScope N_p_can_stick ["street"] (defScope s_p_can_stick) := ⟨rfl, rfl, rfl, by decide +kernel, rfl, by decide +kernel, by decide +kernel⟩
abbrev s_p_turned_to : Stmt := top 19
abbrev N_p_turned_to : List Str := ["ring", "house", "first"]
theorem sc_p_turned_to : FnScope N_p_turned_to ["ring", "house"] (defScope s_p_turned_to) := ⟨rfl, rfl, rfl, by decide +kernel, rfl, by decide +kernel, by decide +kernel⟩
abbrev s_p_seat_way : Stmt := top 20
abbrev N_p_seat_way : List Str := ["ring", "index"]
theorem sc_p_seat_way : FnScope N_p_seat_way ["ring", "index"] (defScope s_p_seat_way) := ⟨rfl, rfl, rfl, by decide +kernel, rfl, by decide +kernel, by decide +kernel⟩
abbrev s_p_filling_ways : Stmt := top 21
abbrev N_p_filling_ways : List Str := ["street", "ring", "shelter", "ways", "index"]
theorem sc_p_filling_ways : FnScope N_p_filling_ways ["street", "ring", "shelter"] (defScope s_p_filling_ways) := ⟨rfl, rfl, rfl, by decide +kernel, rfl, by decide +kernel, by decide +kernel⟩
abbrev s_p_filling_row : Stmt := top 22
abbrev N_p_filling_row : List Str := ["ways", "lent", "tool", "way", "house"]
theorem sc_p_filling_row : FnScope N_p_filling_row ["ways"] (defScope s_p_filling_row) := ⟨rfl, rfl, rfl, by decide +kernel, rfl, by decide +kernel, by decide +kernel⟩
abbrev s_p_sticking : Stmt := top 23
abbrev N_p_sticking : List Str := ["street", "found", "part", "count", "ring", "way_out", "ways", "owners", "way"]
theorem sc_p_sticking : FnScope N_p_sticking ["street"] (defScope s_p_sticking) := ⟨rfl, rfl, rfl, by decide +kernel, rfl, by decide +kernel, by decide +kernel⟩
abbrev s_p_BadPegs_init : Stmt := inClass (top 26) 0
abbrev N_p_BadPegs_init : List Str := ["self", "house"]
theorem sc_p_BadPegs_init : FnScope N_p_BadPegs_init ["self", "house"] (defScope s_p_BadPegs_init) := ⟨rfl, rfl, rfl, by decide +kernel, rfl, by decide +kernel, by decide +kernel⟩
abbrev s_p_BadLane_init : Stmt := inClass (top 27) 0
abbrev N_p_BadLane_init : List Str := ["self", "index"]
theorem sc_p_BadLane_init : FnScope N_p_BadLane_init ["self", "index"] (defScope s_p_BadLane_init) := ⟨rfl, rfl, rfl, by decide +kernel, rfl, by decide +kernel, by decide +kernel⟩
abbrev s_p_check_pegs : Stmt := top 29
abbrev N_p_check_pegs : List Str := ["pegs", "house", "number"]
theorem sc_p_check_pegs : FnScope N_p_check_pegs ["pegs"] (defScope s_p_check_pegs) := ⟨rfl, rfl, rfl, by decide +kernel, rfl, by decide +kernel, by decide +kernel⟩
abbrev s_p_check_lanes : Stmt := top 30
abbrev N_p_check_lanes : List Str := ["houses", "lanes", "index", "a", "b"]
theorem sc_p_check_lanes : FnScope N_p_check_lanes ["houses", "lanes"] (defScope s_p_check_lanes) := ⟨rfl, rfl, rfl, by decide +kernel, rfl, by decide +kernel, by decide +kernel⟩
abbrev s_p_Street_init : Stmt := inClass (top 31) 1
abbrev N_p_Street_init : List Str := ["self", "pegs", "lanes", "pairs", "houses", "house", "a", "b"]
theorem sc_p_Street_init : FnScope N_p_Street_init ["self", "pegs", "lanes"] (defScope s_p_Street_init) := ⟨rfl, rfl, rfl, by decide +kernel, rfl, by decide +kernel, by decide +kernel⟩
abbrev s_p_Street_houses : Stmt := inClass (top 31) 2
abbrev N_p_Street_houses : List Str := ["self"]
theorem sc_p_Street_houses : FnScope N_p_Street_houses ["self"] (defScope s_p_Street_houses) := ⟨rfl, rfl, rfl, by decide +kernel, rfl, by decide +kernel, by decide +kernel⟩
abbrev s_p_Street_lends_to : Stmt := inClass (top 31) 3
abbrev N_p_Street_lends_to : List Str := ["self", "house"]
theorem sc_p_Street_lends_to : FnScope N_p_Street_lends_to ["self", "house"] (defScope s_p_Street_lends_to) := ⟨rfl, rfl, rfl, by decide +kernel, rfl, by decide +kernel, by decide +kernel⟩
abbrev s_p_Street_lenders_of : Stmt := inClass (top 31) 4
abbrev N_p_Street_lenders_of : List Str := ["self", "house"]
theorem sc_p_Street_lenders_of : FnScope N_p_Street_lenders_of ["self", "house"] (defScope s_p_Street_lenders_of) := ⟨rfl, rfl, rfl, by decide +kernel, rfl, by decide +kernel, by decide +kernel⟩
abbrev s_p_Street_contains : Stmt := inClass (top 31) 5
abbrev N_p_Street_contains : List Str := ["self", "pair"]
theorem sc_p_Street_contains : FnScope N_p_Street_contains ["self", "pair"] (defScope s_p_Street_contains) := ⟨rfl, rfl, rfl, by decide +kernel, rfl, by decide +kernel, by decide +kernel⟩
abbrev s_p_Street_iter : Stmt := inClass (top 31) 6
abbrev N_p_Street_iter : List Str := ["self"]
theorem sc_p_Street_iter : FnScope N_p_Street_iter ["self"] (defScope s_p_Street_iter) := ⟨rfl, rfl, rfl, by decide +kernel, rfl, by decide +kernel, by decide +kernel⟩
abbrev s_p_Street_eq : Stmt := inClass (top 31) 7
abbrev N_p_Street_eq : List Str := ["self", "other"]
theorem sc_p_Street_eq : FnScope N_p_Street_eq ["self", "other"] (defScope s_p_Street_eq) := ⟨rfl, rfl, rfl, by decide +kernel, rfl, by decide +kernel, by decide +kernel⟩
abbrev s_l_whole : Stmt := top 33
abbrev N_l_whole : List Str := ["_law_value"]
theorem sc_l_whole : FnScope N_l_whole ["_law_value"] (defScope s_l_whole) := ⟨rfl, rfl, rfl, by decide +kernel, rfl, by decide +kernel, by decide +kernel⟩
abbrev s_l_cell : Stmt := top 34
abbrev N_l_cell : List Str := ["_law_script", "_law_k", "_law_seed", "_law_cell_here"]
theorem sc_l_cell : FnScope N_l_cell ["_law_script", "_law_k"] (defScope s_l_cell) := ⟨rfl, rfl, rfl, by decide +kernel, rfl, by decide +kernel, by decide +kernel⟩
abbrev s_l_digits : Stmt := top 35
abbrev N_l_digits : List Str := ["_law_cell_here", "_law_sizes", "_law_row", "_law_rest", "_law_size", "_law_seed", "_law_k", "_law_twice"]
theorem sc_l_digits : FnScope N_l_digits ["_law_cell_here", "_law_sizes"] (defScope s_l_digits) := ⟨rfl, rfl, rfl, by decide +kernel, rfl, by decide +kernel, by decide +kernel⟩
abbrev s_l_lanes : Stmt := top 36
abbrev N_l_lanes : List Str := ["_law_order", "_law_plan", "_law_cuts", "_law_digits_here", "_law_many", "_law_density", "_law_groups", "_law_k", "_law_lanes_here", "_law_ringed", "_law_group", "_law_a", "_law_b", "_law_led", "_law_extra", "_law_drawn"]
theorem sc_l_lanes : FnScope N_l_lanes ["_law_order", "_law_plan", "_law_cuts", "_law_digits_here"] (defScope s_l_lanes) := ⟨rfl, rfl, rfl, by decide +kernel, rfl, by decide +kernel, by decide +kernel⟩
abbrev s_l_town : Stmt := top 37
abbrev N_l_town : List Str := ["_law_script", "_law_at", "_law_least", "_law_plan", "_law_digits_here", "_law_many", "_law_base", "_law_most", "_law_pegs", "_law_k", "_law_order", "_law_place"]
theorem sc_l_town : FnScope N_l_town ["_law_script", "_law_at", "_law_least"] (defScope s_l_town) := ⟨rfl, rfl, rfl, by decide +kernel, rfl, by decide +kernel, by decide +kernel⟩
abbrev s_l_twin : Stmt := top 38
abbrev N_l_twin : List Str := ["_law_script", "_law_at", "_law_least", "_law_plan", "_law_more", "_law_size", "_law_apart", "_law_short", "_law_both", "_law_many", "_law_order", "_law_k", "_law_place", "_law_pegs", "_law_second", "_law_heavy", "_law_total", "_law_house", "_law_lanes_here"]
theorem sc_l_twin : FnScope N_l_twin ["_law_script", "_law_at", "_law_least"] (defScope s_l_twin) := ⟨rfl, rfl, rfl, by decide +kernel, rfl, by decide +kernel, by decide +kernel⟩
abbrev s_l_ahead : Stmt := top 39
abbrev N_l_ahead : List Str := ["_law_street", "_law_house", "_law_found", "_law_turn", "_law_lane"]
theorem sc_l_ahead : FnScope N_l_ahead ["_law_street", "_law_house"] (defScope s_l_ahead) := ⟨rfl, rfl, rfl, by decide +kernel, rfl, by decide +kernel, by decide +kernel⟩
abbrev s_l_opened : Stmt := top 40
abbrev N_l_opened : List Str := ["_law_street", "_law_one", "_law_two", "_law_many", "_law_beyond", "_law_house", "_law_ringed", "_law_other", "_law_a", "_law_missing", "_law_b"]
theorem sc_l_opened : FnScope N_l_opened ["_law_street", "_law_one", "_law_two"] (defScope s_l_opened) := ⟨rfl, rfl, rfl, by decide +kernel, rfl, by decide +kernel, by decide +kernel⟩
abbrev s_l_build : Stmt := top 41
abbrev N_l_build : List Str := ["_law_street", "_law_lane"]
theorem sc_l_build : FnScope N_l_build ["_law_street"] (defScope s_l_build) := ⟨rfl, rfl, rfl, by decide +kernel, rfl, by decide +kernel, by decide +kernel⟩
abbrev s_l_rings : Stmt := top 42
abbrev N_l_rings : List Str := ["_law_street", "_law_paths", "_law_house", "_law_found", "_law_turn", "_law_path", "_law_longer", "_law_nexts", "_law_lane"]
theorem sc_l_rings : FnScope N_l_rings ["_law_street"] (defScope s_l_rings) := ⟨rfl, rfl, rfl, by decide +kernel, rfl, by decide +kernel, by decide +kernel⟩
abbrev s_l_spur : Stmt := top 43
abbrev N_l_spur : List Str := ["_law_street", "_law_ring", "_law_lane"]
theorem sc_l_spur : FnScope N_l_spur ["_law_street", "_law_ring"] (defScope s_l_spur) := ⟨rfl, rfl, rfl, by decide +kernel, rfl, by decide +kernel, by decide +kernel⟩
abbrev s_l_weight : Stmt := top 44
abbrev N_l_weight : List Str := ["_law_street", "_law_ring", "_law_house"]
theorem sc_l_weight : FnScope N_l_weight ["_law_street", "_law_ring"] (defScope s_l_weight) := ⟨rfl, rfl, rfl, by decide +kernel, rfl, by decide +kernel, by decide +kernel⟩
abbrev s_l_says : Stmt := top 45
abbrev N_l_says : List Str := ["_law_told_here", "_law_due"]
theorem sc_l_says : FnScope N_l_says ["_law_told_here", "_law_due"] (defScope s_l_says) := ⟨rfl, rfl, rfl, by decide +kernel, rfl, by decide +kernel, by decide +kernel⟩
abbrev s_l_houses : Stmt := top 46
abbrev N_l_houses : List Str := ["_law_value", "_law_item"]
theorem sc_l_houses : FnScope N_l_houses ["_law_value"] (defScope s_l_houses) := ⟨rfl, rfl, rfl, by decide +kernel, rfl, by decide +kernel, by decide +kernel⟩
abbrev s_l_load : Stmt := top 47
abbrev N_l_load : List Str := ["_law_ways", "_law_house", "_law_way"]
theorem sc_l_load : FnScope N_l_load ["_law_ways", "_law_house"] (defScope s_l_load) := ⟨rfl, rfl, rfl, by decide +kernel, rfl, by decide +kernel, by decide +kernel⟩
abbrev s_l_done : Stmt := top 48
abbrev N_l_done : List Str := ["_law_street", "_law_ways", "_law_deed", "_law_tool", "_law_way"]
theorem sc_l_done : FnScope N_l_done ["_law_street", "_law_ways", "_law_deed"] (defScope s_l_done) := ⟨rfl, rfl, rfl, by decide +kernel, rfl, by decide +kernel, by decide +kernel⟩
abbrev s_l_walked : Stmt := top 49
abbrev N_l_walked : List Str := ["_law_street", "_law_ways", "_law_row", "_law_most", "_law_now", "_law_deed"]
theorem sc_l_walked : FnScope N_l_walked ["_law_street", "_law_ways", "_law_row", "_law_most"] (defScope s_l_walked) := ⟨rfl, rfl, rfl, by decide +kernel, rfl, by decide +kernel, by decide +kernel⟩
abbrev s_l_is_stuck : Stmt := top 50
abbrev N_l_is_stuck : List Str := ["_law_street", "_law_ways", "_law_lot", "_law_house", "_law_hung", "_law_way"]
theorem sc_l_is_stuck : FnScope N_l_is_stuck ["_law_street", "_law_ways", "_law_lot"] (defScope s_l_is_stuck) := ⟨rfl, rfl, rfl, by decide +kernel, rfl, by decide +kernel, by decide +kernel⟩
abbrev s_l_told : Stmt := top 51
abbrev N_l_told : List Str := ["_law_street", "_law_told_here", "_law_spurred", "_law_least", "_law_ring", "_law_house", "_law_ways"]
theorem sc_l_told : FnScope N_l_told ["_law_street", "_law_told_here", "_law_spurred", "_law_least"] (defScope s_l_told) := ⟨rfl, rfl, rfl, by decide +kernel, rfl, by decide +kernel, by decide +kernel⟩
abbrev s_p_law : Stmt := top 52
abbrev N_p_law : List Str := ["_law_script", "_law_plan", "_law_street", "_law_town_here", "_law_spurred", "_law_ring", "_law_told_here", "_law_again"]
theorem sc_p_law : FnScope N_p_law ["_law_script"] (defScope s_p_law) := ⟨rfl, rfl, rfl, by decide +kernel, rfl, by decide +kernel, by decide +kernel⟩

structure Tx (mg : Str → Option Value) : Prop where
  b_len : mg "len" = none
  b_int : mg "int" = none
  b_range : mg "range" = none
  b_min : mg "min" = none
  b_max : mg "max" = none
  b_sum : mg "sum" = none
  b_all : mg "all" = none
  b_list : mg "list" = none
  b_tuple : mg "tuple" = none
  b_set : mg "set" = none
  b_sorted : mg "sorted" = none
  b_enumerate : mg "enumerate" = none
  b_isinstance : mg "isinstance" = none
  b_bool : mg "bool" = none
/-- encodings -/
abbrev eInts (ns : List Int) : D := .lst (ns.map D.int)
abbrev eTup (ns : List Int) : D := .tup (ns.map D.int)
theorem foldl_next {α β : Type} {f : β → α → β} {s : β} {as : List α} {i : Nat} {a : α} (h : as[i]? = some a) : (as.take (i + 1)).foldl f s = f ((as.take i).foldl f s) a := by
  rw [List.take_succ, h]
  show List.foldl f s (as.take i ++ [a]) = _
  rw [List.foldl_append]; rfl
end K6
set_option maxRecDepth 100000
set_option maxHeartbeats 4000000
namespace K6
open PySem PySem.Spec PyProof.Rows L2 Evl DL
/-- a street: pegs, lanes in strict order, within, no lane to itself -/
structure Town where
  pegs : List Int
  lanes : List (Int × Int)
def Town.n (t : Town) : Nat := t.pegs.length
structure Town.Ok (t : Town) : Prop where
  n1 : 1 ≤ t.n
  n7 : t.n ≤ 7
  peg : ∀ p ∈ t.pegs, 1 ≤ p ∧ p ≤ 9
  ord : t.lanes.Pairwise (fun p q => code64 p < code64 q)
  inn : ∀ l ∈ t.lanes, 0 ≤ l.1 ∧ l.1 < t.n ∧ 0 ≤ l.2 ∧ l.2 < t.n ∧ l.1 ≠ l.2
theorem Town.Ok.p64 {t : Town} (h : t.Ok) : ∀ l ∈ t.lanes, P64 l := fun l hl => by
  obtain ⟨a, b, c, d, _⟩ := h.inn l hl
  have := h.n7
  exact ⟨⟨a, by omega⟩, c, by omega⟩
/-- a strictly ascending row of pairs of small numbers is short -/
theorem codes_len : ∀ (ls : List (Int × Int)) (lo hi : Int), ls.Pairwise (fun p q => code64 p < code64 q) → (∀ l ∈ ls, lo ≤ code64 l ∧ code64 l < hi) → lo ≤ hi → (ls.length : Int) ≤ hi - lo
  | [], lo, hi, _, _, h => by simp; omega
  | l :: ls, lo, hi, hp, hb, h => by
    cases hp with
    | cons h1 h2 =>
      have b0 := hb l List.mem_cons_self
      have := codes_len ls (code64 l + 1) hi h2 (fun m hm => ⟨by have := h1 m hm; omega, (hb m (List.mem_cons_of_mem _ hm)).2⟩) (by omega)
      rw [List.length_cons]
      push_cast
      omega
/-- where each house may lend -/
def Town.to (t : Town) (h : Int) : List Int := (t.lanes.filter fun l => decide (l.1 = h)).map (·.2)
def Town.from (t : Town) (h : Int) : List Int := (t.lanes.filter fun l => decide (l.2 = h)).map (·.1)
def Town.hs (t : Town) : List Int := (List.range t.n).map fun k : Nat => (k : Int)
abbrev townF (t : Town) : List (Str × D) := [("pegs", eTup t.pegs), ("lanes", .tup (t.lanes.map encP)), ("to_lists", .tup ((List.range t.n).map fun k : Nat => eTup (t.to k))), ("from_lists", .tup ((List.range t.n).map fun k : Nat => eTup (t.from k)))]
abbrev eTown (C : Addr) (t : Town) : D := .ins C (townF t)
structure Sx (K : PySem.W.Frag) (C : Addr) : Prop where
  cl : Cls K C
  no_pegs : NoAttr K C "pegs"
  no_lanes : NoAttr K C "lanes"
  no_to : NoAttr K C "to_lists"
  no_from : NoAttr K C "from_lists"
theorem filt_all {α : Type} (xs : List α) : xs.filter (fun _ => true) = xs := List.filter_eq_self.mpr fun _ _ => rfl
section
variable {P : Program} {w : World} {K : PySem.W.Frag} {mg : Str → Option Value} {base : Heap}
/-! ### frozen -/
def Fz : Nat → D → D → Prop
  | 0, v, d => ∃ i, v = .int i ∧ d = .int i
  | n + 1, v, d => ∃ vs ds : List D, (v = .lst vs ∨ v = .tup vs ∨ v = .tupf vs) ∧ d = .tup ds ∧ vs.length = ds.length ∧ vs.length ≤ 90000 ∧ ∀ (i : Nat) a b, vs[i]? = some a → ds[i]? = some b → Fz n a b
def F_frozen (n : Nat) (K : PySem.W.Frag) (ds : List D) (d : D) : Prop := ∃ v, ds = [v] ∧ Fz n v d
theorem ok_frozen0 {fa : Addr} {fd : FuncData} (U : Fun K "frozen" "frozen" s_p_frozen fa fd) (T : Tx mg) : FnOk P w K mg base CX0 1 fa fd ["value"] (spD (F_frozen 0) K) := by
  refine dfn U sc_p_frozen (fun ds d h => ?_) fun cdv A outer s H E ds d hr h => ?_
  · obtain ⟨v, rfl, _⟩ := h; rfl
  · obtain ⟨v, rfl, i, rfl, rfl⟩ := h
    refine ds_ifR (dt_v (de_isi2 (n1 := "list") (n2 := "tuple") (b1 := false) (b2 := false) T.b_isinstance T.b_list T.b_tuple (de_v 0) rfl (by decide +kernel) (fun _ => by decide +kernel) (by decide +kernel) (by decide +kernel))) (fun h => ?_) (fun h => ?_)
    · cases h
    · exact ds_ret (de_v 0) rfl
theorem ok_frozenS {n : Nat} {fa : Addr} {fd : FuncData} (U : Fun K "frozen" "frozen" s_p_frozen fa fd) (T : Tx mg) (D0 : Df P w K mg base "frozen" (n + 1) ["value"] (F_frozen n)) : FnOk P w K mg base CX0 (n + 2) fa fd ["value"] (spD (F_frozen (n + 1)) K) := by
  refine dfn U sc_p_frozen (fun ds d h => ?_) fun cdv A outer s H E ds d hr h => ?_
  · obtain ⟨v, rfl, _⟩ := h; rfl
  · obtain ⟨v, rfl, vs, ds, hv, rfl, hl, hz, hf⟩ := h
    have e1 : (vs.zip ds).map Prod.fst = vs := List.map_fst_zip (by omega)
    have e2 : ((vs.zip ds).filter (fun _ => true)).map Prod.snd = ds := by rw [filt_all]; exact List.map_snd_zip (by omega)
    rcases hv with rfl | rfl | rfl
    · refine ds_ifR (dt_v (de_isi2 (n1 := "list") (n2 := "tuple") (b1 := true) (b2 := true) T.b_isinstance T.b_list T.b_tuple (de_v 0) rfl (by decide +kernel) (fun h => by cases h) (by decide +kernel) (by decide +kernel))) (fun h => ?_) (fun h => by cases h)
      refine ds_ret (de_tuple T.b_tuple (dn_l (dn_lc (as := vs.zip ds) Prod.fst Prod.snd (fun _ => true) [("item", 1)] rfl sc_p_frozen.nd (by rw [e1]; exact di_lst (de_v 0)) (blkOk_by (N := N_p_frozen) (sc := defScope s_p_frozen) (by decide +kernel)) (by decide) (by rw [List.length_zip]; omega) (fun _ _ _ _ _ a ha => (dg_name 1 sc_p_frozen.nd)) (fun _ _ _ _ _ a ha => dts_nil) (fun _ _ _ _ _ a ha hb => (de_callD D0 hr (da_cons (de_v 1) da_nil) ?_ (Nat.le_refl _)))))) ?_
      · obtain ⟨i, hi, e⟩ := List.getElem_of_mem ha
        rw [List.getElem_zip] at e
        exact ⟨_, rfl, by rw [← e]; exact hf i _ _ (List.getElem?_eq_getElem _) (List.getElem?_eq_getElem _)⟩
      · rw [e2]
    · refine ds_ifR (dt_v (de_isi2 (n1 := "list") (n2 := "tuple") (b1 := false) (b2 := true) T.b_isinstance T.b_list T.b_tuple (de_v 0) rfl (by decide +kernel) (fun _ => by decide +kernel) (by decide +kernel) (by decide +kernel))) (fun h => ?_) (fun h => by cases h)
      refine ds_ret (de_tuple T.b_tuple (dn_l (dn_lc (as := vs.zip ds) Prod.fst Prod.snd (fun _ => true) [("item", 1)] rfl sc_p_frozen.nd (by rw [e1]; exact di_tup (de_v 0)) (blkOk_by (N := N_p_frozen) (sc := defScope s_p_frozen) (by decide +kernel)) (by decide) (by rw [List.length_zip]; omega) (fun _ _ _ _ _ a ha => (dg_name 1 sc_p_frozen.nd)) (fun _ _ _ _ _ a ha => dts_nil) (fun _ _ _ _ _ a ha hb => (de_callD D0 hr (da_cons (de_v 1) da_nil) ?_ (Nat.le_refl _)))))) ?_
      · obtain ⟨i, hi, e⟩ := List.getElem_of_mem ha
        rw [List.getElem_zip] at e
        exact ⟨_, rfl, by rw [← e]; exact hf i _ _ (List.getElem?_eq_getElem _) (List.getElem?_eq_getElem _)⟩
      · rw [e2]
    · refine ds_ifR (dt_v (de_isi2 (n1 := "list") (n2 := "tuple") (b1 := false) (b2 := true) T.b_isinstance T.b_list T.b_tuple (de_v 0) rfl (by decide +kernel) (fun _ => by decide +kernel) (by decide +kernel) (by decide +kernel))) (fun h => ?_) (fun h => by cases h)
      refine ds_ret (de_tuple T.b_tuple (dn_l (dn_lc (as := vs.zip ds) Prod.fst Prod.snd (fun _ => true) [("item", 1)] rfl sc_p_frozen.nd (by rw [e1]; exact di_tup (de_tf (de_v 0))) (blkOk_by (N := N_p_frozen) (sc := defScope s_p_frozen) (by decide +kernel)) (by decide) (by rw [List.length_zip]; omega) (fun _ _ _ _ _ a ha => (dg_name 1 sc_p_frozen.nd)) (fun _ _ _ _ _ a ha => dts_nil) (fun _ _ _ _ _ a ha hb => (de_callD D0 hr (da_cons (de_v 1) da_nil) ?_ (Nat.le_refl _)))))) ?_
      · obtain ⟨i, hi, e⟩ := List.getElem_of_mem ha
        rw [List.getElem_zip] at e
        exact ⟨_, rfl, by rw [← e]; exact hf i _ _ (List.getElem?_eq_getElem _) (List.getElem?_eq_getElem _)⟩
      · rw [e2]
/-! ### numbers; ascending -/
def F_is_number (K : PySem.W.Frag) (ds : List D) (d : D) : Prop := ∃ i, ds = [.int i] ∧ d = .bl true
theorem ok_is_number {fa : Addr} {fd : FuncData} (U : Fun K "is_number" "is_number" s_p_is_number fa fd) (T : Tx mg) : FnOk P w K mg base CX0 1 fa fd ["value"] (spD F_is_number K) := by
  refine dfn U sc_p_is_number (fun ds d h => ?_) fun cdv A outer s H E ds d hr h => ?_
  · obtain ⟨i, rfl, _⟩ := h; rfl
  · obtain ⟨i, rfl, rfl⟩ := h
    exact ds_ret (de_and (b1 := true) (b2 := true) (de_isi (cn := "int") T.b_isinstance T.b_int (de_v 0) rfl (by decide +kernel) (by decide +kernel)) fun _ => de_one (de_eq (de_not (de_isi (b1 := false) (cn := "bool") T.b_isinstance T.b_bool (de_v 0) rfl (by decide +kernel) (by decide +kernel))) rfl)) rfl
def F_ascending (K : PySem.W.Frag) (ds : List D) (d : D) : Prop := ∃ ps : List (Int × Int), ds = [.tup (ps.map encP)] ∧ ps.length < 64 ∧ (∀ p ∈ ps, P64 p) ∧ ps.Pairwise (fun p q => code64 p < code64 q) ∧ d = .tup (ps.map encP)
theorem ok_ascending {fa : Addr} {fd : FuncData} (U : Fun K "ascending" "ascending" s_p_ascending fa fd) (T : Tx mg) : FnOk P w K mg base CX0 1 fa fd ["values"] (spD F_ascending K) := by
  refine dfn U sc_p_ascending (fun ds d h => ?_) fun cdv A outer s H E ds d hr h => ?_
  · obtain ⟨ps, rfl, _⟩ := h; rfl
  · obtain ⟨ps, rfl, h1, h2, h3, rfl⟩ := h
    exact ds_ret (de_asc rfl hr T.b_tuple T.b_sorted T.b_set (de_v 0) h1 h2 h3) rfl
/-! ### checks -/
def F_check_pegs (K : PySem.W.Frag) (ds : List D) (d : D) : Prop := ∃ ps : List Int, ds = [eTup ps] ∧ ps.length ≤ 1000 ∧ (∀ p ∈ ps, 1 ≤ p ∧ p ≤ 9) ∧ d = .non
theorem ok_check_pegs {fa : Addr} {fd : FuncData} (U : Fun K "check_pegs" "check_pegs" s_p_check_pegs fa fd) (T : Tx mg) (D1 : Df P w K mg base "is_number" 1 ["value"] F_is_number) : FnOk P w K mg base CX0 2 fa fd ["pegs"] (spD F_check_pegs K) := by
  refine dfn U sc_p_check_pegs (fun ds d h => ?_) fun cdv A outer s H E ds d hr h => ?_
  · obtain ⟨ps, rfl, _⟩ := h; rfl
  · obtain ⟨ps, rfl, hl, hp, rfl⟩ := h
    refine ds_for (as := List.range ps.length) (f := fun k : Nat => D.tup [.int (k : Int), .int (ps.getD k default)]) (js := [1, 2]) (fun i ρ => ρ = [.fro (eTup ps), .unk, .unk]) (fun _ => False) PassesOwn.never rfl (di_enumTM default T.b_enumerate (de_v 0)) rfl (fun i a ρ1 hi h => ⟨_, dg_tup2 rfl (dg_name 1 sc_p_check_pegs.nd) (dg_name 2 sc_p_check_pegs.nd), ?_⟩) (fun ρ1 h => ?_) (fun _ h => h.elim)
    · subst h
      have ha := List.mem_range.mp (List.mem_of_getElem? hi)
      have hb := hp (ps.getD a default) (by rw [List.getD_eq_getElem?_getD, List.getElem?_eq_getElem ha]; exact List.getElem_mem ha)
      refine ds_ifR (dw_t (dw_or (dt_not (dt_v (de_callD D1 hr (da_cons (de_v 2) da_nil) ⟨_, rfl, rfl⟩))) fun _ => dw_or (dt_lt (de_v 2) de_int) fun _ => dw_or1 (dt_gt (de_v 2) de_int))) (fun h => ?_) fun _ => ?_
      · rw [decide_eq_false (show ¬ ps.getD a default < 1 by omega), decide_eq_false (show ¬ 9 < ps.getD a default by omega)] at h
        cases h
      · exact ds_unk 1 (ds_unk 2 (ds_nil rfl))
    · subst h
      exact ds_nil rfl
def F_check_lanes (K : PySem.W.Frag) (ds : List D) (d : D) : Prop := ∃ (n : Int) (ls : List (Int × Int)), ds = [.int n, .tup (ls.map encP)] ∧ ls.length ≤ 1000 ∧ (∀ l ∈ ls, 0 ≤ l.1 ∧ l.1 < n ∧ 0 ≤ l.2 ∧ l.2 < n ∧ l.1 ≠ l.2) ∧ d = .non
theorem ok_check_lanes {fa : Addr} {fd : FuncData} (U : Fun K "check_lanes" "check_lanes" s_p_check_lanes fa fd) (T : Tx mg) : FnOk P w K mg base CX0 1 fa fd ["houses", "lanes"] (spD F_check_lanes K) := by
  refine dfn U sc_p_check_lanes (fun ds d h => ?_) fun cdv A outer s H E ds d hr h => ?_
  · obtain ⟨n, ls, rfl, _⟩ := h; rfl
  · obtain ⟨n, ls, rfl, hl, hp, rfl⟩ := h
    refine ds_for (as := List.range ls.length) (f := fun k : Nat => D.tup [.int (k : Int), encP (ls.getD k default)]) (js := [2, 3, 4]) (fun i ρ => ρ = [.fro (.int n), .fro (.tup (ls.map encP)), .unk, .unk, .unk]) (fun _ => False) PassesOwn.never rfl (di_enumTM default T.b_enumerate (de_v 1)) rfl
      (fun i a ρ1 hi h => ⟨_, dg_tup2 rfl (dg_name 2 sc_p_check_lanes.nd) (dg_tup2 rfl (dg_name 3 sc_p_check_lanes.nd) (dg_name 4 sc_p_check_lanes.nd)), ?_⟩) (fun ρ1 h => ?_) (fun _ h => h.elim)
    · subst h
      have ha := List.mem_range.mp (List.mem_of_getElem? hi)
      obtain ⟨h1, h2, h3, h4, h5⟩ := hp (ls.getD a default) (by rw [List.getD_eq_getElem?_getD, List.getElem?_eq_getElem ha]; exact List.getElem_mem ha)
      refine ds_ifR (dw_t (dw_or (dt_eqI (de_v 3) (de_v 4)) fun _ => dw_or (dt_lt (de_min2 rfl T.b_min (de_v 3) (de_v 4)) de_int) fun _ => dw_or1 (dt_ge (de_max2 rfl T.b_max (de_v 3) (de_v 4)) (de_v 0)))) (fun h => ?_) fun _ => ?_
      · rw [decide_eq_false h5, decide_eq_false (by split <;> omega), decide_eq_false (by split <;> omega)] at h
        cases h
      · exact ds_unk 2 (ds_unk 3 (ds_unk 4 (ds_nil rfl)))
    · subst h
      exact ds_nil rfl
end
end K6
set_option maxRecDepth 100000
set_option maxHeartbeats 4000000
namespace K6
open PySem PySem.Spec PyProof.Rows L2 Evl DL
abbrev encL (p : Int × Int) : D := .lst [.int p.1, .int p.2]
theorem fz_ints (ns : List Int) (h : ns.length ≤ 90000) : Fz 1 (eInts ns) (eTup ns) := ⟨ns.map D.int, ns.map D.int, .inl rfl, rfl, rfl, by rw [List.length_map]; exact h, fun i a b h1 h2 => by
  rw [h1] at h2
  rw [List.getElem?_map] at h1
  obtain ⟨x, _, rfl⟩ := Option.map_eq_some_iff.mp h1
  exact ⟨x, rfl, (Option.some.inj h2).symm⟩⟩
theorem fz_tupf (ns : List Int) (h : ns.length ≤ 90000) : Fz 1 (.tupf (ns.map D.int)) (eTup ns) := ⟨ns.map D.int, ns.map D.int, .inr (.inr rfl), rfl, rfl, by rw [List.length_map]; exact h, fun i a b h1 h2 => by
  rw [h1] at h2
  rw [List.getElem?_map] at h1
  obtain ⟨x, _, rfl⟩ := Option.map_eq_some_iff.mp h1
  exact ⟨x, rfl, (Option.some.inj h2).symm⟩⟩
theorem fz_pair (p : Int × Int) : Fz 1 (encL p) (encP p) := fz_ints [p.1, p.2] (by simp)
theorem fz_lanes (ps : List (Int × Int)) (h : ps.length ≤ 90000) : Fz 2 (.lst (ps.map encL)) (.tup (ps.map encP)) := ⟨ps.map encL, ps.map encP, .inl rfl, rfl, by rw [List.length_map, List.length_map], by rw [List.length_map]; exact h, fun i a b h1 h2 => by
  rw [List.getElem?_map] at h1 h2
  obtain ⟨x, hx, rfl⟩ := Option.map_eq_some_iff.mp h1
  rw [hx] at h2
  obtain rfl := Option.some.inj h2
  exact fz_pair x⟩
theorem Town.Ok.few {t : Town} (h : t.Ok) : t.lanes.length ≤ 49 * 9 := by
  have h64 : ∀ l ∈ t.lanes, (0 : Int) ≤ code64 l ∧ code64 l < 6 * 64 + 7 := fun l hl => by
    obtain ⟨a, b, c, d, _⟩ := h.inn l hl
    have := h.n7
    show (0 : Int) ≤ l.1 * 64 + l.2 ∧ l.1 * 64 + l.2 < _
    omega
  have := codes_len t.lanes 0 (6 * 64 + 7) h.ord h64 (by omega)
  omega
section
variable {P : Program} {w : World} {K : PySem.W.Frag} {mg : Str → Option Value} {base : Heap} {C : Addr}
def F_Street (K : PySem.W.Frag) (ds : List D) (fs : List (Str × D)) : Prop := ∃ t : Town, ds = [eInts t.pegs, .lst (t.lanes.map encL)] ∧ t.Ok ∧ t.lanes.length < 64 ∧ fs = townF t
theorem ok_Street_init {fa : Addr} {fd : FuncData} (U : Fun K "__init__" "Street.__init__" s_p_Street_init fa fd) (T : Tx mg) (Sc : Sx K C) (D1 : Df P w K mg base "frozen" 2 ["value"] (F_frozen 1)) (D2 : Df P w K mg base "frozen" 3 ["value"] (F_frozen 2))
    (D3 : Df P w K mg base "check_pegs" 2 ["pegs"] F_check_pegs) (D4 : Df P w K mg base "check_lanes" 1 ["houses", "lanes"] F_check_lanes) (D5 : Df P w K mg base "ascending" 1 ["values"] F_ascending) : FnOk P w K mg base CX0 4 fa fd ["self", "pegs", "lanes"] (spI F_Street C K) := by
  refine dfnI U sc_p_Street_init (fun ds fs h => ?_) (by decide) fun cdv A outer s H E q ds fs hr h => ?_
  · obtain ⟨t, rfl, _⟩ := h; rfl
  · obtain ⟨t, rfl, hok, h64, rfl⟩ := h
    have lp : t.pegs.length ≤ 7 := hok.n7
    have inn := hok.inn
    refine ds_fld 0 rfl (de_callD D1 hr (da_cons (de_v 1) da_nil) ⟨_, rfl, fz_ints t.pegs (by omega)⟩) Sc.cl Sc.no_pegs rfl (by decide) ?_
    refine ds_expr (de_callD D3 hr (da_cons (de_fldO 0 rfl Sc.cl Sc.no_pegs rfl) da_nil) ⟨_, rfl, by omega, hok.peg, rfl⟩) ?_
    refine ds_asg 3 sc_p_Street_init.nd (de_callD D2 hr (da_cons (de_v 2) da_nil) ⟨_, rfl, fz_lanes t.lanes (by omega)⟩) ?_
    refine ds_expr (de_callD D4 hr (da_cons (de_lenTM T.b_len (de_fldO 0 rfl Sc.cl Sc.no_pegs rfl)) (da_cons (de_v 3) da_nil)) ⟨_, _, rfl, by omega, inn, rfl⟩) ?_
    refine ds_fld 0 rfl (de_callD D5 hr (da_cons (de_v 3) da_nil) ⟨_, rfl, h64, hok.p64, hok.ord, rfl⟩) Sc.cl Sc.no_lanes rfl (by show (1 : Nat) < 900; decide) ?_
    refine ds_asg 4 sc_p_Street_init.nd (de_rng T.b_range (de_lenTM T.b_len (de_fldO 0 rfl Sc.cl Sc.no_pegs rfl))) ?_
    have h90 : t.n ≤ 90000 := by have := hok.n7; omega
    refine ds_fld 0 rfl (de_tuple (ds := (List.range t.n).map fun k : Nat => eTup (t.to k)) T.b_tuple (dn_l (dn_eq (dn_lc (as := List.range t.n) (fun k : Nat => D.int (k : Int)) (fun k : Nat => eTup (t.to k)) (fun _ => true) [("house", 5)] rfl sc_p_Street_init.nd (di_rng (de_v 4) h90) (blkOk_by (N := N_p_Street_init) (sc := defScope s_p_Street_init) (by decide +kernel)) (by decide) (by rw [List.length_range]; exact h90) (fun _ _ _ _ _ a ha => dg_name 5 sc_p_Street_init.nd) (fun _ _ _ _ _ a ha => dts_nil) (fun _ _ _ _ _ a ha hb => ?_)) (by rw [filt_all])))) Sc.cl Sc.no_to rfl (by show (2 : Nat) < 900; decide) ?_
    · refine de_eq (d := .tup ((t.lanes.filter fun l => decide (l.1 = (a : Int))).map fun l => D.int l.2)) ?_ (by show _ = D.tup _; unfold Town.to; rw [List.map_map]; rfl)
      refine de_tuple T.b_tuple (dn_l (dn_lc (as := t.lanes) encP (fun l => D.int l.2) (fun l => decide (l.1 = (a : Int))) [("a", 6), ("b", 7)] rfl sc_p_Street_init.nd (di_tup (de_fldO 0 rfl Sc.cl Sc.no_lanes rfl)) (blkOk_by (by kernel_rfl)) (by decide) (by omega) (fun _ _ _ _ _ l hl => dg_tup2 rfl (dg_name 6 sc_p_Street_init.nd) (dg_name 7 sc_p_Street_init.nd)) (fun _ _ _ _ _ l hl => dts_one (dt_eqI (de_v 6) (de_v 5))) (fun _ _ _ _ _ l hl hb => de_v 7)))
    · refine ds_fld 0 rfl (de_tuple (ds := (List.range t.n).map fun k : Nat => eTup (t.from k)) T.b_tuple (dn_l (dn_eq (dn_lc (as := List.range t.n) (fun k : Nat => D.int (k : Int)) (fun k : Nat => eTup (t.from k)) (fun _ => true) [("house", 5)] rfl sc_p_Street_init.nd (di_rng (de_v 4) h90) (blkOk_by (N := N_p_Street_init) (sc := defScope s_p_Street_init) (by decide +kernel)) (by decide) (by rw [List.length_range]; exact h90) (fun _ _ _ _ _ a ha => dg_name 5 sc_p_Street_init.nd) (fun _ _ _ _ _ a ha => dts_nil) (fun _ _ _ _ _ a ha hb => ?_)) (by rw [filt_all])))) Sc.cl Sc.no_from rfl (by show (3 : Nat) < 900; decide) (ds_nil rfl)
      refine de_eq (d := .tup ((t.lanes.filter fun l => decide (l.2 = (a : Int))).map fun l => D.int l.1)) ?_ (by show _ = D.tup _; unfold Town.from; rw [List.map_map]; rfl)
      refine de_tuple T.b_tuple (dn_l (dn_lc (as := t.lanes) encP (fun l => D.int l.1) (fun l => decide (l.2 = (a : Int))) [("a", 6), ("b", 7)] rfl sc_p_Street_init.nd (di_tup (de_fldO 0 rfl Sc.cl Sc.no_lanes rfl)) (blkOk_by (by kernel_rfl)) (by decide) (by omega) (fun _ _ _ _ _ l hl => dg_tup2 rfl (dg_name 6 sc_p_Street_init.nd) (dg_name 7 sc_p_Street_init.nd)) (fun _ _ _ _ _ l hl => dts_one (dt_eqI (de_v 7) (de_v 5))) (fun _ _ _ _ _ l hl hb => de_v 6)))
def F_Street_houses (C : Addr) (K : PySem.W.Frag) (ds : List D) (d : D) : Prop := ∃ t : Town, ds = [eTown C t] ∧ d = .int (t.n : Int)
theorem ok_Street_houses {fa : Addr} {fd : FuncData} (U : Fun K "houses" "Street.houses" s_p_Street_houses fa fd) (T : Tx mg) (Sc : Sx K C) : FnOk P w K mg base CX0 1 fa fd ["self"] (spD (F_Street_houses C) K) := by
  refine dfn U sc_p_Street_houses (fun ds d h => ?_) fun cdv A outer s H E ds d hr h => ?_
  · obtain ⟨t, rfl, _⟩ := h; rfl
  · obtain ⟨t, rfl, rfl⟩ := h
    exact ds_ret (de_lenTM T.b_len (de_fld (de_v 0) Sc.cl Sc.no_pegs rfl)) rfl
def F_lends_to (C : Addr) (K : PySem.W.Frag) (ds : List D) (d : D) : Prop := ∃ (t : Town) (h : Int), ds = [eTown C t, .int h] ∧ 0 ≤ h ∧ h < t.n ∧ d = eTup (t.to h)
theorem to_at {X : Cx} {ρ : DL.Env} {e b : Expr} {t : Town} {h : Int} {pos : Pos} (he : DE X e ρ (.tup ((List.range t.n).map fun k : Nat => eTup (t.to k)))) (hb : DE X b ρ (.int h)) (h0 : 0 ≤ h) (h1 : h < t.n) (hs : PlainIx b := by intro _ _; rfl) : DE X (.Subscript e b pos) ρ (eTup (t.to h)) := by
  refine de_ixT he hb (atI_map (f := fun k : Nat => eTup (t.to k)) (x := h.toNat) ?_ |>.trans (by rw [Int.toNat_of_nonneg h0])) hs
  exact atI_pos h0 (List.getElem?_range (by omega))
theorem ok_lends_to {fa : Addr} {fd : FuncData} (U : Fun K "lends_to" "Street.lends_to" s_p_Street_lends_to fa fd) (Sc : Sx K C) : FnOk P w K mg base CX0 1 fa fd ["self", "house"] (spD (F_lends_to C) K) := by
  refine dfn U sc_p_Street_lends_to (fun ds d h => ?_) fun cdv A outer s H E ds d hr h => ?_
  · obtain ⟨t, h, rfl, _⟩ := h; rfl
  · obtain ⟨t, h, rfl, h0, h1, rfl⟩ := h
    exact ds_ret (to_at (de_fld (de_v 0) Sc.cl Sc.no_to rfl) (de_v 1) h0 h1) rfl
end
/-! ### what can be reached -/
inductive Town.Reach (t : Town) (h : Int) : Int → Prop
  | refl : Reach t h h
  | step {a b : Int} : Reach t h a → (a, b) ∈ t.lanes → Reach t h b
theorem Town.mem_to {t : Town} {a b : Int} : b ∈ t.to a ↔ (a, b) ∈ t.lanes := by
  unfold Town.to
  rw [List.mem_map]
  constructor
  · rintro ⟨l, hl, rfl⟩
    rw [List.mem_filter, decide_eq_true_iff] at hl
    obtain ⟨h1, rfl⟩ := hl
    exact h1
  · intro h
    exact ⟨(a, b), List.mem_filter.mpr ⟨h, by simp⟩, rfl⟩
theorem Town.Reach.inn {t : Town} (ok : t.Ok) {h a : Int} (h0 : 0 ≤ h ∧ h < t.n) (r : t.Reach h a) : 0 ≤ a ∧ a < t.n := by
  induction r with
  | refl => exact h0
  | step _ hl _ => obtain ⟨_, _, c, d, _⟩ := ok.inn _ hl; exact ⟨c, d⟩
/-- distinct numbers below n are at most n -/
theorem nodup_len {n : Nat} : ∀ {xs : List Int}, xs.Nodup → (∀ x ∈ xs, 0 ≤ x ∧ x < (n : Int)) → xs.length ≤ n := fun {xs} nd h => by
  have nd2 : (xs.map Int.toNat).Nodup := by
    rw [List.nodup_iff_pairwise_ne, List.pairwise_map]
    refine List.Pairwise.imp_of_mem (fun {a b} ha hb ne e => ne ?_) (List.nodup_iff_pairwise_ne.mp nd)
    have := h a ha
    have := h b hb
    omega
  have := (List.nodup_iff_pairwise_ne.mp nd2)
  have sub : ∀ x ∈ xs.map Int.toNat, x ∈ List.range n := fun x hx => by
    obtain ⟨y, hy, rfl⟩ := List.mem_map.mp hx
    have := h y hy
    exact List.mem_range.mpr (by omega)
  have := nat_nodup_len _ _ nd2 sub
  rw [List.length_map, List.length_range] at this
  exact this
section
variable {P : Program} {w : World} {K : PySem.W.Frag} {mg : Str → Option Value} {base : Heap} {C : Addr}
def F_houses_ahead (C : Addr) (K : PySem.W.Frag) (ds : List D) (S : D → Prop) : Prop := ∃ (t : Town) (h : Int), ds = [eTown C t, .int h] ∧ t.Ok ∧ 0 ≤ h ∧ h < t.n ∧ S = fun d => ∃ xs : List Int, d = eInts xs ∧ ∀ x, x ∈ xs ↔ t.Reach h x
structure Ahead (t : Town) (h : Int) (i : Nat) (xs : List Int) : Prop where
  nd : xs.Nodup
  me : h ∈ xs
  re : ∀ x ∈ xs, t.Reach h x
  cl : ∀ (j : Nat) a b, j < i → xs[j]? = some a → (a, b) ∈ t.lanes → b ∈ xs
theorem ok_houses_ahead {fa : Addr} {fd : FuncData} (U : Fun K "houses_ahead" "houses_ahead" s_p_houses_ahead fa fd) (T : Tx mg) (Sc : Sx K C) : FnOk P w K mg base CX0 1 fa fd ["street", "house"] (spX (F_houses_ahead C) K) := by
  refine dfnX U sc_p_houses_ahead (fun ds d h => ?_) fun cdv A outer s H E ds S hr h => ?_
  · obtain ⟨t, h, rfl, _⟩ := h; rfl
  · obtain ⟨t, h, rfl, ok, h0, h1, rfl⟩ := h
    refine ds_asgN 2 sc_p_houses_ahead.nd (dn_lst (ds := [D.int h]) (da_cons (de_v 1) da_nil)) ?_
    refine ds_asg 3 sc_p_houses_ahead.nd de_int ?_
    have bound : ∀ {i : Nat} {xs : List Int}, Ahead t h i xs → xs.length ≤ t.n := fun A => nodup_len A.nd fun x hx => (A.re x hx).inn ok ⟨h0, h1⟩
    refine ds_while (fun m ρ => ∃ (i : Nat) (xs : List Int), Ahead t h i xs ∧ i ≤ xs.length ∧ m = t.n - i ∧ ρ = [.fro (eTown C t), .fro (.int h), .own (xs.map D.int), .fro (.int (i : Int)), .unk, .unk]) (fun ρ => ∃ (i : Nat) (xs : List Int), Ahead t h xs.length xs ∧ ρ = [.fro (eTown C t), .fro (.int h), .own (xs.map D.int), .fro (.int (i : Int)), .unk, .unk]) PassesOwn.never t.n
      ⟨0, [h], ⟨by simp, List.mem_singleton.mpr rfl, fun x hx => by rw [List.mem_singleton.mp hx]; exact .refl, fun j a b hj => absurd hj (by omega)⟩, Nat.zero_le _, rfl, rfl⟩ (fun m ρ ⟨i, xs, A, hi, hm, e⟩ => ?_) (fun ρ ⟨i, xs, A, e⟩ => ?_)
    · subst e
      refine ⟨_, dt_lt (de_v 3) (de_lenM T.b_len (dl_v 2)), fun hb => ?_, fun hb => ⟨i, xs, ?_, rfl⟩⟩
      · have hb := of_decide_eq_true hb
        have hi' : i < xs.length := by omega
        refine ds_asg 4 sc_p_houses_ahead.nd (de_ixM default (dl_v 2) (de_v 3) ⟨by omega, by omega⟩) ?_
        rw [Int.toNat_natCast]
        have hx : xs[i]? = some (xs.getD i default) := by rw [List.getD_eq_getElem?_getD, List.getElem?_eq_getElem hi']; rfl
        generalize xs.getD i default = x at hx
        have hxm : x ∈ xs := List.mem_of_getElem? hx
        have hxr := (A.re x hxm).inn ok ⟨h0, h1⟩
        refine ds_for (as := t.to x) (f := D.int) (js := [5]) (fun k ρ => ∃ ys : List Int, Ahead t h i ys ∧ xs <+: ys ∧ (∀ b ∈ (t.to x).take k, b ∈ ys) ∧ ρ = [.fro (eTown C t), .fro (.int h), .own (ys.map D.int), .fro (.int (i : Int)), .fro (.int x), .unk]) (fun _ => False) PassesOwn.never rfl (di_tup (to_at (de_fld (de_v 0) Sc.cl Sc.no_to rfl) (de_v 4) hxr.1 hxr.2)) ⟨xs, A, List.prefix_refl xs, fun b hb => (by simp at hb), rfl⟩
          (fun k b ρ1 hk ⟨ys, A1, pre, cov, e⟩ => ?_) (fun ρ1 ⟨ys, A1, pre, cov, e⟩ => ?_) (fun _ h => h.elim)
        · subst e
          have hbm : b ∈ t.to x := List.mem_of_getElem? hk
          have tk : (t.to x).take (k + 1) = (t.to x).take k ++ [b] := by rw [List.take_succ, hk]; rfl
          refine ⟨_, dg_name 5 sc_p_houses_ahead.nd, ?_⟩
          refine ds_ifE (dt_ninL (de_v 5) (dl_v 2)) (fun hn => ?_) (fun hn => ?_)
          · have hn : b ∉ ys := by simpa using hn
            refine ds_app 2 rfl (de_v 5) (by rw [List.length_map]; have := bound A1; have := ok.n7; omega) (ds_unk 5 (ds_nil ?_))
            refine ⟨ys ++ [b], ⟨?_, List.mem_append_left _ A1.me, fun y hy => ?_, fun j a c hj ha hl => ?_⟩, pre.trans (List.prefix_append _ _), fun c hc => ?_, by rw [List.map_append]; rfl⟩
            · rw [List.nodup_append]
              exact ⟨A1.nd, by simp, fun y hy z hz => by rw [List.mem_singleton.mp hz]; exact fun e => hn (e ▸ hy)⟩
            · rcases List.mem_append.mp hy with hy | hy
              · exact A1.re y hy
              · rw [List.mem_singleton.mp hy]; exact .step (A.re x hxm) (Town.mem_to.mp hbm)
            · have hjl : j < ys.length := by have := pre.length_le; omega
              rw [List.getElem?_append_left hjl] at ha
              exact List.mem_append_left _ (A1.cl j a c hj ha hl)
            · rw [tk] at hc
              rcases List.mem_append.mp hc with hc | hc
              · exact List.mem_append_left _ (cov c hc)
              · exact List.mem_append_right _ hc
          · have hn : b ∈ ys := by simpa using hn
            refine ds_unk 5 (ds_nil ⟨ys, A1, pre, fun c hc => ?_, rfl⟩)
            rw [tk] at hc
            rcases List.mem_append.mp hc with hc | hc
            · exact cov c hc
            · rw [List.mem_singleton.mp hc]; exact hn
        · subst e
          refine ds_augI 3 sc_p_houses_ahead.nd rfl de_int (ds_unk 4 (ds_nil ?_))
          rw [List.take_length] at cov
          have hl := pre.length_le
          have bn := bound A1
          refine ⟨t.n - (i + 1), by omega, i + 1, ys, ⟨A1.nd, A1.me, A1.re, fun j a c hj ha hl2 => ?_⟩, by omega, rfl, rfl⟩
          by_cases hji : j < i
          · exact A1.cl j a c hji ha hl2
          · have ej : j = i := by omega
            subst ej
            have : ys[j]? = some x := by
              obtain ⟨zs, rfl⟩ := pre
              rw [List.getElem?_append_left hi', hx]
            rw [this] at ha
            cases ha
            exact cov c (Town.mem_to.mpr hl2)
      · have hb := of_decide_eq_false hb
        have : i = xs.length := by omega
        rw [← this]; exact A
    · subst e
      refine ds_retO 2 rfl ⟨xs, rfl, fun x => ⟨A.re x, fun r => ?_⟩⟩
      induction r with
      | refl => exact A.me
      | step _ hl ih =>
        obtain ⟨j, hj, e⟩ := List.getElem_of_mem ih
        exact A.cl j _ _ hj (by rw [List.getElem?_eq_getElem hj, e]) hl
end
end K6
set_option maxRecDepth 100000
set_option maxHeartbeats 4000000
namespace K6
open PySem PySem.Spec PyProof.Rows L2 Evl DL
open Classical in
/-- houses that reach one another -/
noncomputable def Town.part (t : Town) (h : Int) : List Int := ((List.range t.n).filter fun k : Nat => decide (t.Reach h k ∧ t.Reach k h)).map fun k : Nat => (k : Int)
open Classical in
noncomputable def Town.parts (t : Town) : List (List Int) := ((List.range t.n).filter fun k : Nat => decide ((t.part k).head? = some (k : Int))).map fun k : Nat => t.part k
def Town.weight (t : Town) (r : List Int) : Int := (r.map fun h => t.pegs.getD h.toNat default).sum
def Town.spur (t : Town) (r : List Int) : Option (Int × Int) := t.lanes.find? fun l => decide (l.1 ∈ r) && !decide (l.2 ∈ r)
def Town.bare (t : Town) (p : List Int) : Bool := decide (1 < p.length) && p.all fun h => decide ((t.to h).length = 1)
noncomputable def Town.spurred (t : Town) : List (List Int) := t.parts.filter fun p => decide (1 < p.length) && !t.bare p
theorem pick_map {α β : Type} {f : β → D} {Pr : α → β → Prop} : ∀ {as : List α} {ds : List D}, ds.length = as.length → (∀ (i : Nat) a d, as[i]? = some a → ds[i]? = some d → ∃ x, d = f x ∧ Pr a x) → ∃ xs : List β, ds = xs.map f ∧ xs.length = as.length ∧ ∀ (i : Nat) a x, as[i]? = some a → xs[i]? = some x → Pr a x
  | [], [], _, _ => ⟨[], rfl, rfl, fun i a x h => by simp at h⟩
  | [], _ :: _, h, _ => by simp at h
  | _ :: _, [], h, _ => by simp at h
  | a :: as, d :: ds, h, q => by
    obtain ⟨xs, h1, h2, h3⟩ := pick_map (as := as) (ds := ds) (by simpa using h) fun i a d h1 h2 => q (i + 1) a d h1 h2
    obtain ⟨x, h4, h5⟩ := q 0 a d rfl rfl
    refine ⟨x :: xs, by rw [h1, h4]; rfl, by simp [h2], fun i a' x' e1 e2 => ?_⟩
    cases i with
    | zero =>
      rw [List.getElem?_cons_zero] at e1 e2
      cases e1; cases e2; exact h5
    | succ i =>
      rw [List.getElem?_cons_succ] at e1 e2
      exact h3 i a' x' e1 e2
theorem Town.part_me {t : Town} {k : Nat} (h : k < t.n) : (k : Int) ∈ t.part k := by
  unfold Town.part
  exact List.mem_map.mpr ⟨k, List.mem_filter.mpr ⟨List.mem_range.mpr h, by simp; exact .refl⟩, rfl⟩
theorem Town.part_inn {t : Town} {h x : Int} (hx : x ∈ t.part h) : 0 ≤ x ∧ x < t.n := by
  unfold Town.part at hx
  obtain ⟨k, hk, rfl⟩ := List.mem_map.mp hx
  have := List.mem_range.mp (List.mem_filter.mp hk).1
  omega
theorem Town.part_len (t : Town) (h : Int) : (t.part h).length ≤ t.n := by
  unfold Town.part
  rw [List.length_map]
  exact Nat.le_trans (List.length_filter_le _ _) (by simp)
theorem Town.parts_inn {t : Town} {p : List Int} (hp : p ∈ t.parts) : p.length ≤ t.n ∧ ∀ x ∈ p, 0 ≤ x ∧ x < t.n := by
  unfold Town.parts at hp
  obtain ⟨k, hk, rfl⟩ := List.mem_map.mp hp
  exact ⟨t.part_len k, fun x hx => Town.part_inn hx⟩
theorem Town.parts_len (t : Town) : t.parts.length ≤ t.n := by
  unfold Town.parts
  rw [List.length_map]
  exact Nat.le_trans (List.length_filter_le _ _) (by simp)
section
variable {P : Program} {w : World} {K : PySem.W.Frag} {mg : Str → Option Value} {base : Heap} {C : Addr}
abbrev F_of (C : Addr) (g : Town → D) (K : PySem.W.Frag) (ds : List D) (d : D) : Prop := ∃ t : Town, ds = [eTown C t] ∧ t.Ok ∧ d = g t
noncomputable abbrev F_strong_parts (C : Addr) := F_of C fun t => .tup (t.parts.map eTup)
theorem ok_strong_parts {fa : Addr} {fd : FuncData} (U : Fun K "strong_parts" "strong_parts" s_p_strong_parts fa fd) (T : Tx mg) (D1 : Dx P w K mg base "houses_ahead" 1 ["street", "house"] (F_houses_ahead C)) (D2 : Dp' P w K mg base C "houses" 1 ["self"] (F_Street_houses C)) : FnOk P w K mg base CX0 3 fa fd ["street"] (spD (F_strong_parts C) K) := by
  refine dfn U sc_p_strong_parts (fun ds d h => ?_) fun cdv A outer s H E ds d hr h => ?_
  · obtain ⟨t, rfl, _⟩ := h; rfl
  · obtain ⟨t, rfl, ok, rfl⟩ := h
    have n7 := ok.n7
    refine ds_asgNX 1 sc_p_strong_parts.nd (dnx_lc (as := List.range t.n) (fun k : Nat => D.int (k : Int)) (fun k d => ∃ xs : List Int, d = eInts xs ∧ ∀ x, x ∈ xs ↔ t.Reach k x) [("house", 2)] rfl sc_p_strong_parts.nd (di_rangeN T.b_range (de_propD D2 hr (de_v 0) ⟨t, rfl, rfl⟩) (by omega)) (blkOk_by (N := N_p_strong_parts) (sc := defScope s_p_strong_parts) (by decide +kernel)) (by decide) (by rw [List.length_range]; omega)
      (fun _ _ _ _ _ a ha => dg_name 2 sc_p_strong_parts.nd) (fun _ _ _ _ _ a ha => dx_callD D1 hr (da_cons (de_v 0) (da_cons (de_v 2) da_nil)) ⟨t, a, rfl, ok, by omega, by have := List.mem_range.mp ha; omega, rfl⟩)) fun ds ⟨hl, hds⟩ => ?_
    obtain ⟨xss, rfl, hl2, hx⟩ := pick_map hl hds
    rw [List.length_range] at hl2
    have mem : ∀ {k : Nat} {x : Int}, k < t.n → (x ∈ xss.getD k [] ↔ t.Reach k x) := fun {k x} hk => by
      refine hx k k _ (List.getElem?_range hk) ?_ x
      rw [List.getD_eq_getElem?_getD, List.getElem?_eq_getElem (by omega)]; rfl
    refine ds_freeze 1 rfl ?_
    refine ds_asgN 3 sc_p_strong_parts.nd (dn_lst da_nil) ?_
    classical
    let bt : Nat → Bool := fun k => decide ((t.part k).head? = some (k : Int))
    refine ds_for (as := List.range t.n) (f := fun k : Nat => D.int (k : Int)) (js := [2]) (fun i ρ => ρ = [.fro (eTown C t), .fro (.lst (xss.map eInts)), .unk, .own ((((List.range t.n).take i).filter bt).map fun k : Nat => eTup (t.part k)), .unk, .unk]) (fun _ => False) PassesOwn.never rfl (di_rangeN T.b_range (de_propD D2 hr (de_v 0) ⟨t, rfl, rfl⟩) (by omega)) (by rfl)
      (fun i a ρ1 hi h => ⟨_, dg_name 2 sc_p_strong_parts.nd, ?_⟩) (fun ρ1 h => ?_) (fun _ h => h.elim)
    · subst h
      have ha := List.mem_range.mp (List.mem_of_getElem? hi)
      refine ds_asgLc (as := List.range t.n) 4 (fun k : Nat => D.int (k : Int)) (fun k : Nat => D.int (k : Int)) (fun k => decide ((k : Int) ∈ xss.getD a []) && decide ((a : Int) ∈ xss.getD k [])) [("other", 5)] rfl sc_p_strong_parts.nd (di_rangeN T.b_range (de_propD D2 hr (de_v 0) ⟨t, rfl, rfl⟩) (by omega)) (blkOk_by (N := N_p_strong_parts) (sc := defScope s_p_strong_parts) (by decide +kernel)) (by decide) (by rw [List.length_range]; omega)
        (fun _ _ _ _ _ k hk => dg_name 5 sc_p_strong_parts.nd) (fun _ _ _ _ _ k hk => by
          have hk := List.mem_range.mp hk
          refine dts_one (dw_t (dw_and ?_ fun h => dw_and1 ?_))
          · exact dt_inL (de_v 5) (de_l (de_ixM (i := (a : Int)) (xs := xss) (f := eInts) [] (de_l (de_v 1)) (de_v 2) ⟨by omega, by omega⟩))
          · exact dt_inL (de_v 2) (de_l (de_ixM (i := (k : Int)) (xs := xss) (f := eInts) [] (de_l (de_v 1)) (de_v 5) ⟨by omega, by omega⟩))) (fun _ _ _ _ _ k hk hb => de_v 5) ?_
      refine ds_freeze 4 rfl ?_
      have ep : (((List.range t.n).filter fun k : Nat => decide ((k : Int) ∈ xss.getD a []) && decide ((a : Int) ∈ xss.getD k [])).map fun k : Nat => D.int (k : Int)) = (t.part a).map D.int := by
        unfold Town.part
        rw [List.map_map]
        have : (List.range t.n).filter (fun k : Nat => decide ((k : Int) ∈ xss.getD a []) && decide ((a : Int) ∈ xss.getD k [])) = (List.range t.n).filter fun k : Nat => decide (t.Reach a k ∧ t.Reach k a) := by
          refine List.filter_congr fun k hk => ?_
          have hk := List.mem_range.mp hk
          rw [Bool.eq_iff_iff, Bool.and_eq_true, decide_eq_true_iff, decide_eq_true_iff, decide_eq_true_iff, mem ha, mem hk]
        rw [this]; rfl
      rw [ep]
      have hme := t.part_me ha
      obtain ⟨x0, rs, e0⟩ : ∃ x0 rs, t.part a = x0 :: rs := by
        cases q : t.part a with
        | nil => rw [q] at hme; cases hme
        | cons x0 rs => exact ⟨x0, rs, rfl⟩
      have tk : (List.range t.n).take (i + 1) = (List.range t.n).take i ++ [a] := by rw [List.take_succ, hi]; rfl
      have hbt : bt a = decide (x0 = (a : Int)) := by
        show decide ((t.part a).head? = some (a : Int)) = _
        rw [e0]; simp
      refine ds_ifE (b1 := decide (x0 = (a : Int))) (dt_eqI (de_eq (de_ixM default (de_l (de_v 4)) de_int ⟨by decide, by rw [e0]; simp⟩) (by rw [e0]; rfl)) (de_v 2)) (fun h => ?_) (fun h => ?_)
      · refine ds_app 3 rfl (de_tuple T.b_tuple (de_l (de_v 4))) ?_ (ds_unk 2 (ds_unk 4 (ds_nil ?_)))
        · rw [List.length_map]
          have := List.length_filter_le bt ((List.range t.n).take i)
          rw [List.length_take, List.length_range] at this
          omega
        · rw [tk, List.filter_append, List.map_append, List.filter_cons, hbt, h]; rfl
      · refine ds_unk 2 (ds_unk 4 (ds_nil ?_))
        rw [tk, List.filter_append, List.map_append, List.filter_cons, hbt, h]
        simp
    · subst h
      refine ds_ret (de_tuple T.b_tuple (dl_v 3)) ?_
      rw [List.take_of_length_le (by rw [List.length_range]; exact Nat.le_refl _)]
      show D.tup _ = D.tup (t.parts.map eTup)
      unfold Town.parts
      rw [List.map_map]; rfl
abbrev Inn (t : Town) (r : List Int) : Prop := ∀ x ∈ r, 0 ≤ x ∧ x < t.n
def F_ring_weight (C : Addr) (K : PySem.W.Frag) (ds : List D) (d : D) : Prop := ∃ (t : Town) (r : List Int), ds = [eTown C t, .tupf (r.map D.int)] ∧ Inn t r ∧ r.length ≤ 1000 ∧ d = .int (t.weight r)
theorem ok_ring_weight {fa : Addr} {fd : FuncData} (U : Fun K "ring_weight" "ring_weight" s_p_ring_weight fa fd) (T : Tx mg) (Sc : Sx K C) (D1 : Df P w K mg base "frozen" 2 ["value"] (F_frozen 1)) : FnOk P w K mg base CX0 3 fa fd ["street", "ring"] (spD (F_ring_weight C) K) := by
  refine dfn U sc_p_ring_weight (fun ds d h => ?_) fun cdv A outer s H E ds d hr h => ?_
  · obtain ⟨t, r, rfl, _⟩ := h; rfl
  · obtain ⟨t, r, rfl, hi, hl, rfl⟩ := h
    refine ds_ret (de_sum (ns := r.map fun h => t.pegs.getD h.toNat default) rfl T.b_sum (dn_l (dn_eq (dn_lc (as := r) D.int (fun h => D.int (t.pegs.getD h.toNat default)) (fun _ => true) [("house", 2)] rfl sc_p_ring_weight.nd (di_tup (de_callD D1 hr (da_cons (de_v 1) da_nil) ⟨_, rfl, fz_tupf r (by omega)⟩)) (blkOk_by (N := N_p_ring_weight) (sc := defScope s_p_ring_weight) (by decide +kernel)) (by decide) (by omega) (fun _ _ _ _ _ a ha => (dg_name 2 sc_p_ring_weight.nd)) (fun _ _ _ _ _ a ha => dts_nil) (fun _ _ _ _ _ a ha hb => de_ixTM default (de_fld (de_v 0) Sc.cl Sc.no_pegs rfl) (de_v 2) ⟨(hi a ha).1, (hi a ha).2⟩)) (by rw [filt_all, List.map_map]; rfl)))) rfl
abbrev eOpt : Option (Int × Int) → D
  | some l => encP l
  | none => .non
def F_spur (C : Addr) (K : PySem.W.Frag) (ds : List D) (d : D) : Prop := ∃ (t : Town) (r : List Int), ds = [eTown C t, .tupf (r.map D.int)] ∧ r.length ≤ 1000 ∧ d = eOpt (t.spur r)
theorem ok_spur {fa : Addr} {fd : FuncData} (U : Fun K "spur" "spur" s_p_spur fa fd) (T : Tx mg) (Sc : Sx K C) (D1 : Df P w K mg base "frozen" 2 ["value"] (F_frozen 1)) : FnOk P w K mg base CX0 3 fa fd ["street", "ring"] (spD (F_spur C) K) := by
  refine dfn U sc_p_spur (fun ds d h => ?_) fun cdv A outer s H E ds d hr h => ?_
  · obtain ⟨t, r, rfl, _⟩ := h; rfl
  · obtain ⟨t, r, rfl, hl, rfl⟩ := h
    refine ds_asg 2 sc_p_spur.nd (de_callD D1 hr (da_cons (de_v 1) da_nil) ⟨_, rfl, fz_tupf r (by omega)⟩) ?_
    refine ds_for (as := t.lanes) (f := encP) (js := [3, 4]) (fun i ρ => ρ = [.fro (eTown C t), .fro (.tupf (r.map D.int)), .fro (eTup r), .unk, .unk] ∧ (t.lanes.take i).find? (fun l => decide (l.1 ∈ r) && !decide (l.2 ∈ r)) = none) (fun _ => False) PassesOwn.never rfl (di_tup (de_fld (de_v 0) Sc.cl Sc.no_lanes rfl)) ⟨rfl, rfl⟩
      (fun i l ρ1 hi h => ⟨_, (dg_tup2 rfl (dg_name 3 sc_p_spur.nd) (dg_name 4 sc_p_spur.nd)), ?_⟩) (fun ρ1 h => ?_) (fun _ h => h.elim)
    · obtain ⟨rfl, h0⟩ := h
      have tk : t.lanes.take (i + 1) = t.lanes.take i ++ [l] := by rw [List.take_succ, hi]; rfl
      refine ds_ifR (dw_t (dw_and (dt_inT (de_v 3) (de_v 2)) fun h => (dw_and1 (dt_ninT (de_v 4) (de_v 2))))) (fun h => ?_) (fun h => ds_unk 3 (ds_unk 4 (ds_nil ⟨rfl, ?_⟩)))
      · refine ds_ret (de_tup (da_cons (de_v 3) (da_cons (de_v 4) da_nil))) ?_
        show encP l = eOpt (t.spur r)
        have : t.spur r = some l := by
          unfold Town.spur
          rw [← List.take_append_drop (i + 1) t.lanes, List.find?_append, tk, List.find?_append, h0, List.find?_cons, h]; rfl
        rw [this]
      · rw [tk, List.find?_append, h0, List.find?_cons, h]; rfl
    · obtain ⟨rfl, h0⟩ := h
      rw [List.take_length] at h0
      refine ds_ret de_non ?_
      show D.non = eOpt (t.spur r)
      have : t.spur r = none := h0
      rw [this]
def F_is_bare (C : Addr) (K : PySem.W.Frag) (ds : List D) (d : D) : Prop := ∃ (t : Town) (p : List Int), ds = [eTown C t, eTup p] ∧ Inn t p ∧ p.length ≤ 1000 ∧ d = .bl (t.bare p)
theorem ok_is_bare {fa : Addr} {fd : FuncData} (U : Fun K "is_bare" "is_bare" s_p_is_bare fa fd) (T : Tx mg) (D1 : Dm P w K mg base C "lends_to" 1 ["self", "house"] (F_lends_to C)) : FnOk P w K mg base CX0 2 fa fd ["street", "part"] (spD (F_is_bare C) K) := by
  refine dfn U sc_p_is_bare (fun ds d h => ?_) fun cdv A outer s H E ds d hr h => ?_
  · obtain ⟨t, p, rfl, _⟩ := h; rfl
  · obtain ⟨t, p, rfl, hi, hl, rfl⟩ := h
    refine ds_ret (de_and (b1 := decide (1 < p.length)) (b2 := p.all fun h => decide ((t.to h).length = 1)) (de_eq (de_gt (de_lenTM T.b_len (de_v 1)) de_int) (by congr 1; exact decide_eq_decide.mpr (by omega))) fun h => (de_one (de_eq (de_all (bs := p.map fun h => decide ((t.to h).length = 1)) rfl T.b_all (dn_l (dn_eq (dn_lc (as := p) D.int (fun h => D.bl (decide ((t.to h).length = 1))) (fun _ => true) [("house", 2)] rfl sc_p_is_bare.nd (di_tup (de_v 1)) (blkOk_by (N := N_p_is_bare) (sc := defScope s_p_is_bare) (by decide +kernel)) (by decide) (by omega) (fun _ _ _ _ _ a ha => (dg_name 2 sc_p_is_bare.nd)) (fun _ _ _ _ _ a ha => dts_nil)
      (fun _ _ _ _ _ a ha hb => (de_eq (de_eqI (de_lenTM T.b_len (de_methD D1 hr (de_v 0) (da_cons (de_v 2) da_nil) ⟨t, a, rfl, (hi a ha).1, (hi a ha).2, rfl⟩ (hl := by kernel_rfl))) de_int) (by congr 1; exact decide_eq_decide.mpr (by omega))))) (by rw [filt_all, List.map_map]; rfl)))) (by rw [List.all_map]; rfl)))) rfl
noncomputable abbrev F_spurred (C : Addr) := F_of C fun t => .tup (t.spurred.map eTup)
theorem ok_spurred_parts {fa : Addr} {fd : FuncData} (U : Fun K "spurred_parts" "spurred_parts" s_p_spurred_parts fa fd) (T : Tx mg) (D1 : Df P w K mg base "strong_parts" 3 ["street"] (F_strong_parts C)) (D2 : Df P w K mg base "is_bare" 2 ["street", "part"] (F_is_bare C)) : FnOk P w K mg base CX0 4 fa fd ["street"] (spD (F_spurred C) K) := by
  refine dfn U sc_p_spurred_parts (fun ds d h => ?_) fun cdv A outer s H E ds d hr h => ?_
  · obtain ⟨t, rfl, _⟩ := h; rfl
  · obtain ⟨t, rfl, ok, rfl⟩ := h
    have n7 := ok.n7
    refine ds_ret (de_tuple T.b_tuple (dn_l (dn_lc (as := t.parts) eTup eTup (fun p => decide (1 < p.length) && !t.bare p) [("part", 1)] rfl sc_p_spurred_parts.nd (di_tup (de_callD D1 hr (da_cons (de_v 0) da_nil) ⟨t, rfl, ok, rfl⟩)) (blkOk_by (N := N_p_spurred_parts) (sc := defScope s_p_spurred_parts) (by decide +kernel)) (by decide) (by have := t.parts_len; omega) (fun _ _ _ _ _ a ha => (dg_name 1 sc_p_spurred_parts.nd))
      (fun _ _ _ _ _ a ha => (dts_one (dw_t (dw_and (dt_eq (dt_gt (de_lenTM T.b_len (de_v 1)) de_int) (decide_eq_decide.mpr (by omega))) fun h => (dw_and1 (dt_not (dt_v (de_callD D2 hr (da_cons (de_v 0) (da_cons (de_v 1) da_nil)) ⟨t, a, rfl, (t.parts_inn ha).2, by have := (t.parts_inn ha).1; omega, rfl⟩)))))))) (fun _ _ _ _ _ a ha hb => (de_v 1))))) rfl
end
end K6
set_option maxRecDepth 100000
set_option maxHeartbeats 4000000
namespace K6
open PySem PySem.Spec PyProof.Rows L2 Evl DL HQ
open PySem.W (dataLt)
def Town.peg (t : Town) (h : Int) : Int := t.pegs.getD h.toNat default
/-- a walk's next walks -/
def Town.exts (t : Town) (q : QI) (v : Int) : List QI := (t.to v).map fun h => (q.1 + t.peg h, q.2 ++ [h])
abbrev LeastQ (q : QI) (qs qs' : List QI) : Prop := (q :: qs').Perm qs ∧ ∀ z ∈ qs, dataLt (qPy z) (qPy q) = false
/-- the search for a lightest closed walk, by the queue, the houses done and what comes out -/
inductive LW (t : Town) (s : Int) : Nat → List QI → List Int → QI → Prop
  | stop {n : Nat} {qs qs' : List QI} {dn : List Int} {q : QI} : LeastQ q qs qs' → 1 < q.2.length → q.2.getLast? = some s → LW t s n qs dn (q.1, q.2.dropLast)
  | skip {n : Nat} {qs qs' : List QI} {dn : List Int} {q : QI} {v : Int} {r : QI} : LeastQ q qs qs' → q.2.getLast? = some v → ¬ (1 < q.2.length ∧ v = s) → v ∈ dn → LW t s n qs' dn r → LW t s (n + 1) qs dn r
  | go {n : Nat} {qs qs' : List QI} {dn : List Int} {q : QI} {v : Int} {r : QI} : LeastQ q qs qs' → q.2.getLast? = some v → ¬ (1 < q.2.length ∧ v = s) → v ∉ dn → LW t s n (qs' ++ t.exts q v) (dn ++ [v]) r → LW t s (n + 1) qs dn r
theorem least_uniq {q p : QI} {qs qs' qs2 qs2' : List QI} (h1 : LeastQ q qs qs') (h2 : LeastQ p qs2 qs2') (e : qs.Perm qs2) : q = p ∧ qs'.Perm qs2' := by
  have m1 : q ∈ qs2 := e.mem_iff.mp (h1.1.mem_iff.mp List.mem_cons_self)
  have m2 : p ∈ qs := e.mem_iff.mpr (h2.1.mem_iff.mp List.mem_cons_self)
  have : q = p := q_antisym (h2.2 q m1) (h1.2 p m2)
  subst this
  exact ⟨rfl, (List.perm_cons _).mp (h1.1.trans (e.trans h2.1.symm))⟩
theorem least_perm {q : QI} {qs qs' qs2 : List QI} (h : LeastQ q qs qs') (e : qs.Perm qs2) : LeastQ q qs2 qs' := ⟨h.1.trans e, fun z hz => h.2 z (e.mem_iff.mpr hz)⟩
theorem LW.perm {t : Town} {s : Int} {n : Nat} {qs : List QI} {dn : List Int} {r : QI} (h : LW t s n qs dn r) : ∀ {qs2 : List QI}, qs.Perm qs2 → LW t s n qs2 dn r := by
  induction h with
  | stop a b c => intro qs2 e; exact .stop (least_perm a e) b c
  | skip a b c d _ ih => intro qs2 e; exact .skip (least_perm a e) b c d (ih (List.Perm.refl _))
  | go a b c d _ ih => intro qs2 e; exact .go (least_perm a e) b c d (ih (List.Perm.refl _))
theorem LW.uniq {t : Town} {s : Int} {n : Nat} {qs : List QI} {dn : List Int} {r : QI} (h : LW t s n qs dn r) : ∀ {m : Nat} {qs2 : List QI} {r2 : QI}, qs.Perm qs2 → LW t s m qs2 dn r2 → r = r2 := by
  induction h with
  | stop a b c =>
    intro m qs2 r2 e h2
    cases h2 with
    | stop a2 b2 c2 => obtain ⟨rfl, _⟩ := least_uniq a a2 e; rfl
    | skip a2 b2 c2 d2 _ =>
      obtain ⟨rfl, _⟩ := least_uniq a a2 e
      rw [c] at b2; cases b2
      exact absurd ⟨b, rfl⟩ c2
    | go a2 b2 c2 d2 _ =>
      obtain ⟨rfl, _⟩ := least_uniq a a2 e
      rw [c] at b2; cases b2
      exact absurd ⟨b, rfl⟩ c2
  | skip a b c d _ ih =>
    intro m qs2 r2 e h2
    cases h2 with
    | stop a2 b2 c2 =>
      obtain ⟨rfl, _⟩ := least_uniq a a2 e
      rw [c2] at b; cases b
      exact absurd ⟨b2, rfl⟩ c
    | skip a2 b2 c2 d2 h2 =>
      obtain ⟨rfl, p⟩ := least_uniq a a2 e
      exact ih p h2
    | go a2 b2 c2 d2 _ =>
      obtain ⟨rfl, _⟩ := least_uniq a a2 e
      rw [b] at b2; cases b2
      exact absurd d d2
  | go a b c d _ ih =>
    intro m qs2 r2 e h2
    cases h2 with
    | stop a2 b2 c2 =>
      obtain ⟨rfl, _⟩ := least_uniq a a2 e
      rw [c2] at b; cases b
      exact absurd ⟨b2, rfl⟩ c
    | skip a2 b2 c2 d2 h2 =>
      obtain ⟨rfl, _⟩ := least_uniq a a2 e
      rw [b] at b2; cases b2
      exact absurd d2 d
    | go a2 b2 c2 d2 h2 =>
      obtain ⟨rfl, p⟩ := least_uniq a a2 e
      rw [b] at b2; cases b2
      exact ih (p.append_right _) h2
theorem Town.to_len (t : Town) (h : Int) : (t.to h).length ≤ t.lanes.length := by
  unfold Town.to
  rw [List.length_map]
  exact List.length_filter_le _ _
theorem Town.to_inn {t : Town} (ok : t.Ok) {a b : Int} (h : b ∈ t.to a) : 0 ≤ b ∧ b < t.n := by
  obtain ⟨_, _, c, d, _⟩ := ok.inn _ (Town.mem_to.mp h); exact ⟨c, d⟩
/-- the queue while the search goes on -/
structure QInv (t : Town) (qs : List QI) (dn : List Int) : Prop where
  path : ∀ q ∈ qs, q.2 ≠ [] ∧ Inn t q.2 ∧ q.2.length ≤ dn.length + 1
  few : qs.length ≤ 1 + 441 * dn.length
  nd : dn.Nodup
  inn : Inn t dn
theorem QInv.dn7 {t : Town} (ok : t.Ok) {qs : List QI} {dn : List Int} (h : QInv t qs dn) : dn.length ≤ 7 := Nat.le_trans (nodup_len h.nd h.inn) ok.n7
section
variable {P : Program} {w : World} {K : PySem.W.Frag} {mg : Str → Option Value} {base : Heap} {C : Addr}
structure Hx (mg : Str → Option Value) : Prop where
  push : mg "heappush" = some (.builtin "_heapq.heappush")
  pop : mg "heappop" = some (.builtin "_heapq.heappop")
def F_lightest_walk (C : Addr) (K : PySem.W.Frag) (ds : List D) (d : D) : Prop := ∃ (t : Town) (s : Int) (n : Nat) (r : QI), ds = [eTown C t, .int s] ∧ t.Ok ∧ 0 ≤ s ∧ s < t.n ∧ LW t s n [(0, [s])] [] r ∧ d = encQF r
theorem ok_lightest_walk {fa : Addr} {fd : FuncData} (U : Fun K "lightest_walk" "lightest_walk" s_p_lightest_walk fa fd) (T : Tx mg) (Hp' : Hx mg) (Sc : Sx K C) (D1 : Dm P w K mg base C "lends_to" 1 ["self", "house"] (F_lends_to C)) : FnOk P w K mg base CX0 2 fa fd ["street", "start"] (spD (F_lightest_walk C) K) := by
  refine dfn U sc_p_lightest_walk (fun ds d h => ?_) fun cdv A outer s H E ds d hr h => ?_
  · obtain ⟨t, s, n, r, rfl, _⟩ := h; rfl
  · obtain ⟨t, s, n, r, rfl, ok, h0, h1, hLW, rfl⟩ := h
    have few := ok.few
    refine ds_asgN (ds := [encQ (0, [s])]) 2 sc_p_lightest_walk.nd (dn_lst (da_cons (de_tup (da_cons de_int (da_cons (de_tup (da_cons (de_v 1) da_nil)) da_nil))) da_nil)) ?_
    refine ds_dict0 3 sc_p_lightest_walk.nd ?_
    refine ds_while (fun m ρ => ∃ qs dn, LW t s m qs dn r ∧ QInv t qs dn ∧ HeapQ qs ∧ ρ = [.fro (eTown C t), .fro (.int s), .own (qs.map encQ), .owo (dkD dn), .unk, .unk, .unk]) (fun _ => False) PassesOwn.never n
      ⟨[(0, [s])], [], hLW, ⟨fun q hq => by rw [List.mem_singleton.mp hq]; exact ⟨by simp, fun x hx => by rw [List.mem_singleton.mp hx]; exact ⟨h0, h1⟩, by simp⟩, by simp, by simp, fun x hx => by cases hx⟩, fun i hi hi2 => by simp at hi2; omega, rfl⟩
      (fun m ρ ⟨qs, dn, hw, hq, hh, e⟩ => ?_) (fun ρ h => h.elim)
    subst e
    have hpos : 0 < qs.length := by
      cases hw with
      | stop a _ _ => rw [← a.1.length_eq]; simp
      | skip a _ _ _ _ => rw [← a.1.length_eq]; simp
      | go a _ _ _ _ => rw [← a.1.length_eq]; simp
    have d7 := hq.dn7 ok
    have qlen : qs.length ≤ 1 + 441 * 7 := by have := hq.few; omega
    refine ⟨true, dt_eq (dt_gt (de_lenM T.b_len (dl_v 2)) de_int) (decide_eq_true (by omega)), fun _ => ?_, fun h => by cases h⟩
    refine ds_pop 2 hr Hp'.pop rfl (by omega) hpos hh fun q qs' hp hh' hmin => ⟨_, dg_tup2 rfl (dg_name 4 sc_p_lightest_walk.nd) (dg_name 5 sc_p_lightest_walk.nd), ?_⟩
    have lq : LeastQ q qs qs' := ⟨hp, hmin⟩
    have qm : q ∈ qs := hp.mem_iff.mp List.mem_cons_self
    obtain ⟨qne, qin, ql⟩ := hq.path q qm
    have sub : ∀ z ∈ qs', z ∈ qs := fun z hz => hp.mem_iff.mp (List.mem_cons_of_mem _ hz)
    have l' : qs'.length + 1 = qs.length := by have := hp.length_eq; rw [List.length_cons] at this; exact this
    obtain ⟨v, hv⟩ : ∃ v, q.2.getLast? = some v := by
      cases hg : q.2.getLast? with
      | none => exact absurd (List.getLast?_eq_none_iff.mp hg) qne
      | some v => exact ⟨v, rfl⟩
    have vm : v ∈ q.2 := List.mem_of_getLast? hv
    have vin := qin v vm
    have lastE : ∀ {X : Cx} {ρ : DL.Env} {e b : Expr} {pos : Pos}, DE X e ρ (.tup (q.2.map D.int)) → DE X b ρ (.int (-1)) → PlainIx b → DE X (.Subscript e b pos) ρ (.int v) := fun h1 h2 h3 => de_ixT h1 h2 (atI_map (f := D.int) (atI_end hv)) h3
    refine ds_ifR (b1 := decide (1 < q.2.length) && decide (v = s)) (dw_t (dw_and (dt_eq (dt_gt (de_lenTM T.b_len (de_v 5)) de_int) (decide_eq_decide.mpr (by omega))) fun h => (dw_and1 (dt_eqI (lastE (de_v 5) (de_neg de_int) (by intro _ _; rfl)) (de_v 1))))) (fun h => ?_) (fun h => ?_)
    · simp only [Bool.and_eq_true, decide_eq_true_iff] at h
      obtain ⟨hl, rfl⟩ := h
      have er : r = (q.1, q.2.dropLast) := by
        have := LW.uniq (LW.stop (n := 0) (t := t) (dn := dn) lq hl hv) (List.Perm.refl _) hw
        exact this.symm
      refine ds_ret (d := encQF r) (de_eq (de_tup (da_cons (de_v 4) (da_cons (de_lastN (xs := q.2) (f := D.int) (by omega) (de_v 5) (de_neg de_int)) da_nil))) (by rw [er])) rfl
    · have hns : ¬ (1 < q.2.length ∧ v = s) := fun z => by
        rw [decide_eq_true z.1, decide_eq_true z.2] at h; cases h
      have next : ∃ m', m' < m ∧ ((v ∈ dn ∧ LW t s m' qs' dn r) ∨ (v ∉ dn ∧ LW t s m' (qs' ++ t.exts q v) (dn ++ [v]) r)) := by
        cases hw with
        | stop a b c =>
          obtain ⟨rfl, _⟩ := least_uniq lq a (List.Perm.refl _)
          rw [hv] at c; cases c
          exact absurd ⟨b, rfl⟩ hns
        | skip a b c d h2 =>
          obtain ⟨rfl, p⟩ := least_uniq lq a (List.Perm.refl _)
          rw [hv] at b; cases b
          exact ⟨_, Nat.lt_succ_self _, .inl ⟨d, h2.perm p.symm⟩⟩
        | go a b c d h2 =>
          obtain ⟨rfl, p⟩ := least_uniq lq a (List.Perm.refl _)
          rw [hv] at b; cases b
          exact ⟨_, Nat.lt_succ_self _, .inr ⟨d, h2.perm (p.symm.append_right _)⟩⟩
      obtain ⟨m', hm', next⟩ := next
      refine ds_ifE (dt_ninO 3 hr (lastE (de_v 5) (de_neg de_int) (by intro _ _; rfl)) rfl) (fun hn => ?_) (fun hn => ?_)
      · have hn : v ∉ dn := by simpa using hn
        have hgo : LW t s m' (qs' ++ t.exts q v) (dn ++ [v]) r := next.elim (fun z => absurd z.1 hn) fun z => z.2
        refine ds_dput 3 hr (lastE (de_v 5) (de_neg de_int) (by intro _ _; rfl)) hn (by omega) rfl ?_
        refine ds_for (as := t.to v) (f := D.int) (js := [6]) (fun k ρ => ∃ ys, ys.Perm (qs' ++ (t.exts q v).take k) ∧ HeapQ ys ∧ ρ = [.fro (eTown C t), .fro (.int s), .own (ys.map encQ), .owo (dkD (dn ++ [v])), .fro (.int q.1), .fro (.tup (q.2.map D.int)), .unk]) (fun _ => False) PassesOwn.never rfl
          (di_tup (de_methD D1 hr (de_v 0) (da_cons (lastE (de_v 5) (de_neg de_int) (by intro _ _; rfl)) da_nil) ⟨t, v, rfl, vin.1, vin.2, rfl⟩ (hl := by kernel_rfl))) ⟨qs', by simp, hh', rfl⟩ (fun k hs ρ1 hk ⟨ys, hy, hhy, e⟩ => ?_) (fun ρ1 ⟨ys, hy, hhy, e⟩ => ?_) (fun _ h => h.elim)
        · subst e
          have hm : hs ∈ t.to v := List.mem_of_getElem? hk
          have hin := Town.to_inn ok hm
          have tl := t.to_len v
          have yl : ys.length ≤ 7000 := by
            have := hy.length_eq
            rw [List.length_append, List.length_take] at this
            unfold Town.exts at this
            rw [List.length_map] at this
            omega
          have ek : (t.exts q v).take (k + 1) = (t.exts q v).take k ++ [(q.1 + t.peg hs, q.2 ++ [hs])] := by
            rw [List.take_succ]
            congr 1
            unfold Town.exts
            rw [List.getElem?_map, hk]; rfl
          refine ⟨_, dg_name 6 sc_p_lightest_walk.nd, ?_⟩
          refine ds_push (q := (q.1 + t.peg hs, q.2 ++ [hs])) 2 hr Hp'.push rfl ?_ (by omega) hhy fun ys2 hy2 hhy2 => ds_unk 6 (ds_nil ⟨ys2, ?_, hhy2, rfl⟩)
          · refine de_eq (de_tup (da_cons (de_add (de_v 4) (de_ixTM default (de_fld (de_v 0) Sc.cl Sc.no_pegs rfl) (de_v 6) ⟨hin.1, hin.2⟩)) (da_cons (de_catA (de_v 5) (de_tup (da_cons (de_v 6) da_nil)) ?_) da_nil))) ?_
            · rw [List.length_map]; show _ + 1 ≤ _; omega
            · show D.tup [_, D.tup (q.2.map D.int ++ [D.int hs])] = D.tup [_, D.tup ((q.2 ++ [hs]).map D.int)]
              rw [List.map_append]; rfl
          · rw [ek]
            refine hy2.trans ((hy.cons _).trans ?_)
            rw [← List.append_assoc]
            exact (List.perm_append_singleton _ _).symm
        · subst e
          rw [List.take_of_length_le (by unfold Town.exts; rw [List.length_map]; exact Nat.le_refl _)] at hy
          refine ds_unk 4 (ds_unk 5 (ds_nil ⟨m', hm', ys, dn ++ [v], hgo.perm hy.symm, ⟨fun z hz => ?_, ?_, ?_, fun x hx => ?_⟩, hhy, rfl⟩))
          · rcases List.mem_append.mp (hy.mem_iff.mp hz) with hz | hz
            · obtain ⟨a1, a2, a3⟩ := hq.path z (sub z hz)
              exact ⟨a1, a2, by rw [List.length_append]; omega⟩
            · unfold Town.exts at hz
              obtain ⟨x, hx, rfl⟩ := List.mem_map.mp hz
              refine ⟨by simp, fun y hy' => ?_, by rw [List.length_append, List.length_append, List.length_singleton, List.length_singleton]; omega⟩
              rcases List.mem_append.mp hy' with hy' | hy'
              · exact qin y hy'
              · rw [List.mem_singleton.mp hy']; exact Town.to_inn ok hx
          · have := hy.length_eq
            rw [List.length_append] at this
            unfold Town.exts at this
            rw [List.length_map] at this
            have := t.to_len v
            have := hq.few
            rw [List.length_append, List.length_singleton]
            omega
          · rw [List.nodup_append]
            exact ⟨hq.nd, by simp, fun y hy z hz => by rw [List.mem_singleton.mp hz]; exact fun e => hn (e ▸ hy)⟩
          · rcases List.mem_append.mp hx with hx | hx
            · exact hq.inn x hx
            · rw [List.mem_singleton.mp hx]; exact vin
      · have hn : v ∈ dn := by simpa using hn
        have hsk : LW t s m' qs' dn r := next.elim (fun z => z.2) fun z => absurd hn z.1
        exact ds_unk 4 (ds_unk 5 (ds_nil ⟨m', hm', qs', dn, hsk, ⟨fun z hz => hq.path z (sub z hz), by have := hq.few; omega, hq.nd, hq.inn⟩, hh', rfl⟩))
end
end K6
set_option maxRecDepth 100000
set_option maxHeartbeats 4000000
namespace K6
open PySem PySem.Spec PyProof.Rows L2 Evl DL HQ
open PySem.W (dataLt)
def posOf (x : Int) : List Int → Nat
  | [] => 0
  | y :: ys => if y = x then 0 else posOf x ys + 1
theorem posOf_at {x : Int} : ∀ {r : List Int}, x ∈ r → r[posOf x r]? = some x ∧ ∀ m, m < posOf x r → r[m]? ≠ some x
  | y :: ys, h => by
    unfold posOf
    by_cases e : y = x
    · rw [if_pos e]
      exact ⟨by rw [e]; rfl, fun m hm => absurd hm (Nat.not_lt_zero _)⟩
    · rw [if_neg e]
      have hx : x ∈ ys := (List.mem_cons.mp h).resolve_left fun z => e z.symm
      obtain ⟨h1, h2⟩ := posOf_at hx
      refine ⟨h1, fun m hm => ?_⟩
      cases m with
      | zero => intro z; rw [List.getElem?_cons_zero] at z; exact e (Option.some.inj z)
      | succ m => rw [List.getElem?_cons_succ]; exact h2 m (by omega)
theorem posOf_lt {x : Int} {r : List Int} (h : x ∈ r) : posOf x r < r.length := (List.getElem?_eq_some_iff.mp (posOf_at h).1).1
/-- a ring turned so that it begins at x -/
def turnAt (r : List Int) (x : Int) : List Int := r.drop (posOf x r) ++ r.take (posOf x r)
def leastI : List Int → Int
  | [] => 0
  | [x] => x
  | x :: y :: ys => if x ≤ leastI (y :: ys) then x else leastI (y :: ys)
theorem leastI_mem : ∀ {r : List Int}, r ≠ [] → leastI r ∈ r
  | [x], _ => List.mem_singleton.mpr rfl
  | x :: y :: ys, _ => by
    unfold leastI
    split
    · exact List.mem_cons_self
    · exact List.mem_cons_of_mem _ (leastI_mem (by simp))
theorem leastI_le : ∀ {r : List Int}, ∀ z ∈ r, leastI r ≤ z
  | [x], z, h => by rw [List.mem_singleton.mp h]; exact Int.le_refl _
  | x :: y :: ys, z, h => by
    unfold leastI
    rcases List.mem_cons.mp h with e | h
    · subst e; split <;> omega
    · have := leastI_le (r := y :: ys) z h
      split <;> omega
theorem turnAt_mem {r : List Int} {x z : Int} : z ∈ turnAt r x ↔ z ∈ r := by
  unfold turnAt
  rw [List.mem_append]
  conv => rhs; rw [← List.take_append_drop (posOf x r) r, List.mem_append]
  exact Or.comm
theorem turnAt_len (r : List Int) (x : Int) : (turnAt r x).length = r.length := by
  unfold turnAt
  rw [List.length_append, List.length_drop, List.length_take]
  omega
/-- what lightest_ring finds for a part -/
def LRing (t : Town) (p : List Int) (r : List Int) : Prop := ∃ (g : Int → QI) (m : QI), (∀ h ∈ p, ∃ n, LW t h n [(0, [h])] [] (g h)) ∧ m ∈ p.map g ∧ (∀ y ∈ p.map g, dataLt (qPy y) (qPy m) = false) ∧ m.2 ≠ [] ∧ m.2.length ≤ 1000 ∧ r = turnAt m.2 (leastI m.2)
def ringAt (r : List Int) (j : Int) : Int := r.getD (j % (r.length : Int)).toNat default
theorem ringAt_ix {r : List Int} {j : Int} (h : -(r.length : Int) ≤ j) (h2 : j < r.length) : atI r j = some (ringAt r j) := by
  unfold ringAt
  by_cases h0 : 0 ≤ j
  · rw [Int.emod_eq_of_lt h0 h2]
    exact atI_getD default h0 h2
  · have e : j % (r.length : Int) = j + r.length := by
      rw [← Int.add_emod_right, Int.emod_eq_of_lt (by omega) (by omega)]
    rw [e]
    unfold atI ixN
    rw [if_neg h0, if_pos h]
    show r[(j + r.length).toNat]? = _
    have hl : (j + r.length).toNat < r.length := by omega
    rw [List.getD_eq_getElem?_getD, List.getElem?_eq_getElem hl]; rfl
/-- the way of a tool at its seat -/
def seatWay (r : List Int) (i : Int) : List Int := [ringAt r (i - 2), ringAt r (i - 1), ringAt r i]
def fillWays (t : Town) (r : List Int) (sh : Int) : List (List Int) := ((seatWay r 0 ++ [sh]) :: List.replicate (t.peg (ringAt r 0) - 1).toNat (seatWay r 0)) ++
  (List.range (r.length - 1)).flatMap fun k : Nat => List.replicate (t.peg (ringAt r ((r.length : Int) - 1 - k))).toNat (seatWay r ((r.length : Int) - 1 - k))
def fillLends (ws : List (List Int)) : List (Int × Int) := (List.range ws.length).flatMap fun k : Nat => ((ws.getD k []).drop 1).map fun h => ((k : Int), h)
abbrev eLend (p : Int × Int) : D := .tup [.str "lend", .int p.1, .int p.2]
abbrev eBack : D := .tup [.str "back", .int 0]
abbrev eRow (ws : List (List Int)) : D := .tup ((fillLends ws).map eLend ++ [eBack])
abbrev stickF (a b c d e : D) : List (Str × D) := [("ring", a), ("spur", b), ("count", c), ("owners", d), ("row", e)]
structure Kx (K : PySem.W.Frag) (C : Addr) : Prop where
  cl : Cls K C
  n1 : NoAttr K C "ring"
  n2 : NoAttr K C "spur"
  n3 : NoAttr K C "count"
  n4 : NoAttr K C "owners"
  n5 : NoAttr K C "row"
section
variable {P : Program} {w : World} {K : PySem.W.Frag} {mg : Str → Option Value} {base : Heap} {C CS : Addr}
def F_lightest_ring (C : Addr) (K : PySem.W.Frag) (ds : List D) (d : D) : Prop := ∃ (t : Town) (p r : List Int), ds = [eTown C t, eTup p] ∧ t.Ok ∧ Inn t p ∧ p.length ≤ 1000 ∧ LRing t p r ∧ d = .tupf (r.map D.int)
theorem ok_lightest_ring {fa : Addr} {fd : FuncData} (U : Fun K "lightest_ring" "lightest_ring" s_p_lightest_ring fa fd) (T : Tx mg) (D1 : Df P w K mg base "lightest_walk" 2 ["street", "start"] (F_lightest_walk C)) : FnOk P w K mg base CX0 3 fa fd ["street", "part"] (spD (F_lightest_ring C) K) := by
  refine dfn U sc_p_lightest_ring (fun ds d h => ?_) fun cdv A outer s H E ds d hr h => ?_
  · obtain ⟨t, p, r, rfl, _⟩ := h; rfl
  · obtain ⟨t, p, r, rfl, ok, hp, hl, ⟨g, m, hg, hm, hmin, hne, hml, rfl⟩, rfl⟩ := h
    refine ds_asgG (d := encQF m) (de_minQ encQF_ok rfl hr T.b_min (dn_l (dn_eq (dn_lc (as := p) D.int (fun h => encQF (g h)) (fun _ => true) [("house", 4)] rfl sc_p_lightest_ring.nd (di_tup (de_v 1)) (blkOk_by (N := N_p_lightest_ring) (sc := defScope s_p_lightest_ring) (by decide +kernel)) (by decide) (by omega) (fun _ _ _ _ _ a ha => (dg_name 4 sc_p_lightest_ring.nd)) (fun _ _ _ _ _ a ha => dts_nil)
      (fun _ _ _ _ _ a ha hb => (de_callD D1 hr (da_cons (de_v 0) (da_cons (de_v 4) da_nil)) (by obtain ⟨n, hn⟩ := hg a ha; exact ⟨t, a, n, g a, rfl, ok, (hp a ha).1, (hp a ha).2, hn, rfl⟩)))) (show _ = (p.map g).map encQF by rw [filt_all, List.map_map]; rfl))) hm hmin) (dg_tup2 rfl (dg_name 2 sc_p_lightest_ring.nd) (dg_name 3 sc_p_lightest_ring.nd)) ?_
    obtain ⟨h1, h2⟩ := posOf_at (leastI_mem hne)
    refine ds_asg 5 sc_p_lightest_ring.nd (de_indexT (ns := m.2) (de_v 3) (de_minIT rfl hr T.b_min (de_tf (de_v 3)) (leastI_mem hne) leastI_le) h1 h2) ?_
    refine ds_ret (de_eq (de_catF (de_fromF (i := (posOf (leastI m.2) m.2 : Int)) (xs := m.2) (f := D.int) (by omega) (de_v 3) (de_v 5)) (de_toF (i := (posOf (leastI m.2) m.2 : Int)) (xs := m.2) (f := D.int) (by omega) (de_v 3) (de_v 5)) ?_) ?_) rfl
    · rw [List.length_map, List.length_map, List.length_drop, List.length_take]; omega
    · rw [← List.map_append]; rfl
def F_Sticking (K : PySem.W.Frag) (ds : List D) (fs : List (Str × D)) : Prop := ∃ a b c d e, ds = [a, b, c, d, e] ∧ fs = stickF a b c d e
theorem ok_Sticking_init {fa : Addr} {fd : FuncData} (U : Fun K "__init__" "Sticking.__init__" s_p_Sticking_init fa fd) (Sc : Kx K CS) : FnOk P w K mg base CX0 1 fa fd ["self", "ring", "least_spur", "count", "owners", "row"] (spI F_Sticking CS K) := by
  refine dfnI U sc_p_Sticking_init (fun ds fs h => ?_) (by decide) fun cdv A outer s H E q ds fs hr h => ?_
  · obtain ⟨a, b, c, d, e, rfl, _⟩ := h; rfl
  · obtain ⟨a, b, c, d, e, rfl, rfl⟩ := h
    refine ds_fld 0 rfl (de_v 1) Sc.cl Sc.n1 rfl (by show (0 : Nat) < 900; decide) ?_
    refine ds_fld 0 rfl (de_v 2) Sc.cl Sc.n2 rfl (by show (1 : Nat) < 900; decide) ?_
    refine ds_fld 0 rfl (de_v 3) Sc.cl Sc.n3 rfl (by show (2 : Nat) < 900; decide) ?_
    refine ds_fld 0 rfl (de_v 4) Sc.cl Sc.n4 rfl (by show (3 : Nat) < 900; decide) ?_
    exact ds_fld 0 rfl (de_v 5) Sc.cl Sc.n5 rfl (by show (4 : Nat) < 900; decide) (ds_nil rfl)
noncomputable abbrev F_can_stick (C : Addr) := F_of C fun t => .bl (decide (0 < t.spurred.length))
theorem ok_can_stick {fa : Addr} {fd : FuncData} (U : Fun K "can_stick" "can_stick" s_p_can_stick fa fd) (T : Tx mg) (D1 : Df P w K mg base "spurred_parts" 4 ["street"] (F_spurred C)) : FnOk P w K mg base CX0 5 fa fd ["street"] (spD (F_can_stick C) K) := by
  refine dfn U sc_p_can_stick (fun ds d h => ?_) fun cdv A outer s H E ds d hr h => ?_
  · obtain ⟨t, rfl, _⟩ := h; rfl
  · obtain ⟨t, rfl, ok, rfl⟩ := h
    exact ds_ret (de_eq (de_gt (de_lenTM T.b_len (de_callD D1 hr (da_cons (de_v 0) da_nil) ⟨t, rfl, ok, rfl⟩)) de_int) (by congr 1; exact decide_eq_decide.mpr (by omega))) rfl
def F_turned_to (K : PySem.W.Frag) (ds : List D) (d : D) : Prop := ∃ (r : List Int) (x : Int), ds = [.tupf (r.map D.int), .int x] ∧ x ∈ r ∧ r.length ≤ 1000 ∧ d = .tupf ((turnAt r x).map D.int)
theorem ok_turned_to {fa : Addr} {fd : FuncData} (U : Fun K "turned_to" "turned_to" s_p_turned_to fa fd) : FnOk P w K mg base CX0 1 fa fd ["ring", "house"] (spD F_turned_to K) := by
  refine dfn U sc_p_turned_to (fun ds d h => ?_) fun cdv A outer s H E ds d hr h => ?_
  · obtain ⟨r, x, rfl, _⟩ := h; rfl
  · obtain ⟨r, x, rfl, hx, hl, rfl⟩ := h
    obtain ⟨h1, h2⟩ := posOf_at hx
    refine ds_asg 2 sc_p_turned_to.nd (de_indexT (ns := r) (de_v 0) (de_v 1) h1 h2) ?_
    refine ds_ret (de_eq (de_catF (de_fromF (i := (posOf x r : Int)) (xs := r) (f := D.int) (by omega) (de_v 0) (de_v 2)) (de_toF (i := (posOf x r : Int)) (xs := r) (f := D.int) (by omega) (de_v 0) (de_v 2)) ?_) ?_) rfl
    · rw [List.length_map, List.length_map, List.length_drop, List.length_take]; omega
    · rw [← List.map_append]; rfl
def F_seat_way (K : PySem.W.Frag) (ds : List D) (d : D) : Prop := ∃ (r : List Int) (i : Int), ds = [.tupf (r.map D.int), .int i] ∧ 2 ≤ r.length ∧ 0 ≤ i ∧ i < r.length ∧ d = eTup (seatWay r i)
theorem ok_seat_way {fa : Addr} {fd : FuncData} (U : Fun K "seat_way" "seat_way" s_p_seat_way fa fd) : FnOk P w K mg base CX0 1 fa fd ["ring", "index"] (spD F_seat_way K) := by
  refine dfn U sc_p_seat_way (fun ds d h => ?_) fun cdv A outer s H E ds d hr h => ?_
  · obtain ⟨r, i, rfl, _⟩ := h; rfl
  · obtain ⟨r, i, rfl, hl, h0, h1, rfl⟩ := h
    refine ds_ret (de_tup (ds := [.int (ringAt r (i - 2)), .int (ringAt r (i - 1)), .int (ringAt r i)]) (da_cons (de_ixT (de_tf (de_v 0)) (de_sub (de_v 1) de_int) (atI_map (f := D.int) (ringAt_ix (by omega) (by omega)))) (da_cons (de_ixT (de_tf (de_v 0)) (de_sub (de_v 1) de_int) (atI_map (f := D.int) (ringAt_ix (by omega) (by omega)))) (da_cons (de_ixT (de_tf (de_v 0)) (de_v 1) (atI_map (f := D.int) (ringAt_ix (by omega) (by omega)))) da_nil)))) rfl
theorem rep_one {α : Type} {f : α → D} (n : Nat) (x : α) : (List.replicate n [f x]).flatten = (List.replicate n x).map f := by
  induction n with
  | zero => rfl
  | succ n ih => rw [List.replicate_succ, List.flatten_cons, ih, List.replicate_succ]; rfl
def F_filling_ways (C : Addr) (K : PySem.W.Frag) (ds : List D) (d : D) : Prop := ∃ (t : Town) (r : List Int) (sh : Int), ds = [eTown C t, .tupf (r.map D.int), .int sh] ∧ t.Ok ∧ Inn t r ∧ 2 ≤ r.length ∧ r.length ≤ 1000 ∧ d = .lst ((fillWays t r sh).map eTup)
theorem peg_ok {t : Town} (ok : t.Ok) {h : Int} (h0 : 0 ≤ h ∧ h < t.n) : 1 ≤ t.peg h ∧ t.peg h ≤ 9 := by
  refine ok.peg _ ?_
  unfold Town.peg
  have : h.toNat < t.pegs.length := by have := h0.2; unfold Town.n at this; omega
  rw [List.getD_eq_getElem?_getD, List.getElem?_eq_getElem this]
  exact List.getElem_mem this
theorem ringAt_in {t : Town} {r : List Int} (hr : Inn t r) {j : Int} (h : -(r.length : Int) ≤ j) (h2 : j < r.length) : 0 ≤ ringAt r j ∧ ringAt r j < t.n := by
  have := ringAt_ix h h2
  unfold atI at this
  cases q : ixN r.length j with
  | none => rw [q] at this; cases this
  | some k => rw [q] at this; exact hr _ (List.mem_of_getElem? this)
theorem ok_filling_ways {fa : Addr} {fd : FuncData} (U : Fun K "filling_ways" "filling_ways" s_p_filling_ways fa fd) (T : Tx mg) (Sc : Sx K C) (D1 : Df P w K mg base "seat_way" 1 ["ring", "index"] F_seat_way) : FnOk P w K mg base CX0 2 fa fd ["street", "ring", "shelter"] (spD (F_filling_ways C) K) := by
  refine dfn U sc_p_filling_ways (fun ds d h => ?_) fun cdv A outer s H E ds d hr h => ?_
  · obtain ⟨t, r, sh, rfl, _⟩ := h; rfl
  · obtain ⟨t, r, sh, rfl, ok, hi, h2, hl, rfl⟩ := h
    have r0 := ringAt_in hi (j := 0) (by omega) (by omega)
    have p0 := peg_ok ok r0
    have pegE : ∀ {X : Cx} {ρ : DL.Env} {e b : Expr} {pos : Pos} {h : Int}, DE X e ρ (.tup (t.pegs.map D.int)) → DE X b ρ (.int h) → 0 ≤ h ∧ h < t.n → PlainIx b → DE X (.Subscript e b pos) ρ (.int (t.peg h)) := fun h1 h2 h3 h4 => de_ixTM default h1 h2 ⟨h3.1, h3.2⟩ h4
    refine ds_asgN (ds := [eTup (seatWay r 0 ++ [sh])]) 3 sc_p_filling_ways.nd (dn_lst (da_cons (de_eq (de_catA (de_callD D1 hr (da_cons (de_v 1) (da_cons de_int da_nil)) ⟨r, 0, rfl, h2, by omega, by omega, rfl⟩) (de_tup (da_cons (de_v 2) da_nil)) (by simp [seatWay])) rfl) da_nil)) ?_
    refine ds_iadd 3 sc_p_filling_ways.nd rfl (dn_eq (dn_rep (ds := [eTup (seatWay r 0)]) (dn_e (dn_lst (da_cons (de_callD D1 hr (da_cons (de_v 1) (da_cons de_int da_nil)) ⟨r, 0, rfl, h2, by omega, by omega, rfl⟩) da_nil))) (de_sub (pegE (de_fld (de_v 0) Sc.cl Sc.no_pegs rfl) (de_ixT (de_tf (de_v 1)) de_int (atI_map (f := D.int) (ringAt_ix (by omega) (by omega)))) r0 (by intro _ _; rfl)) de_int) ⟨by simp, by omega, by omega⟩) (rep_one _ _)) (by simp; omega) ?_
    refine ds_for (as := List.range (r.length - 1)) (f := fun k : Nat => D.int ((r.length : Int) - 1 - (k : Int))) (js := [4]) (fun i ρ => ρ = [.fro (eTown C t), .fro (.tupf (r.map D.int)), .fro (.int sh), .own ((((seatWay r 0 ++ [sh]) :: List.replicate (t.peg (ringAt r 0) - 1).toNat (seatWay r 0)) ++
      ((List.range (r.length - 1)).take i).flatMap fun k : Nat => List.replicate (t.peg (ringAt r ((r.length : Int) - 1 - k))).toNat (seatWay r ((r.length : Int) - 1 - k))).map eTup), .unk]) (fun _ => False) PassesOwn.never rfl ?_ ?_ (fun i a ρ1 hk h => ⟨_, dg_name 4 sc_p_filling_ways.nd, ?_⟩) (fun ρ1 h => ?_) (fun _ h => h.elim)
    · have e : (((r.length : Int) - 1) - 0).toNat = r.length - 1 := by omega
      rw [← e]
      exact di_rangeDn T.b_range (de_sub (de_lenTM T.b_len (de_tf (de_v 1))) de_int) de_int (de_neg de_int) ⟨by omega, by omega, by omega, by omega⟩
    · simp only [List.take_zero, List.flatMap_nil, List.append_nil, List.map_cons, List.map_replicate]; rfl
    · subst h
      have ha := List.mem_range.mp (List.mem_of_getElem? hk)
      have tk : (List.range (r.length - 1)).take (i + 1) = (List.range (r.length - 1)).take i ++ [a] := by rw [List.take_succ, hk]; rfl
      have ra := ringAt_in hi (j := (r.length : Int) - 1 - a) (by omega) (by omega)
      have pa := peg_ok ok ra
      have flen : (((List.range (r.length - 1)).take i).flatMap fun k : Nat => List.replicate (t.peg (ringAt r ((r.length : Int) - 1 - k))).toNat (seatWay r ((r.length : Int) - 1 - k))).length ≤ 9 * 1000 := by
        rw [List.length_flatMap]
        have : ∀ (l : List Nat), (∀ k ∈ l, k < r.length - 1) → (l.map fun k : Nat => (List.replicate (t.peg (ringAt r ((r.length : Int) - 1 - k))).toNat (seatWay r ((r.length : Int) - 1 - k))).length).sum ≤ 9 * l.length := by
          intro l hl
          induction l with
          | nil => simp
          | cons k l ih =>
            have := ih fun k hk => hl k (List.mem_cons_of_mem _ hk)
            have hk := hl k List.mem_cons_self
            have pk := peg_ok ok (ringAt_in hi (j := (r.length : Int) - 1 - k) (by omega) (by omega))
            rw [List.map_cons, List.sum_cons, List.length_replicate, List.length_cons]
            omega
        have := this ((List.range (r.length - 1)).take i) fun k hk => List.mem_range.mp (List.mem_of_mem_take hk)
        rw [List.length_take, List.length_range] at this
        omega
      refine ds_iadd 3 sc_p_filling_ways.nd rfl (dn_eq (dn_rep (ds := [eTup (seatWay r ((r.length : Int) - 1 - a))]) (dn_e (dn_lst (da_cons (de_callD D1 hr (da_cons (de_v 1) (da_cons (de_v 4) da_nil)) ⟨r, _, rfl, h2, by omega, by omega, rfl⟩) da_nil))) (pegE (de_fld (de_v 0) Sc.cl Sc.no_pegs rfl) (de_ixT (de_tf (de_v 1)) (de_v 4) (atI_map (f := D.int) (ringAt_ix (by omega) (by omega)))) ra (by intro _ _; rfl)) ⟨by simp, by omega, by omega⟩) (rep_one _ _)) ?_ (ds_unk 4 (ds_nil ?_))
      · rw [List.length_map, List.length_map, List.length_replicate, List.length_append, List.length_cons, List.length_replicate]
        omega
      · rw [tk, List.flatMap_append]
        show _ = [_, _, _, Cell.own _, _]
        simp only [List.flatMap_cons, List.flatMap_nil, List.append_nil, List.map_append]
        rw [← List.append_assoc]
        rfl
    · subst h
      refine ds_retO 3 rfl ?_
      rw [List.take_of_length_le (by rw [List.length_range]; exact Nat.le_refl _)]
      rfl
end
end K6
set_option maxRecDepth 100000
set_option maxHeartbeats 4000000
namespace K6
open PySem PySem.Spec PyProof.Rows L2 Evl DL HQ
open PySem.W (dataLt)
section
variable {P : Program} {w : World} {K : PySem.W.Frag} {mg : Str → Option Value} {base : Heap} {C CS : Addr}
def F_filling_row (K : PySem.W.Frag) (ds : List D) (d : D) : Prop := ∃ ws : List (List Int), ds = [.lst (ws.map eTup)] ∧ ws.length ≤ 1000 ∧ (∀ v ∈ ws, v.length ≤ 10) ∧ d = eRow ws
theorem flat_len {α β : Type} {f : α → List β} {m : Nat} : ∀ (l : List α), (∀ a ∈ l, (f a).length ≤ m) → (l.flatMap f).length ≤ m * l.length
  | [], _ => by simp
  | a :: l, h => by
    rw [List.flatMap_cons, List.length_append, List.length_cons]
    have h1 := h a List.mem_cons_self
    have h2 := flat_len l fun b hb => h b (List.mem_cons_of_mem _ hb)
    have : m * (l.length + 1) = m * l.length + m := Nat.mul_succ _ _
    omega
theorem ok_filling_row {fa : Addr} {fd : FuncData} (U : Fun K "filling_row" "filling_row" s_p_filling_row fa fd) (T : Tx mg) : FnOk P w K mg base CX0 1 fa fd ["ways"] (spD F_filling_row K) := by
  refine dfn U sc_p_filling_row (fun ds d h => ?_) fun cdv A outer s H E ds d hr h => ?_
  · obtain ⟨ws, rfl, _⟩ := h; rfl
  · obtain ⟨ws, rfl, hl, hv, rfl⟩ := h
    have wk : ∀ k, k < ws.length → ws.getD k [] ∈ ws := fun k hk => by
      rw [List.getD_eq_getElem?_getD, List.getElem?_eq_getElem hk]; exact List.getElem_mem hk
    have small : ((List.range ws.length).flatMap fun k : Nat => (ws.getD k []).drop 1).length ≤ 10 * 1000 := by
      have := flat_len (m := 10) (f := fun k : Nat => (ws.getD k []).drop 1) (List.range ws.length) fun k hk => by
        have := hv _ (wk k (List.mem_range.mp hk))
        rw [List.length_drop]; omega
      rw [List.length_range] at this
      omega
    have el : ((List.range ws.length).flatMap fun k : Nat => ((ws.getD k []).drop 1).map fun h => eLend ((k : Int), h)) = (fillLends ws).map eLend := by
      unfold fillLends
      rw [List.map_flatMap]
      congr 1
      funext k
      rw [List.map_map]; rfl
    refine ds_asgLc2 (as := List.range ws.length) 1 (fun k : Nat => D.tup [.int (k : Int), eTup (ws.getD k [])]) (fun k : Nat => (ws.getD k []).drop 1) (fun _ h => D.int h) (fun k h => eLend ((k : Int), h)) [("tool", 2), ("way", 3), ("house", 4)] [4] rfl sc_p_filling_row.nd (di_enumLM [] T.b_enumerate (de_v 0)) (blkOk_by (N := N_p_filling_row) (sc := defScope s_p_filling_row) (by decide +kernel)) (by decide) (by decide) (by decide) (by omega)
      (fun _ _ _ _ _ k hk => dg_tup2 rfl (dg_name 2 sc_p_filling_row.nd) (dg_name 3 sc_p_filling_row.nd)) (fun _ _ _ _ _ k hk => di_tup (de_fromT (i := 1) (xs := ws.getD k []) (f := D.int) (by decide) (de_v 3) de_int)) (fun _ _ _ _ _ k hk h hh => dg_name 4 sc_p_filling_row.nd) (fun _ _ _ _ _ k hk h hh => de_tup (da_cons de_str (da_cons (de_v 2) (da_cons (de_v 4) da_nil)))) ?_
    rw [el]
    refine ds_freeze 1 rfl ?_
    refine ds_ret (de_tuple T.b_tuple (dn_l (dn_cat (de_v 1) (dn_e (dn_lst (ds := [eBack]) (da_cons (de_tup (da_cons de_str (da_cons de_int da_nil))) da_nil))) ?_))) rfl
    rw [← el]
    have : ((List.range ws.length).flatMap fun k : Nat => ((ws.getD k []).drop 1).map fun h => eLend ((k : Int), h)).length = ((List.range ws.length).flatMap fun k : Nat => (ws.getD k []).drop 1).length := by
      rw [List.length_flatMap, List.length_flatMap]
      congr 1
      exact List.map_congr_left fun k _ => by rw [List.length_map]
    rw [this]
    show _ + 1 ≤ _
    omega
/-- what sticking finds -/
structure StickOf (t : Town) (g : List Int → List Int) (m : QI) (sp : Int × Int) : Prop where
  rings : ∀ p ∈ t.spurred, LRing t p (g p) ∧ Inn t (g p) ∧ (g p).length ≤ 100
  mem : m ∈ t.spurred.map fun p => (t.weight (g p), g p)
  least : ∀ y ∈ t.spurred.map (fun p => (t.weight (g p), g p)), dataLt (qPy y) (qPy m) = false
  two : 2 ≤ m.2.length
  spur : t.spur m.2 = some sp
  few : m.1 ≤ 20 → (fillWays t (turnAt m.2 sp.1) sp.2).length ≤ 100
abbrev stickD (CS : Addr) (t : Town) (m : QI) (sp : Int × Int) : D := .ins CS (if 20 < m.1 then stickF (.tupf (m.2.map D.int)) (encP sp) (.int m.1) .non .non
  else stickF (.tupf (m.2.map D.int)) (encP sp) (.int m.1) (eTup ((fillWays t (turnAt m.2 sp.1) sp.2).map fun v => v.getD 0 default)) (eRow (fillWays t (turnAt m.2 sp.1) sp.2)))
def F_sticking (C CS : Addr) (K : PySem.W.Frag) (ds : List D) (d : D) : Prop := ∃ t : Town, ds = [eTown C t] ∧ t.Ok ∧ ((t.spurred = [] ∧ d = .non) ∨ ∃ g m sp, StickOf t g m sp ∧ d = stickD CS t m sp)
theorem spur_mem {t : Town} {r : List Int} {sp : Int × Int} (h : t.spur r = some sp) : sp ∈ t.lanes ∧ sp.1 ∈ r ∧ sp.2 ∉ r := by
  have h1 := List.mem_of_find?_eq_some h
  have h2 := List.find?_some h
  simp only [Bool.and_eq_true, decide_eq_true_iff, Bool.not_eq_true', decide_eq_false_iff_not] at h2
  exact ⟨h1, h2.1, h2.2⟩
theorem fill_way_len {t : Town} {r : List Int} {sh : Int} : ∀ v ∈ fillWays t r sh, 3 ≤ v.length ∧ v.length ≤ 4 := fun v hv => by
  unfold fillWays at hv
  rcases List.mem_append.mp hv with hv | hv
  · rcases List.mem_cons.mp hv with e | hv
    · rw [e]; simp [seatWay]
    · rw [(List.mem_replicate.mp hv).2]; simp [seatWay]
  · obtain ⟨k, _, hv⟩ := List.mem_flatMap.mp hv
    rw [(List.mem_replicate.mp hv).2]; simp [seatWay]
theorem ok_sticking {fa : Addr} {fd : FuncData} (U : Fun K "sticking" "sticking" s_p_sticking fa fd) (T : Tx mg) (D1 : Df P w K mg base "spurred_parts" 4 ["street"] (F_spurred C)) (D2 : Df P w K mg base "lightest_ring" 3 ["street", "part"] (F_lightest_ring C)) (D3 : Df P w K mg base "ring_weight" 3 ["street", "ring"] (F_ring_weight C))
    (D4 : Df P w K mg base "spur" 3 ["street", "ring"] (F_spur C)) (D5 : Dk P w K mg base "Sticking" CS 1 ["self", "ring", "least_spur", "count", "owners", "row"] F_Sticking) (D6 : Df P w K mg base "filling_ways" 2 ["street", "ring", "shelter"] (F_filling_ways C)) (D7 : Df P w K mg base "turned_to" 1 ["ring", "house"] F_turned_to) (D8 : Df P w K mg base "filling_row" 1 ["ways"] F_filling_row) :
    FnOk P w K mg base CX0 5 fa fd ["street"] (spD (F_sticking C CS) K) := by
  refine dfn U sc_p_sticking (fun ds d h => ?_) fun cdv A outer s H E ds d hr h => ?_
  · obtain ⟨t, rfl, _⟩ := h; rfl
  · obtain ⟨t, rfl, ok, h⟩ := h
    have n7 := ok.n7
    obtain ⟨g, hg, hd⟩ : ∃ g : List Int → List Int, (∀ p ∈ t.spurred, LRing t p (g p) ∧ Inn t (g p) ∧ (g p).length ≤ 100) ∧ ((t.spurred = [] ∧ d = .non) ∨ ∃ m sp, StickOf t g m sp ∧ d = stickD CS t m sp) := by
      rcases h with ⟨h1, h2⟩ | ⟨g, m, sp, h1, h2⟩
      · exact ⟨fun _ => [], ⟨fun p hp => (by rw [h1] at hp; cases hp), .inl ⟨h1, h2⟩⟩⟩
      · exact ⟨g, h1.rings, .inr ⟨m, sp, h1, h2⟩⟩
    have sl : t.spurred.length ≤ 7 := by
      unfold Town.spurred
      exact Nat.le_trans (List.length_filter_le _ _) (Nat.le_trans t.parts_len n7)
    have pin : ∀ p ∈ t.spurred, p.length ≤ t.n ∧ Inn t p := fun p hp => t.parts_inn (List.mem_filter.mp hp).1
    refine ds_asgLc (as := t.spurred) 1 eTup (fun p => .tupf ((g p).map D.int)) (fun _ => true) [("part", 2)] rfl sc_p_sticking.nd (di_tup (de_callD D1 hr (da_cons (de_v 0) da_nil) ⟨t, rfl, ok, rfl⟩)) (blkOk_by (N := N_p_sticking) (sc := defScope s_p_sticking) (by decide +kernel)) (by decide) (by omega) (fun _ _ _ _ _ a ha => (dg_name 2 sc_p_sticking.nd)) (fun _ _ _ _ _ a ha => dts_nil)
      (fun _ _ _ _ _ a ha hb => (de_callD D2 hr (da_cons (de_v 0) (da_cons (de_v 2) da_nil)) ⟨t, a, g a, rfl, ok, (pin a ha).2, by have := (pin a ha).1; omega, (hg a ha).1, rfl⟩)) ?_
    rw [filt_all]
    refine ds_freeze 1 rfl ?_
    refine ds_ifR (dt_eq (b' := decide (t.spurred = [])) (dt_eqI (de_lenM T.b_len (de_l (de_v 1))) de_int) (decide_eq_decide.mpr (by rw [← List.length_eq_zero_iff]; omega))) (fun h0 => ?_) (fun h0 => ?_)
    · have h0 := of_decide_eq_true h0
      rcases hd with ⟨_, rfl⟩ | ⟨m, sp, h1, _⟩
      · exact ds_ret de_non rfl
      · have := h1.mem
        rw [h0] at this; cases this
    · have h0 := of_decide_eq_false h0
      obtain ⟨m, sp, hs, rfl⟩ := hd.resolve_left fun z => h0 z.1
      obtain ⟨p0, hp0, em⟩ := List.mem_map.mp hs.mem
      have m2 : m.2 = g p0 := by rw [← em]
      have min2 : Inn t m.2 := m2 ▸ (hg p0 hp0).2.1
      have ml : m.2.length ≤ 100 := m2 ▸ (hg p0 hp0).2.2
      obtain ⟨s1, s2, s3⟩ := spur_mem hs.spur
      refine ds_asgG (d := encQF m) (de_minQ encQF_ok rfl hr T.b_min (dn_l (dn_eq (dn_lc (as := t.spurred) (fun p => .tupf ((g p).map D.int)) (fun p => encQF (t.weight (g p), g p)) (fun _ => true) [("ring", 4)] rfl sc_p_sticking.nd (di_lst (de_v 1)) (blkOk_by (N := N_p_sticking) (sc := defScope s_p_sticking) (by decide +kernel)) (by decide) (by omega) (fun _ _ _ _ _ a ha => (dg_name 4 sc_p_sticking.nd)) (fun _ _ _ _ _ a ha => dts_nil)
        (fun _ _ _ _ _ a ha hb => de_tup (da_cons (de_callD D3 hr (da_cons (de_v 0) (da_cons (de_v 4) da_nil)) ⟨t, g a, rfl, (hg a ha).2.1, by have := (hg a ha).2.2; omega, rfl⟩) (da_cons (de_v 4) da_nil)))) (show _ = (t.spurred.map fun p => (t.weight (g p), g p)).map encQF by rw [filt_all, List.map_map]; rfl))) hs.mem hs.least) (dg_tup2 rfl (dg_name 3 sc_p_sticking.nd) (dg_name 4 sc_p_sticking.nd)) ?_
      refine ds_asg (d := encP sp) 5 sc_p_sticking.nd (de_callD D4 hr (da_cons (de_v 0) (da_cons (de_v 4) da_nil)) ⟨t, m.2, rfl, by omega, by rw [hs.spur]⟩) ?_
      refine ds_ifR (dt_gt (de_v 3) de_int) (fun h20 => ?_) (fun h20 => ?_)
      · refine ds_ret (de_make D5 hr (da_cons (de_v 4) (da_cons (de_v 5) (da_cons (de_v 3) (da_cons de_non (da_cons de_non da_nil))))) ⟨_, _, _, _, _, rfl, rfl⟩) ?_
        show D.ins CS _ = stickD CS t m sp
        unfold stickD
        rw [if_pos (of_decide_eq_true h20)]
      · have h20 := of_decide_eq_false h20
        have few := hs.few (by omega)
        have tin : Inn t (turnAt m.2 sp.1) := fun x hx => min2 x (turnAt_mem.mp hx)
        have tl := turnAt_len m.2 sp.1
        have s0 : ∀ {X : Cx} {ρ : DL.Env} {e b : Expr} {pos : Pos}, DE X e ρ (encP sp) → DE X b ρ (.int 0) → PlainIx b → DE X (.Subscript e b pos) ρ (.int sp.1) := fun h1 h2 h3 => de_ixT h1 h2 rfl h3
        have s1' : ∀ {X : Cx} {ρ : DL.Env} {e b : Expr} {pos : Pos}, DE X e ρ (encP sp) → DE X b ρ (.int 1) → PlainIx b → DE X (.Subscript e b pos) ρ (.int sp.2) := fun h1 h2 h3 => de_ixT h1 h2 rfl h3
        refine ds_asg 6 sc_p_sticking.nd (de_callD D6 hr (da_cons (de_v 0) (da_cons (de_callD D7 hr (da_cons (de_v 4) (da_cons (s0 (de_v 5) de_int (by intro _ _; rfl)) da_nil)) ⟨m.2, sp.1, rfl, s2, by omega, rfl⟩) (da_cons (s1' (de_v 5) de_int (by intro _ _; rfl)) da_nil))) ⟨t, turnAt m.2 sp.1, sp.2, rfl, ok, tin, by rw [tl]; exact hs.two, by rw [tl]; omega, rfl⟩) ?_
        refine ds_asg (d := eTup ((fillWays t (turnAt m.2 sp.1) sp.2).map fun v => v.getD 0 default)) 7 sc_p_sticking.nd (de_tuple T.b_tuple (dn_l (dn_eq (dn_lc (as := fillWays t (turnAt m.2 sp.1) sp.2) eTup (fun v => D.int (v.getD 0 default)) (fun _ => true) [("way", 8)] rfl sc_p_sticking.nd (di_lst (de_v 6)) (blkOk_by (N := N_p_sticking) (sc := defScope s_p_sticking) (by decide +kernel)) (by decide) (by omega) (fun _ _ _ _ _ a ha => (dg_name 8 sc_p_sticking.nd)) (fun _ _ _ _ _ a ha => dts_nil)
          (fun _ _ _ _ _ a ha hb => de_ixTM (i := 0) (xs := a) (f := D.int) default (de_v 8) de_int ⟨by decide, by have := (fill_way_len a ha).1; omega⟩)) (by rw [filt_all, List.map_map]; rfl)))) ?_
        refine ds_ret (de_make D5 hr (da_cons (de_v 4) (da_cons (de_v 5) (da_cons (de_v 3) (da_cons (de_v 7) (da_cons (de_callD D8 hr (da_cons (de_v 6) da_nil) ⟨fillWays t (turnAt m.2 sp.1) sp.2, rfl, by omega, fun v hv => by have := (fill_way_len v hv).2; omega, rfl⟩) da_nil))))) ⟨_, _, _, _, _, rfl, rfl⟩) ?_
        show D.ins CS _ = stickD CS t m sp
        unfold stickD
        rw [if_neg h20]
end
end K6
set_option maxRecDepth 100000
set_option maxHeartbeats 4000000
namespace K6
open PySem PySem.Spec PyProof.Rows L2 Evl DL
/-! ### numbers out of a script -/
def seedOf (script : List Int) : Int := script.foldl (fun s v => (s * 31 + v % 1000003) % 1000003) 172
def cell (script : List Int) (k : Int) : Int := if k < script.length then script.getD k.toNat default else ((seedOf script + 7) * (k + 3) * 69621) % 2147483647
def F_l_cell (K : PySem.W.Frag) (ds : List D) (d : D) : Prop := ∃ (script : List Int) (k : Int), ds = [.lsk (script.map D.int), .int k] ∧ 0 ≤ k ∧ k ≤ 1000 ∧ d = .int (cell script k)
section
variable {P : Program} {w : World} {K : PySem.W.Frag} {mg : Str → Option Value} {base : Heap}
theorem ok_l_cell {fa : Addr} {fd : FuncData} (U : Fun K "_law_cell" "_law_cell" s_l_cell fa fd) (T : Tx mg) : FnOk P w K mg base CX0 1 fa fd ["_law_script", "_law_k"] (spD F_l_cell K) := by
  refine dfn U sc_l_cell (fun ds d h => ?_) fun cdv A outer s H E ds d hr h => ?_
  · obtain ⟨script, k, rfl, _⟩ := h; rfl
  · obtain ⟨script, k, rfl, hk, hk2, rfl⟩ := h
    refine ds_ifR (dt_lt (de_v 1) (de_lenL T.b_len (de_lk (de_v 0)))) (fun h => ?_) (fun h => ?_)
    · have h := of_decide_eq_true h
      rw [List.length_map] at h
      refine ds_ret (de_ixM default (de_lk (de_v 0)) (de_v 1) ⟨hk, h⟩) ?_
      show D.int _ = D.int (cell script k)
      unfold cell
      rw [if_pos h]
    · have h := of_decide_eq_false h
      rw [List.length_map] at h
      refine ds_asg 2 sc_l_cell.nd de_int ?_
      refine ds_for (f := D.int) (js := [3]) (fun i ρ => ρ = [.fro (.lsk (script.map D.int)), .fro (.int k), .fro (.int ((script.take i).foldl (fun s v => (s * 31 + v % 1000003) % 1000003) 172)), .unk]) (fun _ => False) PassesOwn.never rfl (di_lsk (de_v 0)) rfl (fun i a ρ1 hi h1 => ?_) (fun ρ1 h1 => ?_) (fun _ h => h.elim)
      · subst h1
        refine ⟨_, (dg_name 3 sc_l_cell.nd), ?_⟩
        refine ds_asg 2 sc_l_cell.nd (de_mod (de_int1 T.b_int (de_add (de_mul (de_v 2) de_int (.inr (by decide))) (de_mod (de_int1 T.b_int (de_v 3)) de_int (by decide)))) de_int (by decide)) ?_
        refine ds_unk 3 (ds_nil ?_)
        rw [foldl_next hi]
        rfl
      · subst h1
        refine ds_ret (de_mod (de_int1 T.b_int (de_mul (de_mul (de_add (de_v 2) de_int) (de_add (de_v 1) de_int) (.inr (by constructor <;> omega))) de_int (.inr (by decide)))) de_int (by decide)) ?_
        show D.int _ = D.int (cell script k)
        unfold cell
        rw [if_neg h, List.take_length]
        rfl
/-! ### digits -/
def dstep1 (t : List Int × Int) (z : Int) : List Int × Int := (t.1 ++ [t.2 % z], t.2 / z)
def dseed (s : Int) (k : Nat) : Int := (s * 48271 + 974711 * (k : Int) + 12345) % 2147483647
def dtwice (s : Int) : Int := (s * (s / 65537 + 3)) % 2147483629
def dstep2 (sizes : List Int) (t : List Int × Int) (k : Nat) : List Int × Int := (t.1 ++ [dtwice (dseed t.2 k) / 19 % sizes.getD k default], dseed t.2 k)
def digits (c : Int) (sizes : List Int) : List Int :=
  if 1000000000000000000 ≤ c then (sizes.foldl dstep1 ([], c - 1000000000000000000)).1 else ((List.range sizes.length).foldl (dstep2 sizes) ([], c % 2147483629)).1
theorem step1_len : ∀ (zs : List Int) (t : List Int × Int), (zs.foldl dstep1 t).1.length = t.1.length + zs.length
  | [], t => rfl
  | z :: zs, t => by
    rw [List.foldl_cons, step1_len zs]
    show (t.1 ++ [_]).length + zs.length = _
    rw [List.length_append, List.length_cons, List.length_cons]
    simp; omega
theorem step2_len (sizes : List Int) : ∀ (zs : List Nat) (t : List Int × Int), (zs.foldl (dstep2 sizes) t).1.length = t.1.length + zs.length
  | [], t => rfl
  | z :: zs, t => by
    rw [List.foldl_cons, step2_len sizes zs]
    show (t.1 ++ [_]).length + zs.length = _
    rw [List.length_append, List.length_cons, List.length_cons]
    simp; omega
theorem dseed_bd (s : Int) (k : Nat) : 0 ≤ dseed s k ∧ dseed s k < 2147483647 := by
  unfold dseed
  constructor
  · exact Int.emod_nonneg _ (by decide)
  · exact Int.emod_lt_of_pos _ (by decide)
def Sizes (sizes : List Int) : Prop := sizes.length ≤ 200 ∧ ∀ z ∈ sizes, 0 < z ∧ z < 1000000
def F_l_digits (K : PySem.W.Frag) (ds : List D) (d : D) : Prop := ∃ (c : Int) (sizes : List Int), ds = [.int c, eInts sizes] ∧ Sizes sizes ∧ d = eInts (digits c sizes)
theorem ok_l_digits {fa : Addr} {fd : FuncData} (U : Fun K "_law_digits" "_law_digits" s_l_digits fa fd) (T : Tx mg) : FnOk P w K mg base CX0 1 fa fd ["_law_cell_here", "_law_sizes"] (spD F_l_digits K) := by
  refine dfn U sc_l_digits (fun ds d h => ?_) fun cdv A outer s H E ds d hr h => ?_
  · obtain ⟨c, sizes, rfl, _⟩ := h; rfl
  · obtain ⟨c, sizes, rfl, ⟨hl, hz⟩, rfl⟩ := h
    have hzi : ∀ {i : Nat} {a : Int}, sizes[i]? = some a → 0 < a ∧ a < 1000000 := fun h => hz _ (List.mem_of_getElem? h)
    refine ds_asgN 2 sc_l_digits.nd (dn_lst da_nil) ?_
    refine ds_asg 3 sc_l_digits.nd (de_int1 T.b_int (de_v 0)) ?_
    refine ds_ifR (dt_ge (de_v 3) (de_powC de_int de_int (by decide) (v := 1000000000000000000) (by decide +kernel))) (fun h => ?_) (fun h => ?_)
    · have h := of_decide_eq_true h
      refine ds_asg 3 sc_l_digits.nd (de_sub (de_v 3) (de_powC de_int de_int (by decide) (v := 1000000000000000000) (by decide +kernel))) ?_
      refine ds_for (f := D.int) (js := [4]) (fun i ρ => ρ = [.fro (.int c), .fro (eInts sizes), .own (((sizes.take i).foldl dstep1 ([], c - 1000000000000000000)).1.map D.int), .fro (.int ((sizes.take i).foldl dstep1 ([], c - 1000000000000000000)).2), .unk, .unk, .unk, .unk]) (fun _ => False) PassesOwn.never rfl (di_lst (de_v 1)) rfl
        (fun i a ρ1 hi h1 => ⟨_, (dg_name 4 sc_l_digits.nd), ?_⟩) (fun ρ1 h1 => ?_) (fun _ h => h.elim)
      · subst h1
        have ha := hzi hi
        refine ds_app 2 rfl (de_mod (de_int1 T.b_int (de_v 3)) (de_v 4) ha.1) ?_ ?_
        · rw [List.length_map, step1_len]
          rw [List.length_take]
          show 0 + _ < _
          omega
        refine ds_asg 3 sc_l_digits.nd (de_fdiv (de_int1 T.b_int (de_v 3)) (de_v 4) ⟨ha.1, by omega⟩) ?_
        refine ds_unk 4 (ds_nil ?_)
        rw [foldl_next hi]
        show _ = [_, _, Cell.own (List.map D.int (_ ++ [_])), _, _, _, _, _]
        rw [List.map_append]
        rfl
      · subst h1
        refine ds_retO 2 rfl ?_
        rw [List.take_length]
        show D.lst _ = eInts (digits c sizes)
        unfold digits
        rw [if_pos h]
    · have h := of_decide_eq_false h
      refine ds_asg 5 sc_l_digits.nd (de_mod (de_int1 T.b_int (de_v 3)) de_int (by decide)) ?_
      refine ds_for (as := List.range sizes.length) (f := fun k : Nat => D.int (k : Int)) (js := [6]) (fun i ρ => ρ = [.fro (.int c), .fro (eInts sizes), .own ((((List.range sizes.length).take i).foldl (dstep2 sizes) ([], c % 2147483629)).1.map D.int), .fro (.int c), .unk, .fro (.int (((List.range sizes.length).take i).foldl (dstep2 sizes) ([], c % 2147483629)).2), .unk, .unk])
        (fun _ => False) PassesOwn.never rfl (di_rangeN T.b_range (de_lenM T.b_len (de_l (de_v 1))) (by omega)) rfl (fun i a ρ1 hi h1 => ⟨_, (dg_name 6 sc_l_digits.nd), ?_⟩) (fun ρ1 h1 => ?_) (fun _ h => h.elim)
      · subst h1
        have hia : a < sizes.length := by
          have := List.mem_of_getElem? hi
          exact List.mem_range.mp this
        generalize hst : ((List.range sizes.length).take i).foldl (dstep2 sizes) ([], c % 2147483629) = st
        have hz2 : 0 < sizes.getD a default ∧ sizes.getD a default < 1000000 := by
          refine hzi (i := a) ?_
          rw [List.getD_eq_getElem?_getD, List.getElem?_eq_getElem hia]; rfl
        have hb := dseed_bd st.2 a
        have hlen : st.1.length ≤ 200 := by
          rw [← hst, step2_len]
          rw [List.length_take, List.length_range]
          show 0 + _ ≤ 200
          omega
        refine ds_asg 5 sc_l_digits.nd (de_mod (de_int1 T.b_int (de_add (de_add (de_mul (de_v 5) de_int (.inr (by decide))) (de_mul de_int (de_v 6) (.inl (by decide)))) de_int)) de_int (by decide)) ?_
        refine ds_asg 7 sc_l_digits.nd (de_mod (de_int1 T.b_int (de_mul (de_v 5) (de_add (de_fdiv (de_v 5) de_int (by decide)) de_int) (.inl (by constructor <;> first | omega | (have := hb; unfold dseed at this; omega))))) de_int (by decide)) ?_
        refine ds_app 2 rfl (de_mod (de_fdiv (de_v 7) de_int (by decide)) (de_ixM default (de_l (de_v 1)) (de_v 6) ⟨by omega, by omega⟩) (by rw [Int.toNat_natCast]; exact hz2.1)) (by rw [List.length_map]; omega) ?_
        refine ds_unk 6 (ds_unk 7 (ds_nil ?_))
        rw [foldl_next hi, hst, Int.toNat_natCast]
        show _ = [_, _, Cell.own (List.map D.int (_ ++ [_])), _, _, _, _, _]
        rw [List.map_append]
        rfl
      · subst h1
        refine ds_retO 2 rfl ?_
        rw [List.take_of_length_le (by rw [List.length_range]; exact Nat.le_refl _)]
        show D.lst _ = eInts (digits c sizes)
        unfold digits
        rw [if_neg h]
end
end K6
set_option maxRecDepth 100000
set_option maxHeartbeats 4000000
namespace K6
open PySem PySem.Spec PyProof.Rows L2 Evl DL
/-! ### digits are within their sizes -/
def Bd (xs zs : List Int) : Prop := xs.length = zs.length ∧ ∀ (i : Nat) x z, xs[i]? = some x → zs[i]? = some z → 0 ≤ x ∧ x < z
theorem bd_snoc {xs zs : List Int} {x z : Int} (h : Bd xs zs) (hx : 0 ≤ x ∧ x < z) : Bd (xs ++ [x]) (zs ++ [z]) := by
  obtain ⟨h1, h2⟩ := h
  refine ⟨by rw [List.length_append, List.length_append, h1]; rfl, fun i a b ha hb => ?_⟩
  by_cases hi : i < xs.length
  · rw [List.getElem?_append_left hi] at ha
    rw [List.getElem?_append_left (by omega)] at hb
    exact h2 i a b ha hb
  · rw [List.getElem?_append_right (by omega)] at ha
    rw [List.getElem?_append_right (by omega), ← h1] at hb
    by_cases e : i = xs.length
    · subst e
      rw [Nat.sub_self, List.getElem?_cons_zero] at ha hb
      cases ha; cases hb
      exact hx
    · rw [List.getElem?_eq_none (by simp; omega)] at ha; cases ha
theorem bd1 : ∀ (zs pre : List Int) (t : List Int × Int), (∀ z ∈ zs, 0 < z) → Bd t.1 pre → Bd (zs.foldl dstep1 t).1 (pre ++ zs)
  | [], pre, t, _, h => by rw [List.append_nil]; exact h
  | z :: zs, pre, t, hz, h => by
    have h0 := hz z List.mem_cons_self
    have := bd1 zs (pre ++ [z]) (dstep1 t z) (fun y hy => hz y (List.mem_cons_of_mem _ hy)) (bd_snoc h ⟨Int.emod_nonneg _ (by omega), Int.emod_lt_of_pos _ h0⟩)
    rw [List.append_assoc] at this
    exact this
theorem bd2 (sizes : List Int) (hz : ∀ z ∈ sizes, 0 < z) (s0 : Int) : ∀ n, n ≤ sizes.length → Bd (((List.range n).foldl (dstep2 sizes) ([], s0)).1) (sizes.take n)
  | 0, _ => ⟨rfl, fun i a b h => by simp at h⟩
  | n + 1, hn => by
    have ih := bd2 sizes hz s0 n (by omega)
    rw [List.range_succ, List.foldl_append]
    have hs : sizes[n]? = some (sizes.getD n default) := by rw [List.getD_eq_getElem?_getD, List.getElem?_eq_getElem (by omega)]; rfl
    have h0 := hz _ (List.mem_of_getElem? hs)
    have tk : sizes.take (n + 1) = sizes.take n ++ [sizes.getD n default] := by rw [List.take_succ, hs]; rfl
    rw [tk]
    exact bd_snoc ih ⟨Int.emod_nonneg _ (by omega), Int.emod_lt_of_pos _ h0⟩
theorem digits_bd (c : Int) (sizes : List Int) (hz : ∀ z ∈ sizes, 0 < z) : Bd (digits c sizes) sizes := by
  unfold digits
  split
  · have := bd1 sizes [] ([], c - 1000000000000000000) hz ⟨rfl, fun i a b h => by simp at h⟩
    rw [List.nil_append] at this
    exact this
  · have := bd2 sizes hz (c % 2147483629) sizes.length (Nat.le_refl _)
    rw [List.take_length] at this
    exact this
theorem bd_at {xs zs : List Int} (h : Bd xs zs) (i : Nat) {z : Int} (hz : zs[i]? = some z) : 0 ≤ xs.getD i default ∧ xs.getD i default < z := by
  have hi : i < xs.length := by rw [h.1]; exact (List.getElem?_eq_some_iff.mp hz).1
  exact h.2 i _ z (by rw [List.getD_eq_getElem?_getD, List.getElem?_eq_getElem hi]; rfl) hz
/-! ### pairs within a street -/
def OkL (n : Nat) (l : Int × Int) : Prop := 0 ≤ l.1 ∧ l.1 < n ∧ 0 ≤ l.2 ∧ l.2 < n ∧ l.1 ≠ l.2
theorem OkL.p64 {n : Nat} (hn : n ≤ 7) {l : Int × Int} (h : OkL n l) : P64 l := ⟨⟨h.1, by have := h.2.1; omega⟩, h.2.2.1, by have := h.2.2.2.1; omega⟩
theorem pairs_len {n : Nat} (hn : n ≤ 7) {ls : List (Int × Int)} (nd : ls.Nodup) (h : ∀ l ∈ ls, OkL n l) : ls.length ≤ 49 := by
  have nd2 : (ls.map fun l => l.1 * 7 + l.2).Nodup := by
    rw [List.nodup_iff_pairwise_ne, List.pairwise_map]
    refine List.Pairwise.imp_of_mem (fun {a b} ha hb ne e => ne ?_) (List.nodup_iff_pairwise_ne.mp nd)
    obtain ⟨a1, a2, a3, a4, _⟩ := h a ha
    obtain ⟨b1, b2, b3, b4, _⟩ := h b hb
    exact Prod.ext (by omega) (by omega)
  have := nodup_len (n := 49) nd2 fun x hx => by
    obtain ⟨l, hl, rfl⟩ := List.mem_map.mp hx
    obtain ⟨a1, a2, a3, a4, _⟩ := h l hl
    constructor
    · omega
    · show l.1 * 7 + l.2 < ((49 : Nat) : Int)
      omega
  rw [List.length_map] at this
  exact this
theorem sortP_strict {n : Nat} (hn : n ≤ 7) {ls : List (Int × Int)} (nd : ls.Nodup) (h : ∀ l ∈ ls, OkL n l) : (sortP ls).Pairwise (fun p q => code64 p < code64 q) := by
  have nd2 : (sortP ls).Nodup := (sortP_perm ls).nodup_iff.mpr nd
  refine List.Pairwise.imp_of_mem (fun {a b} ha hb hab => ?_) ((sortP_sorted ls).and (List.nodup_iff_pairwise_ne.mp nd2))
  have pa := (h a ((sortP_perm ls).mem_iff.mp ha)).p64 hn
  have pb := (h b ((sortP_perm ls).mem_iff.mp hb)).p64 hn
  rcases Int.lt_or_eq_of_le hab.1 with z | z
  · exact z
  · exact absurd (code_inj pa pb z) hab.2
/-- a list of lanes as the law keeps it -/
def GoodL (n : Nat) (d : D) : Prop := ∃ ls : List (Int × Int), d = .lst (ls.map encP) ∧ ls.Pairwise (fun p q => code64 p < code64 q) ∧ ∀ l ∈ ls, OkL n l
section
variable {P : Program} {w : World} {K : PySem.W.Frag} {mg : Str → Option Value} {base : Heap}
def F_l_lanes (K : PySem.W.Frag) (ds : List D) (S : D → Prop) : Prop := ∃ (order plan cuts dg : List Int), ds = [eInts order, eInts plan, eInts cuts, eInts dg] ∧ 1 ≤ order.length ∧ order.length ≤ 7 ∧ order.Nodup ∧ Inn' order ∧ 6 ≤ plan.length ∧ 0 ≤ plan.getD 1 default ∧ plan.getD 1 default < 8 ∧ order.length ≤ cuts.length ∧ 42 ≤ dg.length ∧ S = GoodL order.length
  where Inn' (order : List Int) : Prop := ∀ x : Int, x ∈ order ↔ 0 ≤ x ∧ x < order.length
theorem take_next' {α : Type} {xs : List α} {i : Nat} {a : α} (h : xs[i]? = some a) : xs.take (i + 1) = xs.take i ++ [a] := by rw [List.take_succ, h]; rfl
theorem getD_mem {α : Type} {xs : List α} {k : Nat} (z : α) (h : k < xs.length) : xs.getD k z ∈ xs := by
  rw [List.getD_eq_getElem?_getD, List.getElem?_eq_getElem h]; exact List.getElem_mem h
theorem getD_inj {α : Type} {xs : List α} (nd : xs.Nodup) {i j : Nat} (z : α) (hi : i < xs.length) (hj : j < xs.length) (h : xs.getD i z = xs.getD j z) : i = j := by
  rw [List.getD_eq_getElem?_getD, List.getElem?_eq_getElem hi, List.getD_eq_getElem?_getD, List.getElem?_eq_getElem hj] at h
  have nd := List.pairwise_iff_getElem.mp (List.nodup_iff_pairwise_ne.mp nd)
  rcases Nat.lt_trichotomy i j with c | c | c
  · exact absurd h (nd i j hi hj c)
  · exact c
  · exact absurd h.symm (nd j i hj hi c)
/-- the lanes of a ring over a group -/
def ringL (g : List Int) : List (Int × Int) := (List.range g.length).map fun k => (g.getD k default, g.getD ((k + 1) % g.length) default)
theorem ringL_fst (g : List Int) : (ringL g).map (·.1) = g := by
  unfold ringL
  rw [List.map_map]
  refine List.ext_getElem? fun i => ?_
  rw [List.getElem?_map]
  by_cases h : i < g.length
  · rw [List.getElem?_range h, List.getElem?_eq_getElem h]
    show some (g.getD i default) = _
    rw [List.getD_eq_getElem?_getD, List.getElem?_eq_getElem h]; rfl
  · rw [List.getElem?_eq_none (by rw [List.length_range]; omega), List.getElem?_eq_none (by omega)]; rfl
theorem ringL_ok {n : Nat} {g : List Int} (nd : g.Nodup) (h1 : 1 < g.length) (hi : ∀ x ∈ g, 0 ≤ x ∧ x < (n : Int)) : ∀ l ∈ ringL g, OkL n l := fun l hl => by
  obtain ⟨k, hk, rfl⟩ := List.mem_map.mp hl
  have hk := List.mem_range.mp hk
  have hk2 : (k + 1) % g.length < g.length := Nat.mod_lt _ (by omega)
  have a := hi _ (getD_mem default hk)
  have b := hi _ (getD_mem default hk2)
  refine ⟨a.1, a.2, b.1, b.2, fun e => ?_⟩
  have e := getD_inj nd default hk hk2 e
  by_cases h : k + 1 < g.length
  · rw [Nat.mod_eq_of_lt h] at e; omega
  · have : k + 1 = g.length := by omega
    rw [this, Nat.mod_self] at e; omega
theorem ok_l_lanes {fa : Addr} {fd : FuncData} (U : Fun K "_law_lanes" "_law_lanes" s_l_lanes fa fd) (T : Tx mg) : FnOk P w K mg base CX0 1 fa fd ["_law_order", "_law_plan", "_law_cuts", "_law_digits_here"] (spX F_l_lanes K) := by
  refine dfnX U sc_l_lanes (fun ds d h => ?_) fun cdv A outer s H E ds S hr h => ?_
  · obtain ⟨a, b, c, d, rfl, _⟩ := h; rfl
  · obtain ⟨order, plan, cuts, dg, rfl, n1, n7, nd, inn, pl, p0, p8, cl, dl, rfl⟩ := h
    generalize hn : order.length = n at n1 n7 cl
    have inO : ∀ {k : Nat}, k < n → (k : Int) ∈ order := fun hk => (inn _).mpr ⟨by omega, by omega⟩
    refine ds_asg (d := .int (n : Int)) 4 sc_l_lanes.nd (de_eq (de_lenM T.b_len (de_l (de_v 0))) (by rw [hn])) ?_
    refine ds_asg 5 sc_l_lanes.nd (de_ixM (xs := [2, 1, 3, 0, 4, 1, 7, 10]) (f := D.int) (i := plan.getD 1 default) default (dn_l (dn_lst (da_cons de_int (da_cons de_int (da_cons de_int (da_cons de_int (da_cons de_int (da_cons de_int (da_cons de_int (da_cons de_int da_nil)))))))))) (de_ixM (i := 1) default (de_l (de_v 1)) de_int ⟨by decide, by omega⟩) ⟨p0, p8⟩) ?_
    generalize (([2, 1, 3, 0, 4, 1, 7, 10] : List Int).getD (plan.getD 1 default).toNat default) = dens
    refine ds_asgN 6 sc_l_lanes.nd (dn_lst da_nil) ?_
    refine ds_owl0 6 rfl ?_
    let env1 (gs : List (List Int)) : DL.Env := [.fro (eInts order), .fro (eInts plan), .fro (eInts cuts), .fro (eInts dg), .fro (.int n), .fro (.int dens), .owl (gs.map fun g => g.map D.int), .unk, .unk, .unk, .unk, .unk, .unk, .unk, .unk, .unk]
    refine ds_for (as := List.range n) (f := fun k : Nat => D.int (k : Int)) (js := [7]) (fun i ρ => ∃ gs : List (List Int), gs.flatten = order.take i ∧ gs.length ≤ i ∧ ρ = env1 gs) (fun _ => False) PassesOwn.never rfl (di_rangeN T.b_range (de_v 4) (by omega)) ⟨[], rfl, Nat.zero_le _, rfl⟩ (fun i a ρ1 hi ⟨gs, hg, hgl, e⟩ => ?_) (fun ρ1 ⟨gs, hg, hgl, e⟩ => ?_) (fun _ h => h.elim)
    · subst e
      have hir := List.getElem?_eq_some_iff.mp hi
      obtain ⟨hlt, ea⟩ := hir
      rw [List.length_range] at hlt
      rw [List.getElem_range] at ea
      subst ea
      have oi : order[i]? = some (order.getD i default) := by rw [List.getD_eq_getElem?_getD, List.getElem?_eq_getElem (by omega)]; rfl
      refine ⟨_, dg_name 7 sc_l_lanes.nd, ?_⟩
      refine ds_if (dw_t (dw_or (dt_eqI (de_lenOwl 6 T.b_len rfl) de_int) fun h => (dw_or (dt_eqI (de_ixM (i := (i : Int)) default (de_l (de_v 2)) (de_v 7) ⟨by omega, by omega⟩) de_int) fun h => (dw_or1 (dt_eqI (de_ixM (i := 2) default (de_l (de_v 1)) de_int ⟨by decide, by omega⟩) de_int))))) (fun ρ => ∃ gs2 : List (List Int), gs2 ≠ [] ∧ gs2.flatten = order.take i ∧ gs2.length ≤ i + 1 ∧ ρ = (env1 gs2).set 7 (.fro (.int i))) (fun h => ?_) (fun h => ?_) (fun ρ ⟨gs2, hne, hf, hgl2, e⟩ => ?_)
      · refine ds_owlApp (es := []) 6 rfl (dn_lst da_nil) (by rw [List.length_map]; omega) (ds_nil ⟨gs ++ [[]], by simp, by rw [List.flatten_append]; simp [hg], by simp; omega, ?_⟩)
        simp only [env1, List.map_append]; rfl
      · refine ds_nil ⟨gs, fun e => ?_, hg, by omega, rfl⟩
        rw [e] at h
        simp at h
      · subst e
        obtain ⟨gs0, l, rfl⟩ : ∃ gs0 l, gs2 = gs0 ++ [l] := ⟨gs2.dropLast, gs2.getLast hne, (List.dropLast_concat_getLast hne).symm⟩
        have e1 : (env1 (gs0 ++ [l])) = [.fro (eInts order), .fro (eInts plan), .fro (eInts cuts), .fro (eInts dg), .fro (.int n), .fro (.int dens), .owl ((gs0.map fun g => g.map D.int) ++ [l.map D.int]), .unk, .unk, .unk, .unk, .unk, .unk, .unk, .unk, .unk] := by
          simp only [env1, List.map_append]; rfl
        rw [e1]
        have ll : l.length ≤ 7 := by
          have := congrArg List.length hf
          rw [List.flatten_append, List.length_append, List.length_take] at this
          simp at this
          omega
        refine ds_owlLast 6 rfl (de_neg de_int) (de_ixM (i := (i : Int)) default (de_l (de_v 0)) (de_v 7) ⟨by omega, by omega⟩) (by rw [List.length_map]; omega) (ds_unk 7 (ds_nil ⟨gs0 ++ [l ++ [order.getD i default]], ?_, by simp at hgl2 ⊢; omega, ?_⟩))
        · rw [take_next' oi, ← hf]
          simp [List.flatten_append]
        · simp only [env1, List.map_append, Int.toNat_natCast, List.map_cons, List.map_nil]; rfl
    · subst e
      rw [List.length_range, List.take_of_length_le (by omega)] at hg
      refine ds_freezeL 6 rfl ?_
      have eg : (gs.map fun g => g.map D.int).map D.lst = gs.map eInts := by rw [List.map_map]; rfl
      rw [eg]
      have fnd : gs.flatten.Nodup := by rw [hg]; exact nd
      have gin : ∀ g ∈ gs, g.Nodup ∧ ∀ x ∈ g, 0 ≤ x ∧ x < (n : Int) := fun g hgm => by
        refine ⟨?_, fun x hx => ?_⟩
        · have : g.Sublist gs.flatten := List.sublist_flatten_of_mem hgm
          exact this.nodup fnd
        · have := (inn x).mp (by rw [← hg]; exact List.mem_flatten.mpr ⟨g, hgm, hx⟩)
          rw [hn] at this; exact this
      have glen : ∀ g ∈ gs, g.length ≤ 7 := fun g hgm => by
        have := (List.sublist_flatten_of_mem hgm).length_le
        rw [hg] at this; omega
      refine ds_asgN 8 sc_l_lanes.nd (dn_lst da_nil) ?_
      refine ds_asg 9 sc_l_lanes.nd (dn_e (dn_lst da_nil)) ?_
      let env2 (ls : List (Int × Int)) (rg : List Int) : DL.Env := [.fro (eInts order), .fro (eInts plan), .fro (eInts cuts), .fro (eInts dg), .fro (.int n), .fro (.int dens), .fro (.lst (gs.map eInts)), .unk, .own (ls.map encP), .fro (eInts rg), .unk, .unk, .unk, .unk, .unk, .unk]
      refine ds_for (as := gs) (f := eInts) (js := [10]) (fun i ρ => ∃ (ls : List (Int × Int)) (rg : List Int), ls.map (·.1) = rg ∧ rg.Sublist (gs.take i).flatten ∧ (∀ l ∈ ls, OkL n l) ∧ ρ = env2 ls rg) (fun _ => False) PassesOwn.never rfl (di_lst (de_v 6)) ⟨[], [], rfl, List.Sublist.refl _, (fun l hl => by cases hl), rfl⟩ (fun i g ρ1 hi ⟨ls, rg, hm, hs, ho, e⟩ => ?_) (fun ρ1 ⟨ls, rg, hm, hs, ho, e⟩ => ?_) (fun _ h => h.elim)
      · subst e
        have gm := List.mem_of_getElem? hi
        have sub2 : (gs.take i).flatten.Sublist (gs.take (i + 1)).flatten := by rw [take_next' hi, List.flatten_append]; exact List.sublist_append_left _ _
        have rgl : rg.length ≤ 7 := by
          have h1 := hs.length_le
          have h2 : (gs.take i).flatten.Sublist gs.flatten := by
            conv => rhs; rw [← List.take_append_drop i gs, List.flatten_append]
            exact List.sublist_append_left _ _
          have h2 := h2.length_le
          rw [hg] at h2
          omega
        have lsl : ls.length ≤ 7 := by rw [← List.length_map (f := fun l : Int × Int => l.1), hm]; exact rgl
        refine ⟨_, dg_name 10 sc_l_lanes.nd, ?_⟩
        refine ds_ifE (b1 := decide (1 < g.length)) (dt_eq (dt_gt (de_lenM T.b_len (de_l (de_v 10))) de_int) (decide_eq_decide.mpr (by omega))) (fun h => ?_) (fun h => ds_unk 10 (ds_nil ⟨ls, rg, hm, hs.trans sub2, ho, rfl⟩))
        have h1 := of_decide_eq_true h
        have g7 := glen g gm
        refine ds_asg (d := eInts (rg ++ g)) 9 sc_l_lanes.nd (de_eq (dn_e (dn_cat (de_v 9) (de_v 10) (by rw [List.length_map, List.length_map]; omega))) (by rw [← List.map_append])) ?_
        refine ds_freeze 8 rfl ?_
        refine ds_asgN (ds := (ls ++ ringL g).map encP) 8 sc_l_lanes.nd (dn_eq (dn_cat (de_v 8) (dn_e (dn_lc (as := List.range g.length) (fun k : Nat => D.int (k : Int)) (fun k : Nat => encP (g.getD k default, g.getD ((k + 1) % g.length) default)) (fun _ => true) [("_law_k", 7)] rfl sc_l_lanes.nd (di_rangeN T.b_range (de_lenM T.b_len (de_l (de_v 10))) (by omega)) (blkOk_by (N := N_l_lanes) (sc := defScope s_l_lanes) (by decide +kernel)) (by decide) (by rw [List.length_range]; omega) (fun _ _ _ _ _ a ha => (dg_name 7 sc_l_lanes.nd)) (fun _ _ _ _ _ a ha => dts_nil)
          (fun _ _ _ _ _ a ha hb => ?_))) ?_) ?_) (ds_unk 10 (ds_nil ⟨ls ++ ringL g, rg ++ g, by rw [List.map_append, hm, ringL_fst], ?_, fun l hl => ?_, rfl⟩))
        · have ha := List.mem_range.mp ha
          have a2 : (a + 1) % g.length < g.length := Nat.mod_lt _ (by omega)
          have e2 : ((a : Int) + 1) % (g.length : Int) = (((a + 1) % g.length : Nat) : Int) := by push_cast; rfl
          refine de_tup (da_cons (de_eq (de_ixM (i := (a : Int)) default (de_l (de_v 10)) (de_v 7) ⟨by omega, by omega⟩) rfl) (da_cons (de_eq (de_ixM (i := ((a : Int) + 1) % (g.length : Int)) default (de_l (de_v 10)) (de_mod (de_int1 T.b_int (de_add (de_v 7) de_int)) (de_lenM T.b_len (de_l (de_v 10))) (by omega)) ⟨by rw [e2]; omega, by rw [e2]; omega⟩) (by rw [e2, Int.toNat_natCast])) da_nil))
        · rw [List.length_map, List.length_map, List.length_filter_eq_length_iff.mpr (fun _ _ => rfl), List.length_range]; omega
        · rw [filt_all, List.map_append]
          congr 1
          unfold ringL
          rw [List.map_map]; rfl
        · rw [take_next' hi, List.flatten_append]
          exact hs.append (by simp)
        · rcases List.mem_append.mp hl with hl | hl
          · exact ho l hl
          · exact ringL_ok (gin g gm).1 h1 (gin g gm).2 l hl
      · subst e
        rw [List.take_length] at hs
        have lnd : ls.Nodup := by
          have : (ls.map (·.1)).Nodup := by rw [hm]; exact hs.nodup fnd
          exact nodup_of_map this
        have rgd : ∀ x ∈ rg, x ∈ order := fun x hx => by rw [← hg]; exact hs.subset hx
        let env3 (ls : List (Int × Int)) (a b : Cell) : DL.Env := [.fro (eInts order), .fro (eInts plan), .fro (eInts cuts), .fro (eInts dg), .fro (.int n), .fro (.int dens), .fro (.lst (gs.map eInts)), .unk, .own (ls.map encP), .fro (eInts rg), .unk, a, b, .unk, .unk, .unk]
        have pi4 : ∀ {X : Cx} {ρ : DL.Env} {e b : Expr} {pos : Pos} {j : Int}, DE X e ρ (eInts plan) → DE X b ρ (.int j) → 0 ≤ j ∧ j < 6 → PlainIx b → DE X (.Subscript e b pos) ρ (.int (plan.getD j.toNat default)) := fun h1 h2 h3 h4 => de_ixM (xs := plan) (f := D.int) default (de_l h1) h2 ⟨h3.1, by omega⟩ h4
        have oix : ∀ {k : Nat}, k < n → order[posOf k order]? = some (k : Int) ∧ ∀ m, m < posOf k order → order[m]? ≠ some (k : Int) := fun hk => posOf_at (inO hk)
        refine ds_for (as := List.range n) (f := fun k : Nat => D.int (k : Int)) (js := [11]) (fun i ρ => ∃ ls : List (Int × Int), ls.Nodup ∧ (∀ l ∈ ls, OkL n l) ∧ ρ = env3 ls .unk .unk) (fun _ => False) PassesOwn.never rfl (di_rangeN T.b_range (de_v 4) (by omega)) ⟨ls, lnd, ho, rfl⟩ (fun i a ρ1 hi ⟨ls, lnd, ho, e⟩ => ?_) (fun ρ1 ⟨ls, lnd, ho, e⟩ => ?_) (fun _ h => h.elim)
        · subst e
          have ha := List.mem_range.mp (List.mem_of_getElem? hi)
          refine ⟨_, dg_name 11 sc_l_lanes.nd, ?_⟩
          refine ds_for (as := (List.range n).filter fun b : Nat => !decide ((b : Int) = (a : Int))) (f := fun k : Nat => D.int (k : Int)) (js := [12]) (fun i ρ => ∃ ls : List (Int × Int), ls.Nodup ∧ (∀ l ∈ ls, OkL n l) ∧ ρ = env3 ls (.fro (.int a)) .unk) (fun _ => False) PassesOwn.never rfl
            (di_dn (dn_lc (as := List.range n) (fun k : Nat => D.int (k : Int)) (fun k : Nat => D.int (k : Int)) (fun b : Nat => !decide ((b : Int) = (a : Int))) [("_law_b", 12)] rfl sc_l_lanes.nd (di_rangeN T.b_range (de_v 4) (by omega)) (blkOk_by (N := N_l_lanes) (sc := defScope s_l_lanes) (by decide +kernel)) (by decide) (by rw [List.length_range]; omega) (fun _ _ _ _ _ k hk => (dg_name 12 sc_l_lanes.nd)) (fun _ _ _ _ _ k hk => (dts_one (dt_neI (de_v 12) (de_v 11)))) (fun _ _ _ _ _ k hk hb => (de_v 12))))
            ⟨ls, lnd, ho, rfl⟩ (fun j b ρ2 hj ⟨ls, lnd, ho, e⟩ => ?_) (fun ρ2 ⟨ls, lnd, ho, e⟩ => ?_) (fun _ h => h.elim)
          · subst e
            have hbm := List.mem_filter.mp (List.mem_of_getElem? hj)
            have hb := List.mem_range.mp hbm.1
            have hne : ¬ ((b : Int) = (a : Int)) := by simpa using hbm.2
            have l49 := pairs_len n7 lnd ho
            refine ⟨_, dg_name 12 sc_l_lanes.nd, ?_⟩
            refine ds_asg 13 sc_l_lanes.nd (de_or (de_lt (pi4 (de_v 1) de_int (by decide) (by intro _ _; rfl)) de_int) fun h => (de_one (de_and (de_ninL (de_v 11) (de_l (de_v 9))) fun h => (de_one (de_lt (de_indexL (ns := order) (de_l (de_v 0)) (de_v 11) (oix ha).1 (oix ha).2) (de_indexL (ns := order) (de_l (de_v 0)) (de_v 12) (oix hb).1 (oix hb).2)))))) ?_
            refine ds_asg 14 sc_l_lanes.nd (de_and (de_ge (pi4 (de_v 1) de_int (by decide) (by intro _ _; rfl)) de_int) fun h => (de_and (de_eqI (de_v 11) (de_mod (de_int1 T.b_int (pi4 (de_v 1) de_int (by decide) (by intro _ _; rfl))) (de_v 4) (by omega))) fun h => (de_one (de_eqI (de_v 12) (de_mod (de_int1 T.b_int (pi4 (de_v 1) de_int (by decide) (by intro _ _; rfl))) (de_v 4) (by omega)))))) ?_
            have hA : ((n : Int) - 1) * a ≤ 6 * a := Int.mul_le_mul_of_nonneg_right (by omega) (by omega)
            have hA0 : 0 ≤ ((n : Int) - 1) * a := Int.mul_nonneg (by omega) (by omega)
            refine ds_asg 15 sc_l_lanes.nd (de_and (de_v 13) fun h => (de_one (de_lt (de_ixM (xs := dg) (f := D.int) (i := ((n : Int) - 1) * a + b - (if decide ((a : Int) < b) = true then 1 else 0)) default (de_l (de_v 3)) (de_sub (de_add (de_mul (de_sub (de_v 4) de_int) (de_v 11) (.inr (by constructor <;> omega))) (de_v 12)) (de_intB T.b_int (de_gt (de_v 12) (de_v 11)))) ?_) (de_v 5)))) ?_
            · have key : 0 ≤ ((n : Int) - 1) * a + b - (if decide ((a : Int) < b) = true then 1 else 0) ∧ ((n : Int) - 1) * a + b - (if decide ((a : Int) < b) = true then 1 else 0) < 42 := by
                generalize ((n : Int) - 1) * a = A at hA hA0
                by_cases c : (a : Int) < b
                · rw [if_pos (decide_eq_true c)]; omega
                · rw [if_neg (by simp; omega)]; omega
              exact ⟨key.1, by omega⟩
            refine ds_ifE (dw_t (dw_and (dw_t (dw_or (dt_v (de_v 14)) fun h => (dw_or1 (dt_v (de_v 15))))) fun h => (dw_and1 (dt_ninD (x := ((a : Int), (b : Int))) (xs := ls) hr enc_pair (de_tup (da_cons (de_v 11) (da_cons (de_v 12) da_nil))) (dl_v 8) (by kernel_rfl) (fun _ _ => by kernel_rfl))))) (fun h => ?_) (fun h => ?_)
            · have hnm : ((a : Int), (b : Int)) ∉ ls := by
                rw [Bool.and_eq_true] at h
                simpa using h.2
              refine ds_app 8 rfl (de_tup (da_cons (de_v 11) (da_cons (de_v 12) da_nil))) (by rw [List.length_map]; omega) (ds_unk 12 (ds_unk 13 (ds_unk 14 (ds_unk 15 (ds_nil ⟨ls ++ [((a : Int), (b : Int))], ?_, fun l hl => ?_, ?_⟩)))))
              · rw [List.nodup_append]
                exact ⟨lnd, by simp, fun y hy z hz => by rw [List.mem_singleton.mp hz]; exact fun e => hnm (e ▸ hy)⟩
              · rcases List.mem_append.mp hl with hl | hl
                · exact ho l hl
                · rw [List.mem_singleton.mp hl]
                  exact ⟨by omega, by show (a : Int) < n; omega, by omega, by show (b : Int) < n; omega, fun e => hne e.symm⟩
              · simp only [env3, List.map_append]; rfl
            · exact ds_unk 12 (ds_unk 13 (ds_unk 14 (ds_unk 15 (ds_nil ⟨ls, lnd, ho, rfl⟩))))
          · subst e
            exact ds_unk 11 (ds_nil ⟨ls, lnd, ho, rfl⟩)
        · subst e
          have l49 := pairs_len n7 lnd ho
          refine ds_ret (dn_e (dn_sortP T.b_sorted (dl_v 8) (by omega) fun l hl => (ho l hl).p64 n7)) ⟨sortP ls, rfl, sortP_strict n7 lnd ho, fun l hl => ho l ((sortP_perm ls).mem_iff.mp hl)⟩
end
end K6
set_option maxRecDepth 100000
set_option maxHeartbeats 4000000
namespace K6
open PySem PySem.Spec PyProof.Rows L2 Evl DL
abbrev eLT (t : Town) : D := .lst [eInts t.pegs, .lst (t.lanes.map encP)]
theorem town_ok {n : Nat} {pegs : List Int} {ls : List (Int × Int)} (h1 : 1 ≤ n) (h7 : n ≤ 7) (hp : pegs.length = n) (hb : ∀ p ∈ pegs, 1 ≤ p ∧ p ≤ 9) (hs : ls.Pairwise (fun p q => code64 p < code64 q)) (ho : ∀ l ∈ ls, OkL n l) : Town.Ok ⟨pegs, ls⟩ :=
  ⟨by show 1 ≤ pegs.length; omega, by show pegs.length ≤ 7; omega, hb, hs, fun l hl => by
    obtain ⟨a, b, c, d, e⟩ := ho l hl
    exact ⟨a, by show l.1 < (pegs.length : Int); omega, c, by show l.2 < (pegs.length : Int); omega, e⟩⟩
theorem lanes_nodup {t : Town} (ok : t.Ok) : t.lanes.Nodup := by
  rw [List.nodup_iff_pairwise_ne]
  exact ok.ord.imp fun {a b} h e => by rw [e] at h; exact Int.lt_irrefl _ h
theorem Town.Ok.okl {t : Town} (ok : t.Ok) : ∀ l ∈ t.lanes, OkL t.n l := ok.inn
theorem Town.Ok.few64 {t : Town} (ok : t.Ok) : t.lanes.length ≤ 49 := pairs_len ok.n7 (lanes_nodup ok) ok.okl
/-- k put in at a place -/
theorem insert_perm (xs : List Int) (p : Nat) (k : Int) : (xs.take p ++ [k] ++ xs.drop p).Perm (k :: xs) := by
  rw [List.append_assoc]
  refine List.perm_middle.trans ?_
  show (k :: (List.take p xs ++ List.drop p xs)).Perm _
  rw [List.take_append_drop]
abbrev upTo (n : Nat) : List Int := (List.range n).map fun k : Nat => (k : Int)
theorem upTo_succ (n : Nat) : upTo (n + 1) = upTo n ++ [(n : Int)] := by
  unfold upTo
  rw [List.range_succ, List.map_append]; rfl
theorem upTo_nodup (n : Nat) : (upTo n).Nodup := by
  unfold upTo
  rw [List.nodup_iff_pairwise_ne, List.pairwise_map]
  exact (List.nodup_iff_pairwise_ne.mp List.nodup_range).imp fun h e => h (by omega)
theorem mem_upTo {n : Nat} {x : Int} : x ∈ upTo n ↔ 0 ≤ x ∧ x < n := by
  unfold upTo
  rw [List.mem_map]
  constructor
  · rintro ⟨k, hk, rfl⟩
    have := List.mem_range.mp hk
    omega
  · intro h
    exact ⟨x.toNat, List.mem_range.mpr (by omega), by omega⟩
section
variable {P : Program} {w : World} {K : PySem.W.Frag} {mg : Str → Option Value} {base : Heap}
/-- the law's street, well made -/
def GoodT (d : D) : Prop := ∃ t : Town, d = eLT t ∧ t.Ok
def F_l_town (K : PySem.W.Frag) (ds : List D) (S : D → Prop) : Prop := ∃ (script : List Int) (k : Int), ds = [.lsk (script.map D.int), .int k, .int 1] ∧ 0 ≤ k ∧ k ≤ 900 ∧ S = GoodT
def sizesT : List Int := [16, 8, 8, 8, 7, 7] ++ [9, 9, 9, 9, 9, 9, 9] ++ [7, 7, 7, 7, 7, 7, 7] ++ [3, 3, 3, 3, 3, 3, 3]
theorem sizesT_ok : Sizes sizesT := ⟨by decide, by decide⟩
abbrev sizes10 : List Int := List.replicate 42 10
theorem sizes10_ok : Sizes sizes10 := ⟨by decide, by decide⟩
theorem ok_l_town {fa : Addr} {fd : FuncData} (U : Fun K "_law_town" "_law_town" s_l_town fa fd) (T : Tx mg) (D1 : Df P w K mg base "_law_digits" 1 ["_law_cell_here", "_law_sizes"] F_l_digits) (D2 : Df P w K mg base "_law_cell" 1 ["_law_script", "_law_k"] F_l_cell) (D3 : Dx P w K mg base "_law_lanes" 1 ["_law_order", "_law_plan", "_law_cuts", "_law_digits_here"] F_l_lanes) : FnOk P w K mg base CX0 2 fa fd ["_law_script", "_law_at", "_law_least"] (spX F_l_town K) := by
  refine dfnX U sc_l_town (fun ds d h => ?_) fun cdv A outer s H E ds S hr h => ?_
  · obtain ⟨a, b, rfl, _⟩ := h; rfl
  · obtain ⟨script, k, rfl, k0, k9, rfl⟩ := h
    let plan := digits (cell script k) sizesT
    let dg := digits (cell script (k + 1)) sizes10
    refine ds_asg (d := eInts plan) 3 sc_l_town.nd (de_callD D1 hr (da_cons (de_callD D2 hr (da_cons (de_v 0) (da_cons (de_v 1) da_nil)) ⟨script, k, rfl, k0, by omega, rfl⟩) (da_cons (de_eq (d' := eInts sizesT) (dn_e (dn_cat (dn_e (dn_cat (dn_e (dn_cat (dn_e (dn_lst (da_cons de_int (da_cons de_int (da_cons de_int (da_cons de_int (da_cons de_int (da_cons de_int da_nil)))))))) (dn_e (dn_rep (dn_e (dn_lst (da_cons de_int da_nil))) de_int (by decide))) (by decide))) (dn_e (dn_rep (dn_e (dn_lst (da_cons de_int da_nil))) de_int (by decide))) (by decide))) (dn_e (dn_rep (dn_e (dn_lst (da_cons de_int da_nil))) de_int (by decide))) (by decide))) rfl) da_nil)) ⟨_, _, rfl, sizesT_ok, rfl⟩) ?_
    refine ds_asg (d := eInts dg) 4 sc_l_town.nd (de_callD D1 hr (da_cons (de_callD D2 hr (da_cons (de_v 0) (da_cons (de_add (de_v 1) de_int) da_nil)) ⟨script, k + 1, rfl, by omega, by omega, rfl⟩) (da_cons (de_eq (d' := eInts sizes10) (dn_e (dn_rep (dn_e (dn_lst (da_cons de_int da_nil))) de_int (by decide))) rfl) da_nil)) ⟨_, _, rfl, sizes10_ok, rfl⟩) ?_
    have bp : Bd plan sizesT := digits_bd _ _ fun z hz => (sizesT_ok.2 z hz).1
    have bl : dg.length = 42 := by have := (digits_bd (cell script (k + 1)) sizes10 fun z hz => (sizes10_ok.2 z hz).1).1; exact this
    have pl : plan.length = 27 := bp.1
    have b0 := bd_at bp 0 (z := 16) rfl
    have b1 := bd_at bp 1 (z := 8) rfl
    have b3 := bd_at bp 3 (z := 8) rfl
    have pE : ∀ {X : Cx} {ρ : DL.Env} {e b : Expr} {pos : Pos} {j : Int}, DE X e ρ (eInts plan) → DE X b ρ (.int j) → 0 ≤ j ∧ j < 27 → PlainIx b → DE X (.Subscript e b pos) ρ (.int (plan.getD j.toNat default)) := fun h1 h2 h3 h4 => de_ixM (xs := plan) (f := D.int) default (de_l h1) h2 ⟨h3.1, by omega⟩ h4
    clear_value plan dg
    generalize ep0 : plan.getD 0 default = p0 at b0
    generalize ep3 : plan.getD 3 default = p3 at b3
    refine ds_asg 5 sc_l_town.nd (de_ixM (xs := [4, 5, 3, 6, 4, 5, 2, 6, 4, 5, 3, 6, 7, 5, 4, 1]) (f := D.int) (i := p0) default (dn_l (dn_lst (da_cons de_int (da_cons de_int (da_cons de_int (da_cons de_int (da_cons de_int (da_cons de_int (da_cons de_int (da_cons de_int (da_cons de_int (da_cons de_int (da_cons de_int (da_cons de_int (da_cons de_int (da_cons de_int (da_cons de_int (da_cons de_int da_nil)))))))))))))))))) (de_eq (pE (j := 0) (de_v 3) de_int (by decide) (by intro _ _; rfl)) (by rw [← ep0]; rfl)) ⟨b0.1, b0.2⟩) ?_
    refine ds_asg 6 sc_l_town.nd (de_add (de_v 2) (de_ixM (xs := [0, 0, 0, 0, 0, 0, 6, 4]) (f := D.int) (i := p3) default (dn_l (dn_lst (da_cons de_int (da_cons de_int (da_cons de_int (da_cons de_int (da_cons de_int (da_cons de_int (da_cons de_int (da_cons de_int da_nil)))))))))) (de_eq (pE (j := 3) (de_v 3) de_int (by decide) (by intro _ _; rfl)) (by rw [← ep3]; rfl)) ⟨b3.1, b3.2⟩)) ?_
    refine ds_asg 7 sc_l_town.nd (de_ixM (xs := [3, 9, 2, 9, 4, 1, 3, 3]) (f := D.int) (i := p3) default (dn_l (dn_lst (da_cons de_int (da_cons de_int (da_cons de_int (da_cons de_int (da_cons de_int (da_cons de_int (da_cons de_int (da_cons de_int da_nil)))))))))) (de_eq (pE (j := 3) (de_v 3) de_int (by decide) (by intro _ _; rfl)) (by rw [← ep3]; rfl)) ⟨b3.1, b3.2⟩) ?_
    have hmany : ∃ n : Nat, ([4, 5, 3, 6, 4, 5, 2, 6, 4, 5, 3, 6, 7, 5, 4, 1] : List Int).getD p0.toNat default = (n : Int) ∧ 1 ≤ n ∧ n ≤ 7 := by
      have q := (by decide : ∀ q : Fin 16, (1 : Int) ≤ ([4, 5, 3, 6, 4, 5, 2, 6, 4, 5, 3, 6, 7, 5, 4, 1] : List Int).getD q.val default ∧ ([4, 5, 3, 6, 4, 5, 2, 6, 4, 5, 3, 6, 7, 5, 4, 1] : List Int).getD q.val default ≤ 7) ⟨p0.toNat, by omega⟩
      simp only [] at q
      exact ⟨(([4, 5, 3, 6, 4, 5, 2, 6, 4, 5, 3, 6, 7, 5, 4, 1] : List Int).getD p0.toNat default).toNat, by omega, by omega, by omega⟩
    have hbm : 0 ≤ ([0, 0, 0, 0, 0, 0, 6, 4] : List Int).getD p3.toNat default ∧ 1 ≤ ([3, 9, 2, 9, 4, 1, 3, 3] : List Int).getD p3.toNat default := by
      exact (by decide : ∀ q : Fin 8, 0 ≤ ([0, 0, 0, 0, 0, 0, 6, 4] : List Int).getD q.val default ∧ 1 ≤ ([3, 9, 2, 9, 4, 1, 3, 3] : List Int).getD q.val default) ⟨p3.toNat, by omega⟩
    obtain ⟨n, en, n1, n7⟩ := hmany
    rw [en]
    generalize ([0, 0, 0, 0, 0, 0, 6, 4] : List Int).getD p3.toNat default = bs at hbm
    generalize ([3, 9, 2, 9, 4, 1, 3, 3] : List Int).getD p3.toNat default = ms at hbm
    let pg (a : Nat) : Int := if 1 + bs + plan.getD (6 + (a : Int)).toNat default % ms < 9 then 1 + bs + plan.getD (6 + (a : Int)).toNat default % ms else 9
    refine ds_asgLc (as := List.range n) 8 (fun k : Nat => D.int (k : Int)) (fun a : Nat => D.int (pg a)) (fun _ => true) [("_law_k", 9)] rfl sc_l_town.nd (di_rangeN T.b_range (de_v 5) (by omega)) (blkOk_by (N := N_l_town) (sc := defScope s_l_town) (by decide +kernel)) (by decide) (by rw [List.length_range]; omega) (fun _ _ _ _ _ a ha => (dg_name 9 sc_l_town.nd)) (fun _ _ _ _ _ a ha => dts_nil)
      (fun _ _ _ _ _ a ha hb => (de_min2 rfl T.b_min de_int (de_add (de_v 6) (de_mod (de_int1 T.b_int (pE (de_v 3) (de_add de_int (de_v 9)) (by have := List.mem_range.mp ha; omega) (by intro _ _; rfl))) (de_v 7) (by omega))))) ?_
    rw [filt_all]
    refine ds_freeze 8 rfl ?_
    have epg : ((List.range n).map fun a : Nat => D.int (pg a)) = ((List.range n).map pg).map D.int := by rw [List.map_map]; rfl
    rw [epg]
    have pgb : ∀ p ∈ (List.range n).map pg, 1 ≤ p ∧ p ≤ 9 := fun p hp => by
      obtain ⟨a, _, rfl⟩ := List.mem_map.mp hp
      have := Int.emod_nonneg (plan.getD (6 + (a : Int)).toNat default) (show ms ≠ 0 by omega)
      simp only [pg]
      split <;> omega
    generalize hpgs : (List.range n).map pg = pegs at pgb
    have pgl : pegs.length = n := by rw [← hpgs, List.length_map, List.length_range]
    refine ds_asg 10 sc_l_town.nd (dn_e (dn_lst da_nil)) ?_
    refine ds_for (as := List.range n) (f := fun k : Nat => D.int (k : Int)) (js := [9]) (fun i ρ => ∃ order : List Int, order.Perm (upTo i) ∧ ρ = [.fro (.lsk (script.map D.int)), .fro (.int k), .fro (.int 1), .fro (eInts plan), .fro (eInts dg), .fro (.int n), .fro (.int (1 + bs)), .fro (.int ms), .fro (eInts pegs), .unk, .fro (eInts order), .unk]) (fun _ => False) PassesOwn.never rfl (di_rangeN T.b_range (de_v 5) (by omega)) ⟨[], List.Perm.refl _, rfl⟩ (fun i a ρ1 hi ⟨order, ho, e⟩ => ?_) (fun ρ1 ⟨order, ho, e⟩ => ?_) (fun _ h => h.elim)
    · subst e
      obtain ⟨hlt, ea⟩ := List.getElem?_eq_some_iff.mp hi
      rw [List.length_range] at hlt
      rw [List.getElem_range] at ea
      subst ea
      have ol : order.length = i := by rw [ho.length_eq, List.length_map, List.length_range]
      refine ⟨_, dg_name 9 sc_l_town.nd, ?_⟩
      refine ds_asg 11 sc_l_town.nd (de_mod (de_int1 T.b_int (pE (de_v 3) (de_add de_int (de_v 9)) (by omega) (by intro _ _; rfl))) (de_add (de_v 9) de_int) (by omega)) ?_
      have q0 := Int.emod_nonneg (plan.getD (13 + (i : Int)).toNat default) (show ((i : Int) + 1) ≠ 0 by omega)
      generalize plan.getD (13 + (i : Int)).toNat default % ((i : Int) + 1) = q at q0
      refine ds_asg (d := eInts (order.take q.toNat ++ [(i : Int)] ++ order.drop q.toNat)) 10 sc_l_town.nd (de_eq (dn_e (dn_cat (dn_e (dn_cat (dn_e (dn_to q0 (de_l (de_v 10)) (de_v 11))) (dn_e (dn_lst (da_cons (de_v 9) da_nil))) (by rw [List.length_map, List.length_take]; show _ + 1 ≤ _; omega))) (dn_e (dn_from q0 (de_l (de_v 10)) (de_v 11))) (by rw [List.length_append, List.length_map, List.length_map, List.length_take, List.length_drop]; show _ + 1 + _ ≤ _; omega))) (by rw [eInts, List.map_append, List.map_append]; rfl)) ?_
      refine ds_unk 9 (ds_unk 11 (ds_nil ⟨_, ?_, rfl⟩))
      rw [upTo_succ]
      exact (insert_perm order q.toNat i).trans ((ho.cons _).trans (List.perm_append_singleton _ _).symm)
    · subst e
      rw [List.length_range] at ho
      have ol : order.length = n := by rw [ho.length_eq, List.length_map, List.length_range]
      refine ds_retX (dx_lst2 (de_v 8) (dx_callD D3 hr (da_cons (de_v 10) (da_cons (de_v 3) (da_cons (dn_e (dn_from (i := 20) (by decide) (de_l (de_v 3)) de_int)) (da_cons (de_v 4) da_nil)))) ⟨order, plan, plan.drop 20, dg, rfl, by omega, by omega, ho.nodup_iff.mpr (upTo_nodup n), fun x => by rw [ho.mem_iff, mem_upTo, ol], by omega, b1.1, b1.2, by rw [List.length_drop]; omega, by omega, rfl⟩)) ?_
      rintro d ⟨d2, ⟨ls, rfl, hs, ho2⟩, rfl⟩
      rw [ol] at ho2
      exact ⟨⟨pegs, ls⟩, rfl, town_ok n1 n7 pgl pgb hs ho2⟩
end
end K6
set_option maxRecDepth 100000
set_option maxHeartbeats 4000000
namespace K6
open PySem PySem.Spec PyProof.Rows L2 Evl DL
def posL (order : List Int) (ps : List (Nat × Nat)) : List (Int × Int) := ps.map fun p => (order.getD p.1 default, order.getD p.2 default)
structure PosOk (m : Nat) (ps : List (Nat × Nat)) : Prop where
  nd : ps.Nodup
  lt : ∀ p ∈ ps, p.1 < m ∧ p.2 < m ∧ p.1 ≠ p.2
theorem PosOk.snoc {m m' : Nat} {ps : List (Nat × Nat)} (h : PosOk m ps) (hm : m ≤ m') {p : Nat × Nat} (hp : p ∉ ps) (h1 : p.1 < m') (h2 : p.2 < m') (h3 : p.1 ≠ p.2) : PosOk m' (ps ++ [p]) := by
  refine ⟨?_, fun q hq => ?_⟩
  · rw [List.nodup_append]
    exact ⟨h.nd, by simp, fun y hy z hz => by rw [List.mem_singleton.mp hz]; exact fun e => hp (e ▸ hy)⟩
  · rcases List.mem_append.mp hq with hq | hq
    · have := h.lt q hq; exact ⟨by omega, by omega, this.2.2⟩
    · rw [List.mem_singleton.mp hq]; exact ⟨h1, h2, h3⟩
theorem PosOk.mono {m m' : Nat} {ps : List (Nat × Nat)} (h : PosOk m ps) (hm : m ≤ m') : PosOk m' ps := ⟨h.nd, fun p hp => by have := h.lt p hp; exact ⟨by omega, by omega, this.2.2⟩⟩
theorem posL_nodup {order : List Int} (nd : order.Nodup) {ps : List (Nat × Nat)} (h : PosOk order.length ps) : (posL order ps).Nodup := by
  unfold posL
  rw [List.nodup_iff_pairwise_ne, List.pairwise_map]
  refine List.Pairwise.imp_of_mem (fun {a b} ha hb ne e => ne ?_) (List.nodup_iff_pairwise_ne.mp h.nd)
  obtain ⟨a1, a2, _⟩ := h.lt a ha
  obtain ⟨b1, b2, _⟩ := h.lt b hb
  rw [Prod.mk.injEq] at e
  exact Prod.ext (getD_inj nd default a1 b1 e.1) (getD_inj nd default a2 b2 e.2)
theorem posL_ok {order : List Int} (nd : order.Nodup) {n : Nat} (hn : ∀ x ∈ order, 0 ≤ x ∧ x < (n : Int)) {ps : List (Nat × Nat)} (h : PosOk order.length ps) : ∀ l ∈ posL order ps, OkL n l := fun l hl => by
  obtain ⟨p, hp, rfl⟩ := List.mem_map.mp hl
  obtain ⟨a1, a2, a3⟩ := h.lt p hp
  have x1 := hn _ (getD_mem default a1)
  have x2 := hn _ (getD_mem default a2)
  exact ⟨x1.1, x1.2, x2.1, x2.2, fun e => a3 (getD_inj nd default a1 a2 e)⟩
/-- the two rings -/
def twoR (z s sh : Nat) : List (Nat × Nat) := ((List.range z).map fun k => (k, (k + 1) % z)) ++ ((List.range sh).map fun k => (s + k, s + (k + 1) % sh))
theorem mod_ne {k z : Nat} (h2 : 2 ≤ z) (hk : k < z) : (k + 1) % z ≠ k ∧ (k + 1) % z < z := by
  by_cases h : k + 1 < z
  · rw [Nat.mod_eq_of_lt h]; omega
  · have : k + 1 = z := by omega
    rw [this, Nat.mod_self]; omega
theorem twoR_pos {z ap sh : Nat} (hz : 3 ≤ z) (hsh : 2 ≤ sh) (hap : ap ≤ 1) : PosOk (z - 1 + ap + sh) (twoR z (z - 1 + ap) sh) := by
  refine ⟨?_, fun p hp => ?_⟩
  · unfold twoR
    rw [List.nodup_append]
    refine ⟨?_, ?_, fun a ha b hb e => ?_⟩
    · rw [List.nodup_iff_pairwise_ne, List.pairwise_map]
      exact (List.nodup_iff_pairwise_ne.mp List.nodup_range).imp fun h e => h (congrArg Prod.fst e)
    · rw [List.nodup_iff_pairwise_ne, List.pairwise_map]
      exact (List.nodup_iff_pairwise_ne.mp List.nodup_range).imp fun h e => h (by have := congrArg Prod.fst e; simp at this; exact this)
    · obtain ⟨i, hi, rfl⟩ := List.mem_map.mp ha
      obtain ⟨j, hj, rfl⟩ := List.mem_map.mp hb
      have hi := List.mem_range.mp hi
      have hj := List.mem_range.mp hj
      rw [Prod.mk.injEq] at e
      have m1 := mod_ne (k := j) hsh hj
      have m2 := mod_ne (k := i) (z := z) (by omega) hi
      have : i = z - 1 := by omega
      have e2 := e.2
      rw [this, show z - 1 + 1 = z by omega, Nat.mod_self] at e2
      omega
  · unfold twoR at hp
    rcases List.mem_append.mp hp with hp | hp
    · obtain ⟨i, hi, rfl⟩ := List.mem_map.mp hp
      have hi := List.mem_range.mp hi
      have m2 := mod_ne (k := i) (z := z) (by omega) hi
      exact ⟨by show i < _; omega, by show (i + 1) % z < _; omega, fun e => m2.1 e.symm⟩
    · obtain ⟨j, hj, rfl⟩ := List.mem_map.mp hp
      have hj := List.mem_range.mp hj
      have m1 := mod_ne (k := j) hsh hj
      exact ⟨by show z - 1 + ap + j < _; omega, by show z - 1 + ap + (j + 1) % sh < _; omega, fun e => m1.1 (by have e : z - 1 + ap + j = z - 1 + ap + (j + 1) % sh := e; omega)⟩
theorem twoR_side {z sh : Nat} (hz : 3 ≤ z) (hsh : 2 ≤ sh) : ∀ p ∈ twoR z z sh, (p.1 < z ∧ p.2 < z) ∨ (z ≤ p.1 ∧ z ≤ p.2) := fun p hp => by
  unfold twoR at hp
  rcases List.mem_append.mp hp with hp | hp
  · obtain ⟨i, hi, rfl⟩ := List.mem_map.mp hp
    have hi := List.mem_range.mp hi
    have m2 := mod_ne (k := i) (z := z) (by omega) hi
    exact .inl ⟨hi, m2.2⟩
  · obtain ⟨j, hj, rfl⟩ := List.mem_map.mp hp
    exact .inr ⟨by show z ≤ z + j; omega, by show z ≤ z + _; omega⟩
section
variable {P : Program} {w : World} {K : PySem.W.Frag} {mg : Str → Option Value} {base : Heap}
def sizesW : List Int := [3, 3, 2, 4, 3, 6] ++ [7, 7, 7, 7, 7, 7, 7] ++ [3, 3, 3, 3, 3, 3, 3]
theorem sizesW_ok : Sizes sizesW := ⟨by decide, by decide⟩
abbrev sizes7 : List Int := List.replicate 9 7
theorem sizes7_ok : Sizes sizes7 := ⟨by decide, by decide⟩
theorem mod_bd {a : Int} {z : Nat} (hz : 0 < z) : 0 ≤ a % (z : Int) ∧ a % (z : Int) < z := ⟨Int.emod_nonneg _ (by omega), Int.emod_lt_of_pos _ (by omega)⟩
theorem ok_l_twin {fa : Addr} {fd : FuncData} (U : Fun K "_law_twin" "_law_twin" s_l_twin fa fd) (T : Tx mg) (D1 : Df P w K mg base "_law_digits" 1 ["_law_cell_here", "_law_sizes"] F_l_digits) (D2 : Df P w K mg base "_law_cell" 1 ["_law_script", "_law_k"] F_l_cell) : FnOk P w K mg base CX0 2 fa fd ["_law_script", "_law_at", "_law_least"] (spX F_l_town K) := by
  refine dfnX U sc_l_twin (fun ds d h => ?_) fun cdv A outer s H E ds S hr h => ?_
  · obtain ⟨a, b, rfl, _⟩ := h; rfl
  · obtain ⟨script, k, rfl, k0, k9, rfl⟩ := h
    let plan := digits (cell script k) sizesW
    let more := digits (cell script (k + 1)) sizes7
    refine ds_asg (d := eInts plan) 3 sc_l_twin.nd (de_callD D1 hr (da_cons (de_callD D2 hr (da_cons (de_v 0) (da_cons (de_v 1) da_nil)) ⟨script, k, rfl, k0, by omega, rfl⟩) (da_cons (de_eq (d' := eInts sizesW) (dn_e (dn_cat (dn_e (dn_cat (dn_e (dn_lst (da_cons de_int (da_cons de_int (da_cons de_int (da_cons de_int (da_cons de_int (da_cons de_int da_nil)))))))) (dn_e (dn_rep (dn_e (dn_lst (da_cons de_int da_nil))) de_int (by decide))) (by decide))) (dn_e (dn_rep (dn_e (dn_lst (da_cons de_int da_nil))) de_int (by decide))) (by decide))) rfl) da_nil)) ⟨_, _, rfl, sizesW_ok, rfl⟩) ?_
    refine ds_asg (d := eInts more) 4 sc_l_twin.nd (de_callD D1 hr (da_cons (de_callD D2 hr (da_cons (de_v 0) (da_cons (de_add (de_v 1) de_int) da_nil)) ⟨script, k + 1, rfl, by omega, by omega, rfl⟩) (da_cons (de_eq (d' := eInts sizes7) (dn_e (dn_rep (dn_e (dn_lst (da_cons de_int da_nil))) de_int (by decide))) rfl) da_nil)) ⟨_, _, rfl, sizes7_ok, rfl⟩) ?_
    have bp : Bd plan sizesW := digits_bd _ _ fun z hz => (sizesW_ok.2 z hz).1
    have bl : more.length = 9 := by have := (digits_bd (cell script (k + 1)) sizes7 fun z hz => (sizes7_ok.2 z hz).1).1; exact this
    have pl : plan.length = 20 := bp.1
    have b0 := bd_at bp 0 (z := 3) rfl
    have b2 := bd_at bp 2 (z := 2) rfl
    have b3 := bd_at bp 3 (z := 4) rfl
    have b4 := bd_at bp 4 (z := 3) rfl
    have b5 := bd_at bp 5 (z := 6) rfl
    have b13 : ∀ a : Nat, a < 7 → 0 ≤ plan.getD (13 + a) default ∧ plan.getD (13 + a) default < 3 := fun a ha => by
      refine bd_at bp (13 + a) ?_
      exact (by decide : ∀ q : Fin 7, sizesW[13 + q.val]? = some 3) ⟨a, ha⟩
    have pE : ∀ {X : Cx} {ρ : DL.Env} {e b : Expr} {pos : Pos} {j : Int}, DE X e ρ (eInts plan) → DE X b ρ (.int j) → 0 ≤ j ∧ j < 20 → PlainIx b → DE X (.Subscript e b pos) ρ (.int (plan.getD j.toNat default)) := fun h1 h2 h3 h4 => de_ixM (xs := plan) (f := D.int) default (de_l h1) h2 ⟨h3.1, by omega⟩ h4
    have mE : ∀ {X : Cx} {ρ : DL.Env} {e b : Expr} {pos : Pos} {j : Int}, DE X e ρ (eInts more) → DE X b ρ (.int j) → 0 ≤ j ∧ j < 9 → PlainIx b → DE X (.Subscript e b pos) ρ (.int (more.getD j.toNat default)) := fun h1 h2 h3 h4 => de_ixM (xs := more) (f := D.int) default (de_l h1) h2 ⟨h3.1, by omega⟩ h4
    clear_value plan more
    obtain ⟨z, ez, z3, z5⟩ : ∃ z : Nat, 3 + plan.getD 0 default = (z : Int) ∧ 3 ≤ z ∧ z ≤ 5 := ⟨(3 + plan.getD 0 default).toNat, by omega, by omega, by omega⟩
    obtain ⟨ap, eap, ap1⟩ : ∃ ap : Nat, plan.getD 2 default = (ap : Int) ∧ ap ≤ 1 := ⟨(plan.getD 2 default).toNat, by omega, by omega⟩
    refine ds_asg (d := .int z) 5 sc_l_twin.nd (de_eq (de_add de_int (pE (j := 0) (de_v 3) de_int (by decide) (by intro _ _; rfl))) (by rw [← ez]; rfl)) ?_
    refine ds_asg (d := .int ap) 6 sc_l_twin.nd (de_eq (pE (j := 2) (de_v 3) de_int (by decide) (by intro _ _; rfl)) (by rw [← eap]; rfl)) ?_
    have m1 := mod_bd (a := plan.getD 1 default) (z := z - 2) (by omega)
    have ez2 : ((z - 2 : Nat) : Int) = (z : Int) - 2 := by omega
    rw [ez2] at m1
    obtain ⟨sh, esh, sh2, shb⟩ : ∃ sh : Nat, (if 8 - (z : Int) - ap < 2 + plan.getD 1 default % ((z : Int) - 2) then 8 - (z : Int) - ap else 2 + plan.getD 1 default % ((z : Int) - 2)) = (sh : Int) ∧ 2 ≤ sh ∧ z + sh + ap ≤ 8 := by
      generalize plan.getD 1 default % ((z : Int) - 2) = q at m1
      refine ⟨(if 8 - (z : Int) - ap < 2 + q then 8 - (z : Int) - ap else 2 + q).toNat, ?_, ?_, ?_⟩ <;> split <;> omega
    refine ds_asg (d := .int sh) 7 sc_l_twin.nd (de_eq (de_min2 rfl T.b_min (de_add de_int (de_mod (de_int1 T.b_int (pE (j := 1) (de_v 3) de_int (by decide) (by intro _ _; rfl))) (de_sub (de_v 5) de_int) (by omega))) (de_sub (de_sub de_int (de_v 5)) (de_v 6))) (by rw [← esh]; rfl)) ?_
    let bo := z - 1 + ap + sh
    have ebo : (z : Int) + sh - 1 + ap = (bo : Int) := by simp only [bo]; omega
    have bo7 : bo ≤ 7 := by simp only [bo]; omega
    have bo4 : 4 ≤ bo := by simp only [bo]; omega
    have hbo : bo = z - 1 + ap + sh := rfl
    clear_value bo
    refine ds_asg (d := .int bo) 8 sc_l_twin.nd (de_eq (de_add (de_sub (de_add (de_v 5) (de_v 7)) de_int) (de_v 6)) (by rw [ebo])) ?_
    have d3 : 0 ≤ plan.getD 3 default / 3 := Int.ediv_nonneg b3.1 (by decide)
    obtain ⟨n, en, nb, n7⟩ : ∃ n : Nat, (bo : Int) + (if 7 - (bo : Int) < (if plan.getD 3 default / 3 > plan.getD 4 default then plan.getD 3 default / 3 else plan.getD 4 default) then 7 - (bo : Int) else (if plan.getD 3 default / 3 > plan.getD 4 default then plan.getD 3 default / 3 else plan.getD 4 default)) = (n : Int) ∧ bo ≤ n ∧ n ≤ 7 := by
      have : 0 ≤ (if plan.getD 3 default / 3 > plan.getD 4 default then plan.getD 3 default / 3 else plan.getD 4 default) := by split <;> omega
      generalize (if plan.getD 3 default / 3 > plan.getD 4 default then plan.getD 3 default / 3 else plan.getD 4 default) = q at this
      refine ⟨((bo : Int) + (if 7 - (bo : Int) < q then 7 - (bo : Int) else q)).toNat, ?_, ?_, ?_⟩ <;> split <;> omega
    refine ds_asg (d := .int n) 9 sc_l_twin.nd (de_eq (de_add (de_v 8) (de_min2 rfl T.b_min (de_max2 rfl T.b_max (pE (j := 4) (de_v 3) de_int (by decide) (by intro _ _; rfl)) (de_fdiv (pE (j := 3) (de_v 3) de_int (by decide) (by intro _ _; rfl)) de_int (by decide))) (de_sub de_int (de_v 8)))) (by rw [← en]; rfl)) ?_
    refine ds_asg 10 sc_l_twin.nd (dn_e (dn_lst da_nil)) ?_
    refine ds_for (as := List.range n) (f := fun k : Nat => D.int (k : Int)) (js := [11]) (fun i ρ => ∃ order : List Int, order.Perm (upTo i) ∧ ρ = [.fro (.lsk (script.map D.int)), .fro (.int k), .fro (.int 1), .fro (eInts plan), .fro (eInts more), .fro (.int z), .fro (.int ap), .fro (.int sh), .fro (.int bo), .fro (.int n), .fro (eInts order), .unk, .unk, .unk, .unk, .unk, .unk, .unk, .unk]) (fun _ => False) PassesOwn.never rfl (di_rangeN T.b_range (de_v 9) (by omega)) ⟨[], List.Perm.refl _, rfl⟩ (fun i a ρ1 hi ⟨order, ho, e⟩ => ?_) (fun ρ1 ⟨order, ho, e⟩ => ?_) (fun _ h => h.elim)
    · subst e
      obtain ⟨hlt, ea⟩ := List.getElem?_eq_some_iff.mp hi
      rw [List.length_range] at hlt
      rw [List.getElem_range] at ea
      subst ea
      have ol : order.length = i := by rw [ho.length_eq, List.length_map, List.length_range]
      refine ⟨_, dg_name 11 sc_l_twin.nd, ?_⟩
      refine ds_asg 12 sc_l_twin.nd (de_mod (de_int1 T.b_int (pE (de_v 3) (de_add de_int (de_v 11)) (by omega) (by intro _ _; rfl))) (de_add (de_v 11) de_int) (by omega)) ?_
      have q0 := Int.emod_nonneg (plan.getD (6 + (i : Int)).toNat default) (show ((i : Int) + 1) ≠ 0 by omega)
      generalize plan.getD (6 + (i : Int)).toNat default % ((i : Int) + 1) = q at q0
      refine ds_asg (d := eInts (order.take q.toNat ++ [(i : Int)] ++ order.drop q.toNat)) 10 sc_l_twin.nd (de_eq (dn_e (dn_cat (dn_e (dn_cat (dn_e (dn_to q0 (de_l (de_v 10)) (de_v 12))) (dn_e (dn_lst (da_cons (de_v 11) da_nil))) (by rw [List.length_map, List.length_take]; show _ + 1 ≤ _; omega))) (dn_e (dn_from q0 (de_l (de_v 10)) (de_v 12))) (by rw [List.length_append, List.length_map, List.length_map, List.length_take, List.length_drop]; show _ + 1 + _ ≤ _; omega))) (by rw [eInts, List.map_append, List.map_append]; rfl)) ?_
      refine ds_unk 11 (ds_unk 12 (ds_nil ⟨_, ?_, rfl⟩))
      rw [upTo_succ]
      exact (insert_perm order q.toNat i).trans ((ho.cons _).trans (List.perm_append_singleton _ _).symm)
    · subst e
      rw [List.length_range] at ho
      have ol : order.length = n := by rw [ho.length_eq, List.length_map, List.length_range]
      have ond : order.Nodup := ho.nodup_iff.mpr (upTo_nodup n)
      have oin : ∀ x ∈ order, 0 ≤ x ∧ x < (n : Int) := fun x hx => mem_upTo.mp (ho.mem_iff.mp hx)
      refine ds_asgN 13 sc_l_twin.nd (dn_lc (as := List.range n) (fun k : Nat => D.int (k : Int)) (fun a : Nat => D.int (1 + plan.getD (13 + (a : Int)).toNat default)) (fun _ => true) [("_law_k", 11)] rfl sc_l_twin.nd (di_rangeN T.b_range (de_v 9) (by omega)) (blkOk_by (N := N_l_twin) (sc := defScope s_l_twin) (by decide +kernel)) (by decide) (by rw [List.length_range]; omega) (fun _ _ _ _ _ a ha => (dg_name 11 sc_l_twin.nd)) (fun _ _ _ _ _ a ha => dts_nil) (fun _ _ _ _ _ a ha hb => (de_add (de_v 2) (pE (de_v 3) (de_add de_int (de_v 11)) (by have := List.mem_range.mp ha; omega) (by intro _ _; rfl))))) ?_
      rw [filt_all]
      obtain ⟨pegs, ep, pgl, pgb⟩ : ∃ pegs : List Int, ((List.range n).map fun a : Nat => D.int (1 + plan.getD (13 + (a : Int)).toNat default)) = pegs.map D.int ∧ pegs.length = n ∧ ∀ p ∈ pegs, 1 ≤ p ∧ p ≤ 9 := by
        refine ⟨(List.range n).map fun a : Nat => 1 + plan.getD (13 + (a : Int)).toNat default, by rw [List.map_map]; rfl, by rw [List.length_map, List.length_range], fun p hp => ?_⟩
        obtain ⟨a, ha, rfl⟩ := List.mem_map.mp hp
        have ha := List.mem_range.mp ha
        have := b13 a (by omega)
        rw [show (13 + (a : Int)).toNat = 13 + a by omega]
        omega
      rw [ep]
      let s0 := z - 1 + ap
      have hs0 : s0 = z - 1 + ap := rfl
      clear_value s0
      refine ds_asg (d := eInts ((order.take bo).drop s0)) 14 sc_l_twin.nd (dn_e (dn_eq (dn_mid (xs := order) (f := D.int) (i := (z : Int) - 1 + ap) (j := (bo : Int)) (by omega) (by omega) (by omega) (de_l (de_v 10)) (de_add (de_sub (de_v 5) de_int) (de_v 6)) (de_v 8)) (by rw [Int.toNat_natCast, show ((z : Int) - 1 + ap).toNat = s0 by omega]))) ?_
      have sl : ((order.take bo).drop s0).length = sh := by rw [List.length_drop, List.length_take]; omega
      have sg : ∀ j, j < sh → ((order.take bo).drop s0).getD j default = order.getD (s0 + j) default := fun j hj => by
        rw [List.getD_eq_getElem?_getD, List.getElem?_drop, List.getElem?_take_of_lt (by omega), List.getD_eq_getElem?_getD]
      generalize (order.take bo).drop s0 = sec at sl sg
      refine ds_asg (d := eInts (sec.drop (1 - ap))) 15 sc_l_twin.nd (dn_e (dn_eq (dn_from (xs := sec) (f := D.int) (i := 1 - (ap : Int)) (by omega) (de_l (de_v 14)) (de_sub de_int (de_v 6))) (by rw [show (1 - (ap : Int)).toNat = 1 - ap by omega]))) ?_
      have secin : ∀ x ∈ sec, 0 ≤ x ∧ x < (n : Int) := fun x hx => by
        obtain ⟨j, hj, e⟩ := List.getElem_of_mem hx
        have := sg j (by omega)
        rw [List.getD_eq_getElem?_getD, List.getElem?_eq_getElem hj] at this
        have this : sec[j] = _ := this
        rw [e] at this
        rw [this]
        exact oin _ (getD_mem default (by omega))
      have hvl : (sec.drop (1 - ap)).length = sh - (1 - ap) := by rw [List.length_drop, sl]
      have hvin : ∀ x ∈ sec.drop (1 - ap), 0 ≤ x ∧ x < (n : Int) := fun x hx => secin x (List.mem_of_mem_drop hx)
      generalize sec.drop (1 - ap) = heavy at hvl hvin
      have s00 := secin _ (getD_mem default (show 0 < sec.length by omega))
      refine ds_asg 16 sc_l_twin.nd (de_sub (de_sum (ns := (order.take z).map fun h => pegs.getD h.toNat default) rfl T.b_sum (dn_l (dn_eq (dn_lc (as := order.take z) D.int (fun h => D.int (pegs.getD h.toNat default)) (fun _ => true) [("_law_house", 17)] rfl sc_l_twin.nd (di_dn (dn_to (xs := order) (f := D.int) (i := (z : Int)) (by omega) (de_l (de_v 10)) (de_v 5))) (blkOk_by (N := N_l_twin) (sc := defScope s_l_twin) (by decide +kernel)) (by decide) (by rw [List.length_take]; omega) (fun _ _ _ _ _ a ha => (dg_name 17 sc_l_twin.nd)) (fun _ _ _ _ _ a ha => dts_nil)
        (fun _ _ _ _ _ a ha hb => (de_ixM (xs := pegs) (f := D.int) default (dl_v 13) (de_v 17) (by have := oin a (List.mem_of_mem_take ha); exact ⟨this.1, by omega⟩)))) (by rw [filt_all, List.map_map]; rfl)))) (de_mul (de_sub de_int (de_v 6)) (de_ixM (xs := pegs) (f := D.int) (i := sec.getD 0 default) default (dl_v 13) (de_ixM (i := 0) default (de_l (de_v 14)) de_int ⟨by decide, by omega⟩) ⟨s00.1, by omega⟩) (.inl (by constructor <;> omega)))) ?_
      generalize (((order.take z).map fun h => pegs.getD h.toNat default).sum - (1 - (ap : Int)) * pegs.getD (sec.getD 0 default).toNat default) = tot
      refine ds_for (as := List.range heavy.length) (f := fun k : Nat => D.int (k : Int)) (js := [11]) (fun i ρ => ∃ pegs : List Int, pegs.length = n ∧ (∀ p ∈ pegs, 1 ≤ p ∧ p ≤ 9) ∧ ρ = [.fro (.lsk (script.map D.int)), .fro (.int k), .fro (.int 1), .fro (eInts plan), .fro (eInts more), .fro (.int z), .fro (.int ap), .fro (.int sh), .fro (.int bo), .fro (.int n), .fro (eInts order), .unk, .unk, .own (pegs.map D.int), .fro (eInts sec), .fro (eInts heavy), .fro (.int tot), .unk, .unk]) (fun _ => False) PassesOwn.never rfl (di_rangeN T.b_range (de_lenM T.b_len (de_l (de_v 15))) (by omega)) ⟨pegs, pgl, pgb, rfl⟩ (fun i a ρ1 hi ⟨pegs, pgl, pgb, e⟩ => ?_) (fun ρ1 ⟨pegs, pgl, pgb, e⟩ => ?_) (fun _ h => h.elim)
      · subst e
        have ha := List.mem_range.mp (List.mem_of_getElem? hi)
        have hx := hvin _ (getD_mem default ha)
        refine ⟨_, dg_name 11 sc_l_twin.nd, ?_⟩
        refine ds_setI (i := heavy.getD (a : Int).toNat default) (k' := (heavy.getD a default).toNat) 13 rfl (de_min2 rfl T.b_min de_int (de_max2 rfl T.b_max (de_v 2) (de_fdiv (de_add (de_add (de_v 16) (de_ixM (xs := [1, 2, -1, 0, 3, 1]) (f := D.int) (i := plan.getD 5 default) default (dn_l (dn_lst (da_cons de_int (da_cons de_int (da_cons (de_sub de_int de_int) (da_cons de_int (da_cons de_int (da_cons de_int da_nil)))))))) (pE (j := 5) (de_v 3) de_int (by decide) (by intro _ _; rfl)) ⟨b5.1, b5.2⟩)) (de_v 11)) (de_lenM T.b_len (de_l (de_v 15))) (by omega)))) (de_ixM (xs := heavy) (f := D.int) (i := (a : Int)) default (de_l (de_v 15)) (de_v 11) ⟨by omega, by omega⟩) ?_ (ds_unk 11 (ds_nil ?_))
        · rw [Int.toNat_natCast, List.length_map, pgl]
          unfold ixN
          rw [if_pos hx.1, if_pos hx.2]
        · generalize (tot + ([1, 2, -1, 0, 3, 1] : List Int).getD (plan.getD 5 default).toNat default + (a : Int)) / (heavy.length : Int) = v
          refine ⟨pegs.set (heavy.getD a default).toNat (if (if v > 1 then v else 1) < 9 then (if v > 1 then v else 1) else 9), by rw [List.length_set]; exact pgl, fun p hp => ?_, by rw [List.map_set]; rfl⟩
          rcases List.mem_or_eq_of_mem_set hp with hp | hp
          · exact pgb p hp
          · rw [hp]; split <;> (try split) <;> omega
      · subst e
        have mz : ∀ {j : Int}, 0 ≤ j → j < z → 0 ≤ j ∧ j < order.length := fun h1 h2 => ⟨h1, by omega⟩
        refine ds_asgLc (as := List.range z) 18 (fun k : Nat => D.int (k : Int)) (fun k : Nat => encP (order.getD k default, order.getD ((k + 1) % z) default)) (fun _ => true) [("_law_k", 11)] rfl sc_l_twin.nd (di_rangeN T.b_range (de_v 5) (by omega)) (blkOk_by (N := N_l_twin) (sc := defScope s_l_twin) (by decide +kernel)) (by decide) (by rw [List.length_range]; omega) (fun _ _ _ _ _ a ha => (dg_name 11 sc_l_twin.nd)) (fun _ _ _ _ _ a ha => dts_nil) (fun _ _ _ _ _ a ha hb => ?_) ?_
        · have ha := List.mem_range.mp ha
          have a2 : (a + 1) % z < z := Nat.mod_lt _ (by omega)
          have e2 : ((a : Int) + 1) % (z : Int) = (((a + 1) % z : Nat) : Int) := by push_cast; rfl
          exact de_tup (da_cons (de_eq (de_ixM (i := (a : Int)) default (de_l (de_v 10)) (de_v 11) ⟨by omega, by omega⟩) rfl) (da_cons (de_eq (de_ixM (i := ((a : Int) + 1) % (z : Int)) default (de_l (de_v 10)) (de_mod (de_int1 T.b_int (de_add (de_v 11) de_int)) (de_v 5) (by omega)) ⟨by rw [e2]; omega, by rw [e2]; omega⟩) (by rw [e2, Int.toNat_natCast])) da_nil))
        · rw [filt_all]
          refine ds_freeze 18 rfl ?_
          refine ds_asgN (ds := (posL order (twoR z s0 sh)).map encP) 18 sc_l_twin.nd (dn_eq (dn_cat (de_v 18) (dn_e (dn_lc (as := List.range sh) (fun k : Nat => D.int (k : Int)) (fun k : Nat => encP (order.getD (s0 + k) default, order.getD (s0 + (k + 1) % sh) default)) (fun _ => true) [("_law_k", 11)] rfl sc_l_twin.nd (di_rangeN T.b_range (de_v 7) (by omega)) (blkOk_by (N := N_l_twin) (sc := defScope s_l_twin) (by decide +kernel)) (by decide) (by rw [List.length_range]; omega) (fun _ _ _ _ _ a ha => (dg_name 11 sc_l_twin.nd)) (fun _ _ _ _ _ a ha => dts_nil) (fun _ _ _ _ _ a ha hb => ?_))) ?_) ?_) ?_
          · have ha := List.mem_range.mp ha
            have a2 : (a + 1) % sh < sh := Nat.mod_lt _ (by omega)
            have e2 : ((a : Int) + 1) % (sh : Int) = (((a + 1) % sh : Nat) : Int) := by push_cast; rfl
            exact de_tup (da_cons (de_eq (de_ixM (i := (a : Int)) default (de_l (de_v 14)) (de_v 11) ⟨by omega, by omega⟩) (by rw [Int.toNat_natCast, sg a ha])) (da_cons (de_eq (de_ixM (i := ((a : Int) + 1) % (sh : Int)) default (de_l (de_v 14)) (de_mod (de_int1 T.b_int (de_add (de_v 11) de_int)) (de_v 7) (by omega)) ⟨by rw [e2]; omega, by rw [e2]; omega⟩) (by rw [e2, Int.toNat_natCast, sg _ a2])) da_nil))
          · rw [List.length_map, List.length_map, List.length_range, filt_all, List.length_range]; omega
          · rw [filt_all]
            unfold posL twoR
            rw [List.map_append, List.map_append, List.map_map, List.map_map, List.map_map, List.map_map]; rfl
          · let env (ps : List (Nat × Nat)) : DL.Env := [.fro (.lsk (script.map D.int)), .fro (.int k), .fro (.int 1), .fro (eInts plan), .fro (eInts more), .fro (.int z), .fro (.int ap), .fro (.int sh), .fro (.int bo), .fro (.int n), .fro (eInts order), .unk, .unk, .own (pegs.map D.int), .fro (eInts sec), .fro (eInts heavy), .fro (.int tot), .unk, .own ((posL order ps).map encP)]
            have few : ∀ {m : Nat} {ps : List (Nat × Nat)}, PosOk m ps → m ≤ n → ((posL order ps).map encP).length < 90000 := fun {m ps} h hm => by
              rw [List.length_map]
              have h' : PosOk order.length ps := h.mono (by omega)
              have := pairs_len n7 (posL_nodup ond h') (posL_ok ond oin h')
              omega
            have snocE : ∀ {ps : List (Nat × Nat)} {a b : Nat}, (posL order ps).map encP ++ [D.tup [.int (order.getD a default), .int (order.getD b default)]] = (posL order (ps ++ [(a, b)])).map encP := fun {ps a b} => by
              unfold posL
              rw [List.map_append, List.map_append]; rfl
            have mm : ∀ j : Nat, j < 9 → ∀ {y : Nat}, 0 < y → ∃ r : Nat, more.getD j default % (y : Int) = (r : Int) ∧ r < y := fun j hj {y} hy => by
              have := mod_bd (a := more.getD j default) (z := y) hy
              exact ⟨(more.getD j default % (y : Int)).toNat, by omega, by omega⟩
            obtain ⟨r0, er0, hr0⟩ := mm 0 (by omega) (show 0 < z by omega)
            obtain ⟨r1, er1, hr1⟩ := mm 1 (by omega) (show 0 < sh by omega)
            obtain ⟨r2, er2, hr2⟩ := mm 2 (by omega) (show 0 < sh by omega)
            obtain ⟨r3, er3, hr3⟩ := mm 3 (by omega) (show 0 < z by omega)
            obtain ⟨r4, er4, hr4⟩ := mm 4 (by omega) (show 0 < sh by omega)
            have oE : ∀ {X : Cx} {ρ : DL.Env} {e b : Expr} {pos : Pos} {j : Nat}, DE X e ρ (eInts order) → DE X b ρ (.int (j : Int)) → j < n → PlainIx b → DE X (.Subscript e b pos) ρ (.int (order.getD j default)) := fun {X ρ e b pos j} h1 h2 h3 h4 => de_ixM (i := (j : Int)) (xs := order) (f := D.int) default (de_l h1) h2 ⟨by omega, by omega⟩ h4
            have sE : ∀ {X : Cx} {ρ : DL.Env} {e b : Expr} {pos : Pos} {j : Nat}, DE X e ρ (eInts sec) → DE X b ρ (.int (j : Int)) → j < sh → PlainIx b → DE X (.Subscript e b pos) ρ (.int (order.getD (s0 + j) default)) := fun {X ρ e b pos j} h1 h2 h3 h4 => de_eq (de_ixM (i := (j : Int)) (xs := sec) (f := D.int) default (de_l h1) h2 ⟨by omega, by omega⟩ h4) (by rw [Int.toNat_natCast, sg j h3])
            have start : PosOk bo (twoR z s0 sh) := by rw [hs0, hbo]; exact twoR_pos z3 sh2 ap1
            let Side (ps : List (Nat × Nat)) : Prop := ap = 1 → ∀ p ∈ ps, (p.1 < z ∧ p.2 < z) ∨ (z ≤ p.1 ∧ z ≤ p.2) ∨ (p.1 < z ∧ z ≤ p.2)
            refine ds_if (dw_t (dw_and (dt_eqI (de_v 6) de_int) fun h => (dw_and1 (dt_neI (pE (j := 3) (de_v 3) de_int (by decide) (by intro _ _; rfl)) de_int)))) (fun ρ => ∃ ps, PosOk bo ps ∧ Side ps ∧ ρ = env ps) (fun h => ?_) (fun h => ?_) (fun ρ ⟨ps, hps, hsd, e⟩ => ?_)
            · rw [Bool.and_eq_true, decide_eq_true_iff] at h
              have ha1 : ap = 1 := by omega
              have hs1 : s0 = z := by omega
              have sd := twoR_side (sh := sh) z3 sh2
              refine ds_app 18 rfl (de_tup (da_cons (oE (de_v 10) (de_eq (de_mod (de_int1 T.b_int (mE (j := 0) (de_v 4) de_int (by decide) (by intro _ _; rfl))) (de_v 5) (by omega)) (by rw [← er0]; rfl)) (by omega) (by intro _ _; rfl)) (da_cons (sE (de_v 14) (de_eq (de_mod (de_int1 T.b_int (mE (j := 1) (de_v 4) de_int (by decide) (by intro _ _; rfl))) (de_v 7) (by omega)) (by rw [← er1]; rfl)) hr1 (by intro _ _; rfl)) da_nil))) (few start nb) (ds_nil ⟨twoR z s0 sh ++ [(r0, s0 + r1)], start.snoc (Nat.le_refl _) (fun hm => ?_) (by show r0 < bo; omega) (by show s0 + r1 < bo; omega) (by show r0 ≠ s0 + r1; omega), fun _ p hp => ?_, ?_⟩)
              · rw [hs1] at hm
                have q := sd _ hm
                simp only [] at q
                omega
              · rcases List.mem_append.mp hp with hp | hp
                · rw [hs1] at hp
                  rcases sd p hp with q | q
                  · exact .inl q
                  · exact .inr (.inl q)
                · rw [List.mem_singleton.mp hp]
                  exact .inr (.inr ⟨hr0, by show z ≤ s0 + r1; omega⟩)
              · simp only [env]
                rw [← snocE]; rfl
            · refine ds_nil ⟨twoR z s0 sh, start, fun ha1 p hp => ?_, rfl⟩
              have hs1 : s0 = z := by omega
              rw [hs1] at hp
              rcases twoR_side (sh := sh) z3 sh2 p hp with q | q
              · exact .inl q
              · exact .inr (.inl q)
            · subst e
              refine ds_if (dw_t (dw_and (dt_eqI (de_v 6) de_int) fun h => (dw_and1 (dt_inT (ns := [1, 2]) (pE (j := 3) (de_v 3) de_int (by decide) (by intro _ _; rfl)) (de_eq (de_tup (da_cons de_int (da_cons de_int da_nil))) rfl))))) (fun ρ => ∃ ps, PosOk bo ps ∧ ρ = env ps) (fun h => ?_) (fun h => ds_nil ⟨ps, hps, rfl⟩) (fun ρ ⟨ps, hps, e⟩ => ?_)
              · rw [Bool.and_eq_true, decide_eq_true_iff] at h
                have ha1 : ap = 1 := by omega
                have hs1 : s0 = z := by omega
                have sd := hsd ha1
                refine ds_app 18 rfl (de_tup (da_cons (sE (de_v 14) (de_eq (de_mod (de_int1 T.b_int (mE (j := 2) (de_v 4) de_int (by decide) (by intro _ _; rfl))) (de_v 7) (by omega)) (by rw [← er2]; rfl)) hr2 (by intro _ _; rfl)) (da_cons (oE (de_v 10) (de_eq (de_mod (de_int1 T.b_int (mE (j := 3) (de_v 4) de_int (by decide) (by intro _ _; rfl))) (de_v 5) (by omega)) (by rw [← er3]; rfl)) (by omega) (by intro _ _; rfl)) da_nil))) (few hps nb) (ds_nil ⟨ps ++ [(s0 + r2, r3)], hps.snoc (Nat.le_refl _) (fun hm => ?_) (by show s0 + r2 < bo; omega) (by show r3 < bo; omega) (by show s0 + r2 ≠ r3; omega), ?_⟩)
                · have q := sd _ hm
                  simp only [] at q
                  omega
                · simp only [env]
                  rw [← snocE]; rfl
              · subst e
                refine ds_for (as := List.range ((n : Int) - (bo : Int)).toNat) (f := fun k : Nat => D.int ((bo : Int) + (k : Int))) (js := [11]) (fun i ρ => ∃ ps, PosOk (bo + i) ps ∧ ρ = env ps) (fun _ => False) PassesOwn.never rfl (di_range2 T.b_range (de_v 8) (de_v 9) (by omega)) ⟨ps, hps, rfl⟩ (fun i a ρ1 hi ⟨ps, hps, e⟩ => ?_) (fun ρ1 ⟨ps, hps, e⟩ => ?_) (fun _ h => h.elim)
                · subst e
                  obtain ⟨hlt, ea⟩ := List.getElem?_eq_some_iff.mp hi
                  rw [List.length_range] at hlt
                  rw [List.getElem_range] at ea
                  subst ea
                  have ek : (bo : Int) + (i : Int) = ((bo + i : Nat) : Int) := by omega
                  obtain ⟨r5, er5, hr5⟩ := mm 5 (by omega) (show 0 < bo + i by omega)
                  obtain ⟨r6, er6, hr6⟩ := mm 6 (by omega) (show 0 < bo + i by omega)
                  have nin : ∀ {a b : Nat}, a = bo + i ∨ b = bo + i → (a, b) ∉ ps := fun {a b} h hm => by
                    have q := hps.lt _ hm
                    simp only [] at q
                    omega
                  rw [ek]
                  refine ⟨_, dg_name 11 sc_l_twin.nd, ?_⟩
                  refine ds_ifE (dw_t (dw_and (dt_eqI (de_v 11) (de_v 8)) fun h => (dw_and1 (dt_eqI (pE (j := 3) (de_v 3) de_int (by decide) (by intro _ _; rfl)) de_int)))) (fun h => ?_) (fun h => ?_)
                  · refine ds_app 18 rfl (de_tup (da_cons (sE (de_v 14) (de_eq (de_mod (de_int1 T.b_int (mE (j := 4) (de_v 4) de_int (by decide) (by intro _ _; rfl))) (de_v 7) (by omega)) (by rw [← er4]; rfl)) hr4 (by intro _ _; rfl)) (da_cons (oE (de_v 10) (de_v 11) (by omega) (by intro _ _; rfl)) da_nil))) (few hps (by omega)) (ds_unk 11 (ds_nil ⟨ps ++ [(s0 + r4, bo + i)], hps.snoc (by omega) (nin (.inr rfl)) (by show s0 + r4 < _; omega) (by show bo + i < _; omega) (by show s0 + r4 ≠ bo + i; omega), ?_⟩))
                    simp only [env]
                    rw [← snocE]; rfl
                  · refine ds_ifE (dt_lt (mE (j := 7) (de_v 4) de_int (by decide) (by intro _ _; rfl)) de_int) (fun h => ?_) (fun h => ?_)
                    · refine ds_app 18 rfl (de_tup (da_cons (oE (de_v 10) (de_v 11) (by omega) (by intro _ _; rfl)) (da_cons (oE (de_v 10) (de_eq (de_mod (de_int1 T.b_int (mE (j := 5) (de_v 4) de_int (by decide) (by intro _ _; rfl))) (de_v 11) (by omega)) (by rw [← er5]; rfl)) (by omega) (by intro _ _; rfl)) da_nil))) (few hps (by omega)) (ds_unk 11 (ds_nil ⟨ps ++ [(bo + i, r5)], hps.snoc (by omega) (nin (.inl rfl)) (by show bo + i < _; omega) (by show r5 < _; omega) (by show bo + i ≠ r5; omega), ?_⟩))
                      simp only [env]
                      rw [← snocE]; rfl
                    · refine ds_app 18 rfl (de_tup (da_cons (oE (de_v 10) (de_eq (de_mod (de_int1 T.b_int (mE (j := 6) (de_v 4) de_int (by decide) (by intro _ _; rfl))) (de_v 11) (by omega)) (by rw [← er6]; rfl)) (by omega) (by intro _ _; rfl)) (da_cons (oE (de_v 10) (de_v 11) (by omega) (by intro _ _; rfl)) da_nil))) (few hps (by omega)) (ds_unk 11 (ds_nil ⟨ps ++ [(r6, bo + i)], hps.snoc (by omega) (nin (.inr rfl)) (by show r6 < _; omega) (by show bo + i < _; omega) (by show r6 ≠ bo + i; omega), ?_⟩))
                      simp only [env]
                      rw [← snocE]; rfl
                · subst e
                  have hp' : PosOk order.length ps := hps.mono (by rw [List.length_range]; omega)
                  have lnd := posL_nodup ond hp'
                  have lok := posL_ok ond oin hp'
                  have l49 := pairs_len n7 lnd lok
                  refine ds_freeze 13 rfl ?_
                  exact ds_ret (dn_e (dn_lst (da_cons (de_v 13) (da_cons (dn_e (dn_sortP T.b_sorted (dl_v 18) (by omega) fun l hl => (lok l hl).p64 n7)) da_nil)))) ⟨⟨pegs, sortP (posL order ps)⟩, rfl, town_ok (by omega) n7 pgl pgb (sortP_strict n7 lnd lok) fun l hl => lok l ((sortP_perm _).mem_iff.mp hl)⟩
end
end K6
set_option maxRecDepth 100000
set_option maxHeartbeats 4000000
namespace K6
open PySem PySem.Spec PyProof.Rows L2 Evl DL
def lastI (p : List Int) : Int := p.getD (p.length - 1) default
theorem lastI_at {p : List Int} (h : 0 < p.length) : atI p (-1) = some (lastI p) := by
  unfold atI ixN lastI
  rw [if_neg (by decide), if_pos (by omega)]
  show p[((-1 : Int) + p.length).toNat]? = _
  rw [show ((-1 : Int) + p.length).toNat = p.length - 1 by omega, List.getD_eq_getElem?_getD, List.getElem?_eq_getElem (by omega)]; rfl
/-! ### the law's own rings -/
def ringStep (t : Town) (ps : List (List Int)) : List (List Int) := ps.flatMap fun p => ((t.to (lastI p)).filter fun h => decide (p.getD 0 default < h) && !decide (h ∈ p)).map fun h => p ++ [h]
def rPaths (t : Town) : Nat → List (List Int)
  | 0 => (List.range t.n).map fun k : Nat => [(k : Int)]
  | k + 1 => ringStep t (rPaths t k)
def closes (t : Town) (p : List Int) : Bool := decide (1 < p.length) && decide ((lastI p, p.getD 0 default) ∈ t.lanes)
def ringsT (t : Town) : List (List Int) := (List.range t.n).flatMap fun k => (rPaths t k).filter (closes t)
theorem to_nodup {t : Town} (ok : t.Ok) (h : Int) : (t.to h).Nodup := by
  unfold Town.to
  rw [List.nodup_iff_pairwise_ne, List.pairwise_map]
  refine List.Pairwise.imp_of_mem (fun {a b} ha hb ne e => ne ?_) (List.nodup_iff_pairwise_ne.mp ((List.filter_sublist (l := t.lanes)).nodup (lanes_nodup ok)))
  have ha := (List.mem_filter.mp ha).2
  have hb := (List.mem_filter.mp hb).2
  rw [decide_eq_true_iff] at ha hb
  exact Prod.ext (ha.trans hb.symm) e
structure PathOk (t : Town) (k : Nat) (p : List Int) : Prop where
  nd : p.Nodup
  inn : Inn t p
  len : p.length = k + 1
theorem exts_ok {t : Town} (ok : t.Ok) {k : Nat} {p : List Int} (h : PathOk t k p) : ∀ x ∈ (t.to (lastI p)).filter (fun h => decide (p.getD 0 default < h) && !decide (h ∈ p)), PathOk t (k + 1) (p ++ [x]) := fun x hx => by
  obtain ⟨h1, h2⟩ := List.mem_filter.mp hx
  rw [Bool.and_eq_true] at h2
  have hn : x ∉ p := by simpa using h2.2
  refine ⟨?_, fun y hy => ?_, by rw [List.length_append, h.len]; rfl⟩
  · rw [List.nodup_append]
    exact ⟨h.nd, by simp, fun y hy z hz => by rw [List.mem_singleton.mp hz]; exact fun e => hn (e ▸ hy)⟩
  · rcases List.mem_append.mp hy with hy | hy
    · exact h.inn y hy
    · rw [List.mem_singleton.mp hy]; exact Town.to_inn ok h1
theorem exts_few {t : Town} (ok : t.Ok) {k : Nat} {p : List Int} (h : PathOk t k p) : ((t.to (lastI p)).filter (fun h => decide (p.getD 0 default < h) && !decide (h ∈ p))).length ≤ 6 - k := by
  have nd2 : (p ++ (t.to (lastI p)).filter (fun h => decide (p.getD 0 default < h) && !decide (h ∈ p))).Nodup := by
    rw [List.nodup_append]
    refine ⟨h.nd, (List.filter_sublist).nodup (to_nodup ok _), fun y hy z hz e => ?_⟩
    have := (List.mem_filter.mp hz).2
    rw [Bool.and_eq_true] at this
    have hn : z ∉ p := by simpa using this.2
    exact hn (e ▸ hy)
  have := nodup_len (n := t.n) nd2 fun x hx => by
    rcases List.mem_append.mp hx with hx | hx
    · exact h.inn x hx
    · exact Town.to_inn ok (List.mem_filter.mp hx).1
  rw [List.length_append, h.len] at this
  have := ok.n7
  omega
theorem rPaths_ok {t : Town} (ok : t.Ok) : ∀ k, ∀ p ∈ rPaths t k, PathOk t k p
  | 0, p, hp => by
    obtain ⟨a, ha, rfl⟩ := List.mem_map.mp hp
    have ha := List.mem_range.mp ha
    exact ⟨by simp, fun x hx => by rw [List.mem_singleton.mp hx]; omega, rfl⟩
  | k + 1, p, hp => by
    obtain ⟨q, hq, hp⟩ := List.mem_flatMap.mp hp
    obtain ⟨x, hx, rfl⟩ := List.mem_map.mp hp
    exact exts_ok ok (rPaths_ok ok k q hq) x hx
def bnd : Nat → Nat
  | 0 => 7
  | k + 1 => (6 - k) * bnd k
theorem bnd_le : ∀ k, bnd k ≤ 5040
  | 0 => by decide
  | 1 => by decide
  | 2 => by decide
  | 3 => by decide
  | 4 => by decide
  | 5 => by decide
  | 6 => by decide
  | k + 7 => by
    have : bnd (k + 7) = 0 := by
      show (6 - (k + 6)) * bnd (k + 6) = 0
      rw [show 6 - (k + 6) = 0 by omega, Nat.zero_mul]
    omega
theorem rPaths_len {t : Town} (ok : t.Ok) : ∀ k, (rPaths t k).length ≤ bnd k
  | 0 => by
    show ((List.range t.n).map _).length ≤ 7
    rw [List.length_map, List.length_range]; exact ok.n7
  | k + 1 => by
    have ih := rPaths_len ok k
    have := flat_len (m := 6 - k) (f := fun p => ((t.to (lastI p)).filter fun h => decide (p.getD 0 default < h) && !decide (h ∈ p)).map fun h => p ++ [h]) (rPaths t k) fun p hp => by
      rw [List.length_map]; exact exts_few ok (rPaths_ok ok k p hp)
    exact Nat.le_trans this (Nat.mul_le_mul_left _ ih)
section
variable {P : Program} {w : World} {K : PySem.W.Frag} {mg : Str → Option Value} {base : Heap} {C : Addr}
theorem t0E {X : Cx} {ρ : DL.Env} {e b : Expr} {pos : Pos} {t : Town} (h1 : DE X e ρ (eLT t)) (h2 : DE X b ρ (.int 0)) (h3 : PlainIx b := by intro _ _; rfl) : DE X (.Subscript e b pos) ρ (eInts t.pegs) := de_ixL (de_l h1) h2 rfl h3
theorem t1E {X : Cx} {ρ : DL.Env} {e b : Expr} {pos : Pos} {t : Town} (h1 : DE X e ρ (eLT t)) (h2 : DE X b ρ (.int 1)) (h3 : PlainIx b := by intro _ _; rfl) : DE X (.Subscript e b pos) ρ (.lst (t.lanes.map encP)) := de_ixL (de_l h1) h2 rfl h3
theorem p0E {X : Cx} {ρ : DL.Env} {e b : Expr} {pos : Pos} {l : Int × Int} (h1 : DE X e ρ (encP l)) (h2 : DE X b ρ (.int 0)) (h3 : PlainIx b := by intro _ _; rfl) : DE X (.Subscript e b pos) ρ (.int l.1) := de_ixT h1 h2 rfl h3
theorem p1E {X : Cx} {ρ : DL.Env} {e b : Expr} {pos : Pos} {l : Int × Int} (h1 : DE X e ρ (encP l)) (h2 : DE X b ρ (.int 1)) (h3 : PlainIx b := by intro _ _; rfl) : DE X (.Subscript e b pos) ρ (.int l.2) := de_ixT h1 h2 rfl h3
def F_l_ahead (K : PySem.W.Frag) (ds : List D) (S : D → Prop) : Prop := ∃ (t : Town) (h : Int), ds = [eLT t, .int h] ∧ t.Ok ∧ 0 ≤ h ∧ h < t.n ∧ S = fun d => ∃ xs : List Int, d = eInts xs ∧ xs.Nodup ∧ Inn t xs
theorem ok_l_ahead {fa : Addr} {fd : FuncData} (U : Fun K "_law_ahead" "_law_ahead" s_l_ahead fa fd) (T : Tx mg) : FnOk P w K mg base CX0 1 fa fd ["_law_street", "_law_house"] (spX F_l_ahead K) := by
  refine dfnX U sc_l_ahead (fun ds d h => ?_) fun cdv A outer s H E ds S hr h => ?_
  · obtain ⟨a, b, rfl, _⟩ := h; rfl
  · obtain ⟨t, h, rfl, ok, h0, h1, rfl⟩ := h
    have n7 := ok.n7
    refine ds_asgN (ds := [h].map D.int) 2 sc_l_ahead.nd (dn_lst (da_cons (de_v 1) da_nil)) ?_
    let env (xs : List Int) (c : Cell) : DL.Env := [.fro (eLT t), .fro (.int h), .own (xs.map D.int), c, .unk]
    refine ds_for (as := List.range t.n) (f := fun k : Nat => D.int (k : Int)) (js := [3]) (fun i ρ => ∃ xs : List Int, xs.Nodup ∧ Inn t xs ∧ ρ = env xs .unk) (fun _ => False) PassesOwn.never rfl (di_rangeN T.b_range (de_lenM T.b_len (de_l (t0E (de_v 0) de_int))) (show t.n ≤ 90000 by omega)) ⟨[h], by simp, fun x hx => by rw [List.mem_singleton.mp hx]; exact ⟨h0, h1⟩, rfl⟩ (fun i a ρ1 hi ⟨xs, nd, inn, e⟩ => ?_) (fun ρ1 ⟨xs, nd, inn, e⟩ => ?_) (fun _ h => h.elim)
    · subst e
      refine ⟨_, dg_name 3 sc_l_ahead.nd, ?_⟩
      refine ds_for (as := t.lanes) (f := encP) (js := [4]) (fun i ρ => ∃ xs : List Int, xs.Nodup ∧ Inn t xs ∧ ρ = env xs (.fro (.int a))) (fun _ => False) PassesOwn.never rfl (di_lst (t1E (de_v 0) de_int)) ⟨xs, nd, inn, rfl⟩ (fun j l ρ2 hj ⟨xs, nd, inn, e⟩ => ?_) (fun ρ2 ⟨xs, nd, inn, e⟩ => ?_) (fun _ h => h.elim)
      · subst e
        have hl := ok.inn l (List.mem_of_getElem? hj)
        have xl := nodup_len nd inn
        refine ⟨_, dg_name 4 sc_l_ahead.nd, ?_⟩
        refine ds_ifE (dw_t (dw_and (dt_inL (p0E (de_v 4) de_int) (dl_v 2)) fun h => (dw_and1 (dt_ninL (p1E (de_v 4) de_int) (dl_v 2))))) (fun h => ?_) (fun h => ds_unk 4 (ds_nil ⟨xs, nd, inn, rfl⟩))
        rw [Bool.and_eq_true] at h
        have hn : l.2 ∉ xs := by simpa using h.2
        refine ds_app 2 rfl (p1E (de_v 4) de_int) (by rw [List.length_map]; omega) (ds_unk 4 (ds_nil ⟨xs ++ [l.2], ?_, fun x hx => ?_, by simp only [env, List.map_append]; rfl⟩))
        · rw [List.nodup_append]
          exact ⟨nd, by simp, fun y hy z hz => by rw [List.mem_singleton.mp hz]; exact fun e => hn (e ▸ hy)⟩
        · rcases List.mem_append.mp hx with hx | hx
          · exact inn x hx
          · rw [List.mem_singleton.mp hx]; exact ⟨hl.2.2.1, hl.2.2.2.1⟩
      · subst e
        exact ds_unk 3 (ds_nil ⟨xs, nd, inn, rfl⟩)
    · subst e
      exact ds_retO 2 rfl ⟨xs, rfl, nd, inn⟩
def F_l_build (C : Addr) (K : PySem.W.Frag) (ds : List D) (d : D) : Prop := ∃ t : Town, ds = [eLT t] ∧ t.Ok ∧ d = eTown C t
theorem ok_l_build {fa : Addr} {fd : FuncData} (U : Fun K "_law_build" "_law_build" s_l_build fa fd) (T : Tx mg) (D1 : Dk P w K mg base "Street" C 4 ["self", "pegs", "lanes"] F_Street) : FnOk P w K mg base CX0 6 fa fd ["_law_street"] (spD (F_l_build C) K) := by
  refine dfn U sc_l_build (fun ds d h => ?_) fun cdv A outer s H E ds d hr h => ?_
  · obtain ⟨t, rfl, _⟩ := h; rfl
  · obtain ⟨t, rfl, ok, rfl⟩ := h
    have few := ok.few64
    have lL : ∀ {X : Cx} {ρ : DL.Env} {e : Expr} {l : Int × Int}, DE X e ρ (encP l) → DE X e ρ (.tup [.int l.1, .int l.2]) := fun h => h
    refine ds_ret (de_make D1 hr (da_cons (dn_e (dn_list T.b_list (de_l (t0E (de_v 0) de_int)))) (da_cons (dn_e (dn_eq (dn_lc (as := t.lanes) encP encL (fun _ => true) [("_law_lane", 1)] rfl sc_l_build.nd (di_lst (t1E (de_v 0) de_int)) (blkOk_by (N := N_l_build) (sc := defScope s_l_build) (by decide +kernel)) (by decide) (by omega) (fun _ _ _ _ _ a ha => (dg_name 1 sc_l_build.nd)) (fun _ _ _ _ _ a ha => dts_nil) (fun _ _ _ _ _ a ha hb => (dn_e (dn_listT T.b_list (de_v 1))))) (by rw [filt_all]))) da_nil)) ⟨t, rfl, ok, by omega, rfl⟩) rfl
def F_l_spur (K : PySem.W.Frag) (ds : List D) (d : D) : Prop := ∃ (t : Town) (r : List Int), ds = [eLT t, eTup r] ∧ d = eOpt (t.spur r)
theorem ok_l_spur {fa : Addr} {fd : FuncData} (U : Fun K "_law_spur" "_law_spur" s_l_spur fa fd) (T : Tx mg) : FnOk P w K mg base CX0 1 fa fd ["_law_street", "_law_ring"] (spD F_l_spur K) := by
  refine dfn U sc_l_spur (fun ds d h => ?_) fun cdv A outer s H E ds d hr h => ?_
  · obtain ⟨t, r, rfl, _⟩ := h; rfl
  · obtain ⟨t, r, rfl, rfl⟩ := h
    refine ds_for (as := t.lanes) (f := encP) (js := [2]) (fun i ρ => ρ = [.fro (eLT t), .fro (eTup r), .unk] ∧ (t.lanes.take i).find? (fun l => decide (l.1 ∈ r) && !decide (l.2 ∈ r)) = none) (fun _ => False) PassesOwn.never rfl (di_lst (t1E (de_v 0) de_int)) ⟨rfl, rfl⟩
      (fun i l ρ1 hi h => ⟨_, dg_name 2 sc_l_spur.nd, ?_⟩) (fun ρ1 h => ?_) (fun _ h => h.elim)
    · obtain ⟨rfl, h0⟩ := h
      refine ds_ifR (dw_t (dw_and (dt_inT (p0E (de_v 2) de_int) (de_v 1)) fun h => (dw_and1 (dt_ninT (p1E (de_v 2) de_int) (de_v 1))))) (fun h => ?_) (fun h => ds_unk 2 (ds_nil ⟨rfl, ?_⟩))
      · refine ds_ret (de_v 2) ?_
        show encP l = eOpt (t.spur r)
        have : t.spur r = some l := by
          unfold Town.spur
          rw [← List.take_append_drop (i + 1) t.lanes, List.find?_append, take_next' hi, List.find?_append, h0, List.find?_cons, h]; rfl
        rw [this]
      · rw [take_next' hi, List.find?_append, h0, List.find?_cons, h]; rfl
    · obtain ⟨rfl, h0⟩ := h
      rw [List.take_length] at h0
      refine ds_ret de_non ?_
      show D.non = eOpt (t.spur r)
      have : t.spur r = none := h0
      rw [this]
def F_l_weight (K : PySem.W.Frag) (ds : List D) (d : D) : Prop := ∃ (t : Town) (r : List Int), ds = [eLT t, eTup r] ∧ Inn t r ∧ r.length ≤ 1000 ∧ d = .int (t.weight r)
theorem ok_l_weight {fa : Addr} {fd : FuncData} (U : Fun K "_law_weight" "_law_weight" s_l_weight fa fd) (T : Tx mg) : FnOk P w K mg base CX0 1 fa fd ["_law_street", "_law_ring"] (spD F_l_weight K) := by
  refine dfn U sc_l_weight (fun ds d h => ?_) fun cdv A outer s H E ds d hr h => ?_
  · obtain ⟨t, r, rfl, _⟩ := h; rfl
  · obtain ⟨t, r, rfl, hi, hl, rfl⟩ := h
    exact ds_ret (de_sum (ns := r.map fun h => t.pegs.getD h.toNat default) rfl T.b_sum (dn_l (dn_eq (dn_lc (as := r) D.int (fun h => D.int (t.pegs.getD h.toNat default)) (fun _ => true) [("_law_house", 2)] rfl sc_l_weight.nd (di_tup (de_v 1)) (blkOk_by (N := N_l_weight) (sc := defScope s_l_weight) (by decide +kernel)) (by decide) (by omega) (fun _ _ _ _ _ a ha => (dg_name 2 sc_l_weight.nd)) (fun _ _ _ _ _ a ha => dts_nil) (fun _ _ _ _ _ a ha hb => de_ixM (xs := t.pegs) (f := D.int) default (de_l (t0E (de_v 0) de_int)) (de_v 2) ⟨(hi a ha).1, (hi a ha).2⟩)) (by rw [filt_all, List.map_map]; rfl)))) rfl
def F_l_says (K : PySem.W.Frag) (ds : List D) (d : D) : Prop := ∃ a b : Bool, ds = [.bl a, .bl b] ∧ d = .bl (a == b)
theorem ok_l_says {fa : Addr} {fd : FuncData} (U : Fun K "_law_says" "_law_says" s_l_says fa fd) (T : Tx mg) : FnOk P w K mg base CX0 1 fa fd ["_law_told_here", "_law_due"] (spD F_l_says K) := by
  refine dfn U sc_l_says (fun ds d h => ?_) fun cdv A outer s H E ds d hr h => ?_
  · obtain ⟨a, b, rfl, _⟩ := h; rfl
  · obtain ⟨a, b, rfl, rfl⟩ := h
    exact ds_ret (de_eq (de_and (b1 := true) (de_isi (cn := "bool") T.b_isinstance T.b_bool (de_v 0) rfl (by decide +kernel) (by decide +kernel)) fun h => (de_one (de_eqB (de_v 0) (de_v 1)))) (by rw [Bool.true_and])) rfl
def F_l_whole (K : PySem.W.Frag) (ds : List D) (d : D) : Prop := ∃ i : Int, ds = [.int i] ∧ d = .bl true
theorem ok_l_whole {fa : Addr} {fd : FuncData} (U : Fun K "_law_whole" "_law_whole" s_l_whole fa fd) (T : Tx mg) : FnOk P w K mg base CX0 1 fa fd ["_law_value"] (spD F_l_whole K) := by
  refine dfn U sc_l_whole (fun ds d h => ?_) fun cdv A outer s H E ds d hr h => ?_
  · obtain ⟨i, rfl, _⟩ := h; rfl
  · obtain ⟨i, rfl, rfl⟩ := h
    exact ds_ret (de_and (b1 := true) (b2 := true) (de_isi (cn := "int") T.b_isinstance T.b_int (de_v 0) rfl (by decide +kernel) (by decide +kernel)) fun _ => de_one (de_eq (de_not (de_isi (b1 := false) (cn := "bool") T.b_isinstance T.b_bool (de_v 0) rfl (by decide +kernel) (by decide +kernel))) rfl)) rfl
def F_l_houses (K : PySem.W.Frag) (ds : List D) (d : D) : Prop := ∃ ns : List Int, ds = [eTup ns] ∧ ns.length ≤ 1000 ∧ d = .bl true
theorem ok_l_houses {fa : Addr} {fd : FuncData} (U : Fun K "_law_houses" "_law_houses" s_l_houses fa fd) (T : Tx mg) (D1 : Df P w K mg base "_law_whole" 1 ["_law_value"] F_l_whole) : FnOk P w K mg base CX0 2 fa fd ["_law_value"] (spD F_l_houses K) := by
  refine dfn U sc_l_houses (fun ds d h => ?_) fun cdv A outer s H E ds d hr h => ?_
  · obtain ⟨ns, rfl, _⟩ := h; rfl
  · obtain ⟨ns, rfl, hl, rfl⟩ := h
    exact ds_ret (de_and (b1 := true) (b2 := true) (de_isi (cn := "tuple") T.b_isinstance T.b_tuple (de_v 0) rfl (by decide +kernel) (by decide +kernel)) fun h => (de_one (de_eq (de_all (bs := ns.map fun _ => true) rfl T.b_all (dn_l (dn_eq (dn_lc (as := ns) D.int (fun _ => D.bl true) (fun _ => true) [("_law_item", 1)] rfl sc_l_houses.nd (di_tup (de_v 0)) (blkOk_by (N := N_l_houses) (sc := defScope s_l_houses) (by decide +kernel)) (by decide) (by omega) (fun _ _ _ _ _ a ha => (dg_name 1 sc_l_houses.nd)) (fun _ _ _ _ _ a ha => dts_nil) (fun _ _ _ _ _ a ha hb => (de_callD D1 hr (da_cons (de_v 1) da_nil) ⟨a, rfl, rfl⟩))) (by rw [filt_all, List.map_map]; rfl)))) (by rw [List.all_map]; congr 1; exact List.all_eq_true.mpr fun _ _ => rfl)))) rfl
/-- how many tools hang at a house -/
def loadW (ws : List (List Int)) (h : Int) : Nat := (ws.filter fun v => decide (1 < v.length) && decide (lastI v = h)).length
abbrev eWays (ws : List (List Int)) : D := .lst (ws.map eTup)
def F_l_load (K : PySem.W.Frag) (ds : List D) (d : D) : Prop := ∃ (ws : List (List Int)) (h : Int), ds = [eWays ws, .int h] ∧ ws.length ≤ 1000 ∧ (∀ v ∈ ws, 0 < v.length) ∧ d = .int (loadW ws h)
theorem lastE {X : Cx} {ρ : DL.Env} {e b : Expr} {pos : Pos} {v : List Int} (hv : 0 < v.length) (h1 : DE X e ρ (eTup v)) (h2 : DE X b ρ (.int (-1))) (h3 : PlainIx b := by intro _ _; rfl) : DE X (.Subscript e b pos) ρ (.int (lastI v)) := de_ixT h1 h2 (atI_map (f := D.int) (lastI_at hv)) h3
theorem ok_l_load {fa : Addr} {fd : FuncData} (U : Fun K "_law_load" "_law_load" s_l_load fa fd) (T : Tx mg) : FnOk P w K mg base CX0 1 fa fd ["_law_ways", "_law_house"] (spD F_l_load K) := by
  refine dfn U sc_l_load (fun ds d h => ?_) fun cdv A outer s H E ds d hr h => ?_
  · obtain ⟨ws, h, rfl, _⟩ := h; rfl
  · obtain ⟨ws, h, rfl, hl, hv, rfl⟩ := h
    exact ds_ret (de_lenM T.b_len (dn_l (dn_lc (as := ws) eTup eTup (fun v => decide (1 < v.length) && decide (lastI v = h)) [("_law_way", 2)] rfl sc_l_load.nd (di_lst (de_v 0)) (blkOk_by (N := N_l_load) (sc := defScope s_l_load) (by decide +kernel)) (by decide) (by omega) (fun _ _ _ _ _ a ha => (dg_name 2 sc_l_load.nd))
      (fun _ _ _ _ _ a ha => (dts_one (dw_t (dw_and (dt_eq (dt_gt (de_lenTM T.b_len (de_v 2)) de_int) (decide_eq_decide.mpr (by omega))) fun h => (dw_and1 (dt_eqI (lastE (hv a ha) (de_v 2) (de_neg de_int)) (de_v 1))))))) (fun _ _ _ _ _ a ha hb => (de_v 2))))) rfl
end
end K6
set_option maxRecDepth 100000
set_option maxHeartbeats 4000000
namespace K6
open PySem PySem.Spec PyProof.Rows L2 Evl DL
section
variable {P : Program} {w : World} {K : PySem.W.Frag} {mg : Str → Option Value} {base : Heap} {C : Addr}
def F_l_opened (K : PySem.W.Frag) (ds : List D) (S : D → Prop) : Prop := ∃ (t : Town) (one two : Int), ds = [eLT t, .int one, .int two] ∧ t.Ok ∧ S = GoodT
theorem ok_l_opened {fa : Addr} {fd : FuncData} (U : Fun K "_law_opened" "_law_opened" s_l_opened fa fd) (T : Tx mg) (D1 : Dx P w K mg base "_law_ahead" 1 ["_law_street", "_law_house"] F_l_ahead) : FnOk P w K mg base CX0 2 fa fd ["_law_street", "_law_one", "_law_two"] (spX F_l_opened K) := by
  refine dfnX U sc_l_opened (fun ds d h => ?_) fun cdv A outer s H E ds S hr h => ?_
  · obtain ⟨a, b, c, rfl, _⟩ := h; rfl
  · obtain ⟨t, one, two, rfl, ok, rfl⟩ := h
    have n7 := ok.n7
    have few := ok.few64
    refine ds_asg (d := .int t.n) 3 sc_l_opened.nd (de_lenM T.b_len (de_l (t0E (de_v 0) de_int))) ?_
    refine ds_asgNX 4 sc_l_opened.nd (dnx_lc (as := List.range t.n) (fun k : Nat => D.int (k : Int)) (fun k d => ∃ xs : List Int, d = eInts xs ∧ (xs.Nodup ∧ Inn t xs)) [("_law_house", 5)] rfl sc_l_opened.nd (di_rangeN T.b_range (de_v 3) (by omega)) (blkOk_by (N := N_l_opened) (sc := defScope s_l_opened) (by decide +kernel)) (by decide) (by rw [List.length_range]; omega)
      (fun _ _ _ _ _ a ha => dg_name 5 sc_l_opened.nd) (fun _ _ _ _ _ a ha => dx_callD D1 hr (da_cons (de_v 0) (da_cons (de_v 5) da_nil)) ⟨t, a, rfl, ok, by omega, by have := List.mem_range.mp ha; omega, rfl⟩)) fun ds ⟨hl, hds⟩ => ?_
    obtain ⟨xss, rfl, hl2, hx⟩ := pick_map hl hds
    rw [List.length_range] at hl2
    have mem : ∀ {k : Nat}, k < t.n → (xss.getD k []).Nodup ∧ Inn t (xss.getD k []) := fun {k} hk => by
      refine hx k k _ (List.getElem?_range hk) ?_
      rw [List.getD_eq_getElem?_getD, List.getElem?_eq_getElem (by omega)]; rfl
    refine ds_freeze 4 rfl ?_
    refine ds_asgN 6 sc_l_opened.nd (dn_lst da_nil) ?_
    refine ds_for (as := List.range t.n) (f := fun k : Nat => D.int (k : Int)) (js := [5]) (fun i ρ => ∃ rg : List Int, Inn t rg ∧ rg.length ≤ i ∧ ρ = [.fro (eLT t), .fro (.int one), .fro (.int two), .fro (.int t.n), .fro (.lst (xss.map eInts)), .unk, .own (rg.map D.int), .unk, .unk, .unk, .unk]) (fun _ => False) PassesOwn.never rfl (di_rangeN T.b_range (de_v 3) (by omega)) ⟨[], (fun x hx => by cases hx), Nat.zero_le _, rfl⟩ (fun i a ρ1 hi ⟨rg, hg, hgl, e⟩ => ?_) (fun ρ1 ⟨rg, hg, hgl, e⟩ => ?_) (fun _ h => h.elim)
    · subst e
      obtain ⟨hlt, ea⟩ := List.getElem?_eq_some_iff.mp hi
      rw [List.length_range] at hlt
      rw [List.getElem_range] at ea
      subst ea
      obtain ⟨bnd, binn⟩ := mem hlt
      have bl := nodup_len bnd binn
      refine ⟨_, dg_name 5 sc_l_opened.nd, ?_⟩
      refine ds_ifE (dt_gt (de_lenL T.b_len (dn_l (dn_lc (as := xss.getD i []) D.int D.int (fun x => !decide (x = (i : Int)) && decide ((i : Int) ∈ xss.getD x.toNat [])) [("_law_other", 7)] rfl sc_l_opened.nd (di_lst (de_ixM (i := (i : Int)) (xs := xss) (f := eInts) [] (de_l (de_v 4)) (de_v 5) ⟨by omega, by omega⟩)) (blkOk_by (N := N_l_opened) (sc := defScope s_l_opened) (by decide +kernel)) (by decide) (by omega) (fun _ _ _ _ _ a ha => (dg_name 7 sc_l_opened.nd))
        (fun _ _ _ _ _ a ha => (dts_one (dw_t (dw_and (dt_neI (de_v 7) (de_v 5)) fun h => (dw_and1 (dt_inL (ns := xss.getD a.toNat []) (de_v 5) (de_l (de_ixM (i := a) (xs := xss) (f := eInts) [] (de_l (de_v 4)) (de_v 7) ⟨(binn a ha).1, by have := (binn a ha).2; omega⟩)))))))) (fun _ _ _ _ _ a ha hb => (de_v 7))))) de_int) (fun h => ?_) (fun h => ds_unk 5 (ds_nil ⟨rg, hg, by omega, rfl⟩))
      refine ds_app 6 rfl (de_v 5) (by rw [List.length_map]; omega) (ds_unk 5 (ds_nil ⟨rg ++ [(i : Int)], fun x hx => ?_, by rw [List.length_append]; simp; omega, by rw [List.map_append]; rfl⟩))
      rcases List.mem_append.mp hx with hx | hx
      · exact hg x hx
      · rw [List.mem_singleton.mp hx]; exact ⟨by omega, by omega⟩
    · subst e
      refine ds_ifR (dt_eqI (de_lenM T.b_len (dl_v 6)) de_int) (fun h => ds_ret (de_v 0) ⟨t, rfl, ok⟩) (fun h => ?_)
      have h := of_decide_eq_false h
      have q := mod_bd (a := one) (z := rg.length) (by omega)
      obtain ⟨r, er, hr1⟩ : ∃ r : Nat, one % (rg.length : Int) = (r : Int) ∧ r < rg.length := ⟨(one % (rg.length : Int)).toNat, by omega, by omega⟩
      have ain := hg _ (getD_mem default hr1)
      refine ds_asg (d := .int (rg.getD r default)) 8 sc_l_opened.nd (de_eq (de_ixM (i := (r : Int)) (xs := rg) (f := D.int) default (dl_v 6) (de_eq (de_mod (de_int1 T.b_int (de_v 1)) (de_lenM T.b_len (dl_v 6)) (by omega)) (by rw [er])) ⟨by omega, by omega⟩) rfl) ?_
      generalize rg.getD r default = a at ain
      refine ds_asgLc (as := List.range t.n) 9 (fun k : Nat => D.int (k : Int)) (fun k : Nat => D.int (k : Int)) (fun b => !decide ((b : Int) = a) && !decide ((a, (b : Int)) ∈ t.lanes)) [("_law_b", 10)] rfl sc_l_opened.nd (di_rangeN T.b_range (de_v 3) (by omega)) (blkOk_by (N := N_l_opened) (sc := defScope s_l_opened) (by decide +kernel)) (by decide) (by rw [List.length_range]; omega) (fun _ _ _ _ _ k hk => (dg_name 10 sc_l_opened.nd))
        (fun _ _ _ _ _ k hk => (dts_one (dw_t (dw_and (dt_neI (de_v 10) (de_v 8)) fun h => (dw_and1 (dt_eq (dt_ninD (x := (a, (k : Int))) (xs := t.lanes) hr enc_pair (de_tup (da_cons (de_v 8) (da_cons (de_v 10) da_nil))) (de_l (t1E (de_v 0) de_int)) (by kernel_rfl) (fun _ _ => by kernel_rfl)) (by congr 1; exact decide_eq_decide.mpr Iff.rfl))))))) (fun _ _ _ _ _ k hk hb => (de_v 10)) ?_
      refine ds_freeze 9 rfl ?_
      have em : ∀ b ∈ (List.range t.n).filter (fun b : Nat => !decide ((b : Int) = a) && !decide ((a, (b : Int)) ∈ t.lanes)), b < t.n ∧ (b : Int) ≠ a ∧ (a, (b : Int)) ∉ t.lanes := fun b hb => by
        obtain ⟨h1, h2⟩ := List.mem_filter.mp hb
        rw [Bool.and_eq_true] at h2
        exact ⟨List.mem_range.mp h1, by simpa using h2.1, by simpa using h2.2⟩
      generalize (List.range t.n).filter (fun b : Nat => !decide ((b : Int) = a) && !decide ((a, (b : Int)) ∈ t.lanes)) = ms at em
      refine ds_ifR (dt_eqI (de_lenM T.b_len (de_l (de_v 9))) de_int) (fun h => ds_ret (de_v 0) ⟨t, rfl, ok⟩) (fun h => ?_)
      have h := of_decide_eq_false h
      have q2 := mod_bd (a := two) (z := ms.length) (by omega)
      obtain ⟨r2, er2, hr2⟩ : ∃ r : Nat, two % (ms.length : Int) = (r : Int) ∧ r < ms.length := ⟨(two % (ms.length : Int)).toNat, by omega, by omega⟩
      obtain ⟨c1, c2, c3⟩ := em _ (getD_mem default hr2)
      have nd2 : (t.lanes ++ [(a, ((ms.getD r2 default : Nat) : Int))]).Nodup := by
        rw [List.nodup_append]
        exact ⟨lanes_nodup ok, by simp, fun y hy z hz => by rw [List.mem_singleton.mp hz]; exact fun e => c3 (e ▸ hy)⟩
      have ok2 : ∀ l ∈ t.lanes ++ [(a, ((ms.getD r2 default : Nat) : Int))], OkL t.n l := fun l hl => by
        rcases List.mem_append.mp hl with hl | hl
        · exact ok.okl l hl
        · rw [List.mem_singleton.mp hl]
          exact ⟨ain.1, ain.2, by omega, by show ((ms.getD r2 default : Nat) : Int) < t.n; omega, fun e => c2 e.symm⟩
      have l49 := pairs_len n7 nd2 ok2
      exact ds_ret (dn_e (dn_lst (da_cons (t0E (t := t) (de_v 0) de_int) (da_cons (dn_e (dn_sortP (ps := t.lanes ++ [(a, ((ms.getD r2 default : Nat) : Int))]) T.b_sorted (dn_l (dn_eq (dn_cat (t1E (t := t) (de_v 0) de_int) (dn_e (dn_lst (ds := [encP (a, ((ms.getD r2 default : Nat) : Int))]) (da_cons (de_tup (da_cons (de_v 8) (da_cons (de_eq (de_ixM (i := (r2 : Int)) (xs := ms) (f := fun k : Nat => D.int (k : Int)) default (de_l (de_v 9)) (de_eq (de_mod (de_int1 T.b_int (de_v 2)) (de_lenM T.b_len (de_l (de_v 9))) (by omega)) (by rw [er2])) ⟨by omega, by omega⟩) rfl) da_nil))) da_nil))) (by rw [List.length_map]; show _ + 1 ≤ _; omega)) (by rw [List.map_append]; rfl))) (by omega) fun l hl => (ok2 l hl).p64 n7)) da_nil))))
        ⟨⟨t.pegs, sortP (t.lanes ++ [(a, ((ms.getD r2 default : Nat) : Int))])⟩, rfl, town_ok ok.n1 n7 rfl ok.peg (sortP_strict n7 nd2 ok2) fun l hl => ok2 l ((sortP_perm _).mem_iff.mp hl)⟩
def F_l_rings (K : PySem.W.Frag) (ds : List D) (d : D) : Prop := ∃ t : Town, ds = [eLT t] ∧ t.Ok ∧ d = .lst ((ringsT t).map eTup)
theorem ok_l_rings {fa : Addr} {fd : FuncData} (U : Fun K "_law_rings" "_law_rings" s_l_rings fa fd) (T : Tx mg) : FnOk P w K mg base CX0 1 fa fd ["_law_street"] (spD F_l_rings K) := by
  refine dfn U sc_l_rings (fun ds d h => ?_) fun cdv A outer s H E ds d hr h => ?_
  · obtain ⟨t, rfl, _⟩ := h; rfl
  · obtain ⟨t, rfl, ok, rfl⟩ := h
    have n7 := ok.n7
    have few := ok.few64
    have pb : ∀ k, (rPaths t k).length ≤ 5040 := fun k => Nat.le_trans (rPaths_len ok k) (bnd_le k)
    have fb : ∀ l : List Nat, (l.flatMap fun k => (rPaths t k).filter (closes t)).length ≤ 5040 * l.length := fun l => flat_len l fun k _ => Nat.le_trans (List.length_filter_le _ _) (pb k)
    refine ds_asgLc (as := List.range t.n) 1 (fun k : Nat => D.int (k : Int)) (fun k : Nat => eTup [(k : Int)]) (fun _ => true) [("_law_house", 2)] rfl sc_l_rings.nd (di_rangeN T.b_range (de_lenM T.b_len (de_l (t0E (de_v 0) de_int))) (show t.n ≤ 90000 by omega)) (blkOk_by (N := N_l_rings) (sc := defScope s_l_rings) (by decide +kernel)) (by decide) (by rw [List.length_range]; omega) (fun _ _ _ _ _ a ha => (dg_name 2 sc_l_rings.nd)) (fun _ _ _ _ _ a ha => dts_nil) (fun _ _ _ _ _ a ha hb => (de_tup (da_cons (de_v 2) da_nil))) ?_
    rw [filt_all]
    refine ds_freeze 1 rfl ?_
    have e0 : ((List.range t.n).map fun k : Nat => eTup [(k : Int)]) = (rPaths t 0).map eTup := by
      show _ = ((List.range t.n).map _).map eTup
      rw [List.map_map]; rfl
    rw [e0]
    refine ds_asg 3 sc_l_rings.nd (dn_e (dn_lst da_nil)) ?_
    let env (i : Nat) (c6 : Cell) : DL.Env := [.fro (eLT t), .fro (.lst ((rPaths t i).map eTup)), .unk, .fro (.lst (((List.range i).flatMap fun k => (rPaths t k).filter (closes t)).map eTup)), .unk, .unk, c6, .unk, .unk]
    refine ds_for (as := List.range t.n) (f := fun k : Nat => D.int (k : Int)) (js := [4]) (fun i ρ => ρ = env i .unk) (fun _ => False) PassesOwn.never rfl (di_rangeN T.b_range (de_lenM T.b_len (de_l (t0E (de_v 0) de_int))) (show t.n ≤ 90000 by omega)) rfl (fun i a ρ1 hi h => ⟨_, (dg_name 4 sc_l_rings.nd), ?_⟩) (fun ρ1 h => ?_) (fun _ h => h.elim)
    · subst h
      obtain ⟨hlt, ea⟩ := List.getElem?_eq_some_iff.mp hi
      rw [List.length_range] at hlt
      have fbi := fb (List.range i)
      rw [List.length_range] at fbi
      have pbi := pb i
      refine ds_asg (d := .lst (((List.range (i + 1)).flatMap fun k => (rPaths t k).filter (closes t)).map eTup)) 3 sc_l_rings.nd (de_eq (dn_e (dn_cat (de_v 3) (dn_e (dn_lc (as := rPaths t i) eTup eTup (closes t) [("_law_path", 5)] rfl sc_l_rings.nd (di_lst (de_v 1)) (blkOk_by (N := N_l_rings) (sc := defScope s_l_rings) (by decide +kernel)) (by decide) (by omega) (fun _ _ _ _ _ p hp => (dg_name 5 sc_l_rings.nd))
        (fun _ _ _ _ _ p hp => (dts_one (dw_t (dw_and (dt_eq (dt_gt (de_lenTM T.b_len (de_v 5)) de_int) (decide_eq_decide.mpr (by omega))) fun h => (dw_and1 (dt_eq (dt_inD (x := (lastI p, p.getD 0 default)) (xs := t.lanes) hr enc_pair (de_tup (da_cons (lastE (by rw [(rPaths_ok ok i p hp).len]; omega) (de_v 5) (de_neg de_int)) (da_cons (de_ixTM (i := 0) (xs := p) (f := D.int) default (de_v 5) de_int ⟨by decide, by rw [(rPaths_ok ok i p hp).len]; omega⟩) da_nil))) (de_l (t1E (de_v 0) de_int)) (by kernel_rfl) (fun _ _ => by kernel_rfl)) (decide_eq_decide.mpr Iff.rfl))))))) (fun _ _ _ _ _ p hp hb => (de_v 5)))) ?_)) ?_) ?_
      · rw [List.length_map, List.length_map]
        have := List.length_filter_le (closes t) (rPaths t i)
        omega
      · rw [← List.map_append, List.range_succ, List.flatMap_append]
        simp
      · refine ds_asg 6 sc_l_rings.nd (dn_e (dn_lst da_nil)) ?_
        refine ds_for (as := rPaths t i) (f := eTup) (js := [5]) (fun j ρ => ρ = ((env i (.fro (.lst ((ringStep t ((rPaths t i).take j)).map eTup)))).set 3 (.fro (.lst (((List.range (i + 1)).flatMap fun k => (rPaths t k).filter (closes t)).map eTup)))).set 4 (.fro (.int a))) (fun _ => False) PassesOwn.never rfl (di_lst (de_v 1)) rfl (fun j p ρ2 hj h => ⟨_, (dg_name 5 sc_l_rings.nd), ?_⟩) (fun ρ2 h => ?_) (fun _ h => h.elim)
        · subst h
          have hp := List.mem_of_getElem? hj
          have po := rPaths_ok ok i p hp
          have pl : 0 < p.length := by rw [po.len]; omega
          refine ds_asgLc (as := t.lanes) 7 encP (fun l => D.int l.2) (fun l => decide (l.1 = lastI p)) [("_law_lane", 8)] rfl sc_l_rings.nd (di_lst (t1E (de_v 0) de_int)) (blkOk_by (N := N_l_rings) (sc := defScope s_l_rings) (by decide +kernel)) (by decide) (by omega) (fun _ _ _ _ _ l hl => (dg_name 8 sc_l_rings.nd)) (fun _ _ _ _ _ l hl => (dts_one (dt_eqI (p0E (de_v 8) de_int) (lastE pl (de_v 5) (de_neg de_int))))) (fun _ _ _ _ _ l hl hb => (p1E (de_v 8) de_int)) ?_
          refine ds_freeze 7 rfl ?_
          have et : ((t.lanes.filter fun l => decide (l.1 = lastI p)).map fun l => D.int l.2) = (t.to (lastI p)).map D.int := by
            unfold Town.to
            rw [List.map_map]; rfl
          rw [et]
          have tl := t.to_len (lastI p)
          have sl : (ringStep t ((rPaths t i).take j)).length ≤ 6 * 5040 := by
            have := flat_len (m := 6) (f := fun p => ((t.to (lastI p)).filter fun h => decide (p.getD 0 default < h) && !decide (h ∈ p)).map fun h => p ++ [h]) ((rPaths t i).take j) fun q hq => by
              rw [List.length_map]
              have := exts_few ok (rPaths_ok ok i q (List.mem_of_mem_take hq))
              omega
            rw [List.length_take] at this
            unfold ringStep
            omega
          have st : ringStep t ((rPaths t i).take (j + 1)) = ringStep t ((rPaths t i).take j) ++ ((t.to (lastI p)).filter fun h => decide (p.getD 0 default < h) && !decide (h ∈ p)).map fun h => p ++ [h] := by
            unfold ringStep
            rw [take_next' hj, List.flatMap_append]; simp
          refine ds_asg (d := .lst ((ringStep t ((rPaths t i).take (j + 1))).map eTup)) 6 sc_l_rings.nd (de_eq (dn_e (dn_cat (de_v 6) (dn_e (dn_lc (as := t.to (lastI p)) D.int (fun h => eTup (p ++ [h])) (fun h => decide (p.getD 0 default < h) && !decide (h ∈ p)) [("_law_house", 2)] rfl sc_l_rings.nd (di_lst (de_v 7)) (blkOk_by (N := N_l_rings) (sc := defScope s_l_rings) (by decide +kernel)) (by decide) (by omega) (fun _ _ _ _ _ x hx => (dg_name 2 sc_l_rings.nd))
            (fun _ _ _ _ _ x hx => (dts_one (dw_t (dw_and (dt_gt (de_v 2) (de_ixTM (i := 0) (xs := p) (f := D.int) default (de_v 5) de_int ⟨by decide, by omega⟩)) fun h => (dw_and1 (dt_ninT (de_v 2) (de_v 5))))))) (fun _ _ _ _ _ x hx hb => (de_eq (de_catA (de_v 5) (de_tup (da_cons (de_v 2) da_nil)) (by rw [List.length_map, po.len]; show _ + 1 ≤ _; omega)) (by rw [eTup, List.map_append]; rfl))))) ?_)) ?_) (ds_unk 5 (ds_unk 7 (ds_nil rfl)))
          · rw [List.length_map, List.length_map]
            have := List.length_filter_le (fun h => decide (p.getD 0 default < h) && !decide (h ∈ p)) (t.to (lastI p))
            omega
          · rw [st, List.map_append, List.map_map]; rfl
        · subst h
          rw [List.take_length]
          refine ds_asg 1 sc_l_rings.nd (de_v 6) (ds_unk 4 (ds_unk 6 (ds_nil rfl)))
    · subst h
      rw [List.length_range]
      exact ds_ret (de_v 3) rfl
end
end K6
set_option maxRecDepth 100000
set_option maxHeartbeats 4000000
namespace K6
open PySem PySem.Spec PyProof.Rows L2 Evl DL
/-- one deed in the law's own walk -/
def Step (t : Town) (ws : List (List Int)) (dd : Option (Int × Int)) (ws' : List (List Int)) : Prop := (∀ v ∈ ws, 0 < v.length) ∧ ws.length ≤ 200 ∧ match dd with
  | some (k, h) => ∃ j : Nat, k = j ∧ j < ws.length ∧ (lastI (ws.getD j []), h) ∈ t.lanes ∧ (loadW ws h : Int) < t.peg h ∧ (ws.getD j []).length < 40 ∧ ws' = ws.set j (ws.getD j [] ++ [h])
  | none => 0 < ws.length ∧ 2 < (ws.getD 0 []).length ∧ (ws.getD 0 []).length ≤ 40 ∧ 0 ≤ (ws.getD 0 []).getD ((ws.getD 0 []).length - 2) default ∧ (ws.getD 0 []).getD ((ws.getD 0 []).length - 2) default < t.n ∧ (loadW ws ((ws.getD 0 []).getD ((ws.getD 0 []).length - 2) default) : Int) < t.peg ((ws.getD 0 []).getD ((ws.getD 0 []).length - 2) default) ∧ ws' = ws.set 0 (ws.getD 0 []).dropLast
abbrev eDeed : Option (Int × Int) → D
  | some p => eLend p
  | none => eBack
inductive Walks (t : Town) : List (List Int) → List (Option (Int × Int)) → List (List Int) → Prop
  | nil {ws} : Walks t ws [] ws
  | cons {ws ws' r dd rest} : Step t ws dd ws' → Walks t ws' rest r → Walks t ws (dd :: rest) r
theorem set_eq {α : Type} {xs : List α} {j : Nat} (x : α) (h : j < xs.length) : xs.take j ++ [x] ++ xs.drop (j + 1) = xs.set j x := by
  rw [List.set_eq_take_append_cons_drop, if_pos h, List.append_assoc]; rfl
section
variable {P : Program} {w : World} {K : PySem.W.Frag} {mg : Str → Option Value} {base : Heap} {C CS : Addr}
def F_l_done (K : PySem.W.Frag) (ds : List D) (d : D) : Prop := ∃ (t : Town) (ws ws' : List (List Int)) (dd : Option (Int × Int)), ds = [eLT t, eWays ws, eDeed dd] ∧ t.Ok ∧ Step t ws dd ws' ∧ d = eWays ws'
theorem setE {X : Cx} {ρ : DL.Env} {e e2 a b c : Expr} {p1 p2 p3 p4 p5 p6 : Pos} {ws : List (List Int)} {v : List Int} {j : Nat} (hj : j < ws.length) (hz : ws.length ≤ 200) (h1 : DE X e ρ (eWays ws)) (h1' : DE X e2 ρ (eWays ws)) (h2 : DE X a ρ (.int (j : Int))) (h3 : DN X b ρ [eTup v]) (h4 : DE X c ρ (.int ((j : Int) + 1))) (q1 : PlainIx a := by intro _ _; rfl) :
    DN X (.BinOp (.BinOp (.Subscript e (.Slice none (some a) none p1) p2) .Add b p3) .Add (.Subscript e2 (.Slice (some c) none none p4) p5) p6) ρ ((ws.set j v).map eTup) := by
  have := dn_cat (pos := p6) (dn_e (dn_cat (pos := p3) (dn_e (dn_to (pos := p2) (p2 := p1) (i := (j : Int)) (by omega) (de_l h1) h2)) (dn_e h3) (by rw [List.length_map, List.length_take]; show _ + 1 ≤ _; omega))) (dn_e (dn_from (pos := p5) (p2 := p4) (i := (j : Int) + 1) (by omega) (de_l h1') h4)) (by rw [List.length_append, List.length_map, List.length_map, List.length_take, List.length_drop]; show _ + 1 + _ ≤ _; omega)
  refine dn_eq this ?_
  rw [← set_eq v hj, List.map_append, List.map_append, Int.toNat_natCast, show ((j : Int) + 1).toNat = j + 1 by omega]; rfl
theorem ok_l_done {fa : Addr} {fd : FuncData} (U : Fun K "_law_done" "_law_done" s_l_done fa fd) (T : Tx mg) (D1 : Df P w K mg base "_law_whole" 1 ["_law_value"] F_l_whole) (D2 : Df P w K mg base "_law_load" 1 ["_law_ways", "_law_house"] F_l_load) : FnOk P w K mg base CX0 2 fa fd ["_law_street", "_law_ways", "_law_deed"] (spD F_l_done K) := by
  refine dfn U sc_l_done (fun ds d h => ?_) fun cdv A outer s H E ds d hr h => ?_
  · obtain ⟨t, ws, ws', dd, rfl, _⟩ := h; rfl
  · obtain ⟨t, ws, ws', dd, rfl, ok, ⟨hv, hl, hs⟩, rfl⟩ := h
    have wE : ∀ {X : Cx} {ρ : DL.Env} {e b : Expr} {pos : Pos} {j : Nat}, DE X e ρ (eWays ws) → DE X b ρ (.int (j : Int)) → j < ws.length → PlainIx b → DE X (.Subscript e b pos) ρ (eTup (ws.getD j [])) := fun {X ρ e b pos j} h1 h2 h3 h4 => de_ixM (i := (j : Int)) (xs := ws) (f := eTup) [] (de_l h1) h2 ⟨by omega, by omega⟩ h4
    have pE : ∀ {X : Cx} {ρ : DL.Env} {e b : Expr} {pos : Pos} {h : Int}, DE X e ρ (eInts t.pegs) → DE X b ρ (.int h) → 0 ≤ h ∧ h < t.n → PlainIx b → DE X (.Subscript e b pos) ρ (.int (t.peg h)) := fun h1 h2 h3 h4 => de_ixM (xs := t.pegs) (f := D.int) default (de_l h1) h2 ⟨h3.1, h3.2⟩ h4
    cases dd with
    | some p =>
      obtain ⟨k, h⟩ := p
      obtain ⟨j, rfl, hj, hlane, hload, h40, rfl⟩ := hs
      have hh := ok.inn _ hlane
      have vp := hv _ (getD_mem [] hj)
      refine ds_ifR (b1 := false) (dt_eq (dw_t (dw_or (b1 := false) (dt_eq (dt_not (dt_v (de_isi (b1 := true) (cn := "tuple") T.b_isinstance T.b_tuple (de_v 2) rfl (by decide +kernel) (by decide +kernel)))) rfl) fun _ => dw_or (b1 := false) (dt_eq (dt_lt (de_lenT (ds := [D.str "lend", D.int (j : Int), D.int h]) T.b_len (de_v 2)) de_int) (decide_eq_false (show ¬ ((3 : Int) < 2) by decide))) fun _ => dw_or (b1 := false) (dt_eq (dt_not (dt_v (de_callD D1 hr (da_cons (de_ixT (d := .int (j : Int)) (de_v 2) de_int rfl) da_nil) ⟨_, rfl, rfl⟩))) rfl) fun _ => dw_or1 (b1 := false) (dt_eq (dt_not (dt_chain de_int (de_ixT (d := .int (j : Int)) (de_v 2) de_int rfl) (de_lenM T.b_len (de_l (de_v 1))))) (by rw [decide_eq_true (show (0 : Int) ≤ (j : Int) by omega), decide_eq_true (show (j : Int) < (ws.length : Int) by omega)]; rfl)))) rfl) (fun h => by cases h) fun _ => ?_
      refine ds_asg (d := .int (j : Int)) 3 sc_l_done.nd (de_ixT (de_v 2) de_int rfl) ?_
      refine ds_asg (d := eTup (ws.getD j [])) 4 sc_l_done.nd (wE (de_v 1) (de_v 3) hj (by intro _ _; rfl)) ?_
      refine ds_ifR (b1 := true) (dt_eq (dw_t (dw_and (b1 := true) (dt_eqD hr (de_ixT (d := .str "lend") (de_v 2) de_int rfl) de_str (by kernel_rfl) (by kernel_rfl) (by kernel_rfl)) fun _ => dw_and (b1 := true) (dt_eq (dt_eqI (de_lenT (ds := [D.str "lend", D.int (j : Int), D.int h]) T.b_len (de_v 2)) de_int) (decide_eq_true (show ((3 : Int) = 3) by decide))) fun _ => dw_and1 (b1 := true) (dt_v (de_callD D1 hr (da_cons (de_ixT (d := .int h) (de_v 2) de_int rfl) da_nil) ⟨_, rfl, rfl⟩)))) rfl) (fun _ => ?_) (fun h => by cases h)
      refine ds_ifR (b1 := true) (dt_eq (dw_t (dw_and (b1 := true) (dt_eq (dt_inD (x := (lastI (ws.getD j []), h)) (xs := t.lanes) hr enc_pair (de_tup (da_cons (lastE vp (de_v 4) (de_neg de_int)) (da_cons (de_ixT (d := .int h) (de_v 2) de_int rfl) da_nil))) (de_l (t1E (de_v 0) de_int)) (by kernel_rfl) (fun _ _ => by kernel_rfl)) (by simpa using hlane)) fun _ => dw_and1 (b1 := true) (dt_eq (dt_lt (de_callD D2 hr (da_cons (de_v 1) (da_cons (de_ixT (d := .int h) (de_v 2) de_int rfl) da_nil)) ⟨ws, h, rfl, by omega, hv, rfl⟩) (pE (t0E (de_v 0) de_int) (de_ixT (d := .int h) (de_v 2) de_int rfl) ⟨hh.2.2.1, hh.2.2.2.1⟩ (by intro _ _; rfl))) (decide_eq_true hload)))) rfl) (fun _ => ?_) (fun h => by cases h)
      exact ds_ret (dn_e (setE hj hl (de_v 1) (de_v 1) (de_v 3) (dn_lst (da_cons (de_eq (de_catA (de_v 4) (de_tup (da_cons (de_ixT (d := .int h) (de_v 2) de_int rfl) da_nil)) (by rw [List.length_map]; show _ + 1 ≤ _; omega)) (by rw [eTup, List.map_append]; rfl)) da_nil)) (de_add (de_v 3) de_int))) rfl
    | none =>
      obtain ⟨h0, h2, h40, hp0, hp1, hload, rfl⟩ := hs
      refine ds_ifR (b1 := false) (dt_eq (dw_t (dw_or (b1 := false) (dt_eq (dt_not (dt_v (de_isi (b1 := true) (cn := "tuple") T.b_isinstance T.b_tuple (de_v 2) rfl (by decide +kernel) (by decide +kernel)))) rfl) fun _ => dw_or (b1 := false) (dt_eq (dt_lt (de_lenT T.b_len (de_v 2)) de_int) (by decide)) fun _ => dw_or (b1 := false) (dt_eq (dt_not (dt_v (de_callD D1 hr (da_cons (de_ixT (d := .int 0) (de_v 2) de_int rfl) da_nil) ⟨_, rfl, rfl⟩))) rfl) fun _ => dw_or1 (b1 := false) (dt_eq (dt_not (dt_chain de_int (de_ixT (d := .int 0) (de_v 2) de_int rfl) (de_lenM T.b_len (de_l (de_v 1))))) (by rw [decide_eq_true (show (0 : Int) < (ws.length : Int) by omega)]; rfl)))) rfl) (fun h => by cases h) fun _ => ?_
      refine ds_asg (d := .int ((0 : Nat) : Int)) 3 sc_l_done.nd (de_ixT (de_v 2) de_int rfl) ?_
      refine ds_asg (d := eTup (ws.getD 0 [])) 4 sc_l_done.nd (wE (de_v 1) (de_v 3) h0 (by intro _ _; rfl)) ?_
      have pre : atI (ws.getD 0 []) (-2) = some ((ws.getD 0 []).getD ((ws.getD 0 []).length - 2) default) := by
        generalize ws.getD 0 [] = v at h2
        unfold atI ixN
        rw [if_neg (by decide), if_pos (by omega)]
        show v[((-2 : Int) + v.length).toNat]? = _
        rw [show ((-2 : Int) + v.length).toNat = v.length - 2 by omega, List.getD_eq_getElem?_getD, List.getElem?_eq_getElem (by omega)]; rfl
      refine ds_ifR (b1 := false) (dt_eq (dw_t (dw_and (b1 := false) (b2 := true) (dt_eqD hr (de_ixT (d := .str "back") (de_v 2) de_int rfl) de_str (by kernel_rfl) (by kernel_rfl) (by kernel_rfl)) fun h => by cases h)) rfl) (fun h => by cases h) (fun _ => ?_)
      have pv2 : ∀ {X : Cx} {ρ : DL.Env} {e b : Expr} {pos : Pos}, DE X e ρ (eTup (ws.getD 0 [])) → DE X b ρ (.int (-2)) → PlainIx b → DE X (.Subscript e b pos) ρ (.int ((ws.getD 0 []).getD ((ws.getD 0 []).length - 2) default)) := fun h1 h2 h3 => de_ixT h1 h2 (atI_map (f := D.int) pre) h3
      refine ds_ifR (b1 := true) (dt_eq (dw_t (dw_and (b1 := true) (dt_eqD hr (de_ixT (d := .str "back") (de_v 2) de_int rfl) de_str (by kernel_rfl) (by kernel_rfl) (by kernel_rfl)) fun _ => dw_and (b1 := true) (dt_eq (dt_eqI (de_lenT T.b_len (de_v 2)) de_int) (by decide)) fun _ => dw_and1 (b1 := true) (dt_eq (dt_gt (de_lenTM T.b_len (de_v 4)) de_int) (decide_eq_true (by omega))))) rfl) (fun _ => ?_) (fun h => by cases h)
      refine ds_ifR (b1 := true) (dt_eq (dw_t (dw_or (b1 := false) (b2 := true) (dt_eq (dt_eqI (de_lenTM T.b_len (de_v 4)) de_int) (decide_eq_false (by omega))) fun _ => dw_or1 (b1 := true) (dt_eq (dt_lt (de_callD D2 hr (da_cons (de_v 1) (da_cons (pv2 (de_v 4) (de_neg de_int) (by intro _ _; rfl)) da_nil)) ⟨ws, _, rfl, by omega, hv, rfl⟩) (pE (t0E (de_v 0) de_int) (pv2 (de_v 4) (de_neg de_int) (by intro _ _; rfl)) ⟨hp0, hp1⟩ (by intro _ _; rfl))) (decide_eq_true hload)))) rfl) (fun _ => ?_) (fun h => by cases h)
      exact ds_ret (dn_e (setE h0 hl (de_v 1) (de_v 1) (de_v 3) (dn_lst (da_cons (de_lastT (xs := ws.getD 0 []) (f := D.int) (by omega) (de_v 4) (de_neg de_int)) da_nil)) (de_add (de_v 3) de_int))) rfl
def F_l_walked (K : PySem.W.Frag) (ds : List D) (d : D) : Prop := ∃ (t : Town) (ws r : List (List Int)) (dds : List (Option (Int × Int))), ds = [eLT t, eWays ws, .tup (dds.map eDeed), .int 200] ∧ t.Ok ∧ dds.length ≤ 200 ∧ Walks t ws dds r ∧ d = eWays r
theorem ok_l_walked {fa : Addr} {fd : FuncData} (U : Fun K "_law_walked" "_law_walked" s_l_walked fa fd) (T : Tx mg) (D1 : Df P w K mg base "_law_done" 2 ["_law_street", "_law_ways", "_law_deed"] F_l_done) : FnOk P w K mg base CX0 3 fa fd ["_law_street", "_law_ways", "_law_row", "_law_most"] (spD F_l_walked K) := by
  refine dfn U sc_l_walked (fun ds d h => ?_) fun cdv A outer s H E ds d hr h => ?_
  · obtain ⟨t, ws, r, dds, rfl, _⟩ := h; rfl
  · obtain ⟨t, ws, r, dds, rfl, ok, hl, hw, rfl⟩ := h
    refine ds_ifR (b1 := false) (dt_eq (dw_t (dw_or (b1 := false) (dt_eq (dt_not (dt_v (de_isi (b1 := true) (cn := "tuple") T.b_isinstance T.b_tuple (de_v 2) rfl (by decide +kernel) (by decide +kernel)))) rfl) fun _ => dw_or1 (b1 := false) (dt_eq (dt_gt (de_lenTM T.b_len (de_v 2)) (de_v 3)) (decide_eq_false (by omega))))) rfl) (fun h => by cases h) fun _ => ?_
    refine ds_asg 4 sc_l_walked.nd (de_v 1) ?_
    refine ds_for (as := dds) (f := eDeed) (js := [5]) (fun i ρ => ∃ now, Walks t now (dds.drop i) r ∧ ρ = [.fro (eLT t), .fro (eWays ws), .fro (.tup (dds.map eDeed)), .fro (.int 200), .fro (eWays now), .unk]) (fun _ => False) PassesOwn.never rfl (di_tup (de_v 2)) ⟨ws, hw, rfl⟩ (fun i dd ρ1 hi ⟨now, hn, e⟩ => ?_) (fun ρ1 ⟨now, hn, e⟩ => ?_) (fun _ h => h.elim)
    · subst e
      obtain ⟨hlt, ea⟩ := List.getElem?_eq_some_iff.mp hi
      have ed : dds.drop i = dd :: dds.drop (i + 1) := by rw [← ea]; exact List.drop_eq_getElem_cons hlt
      rw [ed] at hn
      cases hn with
      | cons hst hrest =>
        rename_i ws2
        refine ⟨_, dg_name 5 sc_l_walked.nd, ?_⟩
        refine ds_asg (d := eWays ws2) 4 sc_l_walked.nd (de_callD D1 hr (da_cons (de_v 0) (da_cons (de_v 4) (da_cons (de_v 5) da_nil))) ⟨t, now, ws2, dd, rfl, ok, hst, rfl⟩) ?_
        obtain ⟨k, kE, kl, k40⟩ : ∃ k : Nat, atI [eDeed dd] 0 = some (eDeed dd) ∧ k < ws2.length ∧ ((∃ p, dd = some p ∧ p.1 = k) ∨ (dd = none ∧ k = 0)) ∧ (ws2.getD k []).length ≤ 40 := by
          obtain ⟨hv, hl2, hs⟩ := hst
          cases dd with
          | some p =>
            obtain ⟨j, hk, hj, _, _, h40, rfl⟩ := hs
            refine ⟨j, rfl, by rw [List.length_set]; exact hj, .inl ⟨p, rfl, hk⟩, ?_⟩
            rw [List.getD_eq_getElem?_getD, List.getElem?_set_self hj]
            show (now.getD j [] ++ [_]).length ≤ 40
            rw [List.length_append, List.length_singleton]; omega
          | none =>
            obtain ⟨h0, _, h40, _, _, _, rfl⟩ := hs
            refine ⟨0, rfl, by rw [List.length_set]; exact h0, .inr ⟨rfl, rfl⟩, ?_⟩
            rw [List.getD_eq_getElem?_getD, List.getElem?_set_self h0]
            show (now.getD 0 []).dropLast.length ≤ 40
            rw [List.length_dropLast]; omega
        obtain ⟨kd, k40⟩ := k40
        have dE : ∀ {X : Cx} {ρ : DL.Env} {e b : Expr} {pos : Pos}, DE X e ρ (eDeed dd) → DE X b ρ (.int 1) → PlainIx b → DE X (.Subscript e b pos) ρ (.int (k : Int)) := fun {X ρ e b pos} h1 h2 h3 => by
          rcases kd with ⟨p, rfl, e⟩ | ⟨rfl, rfl⟩
          · exact de_eq (de_ixT (d := .int p.1) h1 h2 rfl h3) (by rw [e])
          · exact de_ixT h1 h2 rfl h3
        refine ds_ifR (b1 := false) (dt_eq (dw_t (dw_or (b1 := false) (dt_eq (dt_isN (da := eWays ws2) (de_v 4)) rfl) fun _ => dw_or1 (b1 := false) (dt_eq (dt_gt (de_lenTM (xs := ws2.getD k []) (g := D.int) T.b_len (de_ixM (i := (k : Int)) (xs := ws2) (f := eTup) [] (de_l (de_v 4)) (dE (de_v 5) de_int (by intro _ _; rfl)) ⟨by omega, by omega⟩)) de_int) (decide_eq_false (by omega))))) rfl) (fun h => by cases h) fun _ => ds_unk 5 (ds_nil ⟨ws2, hrest, rfl⟩)
    · subst e
      rw [List.drop_length] at hn
      cases hn
      exact ds_ret (de_v 4) rfl
end
end K6
set_option maxRecDepth 100000
set_option maxHeartbeats 4000000
namespace K6
open PySem PySem.Spec PyProof.Rows L2 Evl DL
def preI (v : List Int) : Int := v.getD (v.length - 2) default
theorem preI_at {v : List Int} (h : 2 ≤ v.length) : atI v (-2) = some (preI v) := by
  unfold atI ixN preI
  rw [if_neg (by decide), if_pos (by omega)]
  show v[((-2 : Int) + v.length).toNat]? = _
  rw [show ((-2 : Int) + v.length).toNat = v.length - 2 by omega, List.getD_eq_getElem?_getD, List.getElem?_eq_getElem (by omega)]; rfl
structure Stuck (t : Town) (ws : List (List Int)) (lot : List Int) : Prop where
  ne : lot ≠ []
  few : ws.length ≤ 1000
  pos : ∀ v ∈ ws, 0 < v.length
  inn : Inn t lot
  full : ∀ h ∈ lot, (loadW ws h : Int) = t.peg h
  want : ∀ h ∈ lot, ∀ v ∈ ws, 1 < v.length → lastI v = h → 2 < v.length ∧ preI v ∈ lot
/-- the row fills the ring and sticks -/
structure Fills (t : Town) (m : QI) (sp : Int × Int) : Prop where
  ex : ∃ r, Walks t ((fillWays t (turnAt m.2 sp.1) sp.2).map fun v => [v.getD 0 default]) ((fillLends (fillWays t (turnAt m.2 sp.1) sp.2)).map some ++ [none]) r ∧ Stuck t r m.2
  count : ((fillWays t (turnAt m.2 sp.1) sp.2).length : Int) = m.1
  inn : ∀ v ∈ fillWays t (turnAt m.2 sp.1) sp.2, 0 ≤ v.getD 0 default ∧ v.getD 0 default < t.n
  short : (fillLends (fillWays t (turnAt m.2 sp.1) sp.2)).length ≤ 199
section
variable {P : Program} {w : World} {K : PySem.W.Frag} {mg : Str → Option Value} {base : Heap} {C CS : Addr}
def F_l_is_stuck (K : PySem.W.Frag) (ds : List D) (d : D) : Prop := ∃ (t : Town) (ws : List (List Int)) (lot : List Int), ds = [eLT t, eWays ws, eTup lot] ∧ Stuck t ws lot ∧ d = .bl true
theorem ok_l_is_stuck {fa : Addr} {fd : FuncData} (U : Fun K "_law_is_stuck" "_law_is_stuck" s_l_is_stuck fa fd) (T : Tx mg) : FnOk P w K mg base CX0 1 fa fd ["_law_street", "_law_ways", "_law_lot"] (spD F_l_is_stuck K) := by
  refine dfn U sc_l_is_stuck (fun ds d h => ?_) fun cdv A outer s H E ds d hr h => ?_
  · obtain ⟨t, ws, lot, rfl, _⟩ := h; rfl
  · obtain ⟨t, ws, lot, rfl, S, rfl⟩ := h
    have few := S.few
    refine ds_for (as := lot) (f := D.int) (js := [3]) (fun i ρ => ρ = [.fro (eLT t), .fro (eWays ws), .fro (eTup lot), .unk, .unk, .unk]) (fun _ => False) PassesOwn.never rfl (di_tup (de_v 2)) rfl (fun i h ρ1 hi e => ⟨_, (dg_name 3 sc_l_is_stuck.nd), ?_⟩) (fun ρ1 e => ?_) (fun _ h => h.elim)
    · subst e
      have hm := List.mem_of_getElem? hi
      have hin := S.inn h hm
      refine ds_asgLc (as := ws) 4 eTup eTup (fun v => decide (1 < v.length) && decide (lastI v = h)) [("_law_way", 5)] rfl sc_l_is_stuck.nd (di_lst (de_v 1)) (blkOk_by (N := N_l_is_stuck) (sc := defScope s_l_is_stuck) (by decide +kernel)) (by decide) (by omega) (fun _ _ _ _ _ a ha => (dg_name 5 sc_l_is_stuck.nd))
        (fun _ _ _ _ _ a ha => (dts_one (dw_t (dw_and (dt_eq (dt_gt (de_lenTM T.b_len (de_v 5)) de_int) (decide_eq_decide.mpr (by omega))) fun h => (dw_and1 (dt_eqI (lastE (S.pos a ha) (de_v 5) (de_neg de_int)) (de_v 3))))))) (fun _ _ _ _ _ a ha hb => (de_v 5)) ?_
      have hu : ∀ v ∈ ws.filter (fun v => decide (1 < v.length) && decide (lastI v = h)), 2 < v.length ∧ preI v ∈ lot := fun v hv => by
        obtain ⟨h1, h2⟩ := List.mem_filter.mp hv
        simp only [Bool.and_eq_true, decide_eq_true_iff] at h2
        exact S.want h hm v h1 h2.1 h2.2
      have hl : ((ws.filter fun v => decide (1 < v.length) && decide (lastI v = h)).length : Int) = t.peg h := S.full h hm
      have hl2 := List.length_filter_le (fun v : List Int => decide (1 < v.length) && decide (lastI v = h)) ws
      generalize ws.filter (fun v => decide (1 < v.length) && decide (lastI v = h)) = hung at hu hl hl2
      refine ds_freeze 4 rfl ?_
      refine ds_ifR (b1 := false) (dt_eq (dt_neI (de_lenM T.b_len (de_l (de_v 4))) (de_ixM (xs := t.pegs) (f := D.int) default (de_l (t0E (de_v 0) de_int)) (de_v 3) ⟨hin.1, hin.2⟩)) (by rw [decide_eq_true (show (hung.length : Int) = t.pegs.getD h.toNat default from hl)]; rfl)) (fun h => by cases h) fun _ => ?_
      refine ds_ifR (b1 := false) (dt_eq (dt_neI (de_lenL (ds := hung.map eTup) T.b_len (dn_l (dn_eq (dn_lc (as := hung) eTup eTup (fun v => decide (2 < v.length) && decide (preI v ∈ lot)) [("_law_way", 5)] rfl sc_l_is_stuck.nd (di_lst (de_v 4)) (blkOk_by (N := N_l_is_stuck) (sc := defScope s_l_is_stuck) (by decide +kernel)) (by decide) (by omega) (fun _ _ _ _ _ a ha => (dg_name 5 sc_l_is_stuck.nd))
        (fun _ _ _ _ _ a ha => (dts_one (dw_t (dw_and (dt_eq (dt_gt (de_lenTM T.b_len (de_v 5)) de_int) (decide_eq_decide.mpr (by omega))) fun h => (dw_and1 (dt_inT (de_ixT (d := .int (preI a)) (de_v 5) (de_neg de_int) (atI_map (f := D.int) (preI_at (by have := (hu a ha).1; omega)))) (de_v 2))))))) (fun _ _ _ _ _ a ha hb => (de_v 5))) (by rw [List.filter_eq_self.mpr fun v hv => by rw [decide_eq_true (hu v hv).1, decide_eq_true (hu v hv).2]; rfl])))) (de_lenM T.b_len (de_l (de_v 4)))) (by rw [List.length_map]; simp)) (fun h => by cases h) fun _ => ds_unk 3 (ds_unk 4 (ds_nil rfl))
    · subst e
      refine ds_ret (de_eq (de_gt (de_lenTM T.b_len (de_v 2)) de_int) ?_) rfl
      rw [decide_eq_true]
      have := List.length_pos_iff.mpr S.ne
      omega
def F_l_told (CS : Addr) (K : PySem.W.Frag) (ds : List D) (d : D) : Prop := ∃ (t : Town) (m : QI) (sp : Int × Int) (sr : List (List Int)), ds = [eLT t, stickD CS t m sp, .lst (sr.map eTup), .int m.1] ∧ t.Ok ∧ m.2 ∈ sr ∧ sr.length ≤ 90000 ∧ Inn t m.2 ∧ m.2.length ≤ 100 ∧ t.weight m.2 = m.1 ∧ t.spur m.2 = some sp ∧ (m.1 ≤ 20 → Fills t m sp) ∧ d = .bl true
theorem nice_tup (n : Nat) (r : List Int) : (eTup r).nice (n + 1) = true := nice_ints n r
theorem ok_l_told {fa : Addr} {fd : FuncData} (U : Fun K "_law_told" "_law_told" s_l_told fa fd) (T : Tx mg) (Sk : Kx K CS) (D1 : Df P w K mg base "_law_houses" 2 ["_law_value"] F_l_houses) (D2 : Df P w K mg base "_law_whole" 1 ["_law_value"] F_l_whole) (D3 : Df P w K mg base "_law_weight" 1 ["_law_street", "_law_ring"] F_l_weight) (D4 : Df P w K mg base "_law_spur" 1 ["_law_street", "_law_ring"] F_l_spur)
    (D5 : Df P w K mg base "_law_walked" 3 ["_law_street", "_law_ways", "_law_row", "_law_most"] F_l_walked) (D6 : Df P w K mg base "_law_is_stuck" 1 ["_law_street", "_law_ways", "_law_lot"] F_l_is_stuck) : FnOk P w K mg base CX0 4 fa fd ["_law_street", "_law_told_here", "_law_spurred", "_law_least"] (spD (F_l_told CS) K) := by
  refine dfn U sc_l_told (fun ds d h => ?_) fun cdv A outer s H E ds d hr h => ?_
  · obtain ⟨t, m, sp, sr, rfl, _⟩ := h; rfl
  · obtain ⟨t, m, sp, sr, rfl, ok, hm, hsr, hin, hl, hw, hsp, hfill, rfl⟩ := h
    have both : ∀ (o rw' : D), (stickD CS t m sp = .ins CS (stickF (.tupf (m.2.map D.int)) (encP sp) (.int m.1) o rw')) → (m.1 ≤ 20 → o = eTup ((fillWays t (turnAt m.2 sp.1) sp.2).map fun v => v.getD 0 default) ∧ rw' = eRow (fillWays t (turnAt m.2 sp.1) sp.2)) → (20 < m.1 → o = .non ∧ rw' = .non) →
        DS (cxOf CX0 P w K mg base N_l_told "_law_told" (defScope s_l_told) fa cdv A outer s H E).nox (defBody s_l_told) (ini N_l_told [eLT t, stickD CS t m sp, .lst (sr.map eTup), .int m.1]) (retP (.bl true)) := fun o rw' es hs1 hs2 => by
      rw [es]
      refine ds_asg (d := .tupf (m.2.map D.int)) 4 sc_l_told.nd (de_fld (de_v 1) Sk.cl Sk.n1 rfl) ?_
      refine ds_ifR (b1 := false) (dt_eq (dw_t (dw_or (b1 := false) (dt_eq (dt_not (dt_v (de_callD D1 hr (da_cons (de_tf (de_v 4)) da_nil) ⟨m.2, rfl, by omega, rfl⟩))) rfl) fun _ => dw_or (b1 := false) (dt_eq (dt_ninD (x := m.2) (xs := sr) (f := eTup) hr (enc_tup enc_int) (de_tf (de_v 4)) (de_l (de_v 2)) (nice_tup 58 m.2) (fun z _ => nice_tup 58 z)) (by simpa using hm)) fun _ => dw_or (b1 := false) (dt_eq (dt_not (dt_v (de_callD D1 hr (da_cons (de_fld (d := eTup [sp.1, sp.2]) (de_v 1) Sk.cl Sk.n2 rfl) da_nil) ⟨[sp.1, sp.2], rfl, by simp, rfl⟩))) rfl) fun _ => dw_or1 (b1 := false) (dt_eq (dt_not (dt_v (de_callD D2 hr (da_cons (de_fld (d := .int m.1) (de_v 1) Sk.cl Sk.n3 rfl) da_nil) ⟨_, rfl, rfl⟩))) rfl))) rfl) (fun h => by cases h) fun _ => ?_
      refine ds_ifR (b1 := false) (dt_eq (dw_t (dw_or (b1 := false) (dt_eq (dt_neI (de_fld (d := .int m.1) (de_v 1) Sk.cl Sk.n3 rfl) (de_v 3)) (by simp)) fun _ => dw_or (b1 := false) (dt_eq (dt_neI (de_callD D3 hr (da_cons (de_v 0) (da_cons (de_tf (de_v 4)) da_nil)) ⟨t, m.2, rfl, hin, by omega, rfl⟩) (de_v 3)) (by rw [hw]; simp)) fun _ => dw_or1 (b1 := false) (dt_neD hr (de_fld (d := encP sp) (de_v 1) Sk.cl Sk.n2 rfl) (de_callD (d := encP sp) D4 hr (da_cons (de_v 0) (da_cons (de_tf (de_v 4)) da_nil)) ⟨t, m.2, rfl, by rw [hsp]⟩) (by kernel_rfl) (by kernel_rfl) (by rw [eqv_dec enc_pair]; simp)))) rfl) (fun h => by cases h) fun _ => ?_
      refine ds_ifR (dt_gt (de_v 3) de_int) (fun h => ?_) (fun h => ?_)
      · obtain ⟨rfl, rfl⟩ := hs2 (of_decide_eq_true h)
        exact ds_ret (de_and (b1 := true) (b2 := true) (de_eq (de_isN (de_fld (d := .non) (de_v 1) Sk.cl Sk.n4 rfl)) rfl) fun _ => de_one (de_eq (de_isN (de_fld (d := .non) (de_v 1) Sk.cl Sk.n5 rfl)) rfl)) rfl
      · have h20 := of_decide_eq_false h
        obtain ⟨rfl, rfl⟩ := hs1 (by omega)
        have F := hfill (by omega)
        obtain ⟨r, hwk, hst⟩ := F.ex
        have cnt := F.count
        have sh := F.short
        have oin := F.inn
        generalize fillWays t (turnAt m.2 sp.1) sp.2 = fw at hwk cnt sh oin
        have fl : fw.length ≤ 20 := by omega
        have ownE : ∀ {X : Cx} {ρ : DL.Env} {e : Expr} {pos : Pos}, DE X e ρ (.ins CS (stickF (.tupf (m.2.map D.int)) (encP sp) (.int m.1) (eTup (fw.map fun v => v.getD 0 default)) (eRow fw))) → X.K = K → attributeBase e "owners" X.env (eval e X.env) = eval e X.env → DE X (.Attribute e "owners" pos) ρ (eTup (fw.map fun v => v.getD 0 default)) := fun {X ρ e pos} h e1 h2 => de_fld h (e1 ▸ Sk.cl) (e1 ▸ Sk.n4) rfl h2
        refine ds_ifR (b1 := false) (dt_eq (dw_t (dw_or (b1 := false) (dt_eq (dt_not (dt_v (de_callD D1 hr (da_cons (de_fld (d := eTup (fw.map fun v => v.getD 0 default)) (de_v 1) Sk.cl Sk.n4 rfl) da_nil) ⟨_, rfl, by rw [List.length_map]; omega, rfl⟩))) rfl) fun _ => dw_or1 (b1 := false) (dt_eq (dt_neI (de_lenTM T.b_len (de_fld (d := eTup (fw.map fun v => v.getD 0 default)) (de_v 1) Sk.cl Sk.n4 rfl)) (de_v 3)) (by rw [List.length_map, cnt]; simp)))) rfl) (fun h => by cases h) fun _ => ?_
        refine ds_ifR (b1 := false) (dt_eq (dt_not (dt_v (de_all (bs := fw.map fun _ => true) rfl T.b_all (dn_l (dn_eq (dn_lc (as := fw.map fun v => v.getD 0 default) D.int (fun _ => D.bl true) (fun _ => true) [("_law_house", 5)] rfl sc_l_told.nd (di_tup (de_fld (d := eTup (fw.map fun v => v.getD 0 default)) (de_v 1) Sk.cl Sk.n4 rfl)) (blkOk_by (N := N_l_told) (sc := defScope s_l_told) (by decide +kernel)) (by decide) (by rw [List.length_map]; omega) (fun _ _ _ _ _ a ha => (dg_name 5 sc_l_told.nd)) (fun _ _ _ _ _ a ha => dts_nil)
          (fun _ _ _ _ _ a ha hb => (de_eq (de_chain de_int (de_v 5) (de_lenM T.b_len (de_l (t0E (de_v 0) de_int)))) ?_))) ?_))))) ?_) (fun h => by cases h) fun _ => ?_
        · obtain ⟨v, hv, rfl⟩ := List.mem_map.mp ha
          have := oin v hv
          rw [decide_eq_true this.1, decide_eq_true (show v.getD 0 default < (t.pegs.length : Int) from this.2)]; rfl
        · rw [filt_all, List.map_map, List.map_map]; rfl
        · rw [List.all_map]
          have : (fw.all fun _ => true) = true := List.all_eq_true.mpr fun _ _ => rfl
          show (!(fw.all fun _ => true)) = false
          rw [this]; rfl
        · refine ds_asg (d := eWays r) 6 sc_l_told.nd (de_callD D5 hr (da_cons (de_v 0) (da_cons (dn_e (dn_lc (as := fw.map fun v => v.getD 0 default) D.int (fun h => eTup [h]) (fun _ => true) [("_law_house", 5)] rfl sc_l_told.nd (di_tup (de_fld (d := eTup (fw.map fun v => v.getD 0 default)) (de_v 1) Sk.cl Sk.n4 rfl)) (blkOk_by (N := N_l_told) (sc := defScope s_l_told) (by decide +kernel)) (by decide) (by rw [List.length_map]; omega) (fun _ _ _ _ _ a ha => (dg_name 5 sc_l_told.nd)) (fun _ _ _ _ _ a ha => dts_nil) (fun _ _ _ _ _ a ha hb => de_tup (da_cons (de_v 5) da_nil)))) (da_cons (de_fld (d := eRow fw) (de_v 1) Sk.cl Sk.n5 rfl) (da_cons de_int da_nil))))
            ⟨t, fw.map fun v => [v.getD 0 default], r, (fillLends fw).map some ++ [none], ?_, ok, ?_, hwk, rfl⟩) ?_
          · rw [filt_all, List.map_map]
            show [eLT t, D.lst _, D.tup _, _] = [eLT t, D.lst _, D.tup _, _]
            rw [List.map_map, List.map_append, List.map_map]; rfl
          · rw [List.length_append, List.length_map]; simp; omega
          · exact ds_ret (de_and (b1 := true) (b2 := true) (de_eq (de_notN (da := eWays r) (de_v 6)) rfl) fun _ => de_one (de_callD D6 hr (da_cons (de_v 0) (da_cons (de_v 6) (da_cons (de_tf (de_v 4)) da_nil))) ⟨t, r, m.2, rfl, hst, rfl⟩)) rfl
    by_cases h20 : 20 < m.1
    · exact both _ _ (by unfold stickD; rw [if_pos h20]) (fun h => by omega) (fun _ => ⟨rfl, rfl⟩)
    · exact both _ _ (by unfold stickD; rw [if_neg h20]) (fun _ => ⟨rfl, rfl⟩) (fun h => by omega)
end
end K6
set_option maxRecDepth 100000
set_option maxHeartbeats 4000000
namespace K6
open PySem PySem.Spec PyProof.Rows L2 Evl DL
def srT (t : Town) : List (List Int) := (ringsT t).filter fun r => (t.spur r).isSome
/-- the plain law -/
structure LawT (t : Town) : Prop where
  same : t.spurred = [] ↔ srT t = []
  found : srT t ≠ [] → ∃ g m sp, StickOf t g m sp ∧ m.2 ∈ srT t ∧ t.weight m.2 = m.1 ∧ (∀ r ∈ srT t, m.1 ≤ t.weight r) ∧ (m.1 ≤ 20 → Fills t m sp)
theorem ringsT_ok {t : Town} (ok : t.Ok) {r : List Int} (h : r ∈ ringsT t) : r.Nodup ∧ Inn t r ∧ 2 ≤ r.length ∧ r.length ≤ 7 := by
  obtain ⟨k, hk, h⟩ := List.mem_flatMap.mp h
  obtain ⟨h1, h2⟩ := List.mem_filter.mp h
  have p := rPaths_ok ok k r h1
  have := List.mem_range.mp hk
  have := ok.n7
  unfold closes at h2
  rw [Bool.and_eq_true, decide_eq_true_iff] at h2
  exact ⟨p.nd, p.inn, h2.1, by rw [p.len]; omega⟩
theorem ringsT_few {t : Town} (ok : t.Ok) : (ringsT t).length ≤ 40000 := by
  have pb : ∀ k, (rPaths t k).length ≤ 5040 := fun k => Nat.le_trans (rPaths_len ok k) (bnd_le k)
  have := flat_len (m := 5040) (f := fun k => (rPaths t k).filter (closes t)) (List.range t.n) fun k _ => Nat.le_trans (List.length_filter_le _ _) (pb k)
  rw [List.length_range] at this
  have n7 := ok.n7
  show ((List.range t.n).flatMap _).length ≤ _
  omega
theorem eqv_tup {α : Type} {f : α → D} (h : ∀ x, PyData.eqv (f x).py (f x).py = true) (xs : List α) : PyData.eqv (D.tup (xs.map f)).py (D.tup (xs.map f)).py = true := by
  rw [D.py, PyData.eqv]
  induction xs with
  | nil => rfl
  | cons x xs ih => rw [List.map_cons, D.pyL, PyData.eqvAll, h x, ih]; rfl
theorem eqv_deed (dd : Option (Int × Int)) : PyData.eqv (eDeed dd).py (eDeed dd).py = true := by
  cases dd with
  | none => show PyData.eqv (D.tup _).py (D.tup _).py = true; rw [D.py]; simp [D.pyL, D.py, PyData.eqv, PyData.eqvAll]
  | some p => show PyData.eqv (D.tup _).py (D.tup _).py = true; rw [D.py]; simp [D.pyL, D.py, PyData.eqv, PyData.eqvAll]
theorem eRow_deeds (ws : List (List Int)) : eRow ws = .tup (((fillLends ws).map some ++ [none]).map eDeed) := by
  rw [List.map_append, List.map_map]; rfl
theorem nice_row (ws : List (List Int)) : (eRow ws).nice 60 = true := by
  rw [eRow_deeds]
  show ((((fillLends ws).map some ++ [none]).map eDeed).all (D.nice 59)) = true
  rw [List.all_map, List.all_eq_true]
  intro x _
  cases x <;> kernel_rfl
section
variable {P : Program} {w : World} {K : PySem.W.Frag} {mg : Str → Option Value} {base : Heap} {C CS : Addr}
def F_law (K : PySem.W.Frag) (ds : List D) (d : D) : Prop := ∃ script : List Int, ds = [.lsk (script.map D.int)] ∧ d = .bl true
theorem ok_law (M : ∀ t : Town, t.Ok → LawT t) {fa : Addr} {fd : FuncData} (U : Fun K "law" "law" s_p_law fa fd) (T : Tx mg) (Sc : Sx K C) (Sk : Kx K CS)
    (D1 : Df P w K mg base "_law_digits" 1 ["_law_cell_here", "_law_sizes"] F_l_digits) (D2 : Df P w K mg base "_law_cell" 1 ["_law_script", "_law_k"] F_l_cell)
    (D3 : Dx P w K mg base "_law_town" 2 ["_law_script", "_law_at", "_law_least"] F_l_town) (D4 : Dx P w K mg base "_law_twin" 2 ["_law_script", "_law_at", "_law_least"] F_l_town) (D5 : Dx P w K mg base "_law_opened" 2 ["_law_street", "_law_one", "_law_two"] F_l_opened)
    (D6 : Df P w K mg base "_law_build" 6 ["_law_street"] (F_l_build C)) (D7 : Df P w K mg base "_law_rings" 1 ["_law_street"] F_l_rings) (D8 : Df P w K mg base "_law_spur" 1 ["_law_street", "_law_ring"] F_l_spur) (D9 : Df P w K mg base "_law_says" 1 ["_law_told_here", "_law_due"] F_l_says)
    (D10 : Df P w K mg base "can_stick" 5 ["street"] (F_can_stick C)) (D11 : Df P w K mg base "sticking" 5 ["street"] (F_sticking C CS)) (D12 : Df P w K mg base "_law_told" 4 ["_law_street", "_law_told_here", "_law_spurred", "_law_least"] (F_l_told CS)) (D13 : Df P w K mg base "_law_weight" 1 ["_law_street", "_law_ring"] F_l_weight) :
    FnOk P w K mg base CX0 7 fa fd ["_law_script"] (spD F_law K) := by
  refine dfn U sc_p_law (fun ds d h => ?_) fun cdv A outer s H E ds d hr h => ?_
  · obtain ⟨a, rfl, _⟩ := h; rfl
  · obtain ⟨script, rfl, rfl⟩ := h
    refine ds_asg (d := eInts (digits (cell script 2) [8, 60, 60])) 1 sc_p_law.nd (de_callD D1 hr (da_cons (de_callD D2 hr (da_cons (de_v 0) (da_cons de_int da_nil)) ⟨script, 2, rfl, by decide, by decide, rfl⟩) (da_cons (dn_e (dn_lst (ds := [.int 8, .int 60, .int 60]) (da_cons de_int (da_cons de_int (da_cons de_int da_nil))))) da_nil)) ⟨_, [8, 60, 60], rfl, ⟨by decide, by decide⟩, rfl⟩) ?_
    have pl : (digits (cell script 2) [8, 60, 60]).length = 3 := (digits_bd (cell script 2) [8, 60, 60] (by decide)).1
    generalize digits (cell script 2) [8, 60, 60] = plan at pl
    refine ds_asgX 2 sc_p_law.nd (dx_callD D3 hr (da_cons (de_v 0) (da_cons de_int (da_cons de_int da_nil))) ⟨script, 0, rfl, by decide, by decide, rfl⟩) fun d0 ⟨t0, e0, ok0⟩ => ?_
    subst e0
    refine ds_if (dt_lt (de_ixM (i := 0) (xs := plan) (f := D.int) default (de_l (de_v 1)) de_int ⟨by decide, by omega⟩) de_int) (fun ρ => ∃ t : Town, t.Ok ∧ ρ = [.fro (.lsk (script.map D.int)), .fro (eInts plan), .fro (eLT t), .unk, .unk, .unk, .unk, .unk]) (fun h => ?_) (fun h => ?_) (fun ρ ⟨t1, ok1, e1⟩ => ?_)
    · refine ds_asgX 2 sc_p_law.nd (dx_callD D4 hr (da_cons (de_v 0) (da_cons de_int (da_cons de_int da_nil))) ⟨script, 0, rfl, by decide, by decide, rfl⟩) fun d1 ⟨t1, e1, ok1⟩ => ?_
      subst e1
      exact ds_nil ⟨t1, ok1, rfl⟩
    · exact ds_nil ⟨t0, ok0, rfl⟩
    subst e1
    refine ds_if (dt_ge (de_ixM (i := 0) (xs := plan) (f := D.int) default (de_l (de_v 1)) de_int ⟨by decide, by omega⟩) de_int) (fun ρ => ∃ t : Town, t.Ok ∧ ρ = [.fro (.lsk (script.map D.int)), .fro (eInts plan), .fro (eLT t), .unk, .unk, .unk, .unk, .unk]) (fun h => ?_) (fun h => ?_) (fun ρ ⟨t, ok, e1⟩ => ?_)
    · refine ds_asgX 2 sc_p_law.nd (dx_callD D5 hr (da_cons (de_v 2) (da_cons (de_ixM (i := 1) (xs := plan) (f := D.int) default (de_l (de_v 1)) de_int ⟨by decide, by omega⟩) (da_cons (de_ixM (i := 2) (xs := plan) (f := D.int) default (de_l (de_v 1)) de_int ⟨by decide, by omega⟩) da_nil))) ⟨t1, _, _, rfl, ok1, rfl⟩) fun d1 ⟨t2, e2, ok2⟩ => ?_
      subst e2
      exact ds_nil ⟨t2, ok2, rfl⟩
    · exact ds_nil ⟨t1, ok1, rfl⟩
    subst e1
    have L := M t ok
    have rl := ringsT_few ok
    have n7 := ok.n7
    have n1 := ok.n1
    have few := ok.few64
    refine ds_asg (d := eTown C t) 3 sc_p_law.nd (de_callD D6 hr (da_cons (de_v 2) da_nil) ⟨t, rfl, ok, rfl⟩) ?_
    refine ds_asgLc (as := ringsT t) 4 eTup eTup (fun r => (t.spur r).isSome) [("_law_ring", 5)] rfl sc_p_law.nd (di_lst (de_callD D7 hr (da_cons (de_v 2) da_nil) ⟨t, rfl, ok, rfl⟩)) (blkOk_by (N := N_p_law) (sc := defScope s_p_law) (by decide +kernel)) (by decide) (by omega) (fun _ _ _ _ _ a ha => (dg_name 5 sc_p_law.nd)) (fun _ _ _ _ _ a ha => (dts_one (dt_eq (dt_notN (de_callD D8 hr (da_cons (de_v 2) (da_cons (de_v 5) da_nil)) ⟨t, a, rfl, rfl⟩)) (by cases t.spur a <;> rfl)))) (fun _ _ _ _ _ a ha hb => (de_v 5)) ?_
    refine ds_freeze 4 rfl ?_
    have srin : ∀ r ∈ srT t, r ∈ ringsT t := fun r hr => (List.mem_filter.mp hr).1
    have srl : (srT t).length ≤ 90000 := Nat.le_trans (List.length_filter_le _ _) (by omega)
    have hs1 := L.same
    have hs2 := L.found
    show DS _ _ [_, _, _, _, .fro (.lst ((srT t).map eTup)), _, _, _] _
    generalize srT t = sr at srin srl hs1 hs2
    have can : decide (0 < t.spurred.length) = decide (sr ≠ []) := by
      rw [decide_eq_decide, List.length_pos_iff]; exact not_congr hs1
    refine ds_ifR (b1 := false) (dt_eq (dt_not (dt_v (de_callD D9 hr (da_cons (de_callD D10 hr (da_cons (de_v 3) da_nil) ⟨t, rfl, ok, rfl⟩) (da_cons (de_gt (de_lenM T.b_len (de_l (de_v 4))) de_int) da_nil)) ⟨_, _, rfl, rfl⟩))) ?_) (fun h => by cases h) fun _ => ?_
    · rw [can]
      show (!(decide (sr ≠ []) == decide ((0 : Int) < sr.length))) = false
      have : decide (sr ≠ []) = decide ((0 : Int) < sr.length) := by rw [decide_eq_decide, ← List.length_pos_iff]; omega
      rw [this]; simp
    by_cases hz : sr = []
    · subst hz
      have sp := hs1.mpr rfl
      refine ds_asg (d := .non) 6 sc_p_law.nd (de_callD D11 hr (da_cons (de_v 3) da_nil) ⟨t, rfl, ok, .inl ⟨sp, rfl⟩⟩) ?_
      refine ds_ifR (b1 := true) (dw_t (dw_or (b1 := true) (b2 := true) (dt_eq (dt_eqI (de_lenM (xs := ([] : List (List Int))) (g := eTup) T.b_len (de_l (de_v 4))) de_int) rfl) fun h => by cases h)) (fun _ => ?_) (fun h => by cases h)
      exact ds_ret (de_and (b1 := true) (b2 := true) (de_eq (de_eqI (de_lenM (xs := ([] : List (List Int))) (g := eTup) T.b_len (de_l (de_v 4))) de_int) rfl) fun h => (de_and (b1 := true) (b2 := true) (de_eq (de_isN (de_v 6)) rfl) fun h => (de_one (de_eq (de_isN (de_callD (d := .non) D11 hr (da_cons (de_v 3) da_nil) ⟨t, rfl, ok, .inl ⟨sp, rfl⟩⟩)) rfl)))) rfl
    · obtain ⟨g, m, sp, st, hm, hw, hle, hfill⟩ := hs2 hz
      have lpos := List.length_pos_iff.mpr hz
      obtain ⟨rn, rin, r2, r7⟩ := ringsT_ok ok (srin _ hm)
      have fs : F_sticking C CS K [eTown C t] (stickD CS t m sp) := ⟨t, rfl, ok, .inr ⟨g, m, sp, st, rfl⟩⟩
      refine ds_asg (d := stickD CS t m sp) 6 sc_p_law.nd (de_callD D11 hr (da_cons (de_v 3) da_nil) fs) ?_
      refine ds_ifR (b1 := false) (dt_eq (dw_t (dw_or (b1 := false) (dt_eq (dt_eqI (de_lenM T.b_len (de_l (de_v 4))) de_int) (decide_eq_false (by omega))) fun h => (dw_or1 (b1 := false) (dt_eq (dt_isN (de_v 6)) rfl)))) rfl) (fun h => by cases h) fun _ => ?_
      refine ds_ifR (b1 := false) (dt_eq (dt_not (dt_v (de_callD D12 hr (da_cons (de_v 2) (da_cons (de_v 6) (da_cons (de_v 4) (da_cons (de_minI (m := m.1) rfl T.b_min (dn_l (dn_eq (dn_lc (as := sr) eTup (fun r => D.int (t.weight r)) (fun _ => true) [("_law_ring", 5)] rfl sc_p_law.nd (di_lst (de_v 4)) (blkOk_by (N := N_p_law) (sc := defScope s_p_law) (by decide +kernel)) (by decide) (by omega) (fun _ _ _ _ _ a ha => (dg_name 5 sc_p_law.nd)) (fun _ _ _ _ _ a ha => dts_nil) (fun _ _ _ _ _ a ha hb => (de_callD D13 hr (da_cons (de_v 2) (da_cons (de_v 5) da_nil)) ⟨t, a, rfl, (ringsT_ok ok (srin a ha)).2.1, by have := (ringsT_ok ok (srin a ha)).2.2.2; omega, rfl⟩))) (show _ = (sr.map t.weight).map D.int by rw [filt_all, List.map_map]; rfl))) (List.mem_map.mpr ⟨m.2, hm, hw⟩) (fun y hy => by obtain ⟨r, hr', rfl⟩ := List.mem_map.mp hy; exact hle r hr')) da_nil))))
        ⟨t, m, sp, sr, rfl, ok, hm, srl, rin, by omega, hw, st.spur, hfill, rfl⟩))) rfl) (fun h => by cases h) fun _ => ?_
      refine ds_asg (d := stickD CS t m sp) 7 sc_p_law.nd (de_callD D11 hr (da_cons (de_v 3) da_nil) fs) ?_
      have both : ∀ (o rw' : D), (stickD CS t m sp = .ins CS (stickF (.tupf (m.2.map D.int)) (encP sp) (.int m.1) o rw')) → o.nice 60 = true → rw'.nice 60 = true → PyData.eqv o.py o.py = true → PyData.eqv rw'.py rw'.py = true →
          DS (cxOf CX0 P w K mg base N_p_law "law" (defScope s_p_law) fa cdv A outer s H E).nox ((defBody s_p_law).drop 11) [.fro (.lsk (script.map D.int)), .fro (eInts plan), .fro (eLT t), .fro (eTown C t), .fro (.lst (sr.map eTup)), .unk, .fro (stickD CS t m sp), .fro (stickD CS t m sp)] (retP (.bl true)) := fun o rw' es n1 n2 q1 q2 => by
        rw [es]
        refine ds_ifR (b1 := false) (dt_eq (dw_t (dw_or (b1 := false) (dt_neD hr (de_fld (d := .tupf (m.2.map D.int)) (de_v 7) Sk.cl Sk.n1 rfl) (de_fld (d := .tupf (m.2.map D.int)) (de_v 6) Sk.cl Sk.n1 rfl) (nice_ints 59 m.2) (nice_ints 59 m.2) (by rw [eqv_dec (enc_tupf enc_int)]; simp)) fun h => (dw_or (b1 := false) (dt_neD hr (de_fld (d := encP sp) (de_v 7) Sk.cl Sk.n2 rfl) (de_fld (d := encP sp) (de_v 6) Sk.cl Sk.n2 rfl) rfl rfl (by rw [eqv_dec enc_pair]; simp)) fun h => (dw_or1 (b1 := false) (dt_eq (dt_neI (de_fld (d := .int m.1) (de_v 7) Sk.cl Sk.n3 rfl) (de_fld (d := .int m.1) (de_v 6) Sk.cl Sk.n3 rfl)) (by simp)))))) rfl) (fun h => by cases h) fun _ => ?_
        refine ds_ifR (b1 := false) (dt_eq (dw_t (dw_or (b1 := false) (dt_neD hr (de_fld (d := o) (de_v 7) Sk.cl Sk.n4 rfl) (de_fld (d := o) (de_v 6) Sk.cl Sk.n4 rfl) n1 n1 (by rw [q1]; rfl)) fun h => (dw_or (b1 := false) (dt_neD hr (de_fld (d := rw') (de_v 7) Sk.cl Sk.n5 rfl) (de_fld (d := rw') (de_v 6) Sk.cl Sk.n5 rfl) n2 n2 (by rw [q2]; rfl)) fun h => (dw_or1 (b1 := false) (dt_eq (dt_not (dt_v (de_callD D9 hr (da_cons (de_callD D10 hr (da_cons (de_v 3) da_nil) ⟨t, rfl, ok, rfl⟩) (da_cons de_bl da_nil)) ⟨_, _, rfl, rfl⟩))) (by rw [can, decide_eq_true hz]; rfl)))))) rfl) (fun h => by cases h) fun _ => ?_
        exact ds_ret (de_and (b1 := true) (b2 := true) (de_eqD (db := eTup t.pegs) hr (de_fld (d := eTup t.pegs) (de_v 3) Sc.cl Sc.no_pegs rfl) (de_tuple T.b_tuple (de_l (t0E (t := t) (de_v 2) de_int))) (nice_ints 59 t.pegs) (nice_ints 59 t.pegs) (by rw [eqv_dec (enc_tup enc_int)]; simp)) fun h => (de_one (de_eqD (db := .tup (t.lanes.map encP)) hr (de_fld (d := .tup (t.lanes.map encP)) (de_v 3) Sc.cl Sc.no_lanes rfl) (de_tuple T.b_tuple (de_l (t1E (t := t) (de_v 2) de_int))) (nice_pairs 58 t.lanes) (nice_pairs 58 t.lanes) (by rw [eqv_dec (enc_tup enc_pair)]; simp)))) rfl
      by_cases h20 : 20 < m.1
      · exact both _ _ (by unfold stickD; rw [if_pos h20]) rfl rfl rfl rfl
      · exact both _ _ (by unfold stickD; rw [if_neg h20]) (nice_tup 59 _) (nice_row _) (by rw [eqv_dec (enc_tup enc_int)]; simp) (by rw [eRow_deeds]; exact eqv_tup eqv_deed _)
end
end K6
set_option maxRecDepth 100000
set_option maxHeartbeats 4000000
namespace K6
open PySem PySem.Spec PyProof.Rows L2 Evl DL
/-- a def of the module / of a class, found in the written part -/
def Fn (K : PySem.W.Frag) (mg : Str → Option Value) (x : Str) (st : Stmt) : Prop := ∃ f fd, Fun K x x st f fd ∧ mg x = some (.ref f)
def Me (K : PySem.W.Frag) (C : Addr) (m qual : Str) (st : Stmt) : Prop := ∃ f fd, Fun K m qual st f fd ∧ Meth K C m f
def Pr' (K : PySem.W.Frag) (C : Addr) (m qual : Str) (st : Stmt) : Prop := ∃ p f fd, Fun K m qual st f fd ∧ PropOf K C m p f
def In' (K : PySem.W.Frag) (C : Addr) (qual : Str) (st : Stmt) : Prop := ∃ f fd, Fun K "__init__" qual st f fd ∧ Mk K C f
section
variable {K : PySem.W.Frag} {h : Heap} {mg : Str → Option Value} {x qual : Str} {st : Stmt} {f C p : Addr} {od an : Option Addr} {sl : Array (Option Value)} {oc kV dc pm cd ct : Value}
theorem fn_mk (X : K.In h) (G : h.Ns mainGlobals mg) (a : PySem.W.nsIn K mainGlobals x = some (some (.ref f))) (l : K.lookup f = some ⟨oc, od, .func (PySem.W.fnOf x x (defArgs st) (defBody st) (defScope st) .none kV dc pm an cd ct), sl⟩) (c : PySem.W.codeIn K cd x = true) (k : PySem.W.keepIn K (.ref f) = true) : Fn K mg x st :=
  ⟨f, _, fun_mk l c k, PySem.W.mg_of X G a⟩
theorem me_mk (a : PySem.W.findIn K (.ref C) x = some (some (.ref f))) (i : PySem.W.isFn K (.ref f) = true) (l : K.lookup f = some ⟨oc, od, .func (PySem.W.fnOf x qual (defArgs st) (defBody st) (defScope st) .none kV dc pm an cd ct), sl⟩) (c : PySem.W.codeIn K cd qual = true) (k : PySem.W.keepIn K (.ref f) = true) : Me K C x qual st :=
  ⟨f, _, fun_mk l c k, ⟨a, i, k⟩⟩
theorem in_mk (a : PySem.W.findIn K (.ref C) "__init__" = some (some (.ref f))) (i : PySem.W.isFn K (.ref f) = true) (l : K.lookup f = some ⟨oc, od, .func (PySem.W.fnOf "__init__" qual (defArgs st) (defBody st) (defScope st) .none kV dc pm an cd ct), sl⟩) (c : PySem.W.codeIn K cd qual = true) (k : PySem.W.keepIn K (.ref f) = true) (mk : PySem.W.makesIn K C = true) (kc : PySem.W.keepIn K (.ref C) = true) : In' K C qual st :=
  ⟨f, _, fun_mk l c k, ⟨mk, a, i, kc⟩⟩
theorem pr_mk {rest : List Value} (a : PySem.W.findIn K (.ref C) x = some (some (.ref p))) (g : PySem.W.specialIn K (.ref p) "__get__" = some (some (.builtin "property.__get__"))) (t : PySem.W.takesIn K (.ref p) = some true) (r : PySem.W.recIn K p "property" = some (.ref f :: rest)) (l : K.lookup f = some ⟨oc, od, .func (PySem.W.fnOf x qual (defArgs st) (defBody st) (defScope st) .none kV dc pm an cd ct), sl⟩) (c : PySem.W.codeIn K cd qual = true) (k : PySem.W.keepIn K (.ref f) = true) : Pr' K C x qual st :=
  ⟨p, f, _, fun_mk l c k, ⟨a, g, t, ⟨rest, r⟩⟩⟩
end
theorem sx_mk {K : PySem.W.Frag} {C : Addr} (a : PySem.W.plainGet K C Str.empty = true) (b : PySem.W.hasDictIn K C = true) (c : PySem.W.plainOver K C = true) (d : PySem.W.findIn K (.ref C) "__setattr__" = some (some (.builtin "object.__setattr__")))
    (n1 : PySem.W.findIn K (.ref C) "pegs" = some none) (n2 : PySem.W.findIn K (.ref C) "lanes" = some none) (n3 : PySem.W.findIn K (.ref C) "to_lists" = some none) (n4 : PySem.W.findIn K (.ref C) "from_lists" = some none) : Sx K C := ⟨⟨a, b, c, d⟩, n1, n2, n3, n4⟩
theorem kx_mk {K : PySem.W.Frag} {C : Addr} (a : PySem.W.plainGet K C Str.empty = true) (b : PySem.W.hasDictIn K C = true) (c : PySem.W.plainOver K C = true) (d : PySem.W.findIn K (.ref C) "__setattr__" = some (some (.builtin "object.__setattr__")))
    (n1 : PySem.W.findIn K (.ref C) "ring" = some none) (n2 : PySem.W.findIn K (.ref C) "spur" = some none) (n3 : PySem.W.findIn K (.ref C) "count" = some none) (n4 : PySem.W.findIn K (.ref C) "owners" = some none) (n5 : PySem.W.findIn K (.ref C) "row" = some none) : Kx K C := ⟨⟨a, b, c, d⟩, n1, n2, n3, n4, n5⟩
/-- the binding of as many arguments as there are parameters -/
def Bd' (x qual : Str) (st : Stmt) (ps : List Str) : Prop := ∀ (kV doc pm : Value) (an : Option Addr) (cdv ct : Value) (us : List Value), us.length = ps.length → bindArgs (PySem.W.fnOf x qual (defArgs st) (defBody st) (defScope st) .none kV doc pm an cdv ct) ⟨us, []⟩ = pure (ps.zip us)
section
variable {P : Program} {w : World} {K : PySem.W.Frag} {mg : Str → Option Value} {base : Heap} {x qual : Str} {st : Stmt} {C : Addr} {k : Nat} {ps : List Str}
theorem df_of {F : PySem.W.Frag → List D → D → Prop} (U : Fn K mg x st) (b : Bd' x x st ps) (ok : ∀ {fa : Addr} {fd : FuncData}, Fun K x x st fa fd → FnOk P w K mg base CX0 k fa fd ps (spD F K)) : Df P w K mg base x k ps F := by
  obtain ⟨f, fd, U, m⟩ := U
  exact ⟨f, fd, ok U, m, U.kp, U.binds b⟩
theorem dx_of {F : PySem.W.Frag → List D → (D → Prop) → Prop} (U : Fn K mg x st) (b : Bd' x x st ps) (ok : ∀ {fa : Addr} {fd : FuncData}, Fun K x x st fa fd → FnOk P w K mg base CX0 k fa fd ps (spX F K)) : Dx P w K mg base x k ps F := by
  obtain ⟨f, fd, U, m⟩ := U
  exact ⟨f, fd, ok U, m, U.kp, U.binds b⟩
theorem dm_of {F : PySem.W.Frag → List D → D → Prop} (cl : Cls K C) (U : Me K C x qual st) (b : Bd' x qual st ps) (ok : ∀ {fa : Addr} {fd : FuncData}, Fun K x qual st fa fd → FnOk P w K mg base CX0 k fa fd ps (spD F K)) : Dm P w K mg base C x k ps F := by
  obtain ⟨f, fd, U, m⟩ := U
  exact ⟨cl, f, fd, ok U, m, U.binds b⟩
theorem dp_of {F : PySem.W.Frag → List D → D → Prop} (cl : Cls K C) (U : Pr' K C x qual st) (b : Bd' x qual st ps) (ok : ∀ {fa : Addr} {fd : FuncData}, Fun K x qual st fa fd → FnOk P w K mg base CX0 k fa fd ps (spD F K)) : Dp' P w K mg base C x k ps F := by
  obtain ⟨p, f, fd, U, m⟩ := U
  exact ⟨cl, p, f, fd, ok U, m, U.binds b⟩
theorem dk_of {F : PySem.W.Frag → List D → List (Str × D) → Prop} (hm : mg x = some (.ref C)) (U : In' K C qual st) (b : Bd' "__init__" qual st ps) (ok : ∀ {fa : Addr} {fd : FuncData}, Fun K "__init__" qual st fa fd → FnOk P w K mg base CX0 k fa fd ps (spI F C K)) : Dk P w K mg base x C k ps F := by
  obtain ⟨f, fd, U, m⟩ := U
  exact ⟨f, fd, m, ok U, hm, U.binds b⟩
end
theorem all_mk (M : ∀ t : Town, t.Ok → LawT t) {l : PySem.W.OpenLaw} {w : World} {K : PySem.W.Frag} {h : Heap} {mg : Str → Option Value} {fa C CS f0 : Addr} (X : K.In h) (G : h.Ns mainGlobals mg) (hfa : mg "law" = some (.ref fa))
    {od0 an0 : Option Addr} {sl0 : Array (Option Value)} {oc0 kV0 dc0 pm0 cd0 ct0 : Value}
    (a0 : PySem.W.nsIn K mainGlobals "law" = some (some (.ref f0))) (l0 : K.lookup f0 = some ⟨oc0, od0, .func (PySem.W.fnOf "law" "law" (defArgs s_p_law) (defBody s_p_law) (defScope s_p_law) .none kV0 dc0 pm0 an0 cd0 ct0), sl0⟩) (c0 : PySem.W.codeIn K cd0 "law" = true) (k0 : PySem.W.keepIn K (.ref f0) = true)
    (aC : PySem.W.nsIn K mainGlobals "Street" = some (some (.ref C))) (aS : PySem.W.nsIn K mainGlobals "Sticking" = some (some (.ref CS))) (Sc : Sx K C) (Sk : Kx K CS) (iC : In' K C "Street.__init__" s_p_Street_init) (iS : In' K CS "Sticking.__init__" s_p_Sticking_init) (mL : Me K C "lends_to" "Street.lends_to" s_p_Street_lends_to) (pH : Pr' K C "houses" "Street.houses" s_p_Street_houses)
    (hp1 : PySem.W.nsIn K mainGlobals "heappush" = some (some (.builtin "_heapq.heappush"))) (hp2 : PySem.W.nsIn K mainGlobals "heappop" = some (some (.builtin "_heapq.heappop")))
    (b_len : PySem.W.nsIn K mainGlobals "len" = some none)
    (b_int : PySem.W.nsIn K mainGlobals "int" = some none)
    (b_range : PySem.W.nsIn K mainGlobals "range" = some none)
    (b_min : PySem.W.nsIn K mainGlobals "min" = some none)
    (b_max : PySem.W.nsIn K mainGlobals "max" = some none)
    (b_sum : PySem.W.nsIn K mainGlobals "sum" = some none)
    (b_all : PySem.W.nsIn K mainGlobals "all" = some none)
    (b_list : PySem.W.nsIn K mainGlobals "list" = some none)
    (b_tuple : PySem.W.nsIn K mainGlobals "tuple" = some none)
    (b_set : PySem.W.nsIn K mainGlobals "set" = some none)
    (b_sorted : PySem.W.nsIn K mainGlobals "sorted" = some none)
    (b_enumerate : PySem.W.nsIn K mainGlobals "enumerate" = some none)
    (b_isinstance : PySem.W.nsIn K mainGlobals "isinstance" = some none)
    (b_bool : PySem.W.nsIn K mainGlobals "bool" = some none)
    (u_p_frozen : Fn K mg "frozen" s_p_frozen)
    (u_p_is_number : Fn K mg "is_number" s_p_is_number)
    (u_p_ascending : Fn K mg "ascending" s_p_ascending)
    (u_p_check_pegs : Fn K mg "check_pegs" s_p_check_pegs)
    (u_p_check_lanes : Fn K mg "check_lanes" s_p_check_lanes)
    (u_p_houses_ahead : Fn K mg "houses_ahead" s_p_houses_ahead)
    (u_p_strong_parts : Fn K mg "strong_parts" s_p_strong_parts)
    (u_p_ring_weight : Fn K mg "ring_weight" s_p_ring_weight)
    (u_p_spur : Fn K mg "spur" s_p_spur)
    (u_p_is_bare : Fn K mg "is_bare" s_p_is_bare)
    (u_p_spurred_parts : Fn K mg "spurred_parts" s_p_spurred_parts)
    (u_p_lightest_walk : Fn K mg "lightest_walk" s_p_lightest_walk)
    (u_p_lightest_ring : Fn K mg "lightest_ring" s_p_lightest_ring)
    (u_p_can_stick : Fn K mg "can_stick" s_p_can_stick)
    (u_p_turned_to : Fn K mg "turned_to" s_p_turned_to)
    (u_p_seat_way : Fn K mg "seat_way" s_p_seat_way)
    (u_p_filling_ways : Fn K mg "filling_ways" s_p_filling_ways)
    (u_p_filling_row : Fn K mg "filling_row" s_p_filling_row)
    (u_p_sticking : Fn K mg "sticking" s_p_sticking)
    (u_l_cell : Fn K mg "_law_cell" s_l_cell)
    (u_l_digits : Fn K mg "_law_digits" s_l_digits)
    (u_l_lanes : Fn K mg "_law_lanes" s_l_lanes)
    (u_l_town : Fn K mg "_law_town" s_l_town)
    (u_l_twin : Fn K mg "_law_twin" s_l_twin)
    (u_l_ahead : Fn K mg "_law_ahead" s_l_ahead)
    (u_l_opened : Fn K mg "_law_opened" s_l_opened)
    (u_l_build : Fn K mg "_law_build" s_l_build)
    (u_l_rings : Fn K mg "_law_rings" s_l_rings)
    (u_l_spur : Fn K mg "_law_spur" s_l_spur)
    (u_l_weight : Fn K mg "_law_weight" s_l_weight)
    (u_l_says : Fn K mg "_law_says" s_l_says)
    (u_l_whole : Fn K mg "_law_whole" s_l_whole)
    (u_l_houses : Fn K mg "_law_houses" s_l_houses)
    (u_l_load : Fn K mg "_law_load" s_l_load)
    (u_l_done : Fn K mg "_law_done" s_l_done)
    (u_l_walked : Fn K mg "_law_walked" s_l_walked)
    (u_l_is_stuck : Fn K mg "_law_is_stuck" s_l_is_stuck)
    (u_l_told : Fn K mg "_law_told" s_l_told)
    : ∃ fd : FuncData, (∀ (s : Shared) (v : Value), BindsTo s fd ⟨[v], []⟩ [("_law_script", v)]) ∧ ∀ base : Heap, K.In base → base.Ns mainGlobals mg → FnOk l.prog w K mg base CX0 7 fa fd ["_law_script"] (spD F_law K) := by
  have e := hfa.symm.trans (PySem.W.mg_of X G a0)
  cases e
  have T : Tx mg := ⟨PySem.W.mg_none_of X G b_len, PySem.W.mg_none_of X G b_int, PySem.W.mg_none_of X G b_range, PySem.W.mg_none_of X G b_min, PySem.W.mg_none_of X G b_max, PySem.W.mg_none_of X G b_sum, PySem.W.mg_none_of X G b_all, PySem.W.mg_none_of X G b_list, PySem.W.mg_none_of X G b_tuple, PySem.W.mg_none_of X G b_set, PySem.W.mg_none_of X G b_sorted, PySem.W.mg_none_of X G b_enumerate, PySem.W.mg_none_of X G b_isinstance, PySem.W.mg_none_of X G b_bool⟩
  have Hx' : Hx mg := ⟨PySem.W.mg_of X G hp1, PySem.W.mg_of X G hp2⟩
  have bd_p_frozen : Bd' "frozen" "frozen" s_p_frozen ["value"] := fun _ _ _ _ _ _ us hl => match us, hl with | [_], _ => rfl
  have bd_p_is_number : Bd' "is_number" "is_number" s_p_is_number ["value"] := fun _ _ _ _ _ _ us hl => match us, hl with | [_], _ => rfl
  have bd_p_ascending : Bd' "ascending" "ascending" s_p_ascending ["values"] := fun _ _ _ _ _ _ us hl => match us, hl with | [_], _ => rfl
  have bd_p_check_pegs : Bd' "check_pegs" "check_pegs" s_p_check_pegs ["pegs"] := fun _ _ _ _ _ _ us hl => match us, hl with | [_], _ => rfl
  have bd_p_check_lanes : Bd' "check_lanes" "check_lanes" s_p_check_lanes ["houses", "lanes"] := fun _ _ _ _ _ _ us hl => match us, hl with | [_, _], _ => rfl
  have bd_p_houses_ahead : Bd' "houses_ahead" "houses_ahead" s_p_houses_ahead ["street", "house"] := fun _ _ _ _ _ _ us hl => match us, hl with | [_, _], _ => rfl
  have bd_p_strong_parts : Bd' "strong_parts" "strong_parts" s_p_strong_parts ["street"] := fun _ _ _ _ _ _ us hl => match us, hl with | [_], _ => rfl
  have bd_p_ring_weight : Bd' "ring_weight" "ring_weight" s_p_ring_weight ["street", "ring"] := fun _ _ _ _ _ _ us hl => match us, hl with | [_, _], _ => rfl
  have bd_p_spur : Bd' "spur" "spur" s_p_spur ["street", "ring"] := fun _ _ _ _ _ _ us hl => match us, hl with | [_, _], _ => rfl
  have bd_p_is_bare : Bd' "is_bare" "is_bare" s_p_is_bare ["street", "part"] := fun _ _ _ _ _ _ us hl => match us, hl with | [_, _], _ => rfl
  have bd_p_spurred_parts : Bd' "spurred_parts" "spurred_parts" s_p_spurred_parts ["street"] := fun _ _ _ _ _ _ us hl => match us, hl with | [_], _ => rfl
  have bd_p_lightest_walk : Bd' "lightest_walk" "lightest_walk" s_p_lightest_walk ["street", "start"] := fun _ _ _ _ _ _ us hl => match us, hl with | [_, _], _ => rfl
  have bd_p_lightest_ring : Bd' "lightest_ring" "lightest_ring" s_p_lightest_ring ["street", "part"] := fun _ _ _ _ _ _ us hl => match us, hl with | [_, _], _ => rfl
  have bd_p_can_stick : Bd' "can_stick" "can_stick" s_p_can_stick ["street"] := fun _ _ _ _ _ _ us hl => match us, hl with | [_], _ => rfl
  have bd_p_turned_to : Bd' "turned_to" "turned_to" s_p_turned_to ["ring", "house"] := fun _ _ _ _ _ _ us hl => match us, hl with | [_, _], _ => rfl
  have bd_p_seat_way : Bd' "seat_way" "seat_way" s_p_seat_way ["ring", "index"] := fun _ _ _ _ _ _ us hl => match us, hl with | [_, _], _ => rfl
  have bd_p_filling_ways : Bd' "filling_ways" "filling_ways" s_p_filling_ways ["street", "ring", "shelter"] := fun _ _ _ _ _ _ us hl => match us, hl with | [_, _, _], _ => rfl
  have bd_p_filling_row : Bd' "filling_row" "filling_row" s_p_filling_row ["ways"] := fun _ _ _ _ _ _ us hl => match us, hl with | [_], _ => rfl
  have bd_p_sticking : Bd' "sticking" "sticking" s_p_sticking ["street"] := fun _ _ _ _ _ _ us hl => match us, hl with | [_], _ => rfl
  have bd_l_cell : Bd' "_law_cell" "_law_cell" s_l_cell ["_law_script", "_law_k"] := fun _ _ _ _ _ _ us hl => match us, hl with | [_, _], _ => rfl
  have bd_l_digits : Bd' "_law_digits" "_law_digits" s_l_digits ["_law_cell_here", "_law_sizes"] := fun _ _ _ _ _ _ us hl => match us, hl with | [_, _], _ => rfl
  have bd_l_lanes : Bd' "_law_lanes" "_law_lanes" s_l_lanes ["_law_order", "_law_plan", "_law_cuts", "_law_digits_here"] := fun _ _ _ _ _ _ us hl => match us, hl with | [_, _, _, _], _ => rfl
  have bd_l_town : Bd' "_law_town" "_law_town" s_l_town ["_law_script", "_law_at", "_law_least"] := fun _ _ _ _ _ _ us hl => match us, hl with | [_, _, _], _ => rfl
  have bd_l_twin : Bd' "_law_twin" "_law_twin" s_l_twin ["_law_script", "_law_at", "_law_least"] := fun _ _ _ _ _ _ us hl => match us, hl with | [_, _, _], _ => rfl
  have bd_l_ahead : Bd' "_law_ahead" "_law_ahead" s_l_ahead ["_law_street", "_law_house"] := fun _ _ _ _ _ _ us hl => match us, hl with | [_, _], _ => rfl
  have bd_l_opened : Bd' "_law_opened" "_law_opened" s_l_opened ["_law_street", "_law_one", "_law_two"] := fun _ _ _ _ _ _ us hl => match us, hl with | [_, _, _], _ => rfl
  have bd_l_build : Bd' "_law_build" "_law_build" s_l_build ["_law_street"] := fun _ _ _ _ _ _ us hl => match us, hl with | [_], _ => rfl
  have bd_l_rings : Bd' "_law_rings" "_law_rings" s_l_rings ["_law_street"] := fun _ _ _ _ _ _ us hl => match us, hl with | [_], _ => rfl
  have bd_l_spur : Bd' "_law_spur" "_law_spur" s_l_spur ["_law_street", "_law_ring"] := fun _ _ _ _ _ _ us hl => match us, hl with | [_, _], _ => rfl
  have bd_l_weight : Bd' "_law_weight" "_law_weight" s_l_weight ["_law_street", "_law_ring"] := fun _ _ _ _ _ _ us hl => match us, hl with | [_, _], _ => rfl
  have bd_l_says : Bd' "_law_says" "_law_says" s_l_says ["_law_told_here", "_law_due"] := fun _ _ _ _ _ _ us hl => match us, hl with | [_, _], _ => rfl
  have bd_l_whole : Bd' "_law_whole" "_law_whole" s_l_whole ["_law_value"] := fun _ _ _ _ _ _ us hl => match us, hl with | [_], _ => rfl
  have bd_l_houses : Bd' "_law_houses" "_law_houses" s_l_houses ["_law_value"] := fun _ _ _ _ _ _ us hl => match us, hl with | [_], _ => rfl
  have bd_l_load : Bd' "_law_load" "_law_load" s_l_load ["_law_ways", "_law_house"] := fun _ _ _ _ _ _ us hl => match us, hl with | [_, _], _ => rfl
  have bd_l_done : Bd' "_law_done" "_law_done" s_l_done ["_law_street", "_law_ways", "_law_deed"] := fun _ _ _ _ _ _ us hl => match us, hl with | [_, _, _], _ => rfl
  have bd_l_walked : Bd' "_law_walked" "_law_walked" s_l_walked ["_law_street", "_law_ways", "_law_row", "_law_most"] := fun _ _ _ _ _ _ us hl => match us, hl with | [_, _, _, _], _ => rfl
  have bd_l_is_stuck : Bd' "_law_is_stuck" "_law_is_stuck" s_l_is_stuck ["_law_street", "_law_ways", "_law_lot"] := fun _ _ _ _ _ _ us hl => match us, hl with | [_, _, _], _ => rfl
  have bd_l_told : Bd' "_law_told" "_law_told" s_l_told ["_law_street", "_law_told_here", "_law_spurred", "_law_least"] := fun _ _ _ _ _ _ us hl => match us, hl with | [_, _, _, _], _ => rfl
  have bdC : Bd' "__init__" "Street.__init__" s_p_Street_init ["self", "pegs", "lanes"] := fun _ _ _ _ _ _ us hl => match us, hl with | [_, _, _], _ => rfl
  have bdS : Bd' "__init__" "Sticking.__init__" s_p_Sticking_init ["self", "ring", "least_spur", "count", "owners", "row"] := fun _ _ _ _ _ _ us hl => match us, hl with | [_, _, _, _, _, _], _ => rfl
  have bdL : Bd' "lends_to" "Street.lends_to" s_p_Street_lends_to ["self", "house"] := fun _ _ _ _ _ _ us hl => match us, hl with | [_, _], _ => rfl
  have bdH : Bd' "houses" "Street.houses" s_p_Street_houses ["self"] := fun _ _ _ _ _ _ us hl => match us, hl with | [_], _ => rfl
  refine ⟨PySem.W.fnOf "law" "law" (defArgs s_p_law) (defBody s_p_law) (defScope s_p_law) .none kV0 dc0 pm0 an0 cd0 ct0, fun s v => .of_eq rfl, fun base _ _ => ?_⟩
  have hs : Dp' l.prog w K mg base C "houses" 1 ["self"] (F_Street_houses C) := dp_of Sc.cl pH bdH fun U => ok_Street_houses U T Sc
  have lto : Dm l.prog w K mg base C "lends_to" 1 ["self", "house"] (F_lends_to C) := dm_of Sc.cl mL bdL fun U => ok_lends_to U Sc
  have kS : Dk l.prog w K mg base "Sticking" CS 1 ["self", "ring", "least_spur", "count", "owners", "row"] F_Sticking := dk_of (PySem.W.mg_of X G aS) iS bdS fun U => ok_Sticking_init U Sk
  have z1 : Df l.prog w K mg base "frozen" 1 ["value"] (F_frozen 0) := df_of u_p_frozen bd_p_frozen fun U => ok_frozen0 U T
  have z2 : Df l.prog w K mg base "frozen" 2 ["value"] (F_frozen 1) := df_of u_p_frozen bd_p_frozen fun U => ok_frozenS U T z1
  have z3 : Df l.prog w K mg base "frozen" 3 ["value"] (F_frozen 2) := df_of u_p_frozen bd_p_frozen fun U => ok_frozenS U T z2
  have number : Df l.prog w K mg base "is_number" 1 ["value"] F_is_number := df_of u_p_is_number bd_p_is_number fun U => ok_is_number U T
  have asc : Df l.prog w K mg base "ascending" 1 ["values"] F_ascending := df_of u_p_ascending bd_p_ascending fun U => ok_ascending U T
  have cpegs : Df l.prog w K mg base "check_pegs" 2 ["pegs"] F_check_pegs := df_of u_p_check_pegs bd_p_check_pegs fun U => ok_check_pegs U T number
  have clanes : Df l.prog w K mg base "check_lanes" 1 ["houses", "lanes"] F_check_lanes := df_of u_p_check_lanes bd_p_check_lanes fun U => ok_check_lanes U T
  have kC : Dk l.prog w K mg base "Street" C 4 ["self", "pegs", "lanes"] F_Street := dk_of (PySem.W.mg_of X G aC) iC bdC fun U => ok_Street_init U T Sc z2 z3 cpegs clanes asc
  have hahead : Dx l.prog w K mg base "houses_ahead" 1 ["street", "house"] (F_houses_ahead C) := dx_of u_p_houses_ahead bd_p_houses_ahead fun U => ok_houses_ahead U T Sc
  have parts : Df l.prog w K mg base "strong_parts" 3 ["street"] (F_strong_parts C) := df_of u_p_strong_parts bd_p_strong_parts fun U => ok_strong_parts U T hahead hs
  have rweight : Df l.prog w K mg base "ring_weight" 3 ["street", "ring"] (F_ring_weight C) := df_of u_p_ring_weight bd_p_ring_weight fun U => ok_ring_weight U T Sc z2
  have pspur : Df l.prog w K mg base "spur" 3 ["street", "ring"] (F_spur C) := df_of u_p_spur bd_p_spur fun U => ok_spur U T Sc z2
  have bare : Df l.prog w K mg base "is_bare" 2 ["street", "part"] (F_is_bare C) := df_of u_p_is_bare bd_p_is_bare fun U => ok_is_bare U T lto
  have sparts : Df l.prog w K mg base "spurred_parts" 4 ["street"] (F_spurred C) := df_of u_p_spurred_parts bd_p_spurred_parts fun U => ok_spurred_parts U T parts bare
  have lwalk : Df l.prog w K mg base "lightest_walk" 2 ["street", "start"] (F_lightest_walk C) := df_of u_p_lightest_walk bd_p_lightest_walk fun U => ok_lightest_walk U T Hx' Sc lto
  have lring : Df l.prog w K mg base "lightest_ring" 3 ["street", "part"] (F_lightest_ring C) := df_of u_p_lightest_ring bd_p_lightest_ring fun U => ok_lightest_ring U T lwalk
  have can : Df l.prog w K mg base "can_stick" 5 ["street"] (F_can_stick C) := df_of u_p_can_stick bd_p_can_stick fun U => ok_can_stick U T sparts
  have turned : Df l.prog w K mg base "turned_to" 1 ["ring", "house"] F_turned_to := df_of u_p_turned_to bd_p_turned_to fun U => ok_turned_to U
  have seat : Df l.prog w K mg base "seat_way" 1 ["ring", "index"] F_seat_way := df_of u_p_seat_way bd_p_seat_way fun U => ok_seat_way U
  have fways : Df l.prog w K mg base "filling_ways" 2 ["street", "ring", "shelter"] (F_filling_ways C) := df_of u_p_filling_ways bd_p_filling_ways fun U => ok_filling_ways U T Sc seat
  have frow : Df l.prog w K mg base "filling_row" 1 ["ways"] F_filling_row := df_of u_p_filling_row bd_p_filling_row fun U => ok_filling_row U T
  have stk : Df l.prog w K mg base "sticking" 5 ["street"] (F_sticking C CS) := df_of u_p_sticking bd_p_sticking fun U => ok_sticking U T sparts lring rweight pspur kS fways turned frow
  have lcell : Df l.prog w K mg base "_law_cell" 1 ["_law_script", "_law_k"] F_l_cell := df_of u_l_cell bd_l_cell fun U => ok_l_cell U T
  have ldigits : Df l.prog w K mg base "_law_digits" 1 ["_law_cell_here", "_law_sizes"] F_l_digits := df_of u_l_digits bd_l_digits fun U => ok_l_digits U T
  have llanes : Dx l.prog w K mg base "_law_lanes" 1 ["_law_order", "_law_plan", "_law_cuts", "_law_digits_here"] F_l_lanes := dx_of u_l_lanes bd_l_lanes fun U => ok_l_lanes U T
  have ltown : Dx l.prog w K mg base "_law_town" 2 ["_law_script", "_law_at", "_law_least"] F_l_town := dx_of u_l_town bd_l_town fun U => ok_l_town U T ldigits lcell llanes
  have ltwin : Dx l.prog w K mg base "_law_twin" 2 ["_law_script", "_law_at", "_law_least"] F_l_town := dx_of u_l_twin bd_l_twin fun U => ok_l_twin U T ldigits lcell
  have lahead : Dx l.prog w K mg base "_law_ahead" 1 ["_law_street", "_law_house"] F_l_ahead := dx_of u_l_ahead bd_l_ahead fun U => ok_l_ahead U T
  have lopened : Dx l.prog w K mg base "_law_opened" 2 ["_law_street", "_law_one", "_law_two"] F_l_opened := dx_of u_l_opened bd_l_opened fun U => ok_l_opened U T lahead
  have lbuild : Df l.prog w K mg base "_law_build" 6 ["_law_street"] (F_l_build C) := df_of u_l_build bd_l_build fun U => ok_l_build U T kC
  have lrings : Df l.prog w K mg base "_law_rings" 1 ["_law_street"] F_l_rings := df_of u_l_rings bd_l_rings fun U => ok_l_rings U T
  have lspur : Df l.prog w K mg base "_law_spur" 1 ["_law_street", "_law_ring"] F_l_spur := df_of u_l_spur bd_l_spur fun U => ok_l_spur U T
  have lweight : Df l.prog w K mg base "_law_weight" 1 ["_law_street", "_law_ring"] F_l_weight := df_of u_l_weight bd_l_weight fun U => ok_l_weight U T
  have lsays : Df l.prog w K mg base "_law_says" 1 ["_law_told_here", "_law_due"] F_l_says := df_of u_l_says bd_l_says fun U => ok_l_says U T
  have lwhole : Df l.prog w K mg base "_law_whole" 1 ["_law_value"] F_l_whole := df_of u_l_whole bd_l_whole fun U => ok_l_whole U T
  have lhouses : Df l.prog w K mg base "_law_houses" 2 ["_law_value"] F_l_houses := df_of u_l_houses bd_l_houses fun U => ok_l_houses U T lwhole
  have lload : Df l.prog w K mg base "_law_load" 1 ["_law_ways", "_law_house"] F_l_load := df_of u_l_load bd_l_load fun U => ok_l_load U T
  have ldone : Df l.prog w K mg base "_law_done" 2 ["_law_street", "_law_ways", "_law_deed"] F_l_done := df_of u_l_done bd_l_done fun U => ok_l_done U T lwhole lload
  have lwalked : Df l.prog w K mg base "_law_walked" 3 ["_law_street", "_law_ways", "_law_row", "_law_most"] F_l_walked := df_of u_l_walked bd_l_walked fun U => ok_l_walked U T ldone
  have lstuck : Df l.prog w K mg base "_law_is_stuck" 1 ["_law_street", "_law_ways", "_law_lot"] F_l_is_stuck := df_of u_l_is_stuck bd_l_is_stuck fun U => ok_l_is_stuck U T
  have ltold : Df l.prog w K mg base "_law_told" 4 ["_law_street", "_law_told_here", "_law_spurred", "_law_least"] (F_l_told CS) := df_of u_l_told bd_l_told fun U => ok_l_told U T Sk lhouses lwhole lweight lspur lwalked lstuck
  exact ok_law M (fun_mk (st := s_p_law) l0 c0 k0) T Sc Sk ldigits lcell ltown ltwin lopened lbuild lrings lspur lsays can stk ltold lweight
theorem reps_int {K : PySem.W.Frag} {G : Hp} : ∀ ns : List Int, Reps K G (ns.map D.int) (ns.map V.int)
  | [] => .nil
  | n :: ns => .cons (.int n) (reps_int ns)
theorem walk {l : PySem.W.OpenLaw} {q : Program} {loose : List Str} {XP : (Str → Option Value) → Heap → Prop} {YP : World → Heap → Prop} {d : DefRec} {K : Params → PySem.W.Frag} (hn : l.most = some 63) (hdf : d.params.defaults = [])
    (hY : ∀ (w : World) (h : Heap), YP w h → (K w.params).In h)
    (F : ∀ (w : World) (mg : Str → Option Value) (fa : Addr) (h : Heap), (K w.params).In h → h.Ns mainGlobals mg → mg d.name = some (.ref fa) →
      ∃ fd : FuncData, (∀ (s : Shared) (u : Value), BindsTo s fd ⟨[u], []⟩ [("_law_script", u)]) ∧ ∀ base : Heap, (K w.params).In base → base.Ns mainGlobals mg → FnOk l.prog w (K w.params) mg base CX0 7 fa fd ["_law_script"] (spD F_law (K w.params))) :
    PySem.W.WalkO q loose XP YP l.row.toRowW d [] (fun f vs => PySem.call f vs) :=
  L2.walk_of (n := 63) (k := 7) (x := "_law_script") (CX := fun _ => CX0) (sp := fun w => spD F_law (K w.params)) hn (by decide) hdf ⟨rfl, by decide, by decide⟩ hY F (fun w H a ns hl _ hS => ⟨H, [.lsk (ns.map D.int)], .bl true, Ex.refl H, .cons (.lsk hS (reps_int ns)) .nil, ⟨ns, rfl, rfl⟩, fun v G' H' _ r => by cases r; rfl⟩) fun _ _ _ _ _ z => z
end K6
set_option maxRecDepth 100000
set_option maxHeartbeats 4000000
namespace K6
open PySem PySem.Spec PyProof.Rows L2 Evl DL
/-! ### ways and rings in a town -/
def Way (t : Town) : Int → List Int → Int → Prop
  | a, [], b => a = b
  | a, x :: xs, b => (a, x) ∈ t.lanes ∧ Way t x xs b
theorem way_app {t : Town} {c : Int} : ∀ {xs : List Int} {a b : Int} {ys : List Int}, Way t a xs b → Way t b ys c → Way t a (xs ++ ys) c
  | [], a, b, ys, h1, h2 => by cases h1; exact h2
  | x :: xs, a, b, ys, h1, h2 => ⟨h1.1, way_app h1.2 h2⟩
theorem way_split {t : Town} {c : Int} : ∀ {xs : List Int} {a x : Int} {ys : List Int}, Way t a (xs ++ x :: ys) c → Way t a (xs ++ [x]) x ∧ Way t x ys c
  | [], a, x, ys, h => ⟨⟨h.1, rfl⟩, h.2⟩
  | y :: xs, a, x, ys, h => by
    obtain ⟨h1, h2⟩ := h
    obtain ⟨h3, h4⟩ := way_split (xs := xs) h2
    exact ⟨⟨h1, h3⟩, h4⟩
theorem way_end {t : Town} {x b : Int} {xs : List Int} {a : Int} (h : Way t a (xs ++ [x]) b) : x = b := by
  have := (way_split (ys := []) h).2
  exact this
theorem way_reach {t : Town} : ∀ {xs : List Int} {a b : Int}, Way t a xs b → t.Reach a b := by
  have key : ∀ {xs : List Int} {s a b : Int}, t.Reach s a → Way t a xs b → t.Reach s b := by
    intro xs
    induction xs with
    | nil => intro s a b h h2; cases h2; exact h
    | cons x xs ih => intro s a b h h2; exact ih (.step h h2.1) h2.2
  intro xs a b h
  exact key .refl h
theorem reach_way {t : Town} {a b : Int} (h : t.Reach a b) : ∃ xs, Way t a xs b := by
  induction h with
  | refl => exact ⟨[], rfl⟩
  | step _ h ih => obtain ⟨xs, hx⟩ := ih; exact ⟨xs ++ [_], way_app hx ⟨h, rfl⟩⟩
theorem reach_trans {t : Town} {a b c : Int} (h1 : t.Reach a b) (h2 : t.Reach b c) : t.Reach a c := by
  induction h2 with
  | refl => exact h1
  | step _ h ih => exact .step ih h
def wsum (t : Town) (xs : List Int) : Int := (xs.map t.peg).sum
theorem wsum_cons {t : Town} (x : Int) (xs : List Int) : wsum t (x :: xs) = t.peg x + wsum t xs := rfl
theorem wsum_app {t : Town} : ∀ xs ys : List Int, wsum t (xs ++ ys) = wsum t xs + wsum t ys
  | [], ys => by show wsum t ys = 0 + wsum t ys; omega
  | x :: xs, ys => by rw [List.cons_append, wsum_cons, wsum_cons, wsum_app xs ys]; omega
theorem peg_bd {t : Town} (ok : t.Ok) {h : Int} (hh : 0 ≤ h ∧ h < t.n) : 1 ≤ t.peg h ∧ t.peg h ≤ 9 := by
  have hl : h.toNat < t.pegs.length := by have : t.n = t.pegs.length := rfl; omega
  have : t.peg h ∈ t.pegs := by
    unfold Town.peg
    rw [List.getD_eq_getElem?_getD, List.getElem?_eq_getElem hl]; exact List.getElem_mem hl
  exact ok.peg _ this
theorem lane_inn {t : Town} (ok : t.Ok) {a b : Int} (h : (a, b) ∈ t.lanes) : (0 ≤ a ∧ a < t.n) ∧ (0 ≤ b ∧ b < t.n) ∧ a ≠ b := by
  obtain ⟨h1, h2, h3, h4, h5⟩ := ok.inn _ h
  exact ⟨⟨h1, h2⟩, ⟨h3, h4⟩, h5⟩
theorem way_inn {t : Town} (ok : t.Ok) : ∀ {xs : List Int} {a b : Int}, Way t a xs b → Inn t xs
  | [], _, _, _ => fun x hx => by cases hx
  | y :: xs, a, b, h => fun x hx => by
    rcases List.mem_cons.mp hx with e | hx
    · exact e ▸ (lane_inn ok h.1).2.1
    · exact way_inn ok h.2 x hx
theorem wsum_nn {t : Town} (ok : t.Ok) : ∀ {xs : List Int}, Inn t xs → 0 ≤ wsum t xs
  | [], _ => by show (0 : Int) ≤ 0; omega
  | x :: xs, h => by
    rw [wsum_cons]
    have h1 := (peg_bd ok (h x List.mem_cons_self)).1
    have h2 := wsum_nn ok (xs := xs) fun y hy => h y (List.mem_cons_of_mem _ hy)
    omega
theorem wsum_pos {t : Town} (ok : t.Ok) {xs : List Int} (h : Inn t xs) (hne : xs ≠ []) : 0 < wsum t xs := by
  cases xs with
  | nil => exact absurd rfl hne
  | cons x xs =>
    rw [wsum_cons]
    have h1 := (peg_bd ok (h x List.mem_cons_self)).1
    have h2 := wsum_nn ok (xs := xs) fun y hy => h y (List.mem_cons_of_mem _ hy)
    omega
theorem weight_wsum (t : Town) (r : List Int) : t.weight r = wsum t r := rfl
theorem wsum_perm {t : Town} {xs ys : List Int} (h : xs.Perm ys) : wsum t xs = wsum t ys := by
  induction h with
  | nil => rfl
  | cons x _ ih => rw [wsum_cons, wsum_cons, ih]
  | swap x y l => rw [wsum_cons, wsum_cons, wsum_cons, wsum_cons]; omega
  | trans _ _ h1 h2 => exact h1.trans h2
/-- a simple ring -/
structure Ring (t : Town) (r : List Int) : Prop where
  nd : r.Nodup
  way : ∃ a xs, r = a :: xs ∧ Way t a (xs ++ [a]) a
theorem Ring.rot1 {t : Town} {a : Int} {xs : List Int} (h : Ring t (a :: xs)) : Ring t (xs ++ [a]) := by
  obtain ⟨nd, a', xs', e, w⟩ := h
  cases e
  refine ⟨by rw [← List.singleton_append] at nd; exact (List.perm_append_comm.nodup_iff).mp nd, ?_⟩
  cases xs with
  | nil => exact ⟨a, [], rfl, w⟩
  | cons b ys =>
    refine ⟨b, ys ++ [a], rfl, ?_⟩
    have w1 : (a, b) ∈ t.lanes := w.1
    have w2 : Way t b (ys ++ [a]) a := w.2
    exact way_app w2 ⟨w1, rfl⟩
theorem Ring.rot {t : Town} : ∀ {ys zs : List Int}, Ring t (ys ++ zs) → Ring t (zs ++ ys)
  | [], zs, h => by rw [List.append_nil]; exact h
  | a :: ys, zs, h => by
    have h1 : Ring t ((ys ++ zs) ++ [a]) := Ring.rot1 h
    rw [List.append_assoc] at h1
    have h2 := Ring.rot h1
    rw [List.append_assoc] at h2
    exact h2
theorem Ring.turn {t : Town} {r : List Int} (h : Ring t r) (x : Int) : Ring t (turnAt r x) := by
  unfold turnAt
  exact Ring.rot (by rw [List.take_append_drop]; exact h)
theorem turnAt_perm (r : List Int) (x : Int) : (turnAt r x).Perm r := by
  unfold turnAt
  exact List.perm_append_comm.trans (by rw [List.take_append_drop])
theorem turnAt_head {r : List Int} {x : Int} (h : x ∈ r) : ∃ xs, turnAt r x = x :: xs := by
  unfold turnAt
  obtain ⟨h1, _⟩ := posOf_at h
  have hl := posOf_lt h
  have := List.drop_eq_getElem_cons hl
  rw [this]
  rw [List.getElem?_eq_getElem hl, Option.some.injEq] at h1
  exact ⟨_, by rw [h1]; rfl⟩
theorem Ring.inn {t : Town} (ok : t.Ok) {r : List Int} (h : Ring t r) : Inn t r := by
  obtain ⟨nd, a, xs, rfl, w⟩ := h
  have := way_inn ok w
  intro x hx
  refine this x ?_
  rcases List.mem_cons.mp hx with e | hx
  · rw [e]; simp
  · exact List.mem_append_left _ hx
theorem Ring.two {t : Town} (ok : t.Ok) {r : List Int} (h : Ring t r) : 2 ≤ r.length := by
  obtain ⟨nd, a, xs, rfl, w⟩ := h
  cases xs with
  | nil => exact absurd rfl (lane_inn ok w.1).2.2
  | cons b ys => simp
theorem Ring.len {t : Town} (ok : t.Ok) {r : List Int} (h : Ring t r) : r.length ≤ t.n := nodup_len h.nd (h.inn ok)
/-- a closed walk from any of its houses -/
theorem Ring.at {t : Town} {r : List Int} (h : Ring t r) {x : Int} (hx : x ∈ r) : ∃ xs, Way t x (xs ++ [x]) x ∧ (x :: xs).Perm r ∧ Ring t (x :: xs) := by
  obtain ⟨xs, e⟩ := turnAt_head hx
  have h1 := h.turn x
  rw [e] at h1
  obtain ⟨_, a, ys, e2, w⟩ := id h1
  cases e2
  exact ⟨xs, w, e ▸ turnAt_perm r x, h1⟩
theorem Ring.reach {t : Town} {r : List Int} (h : Ring t r) {x y : Int} (hx : x ∈ r) (hy : y ∈ r) : t.Reach x y := by
  obtain ⟨xs, w, p, _⟩ := h.at hx
  have hy : y ∈ x :: xs := p.mem_iff.mpr hy
  rcases List.mem_cons.mp hy with e | hy
  · rw [e]; exact .refl
  · obtain ⟨l1, l2, rfl⟩ := List.append_of_mem hy
    rw [List.append_assoc] at w
    exact way_reach (way_split (ys := l2 ++ [x]) w).1
end K6
set_option maxRecDepth 100000
set_option maxHeartbeats 4000000
namespace K6
open PySem PySem.Spec PyProof.Rows L2 Evl DL
open PySem.W (dataLt)
/-! ### a least queue entry -/
theorem q_irr (a : QI) : dataLt (qPy a) (qPy a) = false := lex_irrefl (O := itemOrd) _
theorem q_neg {a b c : QI} (h : dataLt (qPy a) (qPy c) = true) : dataLt (qPy a) (qPy b) = true ∨ dataLt (qPy b) (qPy c) = true := lex_negTrans (O := itemOrd) _ _ _ h
theorem q_trans {a b c : QI} (h : dataLt (qPy a) (qPy b) = true) (h2 : dataLt (qPy b) (qPy c) = true) : dataLt (qPy a) (qPy c) = true := lex_trans (O := itemOrd) _ _ _ h h2
theorem q_least : ∀ {qs : List QI}, qs ≠ [] → ∃ m ∈ qs, ∀ z ∈ qs, dataLt (qPy z) (qPy m) = false
  | [], h => absurd rfl h
  | [x], _ => ⟨x, List.mem_singleton.mpr rfl, fun z hz => by rw [List.mem_singleton.mp hz]; exact q_irr x⟩
  | x :: y :: ys, _ => by
    obtain ⟨m, hm, hl⟩ := q_least (qs := y :: ys) (by simp)
    cases e : dataLt (qPy x) (qPy m) with
    | false =>
      refine ⟨m, List.mem_cons_of_mem _ hm, fun z hz => ?_⟩
      rcases List.mem_cons.mp hz with e2 | hz
      · rw [e2]; exact e
      · exact hl z hz
    | true =>
      refine ⟨x, List.mem_cons_self, fun z hz => ?_⟩
      rcases List.mem_cons.mp hz with e2 | hz
      · rw [e2]; exact q_irr x
      · cases e3 : dataLt (qPy z) (qPy x) with
        | false => rfl
        | true =>
          have := q_trans e3 e
          rw [hl z hz] at this
          cases this
theorem q_pop {qs : List QI} (h : qs ≠ []) : ∃ q qs', LeastQ q qs qs' := by
  obtain ⟨m, hm, hl⟩ := q_least h
  obtain ⟨l1, l2, rfl⟩ := List.append_of_mem hm
  exact ⟨m, l1 ++ l2, List.perm_middle.symm, hl⟩
/-! ### the search -/
structure DI (t : Town) (s : Int) (qs : List QI) (dn : List Int) (d : Int → Int) : Prop where
  sd : s ∈ dn ∧ d s = 0
  inn : Inn t dn
  nd : dn.Nodup
  ent : ∀ q ∈ qs, ∃ mid v, q.2 = (s :: mid) ++ [v] ∧ (s :: mid).Nodup ∧ (∀ x ∈ s :: mid, x ∈ dn) ∧ Way t s (mid ++ [v]) v ∧ q.1 = wsum t (mid ++ [v])
  out : ∀ v ∈ dn, ∀ x, (v, x) ∈ t.lanes → (∃ q ∈ qs, q.2.getLast? = some x ∧ q.1 ≤ d v + t.peg x) ∨ (x ∈ dn ∧ x ≠ s ∧ d x ≤ d v + t.peg x)
  mono : ∀ v ∈ dn, ∀ q ∈ qs, d v ≤ q.1
theorem DI.reach {t : Town} (ok : t.Ok) {s : Int} {qs : List QI} {dn : List Int} {d : Int → Int} (h : DI t s qs dn d) : ∀ {xs : List Int} {v c : Int}, v ∈ dn → d v ≤ c → Way t v xs s → xs ≠ [] → ∃ q ∈ qs, q.1 ≤ c + wsum t xs
  | [], v, c, _, _, _, hne => absurd rfl hne
  | x :: xs, v, c, hv, hc, hw, _ => by
    rw [wsum_cons]
    rcases h.out v hv x hw.1 with ⟨q, hq, _, hle⟩ | ⟨hx, hxs, hle⟩
    · have := wsum_nn ok (way_inn ok hw.2)
      exact ⟨q, hq, by omega⟩
    · have hne : xs ≠ [] := fun e => by subst e; exact hxs hw.2
      obtain ⟨q, hq, hle2⟩ := DI.reach ok h (c := c + t.peg x) hx (by omega) hw.2 hne
      exact ⟨q, hq, by omega⟩
/-- what the search brings -/
def Good (t : Town) (s : Int) (r : QI) : Prop := ∃ mid, r.2 = s :: mid ∧ Ring t (s :: mid) ∧ r.1 = wsum t (s :: mid) ∧ ∀ W, Way t s W s → W ≠ [] → r.1 ≤ wsum t W
theorem wsum_turn {t : Town} (s : Int) (mid : List Int) : wsum t (mid ++ [s]) = wsum t (s :: mid) := wsum_perm (List.perm_append_comm (l₁ := mid) (l₂ := [s]))
theorem lw_step {t : Town} (ok : t.Ok) {s : Int} {W0 : List Int} (w0 : Way t s W0 s) (ne0 : W0 ≠ []) {qs : List QI} {dn : List Int} {d : Int → Int} (h : DI t s qs dn d) :
    ∃ q qs', LeastQ q qs qs' ∧ 1 < q.2.length ∧ ((q.2.getLast? = some s ∧ Good t s (q.1, q.2.dropLast)) ∨ (∃ v, q.2.getLast? = some v ∧ v ≠ s ∧ v ∈ dn ∧ DI t s qs' dn d) ∨
      (∃ v, q.2.getLast? = some v ∧ v ≠ s ∧ v ∉ dn ∧ ∃ d', DI t s (qs' ++ t.exts q v) (dn ++ [v]) d')) := by
  obtain ⟨q0, hq0, _⟩ := h.reach ok (c := 0) h.sd.1 (by rw [h.sd.2]; omega) w0 ne0
  obtain ⟨q, qs', hl⟩ := q_pop (qs := qs) (fun e => by rw [e] at hq0; cases hq0)
  have hq : q ∈ qs := hl.1.mem_iff.mp List.mem_cons_self
  have hqs : ∀ z, z ∈ qs → z = q ∨ z ∈ qs' := fun z hz => List.mem_cons.mp (hl.1.mem_iff.mpr hz)
  have hqs2 : ∀ z ∈ qs', z ∈ qs := fun z hz => hl.1.mem_iff.mp (List.mem_cons_of_mem _ hz)
  have hle : ∀ z ∈ qs, q.1 ≤ z.1 := fun z hz => q_weight (hl.2 z hz)
  obtain ⟨mid, v, e2, nd, sub, w, e1⟩ := h.ent q hq
  have gl : q.2.getLast? = some v := by rw [e2, List.getLast?_append]; rfl
  have len : 1 < q.2.length := by rw [e2]; simp
  refine ⟨q, qs', hl, len, ?_⟩
  by_cases hs : v = s
  · subst hs
    refine .inl ⟨gl, mid, ?_, ⟨nd, v, mid, rfl, w⟩, by rw [← wsum_turn]; exact e1, fun W hW hne => ?_⟩
    · show q.2.dropLast = _
      rw [e2, List.dropLast_concat]
    · obtain ⟨z, hz, hzl⟩ := h.reach ok (c := 0) h.sd.1 (by rw [h.sd.2]; omega) hW hne
      have := hle z hz
      show q.1 ≤ _
      omega
  · by_cases hd : v ∈ dn
    · refine .inr (.inl ⟨v, gl, hs, hd, h.sd, h.inn, h.nd, fun z hz => h.ent z (hqs2 z hz), fun a ha x hx => ?_, fun a ha z hz => h.mono a ha z (hqs2 z hz)⟩)
      rcases h.out a ha x hx with ⟨z, hz, zl, zle⟩ | hz
      · rcases hqs z hz with e | hz
        · subst e
          rw [gl, Option.some.injEq] at zl
          subst zl
          have := h.mono v hd z hq
          exact .inr ⟨hd, hs, by omega⟩
        · exact .inl ⟨z, hz, zl, zle⟩
      · exact .inr hz
    · refine .inr (.inr ⟨v, gl, hs, hd, fun a => if a = v then q.1 else d a, ?_⟩)
      have vinn : 0 ≤ v ∧ v < t.n := way_inn ok w v (by simp)
      have other : ∀ a ∈ dn, a ≠ v := fun a ha e => hd (e ▸ ha)
      refine ⟨⟨List.mem_append_left _ h.sd.1, by rw [if_neg (fun e => hs e.symm)]; exact h.sd.2⟩, fun x hx => ?_, ?_, fun z hz => ?_, fun a ha x hx => ?_, fun a ha z hz => ?_⟩
      · rcases List.mem_append.mp hx with hx | hx
        · exact h.inn x hx
        · rw [List.mem_singleton.mp hx]; exact vinn
      · rw [List.nodup_append]
        exact ⟨h.nd, by simp, fun a ha b hb => by rw [List.mem_singleton.mp hb]; exact other a ha⟩
      · rcases List.mem_append.mp hz with hz | hz
        · obtain ⟨mid', v', h1, h2, h3, h4, h5⟩ := h.ent z (hqs2 z hz)
          exact ⟨mid', v', h1, h2, fun x hx => List.mem_append_left _ (h3 x hx), h4, h5⟩
        · obtain ⟨x, hx, rfl⟩ := List.mem_map.mp hz
          refine ⟨mid ++ [v], x, by show q.2 ++ [x] = _; rw [e2]; rfl, ?_, fun y hy => ?_, ?_, ?_⟩
          · rw [← List.cons_append, List.nodup_append]
            exact ⟨nd, by simp, fun a ha b hb => by rw [List.mem_singleton.mp hb]; exact other a (sub a ha)⟩
          · rw [← List.cons_append] at hy
            rcases List.mem_append.mp hy with hy | hy
            · exact List.mem_append_left _ (sub y hy)
            · exact List.mem_append_right _ hy
          · exact way_app w ⟨Town.mem_to.mp hx, rfl⟩
          · show q.1 + t.peg x = _
            rw [wsum_app (mid ++ [v]), e1]
            show _ = _ + (t.peg x + 0)
            omega
      · by_cases hav : a = v
        · subst hav
          rw [if_pos rfl]
          exact .inl ⟨(q.1 + t.peg x, q.2 ++ [x]), List.mem_append_right _ (List.mem_map.mpr ⟨x, Town.mem_to.mpr hx, rfl⟩), by simp, Int.le_refl _⟩
        · have ha : a ∈ dn := (List.mem_append.mp ha).resolve_right fun e => hav (List.mem_singleton.mp e)
          rw [if_neg hav]
          rcases h.out a ha x hx with ⟨z, hz, zl, zle⟩ | ⟨h1, h2, h3⟩
          · rcases hqs z hz with e | hz
            · subst e
              rw [gl, Option.some.injEq] at zl
              subst zl
              exact .inr ⟨by simp, hs, by rw [if_pos rfl]; exact zle⟩
            · exact .inl ⟨z, List.mem_append_left _ hz, zl, zle⟩
          · exact .inr ⟨List.mem_append_left _ h1, h2, by rw [if_neg (other x h1)]; exact h3⟩
      · have dq : (if a = v then q.1 else d a) ≤ q.1 := by
          by_cases hav : a = v
          · rw [if_pos hav]; exact Int.le_refl _
          · rw [if_neg hav]
            exact h.mono a ((List.mem_append.mp ha).resolve_right fun e => hav (List.mem_singleton.mp e)) q hq
        have zq : q.1 ≤ z.1 := by
          rcases List.mem_append.mp hz with hz | hz
          · exact hle z (hqs2 z hz)
          · obtain ⟨x, hx, rfl⟩ := List.mem_map.mp hz
            have := (peg_bd ok (Town.to_inn ok hx)).1
            show q.1 ≤ q.1 + t.peg x
            omega
        show (if a = v then q.1 else d a) ≤ z.1
        omega
theorem lw_run {t : Town} (ok : t.Ok) {s : Int} {W0 : List Int} (w0 : Way t s W0 s) (ne0 : W0 ≠ []) {qs : List QI} {dn : List Int} {d : Int → Int} (h : DI t s qs dn d) : ∃ n r, LW t s n qs dn r ∧ Good t s r := by
  obtain ⟨q, qs', hl, len, h3⟩ := lw_step ok w0 ne0 h
  rcases h3 with ⟨gl, g⟩ | ⟨v, gl, hs, hd, h2⟩ | ⟨v, gl, hs, hd, d', h2⟩
  · exact ⟨0, _, .stop hl len gl, g⟩
  · have : qs'.length < qs.length := by have := hl.1.length_eq; rw [List.length_cons] at this; omega
    obtain ⟨n, r, h4, g⟩ := lw_run ok w0 ne0 h2
    exact ⟨n + 1, r, .skip hl gl (fun e => hs e.2) hd h4, g⟩
  · have h5 := nodup_len h2.nd h2.inn
    rw [List.length_append, List.length_singleton] at h5
    have : t.n - (dn ++ [v]).length < t.n - dn.length := by rw [List.length_append, List.length_singleton]; omega
    obtain ⟨n, r, h4, g⟩ := lw_run ok w0 ne0 h2
    exact ⟨n + 1, r, .go hl gl (fun e => hs e.2) hd h4, g⟩
termination_by (t.n - dn.length, qs.length)
theorem lw_ex {t : Town} (ok : t.Ok) {s : Int} (hs : 0 ≤ s ∧ s < t.n) {W0 : List Int} (w0 : Way t s W0 s) (ne0 : W0 ≠ []) : ∃ n r, LW t s n [(0, [s])] [] r ∧ Good t s r := by
  have h : DI t s (t.exts (0, [s]) s) [s] (fun _ => 0) := by
    refine ⟨⟨List.mem_singleton.mpr rfl, rfl⟩, fun x hx => by rw [List.mem_singleton.mp hx]; exact hs, by simp, fun z hz => ?_, fun v hv x hx => ?_, fun v hv z hz => ?_⟩
    · obtain ⟨x, hx, rfl⟩ := List.mem_map.mp hz
      refine ⟨[], x, rfl, by simp, fun y hy => hy, ⟨Town.mem_to.mp hx, rfl⟩, ?_⟩
      show 0 + t.peg x = t.peg x + 0
      omega
    · rw [List.mem_singleton.mp hv] at hx
      exact .inl ⟨(0 + t.peg x, [s] ++ [x]), List.mem_map.mpr ⟨x, Town.mem_to.mpr hx, rfl⟩, rfl, Int.le_refl _⟩
    · obtain ⟨x, hx, rfl⟩ := List.mem_map.mp hz
      have := (peg_bd ok (Town.to_inn ok hx)).1
      show (0 : Int) ≤ 0 + t.peg x
      omega
  obtain ⟨n, r, h2, g⟩ := lw_run ok w0 ne0 h
  exact ⟨n + 1, r, .go (qs' := []) ⟨List.Perm.refl _, fun z hz => by rw [List.mem_singleton.mp hz]; exact q_irr _⟩ rfl (fun e => absurd (show 1 < 1 from e.1) (by decide)) (by simp) h2, g⟩
end K6
set_option maxRecDepth 100000
set_option maxHeartbeats 4000000
namespace K6
open PySem PySem.Spec PyProof.Rows L2 Evl DL
open PySem.W (dataLt)
open Classical in
theorem mem_part {t : Town} {h x : Int} : x ∈ t.part h ↔ (0 ≤ x ∧ x < t.n) ∧ t.Reach h x ∧ t.Reach x h := by
  unfold Town.part
  rw [List.mem_map]
  constructor
  · rintro ⟨k, hk, rfl⟩
    rw [List.mem_filter, decide_eq_true_iff, List.mem_range] at hk
    exact ⟨⟨by omega, by omega⟩, hk.2⟩
  · rintro ⟨⟨h0, h1⟩, h2⟩
    refine ⟨x.toNat, ?_, by omega⟩
    rw [List.mem_filter, decide_eq_true_iff, List.mem_range]
    rw [show ((x.toNat : Nat) : Int) = x by omega]
    exact ⟨by omega, h2⟩
open Classical in
theorem part_eq {t : Town} {h k : Int} (h1 : t.Reach h k) (h2 : t.Reach k h) : t.part k = t.part h := by
  unfold Town.part
  congr 1
  refine List.filter_congr fun x _ => ?_
  rw [decide_eq_decide]
  exact ⟨fun ⟨a, b⟩ => ⟨reach_trans h1 a, reach_trans b h2⟩, fun ⟨a, b⟩ => ⟨reach_trans h2 a, reach_trans b h1⟩⟩
open Classical in
theorem part_mem {t : Town} {h : Int} (hh : 0 ≤ h ∧ h < t.n) : t.part h ∈ t.parts := by
  have me : h ∈ t.part h := mem_part.mpr ⟨hh, .refl, .refl⟩
  obtain ⟨k, tl, e⟩ : ∃ k tl, t.part h = k :: tl := by
    cases e : t.part h with
    | nil => rw [e] at me; cases me
    | cons k tl => exact ⟨k, tl, rfl⟩
  have hk : k ∈ t.part h := by rw [e]; exact List.mem_cons_self
  obtain ⟨⟨k0, kn⟩, r1, r2⟩ := mem_part.mp hk
  have pe := part_eq r1 r2
  unfold Town.parts
  refine List.mem_map.mpr ⟨k.toNat, ?_, ?_⟩
  · rw [List.mem_filter, decide_eq_true_iff, List.mem_range]
    rw [show ((k.toNat : Nat) : Int) = k by omega, pe, e]
    exact ⟨by omega, rfl⟩
  · rw [show ((k.toNat : Nat) : Int) = k by omega, pe]
open Classical in
theorem parts_part {t : Town} {p : List Int} (hp : p ∈ t.parts) : ∃ h : Int, (0 ≤ h ∧ h < t.n) ∧ p = t.part h := by
  unfold Town.parts at hp
  obtain ⟨k, hk, rfl⟩ := List.mem_map.mp hp
  have := List.mem_range.mp (List.mem_filter.mp hk).1
  exact ⟨k, ⟨by omega, by omega⟩, rfl⟩
theorem part_nodup (t : Town) (h : Int) : (t.part h).Nodup := by
  unfold Town.part
  rw [List.nodup_iff_pairwise_ne, List.pairwise_map]
  refine List.Pairwise.imp (fun {a b} ne e => ne ?_) (List.nodup_iff_pairwise_ne.mp ((List.filter_sublist).nodup List.nodup_range))
  omega
theorem two_of {α : Type} {xs : List α} {a b : α} (ha : a ∈ xs) (hb : b ∈ xs) (ne : a ≠ b) : 1 < xs.length := by
  match xs, ha, hb with
  | [x], ha, hb => exact absurd ((List.mem_singleton.mp ha).trans (List.mem_singleton.mp hb).symm) ne
  | x :: y :: xs, _, _ => simp
theorem other_of {p : List Int} (nd : p.Nodup) (h : 1 < p.length) (s : Int) : ∃ y ∈ p, y ≠ s := by
  match p, nd, h with
  | a :: b :: p, nd, _ =>
    have : a ≠ b := fun e => by
      rw [List.nodup_cons] at nd
      exact nd.1 (by rw [e]; exact List.mem_cons_self)
    by_cases e : a = s
    · exact ⟨b, by simp, fun e2 => this (e.trans e2.symm)⟩
    · exact ⟨a, by simp, e⟩
/-! ### the law's own rings are the simple rings that begin with their least house -/
theorem lastI_app (p : List Int) (x : Int) : lastI (p ++ [x]) = x := by
  unfold lastI
  rw [List.getD_eq_getElem?_getD]
  simp
theorem rpath_way {t : Town} : ∀ k, ∀ p ∈ rPaths t k, ∃ a xs, p = a :: xs ∧ Way t a xs (lastI p) ∧ (∀ x ∈ xs, a < x) ∧ p.Nodup ∧ (0 ≤ a ∧ a < t.n)
  | 0, p, hp => by
    obtain ⟨a, ha, rfl⟩ := List.mem_map.mp hp
    have := List.mem_range.mp ha
    exact ⟨a, [], rfl, rfl, fun x hx => (by cases hx), by simp, by omega, by omega⟩
  | k + 1, p, hp => by
    obtain ⟨q, hq, hp⟩ := List.mem_flatMap.mp hp
    obtain ⟨x, hx, rfl⟩ := List.mem_map.mp hp
    obtain ⟨a, xs, rfl, w, lt, nd, ai⟩ := rpath_way k q hq
    obtain ⟨h1, h2⟩ := List.mem_filter.mp hx
    rw [Bool.and_eq_true, decide_eq_true_iff] at h2
    have hn : x ∉ a :: xs := by simpa using h2.2
    refine ⟨a, xs ++ [x], rfl, ?_, fun y hy => ?_, ?_, ai⟩
    · rw [lastI_app]
      exact way_app w ⟨Town.mem_to.mp h1, rfl⟩
    · rcases List.mem_append.mp hy with hy | hy
      · exact lt y hy
      · rw [List.mem_singleton.mp hy]; exact h2.1
    · rw [List.nodup_append]
      exact ⟨nd, by simp, fun y hy z hz => by rw [List.mem_singleton.mp hz]; exact fun e => hn (e ▸ hy)⟩
theorem way_rpath {t : Town} {a : Int} (ai : 0 ≤ a ∧ a < t.n) : ∀ (k : Nat) {xs : List Int} {b : Int}, xs.length = k → Way t a xs b → (∀ x ∈ xs, a < x) → (a :: xs).Nodup → a :: xs ∈ rPaths t k ∧ lastI (a :: xs) = b
  | 0, xs, b, hl, w, _, _ => by
    have : xs = [] := List.length_eq_zero_iff.mp hl
    subst this
    cases w
    exact ⟨List.mem_map.mpr ⟨a.toNat, List.mem_range.mpr (by omega), by rw [show ((a.toNat : Nat) : Int) = a by omega]⟩, rfl⟩
  | k + 1, xs, b, hl, w, lt, nd => by
    obtain ⟨ys, x, rfl⟩ : ∃ ys x, xs = ys ++ [x] := ⟨xs.dropLast, xs.getLast (fun e => by rw [e] at hl; cases hl), (List.dropLast_concat_getLast _).symm⟩
    obtain rfl := way_end w
    obtain ⟨c, w1, w2⟩ : ∃ c, Way t a ys c ∧ (c, x) ∈ t.lanes := by
      clear hl lt nd ai
      induction ys generalizing a with
      | nil => exact ⟨a, rfl, w.1⟩
      | cons y ys ih => obtain ⟨c, h1, h2⟩ := ih w.2; exact ⟨c, ⟨w.1, h1⟩, h2⟩
    rw [← List.cons_append, List.nodup_append] at nd
    obtain ⟨h1, h2⟩ := way_rpath ai k (xs := ys) (by rw [List.length_append, List.length_singleton] at hl; omega) w1 (fun y hy => lt y (List.mem_append_left _ hy)) nd.1
    refine ⟨List.mem_flatMap.mpr ⟨a :: ys, h1, List.mem_map.mpr ⟨x, List.mem_filter.mpr ⟨?_, ?_⟩, rfl⟩⟩, by rw [← List.cons_append]; exact lastI_app _ _⟩
    · rw [h2]; exact Town.mem_to.mpr w2
    · rw [Bool.and_eq_true, decide_eq_true_iff]
      refine ⟨lt x (by simp), ?_⟩
      have : x ∉ a :: ys := fun e => nd.2.2 x e x (by simp) rfl
      simpa using this
theorem way_pen {t : Town} {x b : Int} : ∀ {xs : List Int} {a : Int}, Way t a (xs ++ [x]) b → ∃ c, Way t a xs c ∧ (c, x) ∈ t.lanes
  | [], a, w => ⟨a, rfl, w.1⟩
  | y :: xs, a, w => by
    obtain ⟨c, h1, h2⟩ := way_pen (xs := xs) w.2
    exact ⟨c, ⟨w.1, h1⟩, h2⟩
theorem ringsT_ring {t : Town} {r : List Int} (h : r ∈ ringsT t) : Ring t r := by
  obtain ⟨k, _, h⟩ := List.mem_flatMap.mp h
  obtain ⟨h1, h2⟩ := List.mem_filter.mp h
  obtain ⟨a, xs, rfl, w, _, nd, _⟩ := rpath_way k r h1
  unfold closes at h2
  rw [Bool.and_eq_true, decide_eq_true_iff, decide_eq_true_iff] at h2
  exact ⟨nd, a, xs, rfl, way_app w ⟨h2.2, rfl⟩⟩
theorem ring_ringsT {t : Town} (ok : t.Ok) {a : Int} {xs : List Int} (h : Ring t (a :: xs)) (lt : ∀ x ∈ xs, a < x) : a :: xs ∈ ringsT t := by
  have two := h.two ok
  have len := h.len ok
  have inn := h.inn ok
  obtain ⟨nd, a', xs', e, w⟩ := h
  cases e
  obtain ⟨c, w1, w2⟩ := way_pen w
  obtain ⟨h1, h2⟩ := way_rpath (inn a List.mem_cons_self) xs.length rfl w1 lt nd
  rw [List.length_cons] at two len
  refine List.mem_flatMap.mpr ⟨xs.length, List.mem_range.mpr (by omega), List.mem_filter.mpr ⟨h1, ?_⟩⟩
  unfold closes
  rw [Bool.and_eq_true, decide_eq_true_iff, decide_eq_true_iff, h2]
  exact ⟨by rw [List.length_cons]; omega, w2⟩
theorem turned_ringsT {t : Town} (ok : t.Ok) {r : List Int} (h : Ring t r) : turnAt r (leastI r) ∈ ringsT t := by
  have ne : r ≠ [] := fun e => by have := h.two ok; rw [e] at this; simp at this
  obtain ⟨xs, e⟩ := turnAt_head (leastI_mem ne)
  have h2 := h.turn (leastI r)
  rw [e] at h2 ⊢
  refine ring_ringsT ok h2 fun x hx => ?_
  have hm : x ∈ r := by rw [← turnAt_mem (x := leastI r), e]; exact List.mem_cons_of_mem _ hx
  have := leastI_le x hm
  have nd := h2.nd
  rw [List.nodup_cons] at nd
  have : leastI r ≠ x := fun e => nd.1 (e ▸ hx)
  omega
end K6
set_option maxRecDepth 100000
set_option maxHeartbeats 4000000
namespace K6
open PySem PySem.Spec PyProof.Rows L2 Evl DL
open PySem.W (dataLt)
theorem closed_at {t : Town} {h s : Int} (hs : s ∈ t.part h) (h2 : 1 < (t.part h).length) : ∃ W, Way t s W s ∧ W ≠ [] := by
  obtain ⟨y, hy, ne⟩ := other_of (part_nodup t h) h2 s
  obtain ⟨_, a1, a2⟩ := mem_part.mp hs
  obtain ⟨_, b1, b2⟩ := mem_part.mp hy
  obtain ⟨xs, hx⟩ := reach_way (reach_trans a2 b1)
  obtain ⟨ys, hy⟩ := reach_way (reach_trans b2 a1)
  refine ⟨xs ++ ys, way_app hx hy, fun e => ?_⟩
  have e1 : xs = [] := (List.append_eq_nil_iff.mp e).1
  subst e1
  exact ne hx.symm
theorem lring_ex {t : Town} (ok : t.Ok) {h : Int} (h2 : 1 < (t.part h).length) : ∃ r, LRing t (t.part h) r ∧ r ∈ ringsT t ∧ (∀ x ∈ r, x ∈ t.part h) ∧ ∀ s ∈ t.part h, ∀ W, Way t s W s → W ≠ [] → t.weight r ≤ wsum t W := by
  have ex : ∀ s : Int, ∃ q : QI, s ∈ t.part h → (∃ n, LW t s n [(0, [s])] [] q) ∧ Good t s q := fun s => by
    by_cases hs : s ∈ t.part h
    · obtain ⟨W, w, ne⟩ := closed_at hs h2
      obtain ⟨n, q, h1, g⟩ := lw_ex ok (mem_part.mp hs).1 w ne
      exact ⟨q, fun _ => ⟨⟨n, h1⟩, g⟩⟩
    · exact ⟨(0, []), fun z => absurd z hs⟩
  let g : Int → QI := fun s => (ex s).choose
  have hg : ∀ s, s ∈ t.part h → (∃ n, LW t s n [(0, [s])] [] (g s)) ∧ Good t s (g s) := fun s => (ex s).choose_spec
  have ne : (t.part h).map g ≠ [] := fun e => by
    have e2 := List.map_eq_nil_iff.mp e
    rw [e2] at h2
    exact absurd h2 (by decide)
  obtain ⟨m, hm, hl⟩ := q_least ne
  obtain ⟨s0, hs0, em⟩ := List.mem_map.mp hm
  obtain ⟨_, mid, e2, rg, e1, _⟩ := hg s0 hs0
  rw [em] at e2 e1
  have rg2 : Ring t m.2 := e2 ▸ rg
  have wt : t.weight (turnAt m.2 (leastI m.2)) = m.1 := by
    rw [weight_wsum, wsum_perm (turnAt_perm _ _), e1, e2]
  refine ⟨turnAt m.2 (leastI m.2), ⟨g, m, fun s hs => (hg s hs).1, hm, hl, by rw [e2]; simp, ?_, rfl⟩, turned_ringsT ok rg2, fun x hx => ?_, fun s hs W w hne => ?_⟩
  · have := rg2.len ok
    have := ok.n7
    omega
  · have hx2 : x ∈ m.2 := turnAt_mem.mp hx
    have hs2 : s0 ∈ m.2 := by rw [e2]; exact List.mem_cons_self
    obtain ⟨_, a1, a2⟩ := mem_part.mp hs0
    exact mem_part.mpr ⟨rg2.inn ok x hx2, reach_trans a1 (rg2.reach hs2 hx2), reach_trans (rg2.reach hx2 hs2) a2⟩
  · obtain ⟨_, _, _, _, _, hW⟩ := hg s hs
    have h1 := hW W w hne
    have h3 := q_weight (hl (g s) (List.mem_map.mpr ⟨s, hs, rfl⟩))
    rw [wt]
    omega
theorem spur_none {t : Town} {r : List Int} (h : t.spur r = none) : ∀ a b, (a, b) ∈ t.lanes → a ∈ r → b ∈ r := fun a b hl ha => by
  have := List.find?_eq_none.mp h (a, b) hl
  simp only [Bool.and_eq_true, decide_eq_true_iff, Bool.not_eq_true', decide_eq_false_iff_not, not_and, Decidable.not_not] at this
  exact this ha
theorem reach_in {t : Town} {r : List Int} (h : ∀ a b, (a, b) ∈ t.lanes → a ∈ r → b ∈ r) {s x : Int} (hs : s ∈ r) (hx : t.Reach s x) : x ∈ r := by
  induction hx with
  | refl => exact hs
  | step _ hl ih => exact h _ _ hl ih
theorem ring_spur {t : Town} (ok : t.Ok) {h : Int} (hb : t.bare (t.part h) = false) (h2 : 1 < (t.part h).length) {r : List Int} (rg : Ring t r) (sub : ∀ x ∈ r, x ∈ t.part h) (le : ∀ s ∈ t.part h, ∀ W, Way t s W s → W ≠ [] → t.weight r ≤ wsum t W) : t.spur r ≠ none := fun e => by
  have cl := spur_none e
  obtain ⟨s0, hs0⟩ : ∃ s0, s0 ∈ r := by
    obtain ⟨_, a, xs, rfl, _⟩ := rg
    exact ⟨a, List.mem_cons_self⟩
  have all : ∀ x ∈ t.part h, x ∈ r := fun x hx => by
    obtain ⟨_, a1, a2⟩ := mem_part.mp (sub s0 hs0)
    exact reach_in cl hs0 (reach_trans a2 (mem_part.mp hx).2.1)
  obtain ⟨a, ha, hna⟩ : ∃ a ∈ t.part h, (t.to a).length ≠ 1 := by
    apply Classical.byContradiction
    intro hno
    have : t.bare (t.part h) = true := by
      unfold Town.bare
      rw [Bool.and_eq_true, decide_eq_true_iff, List.all_eq_true]
      refine ⟨h2, fun x hx => ?_⟩
      rw [decide_eq_true_iff]
      exact Classical.byContradiction fun z => hno ⟨x, hx, z⟩
    rw [hb] at this
    cases this
  obtain ⟨xs, w, pm, rg2⟩ := rg.at (all a ha)
  have two := rg2.two ok
  cases xs with
  | nil => simp at two
  | cons b ys =>
    have hb1 : b ∈ t.to a := Town.mem_to.mpr w.1
    have hl : 1 < (t.to a).length := by
      have := List.length_pos_of_mem hb1
      omega
    obtain ⟨c, hc, hcb⟩ := other_of (to_nodup ok a) hl b
    have hc := Town.mem_to.mp hc
    have hcr : c ∈ a :: b :: ys := pm.mem_iff.mpr (cl a c hc (all a ha))
    have hca : c ≠ a := fun e => (lane_inn ok hc).2.2 e.symm
    have hcy : c ∈ ys := ((List.mem_cons.mp hcr).resolve_left hca |> List.mem_cons.mp).resolve_left hcb
    obtain ⟨l1, l2, rfl⟩ := List.append_of_mem hcy
    have w2 : Way t b (l1 ++ c :: (l2 ++ [a])) a := by
      have this : Way t b ((l1 ++ c :: l2) ++ [a]) a := w.2
      rw [List.append_assoc] at this
      exact this
    obtain ⟨_, w3⟩ := way_split w2
    have hle := le a ha (c :: (l2 ++ [a])) ⟨hc, w3⟩ (by simp)
    rw [weight_wsum, ← wsum_perm pm, wsum_cons, wsum_cons, wsum_app, wsum_cons, wsum_cons, wsum_turn, wsum_cons] at hle
    have inn := rg2.inn ok
    have p1 := (peg_bd ok (inn b (by simp))).1
    have p2 := wsum_nn ok (xs := l1) fun x hx => inn x (by simp [hx])
    omega
theorem sr_part {t : Town} (ok : t.Ok) {r : List Int} (hr : r ∈ srT t) : ∃ h : Int, t.part h ∈ t.spurred ∧ ∃ s ∈ t.part h, ∃ W, Way t s W s ∧ W ≠ [] ∧ wsum t W = t.weight r := by
  obtain ⟨h1, h2⟩ := List.mem_filter.mp hr
  have rg := ringsT_ring h1
  obtain ⟨⟨u, v⟩, hsp⟩ := Option.isSome_iff_exists.mp h2
  obtain ⟨s1, s2, s3⟩ := spur_mem hsp
  have inn := rg.inn ok
  have mem : ∀ x ∈ r, x ∈ t.part u := fun x hx => mem_part.mpr ⟨inn x hx, rg.reach s2 hx, rg.reach hx s2⟩
  obtain ⟨xs, w, pm, rg2⟩ := rg.at s2
  have two := rg2.two ok
  cases xs with
  | nil => simp at two
  | cons b ys =>
    have hbr : b ∈ r := pm.mem_iff.mp (by simp)
    have hbu : u ≠ b := (lane_inn ok w.1).2.2
    have l2 : 1 < (t.part u).length := two_of (mem u s2) (mem b hbr) hbu
    have l3 : 1 < (t.to u).length := two_of (Town.mem_to.mpr w.1) (Town.mem_to.mpr s1) fun e => s3 (e ▸ hbr)
    refine ⟨u, ?_, u, mem u s2, b :: ys ++ [u], w, by simp, ?_⟩
    · unfold Town.spurred
      refine List.mem_filter.mpr ⟨part_mem (inn u s2), ?_⟩
      have : t.bare (t.part u) = false := by
        unfold Town.bare
        rw [Bool.and_eq_false_iff]
        right
        rw [List.all_eq_false]
        exact ⟨u, mem u s2, by rw [decide_eq_true_iff]; omega⟩
      rw [this, decide_eq_true l2]; rfl
    · rw [wsum_turn, weight_wsum, wsum_perm pm]
end K6
set_option maxRecDepth 100000
set_option maxHeartbeats 4000000
namespace K6
open PySem PySem.Spec PyProof.Rows L2 Evl DL
/-! ### walking a list of ways, tool by tool -/
def cnt (ws : List (List Int)) (x : Int) : Nat := (ws.filter fun v => decide (lastI v = x)).length
theorem cnt_app (a b : List (List Int)) (x : Int) : cnt (a ++ b) x = cnt a x + cnt b x := by
  unfold cnt
  rw [List.filter_append, List.length_append]
theorem cnt_one (v : List Int) (x : Int) : cnt [v] x = if lastI v = x then 1 else 0 := by
  unfold cnt
  by_cases h : lastI v = x
  · rw [if_pos h, List.filter_cons_of_pos (by rw [decide_eq_true_iff]; exact h)]; rfl
  · rw [if_neg h, List.filter_cons_of_neg (by rw [decide_eq_true_iff]; exact h)]; rfl
theorem cnt_rep (v : List Int) (x : Int) : ∀ c, cnt (List.replicate c v) x = if lastI v = x then c else 0
  | 0 => by split <;> rfl
  | c + 1 => by
    rw [List.replicate_succ, ← List.singleton_append, cnt_app, cnt_one, cnt_rep v x c]
    split <;> omega
theorem load_cnt {ws : List (List Int)} (h : ∀ v ∈ ws, 1 < v.length) (x : Int) : loadW ws x = cnt ws x := by
  unfold loadW cnt
  congr 1
  exact List.filter_congr fun v hv => by rw [decide_eq_true (h v hv), Bool.true_and]
theorem load_app (a b : List (List Int)) (x : Int) : loadW (a ++ b) x = loadW a x + loadW b x := by
  unfold loadW
  rw [List.filter_append, List.length_append]
theorem load_sing {α : Type} (f : α → Int) (vs : List α) (x : Int) : loadW (vs.map fun v => [f v]) x = 0 := by
  unfold loadW
  rw [List.length_eq_zero_iff, List.filter_eq_nil_iff]
  intro v hv
  obtain ⟨a, _, rfl⟩ := List.mem_map.mp hv
  simp
theorem load_one (v : List Int) (x : Int) (h : lastI v ≠ x) : loadW [v] x = 0 := by
  unfold loadW
  rw [List.length_eq_zero_iff, List.filter_eq_nil_iff]
  intro u hu
  rw [List.mem_singleton.mp hu]
  simp [h]
structure WayOk (t : Town) (v : List Int) : Prop where
  ex : ∃ a ys b, v = a :: ys ∧ Way t a ys b
  lo : 3 ≤ v.length
  hi : v.length ≤ 10
inductive Fit (t : Town) : List (List Int) → List (List Int) → Prop
  | nil {done} : Fit t done []
  | cons {done v rest} : WayOk t v → (∀ x ∈ v.drop 1, (cnt done x : Int) < t.peg x) → Fit t (done ++ [v]) rest → Fit t done (v :: rest)
theorem Fit.app {t : Town} {done A B : List (List Int)} (h : Fit t done A) (h2 : Fit t (done ++ A) B) : Fit t done (A ++ B) := by
  induction h with
  | nil => rw [List.append_nil] at h2; exact h2
  | cons a b _ ih => exact .cons a b (ih (by rw [List.append_assoc]; exact h2))
theorem Fit.rep {t : Town} {v : List Int} (hv : WayOk t v) : ∀ (c : Nat) {done : List (List Int)}, (∀ x ∈ v.drop 1, if lastI v = x then (cnt done x : Int) + c ≤ t.peg x else (cnt done x : Int) < t.peg x) → Fit t done (List.replicate c v)
  | 0, done, _ => .nil
  | c + 1, done, h => by
    rw [List.replicate_succ]
    refine .cons hv (fun x hx => ?_) (Fit.rep hv c fun x hx => ?_)
    · have := h x hx
      split at this <;> omega
    · have := h x hx
      rw [cnt_app, cnt_one]
      split at this
      · rw [if_pos (by assumption), if_pos (by assumption)]
        push_cast at this ⊢
        omega
      · rw [if_neg (by assumption), if_neg (by assumption)]
        push_cast
        omega
def lendsF : Nat → List (List Int) → List (Int × Int)
  | _, [] => []
  | j, v :: vs => ((v.drop 1).map fun h => ((j : Int), h)) ++ lendsF (j + 1) vs
theorem lendsF_eq : ∀ (ws : List (List Int)) (j : Nat), ((List.range ws.length).flatMap fun k : Nat => ((ws.getD k []).drop 1).map fun h => (((k + j : Nat) : Int), h)) = lendsF j ws
  | [], j => rfl
  | v :: vs, j => by
    rw [List.length_cons, List.range_succ_eq_map, List.flatMap_cons, lendsF, ← lendsF_eq vs (j + 1), List.flatMap_map]
    congr 1
    · show ((v.drop 1).map fun h => (((0 + j : Nat) : Int), h)) = _
      rw [Nat.zero_add]
    · refine congrArg (fun f => List.flatMap f (List.range vs.length)) (funext fun k => ?_)
      show ((vs.getD k []).drop 1).map (fun h => (((k + 1 + j : Nat) : Int), h)) = _
      rw [show k + 1 + j = k + (j + 1) by omega]
theorem fillLends_eq (ws : List (List Int)) : fillLends ws = lendsF 0 ws := by
  rw [← lendsF_eq ws 0]; rfl
theorem fillLends_len : ∀ (ws : List (List Int)) (j : Nat), (∀ v ∈ ws, v.length ≤ 4) → (lendsF j ws).length ≤ 3 * ws.length
  | [], j, _ => by simp [lendsF]
  | v :: vs, j, h => by
    rw [lendsF, List.length_append, List.length_map, List.length_drop, List.length_cons]
    have := h v List.mem_cons_self
    have := fillLends_len vs (j + 1) fun u hu => h u (List.mem_cons_of_mem _ hu)
    omega
theorem getD_mid {α : Type} (a : List α) (x z : α) (b : List α) : (a ++ x :: b).getD a.length z = x := by
  rw [List.getD_eq_getElem?_getD, List.getElem?_append_right (Nat.le_refl _), Nat.sub_self]; rfl
theorem set_mid {α : Type} (a : List α) (x y : α) (b : List α) : (a ++ x :: b).set a.length y = a ++ y :: b := by
  rw [List.set_append_right _ _ (Nat.le_refl _), Nat.sub_self]; rfl
theorem move {t : Town} (ok : t.Ok) {done : List (List Int)} (hd : ∀ v ∈ done, 1 < v.length) {sing : List (List Int)} (hs : ∀ x, loadW sing x = 0) (hs1 : ∀ v ∈ sing, 0 < v.length) (hl : done.length + 1 + sing.length ≤ 200) {rest : List (Option (Int × Int))} {r : List (List Int)} :
    ∀ {suf pre : List Int} {c b : Int}, Way t c suf b → (∀ x ∈ suf, (cnt done x : Int) < t.peg x) → pre.length + 1 + suf.length ≤ 40 → Walks t (done ++ (pre ++ [c] ++ suf) :: sing) rest r → Walks t (done ++ (pre ++ [c]) :: sing) ((suf.map fun h => some ((done.length : Int), h)) ++ rest) r
  | [], pre, c, b, _, _, _, h => by rw [List.append_nil] at h; exact h
  | x :: suf, pre, c, b, w, hc, hn, h => by
    have h2 := move ok hd hs hs1 hl (pre := pre ++ [c]) w.2 (fun y hy => hc y (List.mem_cons_of_mem _ hy)) (by rw [List.length_append, List.length_singleton]; rw [List.length_cons] at hn; omega) (rest := rest) (r := r) (by rw [List.append_assoc (pre ++ [c])]; exact h)
    have nx : lastI (pre ++ [c]) ≠ x := by rw [lastI_app]; exact (lane_inn ok w.1).2.2
    refine .cons (ws' := done ++ (pre ++ [c] ++ [x]) :: sing) ⟨fun v hv => ?_, ?_, done.length, rfl, ?_, ?_, ?_, ?_, ?_⟩ h2
    · rcases List.mem_append.mp hv with hv | hv
      · have := hd v hv; omega
      · rcases List.mem_cons.mp hv with e | hv
        · rw [e]; simp
        · exact hs1 v hv
    · rw [List.length_append, List.length_cons]; omega
    · rw [List.length_append, List.length_cons]; omega
    · rw [getD_mid, lastI_app]; exact w.1
    · rw [load_app, ← List.singleton_append, load_app, load_one _ _ nx, hs, load_cnt hd]
      have := hc x List.mem_cons_self
      push_cast
      omega
    · rw [getD_mid, List.length_append, List.length_singleton]
      rw [List.length_cons] at hn
      omega
    · rw [getD_mid, set_mid]
theorem fit_walks {t : Town} (ok : t.Ok) {done todo : List (List Int)} (h : Fit t done todo) {rest : List (Option (Int × Int))} {r : List (List Int)} : (∀ v ∈ done, 1 < v.length) → done.length + todo.length ≤ 200 → Walks t (done ++ todo) rest r → Walks t (done ++ todo.map fun v => [v.getD 0 default]) ((lendsF done.length todo).map some ++ rest) r := by
  induction h with
  | nil => intro _ _ h; exact h
  | @cons done v vs hv hc _ ih =>
    intro hd hl hw
    rw [List.length_cons] at hl
    obtain ⟨a, ys, b, rfl, w⟩ := hv.ex
    have hi := hv.hi
    have lo := hv.lo
    have h1 := ih (fun u hu => by
      rcases List.mem_append.mp hu with hu | hu
      · exact hd u hu
      · rw [List.mem_singleton.mp hu]; omega) (by rw [List.length_append, List.length_singleton]; omega) (by rw [List.append_assoc]; exact hw)
    rw [List.length_append, List.length_singleton] at h1
    rw [lendsF, List.map_append, List.append_assoc, List.map_map]
    have h2 : Walks t (done ++ ([] ++ [a] ++ ys) :: (vs.map fun v => [v.getD 0 default])) ((lendsF (done.length + 1) vs).map some ++ rest) r := by
      have e : done ++ [a :: ys] ++ (vs.map fun v => [v.getD 0 default]) = done ++ ([] ++ [a] ++ ys) :: (vs.map fun v => [v.getD 0 default]) := by rw [List.append_assoc]; rfl
      rw [← e]; exact h1
    rw [List.length_cons] at hi lo
    exact move ok hd (load_sing _ vs) (fun u hu => by obtain ⟨z, _, rfl⟩ := List.mem_map.mp hu; simp) (by rw [List.length_map]; omega) w hc (by rw [List.length_nil]; omega) h2
end K6
set_option maxRecDepth 100000
set_option maxHeartbeats 4000000
namespace K6
open PySem PySem.Spec PyProof.Rows L2 Evl DL
/-! ### the houses of a ring by number -/
theorem way_get {t : Town} {b : Int} : ∀ {ys : List Int} {a : Int}, Way t a ys b → ∀ k, k < ys.length → ((a :: ys).getD k default, ys.getD k default) ∈ t.lanes
  | y :: ys, a, w, 0, _ => w.1
  | y :: ys, a, w, k + 1, h => way_get (ys := ys) w.2 k (by rw [List.length_cons] at h; omega)
section
variable {t : Town} {R : List Int}
theorem getD_app_l {α : Type} {xs ys : List α} {k : Nat} (z : α) (h : k < xs.length) : (xs ++ ys).getD k z = xs.getD k z := by
  rw [List.getD_eq_getElem?_getD, List.getD_eq_getElem?_getD, List.getElem?_append_left h]
theorem rA_nat {i : Nat} (h : i < R.length) : ringAt R (i : Int) = R.getD i default := by
  unfold ringAt
  rw [Int.emod_eq_of_lt (by omega) (by omega)]; rfl
theorem rA_neg1 (h : 2 ≤ R.length) : ringAt R (0 - 1) = ringAt R ((R.length : Int) - 1) := by
  unfold ringAt
  rw [show (0 - 1 : Int) % (R.length : Int) = ((R.length : Int) - 1) % (R.length : Int) by
    rw [show ((R.length : Int) - 1) = (0 - 1) + R.length by omega, Int.add_emod_right]]
theorem rA_mem (h : 2 ≤ R.length) (j : Int) : ringAt R j ∈ R := by
  unfold ringAt
  have h1 := Int.emod_nonneg j (show (R.length : Int) ≠ 0 by omega)
  have h2 := Int.emod_lt_of_pos j (show (0 : Int) < R.length by omega)
  have hl : (j % (R.length : Int)).toNat < R.length := by omega
  rw [List.getD_eq_getElem?_getD, List.getElem?_eq_getElem hl]; exact List.getElem_mem hl
theorem rA_inj (nd : R.Nodup) {i k : Int} (hi : 0 ≤ i ∧ i < R.length) (hk : 0 ≤ k ∧ k < R.length) (e : ringAt R i = ringAt R k) : i = k := by
  have h1 : ringAt R i = R.getD i.toNat default := by rw [← rA_nat (i := i.toNat) (by omega)]; congr 1; omega
  have h2 : ringAt R k = R.getD k.toNat default := by rw [← rA_nat (i := k.toNat) (by omega)]; congr 1; omega
  rw [h1, h2] at e
  have := getD_inj nd default (show i.toNat < R.length by omega) (show k.toNat < R.length by omega) e
  omega
theorem rA_lane (ok : t.Ok) (rg : Ring t R) (j : Int) : (ringAt R (j - 1), ringAt R j) ∈ t.lanes := by
  have two := rg.two ok
  obtain ⟨nd, a, xs, e, w⟩ := rg
  have g := way_get w
  have step : ∀ k, k + 1 < R.length → (R.getD k default, R.getD (k + 1) default) ∈ t.lanes := fun k hk => by
    have hx : k < xs.length := by rw [e, List.length_cons] at hk; omega
    have := g k (by rw [List.length_append]; simp; omega)
    rw [← List.cons_append, getD_app_l _ (by rw [List.length_cons]; omega), getD_app_l _ hx] at this
    rw [e]; exact this
  have last : (R.getD (R.length - 1) default, R.getD 0 default) ∈ t.lanes := by
    have hx : R.length - 1 = xs.length := by rw [e, List.length_cons]; omega
    have := g xs.length (by rw [List.length_append]; simp)
    rw [← List.cons_append, getD_app_l _ (by rw [List.length_cons]; omega), getD_mid] at this
    rw [hx, e]; exact this
  have h1 := Int.emod_nonneg j (show (R.length : Int) ≠ 0 by omega)
  have h2 := Int.emod_lt_of_pos j (show (0 : Int) < R.length by omega)
  have em : (j - 1) % (R.length : Int) = (j % (R.length : Int) - 1) % (R.length : Int) := (Int.emod_sub_emod j R.length 1).symm
  show (R.getD ((j - 1) % (R.length : Int)).toNat default, R.getD (j % (R.length : Int)).toNat default) ∈ t.lanes
  rw [em]
  generalize j % (R.length : Int) = i at h1 h2
  by_cases h0 : i = 0
  · subst h0
    rw [show (0 - 1 : Int) % (R.length : Int) = (R.length : Int) - 1 by
      rw [← Int.add_emod_right, Int.emod_eq_of_lt (by omega) (by omega)]; omega]
    rw [show ((R.length : Int) - 1).toNat = R.length - 1 by omega]
    exact last
  · rw [Int.emod_eq_of_lt (by omega) (by omega)]
    have := step (i - 1).toNat (by omega)
    rw [show (i - 1).toNat + 1 = i.toNat by omega] at this
    exact this
theorem seat_ok (ok : t.Ok) (rg : Ring t R) (j : Int) : WayOk t (seatWay R j) := by
  have h1 := rA_lane ok rg j
  have h2 := rA_lane ok rg (j - 1)
  rw [show j - 1 - 1 = j - 2 by omega] at h2
  exact ⟨⟨_, [ringAt R (j - 1), ringAt R j], ringAt R j, rfl, h2, h1, rfl⟩, by show 3 ≤ 3; decide, by show 3 ≤ 10; decide⟩
theorem seat_last (j : Int) : lastI (seatWay R j) = ringAt R j := rfl
/-- the ways of the houses from the last one down -/
def seqW (t : Town) (R : List Int) (K : Nat) : List (List Int) := (List.range K).flatMap fun k : Nat => List.replicate (t.peg (ringAt R ((R.length : Int) - 1 - k))).toNat (seatWay R ((R.length : Int) - 1 - k))
theorem seqW_succ (K : Nat) : seqW t R (K + 1) = seqW t R K ++ List.replicate (t.peg (ringAt R ((R.length : Int) - 1 - K))).toNat (seatWay R ((R.length : Int) - 1 - K)) := by
  unfold seqW
  rw [List.range_succ, List.flatMap_append, List.flatMap_singleton]
theorem cnt_seq (nd : R.Nodup) {i : Int} (hi : 0 ≤ i ∧ i < R.length) : ∀ K : Nat, K < R.length → cnt (seqW t R K) (ringAt R i) = if (R.length : Int) - 1 - K < i then (t.peg (ringAt R i)).toNat else 0
  | 0, _ => by rw [if_neg (by omega)]; rfl
  | K + 1, hK => by
    rw [seqW_succ, cnt_app, cnt_rep, cnt_seq nd hi K (by omega), seat_last]
    by_cases h : (R.length : Int) - 1 - K = i
    · rw [h, if_neg (by omega), if_pos rfl, if_pos (by push_cast; omega)]; omega
    · rw [if_neg fun e => h (rA_inj nd ⟨by omega, by omega⟩ hi e)]
      by_cases h2 : (R.length : Int) - 1 - K < i
      · rw [if_pos h2, if_pos (by push_cast; omega)]; omega
      · rw [if_neg h2, if_neg (by push_cast; omega)]
def headW (t : Town) (R : List Int) (sh : Int) : List (List Int) := (seatWay R 0 ++ [sh]) :: List.replicate (t.peg (ringAt R 0) - 1).toNat (seatWay R 0)
theorem fillWays_eq (sh : Int) : fillWays t R sh = headW t R sh ++ seqW t R (R.length - 1) := rfl
theorem last_sh (sh : Int) : lastI (seatWay R 0 ++ [sh]) = sh := lastI_app _ _
theorem cnt_head {sh x : Int} (hx : x ∈ R) (hs : sh ∉ R) : cnt (headW t R sh) x = if ringAt R 0 = x then (t.peg (ringAt R 0) - 1).toNat else 0 := by
  unfold headW
  rw [← List.singleton_append, cnt_app, cnt_one, last_sh, if_neg (fun e : sh = x => hs (by rw [e]; exact hx)), cnt_rep, seat_last]
  omega
theorem fit_head (ok : t.Ok) (rg : Ring t R) {sh : Int} (hs : sh ∉ R) (hl : (ringAt R 0, sh) ∈ t.lanes) : Fit t [] (headW t R sh) := by
  have two := rg.two ok
  have inn := rg.inn ok
  have hsi := (lane_inn ok hl).2.1
  have c0 : ∀ x, cnt [] x = 0 := fun x => rfl
  obtain ⟨⟨a, ys, b, e, w⟩, lo, hi⟩ := seat_ok ok rg 0
  have h1 := rA_lane ok rg 0
  have h2 := rA_lane ok rg (0 - 1)
  rw [show (0 : Int) - 1 - 1 = 0 - 2 by omega] at h2
  refine .cons ⟨⟨ringAt R (0 - 2), [ringAt R (0 - 1), ringAt R 0, sh], sh, rfl, h2, h1, hl, rfl⟩, by show 3 ≤ 4; decide, by show 4 ≤ 10; decide⟩ (fun x hx => ?_) (Fit.rep (seat_ok ok rg 0) _ fun x hx => ?_)
  · rw [c0]
    have hx : x = ringAt R (0 - 1) ∨ x = ringAt R 0 ∨ x = sh := by simpa [seatWay] using hx
    have : 0 ≤ x ∧ x < t.n := by
      rcases hx with e | e | e
      · exact e ▸ inn _ (rA_mem two _)
      · exact e ▸ inn _ (rA_mem two _)
      · exact e ▸ hsi
    have := (peg_bd ok this).1
    push_cast
    omega
  · have hx : x = ringAt R (0 - 1) ∨ x = ringAt R 0 := by simpa [seatWay] using hx
    have hxm : x ∈ R := by
      rcases hx with e | e
      · exact e ▸ rA_mem two _
      · exact e ▸ rA_mem two _
    have hp := (peg_bd ok (inn x hxm)).1
    have hc : cnt ([] ++ [seatWay R 0 ++ [sh]]) x = 0 := by
      rw [List.nil_append, cnt_one, last_sh, if_neg fun e : sh = x => hs (by rw [e]; exact hxm)]
    rw [hc, seat_last]
    split
    · rename_i e
      rw [← e] at hp ⊢
      push_cast
      omega
    · push_cast
      omega
theorem fit_seq (ok : t.Ok) (rg : Ring t R) {sh : Int} (hs : sh ∉ R) (hl : (ringAt R 0, sh) ∈ t.lanes) : ∀ K : Nat, K < R.length → Fit t [] (headW t R sh ++ seqW t R K)
  | 0, _ => by
    have : seqW t R 0 = [] := rfl
    rw [this, List.append_nil]; exact fit_head ok rg hs hl
  | K + 1, hK => by
    have two := rg.two ok
    have inn := rg.inn ok
    rw [seqW_succ, ← List.append_assoc]
    refine Fit.app (fit_seq ok rg hs hl K (by omega)) (Fit.rep (seat_ok ok rg _) _ fun x hx => ?_)
    rw [List.nil_append]
    have hx : x = ringAt R ((R.length : Int) - 1 - K - 1) ∨ x = ringAt R ((R.length : Int) - 1 - K) := by simpa [seatWay] using hx
    obtain ⟨i, hi, e, hle⟩ : ∃ i : Int, (0 ≤ i ∧ i < R.length) ∧ x = ringAt R i ∧ i ≤ (R.length : Int) - 1 - K ∧ (i = (R.length : Int) - 1 - K ∨ i = (R.length : Int) - 1 - K - 1) := by
      rcases hx with e | e
      · exact ⟨_, ⟨by omega, by omega⟩, e, by omega, .inr rfl⟩
      · exact ⟨_, ⟨by omega, by omega⟩, e, by omega, .inl rfl⟩
    have hp := (peg_bd ok (inn _ (rA_mem two i))).1
    rw [cnt_app, seat_last, e, cnt_head (rA_mem two i) hs, cnt_seq rg.nd hi K (by omega), if_neg (by omega : ¬ (R.length : Int) - 1 - K < i)]
    rcases hle.2 with e2 | e2
    · rw [← e2, if_pos rfl, if_neg (fun z => by have := rA_inj rg.nd ⟨by omega, by omega⟩ hi z; omega)]
      push_cast
      omega
    · rw [if_neg (fun z => by have := rA_inj rg.nd ⟨by omega, by omega⟩ hi z; omega)]
      split
      · rename_i e3
        rw [e3]
        push_cast
        omega
      · push_cast
        omega
theorem seq_len (hp : ∀ x ∈ R, 1 ≤ t.peg x) (two : 2 ≤ R.length) : ∀ K : Nat, K < R.length → ((seqW t R K).length : Int) = wsum t (R.drop (R.length - K))
  | 0, _ => by rw [Nat.sub_zero, List.drop_length]; rfl
  | K + 1, hK => by
    have hk : R.length - (K + 1) < R.length := by omega
    rw [seqW_succ, List.length_append, List.length_replicate, List.drop_eq_getElem_cons hk, wsum_cons, show R.length - (K + 1) + 1 = R.length - K by omega, ← seq_len hp two K (by omega)]
    have e : ringAt R ((R.length : Int) - 1 - K) = R[R.length - (K + 1)] := by
      rw [show (R.length : Int) - 1 - K = ((R.length - (K + 1) : Nat) : Int) by omega, rA_nat hk, List.getD_eq_getElem?_getD, List.getElem?_eq_getElem hk]; rfl
    have := hp _ (rA_mem two ((R.length : Int) - 1 - K))
    rw [e] at this ⊢
    push_cast
    omega
theorem fill_len (ok : t.Ok) (rg : Ring t R) (sh : Int) : ((fillWays t R sh).length : Int) = t.weight R := by
  have two := rg.two ok
  have hp : ∀ x ∈ R, 1 ≤ t.peg x := fun x hx => (peg_bd ok (rg.inn ok x hx)).1
  rw [fillWays_eq, List.length_append, weight_wsum]
  have h1 := seq_len hp two (R.length - 1) (by omega)
  have e : wsum t R = t.peg (ringAt R 0) + wsum t (R.drop (R.length - (R.length - 1))) := by
    have h0 : 0 < R.length := by omega
    rw [show R.length - (R.length - 1) = 0 + 1 by omega]
    conv => lhs; rw [← List.drop_zero (l := R), List.drop_eq_getElem_cons h0]
    rw [wsum_cons]
    have e : ringAt R 0 = R[0] := by
      have := rA_nat (i := 0) h0
      rw [List.getD_eq_getElem?_getD, List.getElem?_eq_getElem h0] at this
      exact this
    rw [e]
  have := hp _ (rA_mem two 0)
  unfold headW
  rw [List.length_cons, List.length_replicate, e, ← h1]
  push_cast
  omega
end
end K6
set_option maxRecDepth 100000
set_option maxHeartbeats 4000000
namespace K6
open PySem PySem.Spec PyProof.Rows L2 Evl DL
open PySem.W (dataLt)
theorem fills {t : Town} (ok : t.Ok) {r : List Int} (rg0 : Ring t r) {sp : Int × Int} (hsp : t.spur r = some sp) (hw : t.weight r ≤ 20) : Fills t (t.weight r, r) sp ∧ (fillWays t (turnAt r sp.1) sp.2).length ≤ 100 := by
  obtain ⟨u, sh⟩ := sp
  obtain ⟨s1, s2, s3⟩ := spur_mem hsp
  have mem : ∀ x, x ∈ turnAt r u ↔ x ∈ r := fun x => turnAt_mem
  obtain ⟨xs, eh⟩ := turnAt_head s2
  have rg := rg0.turn u
  have wt : t.weight (turnAt r u) = t.weight r := by rw [weight_wsum, weight_wsum, wsum_perm (turnAt_perm _ _)]
  have hs : sh ∉ turnAt r u := fun e => s3 ((mem _).mp e)
  have two := rg.two ok
  have r0 : ringAt (turnAt r u) 0 = u := by
    have := rA_nat (R := turnAt r u) (i := 0) (by omega)
    rw [eh] at this ⊢
    exact this
  have fl := fill_len ok rg sh
  rw [wt] at fl
  have rn := rg0.inn ok
  show Fills t (t.weight r, r) (u, sh) ∧ (fillWays t (turnAt r u) sh).length ≤ 100
  have hl : (ringAt (turnAt r u) 0, sh) ∈ t.lanes := by rw [r0]; exact s1
  have goal2 : ∀ R : List Int, R = turnAt r u → Fills t (t.weight r, r) (u, sh) := fun R eR => by
    rw [← eR] at mem rg wt hs two r0 fl hl
    have inn := rg.inn ok
    have fit := fit_seq ok rg hs hl (R.length - 1) (by omega)
    rw [← fillWays_eq] at fit
    have cN : ∀ x ∈ R, (cnt (fillWays t R sh) x : Int) = if ringAt R 0 = x then t.peg x - 1 else t.peg x := fun x hx => by
      obtain ⟨i, hi, rfl⟩ : ∃ i : Int, (0 ≤ i ∧ i < R.length) ∧ x = ringAt R i := by
        obtain ⟨k, hk, e⟩ := List.getElem_of_mem hx
        exact ⟨(k : Int), ⟨by omega, by omega⟩, by rw [rA_nat hk, List.getD_eq_getElem?_getD, List.getElem?_eq_getElem hk]; exact e.symm⟩
      have hp := (peg_bd ok (inn _ hx)).1
      rw [fillWays_eq, cnt_app, cnt_head hx hs, cnt_seq rg.nd hi (R.length - 1) (by omega)]
      by_cases h0 : i = 0
      · subst h0
        rw [if_pos rfl, if_pos rfl, if_neg (by omega)]
        push_cast
        omega
      · rw [if_neg (fun z => h0 (rA_inj rg.nd ⟨by omega, by omega⟩ hi z).symm), if_neg (fun z => h0 (rA_inj rg.nd ⟨by omega, by omega⟩ hi z).symm), if_pos (by omega)]
        push_cast
        omega
    have fw : ∀ v ∈ fillWays t R sh, 3 ≤ v.length ∧ v.length ≤ 4 := fun v hv => fill_way_len v hv
    have eF : fillWays t R sh = (seatWay R 0 ++ [sh]) :: (List.replicate (t.peg (ringAt R 0) - 1).toNat (seatWay R 0) ++ seqW t R (R.length - 1)) := rfl
    have cT : ∀ x ∈ R, cnt (fillWays t R sh) x = cnt (List.replicate (t.peg (ringAt R 0) - 1).toNat (seatWay R 0) ++ seqW t R (R.length - 1)) x := fun x hx => by
      rw [eF, ← List.singleton_append, cnt_app, cnt_one, last_sh, if_neg fun e : sh = x => hs (by rw [e]; exact hx), Nat.zero_add]
    have seats : ∀ v ∈ List.replicate (t.peg (ringAt R 0) - 1).toNat (seatWay R 0) ++ seqW t R (R.length - 1), ∃ j, v = seatWay R j := fun v hv => by
      rcases List.mem_append.mp hv with hv | hv
      · exact ⟨0, (List.mem_replicate.mp hv).2⟩
      · obtain ⟨k, _, hv⟩ := List.mem_flatMap.mp hv
        exact ⟨_, (List.mem_replicate.mp hv).2⟩
    have lenF : (List.replicate (t.peg (ringAt R 0) - 1).toNat (seatWay R 0) ++ seqW t R (R.length - 1)).length + 1 = (fillWays t R sh).length := by rw [eF]; rfl
    have load1 : ∀ v ∈ fillWays t R sh, 1 < v.length := fun v hv => by have := fw v hv; omega
    have u0 := rA_mem two 0
    have p0 := (peg_bd ok (inn _ u0)).1
    refine ⟨⟨seatWay R 0 :: (List.replicate (t.peg (ringAt R 0) - 1).toNat (seatWay R 0) ++ seqW t R (R.length - 1)), ?_, ?_⟩, ?_, ?_, ?_⟩
    · show Walks t ((fillWays t (turnAt r u) sh).map _) ((fillLends (fillWays t (turnAt r u) sh)).map some ++ [none]) _
      rw [← eR, fillLends_eq]
      have := fit_walks ok fit (rest := [none]) (r := seatWay R 0 :: (List.replicate (t.peg (ringAt R 0) - 1).toNat (seatWay R 0) ++ seqW t R (R.length - 1))) (fun v hv => by cases hv) (by rw [List.length_nil]; omega) ?_
      · exact this
      · rw [List.nil_append]
        refine .cons ⟨fun v hv => by have := fw v hv; omega, by omega, ?_⟩ .nil
        show 0 < (fillWays t R sh).length ∧ _
        rw [load_cnt load1]
        have g0 : (fillWays t R sh).getD 0 [] = seatWay R 0 ++ [sh] := rfl
        rw [g0]
        show 0 < (fillWays t R sh).length ∧ 2 < 4 ∧ 4 ≤ 40 ∧ 0 ≤ ringAt R 0 ∧ ringAt R 0 < t.n ∧ (cnt (fillWays t R sh) (ringAt R 0) : Int) < t.peg (ringAt R 0) ∧ _
        rw [cN _ u0, if_pos rfl]
        refine ⟨by omega, by decide, by decide, (inn _ u0).1, (inn _ u0).2, by omega, ?_⟩
        rw [eF]
        rfl
    · show Stuck t _ r
      refine ⟨fun e => ?_, ?_, fun v hv => ?_, rn, fun h hh => ?_, fun h hh v hv h1 he => ?_⟩
      · rw [e] at s2; cases s2
      · rw [List.length_cons]; omega
      · rcases List.mem_cons.mp hv with e | hv
        · rw [e]; show 0 < 3; decide
        · obtain ⟨j, e⟩ := seats v hv
          rw [e]; show 0 < 3; decide
      · have hR := (mem h).mpr hh
        have c1 := cN h hR
        rw [cT h hR] at c1
        rw [load_cnt (fun v hv => ?_), ← List.singleton_append, cnt_app, cnt_one, seat_last]
        · split at c1
          · rw [if_pos (by assumption)]; push_cast; omega
          · rw [if_neg (by assumption)]; push_cast; omega
        · rcases List.mem_cons.mp hv with e | hv
          · rw [e]; show 1 < 3; decide
          · obtain ⟨j, e⟩ := seats v hv
            rw [e]; show 1 < 3; decide
      · have : ∃ j, v = seatWay R j := by
          rcases List.mem_cons.mp hv with e | hv
          · exact ⟨0, e⟩
          · exact seats v hv
        obtain ⟨j, e⟩ := this
        rw [e]
        exact ⟨by show 2 < 3; decide, (mem _).mp (rA_mem two (j - 1))⟩
    · show ((fillWays t (turnAt r u) sh).length : Int) = t.weight r
      rw [← eR]; exact fl
    · show ∀ v ∈ fillWays t (turnAt r u) sh, _
      rw [← eR]
      intro v hv
      have : ∃ j, v.getD 0 default = ringAt R j := by
        rw [eF] at hv
        rcases List.mem_cons.mp hv with e | hv
        · exact ⟨0 - 2, by rw [e]; rfl⟩
        · obtain ⟨j, e⟩ := seats v hv
          exact ⟨j - 2, by rw [e]; rfl⟩
      obtain ⟨j, e⟩ := this
      rw [e]
      exact inn _ (rA_mem two j)
    · show (fillLends (fillWays t (turnAt r u) sh)).length ≤ 199
      rw [← eR, fillLends_eq]
      have := fillLends_len (fillWays t R sh) 0 fun v hv => (fw v hv).2
      omega
  exact ⟨goal2 _ rfl, by omega⟩
/-- THE PLAIN LAW -/
theorem plain (t : Town) (ok : t.Ok) : LawT t := by
  have ex : ∀ p : List Int, ∃ r, p ∈ t.spurred → LRing t p r ∧ r ∈ srT t ∧ ∀ s ∈ p, ∀ W, Way t s W s → W ≠ [] → t.weight r ≤ wsum t W := fun p => by
    by_cases hp : p ∈ t.spurred
    · obtain ⟨h1, h2⟩ := List.mem_filter.mp hp
      obtain ⟨h, hh, rfl⟩ := parts_part h1
      rw [Bool.and_eq_true, decide_eq_true_iff, Bool.not_eq_true'] at h2
      obtain ⟨r, a1, a2, a3, a4⟩ := lring_ex ok h2.1
      have := ring_spur ok h2.2 h2.1 (ringsT_ring a2) a3 a4
      exact ⟨r, fun _ => ⟨a1, List.mem_filter.mpr ⟨a2, Option.isSome_iff_ne_none.mpr this⟩, a4⟩⟩
    · exact ⟨[], fun z => absurd z hp⟩
  let g : List Int → List Int := fun p => (ex p).choose
  have hg : ∀ p, p ∈ t.spurred → LRing t p (g p) ∧ g p ∈ srT t ∧ ∀ s ∈ p, ∀ W, Way t s W s → W ≠ [] → t.weight (g p) ≤ wsum t W := fun p => (ex p).choose_spec
  have one : srT t ≠ [] → t.spurred ≠ [] := fun h e => by
    obtain ⟨r, hr⟩ := List.exists_mem_of_ne_nil _ h
    obtain ⟨k, hk, _⟩ := sr_part ok hr
    rw [e] at hk
    cases hk
  refine ⟨⟨fun e => Classical.byContradiction fun z => one z e, fun e => Classical.byContradiction fun z => ?_⟩, fun h => ?_⟩
  · obtain ⟨p, hp⟩ := List.exists_mem_of_ne_nil _ z
    have := (hg p hp).2.1
    rw [e] at this
    cases this
  · have ne : t.spurred.map (fun p => (t.weight (g p), g p)) ≠ [] := fun e => one h (List.map_eq_nil_iff.mp e)
    obtain ⟨m, hm, hl⟩ := q_least ne
    obtain ⟨p0, hp0, em⟩ := List.mem_map.mp hm
    obtain ⟨_, hsr, _⟩ := hg p0 hp0
    subst em
    obtain ⟨h1, h2⟩ := List.mem_filter.mp hsr
    obtain ⟨sp, hsp⟩ := Option.isSome_iff_exists.mp h2
    have rg := ringsT_ring h1
    refine ⟨g, (t.weight (g p0), g p0), sp, ⟨fun p hp => ?_, hm, hl, rg.two ok, hsp, fun h20 => (fills ok rg hsp h20).2⟩, hsr, rfl, fun r hr => ?_, fun h20 => (fills ok rg hsp h20).1⟩
    · obtain ⟨a1, a2, _⟩ := hg p hp
      obtain ⟨_, b1, _, b2⟩ := ringsT_ok ok (List.mem_filter.mp a2).1
      exact ⟨a1, b1, by omega⟩
    · obtain ⟨k, hk, s, hs, W, w, wne, ew⟩ := sr_part ok hr
      have a := (hg _ hk).2.2 s hs W w wne
      have b := q_weight (hl (t.weight (g (t.part k)), g (t.part k)) (List.mem_map.mpr ⟨_, hk, rfl⟩))
      show t.weight (g p0) ≤ t.weight r
      have b : t.weight (g p0) ≤ t.weight (g (t.part k)) := b
      omega
end K6
open PySem PySem.W PyProof.Rows in
set_option maxRecDepth 100000 in
set_option maxHeartbeats 0 in
theorem PySem.Challenge.cw_pegstreet_k60_can_stick_whole_holds : PySem.Challenge.rw_pegstreet_k60_can_stick_whole.Holds := by
  w_on; o_law; k_head; (case hw => w_witness2)
  k_fill
  refine K6.walk (l := PySem.Challenge.rw_pegstreet_k60_can_stick_whole) rfl rfl (fun w h Y => PySem.W.kIn_of Y) ?F
  case F =>
    intro w mg fa h KX G hmg
    refine' K6.all_mk K6.plain KX G hmg ?a0 ?l0 ?c0 ?k0 ?aC ?aS (K6.sx_mk ?pgC ?hdC ?poC ?saC ?nC1 ?nC2 ?nC3 ?nC4) (K6.kx_mk ?pgS ?hdS ?poS ?saS ?nS1 ?nS2 ?nS3 ?nS4 ?nS5) (K6.in_mk ?aiC ?iiC ?liC ?ciC ?kiC ?miC ?qiC) (K6.in_mk ?aiS ?iiS ?liS ?ciS ?kiS ?miS ?qiS) (K6.me_mk ?amL ?imL ?lmL ?cmL ?kmL) (K6.pr_mk ?apH ?gpH ?tpH ?rpH ?lpH ?cpH ?kpH) ?hp1 ?hp2 ?b_len ?b_int ?b_range ?b_min ?b_max ?b_sum ?b_all ?b_list ?b_tuple ?b_set ?b_sorted ?b_enumerate ?b_isinstance ?b_bool (K6.fn_mk KX G ?a_p_frozen ?l_p_frozen ?c_p_frozen ?k_p_frozen) (K6.fn_mk KX G ?a_p_is_number ?l_p_is_number ?c_p_is_number ?k_p_is_number) (K6.fn_mk KX G ?a_p_ascending ?l_p_ascending ?c_p_ascending ?k_p_ascending) (K6.fn_mk KX G ?a_p_check_pegs ?l_p_check_pegs ?c_p_check_pegs ?k_p_check_pegs) (K6.fn_mk KX G ?a_p_check_lanes ?l_p_check_lanes ?c_p_check_lanes ?k_p_check_lanes) (K6.fn_mk KX G ?a_p_houses_ahead ?l_p_houses_ahead ?c_p_houses_ahead ?k_p_houses_ahead) (K6.fn_mk KX G ?a_p_strong_parts ?l_p_strong_parts ?c_p_strong_parts ?k_p_strong_parts) (K6.fn_mk KX G ?a_p_ring_weight ?l_p_ring_weight ?c_p_ring_weight ?k_p_ring_weight) (K6.fn_mk KX G ?a_p_spur ?l_p_spur ?c_p_spur ?k_p_spur) (K6.fn_mk KX G ?a_p_is_bare ?l_p_is_bare ?c_p_is_bare ?k_p_is_bare) (K6.fn_mk KX G ?a_p_spurred_parts ?l_p_spurred_parts ?c_p_spurred_parts ?k_p_spurred_parts) (K6.fn_mk KX G ?a_p_lightest_walk ?l_p_lightest_walk ?c_p_lightest_walk ?k_p_lightest_walk) (K6.fn_mk KX G ?a_p_lightest_ring ?l_p_lightest_ring ?c_p_lightest_ring ?k_p_lightest_ring) (K6.fn_mk KX G ?a_p_can_stick ?l_p_can_stick ?c_p_can_stick ?k_p_can_stick) (K6.fn_mk KX G ?a_p_turned_to ?l_p_turned_to ?c_p_turned_to ?k_p_turned_to) (K6.fn_mk KX G ?a_p_seat_way ?l_p_seat_way ?c_p_seat_way ?k_p_seat_way) (K6.fn_mk KX G ?a_p_filling_ways ?l_p_filling_ways ?c_p_filling_ways ?k_p_filling_ways) (K6.fn_mk KX G ?a_p_filling_row ?l_p_filling_row ?c_p_filling_row ?k_p_filling_row) (K6.fn_mk KX G ?a_p_sticking ?l_p_sticking ?c_p_sticking ?k_p_sticking) (K6.fn_mk KX G ?a_l_cell ?l_l_cell ?c_l_cell ?k_l_cell) (K6.fn_mk KX G ?a_l_digits ?l_l_digits ?c_l_digits ?k_l_digits) (K6.fn_mk KX G ?a_l_lanes ?l_l_lanes ?c_l_lanes ?k_l_lanes) (K6.fn_mk KX G ?a_l_town ?l_l_town ?c_l_town ?k_l_town) (K6.fn_mk KX G ?a_l_twin ?l_l_twin ?c_l_twin ?k_l_twin) (K6.fn_mk KX G ?a_l_ahead ?l_l_ahead ?c_l_ahead ?k_l_ahead) (K6.fn_mk KX G ?a_l_opened ?l_l_opened ?c_l_opened ?k_l_opened) (K6.fn_mk KX G ?a_l_build ?l_l_build ?c_l_build ?k_l_build) (K6.fn_mk KX G ?a_l_rings ?l_l_rings ?c_l_rings ?k_l_rings) (K6.fn_mk KX G ?a_l_spur ?l_l_spur ?c_l_spur ?k_l_spur) (K6.fn_mk KX G ?a_l_weight ?l_l_weight ?c_l_weight ?k_l_weight) (K6.fn_mk KX G ?a_l_says ?l_l_says ?c_l_says ?k_l_says) (K6.fn_mk KX G ?a_l_whole ?l_l_whole ?c_l_whole ?k_l_whole) (K6.fn_mk KX G ?a_l_houses ?l_l_houses ?c_l_houses ?k_l_houses) (K6.fn_mk KX G ?a_l_load ?l_l_load ?c_l_load ?k_l_load) (K6.fn_mk KX G ?a_l_done ?l_l_done ?c_l_done ?k_l_done) (K6.fn_mk KX G ?a_l_walked ?l_l_walked ?c_l_walked ?k_l_walked) (K6.fn_mk KX G ?a_l_is_stuck ?l_l_is_stuck ?c_l_is_stuck ?k_l_is_stuck) (K6.fn_mk KX G ?a_l_told ?l_l_told ?c_l_told ?k_l_told)
    (case a0 => k_is)
    (case l0 => k_is)
    (case c0 => k_is)
    (case k0 => k_is)
    (case aC => k_is)
    (case aS => k_is)
    (case pgC => k_is)
    (case hdC => k_is)
    (case poC => k_is)
    (case saC => k_is)
    (case nC1 => k_is)
    (case nC2 => k_is)
    (case nC3 => k_is)
    (case nC4 => k_is)
    (case pgS => k_is)
    (case hdS => k_is)
    (case poS => k_is)
    (case saS => k_is)
    (case nS1 => k_is)
    (case nS2 => k_is)
    (case nS3 => k_is)
    (case nS4 => k_is)
    (case nS5 => k_is)
    (case aiC => k_is)
    (case iiC => k_is)
    (case liC => k_is)
    (case ciC => k_is)
    (case kiC => k_is)
    (case miC => k_is)
    (case qiC => k_is)
    (case aiS => k_is)
    (case iiS => k_is)
    (case liS => k_is)
    (case ciS => k_is)
    (case kiS => k_is)
    (case miS => k_is)
    (case qiS => k_is)
    (case amL => k_is)
    (case imL => k_is)
    (case lmL => k_is)
    (case cmL => k_is)
    (case kmL => k_is)
    (case apH => k_is)
    (case gpH => k_is)
    (case tpH => k_is)
    (case rpH => k_is)
    (case lpH => k_is)
    (case cpH => k_is)
    (case kpH => k_is)
    (case hp1 => k_is)
    (case hp2 => k_is)
    (case b_len => k_is)
    (case b_int => k_is)
    (case b_range => k_is)
    (case b_min => k_is)
    (case b_max => k_is)
    (case b_sum => k_is)
    (case b_all => k_is)
    (case b_list => k_is)
    (case b_tuple => k_is)
    (case b_set => k_is)
    (case b_sorted => k_is)
    (case b_enumerate => k_is)
    (case b_isinstance => k_is)
    (case b_bool => k_is)
    (case a_p_frozen => k_is)
    (case l_p_frozen => k_is)
    (case c_p_frozen => k_is)
    (case k_p_frozen => k_is)
    (case a_p_is_number => k_is)
    (case l_p_is_number => k_is)
    (case c_p_is_number => k_is)
    (case k_p_is_number => k_is)
    (case a_p_ascending => k_is)
    (case l_p_ascending => k_is)
    (case c_p_ascending => k_is)
    (case k_p_ascending => k_is)
    (case a_p_check_pegs => k_is)
    (case l_p_check_pegs => k_is)
    (case c_p_check_pegs => k_is)
    (case k_p_check_pegs => k_is)
    (case a_p_check_lanes => k_is)
    (case l_p_check_lanes => k_is)
    (case c_p_check_lanes => k_is)
    (case k_p_check_lanes => k_is)
    (case a_p_houses_ahead => k_is)
    (case l_p_houses_ahead => k_is)
    (case c_p_houses_ahead => k_is)
    (case k_p_houses_ahead => k_is)
    (case a_p_strong_parts => k_is)
    (case l_p_strong_parts => k_is)
    (case c_p_strong_parts => k_is)
    (case k_p_strong_parts => k_is)
    (case a_p_ring_weight => k_is)
    (case l_p_ring_weight => k_is)
    (case c_p_ring_weight => k_is)
    (case k_p_ring_weight => k_is)
    (case a_p_spur => k_is)
    (case l_p_spur => k_is)
    (case c_p_spur => k_is)
    (case k_p_spur => k_is)
    (case a_p_is_bare => k_is)
    (case l_p_is_bare => k_is)
    (case c_p_is_bare => k_is)
    (case k_p_is_bare => k_is)
    (case a_p_spurred_parts => k_is)
    (case l_p_spurred_parts => k_is)
    (case c_p_spurred_parts => k_is)
    (case k_p_spurred_parts => k_is)
    (case a_p_lightest_walk => k_is)
    (case l_p_lightest_walk => k_is)
    (case c_p_lightest_walk => k_is)
    (case k_p_lightest_walk => k_is)
    (case a_p_lightest_ring => k_is)
    (case l_p_lightest_ring => k_is)
    (case c_p_lightest_ring => k_is)
    (case k_p_lightest_ring => k_is)
    (case a_p_can_stick => k_is)
    (case l_p_can_stick => k_is)
    (case c_p_can_stick => k_is)
    (case k_p_can_stick => k_is)
    (case a_p_turned_to => k_is)
    (case l_p_turned_to => k_is)
    (case c_p_turned_to => k_is)
    (case k_p_turned_to => k_is)
    (case a_p_seat_way => k_is)
    (case l_p_seat_way => k_is)
    (case c_p_seat_way => k_is)
    (case k_p_seat_way => k_is)
    (case a_p_filling_ways => k_is)
    (case l_p_filling_ways => k_is)
    (case c_p_filling_ways => k_is)
    (case k_p_filling_ways => k_is)
    (case a_p_filling_row => k_is)
    (case l_p_filling_row => k_is)
    (case c_p_filling_row => k_is)
    (case k_p_filling_row => k_is)
    (case a_p_sticking => k_is)
    (case l_p_sticking => k_is)
    (case c_p_sticking => k_is)
    (case k_p_sticking => k_is)
    (case a_l_cell => k_is)
    (case l_l_cell => k_is)
    (case c_l_cell => k_is)
    (case k_l_cell => k_is)
    (case a_l_digits => k_is)
    (case l_l_digits => k_is)
    (case c_l_digits => k_is)
    (case k_l_digits => k_is)
    (case a_l_lanes => k_is)
    (case l_l_lanes => k_is)
    (case c_l_lanes => k_is)
    (case k_l_lanes => k_is)
    (case a_l_town => k_is)
    (case l_l_town => k_is)
    (case c_l_town => k_is)
    (case k_l_town => k_is)
    (case a_l_twin => k_is)
    (case l_l_twin => k_is)
    (case c_l_twin => k_is)
    (case k_l_twin => k_is)
    (case a_l_ahead => k_is)
    (case l_l_ahead => k_is)
    (case c_l_ahead => k_is)
    (case k_l_ahead => k_is)
    (case a_l_opened => k_is)
    (case l_l_opened => k_is)
    (case c_l_opened => k_is)
    (case k_l_opened => k_is)
    (case a_l_build => k_is)
    (case l_l_build => k_is)
    (case c_l_build => k_is)
    (case k_l_build => k_is)
    (case a_l_rings => k_is)
    (case l_l_rings => k_is)
    (case c_l_rings => k_is)
    (case k_l_rings => k_is)
    (case a_l_spur => k_is)
    (case l_l_spur => k_is)
    (case c_l_spur => k_is)
    (case k_l_spur => k_is)
    (case a_l_weight => k_is)
    (case l_l_weight => k_is)
    (case c_l_weight => k_is)
    (case k_l_weight => k_is)
    (case a_l_says => k_is)
    (case l_l_says => k_is)
    (case c_l_says => k_is)
    (case k_l_says => k_is)
    (case a_l_whole => k_is)
    (case l_l_whole => k_is)
    (case c_l_whole => k_is)
    (case k_l_whole => k_is)
    (case a_l_houses => k_is)
    (case l_l_houses => k_is)
    (case c_l_houses => k_is)
    (case k_l_houses => k_is)
    (case a_l_load => k_is)
    (case l_l_load => k_is)
    (case c_l_load => k_is)
    (case k_l_load => k_is)
    (case a_l_done => k_is)
    (case l_l_done => k_is)
    (case c_l_done => k_is)
    (case k_l_done => k_is)
    (case a_l_walked => k_is)
    (case l_l_walked => k_is)
    (case c_l_walked => k_is)
    (case k_l_walked => k_is)
    (case a_l_is_stuck => k_is)
    (case l_l_is_stuck => k_is)
    (case c_l_is_stuck => k_is)
    (case k_l_is_stuck => k_is)
    (case a_l_told => k_is)
    (case l_l_told => k_is)
    (case c_l_told => k_is)
    (case k_l_told => k_is)
#print axioms PySem.Challenge.cw_pegstreet_k60_can_stick_whole_holds
