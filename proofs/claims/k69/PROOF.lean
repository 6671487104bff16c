import PyProof.Rows.All
import Wide.All
import OpenK.AllK
import Wide.FinOn
import KE.KStateDown
import HandS.ForMost
import HandS.Walk
import HandS.Deep
import HandS.TupMul
import HandS.TupAny
import HandS.Defaults
import HandS.More
import HandS.IsInst
import HandS.Zip
import HandS.DictComp
import HandS.FStr
import HandS.Property
import HandS.Strs
import HandS.Style
import HandS.MethStar
import HandS.TryOnly
import KE.GoesEnum
import HandS.SetIn
import HandS.Head0
import HandS.Head1
import HandS.Head2
import HandS.HeadHook1
import HandS.HeadHook2
import HandS.HeadHook3
import HandS.HeadHook4
import HandS.HeadEnd
import PySem.Challenge.RW_whatturns_k69_chains_of_facts
set_option Elab.async false
set_option linter.all false
set_option maxRecDepth 100000
set_option maxHeartbeats 0
set_option autoImplicit false
namespace TL
open PySem PySem.Spec PyProof.Rows L2

inductive D where
  | non | bl (b : Bool) | int (i : Int) | str (x : Str) | tup (ds : List D) | lst (ds : List D) | klst (ds : List D) | xtup (ds : List D)
  | ob (C : Addr) (fs : List (Str × D)) | ref (n : Nat) | gl (a : Addr) | ty (n : String)

inductive O where
  | lst (ds : List D) | dct (kvs : List (Key × D)) | ins (C : Addr) (fs : List (Str × D)) | dead
abbrev DH := List O
abbrev DS := List (Option D)

/-- a world: where the mutable objects stand, what is frozen, the abstract heap -/
structure Wo where
  ρ : List Addr
  φ : Addr → Prop
  H : Hp
structure Wo.le (w w' : Wo) : Prop where
  ρ : ∃ r, w'.ρ = w.ρ ++ r
  φ : ∀ a, w.φ a → w'.φ a
  k : ∀ a, w.φ a → w'.H a = w.H a
theorem Wo.le.refl (w : Wo) : w.le w := ⟨⟨[], by simp⟩, fun _ h => h, fun _ _ => rfl⟩
theorem Wo.le.trans {a b c : Wo} (x : a.le b) (y : b.le c) : a.le c := by
  obtain ⟨r, e⟩ := x.ρ
  obtain ⟨r', e'⟩ := y.ρ
  exact ⟨⟨r ++ r', by rw [e', e, List.append_assoc]⟩, fun p h => y.φ p (x.φ p h), fun p h => (y.k p (x.φ p h)).trans (x.k p h)⟩
theorem Wo.le.at {w w' : Wo} (x : w.le w') {n : Nat} {a : Addr} (h : w.ρ[n]? = some a) : w'.ρ[n]? = some a := by
  obtain ⟨r, e⟩ := x.ρ
  rw [e, List.getElem?_append_left (List.getElem?_eq_some_iff.mp h).1]
  exact h
/-- what is read as a tuple, a list, whatever changes that is not frozen -/
def PT' (K : PySem.W.Frag) (w : Wo) (a : Addr) (vs : List V) : Prop := ∀ H', (∀ b, w.φ b → H' b = w.H b) → SqT K H' a vs
def PL' (K : PySem.W.Frag) (w : Wo) (a : Addr) (vs : List V) : Prop := ∀ H', (∀ b, w.φ b → H' b = w.H b) → SqL K H' a vs
theorem PT'.mono {K : PySem.W.Frag} {w w' : Wo} {a : Addr} {vs : List V} (h : PT' K w a vs) (l : w.le w') : PT' K w' a vs := fun H' e => h H' fun b hb => (e b (l.φ b hb)).trans (l.k b hb)
theorem PL'.mono {K : PySem.W.Frag} {w w' : Wo} {a : Addr} {vs : List V} (h : PL' K w a vs) (l : w.le w') : PL' K w' a vs := fun H' e => h H' fun b hb => (e b (l.φ b hb)).trans (l.k b hb)
theorem PT'.now {K : PySem.W.Frag} {w : Wo} {a : Addr} {vs : List V} (h : PT' K w a vs) : SqT K w.H a vs := h _ fun _ _ => rfl
theorem PL'.now {K : PySem.W.Frag} {w : Wo} {a : Addr} {vs : List V} (h : PL' K w a vs) : SqL K w.H a vs := h _ fun _ _ => rfl

mutual
inductive Rep (K : PySem.W.Frag) (w : Wo) : D → V → Prop
  | non : Rep K w .non .non
  | bl (b : Bool) : Rep K w (.bl b) (.bl b)
  | int (i : Int) : Rep K w (.int i) (.int i)
  | str (x : Str) : Rep K w (.str x) (.str x)
  | gl (a : Addr) : Rep K w (.gl a) (.ref a)
  | ty (n : String) : Rep K w (.ty n) (.ty n)
  | ref {n : Nat} {a : Addr} : w.ρ[n]? = some a → Rep K w (.ref n) (.ref a)
  | tup {a : Addr} {vs : List V} {ds : List D} : PT' K w a vs → Reps K w ds vs → Rep K w (.tup ds) (.ref a)
  | lst {a : Addr} {vs : List V} {ds : List D} : w.φ a → w.H a = some (.lst vs) → Reps K w ds vs → Rep K w (.lst ds) (.ref a)
  | klst {a : Addr} {vs : List V} {ds : List D} : PL' K w a vs → Reps K w ds vs → Rep K w (.klst ds) (.ref a)
  | xtup {a : Addr} {vs : List V} {ds : List D} {obj : Obj} : w.φ a → w.H a = some (.frz obj (.tup vs)) → obj.dict = none → Reps K w ds vs → Rep K w (.xtup ds) (.ref a)
  | ob {a C dx : Addr} {fv : List (Str × V)} {fs : List (Str × D)} : w.φ a → w.H a = some (.ins C dx fv) → FReps K w fs fv → Rep K w (.ob C fs) (.ref a)
inductive Reps (K : PySem.W.Frag) (w : Wo) : List D → List V → Prop
  | nil : Reps K w [] []
  | cons {d : D} {v : V} {ds : List D} {vs : List V} : Rep K w d v → Reps K w ds vs → Reps K w (d :: ds) (v :: vs)
inductive FReps (K : PySem.W.Frag) (w : Wo) : List (Str × D) → List (Str × V) → Prop
  | nil : FReps K w [] []
  | cons {x : Str} {d : D} {v : V} {ds : List (Str × D)} {vs : List (Str × V)} : Rep K w d v → FReps K w ds vs → FReps K w ((x, d) :: ds) ((x, v) :: vs)
end
section
variable {K : PySem.W.Frag} {w w' : Wo}
mutual
theorem Rep.mono {d : D} {v : V} (h : Rep K w d v) (l : w.le w') : Rep K w' d v := by
  cases h with
  | non => exact .non
  | bl b => exact .bl b
  | int i => exact .int i
  | str x => exact .str x
  | gl a => exact .gl a
  | ty n => exact .ty n
  | ref h => exact .ref (l.at h)
  | tup h r => exact .tup (h.mono l) (Reps.mono r l)
  | lst h e r => exact .lst (l.φ _ h) ((l.k _ h).trans e) (Reps.mono r l)
  | klst h r => exact .klst (h.mono l) (Reps.mono r l)
  | xtup h e z r => exact .xtup (l.φ _ h) ((l.k _ h).trans e) z (Reps.mono r l)
  | ob h e r => exact .ob (l.φ _ h) ((l.k _ h).trans e) (FReps.mono r l)
theorem Reps.mono {ds : List D} {vs : List V} (h : Reps K w ds vs) (l : w.le w') : Reps K w' ds vs := by
  cases h with
  | nil => exact .nil
  | cons a b => exact .cons (Rep.mono a l) (Reps.mono b l)
theorem FReps.mono {ds : List (Str × D)} {vs : List (Str × V)} (h : FReps K w ds vs) (l : w.le w') : FReps K w' ds vs := by
  cases h with
  | nil => exact .nil
  | cons a b => exact .cons (Rep.mono a l) (FReps.mono b l)
end
def tupAt : D → Option (List D)
  | .tup ds => some ds
  | .xtup ds => some ds
  | _ => none
theorem Rep.tupR {d : D} {v : V} {ds : List D} (r : Rep K w d v) (e : tupAt d = some ds) : ∃ a vs, v = .ref a ∧ PT' K w a vs ∧ Reps K w ds vs := by
  cases r with
  | tup h r => cases e; exact ⟨_, _, rfl, h, r⟩
  | xtup h e0 z r => cases e; exact ⟨_, _, rfl, fun H' q => .inl (.inr ⟨_, by rw [q _ h]; exact e0⟩), r⟩
  | _ => cases e
theorem Reps.length : ∀ {ds : List D} {vs : List V}, Reps K w ds vs → ds.length = vs.length
  | _, _, .nil => rfl
  | _, _, .cons _ t => by simp [Reps.length t]
theorem Reps.get : ∀ {ds : List D} {vs : List V} {i : Nat} {d : D}, Reps K w ds vs → ds[i]? = some d → ∃ v, vs[i]? = some v ∧ Rep K w d v
  | _, _, _, _, .nil, e => by simp at e
  | _, _, 0, _, .cons r _, e => by simp at e; subst e; exact ⟨_, rfl, r⟩
  | _, _, i + 1, d, .cons _ t, e => by
    obtain ⟨u, h1, h2⟩ := Reps.get (i := i) (d := d) t (by simpa using e)
    exact ⟨u, by simpa using h1, h2⟩
theorem Reps.getV : ∀ {ds : List D} {vs : List V} {i : Nat} {v : V}, Reps K w ds vs → vs[i]? = some v → ∃ d, ds[i]? = some d ∧ Rep K w d v
  | _, _, _, _, .nil, e => by simp at e
  | _, _, 0, _, .cons r _, e => by simp at e; subst e; exact ⟨_, rfl, r⟩
  | _, _, i + 1, d, .cons _ t, e => by
    obtain ⟨u, h1, h2⟩ := Reps.getV (i := i) (v := d) t (by simpa using e)
    exact ⟨u, by simpa using h1, h2⟩
theorem Reps.append : ∀ {ds es : List D} {vs us : List V}, Reps K w ds vs → Reps K w es us → Reps K w (ds ++ es) (vs ++ us)
  | _, _, _, _, .nil, s => s
  | _, _, _, _, .cons r t, s => .cons r (Reps.append t s)
theorem Reps.take : ∀ {ds : List D} {vs : List V} (n : Nat), Reps K w ds vs → Reps K w (ds.take n) (vs.take n)
  | _, _, 0, _ => .nil
  | _, _, _ + 1, .nil => .nil
  | _, _, n + 1, .cons r t => .cons r (Reps.take n t)
theorem Reps.drop : ∀ {ds : List D} {vs : List V} (n : Nat), Reps K w ds vs → Reps K w (ds.drop n) (vs.drop n)
  | _, _, 0, r => r
  | _, _, _ + 1, .nil => .nil
  | _, _, n + 1, .cons _ t => Reps.drop n t
theorem Reps.set {d : D} {v : V} (r : Rep K w d v) : ∀ {ds : List D} {vs : List V} (i : Nat), Reps K w ds vs → Reps K w (ds.set i d) (vs.set i v)
  | _, _, _, .nil => .nil
  | _, _, 0, .cons _ t => .cons r t
  | _, _, i + 1, .cons q t => .cons q (Reps.set r i t)
theorem Reps.eraseIdx : ∀ {ds : List D} {vs : List V} (i : Nat), Reps K w ds vs → Reps K w (ds.eraseIdx i) (vs.eraseIdx i)
  | _, _, _, .nil => .nil
  | _, _, 0, .cons _ t => t
  | _, _, i + 1, .cons q t => .cons q (Reps.eraseIdx i t)
theorem Reps.reverse : ∀ {ds : List D} {vs : List V}, Reps K w ds vs → Reps K w ds.reverse vs.reverse
  | _, _, .nil => .nil
  | _, _, .cons r t => by
    rw [List.reverse_cons, List.reverse_cons]
    exact (Reps.reverse t).append (.cons r .nil)
theorem Reps.rep : ∀ {ds : List D} {vs : List V} (n : Nat), Reps K w ds vs → Reps K w (List.replicate n ds).flatten (List.replicate n vs).flatten
  | _, _, 0, _ => .nil
  | _, _, n + 1, r => by
    rw [List.replicate_succ, List.replicate_succ, List.flatten_cons, List.flatten_cons]
    exact r.append (Reps.rep n r)
theorem FReps.lookup : ∀ {fs : List (Str × D)} {fv : List (Str × V)} {x : Str} {d : D}, FReps K w fs fv → fs.lookup x = some d → ∃ v, fv.lookup x = some v ∧ Rep K w d v
  | _, _, _, _, .nil, e => by simp at e
  | _, _, x, d, .cons (x := y) r t, e => by
    rw [List.lookup_cons] at e ⊢
    cases q : x == y with
    | true => rw [q] at e; cases e; exact ⟨_, rfl, r⟩
    | false => rw [q] at e; exact FReps.lookup t e
theorem FReps.none : ∀ {fs : List (Str × D)} {fv : List (Str × V)} {x : Str}, FReps K w fs fv → fs.lookup x = none → fv.lookup x = none
  | _, _, _, .nil, e => rfl
  | _, _, x, .cons (x := y) r t, e => by
    rw [List.lookup_cons] at e ⊢
    cases q : x == y with
    | true => rw [q] at e; cases e
    | false => rw [q] at e; exact FReps.none t e
theorem FReps.length : ∀ {fs : List (Str × D)} {fv : List (Str × V)}, FReps K w fs fv → fs.length = fv.length
  | _, _, .nil => rfl
  | _, _, .cons _ t => by simp [FReps.length t]
/-- a field stored -/
def putD (f : Str) (d : D) : List (Str × D) → List (Str × D)
  | [] => [(f, d)]
  | (g, e) :: r => if g = f then (g, d) :: r else (g, e) :: putD f d r
theorem FReps.put {f : Str} {d : D} {v : V} (r : Rep K w d v) : ∀ {fs : List (Str × D)} {fv : List (Str × V)}, FReps K w fs fv → FReps K w (putD f d fs) (putF f v fv)
  | _, _, .nil => .cons r .nil
  | _, _, .cons (x := y) q t => by
    unfold putD putF
    by_cases e : y = f
    · rw [if_pos e, if_pos e]; exact .cons r t
    · rw [if_neg e, if_neg e]; exact .cons q (FReps.put r t)
end
/-- a dict's pairs -/
def KReps (K : PySem.W.Frag) (w : Wo) : List (Key × D) → List (Key × V) → Prop := Paired fun p q => p.1 = q.1 ∧ Rep K w p.2 q.2
def OAt (K : PySem.W.Frag) (w : Wo) : O → Addr → Prop
  | .lst ds, a => ∃ vs, w.H a = some (.lst vs) ∧ Reps K w ds vs
  | .dct kvs, a => ∃ kv', w.H a = some (.dK kv') ∧ KReps K w kvs kv'
  | .ins C fs, a => ∃ dx fv, w.H a = some (.ins C dx fv) ∧ FReps K w fs fv
  | .dead, a => ∃ o, w.H a = some o
structure HRel (K : PySem.W.Frag) (w : Wo) (h : DH) : Prop where
  len : w.ρ.length = h.length
  nd : w.ρ.Nodup
  nφ : ∀ a ∈ w.ρ, ¬ w.φ a
  tr : ∀ a, w.φ a → ∃ o, w.H a = some o
  ob : ∀ (i : Nat) (o : O) (a : Addr), h[i]? = some o → w.ρ[i]? = some a → OAt K w o a
structure SRel (K : PySem.W.Frag) (w : Wo) (σd : DS) (σv : L2.St) : Prop where
  len : σd.length = σv.length
  at_ : ∀ (i : Nat) (d : D), σd[i]? = some (some d) → ∃ v, σv[i]? = some (some v) ∧ Rep K w d v
section
variable {K : PySem.W.Frag} {w w' : Wo} {h : DH} {σd : DS} {σv : L2.St}
theorem KReps.mono {a : List (Key × D)} {b : List (Key × V)} (r : KReps K w a b) (l : w.le w') : KReps K w' a b := Paired.mapP r fun _ _ h => ⟨h.1, h.2.mono l⟩
theorem SRel.mono (s : SRel K w σd σv) (l : w.le w') : SRel K w' σd σv := ⟨s.len, fun i d e => let ⟨v, a, b⟩ := s.at_ i d e; ⟨v, a, b.mono l⟩⟩
theorem SRel.set (s : SRel K w σd σv) {d : D} {v : V} (r : Rep K w d v) (i : Nat) : SRel K w (σd.set i (some d)) (σv.set i (some v)) := by
  refine ⟨by simp [s.len], fun j e hj => ?_⟩
  by_cases q : j = i
  · subst q
    by_cases hl : j < σd.length
    · rw [List.getElem?_set_self hl] at hj
      cases hj
      exact ⟨v, by rw [List.getElem?_set_self (s.len ▸ hl)], r⟩
    · rw [List.getElem?_eq_none_iff.mpr (by simp; omega)] at hj
      cases hj
  · rw [List.getElem?_set_ne (Ne.symm q)] at hj ⊢
    exact s.at_ j e hj
theorem SRel.setN (s : SRel K w σd σv) (i : Nat) (ov : Option V) : SRel K w (σd.set i none) (σv.set i ov) := by
  refine ⟨by simp [s.len], fun j e hj => ?_⟩
  by_cases q : j = i
  · subst q
    by_cases hl : j < σd.length
    · rw [List.getElem?_set_self hl] at hj
      cases hj
    · rw [List.getElem?_eq_none_iff.mpr (by simp; omega)] at hj
      cases hj
  · rw [List.getElem?_set_ne (Ne.symm q)] at hj ⊢
    exact s.at_ j e hj
def wipeD (σ : DS) : List Nat → DS
  | [] => σ
  | v :: vs => (wipeD σ vs).set v none
theorem SRel.wipe (s : SRel K w σd σv) : ∀ vs, SRel K w (wipeD σd vs) (L2.wipe σv vs)
  | [] => s
  | v :: vs => (SRel.wipe s vs).setN v none
/-- objects of the heap stand as they stood where the abstract heap is as it was at their place -/
theorem OAt.mono {o : O} {a : Addr} (x : OAt K w o a) (l : w.le w') (e : w'.H a = w.H a) : OAt K w' o a := by
  cases o with
  | lst ds => obtain ⟨vs, p, r⟩ := x; exact ⟨vs, e.trans p, r.mono l⟩
  | dct kvs => obtain ⟨vs, p, r⟩ := x; exact ⟨vs, e.trans p, r.mono l⟩
  | ins C fs => obtain ⟨dx, fv, p, r⟩ := x; exact ⟨dx, fv, e.trans p, r.mono l⟩
  | dead => obtain ⟨o, p⟩ := x; exact ⟨o, e.trans p⟩
theorem OAt.tr {o : O} {a : Addr} (x : OAt K w o a) : ∃ u, w.H a = some u := by
  cases o with
  | lst ds => obtain ⟨vs, p, r⟩ := x; exact ⟨_, p⟩
  | dct kvs => obtain ⟨vs, p, r⟩ := x; exact ⟨_, p⟩
  | ins C fs => obtain ⟨dx, fv, p, r⟩ := x; exact ⟨_, p⟩
  | dead => exact x
theorem HRel.trk (r : HRel K w h) {a : Addr} (ha : a ∈ w.ρ) : ∃ u, w.H a = some u := by
  obtain ⟨i, hi⟩ := List.getElem?_of_mem ha
  have hl : i < h.length := r.len ▸ (List.getElem?_eq_some_iff.mp hi).1
  exact (r.ob i h[i] a (by simp [hl]) hi).tr
/-- a new frozen thing -/
def Wo.frz (w : Wo) (p : Addr) (o : HO) : Wo := ⟨w.ρ, fun a => w.φ a ∨ a = p, upd w.H p o⟩
theorem HRel.ne (r : HRel K w h) {p a : Addr} (hp : w.H p = none) (ha : w.φ a ∨ a ∈ w.ρ) : a ≠ p := by
  rintro rfl
  rcases ha with ha | ha
  · obtain ⟨o, e⟩ := r.tr a ha; rw [hp] at e; cases e
  · obtain ⟨o, e⟩ := r.trk ha; rw [hp] at e; cases e
theorem HRel.leF (r : HRel K w h) {p : Addr} {o : HO} (hp : w.H p = none) : w.le (w.frz p o) :=
  ⟨⟨[], by simp [Wo.frz]⟩, fun a ha => .inl ha, fun a ha => upd_ne (r.ne hp (.inl ha))⟩
theorem HRel.frz (r : HRel K w h) {p : Addr} {o : HO} (hp : w.H p = none) : HRel K (w.frz p o) h := by
  refine ⟨r.len, r.nd, fun a ha => ?_, fun a ha => ?_, fun i o' a hi ha => ?_⟩
  · rintro (q | q)
    · exact r.nφ a ha q
    · exact r.ne hp (.inr ha) q
  · rcases ha with q | q
    · rw [show (w.frz p o).H a = upd w.H p o a from rfl, upd_ne (r.ne hp (.inl q))]; exact r.tr a q
    · subst q; exact ⟨o, upd_same⟩
  · exact (r.ob i o' a hi ha).mono (r.leF hp) (upd_ne (r.ne hp (.inr (List.mem_of_getElem? ha))))
theorem Wo.frzT (w : Wo) (p : Addr) (vs : List V) : PT' K (w.frz p (.tup vs)) p vs := fun H' e => .inl (.inl (by rw [e p (.inr rfl)]; exact upd_same))
/-- a new mutable thing -/
def Wo.new (w : Wo) (p : Addr) (o : HO) : Wo := ⟨w.ρ ++ [p], w.φ, upd w.H p o⟩
theorem HRel.leN (r : HRel K w h) {p : Addr} {o : HO} (hp : w.H p = none) : w.le (w.new p o) :=
  ⟨⟨[p], rfl⟩, fun a ha => ha, fun a ha => upd_ne (r.ne hp (.inl ha))⟩
theorem HRel.new (r : HRel K w h) {p : Addr} {u : HO} {o : O} (hp : w.H p = none) (x : OAt K (w.new p u) o p) : HRel K (w.new p u) (h ++ [o]) := by
  have np : p ∉ w.ρ := fun q => r.ne hp (.inr q) rfl
  refine ⟨by simp [Wo.new, r.len], ?_, fun a ha => ?_, fun a ha => ?_, fun i o' a hi ha => ?_⟩
  · show (w.ρ ++ [p]).Nodup
    rw [List.nodup_append]
    refine ⟨r.nd, by simp, fun a ha b hb => ?_⟩
    simp at hb
    subst hb
    exact fun q => np (q ▸ ha)
  · intro q
    rcases List.mem_append.mp ha with z | z
    · exact r.nφ a z q
    · simp at z; subst z; exact r.ne hp (.inl q) rfl
  · rw [show (w.new p u).H a = upd w.H p u a from rfl, upd_ne (r.ne hp (.inl ha))]; exact r.tr a ha
  · have ha' : (w.ρ ++ [p])[i]? = some a := ha
    by_cases hl : i < h.length
    · rw [List.getElem?_append_left hl] at hi
      rw [List.getElem?_append_left (by rw [r.len]; exact hl)] at ha'
      exact (r.ob i o' a hi ha').mono (r.leN hp) (upd_ne (r.ne hp (.inr (List.mem_of_getElem? ha'))))
    · have e : i = h.length := by
        have := (List.getElem?_eq_some_iff.mp hi).1
        simp at this; omega
      subst e
      simp at hi
      subst hi
      rw [← r.len] at ha'
      simp at ha'
      subst ha'
      exact x
theorem nodupIx {N : List Addr} (hN : N.Nodup) {i j : Nat} {x : Addr} (a : N[i]? = some x) (b : N[j]? = some x) : i = j := by
  obtain ⟨h1, e1⟩ := List.getElem?_eq_some_iff.mp a
  obtain ⟨h2, e2⟩ := List.getElem?_eq_some_iff.mp b
  exact (List.getElem_inj hN).mp (e1.trans e2.symm)
/-- an object is changed -/
def Wo.put (w : Wo) (p : Addr) (o : HO) : Wo := ⟨w.ρ, w.φ, upd w.H p o⟩
theorem HRel.leP (r : HRel K w h) {p : Addr} {o : HO} (hp : p ∈ w.ρ) : w.le (w.put p o) :=
  ⟨⟨[], by simp [Wo.put]⟩, fun a ha => ha, fun a ha => upd_ne (fun (q : a = p) => r.nφ p hp (by rw [← q]; exact ha))⟩
theorem HRel.put (r : HRel K w h) {p : Addr} {u : HO} {o : O} {i : Nat} (hi : w.ρ[i]? = some p) (x : OAt K (w.put p u) o p) : HRel K (w.put p u) (h.set i o) := by
  have hp := List.mem_of_getElem? hi
  refine ⟨by simp [Wo.put, r.len], r.nd, r.nφ, fun a ha => ?_, fun j o' a hj ha => ?_⟩
  · rw [show (w.put p u).H a = upd w.H p u a from rfl, upd_ne (fun (q : a = p) => r.nφ p hp (by rw [← q]; exact ha))]; exact r.tr a ha
  · by_cases q : j = i
    · subst q
      have ha' : w.ρ[j]? = some a := ha
      rw [hi] at ha'; cases ha'
      have hl : j < h.length := r.len ▸ (List.getElem?_eq_some_iff.mp hi).1
      rw [List.getElem?_set_self hl] at hj
      cases hj
      exact x
    · rw [List.getElem?_set_ne (Ne.symm q)] at hj
      have ha' : w.ρ[j]? = some a := ha
      refine (r.ob j o' a hj ha').mono (r.leP hp) (upd_ne ?_)
      rintro rfl
      exact q (nodupIx r.nd ha' hi)
end
end TL

namespace TL
open PySem PySem.Spec PyProof.Rows L2
section
variable (X : Cx)
def tW (e : Expr) : TE := fun σ H Q => ∀ pins s, Inv X pins σ H s → wpAny (model X.prog X.w) X.A (eval e X.env) (EP X pins σ Q) X.xe s
def tWT (e : Expr) : TT := fun σ H Q => ∀ pins s, Inv X pins σ H s → wpAny (model X.prog X.w) X.A (isTrue e X.env (eval e X.env)) (TP X pins σ Q) X.xe s
def tWW (e : Expr) : TT := fun σ H Q => ∀ (whole : Sem Value) pins s, Inv X pins σ H s → wpAny (model X.prog X.w) X.A (isTrue e X.env whole) (TP X pins σ Q) X.xe s
def tWA (es : List Expr) : TA := fun σ H Q => ∀ pos pins s, Inv X pins σ H s → wpAny (model X.prog X.w) X.A (spliced (backTo pos (starEach es X.env))) (AP X pins σ Q) X.xe s
def tWS (st : Stmt) : TS := fun D σ H => ∀ pins s, Inv X pins σ H s → wpAny (model X.prog X.w) X.A (exec st X.env) (SP X pins D) X.xe s
def tWB (st : List Stmt) : TS := fun D σ H => ∀ pins s, Inv X pins σ H s → wpAny (model X.prog X.w) X.A (execs st X.env) (SP X pins D) X.xe s
def tWG (tg : Expr) : TG := fun v σ H Q => ∀ pins s u, Inv X pins σ H s → RelV v u → wpAny (model X.prog X.w) X.A (assign tg X.env u) (fun _ s' => ∃ σ' H', Inv X pins σ' H' s' ∧ Q σ' H') X.xe s
def tWGs (ts : List Expr) : TGs := fun vs σ H Q => ∀ pins s us, Inv X pins σ H s → Vals vs us → wpAny (model X.prog X.w) X.A (assignInOrder ((assignEach ts X.env).map (·.2)) us) (fun _ s' => ∃ σ' H', Inv X pins σ' H' s' ∧ Q σ' H') X.xe s
def tWI (tg iter : Expr) : TI := fun σ H R => ∀ pins s, Inv X pins σ H s → wpAny (model X.prog X.w) X.A (eval iter X.env) (fun v s1 => wpAny (model X.prog X.w) X.A (pyIter v) (PIE X pins σ tg R) X.xe s1) X.xe s
end
section
variable {X : Cx} {e : Expr} {es : List Expr} {st : Stmt} {sts : List Stmt}
theorem pe_w : PE X e (tW X e) := ⟨fun pins s σ H Q I h => h pins s I⟩
theorem pt_w : PT X e (tWT X e) := ⟨fun pins s σ H Q I h => h pins s I⟩
theorem pw_w : PW X e (tWW X e) := ⟨fun wh pins s σ H Q I h => h wh pins s I⟩
theorem pa_w : PA X es (tWA X es) := ⟨fun pos pins s σ H Q I h => h pos pins s I⟩
theorem ps_w : PS X st (tWS X st) := ⟨fun pins s σ H D I h => h pins s I⟩
theorem pb_w : PSs X sts (tWB X sts) := ⟨fun pins s σ H D I h => h pins s I⟩
theorem pg_w : PG X e (tWG X e) := ⟨fun pins s σ H v u Q I r h => h pins s u I r⟩
theorem pgs_w : PGs X es (tWGs X es) := ⟨fun pins s σ H vs us Q I r h => h pins s us I r⟩
theorem pi_w {tg iter : Expr} : PI X tg iter (tWI X tg iter) := ⟨fun pins s σ H R I h => h pins s I⟩
theorem wE {t : TE} (p : PE X e t) {σ : L2.St} {H : Hp} {Q : VK} (h : t σ H Q) : tW X e σ H Q := fun pins s I => p.run pins s σ H Q I h
theorem wT {t : TT} (p : PT X e t) {σ : L2.St} {H : Hp} {Q : Bool → Hp → Prop} (h : t σ H Q) : tWT X e σ H Q := fun pins s I => p.run pins s σ H Q I h
theorem wW {t : TT} (p : PW X e t) {σ : L2.St} {H : Hp} {Q : Bool → Hp → Prop} (h : t σ H Q) : tWW X e σ H Q := fun wh pins s I => p.run wh pins s σ H Q I h
theorem wA {t : TA} (p : PA X es t) {σ : L2.St} {H : Hp} {Q : List V → Hp → Prop} (h : t σ H Q) : tWA X es σ H Q := fun pos pins s I => p.run pos pins s σ H Q I h
theorem wS {t : TS} (p : PS X st t) {σ : L2.St} {H : Hp} {D : Ends} (h : t D σ H) : tWS X st D σ H := fun pins s I => p.run pins s σ H D I h
theorem wB {t : TS} (p : PSs X sts t) {σ : L2.St} {H : Hp} {D : Ends} (h : t D σ H) : tWB X sts D σ H := fun pins s I => p.run pins s σ H D I h
theorem wG {t : TG} (p : PG X e t) {v : V} {σ : L2.St} {H : Hp} {Q : L2.St → Hp → Prop} (h : t v σ H Q) : tWG X e v σ H Q := fun pins s u I r => p.run pins s σ H v u Q I r h
theorem wGs {t : TGs} (p : PGs X es t) {vs : List V} {σ : L2.St} {H : Hp} {Q : L2.St → Hp → Prop} (h : t vs σ H Q) : tWGs X es vs σ H Q := fun pins s us I r => p.run pins s σ H vs us Q I r h
theorem wI {t : TI} {tg iter : Expr} (p : PI X tg iter t) {σ : L2.St} {H : Hp} {R : It → Hp → Prop} (h : t σ H R) : tWI X tg iter σ H R := fun pins s I => p.run pins s σ H R I h
end

abbrev KD := D → DH → Prop
abbrev CE := DS → DH → KD → Prop
abbrev CT := DS → DH → (Bool → DH → Prop) → Prop
abbrev CA := DS → DH → (List D → DH → Prop) → Prop
structure DE where
  nx : DS → DH → Prop
  rt : KD
  bk : DS → DH → Prop := fun _ _ => False
  ct : DS → DH → Prop := fun _ _ => False
abbrev CS := DE → DS → DH → Prop
abbrev CG := D → DS → DH → (DS → DH → Prop) → Prop
abbrev CGs := List D → DS → DH → (DS → DH → Prop) → Prop
/-- a wish over trees, borne by a wish over values, from the world w on -/
def Bears (K : PySem.W.Frag) (w : Wo) (Qd : KD) (Q : VK) : Prop := ∀ w' h' d v, w.le w' → HRel K w' h' → Rep K w' d v → Qd d h' → Q v w'.H
def BearsT (K : PySem.W.Frag) (w : Wo) (Qd : Bool → DH → Prop) (Q : Bool → Hp → Prop) : Prop := ∀ w' h' b, w.le w' → HRel K w' h' → Qd b h' → Q b w'.H
def BearsA (K : PySem.W.Frag) (w : Wo) (Qd : List D → DH → Prop) (Q : List V → Hp → Prop) : Prop := ∀ w' h' ds vs, w.le w' → HRel K w' h' → Reps K w' ds vs → Qd ds h' → Q vs w'.H
def BearsS (K : PySem.W.Frag) (w : Wo) (Qd : DS → DH → Prop) (Q : L2.St → Hp → Prop) : Prop := ∀ w' h' σd σv, w.le w' → HRel K w' h' → SRel K w' σd σv → Qd σd h' → Q σv w'.H
structure BearsE (K : PySem.W.Frag) (w : Wo) (E : DE) (F : Ends) : Prop where
  nx : BearsS K w E.nx F.nx
  rt : Bears K w E.rt F.rt
  bk : BearsS K w E.bk F.bk
  ct : BearsS K w E.ct F.ct
section
variable {K : PySem.W.Frag} {w w' : Wo}
theorem Bears.mono {Qd : KD} {Q : VK} (b : Bears K w Qd Q) (l : w.le w') : Bears K w' Qd Q := fun w2 h d v l2 r p q => b w2 h d v (l.trans l2) r p q
theorem BearsT.mono {Qd : Bool → DH → Prop} {Q : Bool → Hp → Prop} (b : BearsT K w Qd Q) (l : w.le w') : BearsT K w' Qd Q := fun w2 h d l2 r q => b w2 h d (l.trans l2) r q
theorem BearsA.mono {Qd : List D → DH → Prop} {Q : List V → Hp → Prop} (b : BearsA K w Qd Q) (l : w.le w') : BearsA K w' Qd Q := fun w2 h d v l2 r p q => b w2 h d v (l.trans l2) r p q
theorem BearsS.mono {Qd : DS → DH → Prop} {Q : L2.St → Hp → Prop} (b : BearsS K w Qd Q) (l : w.le w') : BearsS K w' Qd Q := fun w2 h d v l2 r p q => b w2 h d v (l.trans l2) r p q
theorem BearsE.mono {E : DE} {F : Ends} (b : BearsE K w E F) (l : w.le w') : BearsE K w' E F := ⟨b.nx.mono l, b.rt.mono l, b.bk.mono l, b.ct.mono l⟩
end
structure LE (X : Cx) (e : Expr) (c : CE) : Prop where
  run : ∀ w h σd σv Qd Q, SRel X.K w σd σv → HRel X.K w h → c σd h Qd → Bears X.K w Qd Q → tW X e σv w.H Q
structure LT (X : Cx) (e : Expr) (c : CT) : Prop where
  run : ∀ w h σd σv Qd Q, SRel X.K w σd σv → HRel X.K w h → c σd h Qd → BearsT X.K w Qd Q → tWT X e σv w.H Q
structure LW (X : Cx) (e : Expr) (c : CT) : Prop where
  run : ∀ w h σd σv Qd Q, SRel X.K w σd σv → HRel X.K w h → c σd h Qd → BearsT X.K w Qd Q → tWW X e σv w.H Q
structure LA (X : Cx) (es : List Expr) (c : CA) : Prop where
  run : ∀ w h σd σv Qd Q, SRel X.K w σd σv → HRel X.K w h → c σd h Qd → BearsA X.K w Qd Q → tWA X es σv w.H Q
structure LS (X : Cx) (st : Stmt) (c : CS) : Prop where
  run : ∀ w h σd σv E F, SRel X.K w σd σv → HRel X.K w h → c E σd h → BearsE X.K w E F → tWS X st F σv w.H
structure LB (X : Cx) (st : List Stmt) (c : CS) : Prop where
  run : ∀ w h σd σv E F, SRel X.K w σd σv → HRel X.K w h → c E σd h → BearsE X.K w E F → tWB X st F σv w.H
/-- a target; it stores at the slots js alone -/
structure LG (X : Cx) (tg : Expr) (js : List Nat) (c : CG) : Prop where
  run : ∀ w h σd σv d v Qd (Q : L2.St → Hp → Prop), SRel X.K w σd σv → HRel X.K w h → Rep X.K w d v → c d σd h Qd →
    (∀ w' h' σd' σv', w.le w' → HRel X.K w' h' → SRel X.K w' σd' σv' → L2.wipe σv' js = L2.wipe σv js → Qd σd' h' → Q σv' w'.H) → tWG X tg v σv w.H Q
structure LGs (X : Cx) (tgs : List Expr) (js : List Nat) (c : CGs) : Prop where
  run : ∀ w h σd σv ds vs Qd (Q : L2.St → Hp → Prop), SRel X.K w σd σv → HRel X.K w h → Reps X.K w ds vs → c ds σd h Qd →
    (∀ w' h' σd' σv', w.le w' → HRel X.K w' h' → SRel X.K w' σd' σv' → L2.wipe σv' js = L2.wipe σv js → Qd σd' h' → Q σv' w'.H) → tWGs X tgs vs σv w.H Q

section
variable {X : Cx} {a b e : Expr} {es : List Expr} {ca cb cc : CE} {pos : Pos}
def cVar (i : Nat) : CE := fun σ h Q => match (σ[i]?).join with
  | some d => Q d h
  | none => False
def cC (d : D) : CE := fun _ h Q => Q d h
theorem le_var {i : Nat} {x : Str} {pos : Pos} (hN : X.N[i]? = some x) (hv : Vis X.env.scope x) (hd : (x == ("__debug__" : Str)) = false) (hcd : (x == ("__classdict__" : Str)) = false) : LE X (.Name x pos) (cVar i) := by
  refine ⟨fun w h σd σv Qd Q S R c B => wE (pe_var hN hv hd hcd) ?_⟩
  unfold cVar at c
  split at c
  · rename_i d e
    obtain ⟨v, h1, h2⟩ := S.at_ i d (by simpa [Option.join_eq_some_iff] using e)
    exact ⟨v, h1, B w h d v (.refl w) R h2 c⟩
  · exact c.elim
theorem lv (i : Nat) {x : Str} {pos : Pos} (hN : X.N[i]? = some x := by rfl) (hv : Vis X.env.scope x := by first | exact Or.inl rfl | exact Or.inr (Or.inl rfl) | exact Or.inr (Or.inr rfl)) (hd : (x == ("__debug__" : Str)) = false := by decide)
    (hcd : (x == ("__classdict__" : Str)) = false := by decide) : LE X (.Name x pos) (cVar i) := le_var hN hv hd hcd
theorem le_const {e : Expr} {d : D} {v : V} (p : PE X e (tC v)) (r : ∀ w, Rep X.K w d v) : LE X e (cC d) :=
  ⟨fun w h σd σv Qd Q S R c B => wE p (B w h d v (.refl w) R (r w) c)⟩
theorem le_int {i : Int} {j : Nat} {pos : Pos} : LE X (.Constant (.int i) j pos) (cC (.int i)) := le_const pe_int fun _ => .int i
theorem le_bl {b : Bool} {j : Nat} {pos : Pos} : LE X (.Constant (.bool b) j pos) (cC (.bl b)) := le_const pe_bl fun _ => .bl b
theorem le_non {j : Nat} {pos : Pos} : LE X (.Constant .none j pos) (cC .non) := le_const pe_non fun _ => .non
theorem le_str {x : Str} {j : Nat} {pos : Pos} : LE X (.Constant (.str x) j pos) (cC (.str x)) := le_const pe_str fun _ => .str x
/-- a module's constant -/
theorem le_glob {x : Str} {d : D} {v : V} {u : Value} {pos : Pos} (hg : Gl X x) (hm : X.mg x = some u) (r : RelV v u) (rd : ∀ w, Rep X.K w d v) (hd : (x == ("__debug__" : Str)) = false := by decide) : LE X (.Name x pos) (cC d) := le_const (pe_glob hg hm r hd) rd
/-- a built-in name as a value -/
theorem le_bltn {x : Str} {d : D} {v : V} {u : Value} {pos : Pos} (hg : Gl X x) (hm : X.mg x = none) (hv : bootBuiltins x = some u) (r : RelV v u) (rd : ∀ w, Rep X.K w d v) (hn : x ≠ "__name__" := by decide) (hd : (x == ("__debug__" : Str)) = false := by decide) : LE X (.Name x pos) (cC d) := le_const (pe_bltn hg hm hv r hn hd) rd

abbrev RD2 := D → D → DH → KD → Prop
def tOpW (X : Cx) (f : Value → Value → Sem Value) : R2 := fun x y H Q => ∀ pins s σ v u, Inv X pins σ H s → RelV x v → RelV y u → wpAny (model X.prog X.w) X.A (f v u) (EP X pins σ Q) X.xe s
theorem opr_w {f : Value → Value → Sem Value} : OpR X f (tOpW X f) := fun pins s σ H x y v u Q I rx ry h => h pins s σ v u I rx ry
theorem wO {f : Value → Value → Sem Value} {r : R2} (p : OpR X f r) {x y : V} {H : Hp} {Q : VK} (h : r x y H Q) : tOpW X f x y H Q := fun pins s σ v u I rx ry => p pins s σ H x y v u Q I rx ry h
/-- a two-place operation on trees -/
def OpD (X : Cx) (f : Value → Value → Sem Value) (r : RD2) : Prop :=
  ∀ w h x y vx vy Qd Q, HRel X.K w h → Rep X.K w x vx → Rep X.K w y vy → r x y h Qd → Bears X.K w Qd Q → tOpW X f vx vy w.H Q
def cBin (r : RD2) (a b : CE) : CE := fun σ h Q => a σ h fun x h1 => b σ h1 fun y h2 => r x y h2 Q
theorem le_op {op : Operator} {r : RD2} (ho : OpD X (binaryOp op) r) (ha : LE X a ca) (hb : LE X b cb) : LE X (.BinOp a op b pos) (cBin r ca cb) := by
  refine ⟨fun w h σd σv Qd Q S R c B => wE (pe_op opr_w pe_w pe_w) ?_⟩
  refine ha.run w h σd σv _ _ S R c fun w1 h1 x vx l1 R1 r1 c1 => ?_
  refine hb.run w1 h1 σd σv _ _ (S.mono l1) R1 c1 fun w2 h2 y vy l2 R2 r2 c2 => ?_
  exact ho w2 h2 x y vx vy _ _ R2 (r1.mono l2) r2 c2 (B.mono (l1.trans l2))
theorem le_cmp {op : CmpOp} {r : RD2} (ho : OpD X (compareOp op) r) (ha : LE X a ca) (hb : LE X b cb) (hm : behindInMarks op b = false) : LE X (.Compare a [op] [b] pos) (cBin r ca cb) := by
  refine ⟨fun w h σd σv Qd Q S R c B => wE (pe_cmpR opr_w pe_w pe_w hm) ?_⟩
  refine ha.run w h σd σv _ _ S R c fun w1 h1 x vx l1 R1 r1 c1 => ?_
  refine hb.run w1 h1 σd σv _ _ (S.mono l1) R1 c1 fun w2 h2 y vy l2 R2 r2 c2 => ?_
  exact ho w2 h2 x y vx vy _ _ R2 (r1.mono l2) r2 c2 (B.mono (l1.trans l2))
def cTest (c : CE) : CT := fun σ h Q => c σ h fun d h1 => match d with
  | .bl b => Q b h1
  | _ => False
/-- what gives a bool, as a test -/
theorem lt_cmp {op : CmpOp} {r : RD2} (ho : OpD X (compareOp op) r) (ha : LE X a ca) (hb : LE X b cb) (hm : behindInMarks op b = false) : LT X (.Compare a [op] [b] pos) (cTest (cBin r ca cb)) := by
  refine ⟨fun w h σd σv Qd Q S R c B => wT (pt_cmpR opr_w pe_w pe_w hm) ?_⟩
  refine ha.run w h σd σv _ _ S R c fun w1 h1 x vx l1 R1 r1 c1 => ?_
  refine hb.run w1 h1 σd σv _ _ (S.mono l1) R1 c1 fun w2 h2 y vy l2 R2 r2 c2 => ?_
  refine ho w2 h2 x y vx vy _ _ R2 (r1.mono l2) r2 c2 fun w3 h3 d v l3 R3 r3 c3 => ?_
  cases d with
  | bl b => cases r3; exact ⟨b, rfl, B w3 h3 b (l1.trans (l2.trans l3)) R3 c3⟩
  | _ => exact c3.elim
theorem lt_val {e : Expr} {c : CE} (h : LE X e c) (he : ∀ whole, isTrue e X.env whole = (do let v ← whole; standAt e.pos; holding [v] (truthy v)) := by intro _; rfl) : LT X e (cTest c) := by
  refine ⟨fun w h' σd σv Qd Q S R c B => wT (pt_val pe_w he) ?_⟩
  refine h.run w h' σd σv _ _ S R c fun w3 h3 d v l3 R3 r3 c3 => ?_
  cases d with
  | bl b => cases r3; exact ⟨b, rfl, B w3 h3 b l3 R3 c3⟩
  | _ => exact c3.elim
def cAnd (a b : CT) : CT := fun σ h Q => a σ h fun x h1 => if x = true then b σ h1 Q else Q false h1
def cOr (a b : CT) : CT := fun σ h Q => a σ h fun x h1 => if x = true then Q true h1 else b σ h1 Q
def cNot (a : CT) : CT := fun σ h Q => a σ h fun x h1 => Q (!x) h1
variable {ta tb : CT} {rest : List Expr}
theorem lw_and1 (ha : LT X a ta) : LW X (.BoolOp .And [a] pos) ta := ⟨fun w h σd σv Qd Q S R c B => wW (pw_and1 pt_w) (ha.run w h σd σv _ _ S R c B)⟩
theorem lw_or1 (ha : LT X a ta) : LW X (.BoolOp .Or [a] pos) ta := ⟨fun w h σd σv Qd Q S R c B => wW (pw_or1 pt_w) (ha.run w h σd σv _ _ S R c B)⟩
theorem lw_and (ha : LT X a ta) (hb : LW X (.BoolOp .And (b :: rest) pos) tb) : LW X (.BoolOp .And (a :: b :: rest) pos) (cAnd ta tb) := by
  refine ⟨fun w h σd σv Qd Q S R c B => wW (pw_and pt_w pw_w) ?_⟩
  refine ha.run w h σd σv _ _ S R c fun w1 h1 x l1 R1 c1 => ?_
  cases x with
  | true => exact hb.run w1 h1 σd σv _ _ (S.mono l1) R1 c1 (B.mono l1)
  | false => exact B w1 h1 false l1 R1 c1
theorem lw_or (ha : LT X a ta) (hb : LW X (.BoolOp .Or (b :: rest) pos) tb) : LW X (.BoolOp .Or (a :: b :: rest) pos) (cOr ta tb) := by
  refine ⟨fun w h σd σv Qd Q S R c B => wW (pw_or pt_w pw_w) ?_⟩
  refine ha.run w h σd σv _ _ S R c fun w1 h1 x l1 R1 c1 => ?_
  cases x with
  | true => exact B w1 h1 true l1 R1 c1
  | false => exact hb.run w1 h1 σd σv _ _ (S.mono l1) R1 c1 (B.mono l1)
theorem LW.lt (h : LW X e ta) : LT X e ta := ⟨fun w h' σd σv Qd Q S R c B => fun pins s I => h.run w h' σd σv Qd Q S R c B _ pins s I⟩
theorem lt_not (ha : LT X a ta) : LT X (.UnaryOp .Not a pos) (cNot ta) := by
  refine ⟨fun w h σd σv Qd Q S R c B => wT (pt_not pt_w) ?_⟩
  exact ha.run w h σd σv _ _ S R c fun w1 h1 x l1 R1 c1 => B w1 h1 _ l1 R1 c1
/-- and, or, not as values: bools -/
def cAndV (a b : CE) : CE := fun σ h Q => a σ h fun x h1 => match x with
  | .bl true => b σ h1 Q
  | .bl false => Q (.bl false) h1
  | _ => False
def cOrV (a b : CE) : CE := fun σ h Q => a σ h fun x h1 => match x with
  | .bl true => Q (.bl true) h1
  | .bl false => b σ h1 Q
  | _ => False
def cNotV (a : CE) : CE := fun σ h Q => a σ h fun x h1 => match x with
  | .bl b => Q (.bl (!b)) h1
  | _ => False
theorem le_one {op : BoolOp} (ha : LE X a ca) : LE X (.BoolOp op [a] pos) ca := ⟨fun w h σd σv Qd Q S R c B => wE (pe_one pe_w) (ha.run w h σd σv _ _ S R c B)⟩
theorem le_and (ha : LE X a ca) (hb : LE X (.BoolOp .And (b :: rest) pos) cb) : LE X (.BoolOp .And (a :: b :: rest) pos) (cAndV ca cb) := by
  refine ⟨fun w h σd σv Qd Q S R c B => wE (pe_and pe_w pe_w) ?_⟩
  refine ha.run w h σd σv _ _ S R c fun w1 h1 x v l1 R1 r1 c1 => ?_
  cases x with
  | bl b =>
    cases r1
    refine ⟨b, rfl, ?_⟩
    cases b with
    | true => exact hb.run w1 h1 σd σv _ _ (S.mono l1) R1 c1 (B.mono l1)
    | false => exact B w1 h1 _ _ l1 R1 (.bl false) c1
  | _ => exact c1.elim
theorem le_or (ha : LE X a ca) (hb : LE X (.BoolOp .Or (b :: rest) pos) cb) : LE X (.BoolOp .Or (a :: b :: rest) pos) (cOrV ca cb) := by
  refine ⟨fun w h σd σv Qd Q S R c B => wE (pe_or pe_w pe_w) ?_⟩
  refine ha.run w h σd σv _ _ S R c fun w1 h1 x v l1 R1 r1 c1 => ?_
  cases x with
  | bl b =>
    cases r1
    refine ⟨b, rfl, ?_⟩
    cases b with
    | true => exact B w1 h1 _ _ l1 R1 (.bl true) c1
    | false => exact hb.run w1 h1 σd σv _ _ (S.mono l1) R1 c1 (B.mono l1)
  | _ => exact c1.elim
theorem le_not (ha : LE X a ca) : LE X (.UnaryOp .Not a pos) (cNotV ca) := by
  refine ⟨fun w h σd σv Qd Q S R c B => wE (pe_not pe_w) ?_⟩
  refine ha.run w h σd σv _ _ S R c fun w1 h1 x v l1 R1 r1 c1 => ?_
  cases x with
  | bl b => cases r1; exact ⟨b, rfl, B w1 h1 _ _ l1 R1 (.bl _) c1⟩
  | _ => exact c1.elim
def cIf (t : CT) (a b : CE) : CE := fun σ h Q => t σ h fun x h1 => if x = true then a σ h1 Q else b σ h1 Q
theorem le_if {c : Expr} (hc : LT X c ta) (ha : LE X a ca) (hb : LE X b cb) : LE X (.IfExp c a b pos) (cIf ta ca cb) := by
  refine ⟨fun w h σd σv Qd Q S R c B => wE (pe_ifExp pt_w pe_w pe_w) ?_⟩
  refine hc.run w h σd σv _ _ S R c fun w1 h1 x l1 R1 c1 => ?_
  cases x with
  | true => exact ha.run w1 h1 σd σv _ _ (S.mono l1) R1 c1 (B.mono l1)
  | false => exact hb.run w1 h1 σd σv _ _ (S.mono l1) R1 c1 (B.mono l1)
/-- a < b < c -/
def cChain (r r' : RD2) (a b c : CE) : CE := fun σ h Q => a σ h fun x h1 => b σ h1 fun y h2 => r x y h2 fun z h3 => match z with
  | .bl true => c σ h3 fun u h4 => r' y u h4 Q
  | .bl false => Q (.bl false) h3
  | _ => False
theorem le_chain {c : Expr} {op op' : CmpOp} {r r' : RD2} (ho : OpD X (compareOp op) r) (ho' : OpD X (compareOp op') r') (ha : LE X a ca) (hb : LE X b cb) (hc : LE X c cc)
    (p : ∀ {t t' : R2} {t1 t2 t3 : TE}, OpR X (compareOp op) t → OpR X (compareOp op') t' → PE X a t1 → PE X b t2 → PE X c t3 → PE X (.Compare a [op, op'] [b, c] pos) (tChain t t' t1 t2 t3)) : LE X (.Compare a [op, op'] [b, c] pos) (cChain r r' ca cb cc) := by
  refine ⟨fun w h σd σv Qd Q S R c B => wE (p opr_w opr_w pe_w pe_w pe_w) ?_⟩
  refine ha.run w h σd σv _ _ S R c fun w1 h1 x vx l1 R1 r1 c1 => ?_
  refine hb.run w1 h1 σd σv _ _ (S.mono l1) R1 c1 fun w2 h2 y vy l2 R2 r2 c2 => ?_
  refine ho w2 h2 x y vx vy _ _ R2 (r1.mono l2) r2 c2 fun w3 h3 z v l3 R3 r3 c3 => ?_
  cases z with
  | bl k =>
    cases r3
    refine ⟨k, rfl, ?_⟩
    cases k with
    | true =>
      rw [if_pos rfl]
      refine hc.run w3 h3 σd σv _ _ (S.mono (l1.trans (l2.trans l3))) R3 c3 fun w4 h4 u vu l4 R4 r4 c4 => ?_
      exact ho' w4 h4 y u vy vu _ _ R4 (r2.mono (l3.trans l4)) r4 c4 (B.mono (l1.trans (l2.trans (l3.trans l4))))
    | false =>
      rw [if_neg Bool.false_ne_true]
      exact B w3 h3 _ _ (l1.trans (l2.trans l3)) R3 (.bl false) c3
  | _ => exact c3.elim

def cNil : CA := fun _ h Q => Q [] h
def cCons (a : CE) (r : CA) : CA := fun σ h Q => a σ h fun x h1 => r σ h1 fun xs h2 => Q (x :: xs) h2
theorem la_nil : LA X [] cNil := ⟨fun w h σd σv Qd Q S R c B => wA pa_nil (B w h [] [] (.refl w) R .nil c)⟩
theorem la_cons {ra : CA} (ha : LE X e ca) (hr : LA X es ra) (hs : starEach (e :: es) X.env = (false, eval e X.env) :: starEach es X.env := by rfl) : LA X (e :: es) (cCons ca ra) := by
  refine ⟨fun w h σd σv Qd Q S R c B => wA (pa_cons pe_w pa_w hs) ?_⟩
  refine ha.run w h σd σv _ _ S R c fun w1 h1 x vx l1 R1 r1 c1 => ?_
  refine hr.run w1 h1 σd σv _ _ (S.mono l1) R1 c1 fun w2 h2 ds vs l2 R2 r2 c2 => ?_
  exact B w2 h2 _ _ (l1.trans l2) R2 (.cons (r1.mono l2) r2) c2
def cTup (c : CA) : CE := fun σ h Q => c σ h fun ds h1 => ds.length ≤ sizeLine ∧ Q (.tup ds) h1
/-- a written list that nobody changes; one that is changed -/
def cLst (c : CA) : CE := fun σ h Q => c σ h fun ds h1 => ds.length ≤ sizeLine ∧ Q (.lst ds) h1
def cLstM (c : CA) : CE := fun σ h Q => c σ h fun ds h1 => ds.length ≤ sizeLine ∧ Q (.ref h1.length) (h1 ++ [.lst ds])
theorem fin_tup {w : Wo} {h : DH} {ds : List D} {vs : List V} {Qd : KD} {Q : VK} {p : Addr} (R : HRel X.K w h) (r : Reps X.K w ds vs) (B : Bears X.K w Qd Q) (q : Qd (.tup ds) h) (hp : w.H p = none) : Q (.ref p) (upd w.H p (.tup vs)) :=
  B (w.frz p (.tup vs)) h _ _ (R.leF hp) (R.frz hp) (.tup (w.frzT p vs) (r.mono (R.leF hp))) q
theorem fin_lst {w : Wo} {h : DH} {ds : List D} {vs : List V} {Qd : KD} {Q : VK} {p : Addr} (R : HRel X.K w h) (r : Reps X.K w ds vs) (B : Bears X.K w Qd Q) (q : Qd (.lst ds) h) (hp : w.H p = none) : Q (.ref p) (upd w.H p (.lst vs)) :=
  B (w.frz p (.lst vs)) h _ _ (R.leF hp) (R.frz hp) (.lst (.inr rfl) upd_same (r.mono (R.leF hp))) q
theorem fin_lstM {w : Wo} {h : DH} {ds : List D} {vs : List V} {Qd : KD} {Q : VK} {p : Addr} (R : HRel X.K w h) (r : Reps X.K w ds vs) (B : Bears X.K w Qd Q) (q : Qd (.ref h.length) (h ++ [.lst ds])) (hp : w.H p = none) : Q (.ref p) (upd w.H p (.lst vs)) := by
  refine B (w.new p (.lst vs)) _ _ _ (R.leN hp) (R.new (o := .lst ds) hp ⟨vs, upd_same, r.mono (R.leN hp)⟩) (.ref ?_) q
  show (w.ρ ++ [p])[h.length]? = some p
  rw [← R.len]
  simp
theorem le_tup {ra : CA} {x1 : Nat} (ha : LA X es ra) : LE X (.Tuple es x1 pos) (cTup ra) := by
  refine ⟨fun w h σd σv Qd Q S R c B => wE (pe_tup pa_w) ?_⟩
  refine ha.run w h σd σv _ _ S R c fun w1 h1 ds vs l1 R1 r1 c1 => ?_
  exact ⟨by rw [← r1.length]; exact c1.1, fun p hp => fin_tup R1 r1 (B.mono l1) c1.2 hp⟩
theorem le_lst {ra : CA} (ha : LA X es ra) : LE X (.List es pos) (cLst ra) := by
  refine ⟨fun w h σd σv Qd Q S R c B => wE (pe_lst pa_w) ?_⟩
  refine ha.run w h σd σv _ _ S R c fun w1 h1 ds vs l1 R1 r1 c1 => ?_
  exact ⟨by rw [← r1.length]; exact c1.1, fun p hp => fin_lst R1 r1 (B.mono l1) c1.2 hp⟩
theorem le_lstM {ra : CA} (ha : LA X es ra) : LE X (.List es pos) (cLstM ra) := by
  refine ⟨fun w h σd σv Qd Q S R c B => wE (pe_lst pa_w) ?_⟩
  refine ha.run w h σd σv _ _ S R c fun w1 h1 ds vs l1 R1 r1 c1 => ?_
  exact ⟨by rw [← r1.length]; exact c1.1, fun p hp => fin_lstM R1 r1 (B.mono l1) c1.2 hp⟩
end
end TL

namespace TL
open PySem PySem.Spec PyProof.Rows L2
mutual
def toPD : D → Option PyData
  | .non => some .none
  | .bl b => some (.bool b)
  | .int i => some (.int i)
  | .str x => some (.str x)
  | .tup ds => (toPDs ds).map .tuple
  | .lst ds => (toPDs ds).map .list
  | .klst ds => (toPDs ds).map .list
  | .xtup ds => (toPDs ds).map .tuple
  | .ob _ _ => none
  | .ref _ => none
  | .gl _ => none
  | .ty _ => none
def toPDs : List D → Option (List PyData)
  | [] => some []
  | d :: ds => match toPD d, toPDs ds with
    | some p, some ps => some (p :: ps)
    | _, _ => none
end
/-- the items of a list: frozen, mutable -/
def lstAt (h : DH) : D → Option (List D)
  | .lst ds => some ds
  | .ref n => match h[n]? with
    | some (.lst ds) => some ds
    | _ => none
  | _ => none
def lstRd (h : DH) : D → Option (List D)
  | .klst ds => some ds
  | d => lstAt h d
def dval (h : DH) : D → Option PyData
  | .ref n => match h[n]? with
    | some (.lst ds) => (toPDs ds).map .list
    | _ => none
  | d => toPD d
section
variable {K : PySem.W.Frag} {w : Wo} {h : DH}
mutual
theorem rep_dp : ∀ {d : D} {v : V} {p : PyData}, Rep K w d v → toPD d = some p → Dp K w.H v p
  | _, _, _, .non, e => by simp [toPD] at e; subst e; exact .non
  | _, _, _, .bl b, e => by simp [toPD] at e; subst e; exact .bl b
  | _, _, _, .int i, e => by simp [toPD] at e; subst e; exact .int i
  | _, _, _, .str x, e => by simp [toPD] at e; subst e; exact .str x
  | _, _, _, .gl a, e => by simp [toPD] at e
  | _, _, _, .ty n, e => by simp [toPD] at e
  | _, _, _, .ref _, e => by simp [toPD] at e
  | _, _, _, .ob _ _ _, e => by simp [toPD] at e
  | _, _, _, .tup h r, e => by
    simp only [toPD, Option.map_eq_some_iff] at e
    obtain ⟨ps, e1, rfl⟩ := e
    exact .tup h.now (reps_dp r e1)
  | _, _, _, .lst h e0 r, e => by
    simp only [toPD, Option.map_eq_some_iff] at e
    obtain ⟨ps, e1, rfl⟩ := e
    exact .lst (SqL.of e0) (reps_dp r e1)
  | _, _, _, .klst h r, e => by
    simp only [toPD, Option.map_eq_some_iff] at e
    obtain ⟨ps, e1, rfl⟩ := e
    exact .lst h.now (reps_dp r e1)
  | _, _, _, .xtup h e0 z r, e => by
    simp only [toPD, Option.map_eq_some_iff] at e
    obtain ⟨ps, e1, rfl⟩ := e
    exact .tup (.inl (.inr ⟨_, e0⟩)) (reps_dp r e1)
theorem reps_dp : ∀ {ds : List D} {vs : List V} {ps : List PyData}, Reps K w ds vs → toPDs ds = some ps → DpAll K w.H vs ps
  | _, _, _, .nil, e => by simp [toPDs] at e; subst e; exact .nil
  | d :: ds, _, _, .cons a b, e => by
    simp only [toPDs] at e
    split at e
    · rename_i p ps e1 e2
      cases e
      exact .cons (rep_dp a e1) (reps_dp b e2)
    · cases e
end
theorem HRel.lst (R : HRel K w h) {d : D} {v : V} {ds : List D} (r : Rep K w d v) (e : lstAt h d = some ds) : ∃ a vs, v = .ref a ∧ w.H a = some (.lst vs) ∧ Reps K w ds vs := by
  cases r with
  | lst h e0 r => cases e; exact ⟨_, _, rfl, e0, r⟩
  | ref hn =>
    rename_i n a
    have e' : (match h[n]? with | some (.lst ds) => some ds | _ => none) = some ds := e
    cases q : h[n]? with
    | none => rw [q] at e'; cases e'
    | some o =>
      rw [q] at e'
      cases o with
      | lst es =>
        cases e'
        obtain ⟨vs, p, rr⟩ := R.ob n _ a q hn
        exact ⟨a, vs, rfl, p, rr⟩
      | _ => cases e'
  | _ => cases e
theorem HRel.lstR (R : HRel K w h) {d : D} {v : V} {ds : List D} (r : Rep K w d v) (e : lstRd h d = some ds) : ∃ a vs, v = .ref a ∧ SqL K w.H a vs ∧ Reps K w ds vs := by
  cases r with
  | klst hp r => cases e; exact ⟨_, _, rfl, hp.now, r⟩
  | lst hp e0 r => obtain ⟨a, vs, e1, e2, e3⟩ := R.lst (.lst hp e0 r) e; exact ⟨a, vs, e1, SqL.of e2, e3⟩
  | ref hn => obtain ⟨a, vs, e1, e2, e3⟩ := R.lst (.ref hn) e; exact ⟨a, vs, e1, SqL.of e2, e3⟩
  | _ => cases e
theorem HRel.dp (R : HRel K w h) {d : D} {v : V} {p : PyData} (r : Rep K w d v) (e : dval h d = some p) : Dp K w.H v p := by
  cases r with
  | ref hn =>
    rename_i n a
    have e' : (match h[n]? with | some (.lst ds) => (toPDs ds).map .list | _ => none) = some p := e
    cases q : h[n]? with
    | none => rw [q] at e'; cases e'
    | some o =>
      rw [q] at e'
      cases o with
      | lst es =>
        simp only [Option.map_eq_some_iff] at e'
        obtain ⟨ps, e1, rfl⟩ := e'
        obtain ⟨vs, p, rr⟩ := R.ob n _ a q hn
        exact .lst (SqL.of p) (reps_dp rr e1)
      | _ => cases e'
  | non => exact rep_dp .non e
  | bl b => exact rep_dp (.bl b) e
  | int i => exact rep_dp (.int i) e
  | str x => exact rep_dp (.str x) e
  | gl a => exact rep_dp (.gl a) e
  | ty n => exact rep_dp (.ty n) e
  | tup hp r => exact rep_dp (.tup hp r) e
  | lst hp e0 r => exact rep_dp (.lst hp e0 r) e
  | klst hp r => exact rep_dp (.klst hp r) e
  | xtup hp e0 z r => exact rep_dp (.xtup hp e0 z r) e
  | ob hp e0 r => exact rep_dp (.ob hp e0 r) e
end

section
variable {X : Cx}
def dEq : RD2 := fun x y h Q => match dval h x, dval h y with
  | some p, some q => SeqAt.shaped p = true ∧ SeqAt.shaped q = true ∧ Q (.bl (PyData.eqv p q)) h
  | _, _ => False
def dNe : RD2 := fun x y h Q => match dval h x, dval h y with
  | some p, some q => SeqAt.shaped p = true ∧ SeqAt.shaped q = true ∧ Q (.bl (!PyData.eqv p q)) h
  | _, _ => False
theorem od_eq (hu : X.A.units + 64 < cLine) : OpD X (compareOp .Eq) dEq := by
  intro w h x y vx vy Qd Q R rx ry c B
  unfold dEq at c
  split at c
  · rename_i p q e1 e2
    exact wO (op_eqD hu) ⟨p, q, R.dp rx e1, R.dp ry e2, c.1, c.2.1, B w h _ _ (.refl w) R (.bl _) c.2.2⟩
  · exact c.elim
theorem od_ne (hu : X.A.units + 64 < cLine) : OpD X (compareOp .NotEq) dNe := by
  intro w h x y vx vy Qd Q R rx ry c B
  unfold dNe at c
  split at c
  · rename_i p q e1 e2
    exact wO (op_neD hu) ⟨p, q, R.dp rx e1, R.dp ry e2, c.1, c.2.1, B w h _ _ (.refl w) R (.bl _) c.2.2⟩
  · exact c.elim
def dCmpI (p : Int → Int → Bool) : RD2 := fun x y h Q => match x, y with
  | .int i, .int j => Q (.bl (p i j)) h
  | _, _ => False
theorem od_cmpI {f : Value → Value → Sem Value} {p : Int → Int → Bool} (o : OpR X f (rI0 fun i j => .bl (p i j))) : OpD X f (dCmpI p) := by
  intro w h x y vx vy Qd Q R rx ry c B
  cases x with
  | int i =>
    cases y with
    | int j => cases rx; cases ry; exact wO o ⟨i, j, rfl, rfl, B w h _ _ (.refl w) R (.bl _) c⟩
    | _ => exact c.elim
  | _ => exact c.elim
abbrev dLt := dCmpI fun i j => decide (i < j)
abbrev dLe := dCmpI fun i j => decide (i ≤ j)
abbrev dGt := dCmpI fun i j => decide (j < i)
abbrev dGe := dCmpI fun i j => decide (j ≤ i)
theorem od_lt : OpD X (compareOp .Lt) dLt := od_cmpI op_lt
theorem od_le : OpD X (compareOp .LtE) dLe := od_cmpI op_le
theorem od_gt : OpD X (compareOp .Gt) dGt := od_cmpI op_gt
theorem od_ge : OpD X (compareOp .GtE) dGe := od_cmpI op_ge
def dIntOp (C : Int → Int → Prop) (g : Int → Int → Int) : RD2 := fun x y h Q => match x, y with
  | .int i, .int j => C i j ∧ Q (.int (g i j)) h
  | _, _ => False
theorem od_int {f : Value → Value → Sem Value} {C : Int → Int → Prop} {g : Int → Int → Int} (o : OpR X f (rI C fun i j => .int (g i j))) : OpD X f (dIntOp C g) := by
  intro w h x y vx vy Qd Q R rx ry c B
  cases x with
  | int i =>
    cases y with
    | int j => cases rx; cases ry; exact wO o ⟨i, j, rfl, rfl, c.1, B w h _ _ (.refl w) R (.int _) c.2⟩
    | _ => exact c.elim
  | _ => exact c.elim
def dSub : RD2 := fun x y h Q => match x, y with
  | .int i, .int j => Q (.int (i - j)) h
  | _, _ => False
theorem od_sub : OpD X (binaryOp .Sub) dSub := by
  intro w h x y vx vy Qd Q R rx ry c B
  cases x with
  | int i =>
    cases y with
    | int j => cases rx; cases ry; exact wO op_sub ⟨i, j, rfl, rfl, B w h _ _ (.refl w) R (.int _) c⟩
    | _ => exact c.elim
  | _ => exact c.elim
abbrev dMod := dIntOp (fun _ j => 0 < j) fun i j => i % j
abbrev dDiv := dIntOp CDivN fun i j => i.fdiv j
abbrev dPow := dIntOp CPow fun i j => i ^ j.toNat
theorem od_mod : OpD X (binaryOp .Mod) dMod := od_int op_mod
theorem od_div : OpD X (binaryOp .FloorDiv) dDiv := od_int op_fdivN
theorem od_pow : OpD X (binaryOp .Pow) dPow := od_int op_pow
/-- +: ints, texts, tuples, lists (a new list, frozen) -/
def dAdd : RD2 := fun x y h Q => match x, y with
  | .int i, .int j => Q (.int (i + j)) h
  | .str a, .str b => a.length + b.length ≤ sizeLine ∧ Q (.str (a ++ b)) h
  | .tup xs, .tup ys => xs.length + ys.length ≤ sizeLine ∧ Q (.tup (xs ++ ys)) h
  | a, b => match lstAt h a, lstAt h b with
    | some xs, some ys => xs.length + ys.length ≤ sizeLine ∧ Q (.lst (xs ++ ys)) h
    | _, _ => False
theorem Bears.same {K : PySem.W.Frag} {w : Wo} {h : DH} {Qd : KD} {Q : VK} {d : D} {v : V} (B : Bears K w Qd Q) (R : HRel K w h) (r : Rep K w d v) (q : Qd d h) : Q v w.H := B w h d v (.refl w) R r q
theorem od_add : OpD X (binaryOp .Add) dAdd := by
  intro w h x y vx vy Qd Q R rx ry c B
  have hl : (∃ xs ys, lstAt h x = some xs ∧ lstAt h y = some ys ∧ xs.length + ys.length ≤ sizeLine ∧ Qd (.lst (xs ++ ys)) h) → tOpW X (binaryOp .Add) vx vy w.H Q := by
    rintro ⟨xs, ys, e1, e2, hz, q⟩
    obtain ⟨a, vs, rfl, ha, ra⟩ := R.lst rx e1
    obtain ⟨b, us, rfl, hb, rb⟩ := R.lst ry e2
    exact wO op_cat ⟨a, b, vs, us, rfl, rfl, ha, hb, by rw [← ra.length, ← rb.length]; exact hz, fun p hp => fin_lst R (ra.append rb) B q hp⟩
  have hl' : (match lstAt h x, lstAt h y with
    | some xs, some ys => xs.length + ys.length ≤ sizeLine ∧ Qd (.lst (xs ++ ys)) h
    | _, _ => False) → tOpW X (binaryOp .Add) vx vy w.H Q := by
    intro c
    split at c
    · rename_i xs ys e1 e2; exact hl ⟨xs, ys, e1, e2, c.1, c.2⟩
    · exact c.elim
  cases x with
  | int i =>
    cases y with
    | int j => cases rx; cases ry; exact wO op_add ⟨i, j, rfl, rfl, B.same R (.int _) c⟩
    | _ => exact hl' c
  | str i =>
    cases y with
    | str j => cases rx; cases ry; exact wO op_add_str ⟨i, j, rfl, rfl, c.1, B.same R (.str _) c.2⟩
    | _ => exact hl' c
  | tup xs =>
    cases y with
    | tup ys =>
      cases rx with
      | tup h1 r1 =>
        cases ry with
        | tup h2 r2 =>
          rename_i a vs b us
          refine wO op_catA ⟨a, b, vs, us, rfl, rfl, h1.now, h2.now, by rw [← r1.length, ← r2.length]; exact c.1, fun e => ?_, fun _ e => ?_, fun _ _ p hp => fin_tup R (r1.append r2) B c.2 hp⟩
          · subst e; cases r1; exact B.same R (.tup h2 r2) c.2
          · subst e; cases r2; refine B.same R (.tup h1 r1) (by have := c.2; rw [List.append_nil] at this; exact this)
    | _ => exact hl' c
  | _ => exact hl' c
/-- *: ints, a list or a tuple by an int -/
def dMul : RD2 := fun x y h Q => match x, y with
  | .int i, .int j => CMul i j ∧ Q (.int (i * j)) h
  | .tup xs, .int k => xs ≠ [] ∧ 2 ≤ k ∧ k ≤ 100000 ∧ xs.length ≤ 10 ∧ Q (.tup (List.replicate k.toNat xs).flatten) h
  | a, .int k => match lstAt h a with
    | some xs => -(2 ^ 63) ≤ k ∧ k < 2 ^ 63 ∧ xs.length * k.toNat ≤ sizeLine ∧ Q (.lst (List.replicate k.toNat xs).flatten) h
    | none => False
  | _, _ => False
def rRepBig (K : PySem.W.Frag) : R2 := fun x y H Q => ∃ l k xs, x = .ref l ∧ y = .int k ∧ SqT K H l xs ∧ xs ≠ [] ∧ 2 ≤ k ∧ k ≤ 100000 ∧ xs.length ≤ 10 ∧ ∀ p, H p = none → Q (.ref p) (upd H p (.tup (List.replicate k.toNat xs).flatten))
theorem op_repBig : OpR X (binaryOp .Mult) (rRepBig X.K) := by
  intro pins s σ H x y v u Q I rx ry hyp
  obtain ⟨ad, k, xs, rfl, rfl, hSq, nonempty, lo, hi, few, q⟩ := hyp
  cases rx
  obtain ⟨tk, rfl⟩ := ry
  obtain ⟨items, rv, ⟨⟨kl, di, da, sls⟩, obj, hkl, many, hda⟩, hsize⟩ := I.tuple hSq
  simp only at hkl hda
  subst hkl hda
  have same : items.length = xs.length := rv.length.symm
  have ne : items ≠ [] := by
    rintro rfl
    exact nonempty (List.eq_nil_of_length_eq_zero same.symm)
  have full : items.toArray.isEmpty = false := by cases items <;> first | exact absurd rfl ne | rfl
  have szA : items.toArray.size = xs.length := by rw [List.size_toArray, same]
  have prod : ((items.toArray.size : Nat) : Int) * k ≤ 1000000 := by
    rw [szA]
    have := Int.mul_le_mul_of_nonneg_right (show ((xs.length : Nat) : Int) ≤ 10 by omega) (show (0 : Int) ≤ k by omega)
    omega
  have small : (List.replicate k.toNat items).flatten.length ≤ sizeLine := by
    rw [PyProof.Rows.lm_len_rep_flat, same, sizeLine_eq]
    have := Nat.mul_le_mul (show k.toNat ≤ 100000 by omega) few
    omega
  have b0 : (decide (k < -(2 ^ 63)) || decide (k ≥ 2 ^ 63)) = false := by simp; omega
  have b1 : (items.toArray.isEmpty || k == 1) = false := by rw [full]; simp; omega
  have b2 : (decide (k ≤ 0) || items.toArray.isEmpty) = false := by rw [full]; simp; omega
  have b4 : Builtin.Tuple.tupleTooMany (((items.toArray.size : Nat) : Int) * k) = false := by
    unfold Builtin.Tuple.tupleTooMany
    rw [sizeLine_eq]
    exact decide_eq_false (by omega)
  refine wpAny_binaryOp_repeat_ref (T := "tuple") (U := "int") (by decide) ⟨_, obj, rfl⟩ (fun z => typeIs_int z k tk) noFill_tuple_mul F.fills_int_mul F.slot_int_rmul repeat_tuple F.slot_int_index.lookup ?_
  refine call_meets F.slot_int_rmul (typeIs_int s k tk) F.entry_int_rmul (F.args_int_rmul_2 _ _) (int_rmul_tuple k tk ad items.toArray many di sls) ⟨obj, rfl, ⟨_, obj, rfl⟩, ?_⟩
  refine call_meets F.slot_tuple_mul ⟨_, obj, rfl⟩ F.entry_tuple_mul (F.args_tuple_mul_2 _ _) (tuple_mulW ad items.toArray many di sls k tk b0 b1 b2 (by omega) b4 (by rw [size_rep, List.size_toArray]; exact small)) ⟨obj, ?_⟩
  rw [size_rep]
  refine ⟨.ref s.heap.objs.size, _, I.laid (t' := s.toks) (o := .tup (List.replicate k.toNat xs).flatten) (fun b ob z => Heap.get?_push_of_some _ z) (Nat.le_refl _) ⟨?_, _, rv.rep k.toNat, IsTup.new _ _⟩, rfl, q _ (I.hok.fresh (Nat.le_refl _))⟩
  rw [PyProof.Rows.lm_len_rep_flat, sizeLine_eq]
  have := Nat.mul_le_mul (show k.toNat ≤ 100000 by omega) few
  omega
theorem od_mul : OpD X (binaryOp .Mult) dMul := by
  intro w h x y vx vy Qd Q R rx ry c B
  have hl : ∀ k, y = .int k → (match lstAt h x with
    | some xs => -(2 ^ 63) ≤ k ∧ k < 2 ^ 63 ∧ xs.length * k.toNat ≤ sizeLine ∧ Qd (.lst (List.replicate k.toNat xs).flatten) h
    | none => False) → tOpW X (binaryOp .Mult) vx vy w.H Q := by
    rintro k rfl c
    split at c
    · rename_i xs e1
      obtain ⟨a, vs, rfl, ha, ra⟩ := R.lst rx e1
      cases ry
      exact wO op_rep ⟨a, k, vs, rfl, rfl, ha, c.1, c.2.1, by rw [← ra.length]; exact c.2.2.1, fun p hp => fin_lst R (ra.rep _) B c.2.2.2 hp⟩
    · exact c.elim
  cases y with
  | int k =>
    cases x with
    | int i => cases rx; cases ry; exact wO op_mul ⟨i, k, rfl, rfl, c.1, B.same R (.int _) c.2⟩
    | tup xs =>
      cases ry
      cases rx with
      | tup h1 r1 =>
        rename_i a vs
        refine wO op_repBig ⟨a, k, vs, rfl, rfl, h1.now, fun e => ?_, c.2.1, c.2.2.1, by rw [← r1.length]; exact c.2.2.2.1, fun p hp => fin_tup R (r1.rep _) B c.2.2.2.2 hp⟩
        subst e; cases r1; exact c.1 rfl
    | _ => exact hl k rfl c
  | _ => cases x <;> exact c.elim
/-- sub in text -/
def subIn (i j : Str) : Bool := !(Builtin.Str.occurrences j i 0 j.length 1).isEmpty
def flatD : D → Bool
  | .non => true
  | .bl _ => true
  | .int _ => true
  | .str _ => true
  | _ => false
def vOf : D → V
  | .bl b => .bl b
  | .int i => .int i
  | .str x => .str x
  | _ => .non
theorem flat_v {K : PySem.W.Frag} {w : Wo} {d : D} {v : V} (r : Rep K w d v) (f : flatD d = true) : v = vOf d ∧ flatV v = true := by
  cases r <;> first | exact ⟨rfl, rfl⟩ | cases f
theorem flat_vs {K : PySem.W.Frag} {w : Wo} : ∀ {ds : List D} {vs : List V}, Reps K w ds vs → ds.all flatD = true → vs = ds.map vOf ∧ vs.all flatV = true
  | _, _, .nil, _ => ⟨rfl, rfl⟩
  | _, _, .cons a b, f => by
    rw [List.all_cons, Bool.and_eq_true] at f
    obtain ⟨e1, f1⟩ := flat_v a f.1
    obtain ⟨e2, f2⟩ := flat_vs b f.2
    exact ⟨by rw [List.map_cons, ← e1, ← e2], by rw [List.all_cons, f1, f2]; rfl⟩
/-- == of flat trees -/
def eqD (y x : D) : Bool := eqV (vOf y) (vOf x)
def dInG (neg : Bool) : RD2 := fun x y h Q => match x, y with
  | .str a, .str b => Q (.bl (if neg then !subIn a b else subIn a b)) h
  | a, .tup ds => flatD a = true ∧ ds.all flatD = true ∧ Q (.bl (if neg then !(ds.any fun z => eqD z a) else ds.any fun z => eqD z a)) h
  | a, .xtup ds => flatD a = true ∧ ds.all flatD = true ∧ Q (.bl (if neg then !(ds.any fun z => eqD z a) else ds.any fun z => eqD z a)) h
  | a, b => match lstRd h b with
    | some ds => match toPD a, toPDs ds with
      | some p, some ps => SeqAt.shaped p = true ∧ SeqAt.shaped (.list ps) = true ∧ Q (.bl (if neg then !(ps.any fun z => PyData.eqv z p) else ps.any fun z => PyData.eqv z p)) h
      | _, _ => False
    | none => False
abbrev dIn := dInG false
abbrev dNotIn := dInG true
theorem inV_map (a : D) : ∀ ds : List D, inV (vOf a) (ds.map vOf) = ds.any fun z => eqD z a := fun ds => by
  unfold inV
  rw [List.any_map]
  rfl
theorem od_inG (neg : Bool) {f : Value → Value → Sem Value} (o1 : OpR X f (fun x y H Q => ∃ i j, x = .str i ∧ y = .str j ∧ Q (.bl (if neg then !subIn i j else subIn i j)) H)) (o2 : OpR X f (rIn X.K neg))
    (o3 : OpR X f (fun x y H Q => ∃ d ds, Dp X.K H x d ∧ Dp X.K H y (.list ds) ∧ SeqAt.shaped d = true ∧ SeqAt.shaped (.list ds) = true ∧ Q (.bl (if neg then !(ds.any fun z => PyData.eqv z d) else ds.any fun z => PyData.eqv z d)) H)) : OpD X f (dInG neg) := by
  intro w h x y vx vy Qd Q R rx ry c B
  have hl : (match lstRd h y with
    | some ds => match toPD x, toPDs ds with
      | some p, some ps => SeqAt.shaped p = true ∧ SeqAt.shaped (.list ps) = true ∧ Qd (.bl (if neg then !(ps.any fun z => PyData.eqv z p) else ps.any fun z => PyData.eqv z p)) h
      | _, _ => False
    | none => False) → tOpW X f vx vy w.H Q := by
    intro c
    split at c
    · rename_i ds e1
      split at c
      · rename_i p ps e2 e3
        obtain ⟨a, vs, rfl, ha, ra⟩ := R.lstR ry e1
        exact wO o3 ⟨p, ps, rep_dp rx e2, .lst ha (reps_dp ra e3), c.1, c.2.1, B.same R (.bl _) c.2.2⟩
      · exact c.elim
    · exact c.elim
  have ht : ∀ ds, tupAt y = some ds → (flatD x = true ∧ ds.all flatD = true ∧ Qd (.bl (if neg then !(ds.any fun z => eqD z x) else ds.any fun z => eqD z x)) h) → tOpW X f vx vy w.H Q := by
    intro ds e c
    obtain ⟨a, us, rfl, h2, r2⟩ := ry.tupR e
    obtain ⟨e1, f1⟩ := flat_v rx c.1
    obtain ⟨e2, f2⟩ := flat_vs r2 c.2.1
    refine wO o2 ⟨a, us, rfl, .inr h2.now, f1, f2, ?_⟩
    rw [e1, e2, inV_map]
    exact B.same R (.bl _) c.2.2
  cases y with
  | tup ds => cases x <;> exact ht ds rfl c
  | xtup ds => cases x <;> exact ht ds rfl c
  | str b =>
    cases x with
    | str a => cases rx; cases ry; exact wO o1 ⟨a, b, rfl, rfl, B.same R (.bl _) c⟩
    | _ => exact hl c
  | _ => cases x <;> exact hl c
theorem od_in (hu : X.A.units + 65 < cLine) : OpD X (compareOp .In) dIn := od_inG false op_in_str op_in_seq (op_inD hu)
theorem od_notIn (hu : X.A.units + 65 < cLine) : OpD X (compareOp .NotIn) dNotIn := od_inG true op_notin_str op_notIn_seq (op_notInD hu)
def isNon : D → Bool
  | .non => true
  | _ => false
def dIsN (neg : Bool) : RD2 := fun x y h Q => isNon y = true ∧ Q (.bl (if neg then !isNon x else isNon x)) h
theorem isNon_v {K : PySem.W.Frag} {w : Wo} {d : D} {v : V} (r : Rep K w d v) : decide (v = .non) = isNon d := by
  cases r <;> first | rfl | exact decide_eq_false (fun q => nomatch q)
theorem od_is : OpD X (compareOp .Is) (dIsN false) := by
  intro w h x y vx vy Qd Q R rx ry c B
  cases y with
  | non => cases ry; exact wO op_isN ⟨rfl, by rw [isNon_v rx]; exact B.same R (.bl _) c.2⟩
  | _ => exact absurd c.1 Bool.false_ne_true
theorem od_isNot : OpD X (compareOp .IsNot) (dIsN true) := by
  intro w h x y vx vy Qd Q R rx ry c B
  cases y with
  | non => cases ry; exact wO op_notN ⟨rfl, by rw [isNon_v rx]; exact B.same R (.bl _) c.2⟩
  | _ => exact absurd c.1 Bool.false_ne_true
end
end TL

namespace TL
open PySem PySem.Spec PyProof.Rows L2
mutual
def Cl (n : Nat) : D → Prop
  | .ref m => m < n
  | .tup ds => ClL n ds
  | .lst ds => ClL n ds
  | .klst ds => ClL n ds
  | .xtup ds => ClL n ds
  | .ob _ fs => ClF n fs
  | .non => True
  | .bl _ => True
  | .int _ => True
  | .str _ => True
  | .gl _ => True
  | .ty _ => True
def ClL (n : Nat) : List D → Prop
  | [] => True
  | d :: ds => Cl n d ∧ ClL n ds
def ClF (n : Nat) : List (Str × D) → Prop
  | [] => True
  | (_, d) :: ds => Cl n d ∧ ClF n ds
end
def ClK (n : Nat) : List (Key × D) → Prop
  | [] => True
  | (_, d) :: ds => Cl n d ∧ ClK n ds
def OCl (n : Nat) : O → Prop
  | .lst ds => ClL n ds
  | .dct kvs => ClK n kvs
  | .ins _ fs => ClF n fs
  | .dead => True
/-- a heap whose objects name its objects alone -/
def HCl (h : DH) : Prop := ∀ (i : Nat) (o : O), h[i]? = some o → OCl h.length o
/-- the world without the mutable things from n on: they stand still -/
def Wo.cut (w : Wo) (n : Nat) : Wo := ⟨w.ρ.take n, fun a => w.φ a ∨ a ∈ w.ρ.drop n, w.H⟩
section
variable {K : PySem.W.Frag} {w w' : Wo} {h g : DH} {n : Nat}
mutual
theorem Rep.cl {d : D} {v : V} (r : Rep K w d v) : Cl w.ρ.length d := by
  cases r with
  | ref h => exact (List.getElem?_eq_some_iff.mp h).1
  | tup h r => exact Reps.cl r
  | lst h e r => exact Reps.cl r
  | klst h r => exact Reps.cl r
  | xtup h e z r => exact Reps.cl r
  | ob h e r => exact FReps.cl r
  | _ => trivial
theorem Reps.cl {ds : List D} {vs : List V} (r : Reps K w ds vs) : ClL w.ρ.length ds := by
  cases r with
  | nil => trivial
  | cons a b => exact ⟨Rep.cl a, Reps.cl b⟩
theorem FReps.cl {ds : List (Str × D)} {vs : List (Str × V)} (r : FReps K w ds vs) : ClF w.ρ.length ds := by
  cases r with
  | nil => trivial
  | cons a b => exact ⟨Rep.cl a, FReps.cl b⟩
end
theorem KReps.cl : ∀ {ds : List (Key × D)} {vs : List (Key × V)}, KReps K w ds vs → ClK w.ρ.length ds
  | _, _, .nil => trivial
  | _, _, .cons a b => ⟨a.2.cl, KReps.cl b⟩
theorem OAt.cl {o : O} {a : Addr} (x : OAt K w o a) : OCl w.ρ.length o := by
  cases o with
  | lst ds => obtain ⟨vs, p, r⟩ := x; exact r.cl
  | dct kvs => obtain ⟨vs, p, r⟩ := x; exact KReps.cl r
  | ins C fs => obtain ⟨dx, fv, p, r⟩ := x; exact r.cl
  | dead => trivial
theorem HRel.cl (R : HRel K w h) : HCl h := fun i o e => by
  have hl : i < w.ρ.length := R.len ▸ (List.getElem?_eq_some_iff.mp e).1
  rw [← R.len]
  exact (R.ob i o w.ρ[i] e (by simp [hl])).cl
mutual
theorem Rep.cut {d : D} {v : V} (r : Rep K w d v) (c : Cl n d) : Rep K (w.cut n) d v := by
  cases r with
  | non => exact .non
  | bl b => exact .bl b
  | int i => exact .int i
  | str x => exact .str x
  | gl a => exact .gl a
  | ty n => exact .ty n
  | ref h => exact .ref (by show (w.ρ.take n)[_]? = _; rw [List.getElem?_take_of_lt c]; exact h)
  | tup h r => exact .tup (fun H' e => h H' fun b hb => e b (.inl hb)) (Reps.cut r c)
  | lst h e r => exact .lst (.inl h) e (Reps.cut r c)
  | klst h r => exact .klst (fun H' e => h H' fun b hb => e b (.inl hb)) (Reps.cut r c)
  | xtup h e z r => exact .xtup (.inl h) e z (Reps.cut r c)
  | ob h e r => exact .ob (.inl h) e (FReps.cut r c)
theorem Reps.cut {ds : List D} {vs : List V} (r : Reps K w ds vs) (c : ClL n ds) : Reps K (w.cut n) ds vs := by
  cases r with
  | nil => exact .nil
  | cons a b => exact .cons (Rep.cut a c.1) (Reps.cut b c.2)
theorem FReps.cut {ds : List (Str × D)} {vs : List (Str × V)} (r : FReps K w ds vs) (c : ClF n ds) : FReps K (w.cut n) ds vs := by
  cases r with
  | nil => exact .nil
  | cons a b => exact .cons (Rep.cut a c.1) (FReps.cut b c.2)
end
theorem KReps.cut : ∀ {ds : List (Key × D)} {vs : List (Key × V)}, KReps K w ds vs → ClK n ds → KReps K (w.cut n) ds vs
  | _, _, .nil, _ => .nil
  | _, _, .cons a b, c => .cons ⟨a.1, a.2.cut c.1⟩ (KReps.cut b c.2)
theorem OAt.cut {o : O} {a : Addr} (x : OAt K w o a) (c : OCl n o) : OAt K (w.cut n) o a := by
  cases o with
  | lst ds => obtain ⟨vs, p, r⟩ := x; exact ⟨vs, p, r.cut c⟩
  | dct kvs => obtain ⟨vs, p, r⟩ := x; exact ⟨vs, p, KReps.cut r c⟩
  | ins C fs => obtain ⟨dx, fv, p, r⟩ := x; exact ⟨dx, fv, p, r.cut c⟩
  | dead => exact x
theorem HRel.cut (R : HRel K w (h ++ g)) (c : HCl h) : HRel K (w.cut h.length) h := by
  have hn : h.length ≤ w.ρ.length := by rw [R.len]; simp
  refine ⟨by simp [Wo.cut]; omega, R.nd.sublist (List.take_sublist _ _), fun a ha => ?_, fun a ha => ?_, fun i o a hi ha => ?_⟩
  · rintro (q | q)
    · exact R.nφ a (List.mem_of_mem_take ha) q
    · have z := R.nd
      rw [← List.take_append_drop h.length w.ρ, List.nodup_append] at z
      exact z.2.2 a ha a q rfl
  · rcases ha with q | q
    · exact R.tr a q
    · exact R.trk (List.mem_of_mem_drop q)
  · have hl := (List.getElem?_eq_some_iff.mp hi).1
    have ha' : (w.ρ.take h.length)[i]? = some a := ha
    rw [List.getElem?_take_of_lt hl] at ha'
    exact (R.ob i o a (by rw [List.getElem?_append_left hl]; exact hi) ha').cut (c i o hi)
theorem Wo.le.cut (l : w.le w') (hn : w.ρ.length ≤ n) : w.le (w'.cut n) := by
  obtain ⟨r, e⟩ := l.ρ
  refine ⟨⟨r.take (n - w.ρ.length), ?_⟩, fun a ha => .inl (l.φ a ha), l.k⟩
  show w'.ρ.take n = _
  rw [e, List.take_append, List.take_of_length_le hn]
end
abbrev TSp := List D → DH → KD → Prop
def lift (K : PySem.W.Frag) (T : TSp) : Sp := fun vs H Q _ => ∃ w h ds Qd, w.H = H ∧ HRel K w h ∧ Reps K w ds vs ∧ T ds h Qd ∧ Bears K w Qd Q
/-- what is handed back: as it is; or without what was made from n on, a list or an object among it frozen -/
inductive Fz (n : Nat) (h : DH) : D → D → Prop
  | same {d : D} : Cl n d → Fz n h d d
  | lst {m : Nat} {ds : List D} : h[m]? = some (.lst ds) → n ≤ m → ClL n ds → Fz n h (.ref m) (.lst ds)
  | ob {m : Nat} {C : Addr} {fs : List (Str × D)} : h[m]? = some (.ins C fs) → n ≤ m → ClF n fs → Fz n h (.ref m) (.ob C fs)
def Ret (h0 : DH) (Qd : KD) : KD := fun d h' => Qd d h' ∨ ∃ h2 g d2, h' = h2 ++ g ∧ h0.length ≤ h2.length ∧ HCl h2 ∧ Fz h2.length h' d d2 ∧ Qd d2 h2
section
variable {K : PySem.W.Frag} {w w' : Wo} {h g : DH}
theorem Fz.rep {d d2 : D} {v : V} (R : HRel K w (h ++ g)) (r : Rep K w d v) (z : Fz h.length (h ++ g) d d2) : Rep K (w.cut h.length) d2 v := by
  cases z with
  | same c => exact r.cut c
  | lst e hm c =>
    cases r with
    | ref hr =>
      obtain ⟨vs, p, rr⟩ := R.ob _ _ _ e hr
      refine .lst (.inr ?_) p (rr.cut c)
      exact List.mem_of_getElem? (i := _ - h.length) (by rw [List.getElem?_drop, Nat.add_sub_cancel' hm]; exact hr)
  | ob e hm c =>
    cases r with
    | ref hr =>
      obtain ⟨dx, fv, p, rr⟩ := R.ob _ _ _ e hr
      refine .ob (.inr ?_) p (rr.cut c)
      exact List.mem_of_getElem? (i := _ - h.length) (by rw [List.getElem?_drop, Nat.add_sub_cancel' hm]; exact hr)
theorem Bears.ret {Qd : KD} {Q : VK} (R : HRel K w h) (B : Bears K w Qd Q) : Bears K w (Ret h Qd) Q := by
  intro w' h' d v l R' r q
  rcases q with q | ⟨h2, g, d2, rfl, hl, hc, z, q⟩
  · exact B w' h' d v l R' r q
  · exact B (w'.cut h2.length) h2 d2 v (l.cut (by rw [R.len]; exact hl)) (R'.cut hc) (z.rep R' r) q
end
section
variable {P : Program} {wd : World} {K : PySem.W.Frag} {mg : Str → Option Value} {base : Heap}
/-- the slots at the entry -/
def startD (N : List Str) (ds : List D) : DS := ds.map some ++ List.replicate (N.length - ds.length) none
theorem srel_start {w : Wo} {N : List Str} {ds : List D} {vs : List V} (r : Reps K w ds vs) : SRel K w (startD N ds) (L2.start N vs) := by
  refine ⟨by simp [startD, L2.start, r.length], fun i d e => ?_⟩
  unfold startD at e
  by_cases hi : i < ds.length
  · rw [List.getElem?_append_left (by simpa using hi), List.getElem?_map] at e
    cases q : ds[i]? with
    | none => rw [q] at e; cases e
    | some d' =>
      rw [q] at e
      cases e
      obtain ⟨v, h1, h2⟩ := r.get q
      refine ⟨v, ?_, h2⟩
      unfold L2.start
      rw [List.getElem?_append_left (by rw [List.length_map, ← r.length]; exact hi), List.getElem?_map, h1]
      rfl
  · rw [List.getElem?_append_right (by simpa using hi), List.getElem?_replicate] at e
    split at e <;> cases e
/-- THE RULE for a def: its body as a reading over trees -/
theorem fn_tree {x qual : Str} {params : Arguments} {body : List Stmt} {scope : Scope} {dvs : List V} {kws : List (Str × V)} {f : Addr} {fd : FuncData} {N ps : List Str} {k : Nat} {T : TSp}
    (F : FunD K x qual params body scope dvs kws f fd) (S : FnScope N ps scope) (len : ∀ ds h Q, T ds h Q → ds.length = ps.length)
    (hbody : ∀ (cdv : Value) (A : Around) (outer : List Env) (s : Shared) (H : Hp) (E : XK), Room k (A.deeper (envOfC qual scope s.heap.objs.size f cdv)) →
      ∃ c : CS, LB (cxOf CX0 P wd K mg base N qual scope f cdv A outer s H E).nox body c ∧ ∀ ds h Q, HCl h → ClL h.length ds → T ds h Q → c { nx := fun _ h' => Ret h Q .non h', rt := Ret h Q } (startD N ds) h) :
    FnOk P wd K mg base CX0 (k + 1) f fd ps (lift K T) := by
  refine F.ok S (fun vs H Q E ⟨w, h, ds, Qd, e, R, r, t, B⟩ => by rw [← r.length]; exact len _ _ _ t) fun cdv A outer s H vs Q E hr ⟨w, h, ds, Qd, e, R, r, t, B⟩ => ?_
  subst e
  obtain ⟨c, lb, hc⟩ := hbody cdv A outer s w.H E hr
  refine ⟨tWB _ body, pb_w.nox, ?_⟩
  refine lb.run w h _ _ _ _ (srel_start r) R (hc ds h Qd R.cl (by rw [← R.len]; exact r.cl) t) ⟨?_, B.ret R, fun _ _ _ _ _ _ _ q => q.elim, fun _ _ _ _ _ _ _ q => q.elim⟩
  intro w' h' σd σv l R' S' q
  exact B.ret R w' h' .non .non l R' .non q
end

section
variable {X : Cx} {e a o : Expr} {es : List Expr} {ca co : CE} {ra : CA} {pos apos : Pos} {x : Str} {p : Pos}
variable {k : Nat} {f : Addr} {fd : FuncData} {ps : List Str} {T : TSp} {dvs : List V} {ds0 : List Value} {dds : List D}
def cCall (T : TSp) (dds : List D) (c : CA) : CE := fun σ h Q => c σ h fun ds h1 => T (ds ++ dds) h1 Q
theorem lift_of {K : PySem.W.Frag} {w : Wo} {h : DH} {ds : List D} {vs : List V} {Qd : KD} {Q : VK} {E : XK} (R : HRel K w h) (r : Reps K w ds vs) (t : T ds h Qd) (B : Bears K w Qd Q) : lift K T vs w.H Q E := ⟨w, h, ds, Qd, rfl, R, r, t, B⟩
theorem le_call (F : FnOk X.prog X.w X.K X.mg X.base CX0 k f fd ps (lift X.K T)) (hr : Room k X.A) (hg : Gl X x) (hm : X.mg x = some (.ref f)) (hk : PySem.W.keepIn X.K (.ref f) = true) (hb : Binds X.K fd ps ds0) (hd : Vals dvs ds0) (hdd : ∀ w, Reps X.K w dds dvs)
    (ha : LA X (e :: es) ra) (hdb : (x == ("__debug__" : Str)) = false := by decide) (he : starEach (e :: es) X.env = (false, eval e X.env) :: starEach es X.env := by rfl) (hpl : (backTo pos (starEach es X.env)).any (·.1) = false := by rfl) :
    LE X (.Call (.Name x p) (e :: es) [] pos) (cCall T dds ra) := by
  refine ⟨fun w h σd σv Qd Q S R c B => wE (pe_call F hr hg hm hk hb hd pass0 pa_w hdb he hpl) ?_⟩
  refine ha.run w h σd σv _ _ S R c fun w1 h1 ds vs l1 R1 r1 c1 => ?_
  exact lift_of R1 (r1.append (hdd w1)) c1 (B.mono l1)
theorem le_call0 (F : FnOk X.prog X.w X.K X.mg X.base CX0 k f fd ps (lift X.K T)) (hr : Room k X.A) (hg : Gl X x) (hm : X.mg x = some (.ref f)) (hk : PySem.W.keepIn X.K (.ref f) = true) (hb : Binds X.K fd ps ds0) (hd : Vals dvs ds0) (hdd : ∀ w, Reps X.K w dds dvs)
    (hdb : (x == ("__debug__" : Str)) = false := by decide) : LE X (.Call (.Name x p) [] [] pos) (cCall T dds cNil) := by
  refine ⟨fun w h σd σv Qd Q S R c B => wE (pe_call0 F hr hg hm hk hb hd pass0 hdb) ?_⟩
  show lift X.K T ([] ++ dvs) w.H Q E0
  exact lift_of R (hdd w) c B
def objAt (h : DH) : D → Option (Addr × List (Str × D))
  | .ob C fs => some (C, fs)
  | .ref n => match h[n]? with
    | some (.ins C fs) => some (C, fs)
    | _ => none
  | _ => none
theorem HRel.obj {K : PySem.W.Frag} {w : Wo} {h : DH} {C : Addr} {fs : List (Str × D)} (R : HRel K w h) {d : D} {v : V} (r : Rep K w d v) (e : objAt h d = some (C, fs)) : ∃ a dx fv, v = .ref a ∧ w.H a = some (.ins C dx fv) ∧ FReps K w fs fv := by
  cases r with
  | ob h e0 r => cases e; exact ⟨_, _, _, rfl, e0, r⟩
  | ref hn =>
    rename_i n a
    have e' : (match h[n]? with | some (.ins C fs) => some (C, fs) | _ => none) = some (C, fs) := e
    cases q : h[n]? with
    | none => rw [q] at e'; cases e'
    | some o =>
      rw [q] at e'
      cases o with
      | ins C' fs' =>
        cases e'
        obtain ⟨dx, fv, p, rr⟩ := R.ob n _ a q hn
        exact ⟨a, dx, fv, rfl, p, rr⟩
      | _ => cases e'
  | _ => cases e
def cFld (C : Addr) (f : Str) (c : CE) : CE := fun σ h Q => c σ h fun d h1 => match objAt h1 d with
  | some (C', fs) => C' = C ∧ match fs.lookup f with
    | some x => Q x h1
    | none => False
  | none => False
theorem le_fld {C : Addr} {fl : Str} (hC : Cls X.K C) (hn : NoAttr X.K C fl) (ho : LE X o co) (hb : attributeBase o fl X.env (eval o X.env) = eval o X.env := by rfl) : LE X (.Attribute o fl pos) (cFld C fl co) := by
  refine ⟨fun w h σd σv Qd Q S R c B => wE (pe_fld pe_w hb) ?_⟩
  refine ho.run w h σd σv _ _ S R c fun w1 h1 d v l1 R1 r1 c1 => ?_
  split at c1
  · rename_i C' fs e1
    obtain ⟨rfl, c1⟩ := c1
    split at c1
    · rename_i y e2
      obtain ⟨a, dx, fv, rfl, ha, rf⟩ := R1.obj r1 e1
      obtain ⟨u, e3, ru⟩ := rf.lookup e2
      exact ⟨a, C', dx, fv, u, rfl, ha, hC, hn, e3, B w1 h1 y u l1 R1 ru c1⟩
    · exact c1.elim
  · exact c1.elim
/-- o.m(..) -/
def cMeth (C : Addr) (m : Str) (T : TSp) (dds : List D) (a : CE) (c : CA) : CE := fun σ h Q => a σ h fun d h1 => (∃ fs, objAt h1 d = some (C, fs) ∧ fs.lookup m = none) ∧ c σ h1 fun ds h2 => T (d :: (ds ++ dds)) h2 Q
theorem le_meth {C : Addr} {m : Str} {pl : Sem Bool} (ho : LE X o co) (hC : Cls X.K C) (hm : Meth X.K C m f) (F : FnOk X.prog X.w X.K X.mg X.base CX0 k f fd ps (lift X.K T)) (hr : Room k X.A) (hb : Binds X.K fd ps ds0) (hd : Vals dvs ds0) (hdd : ∀ w, Reps X.K w dds dvs) (ha : LA X (e :: es) ra)
    (hst : starEach (e :: es) X.env = (false, eval e X.env) :: starEach es X.env := by rfl) (hpl : (backTo pos (starEach es X.env)).any (·.1) = false := by rfl)
    (ht : eval (.Call (.Attribute o m apos) (e :: es) [] pos) X.env = (do
      let ov ← eval o X.env
      standAt apos.atName
      let (f, first) ← holding [ov] (getMethod ov m pl)
      callWith pos f first (backTo pos (starEach (e :: es) X.env)) (backToKw pos (keywordEach [] X.env))) := by rfl) :
    LE X (.Call (.Attribute o m apos) (e :: es) [] pos) (cMeth C m T dds co ra) := by
  refine ⟨fun w h σd σv Qd Q S R c B => wE (pe_meth pe_w hC hm F hr hb hd pass0 pa_w hst hpl ht) ?_⟩
  refine ho.run w h σd σv _ _ S R c fun w1 h1 d v l1 R1 r1 c1 => ?_
  obtain ⟨⟨fs, e1, e2⟩, c1⟩ := c1
  obtain ⟨a, dx, fv, rfl, hA, rf⟩ := R1.obj r1 e1
  refine ⟨a, dx, fv, rfl, hA, rf.none e2, ?_⟩
  refine ha.run w1 h1 σd σv _ _ (S.mono l1) R1 c1 fun w2 h2 ds vs l2 R2 r2 c2 => ?_
  exact lift_of R2 (.cons (r1.mono l2) (r2.append (hdd w2))) c2 (B.mono (l1.trans l2))
theorem le_meth0 {C : Addr} {m : Str} {pl : Sem Bool} (ho : LE X o co) (hC : Cls X.K C) (hm : Meth X.K C m f) (F : FnOk X.prog X.w X.K X.mg X.base CX0 k f fd ps (lift X.K T)) (hr : Room k X.A) (hb : Binds X.K fd ps ds0) (hd : Vals dvs ds0) (hdd : ∀ w, Reps X.K w dds dvs)
    (ht : eval (.Call (.Attribute o m apos) [] [] pos) X.env = (do
      let ov ← eval o X.env
      standAt apos.atName
      let (f, first) ← holding [ov] (getMethod ov m pl)
      callWith pos f first (backTo pos (starEach [] X.env)) (backToKw pos (keywordEach [] X.env))) := by rfl) :
    LE X (.Call (.Attribute o m apos) [] [] pos) (cMeth C m T dds co cNil) := by
  refine ⟨fun w h σd σv Qd Q S R c B => wE (pe_meth0 pe_w hC hm F hr hb hd pass0 ht) ?_⟩
  refine ho.run w h σd σv _ _ S R c fun w1 h1 d v l1 R1 r1 c1 => ?_
  obtain ⟨⟨fs, e1, e2⟩, c1⟩ := c1
  obtain ⟨a, dx, fv, rfl, hA, rf⟩ := R1.obj r1 e1
  refine ⟨a, dx, fv, rfl, hA, rf.none e2, ?_⟩
  show lift X.K T (.ref a :: ([] ++ dvs)) w1.H Q E0
  exact lift_of R1 (.cons r1 (hdd w1)) c1 (B.mono l1)
/-- a new instance -/
def Wo.ins (w : Wo) (x dx C : Addr) : Wo := ⟨w.ρ ++ [x], w.φ, upd (upd w.H dx (.own x)) x (.ins C dx [])⟩
section
variable {K : PySem.W.Frag} {w w' : Wo} {h : DH} {z dx C : Addr}
theorem HRel.leI (R : HRel K w h) (hz : w.H z = none) (hd : w.H dx = none) : w.le (w.ins z dx C) :=
  ⟨⟨[z], rfl⟩, fun a ha => ha, fun a ha => (upd_ne (R.ne hz (.inl ha))).trans (upd_ne (R.ne hd (.inl ha)))⟩
theorem HRel.ins (R : HRel K w h) (hz : w.H z = none) (hd : w.H dx = none) : HRel K (w.ins z dx C) (h ++ [.ins C []]) := by
  have np : z ∉ w.ρ := fun q => R.ne hz (.inr q) rfl
  have st : ∀ a, (w.φ a ∨ a ∈ w.ρ) → (w.ins z dx C).H a = w.H a := fun a ha => (upd_ne (R.ne hz ha)).trans (upd_ne (R.ne hd ha))
  refine ⟨by simp [Wo.ins, R.len], ?_, fun a ha => ?_, fun a ha => ?_, fun i o' a hi ha => ?_⟩
  · show (w.ρ ++ [z]).Nodup
    rw [List.nodup_append]
    refine ⟨R.nd, by simp, fun a ha b hb => ?_⟩
    simp at hb
    subst hb
    exact fun q => np (q ▸ ha)
  · intro q
    rcases List.mem_append.mp ha with y | y
    · exact R.nφ a y q
    · simp at y; subst y; exact R.ne hz (.inl q) rfl
  · rw [st a (.inl ha)]; exact R.tr a ha
  · have ha' : (w.ρ ++ [z])[i]? = some a := ha
    by_cases hl : i < h.length
    · rw [List.getElem?_append_left hl] at hi
      rw [List.getElem?_append_left (by rw [R.len]; exact hl)] at ha'
      exact (R.ob i o' a hi ha').mono (R.leI hz hd) (st a (.inr (List.mem_of_getElem? ha')))
    · have e : i = h.length := by
        have := (List.getElem?_eq_some_iff.mp hi).1
        simp at this; omega
      subst e
      simp at hi
      subst hi
      rw [← R.len] at ha'
      simp at ha'
      subst ha'
      exact ⟨dx, [], upd_same, .nil⟩
theorem HRel.insAt (R : HRel K w h) : (w.ins z dx C).ρ[h.length]? = some z := by
  show (w.ρ ++ [z])[h.length]? = some z
  rw [← R.len]
  simp
end
/-- C(..), an object that changes later; one that does not -/
def cNewM (C : Addr) (T : TSp) (dds : List D) (c : CA) : CE := fun σ h Q => c σ h fun ds h1 => T (.ref h1.length :: (ds ++ dds)) (h1 ++ [.ins C []]) fun d h2 => d = .non ∧ Q (.ref h1.length) h2
def cNewF (C : Addr) (T : TSp) (dds : List D) (c : CA) : CE := fun σ h Q => c σ h fun ds h1 => T (.ref h1.length :: (ds ++ dds)) (h1 ++ [.ins C []]) fun d h2 => d = .non ∧ ∃ fs, h2 = h1 ++ [.ins C fs] ∧ ClF h1.length fs ∧ Q (.ob C fs) h1
theorem le_newM {C : Addr} (M : Mk X.K C f) (F : FnOk X.prog X.w X.K X.mg X.base CX0 k f fd ps (lift X.K T)) (hr : Room (k + 1) X.A) (hg : Gl X x) (hm : X.mg x = some (.ref C)) (hb : Binds X.K fd ps ds0) (hd : Vals dvs ds0) (hdd : ∀ w, Reps X.K w dds dvs)
    (ha : LA X (e :: es) ra) (hdb : (x == ("__debug__" : Str)) = false := by decide) (he : starEach (e :: es) X.env = (false, eval e X.env) :: starEach es X.env := by rfl) (hpl : (backTo pos (starEach es X.env)).any (·.1) = false := by rfl) :
    LE X (.Call (.Name x p) (e :: es) [] pos) (cNewM C T dds ra) := by
  refine ⟨fun w h σd σv Qd Q S R c B => wE (pe_make M F hr hg hm hb hd pass0 pa_w hdb he hpl) ?_⟩
  refine ha.run w h σd σv _ _ S R c fun w1 h1 ds vs l1 R1 r1 c1 => fun z dx hz hdx hne => ?_
  have R2 := R1.ins (C := C) hz hdx
  have l2 := R1.leI (C := C) hz hdx
  refine lift_of R2 (.cons (.ref R1.insAt) ((r1.append (hdd w1)).mono l2)) c1 fun w3 h3 d v l3 R3 r3 c3 => ?_
  obtain ⟨rfl, c3⟩ := c3
  cases r3
  exact ⟨rfl, B w3 h3 _ _ (l1.trans (l2.trans l3)) R3 (.ref (l3.at R1.insAt)) c3⟩
theorem le_newF {C : Addr} (M : Mk X.K C f) (F : FnOk X.prog X.w X.K X.mg X.base CX0 k f fd ps (lift X.K T)) (hr : Room (k + 1) X.A) (hg : Gl X x) (hm : X.mg x = some (.ref C)) (hb : Binds X.K fd ps ds0) (hd : Vals dvs ds0) (hdd : ∀ w, Reps X.K w dds dvs)
    (ha : LA X (e :: es) ra) (hdb : (x == ("__debug__" : Str)) = false := by decide) (he : starEach (e :: es) X.env = (false, eval e X.env) :: starEach es X.env := by rfl) (hpl : (backTo pos (starEach es X.env)).any (·.1) = false := by rfl) :
    LE X (.Call (.Name x p) (e :: es) [] pos) (cNewF C T dds ra) := by
  refine ⟨fun w h σd σv Qd Q S R c B => wE (pe_make M F hr hg hm hb hd pass0 pa_w hdb he hpl) ?_⟩
  refine ha.run w h σd σv _ _ S R c fun w1 h1 ds vs l1 R1 r1 c1 => fun z dx hz hdx hne => ?_
  have R2 := R1.ins (C := C) hz hdx
  have l2 := R1.leI (C := C) hz hdx
  refine lift_of R2 (.cons (.ref R1.insAt) ((r1.append (hdd w1)).mono l2)) c1 fun w3 h3 d v l3 R3 r3 c3 => ?_
  obtain ⟨rfl, fs, rfl, cf, c3⟩ := c3
  cases r3
  refine ⟨rfl, ?_⟩
  have rz : Rep X.K w3 (.ref h1.length) (.ref z) := .ref (l3.at R1.insAt)
  exact B (w3.cut h1.length) h1 _ _ ((l1.trans (l2.trans l3)).cut (by obtain ⟨r, er⟩ := l1.ρ; have := R1.len; rw [er] at this; simp at this; omega)) (R3.cut R1.cl) (Fz.rep R3 rz (.ob (by simp) (Nat.le_refl _) cf)) c3
end
end TL

namespace TL
open PySem PySem.Spec PyProof.Rows L2
/-- the items of a list or tuple that is read -/
def seqRd (h : DH) (d : D) : Option (List D) := match tupAt d with
  | some ds => some ds
  | none => lstRd h d
section
variable {K : PySem.W.Frag} {w : Wo} {h : DH}
theorem HRel.seq (R : HRel K w h) {d : D} {v : V} {ds : List D} (r : Rep K w d v) (e : seqRd h d = some ds) : ∃ a vs, v = .ref a ∧ (SqL K w.H a vs ∨ SqT K w.H a vs) ∧ Reps K w ds vs := by
  unfold seqRd at e
  cases q : tupAt d with
  | some es => rw [q] at e; cases e; obtain ⟨a, vs, e1, e2, e3⟩ := r.tupR q; exact ⟨a, vs, e1, .inr e2.now, e3⟩
  | none => rw [q] at e; obtain ⟨a, vs, e1, e2, e3⟩ := R.lstR r e; exact ⟨a, vs, e1, .inl e2, e3⟩
theorem Reps.atI {ds : List D} {vs : List V} {i : Int} {d : D} (r : Reps K w ds vs) (e : L2.atI ds i = some d) : ∃ v, L2.atI vs i = some v ∧ Rep K w d v := by
  unfold L2.atI at e ⊢
  rw [← r.length]
  cases q : ixN ds.length i with
  | none => rw [q] at e; cases e
  | some j => rw [q] at e; exact r.get e
end
def cutD (xs : List D) (lo hi : Option Int) : List D := (xs.drop (HT.sIx xs.length 0 lo)).take (HT.sIx xs.length xs.length hi - HT.sIx xs.length 0 lo)
theorem Reps.cutD {K : PySem.W.Frag} {w : Wo} {ds : List D} {vs : List V} (r : Reps K w ds vs) (lo hi : Option Int) : Reps K w (cutD ds lo hi) (cutV vs lo hi) := by
  unfold TL.cutD cutV
  rw [← r.length]
  exact (r.drop _).take _
def keyD : D → Option Key
  | .int i => some (.inl i)
  | .str x => some (.inr x)
  | _ => none
theorem keyD_v {K : PySem.W.Frag} {w : Wo} {d : D} {v : V} {k : Key} (r : Rep K w d v) (e : keyD d = some k) : v = kV k := by
  cases r <;> first | (cases e; done) | (cases e; rfl)
def lookK (kvs : List (Key × D)) (k : Key) : Option D := (kvs.find? fun kv => decide (kv.1 = k)).map (·.2)
def putKD (kvs : List (Key × D)) (k : Key) (v : D) : List (Key × D) :=
  if (kvs.any fun kv => decide (kv.1 = k)) = true then kvs.map (fun kv => if kv.1 = k then (kv.1, v) else kv) else kvs ++ [(k, v)]
section
variable {K : PySem.W.Frag} {w : Wo} {h : DH}
theorem KReps.look : ∀ {a : List (Key × D)} {b : List (Key × V)} {k : Key} {d : D}, KReps K w a b → lookK a k = some d → ∃ v, valV b k = some v ∧ Rep K w d v
  | _, _, k, d, .nil, e => by cases e
  | p :: a, q :: b, k, d, .cons r t, e => by
    obtain ⟨r1, r2⟩ := r
    unfold lookK at e
    rw [List.find?_cons] at e
    by_cases z : p.1 = k
    · rw [decide_eq_true z] at e
      cases e
      exact ⟨q.2, valV_pos (r1 ▸ z), r2⟩
    · rw [decide_eq_false z] at e
      obtain ⟨v, h1, h2⟩ := KReps.look t e
      exact ⟨v, by rw [valV_neg (r1 ▸ z)]; exact h1, h2⟩
theorem KReps.noLook : ∀ {a : List (Key × D)} {b : List (Key × V)} {k : Key}, KReps K w a b → lookK a k = none → valV b k = none
  | _, _, k, .nil, e => rfl
  | p :: a, q :: b, k, .cons r t, e => by
    obtain ⟨r1, r2⟩ := r
    unfold lookK at e
    rw [List.find?_cons] at e
    by_cases z : p.1 = k
    · rw [decide_eq_true z] at e
      cases e
    · rw [decide_eq_false z] at e
      rw [valV_neg (r1 ▸ z)]
      exact KReps.noLook t e
theorem KReps.any (k : Key) : ∀ {a : List (Key × D)} {b : List (Key × V)}, KReps K w a b → (a.any fun kv => decide (kv.1 = k)) = (b.any fun kv => decide (kv.1 = k))
  | _, _, .nil => rfl
  | _, _, .cons r t => by rw [List.any_cons, List.any_cons, KReps.any k t, r.1]
theorem KReps.app : ∀ {a c : List (Key × D)} {b e : List (Key × V)}, KReps K w a b → KReps K w c e → KReps K w (a ++ c) (b ++ e)
  | _, _, _, _, .nil, s => s
  | _, _, _, _, .cons r t, s => .cons r (KReps.app t s)
theorem KReps.map (k : Key) {d : D} {v : V} (r : Rep K w d v) : ∀ {a : List (Key × D)} {b : List (Key × V)}, KReps K w a b → KReps K w (a.map fun kv => if kv.1 = k then (kv.1, d) else kv) (b.map fun kv => if kv.1 = k then (kv.1, v) else kv)
  | _, _, .nil => .nil
  | p :: _, q :: _, .cons s t => by
    rw [List.map_cons, List.map_cons]
    refine .cons ?_ (KReps.map k r t)
    by_cases z : p.1 = k
    · rw [if_pos z, if_pos (s.1 ▸ z)]; exact ⟨s.1, r⟩
    · rw [if_neg z, if_neg (s.1 ▸ z)]; exact s
theorem KReps.put (k : Key) {d : D} {v : V} (r : Rep K w d v) {a : List (Key × D)} {b : List (Key × V)} (s : KReps K w a b) : KReps K w (putKD a k d) (putK b k v) := by
  unfold putKD putK
  rw [KReps.any k s]
  split
  · exact KReps.map k r s
  · exact KReps.app s (.cons ⟨rfl, r⟩ .nil)
theorem KReps.length {a : List (Key × D)} {b : List (Key × V)} (s : KReps K w a b) : a.length = b.length := Paired.length s
def dctAt (h : DH) : D → Option (List (Key × D))
  | .ref n => match h[n]? with
    | some (.dct kvs) => some kvs
    | _ => none
  | _ => none
theorem HRel.dct (R : HRel K w h) {d : D} {v : V} {kvs : List (Key × D)} (r : Rep K w d v) (e : dctAt h d = some kvs) : ∃ n a kv', d = .ref n ∧ w.ρ[n]? = some a ∧ h[n]? = some (.dct kvs) ∧ v = .ref a ∧ w.H a = some (.dK kv') ∧ KReps K w kvs kv' := by
  cases r with
  | ref hn =>
    rename_i n a
    have e' : (match h[n]? with | some (.dct kvs) => some kvs | _ => none) = some kvs := e
    cases q : h[n]? with
    | none => rw [q] at e'; cases e'
    | some o =>
      rw [q] at e'
      cases o with
      | dct kvs' =>
        cases e'
        obtain ⟨kv', p, rr⟩ := R.ob n _ a q hn
        exact ⟨n, a, kv', rfl, hn, q, rfl, p, rr⟩
      | _ => cases e'
  | _ => cases e
end
section
variable {X : Cx} {e a b o : Expr} {es : List Expr} {ca cb co : CE} {ra : CA} {pos p2 : Pos}
def dIx : RD2 := fun x y h Q => match y with
  | .int i => (match x with
    | .str z => z.length ≤ sizeLine ∧ match L2.atI z.cps.toList i with
      | some c => Q (.str ⟨#[c]⟩) h
      | none => False
    | x => match seqRd h x with
      | some ds => (match L2.atI ds i with
        | some d => Q d h
        | none => False)
      | none => False)
  | _ => False
theorem le_ix (ha : LE X a ca) (hb : LE X b cb) (hs : PlainIx b) : LE X (.Subscript a b pos) (cBin dIx ca cb) := by
  refine ⟨fun w h σd σv Qd Q S R c B => wE (pe_ix ix_seq pe_w pe_w hs) ?_⟩
  refine ha.run w h σd σv _ _ S R c fun w1 h1 x vx l1 R1 r1 c1 => ?_
  refine hb.run w1 h1 σd σv _ _ (S.mono l1) R1 c1 fun w2 h2 y vy l2 R2 r2 c2 => ?_
  have hq : ∀ i : Int, y = .int i → (match seqRd h2 x with
      | some ds => (match L2.atI ds i with
        | some d => Qd d h2
        | none => False)
      | none => False) → rIx X.K vx vy w2.H Q := by
    rintro i rfl c2
    cases r2
    split at c2
    · rename_i ds e1
      split at c2
      · rename_i d e2
        obtain ⟨p, vs, rfl, hp, rp⟩ := R2.seq (r1.mono l2) e1
        obtain ⟨v, e3, rv⟩ := rp.atI e2
        have q := (B.mono (l1.trans l2)).same R2 rv c2
        rcases hp with hp | hp
        · exact .inl ⟨p, vs, i, v, rfl, rfl, hp, e3, q⟩
        · exact .inr (.inl ⟨p, vs, i, v, rfl, rfl, hp, e3, q⟩)
      · exact c2.elim
    · exact c2.elim
  cases y with
  | int i =>
    cases x with
    | str z =>
      cases r1
      cases r2
      obtain ⟨hz, c2⟩ := c2
      split at c2
      · rename_i u e1
        exact .inr (.inr ⟨z, i, u, rfl, rfl, hz, e1, (B.mono (l1.trans l2)).same R2 (.str _) c2⟩)
      · exact c2.elim
    | _ => exact hq i rfl c2
  | _ => exact c2.elim
/-- d[k] -/
def dGet : RD2 := fun x y h Q => match dctAt h x, keyD y with
  | some kvs, some k => (match lookK kvs k with
    | some d => Q d h
    | none => False)
  | _, _ => False
theorem le_dget (hu : X.A.units + 1 < cLine) (ha : LE X a ca) (hb : LE X b cb) (hs : NoSl b) : LE X (.Subscript a b pos) (cBin dGet ca cb) := by
  refine ⟨fun w h σd σv Qd Q S R c B => wE (pe_dget hu pe_w pe_w hs) ?_⟩
  refine ha.run w h σd σv _ _ S R c fun w1 h1 x vx l1 R1 r1 c1 => ?_
  refine hb.run w1 h1 σd σv _ _ (S.mono l1) R1 c1 fun w2 h2 y vy l2 R2 r2 c2 => ?_
  unfold dGet at c2
  split at c2
  · rename_i kvs k e1 e2
    split at c2
    · rename_i d e3
      obtain ⟨n, p, kv', rfl, _, _, rfl, hp, rp⟩ := R2.dct (r1.mono l2) e1
      obtain ⟨v, e4, rv⟩ := rp.look e3
      rw [keyD_v r2 e2]
      exact ⟨p, v, rfl, e4 ▸ DGet.k hp, (B.mono (l1.trans l2)).same R2 rv c2⟩
    · exact c2.elim
  · exact c2.elim
/-- k in d -/
def dHas (neg : Bool) : RD2 := fun x y h Q => match dctAt h y, keyD x with
  | some kvs, some k => Q (.bl (if neg then !(lookK kvs k).isSome else (lookK kvs k).isSome)) h
  | _, _ => False
theorem KReps.has {K : PySem.W.Frag} {w : Wo} {a : List (Key × D)} {b : List (Key × V)} {k : Key} (s : KReps K w a b) : (valV b k).isSome = (lookK a k).isSome := by
  cases q : lookK a k with
  | none => rw [s.noLook q]; rfl
  | some d => obtain ⟨v, e, _⟩ := s.look q; rw [e]; rfl
theorem le_din (hu : X.A.units + 1 < cLine) (ha : LE X a ca) (hb : LE X b cb) (hm : behindInMarks .In b = false := by rfl) : LE X (.Compare a [.In] [b] pos) (cBin (dHas false) ca cb) := by
  refine ⟨fun w h σd σv Qd Q S R c B => wE (pe_cmp (pc_din hu pe_w pe_w) hm) ?_⟩
  refine ha.run w h σd σv _ _ S R c fun w1 h1 x vx l1 R1 r1 c1 => ?_
  refine hb.run w1 h1 σd σv _ _ (S.mono l1) R1 c1 fun w2 h2 y vy l2 R2 r2 c2 => ?_
  unfold dHas at c2
  split at c2
  · rename_i kvs k e1 e2
    obtain ⟨n, p, kv', rfl, _, _, rfl, hp, rp⟩ := R2.dct r2 e1
    rw [keyD_v (r1.mono l2) e2]
    refine ⟨p, _, rfl, DGet.k hp, ?_⟩
    rw [rp.has]
    exact (B.mono (l1.trans l2)).same R2 (.bl _) c2
  · exact c2.elim
theorem le_dnin (hu : X.A.units + 1 < cLine) (ha : LE X a ca) (hb : LE X b cb) (hm : behindInMarks .NotIn b = false := by rfl) : LE X (.Compare a [.NotIn] [b] pos) (cBin (dHas true) ca cb) := by
  refine ⟨fun w h σd σv Qd Q S R c B => wE (pe_cmp (pc_dnotin hu pe_w pe_w) hm) ?_⟩
  refine ha.run w h σd σv _ _ S R c fun w1 h1 x vx l1 R1 r1 c1 => ?_
  refine hb.run w1 h1 σd σv _ _ (S.mono l1) R1 c1 fun w2 h2 y vy l2 R2 r2 c2 => ?_
  unfold dHas at c2
  split at c2
  · rename_i kvs k e1 e2
    obtain ⟨n, p, kv', rfl, _, _, rfl, hp, rp⟩ := R2.dct r2 e1
    rw [keyD_v (r1.mono l2) e2]
    refine ⟨p, _, rfl, DGet.k hp, ?_⟩
    rw [rp.has]
    exact (B.mono (l1.trans l2)).same R2 (.bl _) c2
  · exact c2.elim
abbrev CO := DS → DH → (Option Int → DH → Prop) → Prop
structure LO (X : Cx) (e : Option Expr) (c : CO) : Prop where
  run : ∀ w h σd σv (Qd : Option Int → DH → Prop) (Q : Option Int → Hp → Prop), SRel X.K w σd σv → HRel X.K w h → c σd h Qd → (∀ w' h' i, w.le w' → HRel X.K w' h' → Qd i h' → Q i w'.H) →
    ∀ pins s, Inv X pins σv w.H s → wpAny (model X.prog X.w) X.A (evalPart e X.env) (fun u s' => ∃ o H', Inv X pins σv H' s' ∧ IsPart u o ∧ Q o H') X.xe s
def cNoP : CO := fun _ h Q => Q none h
def cPart (c : CE) : CO := fun σ h Q => c σ h fun d h1 => match d with
  | .int i => Q (some i) h1
  | _ => False
theorem lo_none : LO X none cNoP := ⟨fun w h σd σv Qd Q S R c B pins s I => po_none.run pins s σv w.H Q I (B w h none (.refl w) R c)⟩
theorem lo_some (ha : LE X a ca) : LO X (some a) (cPart ca) := by
  refine ⟨fun w h σd σv Qd Q S R c B pins s I => (po_some pe_w).run pins s σv w.H Q I ?_⟩
  refine ha.run w h σd σv _ _ S R c fun w1 h1 x vx l1 R1 r1 c1 => ?_
  cases x with
  | int i => cases r1; exact ⟨i, rfl, B w1 h1 _ l1 R1 c1⟩
  | _ => exact c1.elim
def tOW (X : Cx) (e : Option Expr) : TO := fun σ H Q => ∀ pins s, Inv X pins σ H s → wpAny (model X.prog X.w) X.A (evalPart e X.env) (fun u s' => ∃ o H', Inv X pins σ H' s' ∧ IsPart u o ∧ Q o H') X.xe s
theorem po_w {e : Option Expr} : PO X e (tOW X e) := ⟨fun pins s σ H Q I h => h pins s I⟩
def dSl (x : D) (lo hi : Option Int) (h : DH) (Q : KD) : Prop := match x with
  | .str z => z.length ≤ sizeLine ∧ Q (.str (cutS z lo hi)) h
  | x => match tupAt x with
    | some ds => Q (.tup (cutD ds lo hi)) h
    | none => match lstRd h x with
      | some ds => Q (.lst (cutD ds lo hi)) h
      | none => False
def dSlM (x : D) (lo hi : Option Int) (h : DH) (Q : KD) : Prop := match lstRd h x with
  | some ds => Q (.ref h.length) (h ++ [.lst (cutD ds lo hi)])
  | none => False
def cSl (r : D → Option Int → Option Int → DH → KD → Prop) (c : CE) (cl ch : CO) : CE := fun σ h Q => c σ h fun x h1 => cl σ h1 fun l h2 => ch σ h2 fun u h3 => r x l u h3 Q
def rSlAll (K : PySem.W.Frag) : V → Option Int → Option Int → Hp → VK → Prop := fun x lo hi H Q => rSlS x lo hi H Q ∨ rSlA K x lo hi H Q ∨ rSlL K x lo hi H Q
theorem cut_whole {α : Type} {xs : List α} {n m : Nat} (h1 : n = 0) (h2 : m = xs.length) : (xs.drop n).take (m - n) = xs := by
  subst h1 h2
  simp
theorem le_slice {lo hi : Option Expr} {cl ch : CO} (ha : LE X a ca) (hl : LO X lo cl) (hh : LO X hi ch) : LE X (.Subscript a (.Slice lo hi none p2) pos) (cSl dSl ca cl ch) := by
  refine ⟨fun w h σd σv Qd Q S R c B => wE (pe_slice (r := rSlAll X.K) (sl_str.or (sl_tupA.or sl_list)) pe_w po_w po_w) ?_⟩
  refine ha.run w h σd σv _ _ S R c fun w1 h1 x vx l1 R1 r1 c1 => ?_
  refine hl.run w1 h1 σd σv _ _ (S.mono l1) R1 c1 fun w2 h2 l l2 R2 c2 => ?_
  refine hh.run w2 h2 σd σv _ _ (S.mono (l1.trans l2)) R2 c2 fun w3 h3 u l3 R3 c3 => ?_
  have r3 := r1.mono (l2.trans l3)
  have B3 := B.mono (l1.trans (l2.trans l3))
  have hq : (match tupAt x with
    | some ds => Qd (.tup (cutD ds l u)) h3
    | none => match lstRd h3 x with
      | some ds => Qd (.lst (cutD ds l u)) h3
      | none => False) → rSlAll X.K vx l u w3.H Q := by
    intro c3
    split at c3
    · rename_i ds e1
      obtain ⟨p, vs, rfl, hp, rp⟩ := r3.tupR e1
      refine .inr (.inl ⟨p, vs, rfl, hp.now, fun e => ?_, fun _ q hq => fin_tup R3 (rp.cutD l u) B3 c3 hq⟩)
      refine B3.same R3 (d := .tup (cutD ds l u)) (.tup hp ?_) c3
      have ew : cutD ds l u = ds := by
        unfold cutD
        have hn := rp.length
        exact cut_whole (by rw [hn]; exact e.1) (by rw [hn]; exact e.2)
      rw [ew]
      exact rp
    · split at c3
      · rename_i ds e1
        obtain ⟨p, vs, rfl, hp, rp⟩ := R3.lstR r3 e1
        exact .inr (.inr ⟨p, vs, rfl, hp, fun q hq => fin_lst R3 (rp.cutD l u) B3 c3 hq⟩)
      · exact c3.elim
  cases x with
  | str z => cases r3; exact .inl ⟨z, rfl, c3.1, B3.same R3 (.str _) c3.2⟩
  | _ => exact hq c3
theorem le_sliceM {lo hi : Option Expr} {cl ch : CO} (ha : LE X a ca) (hl : LO X lo cl) (hh : LO X hi ch) : LE X (.Subscript a (.Slice lo hi none p2) pos) (cSl dSlM ca cl ch) := by
  refine ⟨fun w h σd σv Qd Q S R c B => wE (pe_slice sl_list pe_w po_w po_w) ?_⟩
  refine ha.run w h σd σv _ _ S R c fun w1 h1 x vx l1 R1 r1 c1 => ?_
  refine hl.run w1 h1 σd σv _ _ (S.mono l1) R1 c1 fun w2 h2 l l2 R2 c2 => ?_
  refine hh.run w2 h2 σd σv _ _ (S.mono (l1.trans l2)) R2 c2 fun w3 h3 u l3 R3 c3 => ?_
  unfold dSlM at c3
  split at c3
  · rename_i ds e1
    obtain ⟨p, vs, rfl, hp, rp⟩ := R3.lstR (r1.mono (l2.trans l3)) e1
    exact ⟨p, vs, rfl, hp, fun q hq => fin_lstM R3 (rp.cutD l u) (B.mono (l1.trans (l2.trans l3))) c3 hq⟩
  · exact c3.elim

def tCW (X : Cx) (f : Value) : List V → Hp → VK → Prop := fun xs H Q => ∀ pins s σ us, Inv X pins σ H s → Vals xs us → wpAny (model X.prog X.w) X.A (call f us) (EP X pins σ Q) X.xe s
theorem callr_w {f : Value} : CallR X f (tCW X f) := fun pins s σ H xs us Q I r h => h pins s σ us I r
theorem wC {f : Value} {r : List V → Hp → VK → Prop} (p : CallR X f r) {xs : List V} {H : Hp} {Q : VK} (h : r xs H Q) : tCW X f xs H Q := fun pins s σ us I rr => p pins s σ H xs us Q I rr h
abbrev RDA := List D → DH → KD → Prop
def CallD (X : Cx) (f : Value) (r : RDA) : Prop := ∀ w h ds vs Qd Q, HRel X.K w h → Reps X.K w ds vs → r ds h Qd → Bears X.K w Qd Q → tCW X f vs w.H Q
def cB (r : RDA) (c : CA) : CE := fun σ h Q => c σ h fun ds h1 => r ds h1 Q
theorem le_callB {id : String} {r : RDA} {x : Str} {p : Pos} (hc : CallD X (.builtin id) r) (hg : Gl X x) (hm : X.mg x = none) (hv : bootBuiltins x = some (.builtin id)) (ha : LA X (e :: es) ra) (hn : x ≠ "__name__" := by decide) (hdb : (x == ("__debug__" : Str)) = false := by decide)
    (he : starEach (e :: es) X.env = (false, eval e X.env) :: starEach es X.env := by rfl) (hpl : (backTo pos (starEach es X.env)).any (·.1) = false := by rfl) : LE X (.Call (.Name x p) (e :: es) [] pos) (cB r ra) := by
  refine ⟨fun w h σd σv Qd Q S R c B => wE (pe_callB callr_w hg hm hv pa_w hn hdb he hpl) ?_⟩
  exact ha.run w h σd σv _ _ S R c fun w1 h1 ds vs l1 R1 r1 c1 => hc w1 h1 ds vs _ _ R1 r1 c1 (B.mono l1)
theorem le_callTy {T : String} {r : RDA} {x : Str} {p : Pos} (hc : CallD X (.type T) r) (hg : Gl X x) (hm : X.mg x = none) (hv : bootBuiltins x = some (.type T)) (ha : LA X (e :: es) ra) (hn : x ≠ "__name__" := by decide) (hdb : (x == ("__debug__" : Str)) = false := by decide)
    (he : starEach (e :: es) X.env = (false, eval e X.env) :: starEach es X.env := by rfl) (hpl : (backTo pos (starEach es X.env)).any (·.1) = false := by rfl) : LE X (.Call (.Name x p) (e :: es) [] pos) (cB r ra) := by
  refine ⟨fun w h σd σv Qd Q S R c B => wE (pe_callTy callr_w hg hm hv pa_w hn hdb he hpl) ?_⟩
  exact ha.run w h σd σv _ _ S R c fun w1 h1 ds vs l1 R1 r1 c1 => hc w1 h1 ds vs _ _ R1 r1 c1 (B.mono l1)
theorem Reps.one {K : PySem.W.Frag} {w : Wo} {d : D} {vs : List V} (r : Reps K w [d] vs) : ∃ v, vs = [v] ∧ Rep K w d v := by
  cases r with
  | cons a b => cases b; exact ⟨_, rfl, a⟩
theorem Reps.two {K : PySem.W.Frag} {w : Wo} {d e : D} {vs : List V} (r : Reps K w [d, e] vs) : ∃ v u, vs = [v, u] ∧ Rep K w d v ∧ Rep K w e u := by
  cases r with
  | cons a b =>
    obtain ⟨u, rfl, s⟩ := b.one
    exact ⟨_, u, rfl, a, s⟩
/-- len -/
def dLen : RDA := fun ds h Q => match ds with
  | [.str z] => z.length ≤ sizeLine ∧ Q (.int z.length) h
  | [x] => (match seqRd h x with
    | some xs => Q (.int xs.length) h
    | none => False)
  | _ => False
theorem cd_len : CallD X (.builtin "len") dLen := by
  intro w h ds vs Qd Q R r c B
  cases ds with
  | nil => exact c.elim
  | cons d ds =>
    cases ds with
    | cons d' ds => cases d <;> exact c.elim
    | nil =>
      obtain ⟨v, rfl, rd⟩ := r.one
      have hq : (match seqRd h d with
        | some xs => Qd (.int xs.length) h
        | none => False) → tCW X (.builtin "len") [v] w.H Q := by
        intro c
        split at c
        · rename_i xs e1
          obtain ⟨p, us, rfl, hp, rp⟩ := R.seq rd e1
          refine wC call_len_seq ⟨p, us, rfl, hp, ?_⟩
          rw [← rp.length]
          exact B.same R (.int _) c
        · exact c.elim
      cases d with
      | str z => cases rd; exact wC call_len_str ⟨z, rfl, c.1, B.same R (.int _) c.2⟩
      | _ => exact hq c
/-- list(x): not changed later; changed later; tuple(x) -/
def dList : RDA := fun ds h Q => match ds with
  | [x] => (match seqRd h x with
    | some xs => Q (.lst xs) h
    | none => False)
  | _ => False
def dListM : RDA := fun ds h Q => match ds with
  | [x] => (match seqRd h x with
    | some xs => Q (.ref h.length) (h ++ [.lst xs])
    | none => False)
  | _ => False
theorem cd_list : CallD X (.type "list") dList := by
  intro w h ds vs Qd Q R r c B
  unfold dList at c
  split at c
  · rename_i d
    split at c
    · rename_i xs e1
      obtain ⟨v, rfl, rd⟩ := r.one
      obtain ⟨p, us, rfl, hp, rp⟩ := R.seq rd e1
      exact wC call_list_of ⟨p, us, rfl, hp, fun q hq => fin_lst R rp B c hq⟩
    · exact c.elim
  · exact c.elim
theorem cd_listM : CallD X (.type "list") dListM := by
  intro w h ds vs Qd Q R r c B
  unfold dListM at c
  split at c
  · rename_i d
    split at c
    · rename_i xs e1
      obtain ⟨v, rfl, rd⟩ := r.one
      obtain ⟨p, us, rfl, hp, rp⟩ := R.seq rd e1
      exact wC call_list_of ⟨p, us, rfl, hp, fun q hq => fin_lstM R rp B c hq⟩
    · exact c.elim
  · exact c.elim
def dTuple : RDA := fun ds h Q => match ds with
  | [x] => (match tupAt x with
    | some xs => Q x h
    | none => match lstRd h x with
      | some xs => Q (.tup xs) h
      | none => False)
  | _ => False
theorem cd_tuple : CallD X (.type "tuple") dTuple := by
  intro w h ds vs Qd Q R r c B
  unfold dTuple at c
  split at c
  · rename_i d
    obtain ⟨v, rfl, rd⟩ := r.one
    split at c
    · rename_i xs e1
      obtain ⟨p, us, rfl, hp, rp⟩ := rd.tupR e1
      exact wC call_tuple_of ⟨p, us, rfl, .inr ⟨hp.now, B.same R rd c⟩⟩
    · split at c
      · rename_i xs e1
        obtain ⟨p, us, rfl, hp, rp⟩ := R.lstR rd e1
        exact wC call_tuple_of ⟨p, us, rfl, .inl ⟨hp, fun q hq => fin_tup R rp B c hq⟩⟩
      · exact c.elim
  · exact c.elim
/-- all, any of a list of bools -/
def boolsOf : List D → Option (List Bool)
  | [] => some []
  | .bl b :: r => (boolsOf r).map (b :: ·)
  | _ :: _ => none
theorem bools_v {K : PySem.W.Frag} {w : Wo} : ∀ {ds : List D} {vs : List V} {bs : List Bool}, Reps K w ds vs → boolsOf ds = some bs → vs = bs.map V.bl
  | _, _, _, .nil, e => by cases e; rfl
  | d :: ds, _, _, .cons a b, e => by
    cases d with
    | bl k =>
      simp only [boolsOf, Option.map_eq_some_iff] at e
      obtain ⟨bs, e1, rfl⟩ := e
      cases a
      rw [bools_v b e1]
      rfl
    | _ => cases e
def dAll (f : List Bool → Bool) : RDA := fun ds h Q => match ds with
  | [x] => (match (lstRd h x).bind boolsOf with
    | some bs => Q (.bl (f bs)) h
    | none => False)
  | _ => False
theorem cd_all (hc : X.calm = true) : CallD X (.builtin "all") (dAll fun bs => bs.all id) := by
  intro w h ds vs Qd Q R r c B
  unfold dAll at c
  split at c
  · rename_i d
    split at c
    · rename_i bs e1
      obtain ⟨v, rfl, rd⟩ := r.one
      obtain ⟨xs, e2, e3⟩ := Option.bind_eq_some_iff.mp e1
      obtain ⟨p, us, rfl, hp, rp⟩ := R.lstR rd e2
      have := bools_v rp e3
      subst this
      exact wC (cr_all hc) ⟨p, bs, rfl, hp, B.same R (.bl _) c⟩
    · exact c.elim
  · exact c.elim
theorem cd_any (hc : X.calm = true) : CallD X (.builtin "any") (dAll fun bs => bs.any id) := by
  intro w h ds vs Qd Q R r c B
  unfold dAll at c
  split at c
  · rename_i d
    split at c
    · rename_i bs e1
      obtain ⟨v, rfl, rd⟩ := r.one
      obtain ⟨xs, e2, e3⟩ := Option.bind_eq_some_iff.mp e1
      obtain ⟨p, us, rfl, hp, rp⟩ := R.lstR rd e2
      have := bools_v rp e3
      subst this
      exact wC (cr_any hc) ⟨p, bs, rfl, hp, B.same R (.bl _) c⟩
    · exact c.elim
  · exact c.elim
/-- int(x) of an int or a bool -/
def dInt : RDA := fun ds h Q => match ds with
  | [.int i] => Q (.int i) h
  | [.bl b] => Q (.int (if b then 1 else 0)) h
  | _ => False
theorem cd_int : CallD X (.type "int") dInt := by
  intro w h ds vs Qd Q R r c B
  unfold dInt at c
  split at c
  · obtain ⟨v, rfl, rd⟩ := r.one
    cases rd
    exact wC call_int1 (.inl ⟨_, rfl, B.same R (.int _) c⟩)
  · obtain ⟨v, rfl, rd⟩ := r.one
    cases rd
    exact wC call_int1 (.inr ⟨_, rfl, B.same R (.int _) c⟩)
  · exact c.elim
/-- dict(d): a new dict -/
theorem fin_dct {w : Wo} {h : DH} {kvs : List (Key × D)} {kv' : List (Key × V)} {Qd : KD} {Q : VK} {p : Addr} (R : HRel X.K w h) (r : KReps X.K w kvs kv') (B : Bears X.K w Qd Q) (q : Qd (.ref h.length) (h ++ [.dct kvs])) (hp : w.H p = none) : Q (.ref p) (upd w.H p (.dK kv')) := by
  refine B (w.new p (.dK kv')) _ _ _ (R.leN hp) (R.new (o := .dct kvs) hp ⟨kv', upd_same, r.mono (R.leN hp)⟩) (.ref ?_) q
  show (w.ρ ++ [p])[h.length]? = some p
  rw [← R.len]
  simp
def dDict : RDA := fun ds h Q => match ds with
  | [x] => (match dctAt h x with
    | some kvs => Q (.ref h.length) (h ++ [.dct kvs])
    | none => False)
  | _ => False
theorem cd_dict : CallD X (.type "dict") dDict := by
  intro w h ds vs Qd Q R r c B
  unfold dDict at c
  split at c
  · rename_i d
    split at c
    · rename_i kvs e1
      obtain ⟨v, rfl, rd⟩ := r.one
      obtain ⟨n, p, kv', rfl, _, _, rfl, hp, rp⟩ := R.dct rd e1
      exact wC call_dictD ⟨p, kv', rfl, .inl hp, fun q hq => fin_dct R rp B c hq⟩
    · exact c.elim
  · exact c.elim
theorem le_dnew : LE X (.Dict [] [] pos) (fun _ h Q => Q (.ref h.length) (h ++ [.dct []])) :=
  ⟨fun w h σd σv Qd Q S R c B => wE pe_dnewK fun p hp => fin_dct R .nil B c hp⟩
/-- isinstance of a built-in type; of one of several -/
def tyN (h : DH) : D → String
  | .non => "NoneType"
  | .bl _ => "bool"
  | .int _ => "int"
  | .str _ => "str"
  | .tup _ => "tuple"
  | .xtup _ => "tuple"
  | .lst _ => "list"
  | .klst _ => "list"
  | .ref n => (match h[n]? with
    | some (.lst _) => "list"
    | some (.dct _) => "dict"
    | _ => "object")
  | _ => "object"
theorem SqT.ty {K : PySem.W.Frag} {H : Hp} {a : Addr} {vs : List V} (h : SqT K H a vs) : TyX K H (.ref a) (.type "tuple") := by
  rcases h with (h | ⟨o, h⟩) | ⟨o, its, n, hk, hc, _⟩
  · exact .base (.tup h)
  · exact .fTuple h
  · exact .kTuple hk hc
theorem SqL.ty {K : PySem.W.Frag} {H : Hp} {a : Addr} {vs : List V} (h : SqL K H a vs) : TyX K H (.ref a) (.type "list") := by
  rcases h with (h | ⟨o, h⟩) | ⟨o, its, n, hk, hc, _⟩
  · exact .base (.lst h)
  · exact .base (.frz h)
  · exact .kList hk hc
theorem HRel.ty {K : PySem.W.Frag} {w : Wo} {h : DH} (R : HRel K w h) {d : D} {v : V} (r : Rep K w d v) (hn : tyN h d ≠ "object") : TyX K w.H v (.type (tyN h d)) := by
  cases r with
  | non => exact .base .non
  | bl b => exact .base (.bl b)
  | int i => exact .base (.int i)
  | str x => exact .base (.str x)
  | tup hp r => exact SqT.ty hp.now
  | lst hp e r => exact SqL.ty (SqL.of e)
  | klst hp r => exact SqL.ty hp.now
  | xtup hp e z r => exact SqT.ty (.inl (.inr ⟨_, e⟩))
  | ref hn' =>
    rename_i n a
    cases q : h[n]? with
    | none => exact absurd (by show (match h[n]? with | some (.lst _) => "list" | some (.dct _) => "dict" | _ => "object") = _; rw [q]) hn
    | some o =>
      have e : tyN h (.ref n) = (match (some o : Option O) with | some (.lst _) => "list" | some (.dct _) => "dict" | _ => "object") := by rw [← q]; rfl
      cases o with
      | lst ds => obtain ⟨vs, p, rr⟩ := R.ob n _ a q hn'; rw [e]; exact .base (.lst p)
      | dct ds => obtain ⟨vs, p, rr⟩ := R.ob n _ a q hn'; rw [e]; exact .base (.dK p)
      | _ => exact absurd e hn
  | _ => exact absurd rfl hn
/-- the answer for the type of a value and a built-in type -/
def isiB (a b : String) : Bool := (kitB a b).getD false
def dIsi (T : String) : RDA := fun ds h Q => match ds with
  | [x, .ty t] => t = T ∧ tyN h x ≠ "object" ∧ (kitB (tyN h x) T).isSome = true ∧ Q (.bl (isiB (tyN h x) T)) h
  | _ => False
theorem cd_isi (T : String) : CallD X (.builtin "isinstance") (dIsi T) := by
  intro w h ds vs Qd Q R r c B
  unfold dIsi at c
  split at c
  · rename_i x t
    obtain ⟨rfl, c1, c2, c⟩ := c
    obtain ⟨v, u, rfl, rd, rt⟩ := r.two
    cases rt
    obtain ⟨b, eb⟩ := Option.isSome_iff_exists.mp c2
    refine wC call_isi ⟨v, .ty t, .type (tyN h x), .type t, b, rfl, .ty t, R.ty rd c1, kit_ty eb, B.same R (.bl _) ?_⟩
    unfold isiB at c
    rw [eb] at c
    exact c
  · exact c.elim
end
end TL

namespace TL
open PySem PySem.Spec PyProof.Rows L2
section
variable {X : Cx} {e tg iter : Expr} {es : List Expr} {ce : CE} {pos : Pos}
def cgName (i : Nat) : CG := fun d σ h Q => Q (σ.set i (some d)) h
theorem wipe_set (σ : L2.St) (i : Nat) (o : Option V) : ∀ vs : List Nat, i ∈ vs → L2.wipe (σ.set i o) vs = L2.wipe σ vs
  | [], hi => absurd hi (by simp)
  | v :: vs, hi => by
    unfold L2.wipe
    by_cases q : i ∈ vs
    · rw [wipe_set σ i o vs q]
    · have e : i = v := by
        rcases List.mem_cons.mp hi with z | z
        · exact z
        · exact absurd z q
      subst e
      have comm : ∀ us : List Nat, (L2.wipe (σ.set i o) us).set i none = (L2.wipe σ us).set i none := by
        intro us
        induction us with
        | nil => unfold L2.wipe; rw [List.set_set]
        | cons u us ih =>
          unfold L2.wipe
          by_cases z : u = i
          · subst z; rw [List.set_set, List.set_set]; exact ih
          · rw [List.set_comm _ _ z, ih, List.set_comm _ _ (Ne.symm z)]
      exact comm vs
theorem wipe_mono {σ τ : L2.St} {js : List Nat} : ∀ {ks : List Nat}, L2.wipe σ js = L2.wipe τ js → (∀ j ∈ js, j ∈ ks) → L2.wipe σ ks = L2.wipe τ ks := by
  intro ks h hs
  have hl : σ.length = τ.length := by
    have := congrArg List.length h
    rw [L2.wipe_length, L2.wipe_length] at this
    exact this
  have at_ : ∀ (υ : L2.St) (ls : List Nat) (i : Nat), (L2.wipe υ ls)[i]? = if i ∈ ls then (if i < υ.length then some none else none) else υ[i]? := by
    intro υ ls i
    induction ls with
    | nil => simp [L2.wipe]
    | cons l ls ih =>
      unfold L2.wipe
      rw [List.getElem?_set, L2.wipe_length]
      by_cases z : l = i
      · subst z; simp
      · have z' : ¬ i = l := fun q => z q.symm
        simp only [z, if_false, ih, List.mem_cons, z', false_or]
  apply List.ext_getElem?
  intro i
  have hi := congrArg (fun l : L2.St => l[i]?) h
  simp only [at_] at hi
  rw [at_, at_]
  by_cases z : i ∈ ks
  · simp only [z, if_true, hl]
  · have z' : ¬ i ∈ js := fun q => z (hs i q)
    simp only [z, z', if_false] at hi ⊢
    exact hi
theorem lg_name {i : Nat} {x : Str} (hN : X.N.Nodup) (hi : X.N[i]? = some x) (hx : Loc X.env.scope x) (hf : X.fn x = true ∨ X.env.scope.names.lookup x = some .local := by first | exact .inl rfl | exact .inr rfl | assumption) : LG X (.Name x pos) [i] (cgName i) := by
  refine ⟨fun w h σd σv d v Qd Q S R r c B => wG (pg_name hN hi hx hf) ?_⟩
  exact B w h _ _ (.refl w) R (S.set r i) (wipe_set _ _ _ _ (by simp)) c
def cgsNil : CGs := fun ds σ h Q => match ds with
  | [] => Q σ h
  | _ => False
def cgsCons (t : CG) (u : CGs) : CGs := fun ds σ h Q => match ds with
  | d :: r => t d σ h fun σ' h' => u r σ' h' Q
  | [] => False
theorem lgs_nil : LGs X [] [] cgsNil := by
  refine ⟨fun w h σd σv ds vs Qd Q S R r c B => wGs pgs_nil ?_⟩
  cases r with
  | nil => exact ⟨rfl, B w h _ _ (.refl w) R S rfl c⟩
  | cons a b => exact c.elim
theorem lgs_cons {js ks : List Nat} {t : CG} {u : CGs} (h1 : LG X e js t) (h2 : LGs X es ks u) (hs : (assignEach (e :: es) X.env).map (·.2) = assign e X.env :: (assignEach es X.env).map (·.2) := by rfl) : LGs X (e :: es) (js ++ ks) (cgsCons t u) := by
  refine ⟨fun w h σd σv ds vs Qd Q S R r c B => wGs (pgs_cons pg_w pgs_w hs) ?_⟩
  cases r with
  | nil => exact c.elim
  | cons a b =>
    refine ⟨_, _, rfl, ?_⟩
    refine h1.run w h σd σv _ _ _ _ S R a c fun w1 h1' σ1 τ1 l1 R1 S1 e1 c1 => ?_
    refine h2.run w1 h1' σ1 τ1 _ _ _ _ S1 R1 (b.mono l1) c1 fun w2 h2' σ2 τ2 l2 R2 S2 e2 c2 => ?_
    refine B w2 h2' _ _ (l1.trans l2) R2 S2 ?_ c2
    exact (wipe_mono e2 (by intro j hj; exact List.mem_append_right _ hj)).trans (wipe_mono e1 (by intro j hj; exact List.mem_append_left _ hj))
def cgTup (n : Nat) (t : CGs) : CG := fun d σ h Q => match tupAt d with
  | some ds => ds.length = n ∧ t ds σ h Q
  | none => False
theorem lg_tup {js : List Nat} {k : Nat} {t : CGs} {n : Nat} (hc : X.calm = true) (h : LGs X es js t) (hn : (assignEach es X.env).length = n := by rfl) (hst : (assignEach es X.env).findIdx? (·.1) = none := by rfl) : LG X (.Tuple es k pos) js (cgTup n t) := by
  refine ⟨fun w h' σd σv d v Qd Q S R r c B => wG (pg_tup hc pgs_w hn hst) ?_⟩
  unfold cgTup at c
  split at c
  · rename_i ds e1
    obtain ⟨a, vs, rfl, hp, rp⟩ := r.tupR e1
    exact ⟨a, vs, rfl, hp.now, by rw [← rp.length]; exact c.1, h.run w h' σd σv _ _ _ _ S R rp c.2 B⟩
  · exact c.elim
/-- one argument, two -/
theorem wA1 {a : Expr} {ca : CE} (ha : LE X a ca) (hs : starEach [a] X.env = [(false, eval a X.env)]) {w : Wo} {h : DH} {σd : DS} {σv : L2.St} {Qd : KD} {Q : List V → Hp → Prop} (S : SRel X.K w σd σv) (R : HRel X.K w h) (c : ca σd h Qd)
    (B : ∀ w' h' x v, w.le w' → HRel X.K w' h' → Rep X.K w' x v → Qd x h' → Q [v] w'.H) : tWA X [a] σv w.H Q := by
  refine wA (pa_cons pe_w pa_w hs) ?_
  exact ha.run w h σd σv _ _ S R c fun w1 h1 x v l1 R1 r1 c1 => wA pa_nil (B w1 h1 x v l1 R1 r1 c1)
theorem wA2 {a b : Expr} {ca cb : CE} (ha : LE X a ca) (hb : LE X b cb) (hs : starEach [a, b] X.env = (false, eval a X.env) :: starEach [b] X.env) (hs2 : starEach [b] X.env = [(false, eval b X.env)]) {w : Wo} {h : DH} {σd : DS} {σv : L2.St} {Qd : D → D → DH → Prop} {Q : List V → Hp → Prop} (S : SRel X.K w σd σv) (R : HRel X.K w h) (c : ca σd h fun x h1 => cb σd h1 fun y h2 => Qd x y h2)
    (B : ∀ w' h' x y v u, w.le w' → HRel X.K w' h' → Rep X.K w' x v → Rep X.K w' y u → Qd x y h' → Q [v, u] w'.H) : tWA X [a, b] σv w.H Q := by
  refine wA (pa_cons pe_w pa_w hs) ?_
  refine ha.run w h σd σv _ _ S R c fun w1 h1 x v l1 R1 r1 c1 => ?_
  exact wA1 hb hs2 (S.mono l1) R1 c1 fun w2 h2 y u l2 R2 r2 c2 => B w2 h2 x y v u (l1.trans l2) R2 (r1.mono l2) r2 c2
structure Wlk (K : PySem.W.Frag) (w : Wo) (J : It) (items : List D) (G : DH → Prop) : Prop where
  goes : ∀ w2 h2 i, w.le w2 → HRel K w2 h2 → G h2 → i < items.length → J.go i w2.H
  stops : ∀ w2 h2, w.le w2 → HRel K w2 h2 → G h2 → J.stop items.length w2.H
  yields : ∀ w2 h2 i x H', w.le w2 → HRel K w2 h2 → G h2 → i < items.length → J.yld i w2.H x H' → ∃ w3, w2.le w3 ∧ HRel K w3 h2 ∧ w3.H = H' ∧ ∃ d, items[i]? = some d ∧ Rep K w3 d x
abbrev CI := DS → DH → (List D → (DH → Prop) → DH → Prop) → Prop
structure LI (X : Cx) (tg iter : Expr) (c : CI) : Prop where
  run : ∀ w h σd σv Qd (R : It → Hp → Prop), SRel X.K w σd σv → HRel X.K w h → c σd h Qd → (∀ w' h' J items G, w.le w' → HRel X.K w' h' → Wlk X.K w' J items G → Qd items G h' → R J w'.H) → tWI X tg iter σv w.H R
/-- a list or a tuple -/
def iSeq (K : PySem.W.Frag) (tl : TE) : TI := fun σ H R => tl σ H fun x H1 => ∃ a, x = .ref a ∧ (((∃ xs, SqL K H1 a xs) ∧ R (Itl K a) H1) ∨ ((∃ xs, SqT K H1 a xs) ∧ R (Itt K a) H1))
theorem pi_seq {l : Expr} {tl : TE} (hl : PE X l tl) : PI X tg l (iSeq X.K tl) := by
  refine ⟨fun pins s σ H R I hyp => thn (hl.run pins s σ H _ I hyp) fun v s1 ⟨x, H1, I1, r1, a, e, q1⟩ => ?_⟩
  subst e
  cases r1
  have fp : ∀ b ∈ [s1.heap.objs.size], FpOk X pins H1 b := fun b hb => by
    have e : b = s1.heap.objs.size := by simpa using hb
    subst e
    exact I1.fpOk (Nat.le_refl _) (I1.hok.fresh (Nat.le_refl _))
  rcases q1 with ⟨⟨xs, hq⟩, q⟩ | ⟨⟨xs, hq⟩, q⟩
  · obtain ⟨its, rv, pl, hz⟩ := I1.list hq
    exact wpAny_pyIter_list pl.isList ⟨s1.heap.objs.size, [s1.heap.objs.size], _, _, H1, rfl, I1.kept (t' := s1.toks) fun b o z => Heap.get?_push_of_some _ z, turn_list a _, ⟨_, Heap.get?_push_size _ rfl, rfl, rfl⟩, fp, q⟩
  · obtain ⟨its, rv, pl, hz⟩ := I1.tuple hq
    exact wpAny_pyIter_tuple (show s1.heap.IsTuple a its.toArray from pl) ⟨s1.heap.objs.size, [s1.heap.objs.size], _, _, H1, rfl, I1.kept (t' := s1.toks) fun b o z => Heap.get?_push_of_some _ z, turn_tuple a _, ⟨_, Heap.get?_push_size _ rfl, rfl, rfl⟩, fp, q⟩
def ciSeq (c : CE) : CI := fun σ h Q => c σ h fun x h1 => match tupAt x with
  | some ds => Q ds (fun _ => True) h1
  | none => match lstRd h1 x with
    | some ds => Q ds (fun h' => lstRd h' x = some ds) h1
    | none => False
theorem Reps.ix {K : PySem.W.Frag} {w : Wo} {ds : List D} {vs : List V} {i : Nat} {x : V} (r : Reps K w ds vs) (e : vs[i]? = some x) : ∃ d, ds[i]? = some d ∧ Rep K w d x := r.getV e
theorem wlk_tup {w : Wo} {ds : List D} {vs : List V} {a : Addr} (hp : PT' X.K w a vs) (rp : Reps X.K w ds vs) : Wlk X.K w (Itt X.K a) ds fun _ => True := by
  have hn := rp.length
  refine ⟨fun w2 h2 i l R _ hi => walk_tup.goes i _ (by omega) (hp.mono l).now, fun w2 h2 l R _ => by rw [hn]; exact walk_tup.stops _ (hp.mono l).now, fun w2 h2 i x H' l R _ hi y => ?_⟩
  obtain ⟨rfl, e⟩ := walk_tup.yields i _ x H' (by omega) (hp.mono l).now y
  exact ⟨w2, .refl w2, R, rfl, (rp.mono l).ix e⟩
theorem wlk_lst {w : Wo} {d : D} {v : V} {ds : List D} (r : Rep X.K w d v) {a : Addr} (hv : v = .ref a) : Wlk X.K w (Itl X.K a) ds fun h' => lstRd h' d = some ds := by
  refine ⟨fun w2 h2 i l R G hi => ?_, fun w2 h2 l R G => ?_, fun w2 h2 i x H' l R G hi y => ?_⟩
  · obtain ⟨b, vs, e1, hq, rp⟩ := R.lstR (r.mono l) G
    rw [hv] at e1; cases e1
    exact walk_list.goes i _ (by rw [← rp.length]; exact hi) hq
  · obtain ⟨b, vs, e1, hq, rp⟩ := R.lstR (r.mono l) G
    rw [hv] at e1; cases e1
    rw [rp.length]
    exact walk_list.stops _ hq
  · obtain ⟨b, vs, e1, hq, rp⟩ := R.lstR (r.mono l) G
    rw [hv] at e1; cases e1
    obtain ⟨rfl, e⟩ := walk_list.yields i _ x H' (by rw [← rp.length]; exact hi) hq y
    exact ⟨w2, .refl w2, R, rfl, rp.ix e⟩
theorem li_seq (ha : LE X iter ce) : LI X tg iter (ciSeq ce) := by
  refine ⟨fun w h σd σv Qd Rr S R c B => wI (pi_seq pe_w) ?_⟩
  refine ha.run w h σd σv _ _ S R c fun w1 h1 x v l1 R1 r1 c1 => ?_
  split at c1
  · rename_i ds e1
    obtain ⟨a, vs, rfl, hp, rp⟩ := r1.tupR e1
    exact ⟨a, rfl, .inr ⟨⟨vs, hp.now⟩, B w1 h1 _ _ _ l1 R1 (wlk_tup hp rp) c1⟩⟩
  · split at c1
    · rename_i ds e1
      obtain ⟨a, vs, rfl, hq, rp⟩ := R1.lstR r1 e1
      exact ⟨a, rfl, .inl ⟨⟨vs, hq⟩, B w1 h1 _ _ _ l1 R1 (wlk_lst r1 rfl) c1⟩⟩
    · exact c1.elim
/-- range(n) -/
def rangeD (lo : Int) (n : Nat) : List D := (List.range n).map fun i => .int (lo + (i : Nat))
def ciRange1 (c : CE) : CI := fun σ h Q => c σ h fun x h1 => match x with
  | .int j => -(2 ^ 62) ≤ j ∧ j < 2 ^ 62 ∧ Q (rangeD 0 j.toNat) (fun _ => True) h1
  | _ => False
theorem wlk_range {w : Wo} {lo : Int} {n : Nat} : Wlk X.K w (Itr lo n) (rangeD lo n) fun _ => True := by
  have hl : (rangeD lo n).length = n := by simp [rangeD]
  refine ⟨fun w2 h2 i l R _ hi => by rw [hl] at hi; exact walk_range.goes i w2.H hi trivial, fun w2 h2 l R _ => by rw [hl]; exact walk_range.stops w2.H trivial, fun w2 h2 i x H' l R _ hi y => ?_⟩
  rw [hl] at hi
  obtain ⟨rfl, rfl⟩ := walk_range.yields i w2.H x H' hi trivial y
  exact ⟨w2, .refl w2, R, rfl, .int (lo + (i : Nat)), by simp [rangeD, hi], .int _⟩
theorem li_range1 {a : Expr} {ca : CE} {p : Pos} (hg : Gl X "range") (hm : X.mg "range" = none) (ha : LE X a ca) (hs : starEach [a] X.env = [(false, eval a X.env)] := by rfl) : LI X tg (.Call (.Name "range" p) [a] [] pos) (ciRange1 ca) := by
  refine ⟨fun w h σd σv Qd Rr S R c B => wI (pi_range1 hg hm pa_w hs) ?_⟩
  refine wA1 ha hs S R c fun w1 h1 x v l1 R1 r1 c1 => ?_
  cases x with
  | int j => cases r1; exact ⟨j, rfl, c1.1, c1.2.1, B w1 h1 _ _ _ l1 R1 wlk_range c1.2.2⟩
  | _ => exact c1.elim
/-- pairs: zip of two lists or of two tuples; enumerate of a list -/
theorem Wo.pairAt {w : Wo} {h : DH} (R : HRel X.K w h) {x y : V} {dx dy : D} (rx : Rep X.K w dx x) (ry : Rep X.K w dy y) {T : Addr} (hT : w.H T = none) : w.le (w.frz T (.tup [x, y])) ∧ HRel X.K (w.frz T (.tup [x, y])) h ∧ Rep X.K (w.frz T (.tup [x, y])) (.tup [dx, dy]) (.ref T) :=
  ⟨R.leF hT, R.frz hT, .tup (w.frzT T _) (.cons (rx.mono (R.leF hT)) (.cons (ry.mono (R.leF hT)) .nil))⟩
def enumD (ds : List D) : List D := ds.mapIdx fun i d => .tup [.int (i : Nat), d]
def zipD (xs ys : List D) : List D := (xs.zip ys).map fun p => .tup [p.1, p.2]
theorem wlk_enum {w : Wo} {d : D} {v : V} {ds : List D} (r : Rep X.K w d v) {a : Addr} (hv : v = .ref a) : Wlk X.K w (Ite X.K a) (enumD ds) fun h' => lstRd h' d = some ds := by
  have hl : (enumD ds).length = ds.length := by simp [enumD]
  refine ⟨fun w2 h2 i l R G hi => ?_, fun w2 h2 l R G => ?_, fun w2 h2 i x H' l R G hi y => ?_⟩
  · obtain ⟨b, vs, e1, hq, rp⟩ := R.lstR (r.mono l) G
    rw [hv] at e1; cases e1
    exact walk_enum.goes i _ (by rw [← rp.length, ← hl]; exact hi) hq
  · obtain ⟨b, vs, e1, hq, rp⟩ := R.lstR (r.mono l) G
    rw [hv] at e1; cases e1
    rw [hl, rp.length]
    exact walk_enum.stops _ hq
  · obtain ⟨b, vs, e1, hq, rp⟩ := R.lstR (r.mono l) G
    rw [hv] at e1; cases e1
    obtain ⟨T, x1, x2, rfl, hT, rfl, q1, q2⟩ := walk_enum.yields i _ x H' (by rw [← rp.length, ← hl]; exact hi) hq y
    cases q1
    obtain ⟨d2, e2, r2⟩ := rp.ix q2
    obtain ⟨p1, p2, p3⟩ := Wo.pairAt R (.int (i : Nat)) r2 hT
    exact ⟨_, p1, p2, rfl, _, by simp [enumD, e2], p3⟩
def ciEnum (c : CE) : CI := fun σ h Q => c σ h fun x h1 => match lstRd h1 x with
  | some ds => Q (enumD ds) (fun h' => lstRd h' x = some ds) h1
  | none => False
theorem li_enum {a : Expr} {ca : CE} {p tpos : Pos} {elts : List Expr} {kk : Nat} (hg : Gl X "enumerate") (hm : X.mg "enumerate" = none) (ha : LE X a ca) (hs : starEach [a] X.env = [(false, eval a X.env)] := by rfl) : LI X (.Tuple elts kk tpos) (.Call (.Name "enumerate" p) [a] [] pos) (ciEnum ca) := by
  refine ⟨fun w h σd σv Qd Rr S R c B => wI (pi_enum hg hm pa_w hs) ?_⟩
  refine wA1 ha hs S R c fun w1 h1 x v l1 R1 rv c1 => ?_
  split at c1
  · rename_i ds e1
    obtain ⟨b, us, rfl, hq, rp⟩ := R1.lstR rv e1
    exact ⟨b, us, rfl, hq, B w1 h1 _ _ _ l1 R1 (wlk_enum rv rfl) c1⟩
  · exact c1.elim
/-- the turns of a loop -/
def turns (G : DH → Prop) (g : CG) (b : CS) (E : DE) : List D → DS → DH → Prop
  | [], σ, h => G h ∧ E.nx σ h
  | d :: ds, σ, h => G h ∧ g d σ h fun σ' h' => b { nx := turns G g b E ds, rt := E.rt, bk := E.nx, ct := turns G g b E ds } σ' h'
def cFor (ci : CI) (g : CG) (b : CS) : CS := fun E σ h => ci σ h fun items G h1 => turns G g b E items σ h1
theorem turns_G {G : DH → Prop} {g : CG} {b : CS} {E : DE} {ds : List D} {σ : DS} {h : DH} (t : turns G g b E ds σ h) : G h := by
  cases ds with
  | nil => exact t.1
  | cons d ds => exact t.1
theorem ls_for {body : List Stmt} {ci : CI} {js : List Nat} {g : CG} {b : CS} (hp : PassesOwn (model X.prog X.w) X.A X.env X.xe) (hc : X.calm = true) (hi : LI X tg iter ci) (hg : LG X tg js g) (hb : LB X body b)
    (hs : ∀ x, foldedSetIterable iter X.env x = pure x := by intro _; rfl) : LS X (.For tg iter body [] pos) (cFor ci g b) := by
  refine ⟨fun w h σd σv E F S R c B => wS (ps_for hp hc pi_w pg_w pb_w hs) ?_⟩
  refine hi.run w h σd σv _ _ S R c fun w1 h1 J items G l1 R1 Wk c1 => ?_
  refine ⟨fun i m σ H => m = items.length - i ∧ i ≤ items.length ∧ ∃ w2 h2 σd2, w1.le w2 ∧ w2.H = H ∧ SRel X.K w2 σd2 σ ∧ HRel X.K w2 h2 ∧ turns G g b E (items.drop i) σd2 h2, ⟨_, rfl, Nat.zero_le _, w1, h1, σd, .refl w1, rfl, S.mono l1, R1, c1⟩, ?_⟩
  rintro i m σ H ⟨rfl, hi, w2, h2, σd2, l2, rfl, S2, R2, t2⟩
  by_cases hlt : i < items.length
  · refine .inr ⟨Wk.goes w2 h2 i l2 R2 (turns_G t2) hlt, fun σ' H' => ∃ w3 h3 σd3, w1.le w3 ∧ w3.H = H' ∧ SRel X.K w3 σd3 σ' ∧ HRel X.K w3 h3 ∧ turns G g b E (items.drop (i + 1)) σd3 h3, fun σ' H' ⟨w3, h3, σd3, l3, e3, S3, R3, t3⟩ => ⟨_, by omega, rfl, hlt, w3, h3, σd3, l3, e3, S3, R3, t3⟩, fun x H' y => ?_⟩
    obtain ⟨w3, l3, R3, rfl, d, e, r⟩ := Wk.yields w2 h2 i x H' l2 R2 (turns_G t2) hlt y
    rw [List.drop_eq_getElem_cons hlt] at t2
    have ed : items[i] = d := by rw [List.getElem?_eq_getElem hlt] at e; exact Option.some.inj e
    rw [ed] at t2
    have L3 := l2.trans l3
    refine hg.run w3 h2 σd2 σ d x _ _ (S2.mono l3) R3 r t2.2 fun w4 h4 σd4 σv4 l4 R4 S4 _ c4 => ?_
    refine hb.run w4 h4 σd4 σv4 _ _ S4 R4 c4 ⟨?_, B.rt.mono (l1.trans (L3.trans l4)), B.nx.mono (l1.trans (L3.trans l4)), ?_⟩
    · intro w5 h5 σd5 σv5 l5 R5 S5 t5
      exact ⟨w5, h5, σd5, (L3.trans l4).trans l5, rfl, S5, R5, t5⟩
    · intro w5 h5 σd5 σv5 l5 R5 S5 t5
      exact ⟨w5, h5, σd5, (L3.trans l4).trans l5, rfl, S5, R5, t5⟩
  · have ei : i = items.length := by omega
    subst ei
    rw [List.drop_length] at t2
    exact .inl ⟨Wk.stops w2 h2 l2 R2 t2.1, B.nx w2 h2 σd2 σ (l1.trans l2) R2 S2 t2.2⟩
def cWhile (t : CT) (b : CS) : CS := fun E σ h => ∃ W : Nat → DS → DH → Prop, (∃ m, W m σ h) ∧ ∀ m σ h, W m σ h →
  t σ h fun k h1 => if k = true then b { nx := fun σ' h' => ∃ m', m' < m ∧ W m' σ' h', rt := E.rt, bk := E.nx, ct := fun σ' h' => ∃ m', m' < m ∧ W m' σ' h' } σ h1 else E.nx σ h1
theorem ls_while {c : Expr} {body : List Stmt} {t : CT} {b : CS} (hp : PassesOwn (model X.prog X.w) X.A X.env X.xe) (hc : LT X c t) (hb : LB X body b) : LS X (.While c body [] pos) (cWhile t b) := by
  refine ⟨fun w h σd σv E F S R c B => wS (ps_while hp pt_w pb_w) ?_⟩
  obtain ⟨W, ⟨m0, W0⟩, step⟩ := c
  refine ⟨fun m σ H => ∃ w2 h2 σd2, w.le w2 ∧ w2.H = H ∧ SRel X.K w2 σd2 σ ∧ HRel X.K w2 h2 ∧ W m σd2 h2, ⟨m0, w, h, σd, .refl w, rfl, S, R, W0⟩, ?_⟩
  rintro m σ H ⟨w2, h2, σd2, l2, rfl, S2, R2, W2⟩
  refine hc.run w2 h2 σd2 σ _ _ S2 R2 (step m σd2 h2 W2) fun w3 h3 k l3 R3 c3 => ?_
  cases k with
  | false => exact B.nx w3 h3 σd2 σ (l2.trans l3) R3 (S2.mono l3) c3
  | true =>
    rw [if_pos rfl] at c3 ⊢
    refine ⟨fun σ' H' => ∃ m', m' < m ∧ ∃ w4 h4 σd4, w.le w4 ∧ w4.H = H' ∧ SRel X.K w4 σd4 σ' ∧ HRel X.K w4 h4 ∧ W m' σd4 h4, fun σ' H' ⟨m', lt, r⟩ => ⟨m', lt, r⟩, ?_⟩
    refine hb.run w3 h3 σd2 σ _ _ (S2.mono l3) R3 c3 ⟨?_, B.rt.mono (l2.trans l3), B.nx.mono (l2.trans l3), ?_⟩
    · rintro w5 h5 σd5 σv5 l5 R5 S5 ⟨m', lt, t5⟩
      exact ⟨m', lt, w5, h5, σd5, (l2.trans l3).trans l5, rfl, S5, R5, t5⟩
    · rintro w5 h5 σd5 σv5 l5 R5 S5 ⟨m', lt, t5⟩
      exact ⟨m', lt, w5, h5, σd5, (l2.trans l3).trans l5, rfl, S5, R5, t5⟩
end
end TL

namespace TL
open PySem PySem.Spec PyProof.Rows L2
/-- the block of a comprehension -/
abbrev Blk (X : Cx) (scope : Scope) (P : Cx → Prop) : Prop := ∀ (s : Shared) (H : Hp) (C : Addr) (cl : List (Str × Addr)) (fp : List Addr), P (X.blk s H scope (compEnvC scope cl C X.env) fp)
def lcTurns (G : DH → Prop) (g : CG) (t : CT) (e : CE) (n0 : Nat) (σ0 : DS) (Q : List D → DH → Prop) : List D → List D → DH → Prop
  | [], acc, h => G h ∧ h[n0]? = some (.lst acc) ∧ Q acc h
  | d :: ds, acc, h => G h ∧ h[n0]? = some (.lst acc) ∧ g d σ0 h fun σ2 h2 => t σ2 h2 fun b h3 => if b = true then e σ2 h3 fun y h4 => h4[n0]? = some (.lst acc) ∧ acc.length < sizeLine ∧ lcTurns G g t e n0 σ0 Q ds (acc ++ [y]) (h4.set n0 (.lst (acc ++ [y]))) else lcTurns G g t e n0 σ0 Q ds acc h3
/-- the new list, not changed later -/
def lcEnd (n0 : Nat) (Q : KD) : List D → DH → Prop := fun acc h => h.length = n0 + 1 ∧ ClL n0 acc ∧ HCl (h.take n0) ∧ Q (.lst acc) (h.take n0)
def cLc (ci : CI) (g : CG) (t : CT) (e : CE) (vs : List Nat) : CE := fun σ h Q => ci σ h fun items G h1 => lcTurns G g t e h1.length (wipeD σ vs) (lcEnd h1.length Q) items [] (h1 ++ [.lst []])
def cLcM (ci : CI) (g : CG) (t : CT) (e : CE) (vs : List Nat) : CE := fun σ h Q => ci σ h fun items G h1 => lcTurns G g t e h1.length (wipeD σ vs) (fun acc h' => Q (.ref h1.length) h') items [] (h1 ++ [.lst []])
def dcTurns (G : DH → Prop) (g : CG) (t : CT) (ek ev : CE) (n0 : Nat) (σ0 : DS) (Q : DH → Prop) : List D → DH → Prop
  | [], h => G h ∧ Q h
  | d :: ds, h => G h ∧ g d σ0 h fun σ2 h2 => t σ2 h2 fun b h3 => if b = true then ek σ2 h3 fun y h4 => ev σ2 h4 fun z h5 => (match keyD y, h5[n0]? with
      | some k, some (.dct kvs) => kvs.length < sizeLine ∧ dcTurns G g t ek ev n0 σ0 Q ds (h5.set n0 (.dct (putKD kvs k z)))
      | _, _ => False) else dcTurns G g t ek ev n0 σ0 Q ds h3
def cDc (ci : CI) (g : CG) (t : CT) (ek ev : CE) (vs : List Nat) : CE := fun σ h Q => ci σ h fun items G h1 => dcTurns G g t ek ev h1.length (wipeD σ vs) (Q (.ref h1.length)) items (h1 ++ [.dct []])
def cYes : CT := fun _ h Q => Q true h
structure LTs (X : Cx) (ifs : List Expr) (c : CT) : Prop where
  run : ∀ w h σd σv (Qd : Bool → DH → Prop) (Q : Bool → Hp → Prop), SRel X.K w σd σv → HRel X.K w h → c σd h Qd → BearsT X.K w Qd Q →
    ∀ pins s, Inv X pins σv w.H s → wpAny (model X.prog X.w) X.A (forIn ifs true fun c r => if r = true then do let ok ← isTrue c X.env (eval c X.env); pure (ForInStep.yield ok) else pure (ForInStep.yield r)) (TP X pins σv Q) X.xe s
section
variable {X : Cx} {elt tg iter kx vx : Expr} {ifs : List Expr} {scope : Scope} {own : List (Str × Nat)} {pos spos : Pos}
theorem lts_nil : LTs X [] cYes := ⟨fun w h σd σv Qd Q S R c B pins s I => pts_nil.run pins s σv w.H Q I (B w h true (.refl w) R c)⟩
theorem lts_one {e : Expr} {t : CT} (h : LT X e t) : LTs X [e] t := ⟨fun w hh σd σv Qd Q S R c B pins s I => (pts_one pt_w).run pins s σv w.H Q I (h.run w hh σd σv Qd Q S R c B)⟩
/-- what a part of the block does, whatever its frame -/
def gU (X : Cx) (scope : Scope) (tg : Expr) : TG := fun v σ H Q => Blk X scope fun Y => tWG Y tg v σ H Q
def eU (X : Cx) (scope : Scope) (e : Expr) : TE := fun σ H Q => Blk X scope fun Y => tW Y e σ H Q
def tsU (X : Cx) (scope : Scope) (ifs : List Expr) : TT := fun σ H Q => Blk X scope fun Y => ∀ pins s, Inv Y pins σ H s → wpAny (model Y.prog Y.w) Y.A (forIn ifs true fun c r => if r = true then do let ok ← isTrue c Y.env (eval c Y.env); pure (ForInStep.yield ok) else pure (ForInStep.yield r)) (TP Y pins σ Q) Y.xe s
theorem gU_ok : ∀ (s : Shared) (H : Hp) (C : Addr) (cl : List (Str × Addr)) (fp : List Addr), PG (X.blk s H scope (compEnvC scope cl C X.env) fp) tg (gU X scope tg) := fun s H C cl fp => ⟨fun pins s' σ H' v u Q I r h => h s H C cl fp pins s' u I r⟩
theorem eU_ok : ∀ (s : Shared) (H : Hp) (C : Addr) (cl : List (Str × Addr)) (fp : List Addr), PE (X.blk s H scope (compEnvC scope cl C X.env) fp) elt (eU X scope elt) := fun s H C cl fp => ⟨fun pins s' σ H' Q I h => h s H C cl fp pins s' I⟩
theorem tsU_ok : ∀ (s : Shared) (H : Hp) (C : Addr) (cl : List (Str × Addr)) (fp : List Addr), PTs (X.blk s H scope (compEnvC scope cl C X.env) fp) ifs (tsU X scope ifs) := fun s H C cl fp => ⟨fun pins s' σ H' Q I h => h s H C cl fp pins s' I⟩
theorem Reps.snoc {K : PySem.W.Frag} {w : Wo} {ds : List D} {vs : List V} {d : D} {v : V} (r : Reps K w ds vs) (q : Rep K w d v) : Reps K w (ds ++ [d]) (vs ++ [v]) := r.append (.cons q .nil)
theorem wipe_wipe (σ : L2.St) (vs : List Nat) : L2.wipe (L2.wipe σ vs) vs = L2.wipe σ vs := by
  apply List.ext_getElem?
  intro i
  have at_ : ∀ (υ : L2.St) (ls : List Nat) (i : Nat), (L2.wipe υ ls)[i]? = if i ∈ ls then (if i < υ.length then some none else none) else υ[i]? := by
    intro υ ls i
    induction ls with
    | nil => simp [L2.wipe]
    | cons l ls ih =>
      unfold L2.wipe
      rw [List.getElem?_set, L2.wipe_length]
      by_cases z : l = i
      · subst z; simp
      · have z' : ¬ i = l := fun q => z q.symm
        simp only [z, if_false, ih, List.mem_cons, z', false_or]
  rw [at_, at_, L2.wipe_length]
  split <;> rfl
theorem lc_at {G : DH → Prop} {g : CG} {t : CT} {e : CE} {n0 : Nat} {σ0 : DS} {Q : List D → DH → Prop} {ds acc : List D} {h : DH} (c : lcTurns G g t e n0 σ0 Q ds acc h) : h[n0]? = some (.lst acc) := by
  cases ds with
  | nil => exact c.2.1
  | cons d ds => exact c.2.1
/-- the reading of a list comprehension, from that over trees -/
theorem lc_read {ci : CI} {g : CG} {t : CT} {e : CE} {js : List Nat} (hi : LI X tg iter ci) (hj : ∀ j ∈ js, j ∈ own.map (·.2)) (hg : Blk X scope fun Y => LG Y tg js g) (ht : Blk X scope fun Y => LTs Y ifs t) (he : Blk X scope fun Y => LE Y elt e)
    {w : Wo} {h : DH} {σd : DS} {σv : L2.St} {Qd : KD} {Q : VK} (S : SRel X.K w σd σv) (R : HRel X.K w h) (E : List D → DH → Nat → Prop)
    (c : ci σd h fun items G h1 => lcTurns G g t e h1.length (wipeD σd (own.map (·.2))) (fun acc h' => E acc h' h1.length) items [] (h1 ++ [.lst []]))
    (fin : ∀ w1 h1 (p : Addr) acc (vs : List V), w.le w1 → HRel X.K w1 h1 → ∀ n0, w1.ρ[n0]? = some p → w.ρ.length ≤ n0 → h1[n0]? = some (.lst acc) → E acc h1 n0 → Q (.ref p) w1.H) :
    tLc (tWI X tg iter) (gU X scope tg) (tsU X scope ifs) (eU X scope elt) (own.map (·.2)) σv w.H Q := by
  refine hi.run w h σd σv _ _ S R c fun w1 h1 J items G l1 R1 Wk c1 => fun p hp => ?_
  have n0 : (w1.new p (.lst [])).ρ[h1.length]? = some p := by
    show (w1.ρ ++ [p])[h1.length]? = some p
    rw [← R1.len]; simp
  have hlen : w.ρ.length ≤ h1.length := by
    obtain ⟨r, er⟩ := l1.ρ
    have := R1.len
    rw [er] at this
    simp at this
    omega
  have W1 : HRel X.K (w1.new p (.lst [])) (h1 ++ [.lst []]) := R1.new (o := .lst []) hp ⟨[], upd_same, .nil⟩
  have L1 := l1.trans (R1.leN (o := .lst []) hp)
  refine ⟨fun i m H => m = items.length - i ∧ i ≤ items.length ∧ ∃ w2 h2 acc, (w1.new p (.lst [])).le w2 ∧ w2.H = H ∧ HRel X.K w2 h2 ∧ h2[h1.length]? = some (.lst acc) ∧ lcTurns G g t e h1.length (wipeD σd (own.map (·.2))) (fun acc h' => E acc h' h1.length) (items.drop i) acc h2,
    ⟨_, rfl, Nat.zero_le _, _, _, [], .refl _, rfl, W1, by simp, c1⟩, ?_⟩
  rintro i m H ⟨rfl, hi', w2, h2, acc, l2, rfl, R2, e2, t2⟩
  have lw : w1.le w2 := (R1.leN (o := .lst []) hp).trans l2
  by_cases hlt : i < items.length
  · rw [List.drop_eq_getElem_cons hlt] at t2
    obtain ⟨G2, _, t2⟩ := t2
    refine .inr ⟨Wk.goes w2 h2 i lw R2 G2 hlt, fun H' => ∃ w3 h3 acc3, (w1.new p (.lst [])).le w3 ∧ w3.H = H' ∧ HRel X.K w3 h3 ∧ h3[h1.length]? = some (.lst acc3) ∧ lcTurns G g t e h1.length (wipeD σd (own.map (·.2))) (fun acc h' => E acc h' h1.length) (items.drop (i + 1)) acc3 h3,
      fun H' ⟨w3, h3, acc3, z⟩ => ⟨_, by omega, rfl, hlt, w3, h3, acc3, z⟩, fun x H' y => ?_⟩
    obtain ⟨w3, l3, R3, rfl, d, ed, r⟩ := Wk.yields w2 h2 i x H' lw R2 G2 hlt y
    have e : items[i] = d := by rw [List.getElem?_eq_getElem hlt] at ed; exact Option.some.inj ed
    rw [e] at t2
    intro s0 H0 C0 cl0 fp0
    refine (hg s0 H0 C0 cl0 fp0).run w3 h2 _ _ d x _ _ ((S.mono (L1.trans (l2.trans l3))).wipe _) R3 r t2 fun w4 h4 σd4 σv4 l4 R4 S4 ew c4 => ?_
    refine ⟨(wipe_mono ew hj).trans (wipe_wipe σv (own.map (·.2))), ?_⟩
    intro s1 H1 C1 cl1 fp1
    refine (ht s1 H1 C1 cl1 fp1).run w4 h4 σd4 σv4 _ _ S4 R4 c4 fun w5 h5 b l5 R5 c5 => ?_
    cases b with
    | false =>
      rw [if_neg Bool.false_ne_true] at c5 ⊢
      have a5 : h5[h1.length]? = some (.lst acc) := lc_at c5
      exact ⟨w5, h5, acc, l2.trans (l3.trans (l4.trans l5)), rfl, R5, a5, c5⟩
    | true =>
      rw [if_pos rfl] at c5 ⊢
      intro s2 H2 C2 cl2 fp2
      refine (he s2 H2 C2 cl2 fp2).run w5 h5 σd4 σv4 _ _ (S4.mono l5) R5 c5 fun w6 h6 y v l6 R6 r6 c6 => ?_
      obtain ⟨a6, s6, c6⟩ := c6
      have l26 := l2.trans (l3.trans (l4.trans (l5.trans l6)))
      have n6 := l26.at n0
      obtain ⟨vs, p6, r6'⟩ := R6.ob _ _ _ a6 n6
      refine ⟨vs, p6, by rw [← r6'.length]; exact s6, w6.put p (.lst (vs ++ [v])), h6.set h1.length (.lst (acc ++ [y])), acc ++ [y], l26.trans (R6.leP (List.mem_of_getElem? n6)), rfl, R6.put n6 ⟨vs ++ [v], upd_same, (r6'.snoc r6).mono (R6.leP (List.mem_of_getElem? n6))⟩, ?_, c6⟩
      rw [List.getElem?_set_self (R6.len ▸ (List.getElem?_eq_some_iff.mp n6).1)]
  · have ei : i = items.length := by omega
    subst ei
    rw [List.drop_length] at t2
    refine .inl ⟨Wk.stops w2 h2 lw R2 t2.1, ?_⟩
    obtain ⟨vs, p2, _⟩ := R2.ob _ _ _ e2 (l2.at n0)
    exact fin w2 h2 p acc vs (L1.trans l2) R2 _ (l2.at n0) hlen e2 t2.2.2
theorem lc_fin {K : PySem.W.Frag} {w w1 : Wo} {h1 : DH} {Qd : KD} {Q : VK} {acc : List D} {p : Addr} {n0 : Nat} (B : Bears K w Qd Q) (l : w.le w1) (R1 : HRel K w1 h1) (e0 : w1.ρ[n0]? = some p) (hn : w.ρ.length ≤ n0) (ea : h1[n0]? = some (.lst acc)) (q : lcEnd n0 Qd acc h1) : Q (.ref p) w1.H := by
  obtain ⟨q1, q2, q3, q4⟩ := q
  have hl : (h1.take n0).length = n0 := by rw [List.length_take]; omega
  have hh : h1 = h1.take n0 ++ h1.drop n0 := (List.take_append_drop n0 h1).symm
  have R2 : HRel K w1 (h1.take n0 ++ h1.drop n0) := hh ▸ R1
  have R3 := R2.cut q3
  rw [hl] at R3
  have r3 := Fz.rep (h := h1.take n0) R2 (.ref e0) (.lst (ds := acc) (by rw [← hh]; exact ea) (by omega) (by rw [hl]; exact q2))
  rw [hl] at r3
  exact B (w1.cut n0) (h1.take n0) _ _ (l.cut hn) R3 r3 q4
theorem le_lc {ci : CI} {g : CG} {t : CT} {e : CE} {js : List Nat} (hc : X.calm = true) (hN : X.N.Nodup) (hi : LI X tg iter ci) (ok : BlkOk X.N X.env.scope scope own) (hj : ∀ j ∈ js, j ∈ own.map (·.2)) (hg : Blk X scope fun Y => LG Y tg js g) (ht : Blk X scope fun Y => LTs Y ifs t) (he : Blk X scope fun Y => LE Y elt e)
    (hs : ∀ x, foldedSetIterable iter X.env x = pure x := by intro _; rfl) : LE X (.ListComp elt [⟨tg, iter, ifs, 0⟩] scope pos) (cLc ci g t e (own.map (·.2))) := by
  refine ⟨fun w h σd σv Qd Q S R c B => wE (pe_lc hc hN pi_w ok gU_ok tsU_ok eU_ok hs) ?_⟩
  exact lc_read (Qd := Qd) hi hj hg ht he S R (fun acc h' n0 => lcEnd n0 Qd acc h') c fun w1 h1 p acc vs l R1 n0 e0 hn ea q => lc_fin B l R1 e0 hn ea q
theorem le_lcM {ci : CI} {g : CG} {t : CT} {e : CE} {js : List Nat} (hc : X.calm = true) (hN : X.N.Nodup) (hi : LI X tg iter ci) (ok : BlkOk X.N X.env.scope scope own) (hj : ∀ j ∈ js, j ∈ own.map (·.2)) (hg : Blk X scope fun Y => LG Y tg js g) (ht : Blk X scope fun Y => LTs Y ifs t) (he : Blk X scope fun Y => LE Y elt e)
    (hs : ∀ x, foldedSetIterable iter X.env x = pure x := by intro _; rfl) : LE X (.ListComp elt [⟨tg, iter, ifs, 0⟩] scope pos) (cLcM ci g t e (own.map (·.2))) := by
  refine ⟨fun w h σd σv Qd Q S R c B => wE (pe_lc hc hN pi_w ok gU_ok tsU_ok eU_ok hs) ?_⟩
  exact lc_read (Qd := Qd) hi hj hg ht he S R (fun acc h' n0 => Qd (.ref n0) h') c fun w1 h1 p acc vs l R1 n0 e0 hn ea q => B w1 h1 _ _ l R1 (.ref e0) q
def cNext : CS := fun E σ h => E.nx σ h
def cSeq (t u : CS) : CS := fun E σ h => t { E with nx := u E } σ h
variable {st : Stmt} {rest : List Stmt} {c1 c2 : CS} {e a b : Expr} {ce ca cb : CE}
theorem lb_nil : LB X [] cNext := ⟨fun w h σd σv E F S R c B => wB pss_nil (B.nx w h σd σv (.refl w) R S c)⟩
theorem lb_cons (h1 : LS X st c1) (h2 : LB X rest c2) : LB X (st :: rest) (cSeq c1 c2) := by
  refine ⟨fun w h σd σv E F S R c B => wB (pss_cons ps_w pb_w) ?_⟩
  refine h1.run w h σd σv _ _ S R c ⟨?_, B.rt, B.bk, B.ct⟩
  intro w1 h1' σ1 τ1 l1 R1 S1 q
  exact h2.run w1 h1' σ1 τ1 _ _ S1 R1 q (B.mono l1)
theorem lb_one (h1 : LS X st c1) : LB X [st] c1 := ⟨fun w h σd σv E F S R c B => wB (pss_one ps_w) (h1.run w h σd σv E F S R c B)⟩
def cNever : CS := fun _ _ _ => False
theorem ls_never : LS X st cNever := ⟨fun _ _ _ _ _ _ _ _ c _ => c.elim⟩
theorem lb_never {sts : List Stmt} : LB X sts cNever := ⟨fun _ _ _ _ _ _ _ _ c _ => c.elim⟩
theorem ls_pass : LS X (.Pass pos) cNext := ⟨fun w h σd σv E F S R c B => wS ps_pass (B.nx w h σd σv (.refl w) R S c)⟩
theorem ls_break : LS X (.Break pos) (fun E σ h => E.bk σ h) := ⟨fun w h σd σv E F S R c B => wS ps_break (B.bk w h σd σv (.refl w) R S c)⟩
theorem ls_continue : LS X (.Continue pos) (fun E σ h => E.ct σ h) := ⟨fun w h σd σv E F S R c B => wS ps_continue (B.ct w h σd σv (.refl w) R S c)⟩
def cDrop (c : CE) : CS := fun E σ h => c σ h fun _ h1 => E.nx σ h1
theorem ls_expr (he : LE X e ce) (hs : swapsWith e none pos.line X.env = pure false := by rfl) : LS X (.Expr e pos) (cDrop ce) := by
  refine ⟨fun w h σd σv E F S R c B => wS (ps_expr pe_w hs) ?_⟩
  exact he.run w h σd σv _ _ S R c fun w1 h1 d v l1 R1 r1 q => B.nx w1 h1 σd σv l1 R1 (S.mono l1) q
def cRet (c : CE) : CS := fun E σ h => c σ h E.rt
theorem ls_ret (he : LE X e ce) : LS X (.Return (some e) pos) (cRet ce) := ⟨fun w h σd σv E F S R c B => wS (ps_ret pe_w) (he.run w h σd σv _ _ S R c B.rt)⟩
theorem ls_retN : LS X (.Return none pos) (fun E σ h => E.rt .non h) := ⟨fun w h σd σv E F S R c B => wS ps_retN (B.rt w h .non .non (.refl w) R .non c)⟩
def cIfS (t : CT) (u v : CS) : CS := fun E σ h => t σ h fun k h1 => if k = true then u E σ h1 else v E σ h1
theorem ls_if {c : Expr} {p q : List Stmt} {t : CT} {u v : CS} (hc : LT X c t) (ha : LB X p u) (hb : LB X q v) : LS X (.If c p q pos) (cIfS t u v) := by
  refine ⟨fun w h σd σv E F S R cc B => wS (ps_if pt_w pb_w pb_w) ?_⟩
  refine hc.run w h σd σv _ _ S R cc fun w1 h1 k l1 R1 q1 => ?_
  cases k with
  | true => exact ha.run w1 h1 σd σv E F (S.mono l1) R1 q1 (B.mono l1)
  | false => exact hb.run w1 h1 σd σv E F (S.mono l1) R1 q1 (B.mono l1)
def cAsg (c : CE) (g : CG) : CS := fun E σ h => c σ h fun d h1 => g d σ h1 E.nx
theorem ls_asg {g : CG} {js : List Nat} (he : LE X e ce) (hg : LG X tg js g) (hs : swapsWithSole [tg] e pos.line X.env = pure false := by rfl) (hw : swappedStores [tg] e X.env = pure none := by rfl) (h1 : (assignEach [tg] X.env).map (·.2) = [assign tg X.env] := by rfl) :
    LS X (.Assign [tg] e pos) (cAsg ce g) := by
  refine ⟨fun w h σd σv E F S R c B => wS (ps_asg pe_w pg_w hs hw h1) ?_⟩
  refine he.run w h σd σv _ _ S R c fun w1 h1 d v l1 R1 r1 q => ?_
  exact hg.run w1 h1 σd σv d v _ _ (S.mono l1) R1 r1 q fun w2 h2 σ2 τ2 l2 R2 S2 _ q2 => B.nx w2 h2 σ2 τ2 (l1.trans l2) R2 S2 q2
theorem ls_set {i : Nat} {x : Str} {pos' : Pos} (hN : X.N.Nodup) (hi : X.N[i]? = some x) (hx : Loc X.env.scope x) (he : LE X e ce) (hs : swapsWith e (some (.Name x pos')) pos.line X.env = pure false := by rfl) (hf : X.fn x = true ∨ X.env.scope.names.lookup x = some .local := by first | exact .inl rfl | exact .inr rfl | assumption) :
    LS X (.Assign [.Name x pos'] e pos) (cAsg ce (cgName i)) := by
  refine ⟨fun w h σd σv E F S R c B => wS (ps_set hN hi hx pe_w hs hf) ?_⟩
  exact he.run w h σd σv _ _ S R c fun w1 h1 d v l1 R1 r1 q => B.nx w1 h1 _ _ l1 R1 ((S.mono l1).set r1 i) q
theorem ls_setLc {i : Nat} {y : Str} {py : Pos} {ci : CI} {g : CG} {t : CT} {el : CE} {js : List Nat} (hc : X.calm = true) (hN : X.N.Nodup) (hy : X.N[i]? = some y) (hyl : X.env.scope.names.lookup y = some .local)
    (hsw : swapsWith (.ListComp elt [⟨tg, iter, ifs, 0⟩] scope pos) (some (.Name y py)) spos.line X.env = pure true) (hi : LI X tg iter ci) (ok : BlkOk X.N X.env.scope scope own) (hj : ∀ j ∈ js, j ∈ own.map (·.2)) (hg : Blk X scope fun Y => LG Y tg js g) (ht : Blk X scope fun Y => LTs Y ifs t) (he : Blk X scope fun Y => LE Y elt el)
    (hs : ∀ x, foldedSetIterable iter X.env x = pure x := by intro _; rfl) : LS X (.Assign [.Name y py] (.ListComp elt [⟨tg, iter, ifs, 0⟩] scope pos) spos) (cAsg (cLc ci g t el (own.map (·.2))) (cgName i)) := by
  refine ⟨fun w h σd σv E F S R c B => wS (ps_setLc hc hN hy hyl hsw pi_w ok gU_ok tsU_ok eU_ok hs) ?_⟩
  have B' : Bears X.K w (fun d h1 => E.nx (σd.set i (some d)) h1) (fun v H1 => F.nx (σv.set i (some v)) H1) := fun w1 h1 d v l1 R1 r1 q => B.nx w1 h1 _ _ l1 R1 ((S.mono l1).set r1 i) q
  exact lc_read (Q := fun x H1 => gName i x σv H1 F.nx) (Qd := fun d h1 => E.nx (σd.set i (some d)) h1) hi hj hg ht he S R (fun acc h' n0 => lcEnd n0 (fun d h1 => E.nx (σd.set i (some d)) h1) acc h') c fun w1 h1 p acc vs l R1 n0 e0 hn ea q => lc_fin B' l R1 e0 hn ea q
theorem ls_setLcM {i : Nat} {y : Str} {py : Pos} {ci : CI} {g : CG} {t : CT} {el : CE} {js : List Nat} (hc : X.calm = true) (hN : X.N.Nodup) (hy : X.N[i]? = some y) (hyl : X.env.scope.names.lookup y = some .local)
    (hsw : swapsWith (.ListComp elt [⟨tg, iter, ifs, 0⟩] scope pos) (some (.Name y py)) spos.line X.env = pure true) (hi : LI X tg iter ci) (ok : BlkOk X.N X.env.scope scope own) (hj : ∀ j ∈ js, j ∈ own.map (·.2)) (hg : Blk X scope fun Y => LG Y tg js g) (ht : Blk X scope fun Y => LTs Y ifs t) (he : Blk X scope fun Y => LE Y elt el)
    (hs : ∀ x, foldedSetIterable iter X.env x = pure x := by intro _; rfl) : LS X (.Assign [.Name y py] (.ListComp elt [⟨tg, iter, ifs, 0⟩] scope pos) spos) (cAsg (cLcM ci g t el (own.map (·.2))) (cgName i)) := by
  refine ⟨fun w h σd σv E F S R c B => wS (ps_setLc hc hN hy hyl hsw pi_w ok gU_ok tsU_ok eU_ok hs) ?_⟩
  exact lc_read (Q := fun x H1 => gName i x σv H1 F.nx) (Qd := fun d h1 => E.nx (σd.set i (some d)) h1) hi hj hg ht he S R (fun acc h' n0 => E.nx (σd.set i (some (.ref n0))) h') c fun w1 h1 p acc vs l R1 n0 e0 hn ea q => B.nx w1 h1 _ _ l R1 ((S.mono l).set (.ref e0) i) q
/-- a, b = x, y -/
def cPar (i j : Nat) (a b : CE) : CS := fun E σ h => a σ h fun x h1 => b σ h1 fun y h2 => E.nx ((σ.set i (some x)).set j (some y)) h2
theorem ls_par {i j : Nat} {x y : Str} {px py pt : Pos} {kt k2 : Nat} {pt2 : Pos} (hc : X.calm = true) (hN : X.N.Nodup) (hi : X.N[i]? = some x) (hj : X.N[j]? = some y) (hij : i ≠ j) (hx : X.env.scope.names.lookup x = some .local) (hy : X.env.scope.names.lookup y = some .local) (ha : LE X a ca) (hb : LE X b cb)
    (hw : swappedStores [.Tuple [.Name x px, .Name y py] kt pt] (.Tuple [a, b] k2 pt2) X.env = pure (some [x, y])) (hs : swapsWithSole [.Tuple [.Name x px, .Name y py] kt pt] (.Tuple [a, b] k2 pt2) pos.line X.env = pure false := by rfl)
    (hs1 : starEach [a, b] X.env = (false, eval a X.env) :: starEach [b] X.env := by rfl) (hs2 : starEach [b] X.env = [(false, eval b X.env)] := by rfl) :
    LS X (.Assign [.Tuple [.Name x px, .Name y py] kt pt] (.Tuple [a, b] k2 pt2) pos) (cPar i j ca cb) := by
  refine ⟨fun w h σd σv E F S R c B => wS (ps_par hc hN hi hj hij hx hy pa_w hw hs) ?_⟩
  refine wA2 ha hb hs1 hs2 S R c fun w1 h1 d d' v u l1 R1 r1 r2 q => ?_
  exact ⟨v, u, rfl, B.nx w1 h1 _ _ l1 R1 (((S.mono l1).set r1 i).set r2 j) q⟩
/-- o.f = e -/
def insAt (h : DH) : D → Option (Nat × Addr × List (Str × D))
  | .ref n => match h[n]? with
    | some (.ins C fs) => some (n, C, fs)
    | _ => none
  | _ => none
def cPutF (C : Addr) (f : Str) (a c : CE) : CS := fun E σ h => c σ h fun y h1 => a σ h1 fun x h2 => match insAt h2 x with
  | some (n, C', fs) => C' = C ∧ fs.length < 1000 ∧ E.nx σ (h2.set n (.ins C (putD f y fs)))
  | none => False
theorem ls_fld {C : Addr} {f : Str} {o value : Expr} {co cv : CE} {pos' : Pos} (hC : Cls X.K C) (hn : NoAttr X.K C f) (ho : LE X o co) (hv : LE X value cv) (hs : swapsWith value (some (.Attribute o f pos')) pos.line X.env = pure false := by rfl) : LS X (.Assign [.Attribute o f pos'] value pos) (cPutF C f co cv) := by
  refine ⟨fun w h σd σv E F S R c B => wS (ps_fld pe_w pe_w hs) ?_⟩
  refine hv.run w h σd σv _ _ S R c fun w1 h1 y vy l1 R1 r1 c1 => ?_
  refine ho.run w1 h1 σd σv _ _ (S.mono l1) R1 c1 fun w2 h2 x vx l2 R2 r2 c2 => ?_
  split at c2
  · rename_i n C' fs e
    obtain ⟨rfl, hl, c2⟩ := c2
    cases r2 with
    | ref hn' =>
      rename_i m p
      have e' : (match h2[m]? with | some (.ins C fs) => some (m, C, fs) | _ => none) = some (n, C', fs) := e
      cases q : h2[m]? with
      | none => rw [q] at e'; cases e'
      | some ob =>
        rw [q] at e'
        cases ob with
        | ins C2 fs2 =>
          cases e'
          obtain ⟨dx, fv, p2, rf⟩ := R2.ob _ _ _ q hn'
          refine ⟨p, C', dx, fv, rfl, p2, hC, hn, by rw [← rf.length]; exact hl, ?_⟩
          have lp := R2.leP (o := .ins C' dx (putF f vy fv)) (List.mem_of_getElem? hn')
          exact B.nx (w2.put p (.ins C' dx (putF f vy fv))) _ _ _ (l1.trans (l2.trans lp)) (R2.put (o := .ins C' (putD f y fs)) hn' ⟨dx, _, upd_same, ((rf.put (r1.mono l2)).mono lp)⟩) (S.mono (l1.trans (l2.trans lp))) c2
        | _ => cases e'
    | _ => cases e
  · exact c2.elim
/-- d[k] = v -/
def cPutK (d k v : CE) : CS := fun E σ h => v σ h fun z h1 => d σ h1 fun x h2 => k σ h2 fun y h3 => match x, dctAt h3 x, keyD y with
  | .ref n, some kvs, some kk => kvs.length < sizeLine ∧ E.nx σ (h3.set n (.dct (putKD kvs kk z)))
  | _, _, _ => False
theorem ls_dput {o i value : Expr} {cd ck cv : CE} {pos' : Pos} (hu : X.A.units + 1 < cLine) (ho : LE X o cd) (hi : LE X i ck) (hv : LE X value cv) (hs : swapsWith value (some (.Subscript o i pos')) pos.line X.env = pure false := by rfl) : LS X (.Assign [.Subscript o i pos'] value pos) (cPutK cd ck cv) := by
  refine ⟨fun w h σd σv E F S R c B => wS (ps_dput hu pe_w pe_w pe_w hs) ?_⟩
  refine hv.run w h σd σv _ _ S R c fun w1 h1 z vz l1 R1 r1 c1 => ?_
  refine ho.run w1 h1 σd σv _ _ (S.mono l1) R1 c1 fun w2 h2 x vx l2 R2 r2 c2 => ?_
  refine hi.run w2 h2 σd σv _ _ (S.mono (l1.trans l2)) R2 c2 fun w3 h3 y vy l3 R3 r3 c3 => ?_
  split at c3
  · rename_i n kvs kk e1 e2
    obtain ⟨m, p, kv', em, hm, hd, rfl, hp, rp⟩ := R3.dct (r2.mono l3) e2
    cases em
    rw [keyD_v r3 e1]
    have lp := R3.leP (o := .dK (putK kv' kk vz)) (List.mem_of_getElem? hm)
    refine ⟨p, _, rfl, DPut.k hp (by rw [← rp.length]; exact c3.1), ?_⟩
    exact B.nx (w3.put p (.dK (putK kv' kk vz))) _ _ _ (l1.trans (l2.trans (l3.trans lp))) (R3.put (o := .dct (putKD kvs kk z)) hm ⟨_, upd_same, (rp.put kk (r1.mono (l2.trans l3))).mono lp⟩) (S.mono (l1.trans (l2.trans (l3.trans lp)))) c3.2
  · exact c3.elim
end
end TL

namespace TL
open PySem PySem.Spec PyProof.Rows L2
section
variable {X : Cx} {e o : Expr} {es : List Expr} {co ce : CE} {ra : CA} {pos apos cpos : Pos}
def tMW (X : Cx) (id : String) : V → List V → Hp → VK → Prop := fun x xs H Q => ∀ pins s σ v us, Inv X pins σ H s → RelV x v → Vals xs us → wpAny (model X.prog X.w) X.A (call (.builtin id) (v :: us)) (EP X pins σ Q) X.xe s
theorem mtr_w {id : String} : MtR X id (tMW X id) := fun pins s σ H x xs v us Q I rx r h => h pins s σ v us I rx r
theorem wM {id : String} {r : V → List V → Hp → VK → Prop} (p : MtR X id r) {x : V} {xs : List V} {H : Hp} {Q : VK} (h : r x xs H Q) : tMW X id x xs H Q := fun pins s σ v us I rx rr => p pins s σ H x xs v us Q I rx rr h
abbrev RDM := D → List D → DH → KD → Prop
def MtD (X : Cx) (id : String) (r : RDM) : Prop := ∀ w h x vx ds vs Qd Q, HRel X.K w h → Rep X.K w x vx → Reps X.K w ds vs → r x ds h Qd → Bears X.K w Qd Q → tMW X id vx vs w.H Q
def tyD (T : String) (h : DH) (x : D) : Prop := match x with
  | .str _ => T = "str"
  | .int _ => T = "int"
  | x => T = "list" ∧ (lstRd h x).isSome = true
theorem tyD_v {K : PySem.W.Frag} {w : Wo} {h : DH} {T : String} {x : D} {v : V} (R : HRel K w h) (r : Rep K w x v) (t : tyD T h x) : tyV K T v w.H := by
  have hq : (T = "list" ∧ (lstRd h x).isSome = true) → tyV K T v w.H := by
    rintro ⟨rfl, q⟩
    obtain ⟨ds, e⟩ := Option.isSome_iff_exists.mp q
    obtain ⟨a, vs, rfl, hp, _⟩ := R.lstR r e
    exact .inl ⟨rfl, vs, hp⟩
  cases x with
  | str z => cases r; exact t
  | int z => cases r; exact t
  | _ => exact hq t
def cBM (T : String) (r : RDM) (a : CE) (c : CA) : CE := fun σ h Q => a σ h fun x h1 => tyD T h1 x ∧ c σ h1 fun ds h2 => r x ds h2 Q
theorem le_bm {T id : String} {name : Str} {r : RDM} (pa : PlainAttrs T) (slot : Slot T name id) (hty : typeOf (.builtin id) = pure (.type "method_descriptor")) (hm : MtD X id r) (ho : LE X o co) (ha : LA X (e :: es) ra)
    (hbase : attributeBase o name X.env (eval o X.env) = eval o X.env := by rfl)
    (hfew : ((backTo cpos (starEach (e :: es) X.env)).all (fun x => !x.1) && (backToKw cpos (keywordEach [] X.env)).all (fun x => x.1.isSome)
      && decide ((e :: es).length + ([] : List Keyword).length + (if ([] : List Keyword).isEmpty then 0 else 1) < 30)) = true := by rfl)
    (hline : (apos.endLine == cpos.line) = true := by rfl) (hs : starEach (e :: es) X.env = (false, eval e X.env) :: starEach es X.env := by rfl) (hplain : (backTo cpos (starEach es X.env)).any (·.1) = false := by rfl) :
    LE X (.Call (.Attribute o name apos) (e :: es) [] cpos) (cBM T r co ra) := by
  refine ⟨fun w h σd σv Qd Q S R c B => wE (pe_bm pa slot hty mtr_w pe_w pa_w hbase hfew hline hs hplain) ?_⟩
  refine ho.run w h σd σv _ _ S R c fun w1 h1 x vx l1 R1 r1 c1 => ⟨tyD_v R1 r1 c1.1, ?_⟩
  refine ha.run w1 h1 σd σv _ _ (S.mono l1) R1 c1.2 fun w2 h2 ds vs l2 R2 r2 c2 => ?_
  exact hm w2 h2 x vx ds vs _ _ R2 (r1.mono l2) r2 c2 (B.mono (l1.trans l2))
theorem le_bm0 {T id : String} {name : Str} {r : RDM} (pa : PlainAttrs T) (slot : Slot T name id) (hty : typeOf (.builtin id) = pure (.type "method_descriptor")) (hm : MtD X id r) (ho : LE X o co)
    (hbase : attributeBase o name X.env (eval o X.env) = eval o X.env := by rfl) (hline : (apos.endLine == cpos.line) = true := by rfl) : LE X (.Call (.Attribute o name apos) [] [] cpos) (cBM T r co cNil) := by
  refine ⟨fun w h σd σv Qd Q S R c B => wE (pe_bm0 pa slot hty mtr_w pe_w hbase hline) ?_⟩
  refine ho.run w h σd σv _ _ S R c fun w1 h1 x vx l1 R1 r1 c1 => ⟨tyD_v R1 r1 c1.1, ?_⟩
  exact hm w1 h1 x vx [] [] _ _ R1 r1 .nil c1.2 (B.mono l1)
/-- a mutable list: where it stands -/
def lstMut (h : DH) : D → Option (Nat × List D)
  | .ref n => match h[n]? with
    | some (.lst ds) => some (n, ds)
    | _ => none
  | _ => none
theorem HRel.lstM {K : PySem.W.Frag} {w : Wo} {h : DH} (R : HRel K w h) {d : D} {v : V} {n : Nat} {ds : List D} (r : Rep K w d v) (e : lstMut h d = some (n, ds)) : ∃ a vs, v = .ref a ∧ w.ρ[n]? = some a ∧ w.H a = some (.lst vs) ∧ Reps K w ds vs := by
  cases r with
  | ref hn =>
    rename_i m a
    have e' : (match h[m]? with | some (.lst ds) => some (m, ds) | _ => none) = some (n, ds) := e
    cases q : h[m]? with
    | none => rw [q] at e'; cases e'
    | some ob =>
      rw [q] at e'
      cases ob with
      | lst es =>
        cases e'
        obtain ⟨vs, p, rr⟩ := R.ob _ _ _ q hn
        exact ⟨a, vs, rfl, hn, p, rr⟩
      | _ => cases e'
  | _ => cases e
/-- a mutable list gets other items -/
theorem fin_put {w : Wo} {h : DH} {n : Nat} {a : Addr} {ds : List D} {vs : List V} {Qd : KD} {Q : VK} {d : D} {v : V} (R : HRel X.K w h) (hn : w.ρ[n]? = some a) (r : Reps X.K w ds vs) (rd : Rep X.K w d v) (B : Bears X.K w Qd Q) (q : Qd d (h.set n (.lst ds))) : Q v (upd w.H a (.lst vs)) := by
  have lp := R.leP (o := .lst vs) (List.mem_of_getElem? hn)
  exact B (w.put a (.lst vs)) _ _ _ lp (R.put (o := .lst ds) hn ⟨vs, upd_same, r.mono lp⟩) (rd.mono lp) q
def dAppend : RDM := fun x ds h Q => match lstMut h x, ds with
  | some (n, xs), [d] => xs.length < sizeLine ∧ Q .non (h.set n (.lst (xs ++ [d])))
  | _, _ => False
theorem md_append : MtD X "list.append" dAppend := by
  intro w h x vx ds vs Qd Q R r rs c B
  unfold dAppend at c
  split at c
  · rename_i n xs d e
    obtain ⟨a, us, rfl, hn, hp, rp⟩ := R.lstM r e
    obtain ⟨v, rfl, rv⟩ := rs.one
    exact wM mt_append ⟨a, us, v, rfl, rfl, hp, by rw [← rp.length]; exact c.1, fin_put R hn (rp.snoc rv) .non B c.2⟩
  · exact c.elim
def dExtend : RDM := fun x ds h Q => match lstMut h x, ds with
  | some (n, xs), [d] => (match lstAt h d with
    | some ys => xs.length + ys.length ≤ sizeLine ∧ Q .non (h.set n (.lst (xs ++ ys)))
    | none => False)
  | _, _ => False
theorem md_extend : MtD X "list.extend" dExtend := by
  intro w h x vx ds vs Qd Q R r rs c B
  unfold dExtend at c
  split at c
  · rename_i n xs d e
    split at c
    · rename_i ys e2
      obtain ⟨a, us, rfl, hn, hp, rp⟩ := R.lstM r e
      obtain ⟨v, rfl, rv⟩ := rs.one
      obtain ⟨b, ws, rfl, hb, rb⟩ := R.lst rv e2
      exact wM mt_extend ⟨a, b, us, ws, rfl, rfl, hp, hb, by rw [← rp.length, ← rb.length]; exact c.1, fin_put R hn (rp.append rb) .non B c.2⟩
    · exact c.elim
  · exact c.elim
def dPop : RDM := fun x ds h Q => match lstMut h x, ds with
  | some (n, xs), [] => (match xs[xs.length - 1]? with
    | some y => Q y (h.set n (.lst xs.dropLast))
    | none => False)
  | some (n, xs), [.int i] => -(2 ^ 63) ≤ i ∧ i < 2 ^ 63 ∧ (match seqIndex? i xs.length with
    | some k => (match xs[k]? with
      | some y => Q y (h.set n (.lst (xs.eraseIdx k)))
      | none => False)
    | none => False)
  | _, _ => False
theorem Reps.dropLast {K : PySem.W.Frag} {w : Wo} {ds : List D} {vs : List V} (r : Reps K w ds vs) : Reps K w ds.dropLast vs.dropLast := by
  rw [List.dropLast_eq_take, List.dropLast_eq_take, r.length]
  exact r.take _
theorem md_pop : MtD X "list.pop" dPop := by
  intro w h x vx ds vs Qd Q R r rs c B
  unfold dPop at c
  split at c
  · rename_i n xs e
    split at c
    · rename_i y e2
      obtain ⟨a, us, rfl, hn, hp, rp⟩ := R.lstM r e
      cases rs
      obtain ⟨v, e3, rv⟩ := rp.get e2
      exact wM mt_pop ⟨a, us, v, rfl, rfl, hp, by rw [← rp.length]; exact e3, fin_put R hn rp.dropLast rv B c⟩
    · exact c.elim
  · rename_i n xs i e
    obtain ⟨c1, c2, c⟩ := c
    split at c
    · rename_i k ek
      split at c
      · rename_i y e2
        obtain ⟨a, us, rfl, hn, hp, rp⟩ := R.lstM r e
        obtain ⟨v, rfl, rv⟩ := rs.one
        cases rv
        obtain ⟨u, e3, ru⟩ := rp.get e2
        exact wM mt_popAt ⟨a, us, i, k, u, rfl, rfl, hp, c1, c2, by rw [← rp.length]; exact ek, e3, fin_put R hn (rp.eraseIdx k) ru B c⟩
      · exact c.elim
    · exact c.elim
  · exact c.elim
def dPartition : RDM := fun x ds h Q => match x, ds with
  | .str a, [.str b] => (b.length == 0) = false ∧ a.length ≤ sizeLine ∧ Q (.tup [.str (Txt.partition a b).1, .str (Txt.partition a b).2.1, .str (Txt.partition a b).2.2]) h
  | _, _ => False
theorem md_partition : MtD X "str.partition" dPartition := by
  intro w h x vx ds vs Qd Q R r rs c B
  unfold dPartition at c
  split at c
  · rename_i a b
    cases r
    obtain ⟨v, rfl, rv⟩ := rs.one
    cases rv
    exact wM mt_partition ⟨a, b, rfl, rfl, c.1, c.2.1, fun p hp => fin_tup R (.cons (.str _) (.cons (.str _) (.cons (.str _) .nil))) B c.2.2 hp⟩
  · exact c.elim
/-- xs.count(y), flat -/
def dCount : RDM := fun x ds h Q => match lstRd h x, ds with
  | some xs, [d] => flatD d = true ∧ xs.all flatD = true ∧ Q (.int (xs.countP fun z => eqD z d : Nat)) h
  | _, _ => False
theorem countP_flat {d : D} {K : PySem.W.Frag} {w : Wo} : ∀ {xs : List D} {vs : List V} {its : List Value}, Reps K w xs vs → Vals vs its → xs.all flatD = true → its.countP (eqU (vOf d)) = xs.countP fun z => eqD z d
  | _, _, _, .nil, .nil, _ => rfl
  | _, _, _, .cons a b, .cons r t, f => by
    rw [List.all_cons, Bool.and_eq_true] at f
    obtain ⟨e1, f1⟩ := flat_v a f.1
    rw [List.countP_cons, List.countP_cons, countP_flat b t f.2, eqU_of r f1, e1]
    rfl
theorem md_count : MtD X "list.count" dCount := by
  intro w h x vx ds vs Qd Q R r rs c B
  unfold dCount at c
  split at c
  · rename_i xs d e
    obtain ⟨fd, fx, c⟩ := c
    obtain ⟨a, us, rfl, hp, rp⟩ := R.lstR r e
    obtain ⟨v, rfl, rv⟩ := rs.one
    obtain ⟨ev, fv⟩ := flat_v rv fd
    obtain ⟨eu, fu⟩ := flat_vs rp fx
    intro pins s σ vv us' I rx rus
    cases rx
    obtain ⟨u, rfl, ru⟩ := Vals.one rus
    obtain ⟨its, rits, ⟨⟨kl, di, da, sls⟩, many, obj, hkl, hdi, hda⟩, hlen⟩ := I.list hp
    simp only at hkl hda
    subst hkl hda
    refine call_meets PySem.F.slot_list_count ⟨_, obj, rfl⟩ PySem.F.entry_list_count (PySem.F.args_list_count_2 _ _) (SeqAt.list_countAt a its.toArray many di sls u (eqU v)) ⟨obj, fun y hy => mem_eqAt ru fv rits fu y (by simpa using hy), ?_⟩
    refine ⟨.int (xs.countP fun z => eqD z d : Nat), w.H, I.tok _, ⟨s.toks, ?_⟩, B.same R (.int _) c⟩
    have q := countP_flat (d := d) rp rits fx
    rw [← ev] at q
    show Value.int ((its.toArray.toList.countP (eqU v) : Nat) : Int) s.toks = _
    rw [← q]
  · exact c.elim
def cFmt (c : CE) : CE := fun σ h Q => c σ h fun d h1 => match d with
  | .str y => y.length ≤ sizeLine ∧ Q (.str y) h1
  | .int i => i.natAbs.log2 < 1920 ∧ Q (.str (toString i)) h1
  | _ => False
theorem le_fmt (he : LE X e ce) : LE X (.FormattedValue e (-1) none pos) (cFmt ce) := by
  refine ⟨fun w h σd σv Qd Q S R c B => wE (pe_fmt pe_w) ?_⟩
  refine he.run w h σd σv _ _ S R c fun w1 h1 x vx l1 R1 r1 c1 => ?_
  cases x with
  | str y => cases r1; exact .inl ⟨y, rfl, c1.1, B w1 h1 _ _ l1 R1 (.str _) c1.2⟩
  | int i => cases r1; exact .inr ⟨i, rfl, c1.1, B w1 h1 _ _ l1 R1 (.str _) c1.2⟩
  | _ => exact c1.elim
inductive LJ (X : Cx) : List Expr → List CE → Prop where
  | nil : LJ X [] []
  | cons {e : Expr} {c : CE} {es : List Expr} {cs : List CE} (h : LE X e c) (r : LJ X es cs) : LJ X (e :: es) (c :: cs)
def cJs : List CE → Str → DS → DH → (Str → DH → Prop) → Prop
  | [], acc, _, h, Q => Q acc h
  | c :: cs, acc, σ, h, Q => c σ h fun d h1 => match d with
    | .str y => (acc ++ y).length ≤ sizeLine ∧ cJs cs (acc ++ y) σ h1 Q
    | _ => False
theorem lj_read {es : List Expr} {cs : List CE} (j : LJ X es cs) : ∃ ts, PJ X es ts ∧ ∀ (acc : Str) w h σd σv (Qd : Str → DH → Prop) (Q : Str → Hp → Prop), SRel X.K w σd σv → HRel X.K w h → cJs cs acc σd h Qd → (∀ w' h' z, w.le w' → HRel X.K w' h' → Qd z h' → Q z w'.H) → tJs ts acc σv w.H Q := by
  induction j with
  | nil => exact ⟨[], .nil, fun acc w h σd σv Qd Q S R c B => B w h acc (.refl w) R c⟩
  | cons h r ih =>
    obtain ⟨ts, pj, run⟩ := ih
    refine ⟨_ :: ts, .cons pe_w pj, fun acc w hh σd σv Qd Q S R c B => ?_⟩
    refine h.run w hh σd σv _ _ S R c fun w1 h1 x vx l1 R1 r1 c1 => ?_
    cases x with
    | str y => cases r1; exact ⟨y, rfl, c1.1, run _ w1 h1 σd σv Qd Q (S.mono l1) R1 c1.2 fun w2 h2 z l2 R2 q => B w2 h2 z (l1.trans l2) R2 q⟩
    | _ => exact c1.elim
theorem le_joined {v1 v2 : Expr} {rest : List Expr} {cs : List CE} (j : LJ X (v1 :: v2 :: rest) cs) : LE X (.JoinedStr (v1 :: v2 :: rest) pos) (fun σ h Q => cJs cs Str.empty σ h fun z h1 => Q (.str z) h1) := by
  obtain ⟨ts, pj, run⟩ := lj_read j
  exact ⟨fun w h σd σv Qd Q S R c B => wE (pe_joined pj) (run Str.empty w h σd σv _ _ S R c fun w' h' z l R' q => B w' h' _ _ l R' (.str z) q)⟩
def cPairs : List (CE × CE) → DS → DH → (List (D × D) → DH → Prop) → Prop
  | [], _, h, Q => Q [] h
  | (k, v) :: r, σ, h, Q => k σ h fun x h1 => v σ h1 fun y h2 => cPairs r σ h2 fun ps h3 => Q ((x, y) :: ps) h3
def keysD : List (D × D) → Option (List (Key × D))
  | [] => some []
  | (x, y) :: r => match keyD x, keysD r with
    | some k, some ks => some ((k, y) :: ks)
    | _, _ => none
def mergeD (kvs more : List (Key × D)) : List (Key × D) := more.foldl (fun acc kv => putKD acc kv.1 kv.2) kvs
def cDisp (cs : List (CE × CE)) : CE := fun σ h Q => cPairs cs σ (h ++ [.dct []]) fun ps h2 => h2[h.length]? = some (.dct []) ∧ match keysD ps with
  | some kvs => kvs.length ≤ 15 ∧ Q (.ref h.length) (h2.set h.length (.dct (mergeD [] kvs)))
  | none => False
inductive LPs (X : Cx) (pos : Pos) : List (Option Expr) → List Expr → List (CE × CE) → Prop where
  | nil : LPs X pos [] [] []
  | cons {k v : Expr} {ks : List (Option Expr)} {vs : List Expr} {ck cv : CE} {cs : List (CE × CE)} (hk : LE X k ck) (hv : LE X v cv) (r : LPs X pos ks vs cs) : LPs X pos (some k :: ks) (v :: vs) ((ck, cv) :: cs)
theorem KReps.merge {K : PySem.W.Frag} {w : Wo} : ∀ {m : List (Key × D)} {m' : List (Key × V)} {a : List (Key × D)} {b : List (Key × V)}, KReps K w m m' → KReps K w a b → KReps K w (mergeD a m) (mergeK b m')
  | _, _, _, _, .nil, s => s
  | p :: _, q :: _, _, _, .cons r t, s => by
    show KReps K w (mergeD (putKD _ p.1 p.2) _) (mergeK (putK _ q.1 q.2) _)
    have e := r.1
    rw [e]
    exact KReps.merge t (s.put q.1 r.2)
theorem lps_read {keys : List (Option Expr)} {values : List Expr} {cs : List (CE × CE)} (j : LPs X pos keys values cs) : ∃ trs, PPs X pos keys values trs ∧ ∀ w h σd σv (Qd : List (D × D) → DH → Prop) (Q : List (V × V) → Hp → Prop), SRel X.K w σd σv → HRel X.K w h → cPairs cs σd h Qd →
    (∀ w' h' ps qs, w.le w' → HRel X.K w' h' → Paired (fun (p : D × D) (q : V × V) => Rep X.K w' p.1 q.1 ∧ Rep X.K w' p.2 q.2) ps qs → Qd ps h' → Q qs w'.H) → tPairs trs σv w.H Q := by
  induction j with
  | nil => exact ⟨[], pps_nil, fun w h σd σv Qd Q S R c B => B w h [] [] (.refl w) R .nil c⟩
  | cons hk hv r ih =>
    obtain ⟨trs, pp, run⟩ := ih
    refine ⟨(_, _) :: trs, pps_cons pe_w pe_w pp, fun w h σd σv Qd Q S R c B => ?_⟩
    refine hk.run w h σd σv _ _ S R c fun w1 h1 x vx l1 R1 r1 c1 => ?_
    refine hv.run w1 h1 σd σv _ _ (S.mono l1) R1 c1 fun w2 h2 y vy l2 R2 r2 c2 => ?_
    refine run w2 h2 σd σv _ _ (S.mono (l1.trans l2)) R2 c2 fun w3 h3 ps qs l3 R3 r3 q => ?_
    exact B w3 h3 _ _ (l1.trans (l2.trans l3)) R3 (.cons ⟨r1.mono (l2.trans l3), r2.mono l3⟩ r3) q
theorem keysD_v {K : PySem.W.Frag} {w : Wo} : ∀ {ps : List (D × D)} {qs : List (V × V)} {kvs : List (Key × D)}, Paired (fun (p : D × D) (q : V × V) => Rep K w p.1 q.1 ∧ Rep K w p.2 q.2) ps qs → keysD ps = some kvs → ∃ kv', qs = kv'.map (fun kv => (kV kv.1, kv.2)) ∧ KReps K w kvs kv'
  | _, _, _, .nil, e => by cases e; exact ⟨[], rfl, .nil⟩
  | (x, y) :: ps, (vx, vy) :: qs, kvs, .cons r t, e => by
    simp only [keysD] at e
    split at e
    · rename_i k ks e1 e2
      cases e
      obtain ⟨kv', rfl, rk⟩ := keysD_v t e2
      exact ⟨(k, vy) :: kv', by rw [List.map_cons, ← keyD_v r.1 e1], .cons ⟨rfl, r.2⟩ rk⟩
    · cases e
theorem le_disp {keys : List (Option Expr)} {values : List Expr} {cs : List (CE × CE)} (j : LPs X pos keys values cs) (hall : keys.all (·.isSome) = true) (hl : keys.length = values.length) (h0 : keys ≠ []) (h15 : keys.length ≤ 15) : LE X (.Dict keys values pos) (cDisp cs) := by
  obtain ⟨trs, pp, run⟩ := lps_read j
  refine ⟨fun w h σd σv Qd Q S R c B => wE (pe_disp pp hall hl h0 h15) fun p hp => ?_⟩
  have lN := R.leN (o := .dK []) hp
  refine run (w.new p (.dK [])) _ σd σv _ _ (S.mono lN) (R.new (o := .dct []) hp ⟨[], upd_same, .nil⟩) c fun w2 h2 ps qs l2 R2 r2 c2 => ?_
  have n0 : (w.new p (.dK [])).ρ[h.length]? = some p := by
    show (w.ρ ++ [p])[h.length]? = some p
    rw [← R.len]; simp
  have n2 := l2.at n0
  obtain ⟨e0, c2⟩ := c2
  split at c2
  · rename_i kvs ek
    obtain ⟨kv0, p0, r0⟩ := R2.ob _ _ _ e0 n2
    cases r0
    obtain ⟨kv', rfl, rk⟩ := keysD_v r2 ek
    refine ⟨p0, kv', rfl, by rw [← rk.length]; exact c2.1, ?_⟩
    have lp := R2.leP (o := .dK (mergeK [] kv')) (List.mem_of_getElem? n2)
    exact B (w2.put p (.dK (mergeK [] kv'))) _ _ _ (lN.trans (l2.trans lp)) (R2.put (o := .dct (mergeD [] kvs)) n2 ⟨_, upd_same, (KReps.merge rk .nil).mono lp⟩) (.ref n2) c2.2
  · exact c2.elim
theorem le_dc {tg iter kx vx : Expr} {ifs : List Expr} {scope : Scope} {own : List (Str × Nat)} {ci : CI} {g : CG} {t : CT} {ek ev : CE} {js : List Nat} (hc : X.calm = true) (hN : X.N.Nodup) (hi : LI X tg iter ci) (ok : BlkOk X.N X.env.scope scope own) (hj : ∀ j ∈ js, j ∈ own.map (·.2)) (hg : Blk X scope fun Y => LG Y tg js g) (ht : Blk X scope fun Y => LTs Y ifs t) (hk : Blk X scope fun Y => LE Y kx ek) (hv : Blk X scope fun Y => LE Y vx ev)
    (hs : ∀ x, foldedSetIterable iter X.env x = pure x := by intro _; rfl) : LE X (.DictComp kx vx [⟨tg, iter, ifs, 0⟩] scope pos) (cDc ci g t ek ev (own.map (·.2))) := by
  refine ⟨fun w h σd σv Qd Q S R c B => wE (pe_dc hc hN pi_w ok gU_ok tsU_ok eU_ok eU_ok hs) ?_⟩
  refine hi.run w h σd σv _ _ S R c fun w1 h1 J items G l1 R1 Wk c1 => fun p hp => ?_
  have n0 : (w1.new p (.dK [])).ρ[h1.length]? = some p := by
    show (w1.ρ ++ [p])[h1.length]? = some p
    rw [← R1.len]; simp
  have W1 : HRel X.K (w1.new p (.dK [])) (h1 ++ [.dct []]) := R1.new (o := .dct []) hp ⟨[], upd_same, .nil⟩
  have L1 := l1.trans (R1.leN (o := .dK []) hp)
  refine ⟨fun i m H => m = items.length - i ∧ i ≤ items.length ∧ ∃ w2 h2, (w1.new p (.dK [])).le w2 ∧ w2.H = H ∧ HRel X.K w2 h2 ∧ dcTurns G g t ek ev h1.length (wipeD σd (own.map (·.2))) (Qd (.ref h1.length)) (items.drop i) h2,
    ⟨_, rfl, Nat.zero_le _, _, _, .refl _, rfl, W1, c1⟩, ?_⟩
  rintro i m H ⟨rfl, hi', w2, h2, l2, rfl, R2, t2⟩
  have lw : w1.le w2 := (R1.leN (o := .dK []) hp).trans l2
  by_cases hlt : i < items.length
  · rw [List.drop_eq_getElem_cons hlt] at t2
    obtain ⟨G2, t2⟩ := t2
    refine .inr ⟨Wk.goes w2 h2 i lw R2 G2 hlt, fun H' => ∃ w3 h3, (w1.new p (.dK [])).le w3 ∧ w3.H = H' ∧ HRel X.K w3 h3 ∧ dcTurns G g t ek ev h1.length (wipeD σd (own.map (·.2))) (Qd (.ref h1.length)) (items.drop (i + 1)) h3,
      fun H' ⟨w3, h3, z⟩ => ⟨_, by omega, rfl, hlt, w3, h3, z⟩, fun x H' y => ?_⟩
    obtain ⟨w3, l3, R3, rfl, d, ed, r⟩ := Wk.yields w2 h2 i x H' lw R2 G2 hlt y
    have e : items[i] = d := by rw [List.getElem?_eq_getElem hlt] at ed; exact Option.some.inj ed
    rw [e] at t2
    intro s0 H0 C0 cl0 fp0
    refine (hg s0 H0 C0 cl0 fp0).run w3 h2 _ _ d x _ _ ((S.mono (L1.trans (l2.trans l3))).wipe _) R3 r t2 fun w4 h4 σd4 σv4 l4 R4 S4 ew c4 => ?_
    refine ⟨(wipe_mono ew hj).trans (wipe_wipe σv (own.map (·.2))), ?_⟩
    intro s1 H1 C1 cl1 fp1
    refine (ht s1 H1 C1 cl1 fp1).run w4 h4 σd4 σv4 _ _ S4 R4 c4 fun w5 h5 b l5 R5 c5 => ?_
    cases b with
    | false =>
      rw [if_neg Bool.false_ne_true] at c5 ⊢
      exact ⟨w5, h5, l2.trans (l3.trans (l4.trans l5)), rfl, R5, c5⟩
    | true =>
      rw [if_pos rfl] at c5 ⊢
      intro s2 H2 C2 cl2 fp2
      refine (hk s2 H2 C2 cl2 fp2).run w5 h5 σd4 σv4 _ _ (S4.mono l5) R5 c5 fun w6 h6 y v l6 R6 r6 c6 => ?_
      intro s3 H3 C3 cl3 fp3
      refine (hv s3 H3 C3 cl3 fp3).run w6 h6 σd4 σv4 _ _ (S4.mono (l5.trans l6)) R6 c6 fun w7 h7 z vz l7 R7 r7 c7 => ?_
      have l27 := l2.trans (l3.trans (l4.trans (l5.trans (l6.trans l7))))
      have n7 := l27.at n0
      split at c7
      · rename_i kk kvs e1 e2
        obtain ⟨kv', p7, rk⟩ := R7.ob _ _ _ e2 n7
        have lp := R7.leP (o := .dK (putK kv' kk vz)) (List.mem_of_getElem? n7)
        exact ⟨kv', kk, keyD_v (r6.mono l7) e1, p7, by rw [← rk.length]; exact c7.1, w7.put p (.dK (putK kv' kk vz)), h7.set h1.length (.dct (putKD kvs kk z)), l27.trans lp, rfl, R7.put (o := .dct (putKD kvs kk z)) n7 ⟨_, upd_same, (rk.put kk r7).mono lp⟩, c7.2⟩
      · exact c7.elim
  · have ei : i = items.length := by omega
    subst ei
    rw [List.drop_length] at t2
    exact .inl ⟨Wk.stops w2 h2 lw R2 t2.1, B w2 h2 _ _ (L1.trans l2) R2 (.ref (l2.at n0)) t2.2⟩
theorem fm_congr {α β : Type} {f g : α → Option β} : ∀ (l : List α), (∀ x ∈ l, f x = g x) → l.filterMap f = l.filterMap g
  | [], _ => rfl
  | x :: l, h => by
    rw [List.filterMap_cons, List.filterMap_cons, h x List.mem_cons_self, fm_congr l fun y hy => h y (List.mem_cons_of_mem _ hy)]
theorem tuple_back {prog : Program} {wd : World} {A : Around} {E : Value → Shared → Prop} {s : Shared} {t sl : Addr} {items : Array Value} {vl vu vs : Value} {Q : Value → Shared → Prop} (ht : IsTup s.heap t items) (hs : s.heap.IsSliceOf sl vl vu vs) (pl : IsPart vl none) (pu : IsPart vu none) (ps : IsPart vs (some (-1)))
    (h : Q (.ref s.heap.objs.size) { s with heap := s.heap.push { cls := .type "tuple", data := .seq items.reverse } }) (hsz : items.size ≤ sizeLine) : wpAny (model prog wd) A (getItem (.ref t) (.ref sl)) Q E s := by
  obtain ⟨os, hos, hcs, hds⟩ := id hs
  have hTs : s.TypeIs (.ref sl) "slice" := ⟨os, hos, hcs⟩
  have fits : sizeOk (.seq items.reverse) := by
    show items.reverse.size ≤ sizeLine
    rw [Array.size_reverse]; exact hsz
  have adj : Builtin.Slice.sliceAdjust none none (-1) (items.size : Int) = ((items.size : Int) - 1, -1) := rfl
  have pls : Builtin.Slice.slicePlaces ((items.size : Int) - 1) (-1) (-1) = items.size := by
    unfold Builtin.Slice.slicePlaces
    rw [if_neg (by decide)]
    split <;> simp <;> omega
  have picked : ((List.range items.size).filterMap fun (k : Nat) => items[(((items.size : Int) - 1) + (k : Int) * (-1)).toNat]?).toArray = items.reverse := by
    apply Array.toList_inj.mp
    apply List.ext_getElem?
    intro i
    have key : (List.range items.size).filterMap (fun (k : Nat) => items[(((items.size : Int) - 1) + (k : Int) * (-1)).toNat]?) = (List.range items.size).filterMap fun k => some (items.reverse[k]?.getD .none) := by
      refine fm_congr _ fun k hk => ?_
      have hk' := List.mem_range.mp hk
      have e : (((items.size : Int) - 1) + (k : Int) * (-1)).toNat = items.size - 1 - k := by omega
      rw [e, Array.getElem?_reverse (by omega)]
      have hlt : items.size - 1 - k < items.size := by omega
      simp [hlt]
    rw [List.toList_toArray, key, List.filterMap_eq_map', List.getElem?_map]
    by_cases hi : i < items.size
    · rw [List.getElem?_range hi]
      simp [hi]
    · have h1 : (List.range items.size)[i]? = none := by simp; omega
      rw [h1]
      simp; omega
  unfold getItem
  try with_reducible refine wpAny_holding ?_
  first | refine wpAny_bind (wpAny_pure ?_) | skip
  refine wpAny_bind (wpAny_sequenceKey ht.typeIs (by decide) ?_)
  refine wpAny_bind (wpAny_callSpecial?_slot (name := Str.ofString "__getitem__") ht.typeIs PyProof.Rows.slot_tuple_getitem (wpAny_call_entry PyProof.Rows.slot_tuple_getitem ht.typeIs entry_tuple_getitem ?_ (args_tuple_getitem _ _)))
  show wpAny _ _ (Builtin.Tuple.tupleItemsOf (.ref t) >>= _) _ _ s
  refine wpAny_bind (tupleItemsOf_ ht (wpAny_bind (wpAny_typeOf hTs ?_)))
  rw [if_pos (by decide)]
  have app : ∀ {Q' : Int × Int × Nat → Shared → Prop} {E' : Value → Shared → Prop} {A' : Around}, Q' ((items.size : Int) - 1, -1, items.size) s → wpAny (model prog wd) A' (Builtin.Slice.sliceApplied (.ref sl) (pure (items.size : Int))) Q' E' s := by
    intro Q' E' A' hq
    unfold Builtin.Slice.sliceApplied Builtin.Slice.sliceFields
    refine wpAny_bind (wpAny_bind (wpAny_field hos hds (x := vl) rfl (wpAny_bind (wpAny_field hos hds (x := vu) rfl (wpAny_bind (wpAny_field hos hds (x := vs) rfl (wpAny_pure ?_)))))))
    refine wpAny_bind (HT.slicePart_ ps ?_)
    show wpAny _ _ (if ((-1 : Int) == 0) = true then _ else _) _ _ s
    rw [if_neg (by decide)]
    refine wpAny_bind (HT.slicePart_ pl (wpAny_bind (HT.slicePart_ pu (wpAny_bind (wpAny_pure ?_)))))
    show wpAny _ _ (match Builtin.Slice.sliceAdjust none none (-1) (items.size : Int) with | (lo, hi) => pure (lo, (-1 : Int), Builtin.Slice.slicePlaces lo hi (-1))) _ _ s
    rw [adj]
    show wpAny _ _ (pure ((items.size : Int) - 1, (-1 : Int), Builtin.Slice.slicePlaces ((items.size : Int) - 1) (-1) (-1))) _ _ s
    rw [pls]
    exact wpAny_pure hq
  refine wpAny_bind (app ?_)
  show wpAny _ _ (if (((items.size : Int) - 1) == 0 && (-1 : Int) == 1 && items.size == items.size) = true then _ else _) _ _ s
  rw [if_neg (by simp), picked]
  first
    | exact wpAny_bind (m := Builtin.Tuple.tupleExact _) (wpAny_newObj_type (wpAny_pure ⟨_, rfl, wpAny_pure h⟩) fits)
    | exact wpAny_bind (m := Builtin.Tuple.tupleExact _) (wpAny_newObj_type (wpAny_bind (wpAny_pure (wpAny_pure ⟨_, rfl, wpAny_pure h⟩))) fits)
    | exact wpAny_bind (wpAny_bind (m := Builtin.Tuple.tupleExact _) (wpAny_newObj_type (wpAny_pure (wpAny_pure ⟨_, rfl, wpAny_pure h⟩)) fits))
    | exact wpAny_bind (wpAny_bind (m := Builtin.Tuple.tupleExact _) (wpAny_newObj_type (wpAny_pure ⟨_, rfl, wpAny_pure h⟩) fits))
def tBack (K : PySem.W.Frag) (te : TE) : TE := fun σ H Q => te σ H fun x H1 => ∃ a xs, x = .ref a ∧ SqT K H1 a xs ∧ ∀ p, H1 p = none → Q (.ref p) (upd H1 p (.tup xs.reverse))
theorem pe_back {te : TE} {k : Nat} {p1 p2 p3 : Pos} (he : PE X e te) : PE X (.Subscript e (.Slice none none (some (.UnaryOp .USub (.Constant (.int 1) k p1) p2)) p3) pos) (tBack X.K te) := by
  refine ⟨fun pins s σ H Q I hyp => Subscript_ (thn (he.run pins s σ H _ I hyp) fun v s1 ⟨x, H1, I1, r1, a, xs, ex, hx, q⟩ => ?_)⟩
  subst ex
  cases r1
  have step : PO X (some (.UnaryOp .USub (.Constant (.int 1) k p1) p2)) (tPart (tUn (rU fun i => .int (-i)) (tC (.int 1)))) := po_some (pe_un un_neg pe_int)
  refine wpAny_Slice (thn (po_none.run pins s1 σ H1 (fun o G => o = none ∧ G = H1) I1 ⟨rfl, rfl⟩) fun vl s2 ⟨_, _, I2, pl, rfl, rfl⟩ => ?_)
  refine thn (po_none.run pins s2 σ _ (fun o G => o = none ∧ G = _) I2 ⟨rfl, rfl⟩) fun vu s3 ⟨_, _, I3, pu, rfl, rfl⟩ => ?_
  refine thn (step.run pins s3 σ _ (fun o G => o = some (-1) ∧ G = _) I3 ⟨1, rfl, -1, rfl, rfl, rfl⟩) fun vs s4 ⟨_, _, I4, ps, rfl, rfl⟩ => ?_
  have I5 := I4.kept (h' := s4.heap.push { cls := .type "slice", data := .fields #[vl, vu, vs] }) (t' := s4.toks) fun b ob z => Heap.get?_push_of_some _ z
  obtain ⟨its, r, ht, hz⟩ := I5.tuple hx
  have hlen := r.length
  show wpAny (model X.prog X.w) X.A (subscriptTail e (.Slice none none (some (.UnaryOp .USub (.Constant (.int 1) k p1) p2)) p3) (.ref a) (.ref s4.heap.objs.size)) (EP X pins σ Q) X.xe { s4 with heap := s4.heap.push { cls := .type "slice", data := .fields #[vl, vu, vs] } }
  refine tail_any (ops := [.ref a, .ref s4.heap.objs.size]) ht.typeIs (PyProof.Rows.slot_tuple_getitem.lookup) ?_ (by with_unfolding_all rfl)
  refine tuple_back ht (Heap.IsSliceOf.new _ vl vu vs) pl pu ps ?_ (by rw [List.size_toArray]; omega)
  refine ⟨.ref _, _, I5.laid (t' := s4.toks) (o := .tup xs.reverse) (fun b ob z => Heap.get?_push_of_some _ z) (Nat.le_refl _) ?_, rfl, q _ (I5.hok.fresh (Nat.le_refl _))⟩
  refine ⟨by rw [List.length_reverse]; exact hz, _, r.reverse, ?_⟩
  have e : its.toArray.reverse = its.reverse.toArray := by simp
  rw [e]
  exact IsTup.new _ _
def cBackT (c : CE) : CE := fun σ h Q => c σ h fun x h1 => match tupAt x with
  | some ds => Q (.tup ds.reverse) h1
  | none => False
theorem le_backT {k : Nat} {p1 p2 p3 : Pos} (he : LE X e ce) : LE X (.Subscript e (.Slice none none (some (.UnaryOp .USub (.Constant (.int 1) k p1) p2)) p3) pos) (cBackT ce) := by
  refine ⟨fun w h σd σv Qd Q S R c B => wE (pe_back pe_w) ?_⟩
  refine he.run w h σd σv _ _ S R c fun w1 h1 x vx l1 R1 r1 c1 => ?_
  split at c1
  · rename_i ds e1
    obtain ⟨a, vs, rfl, hp, rp⟩ := r1.tupR e1
    exact ⟨a, vs, rfl, hp.now, fun p hp' => fin_tup R1 rp.reverse (B.mono l1) c1 hp'⟩
  · exact c1.elim
def cBackLM (c : CE) : CE := fun σ h Q => c σ h fun x h1 => match lstRd h1 x with
  | some ds => Q (.ref h1.length) (h1 ++ [.lst ds.reverse])
  | none => False
theorem le_backLM {k : Nat} {p1 p2 p3 : Pos} (he : LE X e ce) : LE X (.Subscript e (.Slice none none (some (.UnaryOp .USub (.Constant (.int 1) k p1) p2)) p3) pos) (cBackLM ce) := by
  refine ⟨fun w h σd σv Qd Q S R c B => wE (pe_revL pe_w) ?_⟩
  refine he.run w h σd σv _ _ S R c fun w1 h1 x vx l1 R1 r1 c1 => ?_
  split at c1
  · rename_i ds e1
    obtain ⟨a, vs, rfl, hp, rp⟩ := R1.lstR r1 e1
    exact ⟨a, vs, rfl, hp, fun p hp' => fin_lstM R1 rp.reverse (B.mono l1) c1 hp'⟩
  · exact c1.elim
end
end TL

namespace TL
open PySem PySem.Spec PyProof.Rows L2
section
variable {X : Cx} {e o a : Expr} {es : List Expr} {ca co ce : CE} {ra : CA} {pos apos cpos p : Pos}
def rCatX (K : PySem.W.Frag) : R2 := fun x y H Q => ∃ a b xs ys, x = .ref a ∧ y = .ref b ∧ SqT K H a xs ∧ SqT K H b ys ∧ xs ≠ [] ∧ ys ≠ [] ∧ xs.length + ys.length ≤ sizeLine ∧ ∀ p ob, H p = none → ob.dict = none → Q (.ref p) (upd H p (.frz ob (.tup (xs ++ ys))))
theorem op_catX : OpR X (binaryOp .Add) (rCatX X.K) := by
  intro pins s σ H x y v u Q I rx ry h
  obtain ⟨a, b, xs, ys, rfl, rfl, ha, hb, hx, hy, hz, q⟩ := h
  cases rx
  cases ry
  obtain ⟨its, r1, p1, _⟩ := I.tuple ha
  obtain ⟨its2, r2, p2, _⟩ := I.tuple hb
  refine HT.cat_tup p1 p2 (fun z => hx (r1.nil_iff.mp z)) (fun z => absurd (r2.nil_iff.mp z) hy) (fun z => ?_) (by rw [← r1.length, ← r2.length]; exact hz)
  refine ⟨.ref s.heap.objs.size, _, I.laid (t' := s.toks) (o := .frz { cls := .type "tuple", data := .seq (its ++ its2).toArray } (.tup (xs ++ ys))) (fun b ob q => Heap.get?_push_of_some _ q) (Nat.le_refl _) ?_, rfl, q _ _ (I.hok.fresh (Nat.le_refl _)) rfl⟩
  exact ⟨Heap.get?_push_size _ rfl, by rw [List.length_append]; exact hz, _, r1.append r2, IsTup.new _ _⟩
def dAddX : RD2 := fun x y h Q => match tupAt x, tupAt y with
  | some xs, some ys => xs ≠ [] ∧ ys ≠ [] ∧ xs.length + ys.length ≤ sizeLine ∧ Q (.xtup (xs ++ ys)) h
  | _, _ => False
theorem od_addX : OpD X (binaryOp .Add) dAddX := by
  intro w h x y vx vy Qd Q R rx ry c B
  unfold dAddX at c
  split at c
  · rename_i xs ys e1 e2
    obtain ⟨c1, c2, c3, c⟩ := c
    obtain ⟨a, vs, rfl, hp, rp⟩ := rx.tupR e1
    obtain ⟨b, us, rfl, hq, rq⟩ := ry.tupR e2
    refine wO op_catX ⟨a, b, vs, us, rfl, rfl, hp.now, hq.now, fun z => c1 ?_, fun z => c2 ?_, by rw [← rp.length, ← rq.length]; exact c3, fun p ob hn hd => ?_⟩
    · subst z; cases rp; rfl
    · subst z; cases rq; rfl
    · exact B (w.frz p (.frz ob (.tup (vs ++ us)))) h _ _ (R.leF hn) (R.frz hn) (.xtup (.inr rfl) upd_same hd ((rp.append rq).mono (R.leF hn))) c
  · exact c.elim
def strsOf : List D → Option (List Str)
  | [] => some []
  | .str x :: r => (strsOf r).map (x :: ·)
  | _ :: _ => none
theorem strs_v {K : PySem.W.Frag} {w : Wo} : ∀ {ds : List D} {vs : List V} {xs : List Str}, Reps K w ds vs → strsOf ds = some xs → vs = xs.map V.str
  | _, _, _, .nil, e => by cases e; rfl
  | d :: ds, _, _, .cons a b, e => by
    cases d with
    | str k =>
      simp only [strsOf, Option.map_eq_some_iff] at e
      obtain ⟨xs, e1, rfl⟩ := e
      cases a
      rw [strs_v b e1]
      rfl
    | _ => cases e
def cTIx (c : CE) (cs : CE) : CE := fun σ h Q => c σ h fun x h1 => (∃ ds, x = .xtup ds) ∧ cs σ h1 fun y h2 => match x, y with
  | .xtup ds, .str z => (match strsOf ds with
    | some ys => (match ys.idxOf? z with
      | some j => Q (.int (j : Nat)) h2
      | none => False)
    | none => False)
  | _, _ => False
theorem idxOf?_spec : ∀ {ys : List Str} {z : Str} {j : Nat}, ys.idxOf? z = some j → ys[j]? = some z ∧ ∀ m, m < j → ys[m]? ≠ some z := by
  intro ys z j h
  rw [List.idxOf?, List.findIdx?_eq_some_iff_getElem] at h
  obtain ⟨hl, h1, h2⟩ := h
  refine ⟨by rw [List.getElem?_eq_getElem hl]; exact congrArg some (beq_iff_eq.mp h1), fun m hm e => ?_⟩
  have hml : m < ys.length := by omega
  rw [List.getElem?_eq_getElem hml] at e
  exact absurd (beq_iff_eq.mpr (Option.some.inj e)) (h2 m hm)
theorem le_tix {b : Expr} {cb : CE} (ho : LE X o co) (hb : LE X b cb)
    (hbase : attributeBase o "index" X.env (eval o X.env) = eval o X.env := by rfl)
    (hfew : ((backTo cpos (starEach [b] X.env)).all (fun x => !x.1) && (backToKw cpos (keywordEach [] X.env)).all (fun x => x.1.isSome)
      && decide ([b].length + ([] : List Keyword).length + (if ([] : List Keyword).isEmpty then 0 else 1) < 30)) = true := by rfl)
    (hline : (apos.endLine == cpos.line) = true := by rfl) (hs : starEach [b] X.env = [(false, eval b X.env)] := by rfl) :
    LE X (.Call (.Attribute o "index" apos) [b] [] cpos) (cTIx co cb) := by
  refine ⟨fun w h σd σv Qd Q S R c B => wE (t := fun σ H Q => tW X o σ H fun x H1 => ∃ ad ob vs, x = .ref ad ∧ H1 ad = some (.frz ob (.tup vs)) ∧ ob.dict = none ∧ tWA X [b] σ H1 fun us H2 => tMW X "tuple.index" x us H2 Q) ⟨fun pins s σ H Q I h => ?_⟩ ?_⟩
  · refine wpAny_Call_method_late hbase hfew hline rfl (thn (h pins s I) fun v s1 ⟨x, H1, I1, r1, ad, ob, vs, ex, ea, ed, q1⟩ => ?_)
    subst ex
    obtain rfl : v = Value.ref ad := r1
    obtain ⟨g1, _, its, rv, ob2, g2, g3, g4⟩ := (show ObjOk X.prog X.w H1 s1.heap ad (.frz ob (.tup vs)) from I1.hok ad _ ea)
    refine ⟨"tuple", "tuple.index", PySem.F.plainAttrs_tuple, PySem.F.slot_tuple_index, PySem.F.type_tuple_index, ⟨ob2, g2, g3⟩, fun a e => ?_, ?_⟩
    · cases e; exact ⟨ob, g1, ed⟩
    · have hA := q1 cpos pins s1 I1
      rw [hs] at hA ⊢
      refine Calls.callWith_builtin rfl (Calls.evalArgs_plain ?_)
      exact thn hA fun us s2 ⟨vs, H2, I2, r2, q2⟩ => q2 pins s2 σ _ us I2 rfl r2
  · refine ho.run w h σd σv _ _ S R c fun w1 h1 x vx l1 R1 r1 c1 => ?_
    obtain ⟨⟨ds, rfl⟩, c1⟩ := c1
    cases r1 with
    | xtup hp he hd rp =>
      rename_i ad vs ob
      refine ⟨ad, ob, vs, rfl, he, hd, ?_⟩
      refine wA1 hb hs (S.mono l1) R1 c1 fun w2 h2 y vy l2 R2 r2 c2 => ?_
      cases y with
      | str z =>
        cases r2
        have c2 : (match strsOf ds with | some ys => (match ys.idxOf? z with | some j => Qd (.int (j : Nat)) h2 | none => False) | none => False) := c2
        split at c2
        · rename_i ys e1
          split at c2
          · rename_i j e2
            obtain ⟨f1, f2⟩ := idxOf?_spec e2
            have := strs_v rp e1
            subst this
            exact wM mt_tup_index ⟨ad, ys, z, j, rfl, rfl, .inl (.inr ⟨_, (l2.k _ hp).trans he⟩), f1, f2, (B.mono (l1.trans l2)).same R2 (.int _) c2⟩
          · exact c2.elim
        · exact c2.elim
      | _ => exact c2.elim
def cProp (C : Addr) (T : TSp) (c : CE) : CE := fun σ h Q => c σ h fun d h1 => (∃ fs, objAt h1 d = some (C, fs)) ∧ T [d] h1 Q
theorem le_prop {C pa g : Addr} {f : Str} {fd : FuncData} {ps : List Str} {k : Nat} {T : TSp} (he : LE X e ce) (hC : Cls X.K C) (hp : PropOf X.K C f pa g) (F : FnOk X.prog X.w X.K X.mg X.base CX0 k g fd ps (lift X.K T)) (hr : Room (k + 1) X.A) (hb : Binds X.K fd ps [])
    (hab : attributeBase e f X.env (eval e X.env) = eval e X.env := by rfl) : LE X (.Attribute e f pos) (cProp C T ce) := by
  refine ⟨fun w h σd σv Qd Q S R c B => wE (pe_prop (E := E0) pe_w hC hp F hr hb .nil pass0 hab) ?_⟩
  refine he.run w h σd σv _ _ S R c fun w1 h1 x vx l1 R1 r1 c1 => ?_
  obtain ⟨⟨fs, e1⟩, c1⟩ := c1
  obtain ⟨ad, dx, fv, rfl, ha, rf⟩ := R1.obj r1 e1
  exact ⟨ad, dx, fv, rfl, ha, lift_of R1 (.cons r1 .nil) c1 (B.mono l1)⟩
def dIsiC (C : Addr) : RDA := fun ds h Q => match ds with
  | [x, .gl c] => c = C ∧ (∃ fs, objAt h x = some (C, fs)) ∧ Q (.bl true) h
  | _ => False
theorem cd_isiC {C : Addr} (cl : Cls X.K C) (ha : PySem.W.findIn X.K (.ref C) "__class__" = some (some (.builtin "object.__class__")))
    (hn : PySem.W.specialIn X.K (.builtin "object.__class__") "__get__" = some (some (.builtin "getset_descriptor.__get__"))) (htk : PySem.W.takesIn X.K (.builtin "object.__class__") = some true)
    (hm : PySem.W.mroIn X.K C (.type "object") = some true) (hk : PySem.W.kitOne X.K (.ref C) (.ref C) = some true) : CallD X (.builtin "isinstance") (dIsiC C) := by
  intro w h ds vs Qd Q R r c B
  unfold dIsiC at c
  split at c
  · rename_i x t
    obtain ⟨rfl, ⟨fs, e1⟩, c⟩ := c
    obtain ⟨v, u, rfl, rd, rt⟩ := r.two
    cases rt
    obtain ⟨ad, dx, fv, rfl, hA, rf⟩ := R.obj rd e1
    exact wC call_isi ⟨.ref ad, .ref t, .ref t, .ref t, true, rfl, .own t, .base (.ins hA cl ha hn htk hm), hk, B.same R (.bl _) c⟩
  · exact c.elim
def cIsiP (T1 T2 : String) (c : CE) : CE := fun σ h Q => c σ h fun d h1 => tyN h1 d ≠ "object" ∧ (kitB (tyN h1 d) T1).isSome = true ∧ (kitB (tyN h1 d) T2).isSome = true ∧ Q (.bl (isiB (tyN h1 d) T1 || isiB (tyN h1 d) T2)) h1
theorem le_isiP {T1 T2 : String} {x1 x2 : Str} {p0 p1 p2 p3 : Pos} {kk : Nat} (hgi : Gl X "isinstance") (hmi : X.mg "isinstance" = none) (hg1 : Gl X x1) (hm1 : X.mg x1 = none) (hv1 : bootBuiltins x1 = some (.type T1)) (hg2 : Gl X x2) (hm2 : X.mg x2 = none) (hv2 : bootBuiltins x2 = some (.type T2))
    (he : LE X e ce) (hn1 : x1 ≠ "__name__" := by decide) (hd1 : (x1 == ("__debug__" : Str)) = false := by decide) (hn2 : x2 ≠ "__name__" := by decide) (hd2 : (x2 == ("__debug__" : Str)) = false := by decide)
    (hs1 : starEach [.Name x1 p1, .Name x2 p2] X.env = (false, eval (.Name x1 p1) X.env) :: starEach [.Name x2 p2] X.env := by rfl) (hs2 : starEach [.Name x2 p2] X.env = [(false, eval (.Name x2 p2) X.env)] := by rfl)
    (he1 : starEach [e, .Tuple [.Name x1 p1, .Name x2 p2] kk p3] X.env = (false, eval e X.env) :: starEach [.Tuple [.Name x1 p1, .Name x2 p2] kk p3] X.env := by rfl) (he2 : starEach [.Tuple [.Name x1 p1, .Name x2 p2] kk p3] X.env = [(false, eval (.Tuple [.Name x1 p1, .Name x2 p2] kk p3) X.env)] := by rfl)
    (hpl : (backTo pos (starEach [.Tuple [.Name x1 p1, .Name x2 p2] kk p3] X.env)).any (·.1) = false := by rfl) :
    LE X (.Call (.Name "isinstance" p0) [e, .Tuple [.Name x1 p1, .Name x2 p2] kk p3] [] pos) (cIsiP T1 T2 ce) := by
  refine ⟨fun w h σd σv Qd Q S R c B => wE (pe_callB call_isiT hgi hmi (by first | exact boot_isinstance | rfl) (pa_cons pe_w (pa_cons (pe_tup (pa_cons (pe_bltn hg1 hm1 hv1 (v := .ty T1) rfl hn1 hd1) (pa_cons (pe_bltn hg2 hm2 hv2 (v := .ty T2) rfl hn2 hd2) pa_nil hs2) hs1)) pa_nil he2) he1) (by decide) (by decide) he1 hpl) ?_⟩
  refine he.run w h σd σv _ _ S R c fun w1 h1 d v l1 R1 r1 c1 => ?_
  obtain ⟨c0, c1, c2, c3⟩ := c1
  refine ⟨by show 2 ≤ sizeLine; decide, fun pp hp => ?_⟩
  obtain ⟨b1, e1⟩ := Option.isSome_iff_exists.mp c1
  obtain ⟨b2, e2⟩ := Option.isSome_iff_exists.mp c2
  have lF := R1.leF (o := .tup [.ty T1, .ty T2]) hp
  have RF := R1.frz (o := .tup [.ty T1, .ty T2]) hp
  refine ⟨v, pp, [.ty T1, .ty T2], .type (tyN h1 d), [.type T1, .type T2], b1 || b2, rfl, upd_same, .cons (.ty _) (.cons (.ty _) .nil), RF.ty (r1.mono lF) c0, ?_, ?_⟩
  · refine kitAny_cons (kit_ty e1) (fun hb => ?_) (fun hb => by subst hb; rfl)
    subst hb
    exact kitAny_cons (kit_ty e2) (fun hb => by subst hb; exact kitAny_nil) (fun hb => by subst hb; rfl)
  · have e3 : isiB (tyN h1 d) T1 = b1 := by unfold isiB; rw [e1]; rfl
    have e4 : isiB (tyN h1 d) T2 = b2 := by unfold isiB; rw [e2]; rfl
    rw [e3, e4] at c3
    exact B (w1.frz pp _) h1 _ _ (l1.trans lF) RF (.bl _) c3
def dRepr : RDA := fun ds h Q => match ds with
  | [x] => (match dval h x with
    | some (.list ps) => (PyData.list ps).showable = true ∧ (PyData.list ps).hasDict = false ∧ (PyData.list ps).depth ≤ 60 ∧ (PyData.list ps).shown.length ≤ sizeLine ∧ Q (.str (PyData.list ps).shown) h
    | _ => False)
  | _ => False
theorem cd_repr (hg : X.A.guards = some []) (hu : X.A.units + 64 < cLine) : CallD X (.builtin "repr") dRepr := by
  intro w h ds vs Qd Q R r c B
  unfold dRepr at c
  split at c
  · rename_i x
    split at c
    · rename_i ps e1
      obtain ⟨c1, c2, c3, c4, c⟩ := c
      obtain ⟨v, rfl, rd⟩ := r.one
      have dp := R.dp rd e1
      cases dp with
      | lst hs dd =>
        rename_i ad xs
        intro pins s σ us I rus
        obtain ⟨u, rfl, ru⟩ := Vals.one rus
        cases ru
        obtain ⟨as, rr⟩ := Dp.reads I (.list ps) _ _ (.lst hs dd) (rfl : RelV (.ref ad) (.ref ad))
        refine repr_of_reads' rr c1 (fun z => by rw [c2] at z; cases z) hg (by omega) (fun _ _ z => z) (fun h' u tk hk => ?_) c4
        exact ⟨.str _, w.H, I.kept (t' := tk) hk, ⟨u, rfl⟩, B.same R (.str _) c⟩
    · exact c.elim
  · exact c.elim
end
end TL

namespace TL
open PySem PySem.Spec PyProof.Rows L2
section
variable {prog : Program} {w : World} {A : Around} {R : Result → Shared → Prop} {I : Addr} {fp wr : List Addr} {G : Array GenState → Array GenState → Prop} {n : Nat} {P : Nat → Value → Prop} {St : Nat → Shared → Prop}
/-- the loop of set.update over texts that differ -/
theorem loopStrN (W : WalksS prog w A.in1 I fp wr G n P St) (S : Addr) (hSf : S ∉ fp) (xs : List Str) (hsz : xs.length = n) (hn1 : n ≤ 4000) (nd : xs.Nodup)
    (hval : ∀ i v, P i v → ∃ t, v = .str (xs.getD i Str.empty) t) :
    ∀ (k i : Nat) (s : Shared), n - i = k → i ≤ n → St i s →
      s.heap.SetOf (PySem.strKind prog w) S (fun k' => (xs.take i).any (· == k')) i →
      (∀ s', Moved (S :: wr) G s s' → s'.heap.SetOf (PySem.strKind prog w) S (fun k' => (xs.take n).any (· == k')) n → R (.ok (.ret .none)) s') →
      codeAny (model prog w) A (.builtin "set.update.loop" ⟨[.ref S, .ref I], []⟩) R s := by
  have hSw : S ∉ wr := fun h => hSf (W.sub _ h)
  have hsub : ∀ b ∈ wr, b ∈ S :: wr := fun b hb => List.mem_cons_of_mem _ hb
  intro k
  induction k with
  | zero =>
    intro i s hk hi hst hS hR
    have hin : i = n := by omega
    subst hin
    refine codeAny_builtin PyProof.Rows.F.entry_set_update_loop ?_
    rw [Around.under_plainId PyProof.Rows.F.plain_set_update_loop _]
    show wpAny _ A.in1 (pyNext (.ref I) >>= _) _ _ s
    refine wpAny_bind (W.done s _ _ hst fun s' hm => ?_)
    show wpAny _ A.in1 (ret Value.none) _ _ s'
    exact wpAny_pure (hR s' (hm.mono hsub) (by
      obtain ⟨o, es, ep, t, ho, rest⟩ := hS
      exact ⟨o, es, ep, t, hm.heap S _ hSw ho, rest⟩))
  | succ k ih =>
    intro i s hk hi hst hS hR
    have hlt : i < n := by omega
    have hlx : i < xs.length := by omega
    have eD : xs.getD i Str.empty = xs[i] := by rw [List.getD_eq_getElem?_getD, List.getElem?_eq_getElem hlx]; rfl
    refine codeAny_builtin PyProof.Rows.F.entry_set_update_loop ?_
    rw [Around.under_plainId PyProof.Rows.F.plain_set_update_loop _]
    show wpAny _ A.in1 (pyNext (.ref I) >>= _) _ _ s
    refine wpAny_bind (W.item i s _ _ hlt hst fun v s' hP hst' hm => ?_)
    obtain ⟨t, rfl⟩ := hval i v hP
    have hS' : s'.heap.SetOf (PySem.strKind prog w) S (fun k' => (xs.take i).any (· == k')) i := by
      obtain ⟨o, es, ep, tb, ho, rest⟩ := hS
      exact ⟨o, es, ep, tb, hm.heap S _ hSw ho, rest⟩
    show wpAny _ A.in1 (holding [Value.str (xs.getD i Str.empty) t] (setAdd S (.str (xs.getD i Str.empty) t)) >>= _) _ _ s'
    refine wpAny_bind (wpAny_holding ?_)
    unfold setAdd
    refine wpAny_holding ?_
    refine wpAny_bind ((PySem.strKind prog w).pyHash (k := xs.getD i Str.empty) (strKind_is _ _ _ _) ?_)
    refine wpAny_setAddHashed_of (knd := PySem.strKind prog w) (s := { s' with toks := s'.toks + 1 }) (strKind_is _ _ _ _) rfl hS' (by unfold scanBound; omega) fun h' hsb hS2 => ?_
    have notin : ((xs.take i).any (· == xs.getD i Str.empty)) = false := by
      rw [eD, List.any_eq_false]
      intro y hy e
      obtain ⟨j, hj, ey⟩ := List.getElem_of_mem hy
      have hj' : j < i := by rw [List.length_take] at hj; omega
      rw [List.getElem_take] at ey
      have e2 : xs[j] = xs[i] := ey.trans (beq_iff_eq.mp e)
      have := (List.getElem_inj nd).mp e2
      omega
    have hSi : h'.SetOf (PySem.strKind prog w) S (fun k' => (xs.take (i + 1)).any (· == k')) (i + 1) := by
      refine SetOf_congr hS2 (fun k' => ?_) (by rw [if_neg (by rw [notin]; exact Bool.false_ne_true)])
      rw [List.take_add_one, List.getElem?_eq_getElem hlx, List.any_append, eD]
      show ((xs.take i).any (· == k') || decide (k' = xs[i])) = ((xs.take i).any (· == k') || [xs[i]].any (· == k'))
      congr 1
      by_cases e : k' = xs[i]
      · subst e; simp
      · have hb : (xs[i] == k') = false := by simpa [beq_iff_eq] using (fun h' : xs[i] = k' => e h'.symm)
        simp [hb, e]
    refine wpAny_pure ⟨plainId_quiet PyProof.Rows.F.plain_set_update_loop _, ih (i + 1) _ (by omega) hlt (W.frame _ s' _ _ hst' (Nat.le_succ _) fun b hb o e => ?_) hSi fun s'' hm'' hS'' => ?_⟩
    · rw [hsb.2 b (fun h : b = S => hSf (by rw [← h]; exact hb))]; exact e
    · refine hR s'' (Moved.trans W.gtrans ((hm.mono hsub).then_heap (Nat.le_succ _) fun b o hb e => ?_) hm'') hS''
      rw [hsb.2 b (fun h : b = S => hb (by rw [h]; exact List.mem_cons_self))]; exact e
end
section
variable {prog : Program} {w : World} {A : Around} {E : Value → Shared → Prop} {s : Shared}
set_option maxHeartbeats 3200000 in
theorem call_setN_list {l : Addr} {items : Array Value} {xs : List Str} {Q : Value → Shared → Prop}
    (hh : A.handled = none) (hl : s.heap.IsList l items) (hi : PyProof.Rows.StrsAre items.toList xs) (hn1 : xs.length ≤ 4000) (nd : xs.Nodup)
    (h : ∀ (h' : Heap) (tk : Nat), h'.SetOf (PySem.strKind prog w) s.heap.objs.size (fun k' => (xs.take items.size).any (· == k')) items.size →
      (∀ b o, b < s.heap.objs.size → s.heap.get? b = some o → h'.get? b = some o) → Q (.ref s.heap.objs.size) { s with heap := h', toks := tk }) :
    wpAny (model prog w) A (call (.type "set") [.ref l]) Q E s := by
  obtain ⟨c, tl, hmro⟩ := PySem.F.called_set.mro
  have hmade := PySem.F.called_set.made
  have hsub := PySem.F.called_set.sub
  refine wpAny_call (codeAny_of_tree ?_)
  show wpAny _ _ (callAny (.type "set") _) _ _ _
  refine wpAny_pure ⟨Code.quiet_builtin _ (by decide +kernel), codeAny_builtin PySem.F.entry_type_call ?_⟩
  rw [Around.under_plain (weight_type_call_type "set" [.ref l] []) rfl]
  have h1 := PySem.F.called_set.notType
  have h2 := PySem.F.called_set.canCreate
  have hct := PySem.F.typeCall_set_1 (.ref l)
  repeat (any_goals (first | assumption | wp_step))
  refine codeAny_mono (code_set_new_1 (.ref l) (E := E) (Q₁ := fun obj s₁ => ∃ led : Bool, obj = .ref s.heap.objs.size ∧ s₁ = { s with heap := s.heap.push { cls := .type "set", dict := none, data := .set #[] 0 (.fresh 0 0 led) } }) fun led => ⟨led, rfl, rfl⟩) fun r s₁ hr => ?_
  cases r with
  | error e => exact hr
  | ok fl =>
    cases fl with
    | ret obj =>
      obtain ⟨led, rfl, rfl⟩ := hr
      have hS : (s.heap.push { cls := .type "set", dict := none, data := .set #[] 0 (.fresh 0 0 led) }).get? s.heap.objs.size = some { cls := .type "set", dict := none, data := .set #[] 0 (.fresh 0 0 led) } := Heap.get?_push_size _ rfl
      have hT : Shared.TypeIs { s with heap := s.heap.push { cls := .type "set", dict := none, data := .set #[] 0 (.fresh 0 0 led) } } (.ref s.heap.objs.size) "set" := ⟨_, hS, rfl⟩
      have hli := PySem.F.called_set.init.lookup
      have hbi := PySem.F.called_set.init.bind (.ref s.heap.objs.size)
      repeat (any_goals (first | assumption | wp_step))
      refine codeAny_mono (codeAny_call_builtin (R := wants (fun r s₂ => r = .none ∧ ∃ h' tk, s₂ = { s with heap := h', toks := tk } ∧
          h'.SetOf (PySem.strKind prog w) s.heap.objs.size (fun k' => (xs.take items.size).any (· == k')) items.size ∧
          (∀ b o, b < s.heap.objs.size → s.heap.get? b = some o → h'.get? b = some o)) E) PySem.F.called_set.init.plain PySem.F.entry_set_init (check_set_init_1 hT ?_)) fun r₂ s₂ hr₂ => ?_
      · obtain ⟨ol, hol, hcl, nl, hdl⟩ := hl
        obtain ⟨ocls, odict, odata, oslots⟩ := ol
        simp only at hcl hdl
        subst hcl; subst hdl
        have hol' : (s.heap.push { cls := .type "set", dict := none, data := .set #[] 0 (.fresh 0 0 led) }).get? l = some { cls := .type "list", dict := odict, data := .seq items nl, slots := oslots } := Heap.get?_push_of_some _ hol
        have hsls := PySem.F.sub_list_set
        have hslf := PySem.F.sub_list_frozenset
        have hne : (Value.type "list" == Value.type "dict") = false := by decide
        have hl1 : (s.heap.push { cls := .type "set", dict := none, data := .set #[] 0 (.fresh 0 0 led) }).IsList l items := ⟨_, hol', rfl, nl, rfl⟩
        unfold Builtin.«set.__init__» noKeywords Builtin.Frozenset.updateFrom
        generalize hPI : pyIter = PI
        wp_walk
        subst hPI
        refine wpAny_pyIter_list hl1 ?_
        refine wpAny_bind (wpAny_runValue ?_)
        have hlS : l < s.heap.objs.size := Heap.lt_size hol
        have hh3 : A.in1.in1.in1.handled = none := by simp [hh]
        have hneI : l ≠ (s.heap.push { cls := .type "set", dict := none, data := .set #[] 0 (.fresh 0 0 led) }).objs.size := by
          rw [Heap.size_push]; exact Nat.ne_of_lt (Nat.lt_succ_of_lt hlS)
        have hSf : s.heap.objs.size ∉ [(s.heap.push { cls := .type "set", dict := none, data := .set #[] 0 (.fresh 0 0 led) }).objs.size, l] := by
          rw [Heap.size_push]; simp only [List.mem_cons, List.mem_singleton, List.not_mem_nil, or_false, not_or]
          exact ⟨Nat.ne_of_lt (Nat.lt_succ_self _), Nat.ne_of_gt hlS⟩
        have hsz : xs.length = items.size := by rw [← StrsAre.len_eq hi, Array.length_toList]
        have hval : ∀ (i : Nat) (v : Value), items[i]? = some v → ∃ t, v = .str (xs.getD i Str.empty) t := fun i v hv => SS.strs_at hi i v (by rw [Array.getElem?_toList]; exact hv)
        refine loopStrN ((Walks.list hh3 _ l hneI items).toS) s.heap.objs.size
          hSf xs hsz (by rw [← hsz]; exact hn1) nd hval (items.size - 0) 0 _ (by omega) (Nat.zero_le _)
          ⟨⟨_, Heap.get?_push_size _ rfl, rfl, rfl⟩, (hl1.push _)⟩ ?hS0 ?hR
        case hS0 =>
          have hget : ((s.heap.push { cls := .type "set", dict := none, data := .set #[] 0 (.fresh 0 0 led) }).push { cls := .type "list_iterator", data := .fields #[.ref l, .int 0 0] }).get? s.heap.objs.size
              = some { cls := .type "set", dict := none, data := .set #[] 0 (.fresh 0 0 led) } := Heap.get?_push_of_some _ hS
          exact PyProof.Rows.SetOf_congr ((PyProof.Rows.setObjOf_fresh (knd := PySem.strKind prog w) led).setOf hget (by unfold scanBound; omega)) (fun _ => rfl) rfl
        case hR =>
          intro s' hm hS'
          obtain ⟨h', g', d', tk', os'⟩ := s'
          have eg : g' = s.gens := hm.gens
          have ed : d' = s.drawn := hm.drawn
          have eo : os' = s.os := hm.os
          subst eg; subst ed; subst eo
          show wpAny _ _ _ _ _ _
          refine wpAny_pure ?_
          show wpAny _ _ (ret Value.none) _ _ _
          refine wpAny_pure ⟨rfl, h', tk', rfl, hS', fun b o hb e => ?_⟩
          have hb1 : b ≠ s.heap.objs.size := Nat.ne_of_lt hb
          have hb2 : b ≠ (s.heap.push { cls := .type "set", dict := none, data := .set #[] 0 (.fresh 0 0 led) }).objs.size := by
            rw [Heap.size_push]; exact Nat.ne_of_lt (Nat.lt_succ_of_lt hb)
          exact hm.heap b o (by simp only [List.mem_cons, List.mem_singleton, List.not_mem_nil, or_false, not_or]; exact ⟨hb1, hb2⟩) (Heap.get?_push_of_some _ (Heap.get?_push_of_some _ e))
      · cases r₂ with
        | error e => exact hr₂
        | ok fl₂ =>
          cases fl₂ with
          | ret r =>
            obtain ⟨rfl, h', tk, rfl, hS', hk'⟩ := hr₂
            repeat (any_goals (first | assumption | wp_step))
            exact h _ _ hS' hk'
          | _ => exact hr₂.elim
    | _ => exact hr.elim
set_option maxHeartbeats 3200000 in
theorem call_setN_tuple {l : Addr} {items : Array Value} {xs : List Str} {Q : Value → Shared → Prop}
    (hh : A.handled = none) (hl : s.heap.IsTuple l items) (hi : PyProof.Rows.StrsAre items.toList xs) (hn1 : xs.length ≤ 4000) (nd : xs.Nodup)
    (h : ∀ (h' : Heap) (tk : Nat), h'.SetOf (PySem.strKind prog w) s.heap.objs.size (fun k' => (xs.take items.size).any (· == k')) items.size →
      (∀ b o, b < s.heap.objs.size → s.heap.get? b = some o → h'.get? b = some o) → Q (.ref s.heap.objs.size) { s with heap := h', toks := tk }) :
    wpAny (model prog w) A (call (.type "set") [.ref l]) Q E s := by
  obtain ⟨c, tl, hmro⟩ := PySem.F.called_set.mro
  have hmade := PySem.F.called_set.made
  have hsub := PySem.F.called_set.sub
  refine wpAny_call (codeAny_of_tree ?_)
  show wpAny _ _ (callAny (.type "set") _) _ _ _
  refine wpAny_pure ⟨Code.quiet_builtin _ (by decide +kernel), codeAny_builtin PySem.F.entry_type_call ?_⟩
  rw [Around.under_plain (weight_type_call_type "set" [.ref l] []) rfl]
  have h1 := PySem.F.called_set.notType
  have h2 := PySem.F.called_set.canCreate
  have hct := PySem.F.typeCall_set_1 (.ref l)
  repeat (any_goals (first | assumption | wp_step))
  refine codeAny_mono (code_set_new_1 (.ref l) (E := E) (Q₁ := fun obj s₁ => ∃ led : Bool, obj = .ref s.heap.objs.size ∧ s₁ = { s with heap := s.heap.push { cls := .type "set", dict := none, data := .set #[] 0 (.fresh 0 0 led) } }) fun led => ⟨led, rfl, rfl⟩) fun r s₁ hr => ?_
  cases r with
  | error e => exact hr
  | ok fl =>
    cases fl with
    | ret obj =>
      obtain ⟨led, rfl, rfl⟩ := hr
      have hS : (s.heap.push { cls := .type "set", dict := none, data := .set #[] 0 (.fresh 0 0 led) }).get? s.heap.objs.size = some { cls := .type "set", dict := none, data := .set #[] 0 (.fresh 0 0 led) } := Heap.get?_push_size _ rfl
      have hT : Shared.TypeIs { s with heap := s.heap.push { cls := .type "set", dict := none, data := .set #[] 0 (.fresh 0 0 led) } } (.ref s.heap.objs.size) "set" := ⟨_, hS, rfl⟩
      have hli := PySem.F.called_set.init.lookup
      have hbi := PySem.F.called_set.init.bind (.ref s.heap.objs.size)
      repeat (any_goals (first | assumption | wp_step))
      refine codeAny_mono (codeAny_call_builtin (R := wants (fun r s₂ => r = .none ∧ ∃ h' tk, s₂ = { s with heap := h', toks := tk } ∧
          h'.SetOf (PySem.strKind prog w) s.heap.objs.size (fun k' => (xs.take items.size).any (· == k')) items.size ∧
          (∀ b o, b < s.heap.objs.size → s.heap.get? b = some o → h'.get? b = some o)) E) PySem.F.called_set.init.plain PySem.F.entry_set_init (check_set_init_1 hT ?_)) fun r₂ s₂ hr₂ => ?_
      · obtain ⟨ol, hol, hcl, nl, hdl⟩ := hl
        obtain ⟨ocls, odict, odata, oslots⟩ := ol
        simp only at hcl hdl
        subst hcl; subst hdl
        have hol' : (s.heap.push { cls := .type "set", dict := none, data := .set #[] 0 (.fresh 0 0 led) }).get? l = some { cls := .type "tuple", dict := odict, data := .seq items nl, slots := oslots } := Heap.get?_push_of_some _ hol
        have hsls := PySem.F.sub_tuple_set
        have hslf := PySem.F.sub_tuple_frozenset
        have hne : (Value.type "tuple" == Value.type "dict") = false := by decide
        have hl1 : (s.heap.push { cls := .type "set", dict := none, data := .set #[] 0 (.fresh 0 0 led) }).IsTuple l items := ⟨_, hol', rfl, nl, rfl⟩
        unfold Builtin.«set.__init__» noKeywords Builtin.Frozenset.updateFrom
        generalize hPI : pyIter = PI
        wp_walk
        subst hPI
        refine wpAny_pyIter_tuple hl1 ?_
        refine wpAny_bind (wpAny_runValue ?_)
        have hlS : l < s.heap.objs.size := Heap.lt_size hol
        have hh3 : A.in1.in1.in1.handled = none := by simp [hh]
        have hneI : l ≠ (s.heap.push { cls := .type "set", dict := none, data := .set #[] 0 (.fresh 0 0 led) }).objs.size := by
          rw [Heap.size_push]; exact Nat.ne_of_lt (Nat.lt_succ_of_lt hlS)
        have hSf : s.heap.objs.size ∉ [(s.heap.push { cls := .type "set", dict := none, data := .set #[] 0 (.fresh 0 0 led) }).objs.size, l] := by
          rw [Heap.size_push]; simp only [List.mem_cons, List.mem_singleton, List.not_mem_nil, or_false, not_or]
          exact ⟨Nat.ne_of_lt (Nat.lt_succ_self _), Nat.ne_of_gt hlS⟩
        have hsz : xs.length = items.size := by rw [← StrsAre.len_eq hi, Array.length_toList]
        have hval : ∀ (i : Nat) (v : Value), items[i]? = some v → ∃ t, v = .str (xs.getD i Str.empty) t := fun i v hv => SS.strs_at hi i v (by rw [Array.getElem?_toList]; exact hv)
        refine loopStrN ((Walks.tuple hh3 _ l hneI items).toS) s.heap.objs.size
          hSf xs hsz (by rw [← hsz]; exact hn1) nd hval (items.size - 0) 0 _ (by omega) (Nat.zero_le _)
          ⟨⟨_, Heap.get?_push_size _ rfl, rfl, rfl⟩, (hl1.push _)⟩ ?hS0 ?hR
        case hS0 =>
          have hget : ((s.heap.push { cls := .type "set", dict := none, data := .set #[] 0 (.fresh 0 0 led) }).push { cls := .type "tuple_iterator", data := .fields #[.ref l, .int 0 0] }).get? s.heap.objs.size
              = some { cls := .type "set", dict := none, data := .set #[] 0 (.fresh 0 0 led) } := Heap.get?_push_of_some _ hS
          exact PyProof.Rows.SetOf_congr ((PyProof.Rows.setObjOf_fresh (knd := PySem.strKind prog w) led).setOf hget (by unfold scanBound; omega)) (fun _ => rfl) rfl
        case hR =>
          intro s' hm hS'
          obtain ⟨h', g', d', tk', os'⟩ := s'
          have eg : g' = s.gens := hm.gens
          have ed : d' = s.drawn := hm.drawn
          have eo : os' = s.os := hm.os
          subst eg; subst ed; subst eo
          show wpAny _ _ _ _ _ _
          refine wpAny_pure ?_
          show wpAny _ _ (ret Value.none) _ _ _
          refine wpAny_pure ⟨rfl, h', tk', rfl, hS', fun b o hb e => ?_⟩
          have hb1 : b ≠ s.heap.objs.size := Nat.ne_of_lt hb
          have hb2 : b ≠ (s.heap.push { cls := .type "set", dict := none, data := .set #[] 0 (.fresh 0 0 led) }).objs.size := by
            rw [Heap.size_push]; exact Nat.ne_of_lt (Nat.lt_succ_of_lt hb)
          exact hm.heap b o (by simp only [List.mem_cons, List.mem_singleton, List.not_mem_nil, or_false, not_or]; exact ⟨hb1, hb2⟩) (Heap.get?_push_of_some _ (Heap.get?_push_of_some _ e))
      · cases r₂ with
        | error e => exact hr₂
        | ok fl₂ =>
          cases fl₂ with
          | ret r =>
            obtain ⟨rfl, h', tk, rfl, hS', hk'⟩ := hr₂
            repeat (any_goals (first | assumption | wp_step))
            exact h _ _ hS' hk'
          | _ => exact hr₂.elim
    | _ => exact hr.elim
end
end TL

namespace TL
open PySem PySem.Spec PyProof.Rows L2
section
variable {X : Cx} {ce : CE}
def cLenSet (c : CE) : CE := fun σ h Q => c σ h fun x h1 => match (seqRd h1 x).bind strsOf with
  | some xs => xs.length ≤ 4000 ∧ xs.Nodup ∧ Q (.int xs.length) h1
  | none => False
theorem le_lenSet {a : Expr} {p p2 q pos : Pos} (hc : X.calm = true) (hg : Gl X "len") (hm : X.mg "len" = none) (hg2 : Gl X "set") (hm2 : X.mg "set" = none) (ha : LE X a ce)
    (na : starEach [a] X.env = (false, eval a X.env) :: starEach [] X.env := by rfl) : LE X (.Call (.Name "len" p) [.Call (.Name "set" p2) [a] [] q] [] pos) (cLenSet ce) := by
  refine ⟨fun w h σd σv Qd Q S R c B => fun pins s I => ?_⟩
  refine Call_ (ld_blt I hg hm boot_len ?_)
  refine PyProof.Rows.callWith_builtin1 (PyProof.Rows.args_cons ?_ rfl) rfl rfl
  refine Call_ (ld_blt I hg2 hm2 boot_set ?_)
  refine PyProof.Rows.callWith_type1 (PyProof.Rows.args_cons (thn (ha.run w h σd σv _ (fun x H1 => ∃ l, ∃ xs : List Str, x = .ref l ∧ (SqL X.K H1 l (xs.map V.str) ∨ SqT X.K H1 l (xs.map V.str)) ∧ xs.length ≤ 4000 ∧ xs.Nodup ∧ Q (.int xs.length) H1) S R c (fun w1 h1 x vx l1 R1 r1 c1 => ?_) pins s I) fun v s1 ⟨x, H1, I1, r1, q1⟩ => PyProof.Rows.args_nil ?_) na) na rfl
  · dsimp only at c1 ⊢
    split at c1
    · rename_i xs e1
      obtain ⟨ds, e2, e3⟩ := Option.bind_eq_some_iff.mp e1
      obtain ⟨l, vs, rfl, hp, rp⟩ := R1.seq r1 e2
      have := strs_v rp e3
      subst this
      exact ⟨l, xs, rfl, hp, c1.1, c1.2.1, (B.mono l1).same R1 (.int _) c1.2.2⟩
    · exact c1.elim
  · obtain ⟨l, xs, rfl, hq, h1, nd, q1⟩ := q1
    cases r1
    have fin : ∀ (its : List Value), Vals (xs.map V.str) its → ∀ (h' : Heap) (tk : Nat), h'.SetOf (PySem.strKind X.prog X.w) s1.heap.objs.size (fun k' => (xs.take its.toArray.size).any (· == k')) its.toArray.size →
        (∀ b o, b < s1.heap.objs.size → s1.heap.get? b = some o → h'.get? b = some o) →
        wpAny (model X.prog X.w) X.A (spliced (backTo pos (starEach [] X.env))) (fun vs s₂ => wpAny (model X.prog X.w) X.A (call (.builtin "len") (Value.ref s1.heap.objs.size :: vs)) (EP X pins σv Q) X.xe s₂) X.xe { s1 with heap := h', toks := tk } := fun its r h' tk hS hk => by
      refine PyProof.Rows.args_nil ?_
      have hl : its.toArray.size = xs.length := by rw [List.size_toArray, ← r.length, List.length_map]
      rw [hl] at hS
      obtain ⟨o, es, ep, t, ho, hex, hd, _, _, _, hf, hn⟩ := hS
      have I2 : Inv X pins σv H1 { s1 with heap := h', toks := tk } := I1.kept fun b o e => hk b o (Heap.lt_size e) e
      refine call_len_set ho hex hd hf (by rw [hn]; omega) ⟨.int xs.length, H1, I2.tok _, ⟨_, by rw [hn]⟩, q1⟩
    rcases hq with hq | hq
    · obtain ⟨its, r, pl, hz⟩ := I1.list hq
      exact call_setN_list (I1.ok.hd hc) pl.isList (by simpa using strsAre_of r) h1 nd fun h' tk hS hk => fin its r h' tk hS hk
    · obtain ⟨its, r, pl, hz⟩ := I1.tuple hq
      exact call_setN_tuple (I1.ok.hd hc) pl (by simpa using strsAre_of r) h1 nd fun h' tk hS hk => fin its r h' tk hS hk
end
end TL

namespace TL
open PySem PySem.Spec PyProof.Rows L2
set_option maxHeartbeats 1000000 in
theorem meets_enumerate_newB1 {v : Value} {o : Obj} {H : Heap → Prop} (B : Begins v o H) :
    Meets (Builtin.«enumerate.__new__» ⟨[.type "enumerate", v], []⟩) (fun _ R s => H s.heap ∧
      R (.ok (.ret (.ref (s.heap.push o).objs.size))) { s with heap := (s.heap.push o).push { cls := .type "enumerate", data := .fields #[.none, .bool false, .ref s.heap.objs.size, rawInt 0, .none, .none] } }) :=
  .of_wp fun prog w A R s h => by
    obtain ⟨hp, g, d, tk, os⟩ := s; obtain ⟨h1, h⟩ := h
    have hsub := sub_enumerate
    have q1 : ∀ {A' : Around} {E : Value → Shared → Prop} {Q : Value → Shared → Prop}, Q (.ref hp.objs.size) ⟨hp.push o, g, d, tk, os⟩ → wpAny (model prog w) A' (pyIter v) Q E ⟨hp, g, d, tk, os⟩ :=
      fun q => B.iter prog w _ _ ⟨hp, g, d, tk, os⟩ _ h1 q
    wp_walk using q1
    refine wpAny_stack_any fun st => wpAny_pure ?_
    split
    · rename_i c _ _ _ _ _
      cases (c == Value.type "enumerate")
      · wp_walk using q1
        exact ⟨_, rfl, h⟩
      · wp_walk using q1
        exact ⟨_, rfl, h⟩
    · wp_walk using q1
      exact ⟨_, rfl, h⟩
section
variable {prog : Program} {w : World} {A : Around} {E : Value → Shared → Prop} {s : Shared}
theorem enum_begins1 {v : Value} {o : Obj} {H : Heap → Prop} {Q : Value → Shared → Prop} (B : Begins v o H) (h1 : H s.heap)
    (h : ∀ h', IsEnum h' (s.heap.objs.size + 1) s.heap.objs.size 0 .none → h'.get? s.heap.objs.size = some o → h'.objs.size = s.heap.objs.size + 2 →
      (∀ b o, s.heap.get? b = some o → h'.get? b = some o) → Q (.ref (s.heap.objs.size + 1)) { s with heap := h' }) :
    wpAny (model prog w) A (call (.type "enumerate") [v]) Q E s := by
  refine callType_new F.called_enumerate (by decide) (F.typeCall_enumerate_1 _) (F.newCall_enumerate_1 _) (fun obj => F.args_object_init_2 obj _) F.entry_enumerate_new
    (meets_enumerate_newB1 B) ⟨h1, ?_⟩
  have hz : (s.heap.push o).objs.size = s.heap.objs.size + 1 := Heap.size_push ..
  show _ ∧ _
  rw [hz]
  have he : IsEnum ((s.heap.push o).push { cls := .type "enumerate", data := .fields #[.none, .bool false, .ref s.heap.objs.size, rawInt 0, .none, .none] }) (s.heap.objs.size + 1) s.heap.objs.size 0 .none := by
    have := Heap.get?_push_size (s.heap.push o) (o := { cls := .type "enumerate", data := .fields #[.none, .bool false, .ref s.heap.objs.size, rawInt 0, .none, .none] }) rfl
    rw [hz] at this; exact this
  refine ⟨⟨_, he, rfl⟩, h _ he (Heap.get?_push_of_some _ (Heap.get?_push_size _ B.free)) (by rw [Heap.size_push, hz]) fun b o x => Heap.get?_push_of_some _ (Heap.get?_push_of_some _ x)⟩
end
/-- the tuple at a as it stands at each turn, each item in a new pair -/
def IteT (K : PySem.W.Frag) (a : Addr) : It :=
  ⟨fun i H => ∃ (xs : List V) (x : V), SqT K H a xs ∧ xs[i]? = some x, fun i H v H' => ∃ T x, v = .ref T ∧ H T = none ∧ H' = upd H T (.tup [.int (i : Nat), x]) ∧ ∀ xs, SqT K H a xs → xs[i]? = some x, fun i H => ∃ xs : List V, SqT K H a xs ∧ xs.length ≤ i⟩
theorem turn_enumT {P : Program} {w : World} {K : PySem.W.Frag} {elts : List Expr} {kk : Nat} {tpos : Pos} (a e it : Addr) :
    Turn P w K (.Tuple elts kk tpos) (IteT K a) [e, it] e (fun i h => (∃ old, IsEnum h e it ((i : Nat) : Int) old) ∧ h.IsTupleIter it a i ∧ e ≠ it) where
  mem := by simp
  obj := fun i h st b hb => by
    obtain ⟨⟨old, he⟩, ⟨o, ho, hc, hd⟩, _⟩ := st
    have e' : b = e ∨ b = it := by simpa using hb
    rcases e' with z | z
    · rw [z]; exact ⟨_, he, fun v q => nomatch q⟩
    · rw [z]; exact ⟨o, ho, fun v q => by rw [hd] at q; cases q⟩
  keep := fun i h h' st k => let ⟨⟨old, he⟩, hi, hne⟩ := st; ⟨⟨old, k e (by simp) _ he⟩, hi.at fun o q => k it (by simp) o q, hne⟩
  item := by
    intro X hP hw hK hc i pins s σ H E I hf st hg
    subst hP hw hK
    obtain ⟨⟨old, he⟩, hit, hne⟩ := st
    obtain ⟨xs, x, hq, hx⟩ := hg
    obtain ⟨its, rv, p, hz⟩ := I.tuple hq
    obtain ⟨u, hu, ru⟩ := rv.get hx
    have hel : e < s.heap.objs.size := Heap.lt_size he
    have hil : it < s.heap.objs.size := by obtain ⟨_, q, _⟩ := hit; exact Heap.lt_size q
    have hta : a ≠ it := by
      rintro rfl
      obtain ⟨o1, e1, c1, _⟩ := hit
      obtain ⟨o2, e2, c2, _⟩ := p
      rw [e1] at e2; cases e2
      rw [c1] at c2; injection c2 with z; exact absurd z (by decide)
    have hea : e ≠ a := by
      rintro rfl
      obtain ⟨o2, e2, c2, _⟩ := p
      rw [he] at e2; cases e2
      injection c2 with z; exact absurd z (by decide)
    have hA : X.A.in1.handled = none := I.ok.hd hc
    have hilt : i < its.toArray.size := by
      have := (List.getElem?_eq_some_iff.mp hu).1
      simpa using this
    refine wpAny_pyNext_enum_itemC (Draws.tuple (prog := X.prog) (w := X.w) (A := X.A.in1) hA it a hta its.toArray) he ⟨hit, p⟩ hilt hne (by simp [hne, hea]) fun y h' tk hP ho hst' hT hsz hk => ?_
    have ey : y = u := by
      have e1 : its[i]? = some y := by simpa using hP
      rw [hu] at e1; cases e1; rfl
    subst ey
    refine ⟨_, rfl, wpAny_letOwnedTupleGo_enum (s := { s with heap := h', toks := tk + 1 }) ho fun h'' he' sb => ?_⟩
    have hT2 : h''.get? s.heap.objs.size = some { cls := .type "tuple", data := .seq #[.int i tk, y] } := (sb.2 _ (Nat.ne_of_gt hel)).trans hT
    have new : ObjOk X.prog X.w (upd H s.heap.objs.size (.tup [.int (i : Nat), x])) h'' s.heap.objs.size (.tup [.int (i : Nat), x]) :=
      ⟨by show 2 ≤ sizeLine; decide, [.int i tk, y], .cons ⟨_, rfl⟩ (.cons ru .nil), ⟨_, hT2, rfl, _, rfl⟩⟩
    have I1 : Inv X pins σ (upd H s.heap.objs.size (.tup [.int (i : Nat), x])) { s with heap := h'', toks := tk + 1 } :=
      I.turnedNew (ch := [e, it]) (fun b ob hb q => (sb.2 b (fun z => hb (by simp [z]))).trans (hk b ob (fun z => hb (by simp [z])) (fun z => hb (by simp [z])) q)) hf (Nat.le_refl _) new
    refine ⟨.ref s.heap.objs.size, _, I1, rfl, ⟨_, x, rfl, I.hok.fresh (Nat.le_refl _), rfl, fun ys hy => by rw [I.tuple_inj hy hq]; exact hx⟩, ⟨⟨y, ?_⟩, hst'.1.at fun o q => (sb.2 it (Ne.symm hne)).trans q, hne⟩, fun b hb => ?_⟩
    · have e1 : ((i + 1 : Nat) : Int) = (i : Int) + 1 := by omega
      rw [e1]; exact he'
    · have hb' : b < s.heap.objs.size := by
        have e' : b = e ∨ b = it := by simpa using hb
        rcases e' with z | z
        · rw [z]; exact hel
        · rw [z]; exact hil
      rw [upd_ne (Nat.ne_of_lt hb')]
      exact (hf b hb).1
  done := by
    intro X hP hw hK hc i pins s σ H E I hf st hg
    subst hP hw hK
    obtain ⟨⟨old, he⟩, hit, hne⟩ := st
    obtain ⟨xs, hq, hx⟩ := hg
    obtain ⟨its, rv, p, hz⟩ := I.tuple hq
    obtain ⟨f0, f1, f2, f3, f4, f5⟩ := hf it (by simp)
    have hta : a ≠ it := by
      rintro rfl
      obtain ⟨o1, e1, c1, _⟩ := hit
      obtain ⟨o2, e2, c2, _⟩ := p
      rw [e1] at e2; cases e2
      rw [c1] at c2; injection c2 with z; exact absurd z (by decide)
    have hA : X.A.in1.handled = none := I.ok.hd hc
    have hl := rv.length
    have hT : s.TypeIs (.ref e) "enumerate" := ⟨_, he, rfl⟩
    unfold pyNext
    refine wpAny_bind (wpAny_attempt (wpAny_callSpecial?_slot (name := Str.ofString "__next__") hT F.slot_enumerate_next
      (wpAny_call_entry F.slot_enumerate_next hT F.entry_enumerate_next ?_ (F.args_enumerate_next_1 _))))
    show wpAny _ _ (field (.ref e) 2 >>= _) _ _ _
    refine wpAny_bind (wpAny_field he rfl (x := .ref it) rfl ?_)
    refine wpAny_bind (wpAny_nextOf_tuple_end hA hit p (by simp; omega) fun h' x he' hx' => ?_)
    obtain ⟨o, ho, hc⟩ := hx'
    refine wpAny_bind (wpAny_isInstance (T := "StopIteration") (b := true) ⟨o, ho, hc⟩ isSubtype_stop ?_)
    exact wpAny_pure ⟨rfl, I.turned (t' := s.toks) (fun b o hb q => he' b o hb q) f0 f1 f3 f4 f5⟩
  self := fun A i s Q E st h => let ⟨⟨_, he⟩, _⟩ := st; wpAny_pyIter_enum he h
end TL

namespace TL
open PySem PySem.Spec PyProof.Rows L2
section
variable {X : Cx} {tg iter e o : Expr} {es : List Expr} {ce co : CE} {ra : CA} {pos apos cpos p : Pos} {x m : Str}
def iEnumT (K : PySem.W.Frag) (ta : TA) : TI := fun σ H R => ta σ H fun vs H1 => ∃ a xs, vs = [.ref a] ∧ SqT K H1 a xs ∧ R (IteT K a) H1
theorem pi_enumT {e : Expr} {ta : TA} {p pos tpos : Pos} {elts : List Expr} {kk : Nat} (hg : Gl X "enumerate") (hm : X.mg "enumerate" = none) (ha : PA X [e] ta) (hs : starEach [e] X.env = [(false, eval e X.env)] := by rfl) :
    PI X (.Tuple elts kk tpos) (.Call (.Name "enumerate" p) [e] [] pos) (iEnumT X.K ta) := by
  refine ⟨fun pins s σ H R I h => ?_⟩
  refine Call_ (ld_blt I hg hm boot_enumerate (PyProof.Rows.callWith_type1 (thn (ha.run pos pins s σ H _ I h) fun us s1 ⟨vs, H1, I1, r1, q1⟩ => ?_) hs rfl))
  obtain ⟨a, xs, ex, hq, q⟩ := q1
  subst ex
  cases r1 with
  | cons r rr =>
    cases rr
    cases r
    obtain ⟨its, rv, p', hz⟩ := I1.tuple hq
    refine enum_begins1 (begins_tuple a its.toArray) p' fun h' he ho hsz hk => wpAny_pyIter_enum he ?_
    have I2 : Inv X pins σ H1 { s1 with heap := h' } := I1.kept (t' := s1.toks) hk
    refine ⟨s1.heap.objs.size + 1, [s1.heap.objs.size + 1, s1.heap.objs.size], _, _, H1, rfl, I2, turn_enumT a (s1.heap.objs.size + 1) s1.heap.objs.size, ⟨⟨.none, he⟩, ⟨_, ho, rfl, rfl⟩, Nat.succ_ne_self _⟩, fun b hb => ?_, q⟩
    have e' : b = s1.heap.objs.size + 1 ∨ b = s1.heap.objs.size := by simpa using hb
    have hle : s1.heap.objs.size ≤ b := by
      rcases e' with z | z
      · rw [z]; exact Nat.le_add_right _ _
      · rw [z]; exact Nat.le_refl _
    exact I1.fpOk hle (I1.hok.fresh hle)
theorem wlk_enumT {w : Wo} {ds : List D} {vs : List V} {a : Addr} (hp : PT' X.K w a vs) (rp : Reps X.K w ds vs) : Wlk X.K w (IteT X.K a) (enumD ds) fun _ => True := by
  have hl : (enumD ds).length = ds.length := by simp [enumD]
  have hn := rp.length
  refine ⟨fun w2 h2 i l R _ hi => ?_, fun w2 h2 l R _ => ⟨vs, (hp.mono l).now, by omega⟩, fun w2 h2 i x H' l R _ hi y => ?_⟩
  · have hv : i < vs.length := by omega
    exact ⟨vs, vs[i], (hp.mono l).now, List.getElem?_eq_getElem hv⟩
  · obtain ⟨T, x1, rfl, hT, rfl, q2⟩ := y
    have e2 := q2 vs (hp.mono l).now
    obtain ⟨d2, e3, r2⟩ := (rp.mono l).ix e2
    obtain ⟨p1, p2, p3⟩ := Wo.pairAt R (.int (i : Nat)) r2 hT
    exact ⟨_, p1, p2, rfl, _, by simp [enumD, e3], p3⟩
def ciEnumT (c : CE) : CI := fun σ h Q => c σ h fun x h1 => match tupAt x with
  | some ds => Q (enumD ds) (fun _ => True) h1
  | none => False
theorem li_enumT {a : Expr} {ca : CE} {p tpos : Pos} {elts : List Expr} {kk : Nat} (hg : Gl X "enumerate") (hm : X.mg "enumerate" = none) (ha : LE X a ca) (hs : starEach [a] X.env = [(false, eval a X.env)] := by rfl) : LI X (.Tuple elts kk tpos) (.Call (.Name "enumerate" p) [a] [] pos) (ciEnumT ca) := by
  refine ⟨fun w h σd σv Qd Rr S R c B => wI (pi_enumT hg hm pa_w hs) ?_⟩
  refine wA1 ha hs S R c fun w1 h1 x v l1 R1 rv c1 => ?_
  split at c1
  · rename_i ds e1
    obtain ⟨b, us, rfl, hq, rp⟩ := rv.tupR e1
    exact ⟨b, us, rfl, hq.now, B w1 h1 _ _ _ l1 R1 (wlk_enumT hq rp) c1⟩
  · exact c1.elim
/-- what such a def promises of its positional values -/
def starT (n : Nat) (T : TSp) : TSp := fun ds h Q => ∃ ws rest, ds = ws ++ rest ∧ ws.length = n ∧ rest.length ≤ sizeLine ∧ T (ws ++ [.tup rest]) h Q
theorem Reps.split {K : PySem.W.Frag} {w : Wo} : ∀ {ws rest : List D} {vs : List V}, Reps K w (ws ++ rest) vs → ∃ v1 v2, vs = v1 ++ v2 ∧ Reps K w ws v1 ∧ Reps K w rest v2
  | [], _, vs, r => ⟨[], vs, rfl, .nil, r⟩
  | _ :: ws, rest, _, .cons a r => by
    obtain ⟨v1, v2, e, r1, r2⟩ := Reps.split (ws := ws) (rest := rest) r
    exact ⟨_ :: v1, v2, by rw [e]; rfl, .cons a r1, r2⟩
theorem fn_treeS {P : Program} {wd : World} {K : PySem.W.Frag} {mg : Str → Option Value} {base : Heap} {x qual pv : Str} {params : Arguments} {body : List Stmt} {scope : Scope} {kws : List (Str × V)} {f : Addr} {fd : FuncData} {N ps : List Str} {k : Nat} {T : TSp}
    (F : FunD K x qual params body scope [] kws f fd) (S : FnScope N (ps ++ [pv]) scope)
    (hb : ∀ (kV doc pm : Value) (an : Option Addr) (cdv ct : Value) (us rest : List Value), us.length = ps.length → bindArgs (PySem.W.fnOf x qual params body scope .none kV doc pm an cdv ct) ⟨us ++ rest, []⟩ = (newTuple rest >>= fun t => pure (ps.zip us ++ [(pv, t)])))
    (hbody : ∀ (cdv : Value) (A : Around) (outer : List Env) (s : Shared) (H : Hp) (E : XK), Room k (A.deeper (envOfC qual scope s.heap.objs.size f cdv)) →
      ∃ c : CS, LB (cxOf CX0 P wd K mg base N qual scope f cdv A outer s H E).nox body c ∧ ∀ ds h Q, HCl h → ClL h.length ds → T ds h Q → c { nx := fun _ h' => Ret h Q .non h', rt := Ret h Q } (startD N ds) h) :
    L2.FnR P wd K mg base CX0 (k + 1) f (lift K (starT ps.length T)) := by
  obtain ⟨oc, od, dV, kV, doc, pm, an, cdv, ct, osl, rfl, lk, hcd, hD, _⟩ := F.ex
  have eD : dV = .none := by
    rcases hD with ⟨_, e⟩ | ⟨e, _⟩
    · exact e
    · exact absurd rfl e
  subst eD
  have G := StX.fn_star (P := P) (w := wd) (mg := mg) (base := base) (CX := CX0) (k := k) (sp := lift K T) lk hcd S (by first | exact StX.cxUp_none | exact fun _ _ _ _ _ _ _ _ _ _ _ z => z) (hb kV doc pm an cdv ct) fun A outer s H vs Q E hr h => ?_
  · refine L2.FnR.imp G fun vs H Q E h => ?_
    obtain ⟨w, h, ds, Qd, e, R, r, ⟨ws, rest, e2, hl, hz, t⟩, B⟩ := h
    subst e e2
    obtain ⟨v1, v2, e3, r1, r2⟩ := r.split
    refine ⟨v1, v2, e3, by rw [← r1.length]; exact hl, by rw [← r2.length]; exact hz, fun p hp => ?_⟩
    have lF := R.leF (o := .tup v2) hp
    exact ⟨w.frz p (.tup v2), h, _, Qd, rfl, R.frz hp, (r1.mono lF).append (.cons (.tup (w.frzT p v2) (r2.mono lF)) .nil), t, B.mono lF⟩
  · obtain ⟨w, h, ds, Qd, e, R, r, t, B⟩ := h
    subst e
    obtain ⟨c, lb, hc⟩ := hbody cdv A outer s w.H E hr
    refine ⟨tWB _ body, pb_w.nox, ?_⟩
    refine lb.run w h _ _ _ _ (srel_start r) R (hc ds h Qd R.cl (by rw [← R.len]; exact r.cl) t) ⟨?_, B.ret R, fun _ _ _ _ _ _ _ q => q.elim, fun _ _ _ _ _ _ _ q => q.elim⟩
    intro w' h' σd σv l R' S' q
    exact B.ret R w' h' .non .non l R' .non q
variable {k : Nat} {f C g : Addr} {T : TSp}
/-- x(e, ..), x such a def -/
theorem le_callR (F : L2.FnR X.prog X.w X.K X.mg X.base CX0 k f (lift X.K T)) (hr : Room k X.A) (hg : Gl X x) (hm : X.mg x = some (.ref f)) (hk : PySem.W.keepIn X.K (.ref f) = true)
    (ha : LA X (e :: es) ra) (hdb : (x == ("__debug__" : Str)) = false := by decide) (he : starEach (e :: es) X.env = (false, eval e X.env) :: starEach es X.env := by rfl) (hpl : (backTo pos (starEach es X.env)).any (·.1) = false := by rfl) :
    LE X (.Call (.Name x p) (e :: es) [] pos) (cCall T [] ra) := by
  refine ⟨fun w h σd σv Qd Q S R c B => wE (t := fun σ H Q => tWA X (e :: es) σ H fun vs H1 => lift X.K T vs H1 Q E0) ⟨fun pins s σ H Q I h => ?_⟩ ?_⟩
  · refine wpAny_Call_Name_kw (ld_glob I hg hm ?_ hdb)
    refine PySem.W.callWith_K (h₀ := X.base) I.ok.mod.kin hk (thn (h pos pins s I) fun us s1 ⟨vs, H1, I1, r, q⟩ => ⟨I1.kIn, ?_⟩) he hpl
    exact wpAny_call (L2.run_fnR F hr pass0 I1 r q)
  · refine ha.run w h σd σv _ _ S R c fun w1 h1 ds vs l1 R1 r1 c1 => ?_
    rw [List.append_nil] at c1
    exact lift_of R1 r1 c1 (B.mono l1)
theorem starcall1_of {M : Model} {A : Around} {E : Value → Shared → Prop} {s : Shared} {env : Env} {o e2 : Expr} {m : Str} {p apos pos : Pos} {Q : Value → Shared → Prop} (hbase : attributeBase o m env (eval o env) = eval o env)
    (hst : starEach [.Starred e2 p] env = [(true, eval e2 env)])
    (h : wpAny M A (eval o env) (fun ov s₁ => wpAny M A (getAttr ov m true) (fun f s₂ => wpAny M A (callWith pos f [] (backTo pos [(true, eval e2 env)]) []) Q E s₂) E s₁) E s) :
    wpAny M A (eval (.Call (.Attribute o m apos) [.Starred e2 p] [] pos) env) Q E s := by
  have hke : backToKw pos (keywordEach [] env) = [] := rfl
  have hform : methodCallForm ([Expr.Starred e2 p].length + ([] : List Keyword).length) (backTo pos [(true, eval e2 env)]) [] = false := rfl
  have hpos : methodCallPos false o env apos pos = pure pos := rfl
  have hcal : ∀ ov, calleeOf false o env ov m = (getAttr ov m true >>= fun v => pure (v, [])) := fun _ => rfl
  rw [arm_eval_Call, hbase, hst, hke]
  refine wpAny_bind (wpAny_mono h (fun ov s₁ h₁ => ?_) fun _ _ x => x)
  refine wpAny_bind (wpAny_standAt ?_)
  unfold methodCall
  rw [hform, hpos, hcal]
  refine wpAny_bind (wpAny_holding (wpAny_bind (wpAny_mono h₁ (fun f s₂ h₂ => wpAny_pure ?_) fun _ _ x => x)))
  exact wpAny_bind (wpAny_pure h₂)
def tMethS1 (X : Cx) (C : Addr) (m : Str) (g : Addr) (sp : Sp) (ta t2 : TE) : TE := fun σ H Q => ta σ H fun x H1 => ∃ a dx fs, x = .ref a ∧ H1 a = some (.ins C dx fs) ∧ fs.lookup m = none ∧
  ∀ q, H1 q = none → t2 σ (upd H1 q (.met g a)) fun y2 H3 => ∃ b vs, y2 = .ref b ∧ (SqT X.K H3 b vs ∨ SqL X.K H3 b vs) ∧ H3 q = some (.met g a) ∧ sp (.ref a :: vs) H3 Q E0
theorem pe_methS1 {sp : Sp} {o e2 : Expr} {ta t2 : TE} {p apos pos : Pos} (he : PE X o ta) (c : Cls X.K C) (b : BMeth X.K C m g) (F : L2.FnR X.prog X.w X.K X.mg X.base CX0 k g sp) (hr : Room k X.A)
    (h2 : PE X e2 t2) (hbase : attributeBase o m X.env (eval o X.env) = eval o X.env) (hst : starEach [.Starred e2 p] X.env = [(true, eval e2 X.env)]) : PE X (.Call (.Attribute o m apos) [.Starred e2 p] [] pos) (tMethS1 X C m g sp ta t2) := by
  refine ⟨fun pins s σ H Q I h => ?_⟩
  refine starcall1_of hbase hst (thn (he.run pins s σ H _ I h) fun u s1 ⟨x, H1, I1, rx, a, dx, fs, ex, ea, l, q⟩ => ?_)
  subst ex
  obtain rfl : u = Value.ref a := rx
  refine getbound_ok I1 ea c b l fun q1 s2 hq1 I2 => ?_
  refine PySem.W.ks_call (P := PySem.W.MethP X.K q1 g (.ref a)) rfl (PySem.W.keeps_M b.fi) (
    PySem.W.ks_lone (thn (h2.run pins s2 σ _ _ I2 (q q1 hq1)) fun v2 s4 ⟨y2, H3, I4, ry2, t, vs, ey, ht, hm, hsp⟩ => ?_))
  subst ey
  obtain rfl : v2 = Value.ref t := ry2
  refine StX.star_any I4 ht fun us s5 I5 rv => ?_
  exact ⟨met_P I5 hm, wpAny_call (PySem.W.method_call (met_P I5 hm).1 (L2.run_fnR (us := Value.ref a :: us) (vs := V.ref a :: vs) F hr pass0 I5 (.cons rfl rv) hsp))⟩
/-- o.m(*t), m such a def -/
def cMethS (C : Addr) (m : Str) (T : TSp) (a c : CE) : CE := fun σ h Q => a σ h fun d h1 => (∃ fs, objAt h1 d = some (C, fs) ∧ fs.lookup m = none) ∧ c σ h1 fun y h2 => match seqRd h2 y with
  | some ds => T (d :: ds) h2 Q
  | none => False
theorem le_methS {e2 : Expr} {c2 : CE} (ho : LE X o co) (hC : Cls X.K C) (hm : BMeth X.K C m g) (F : L2.FnR X.prog X.w X.K X.mg X.base CX0 k g (lift X.K T)) (hr : Room k X.A) (h2 : LE X e2 c2)
    (hbase : attributeBase o m X.env (eval o X.env) = eval o X.env := by rfl) (hst : starEach [.Starred e2 p] X.env = [(true, eval e2 X.env)] := by rfl) : LE X (.Call (.Attribute o m apos) [.Starred e2 p] [] pos) (cMethS C m T co c2) := by
  refine ⟨fun w h σd σv Qd Q S R c B => wE (pe_methS1 pe_w hC hm F hr pe_w hbase hst) ?_⟩
  refine ho.run w h σd σv _ _ S R c fun w1 h1 d v l1 R1 r1 c1 => ?_
  obtain ⟨⟨fs, e1, e2⟩, c1⟩ := c1
  obtain ⟨a, dx, fv, rfl, hA, rf⟩ := R1.obj r1 e1
  refine ⟨a, dx, fv, rfl, hA, rf.none e2, fun q hq => ?_⟩
  have lF := R1.leF (o := .met g a) hq
  refine h2.run (w1.frz q (.met g a)) h1 σd σv _ _ (S.mono (l1.trans lF)) (R1.frz hq) c1 fun w2 h2 y vy l2 R2 r2 c2 => ?_
  split at c2
  · rename_i ds e3
    obtain ⟨b, us, rfl, hb, rb⟩ := R2.seq r2 e3
    refine ⟨b, us, rfl, hb.symm, ?_, lift_of R2 (.cons (r1.mono (lF.trans l2)) rb) c2 (B.mono (l1.trans (lF.trans l2)))⟩
    exact (l2.k q (.inr rfl)).trans upd_same
  · exact c2.elim
theorem ls_try {c : Value} {np pos' : Pos} {b₀ : Stmt} {body suite : List Stmt} {cb : CS} (hs : X.stack = X.env :: X.outer) (hf : X.env.frame = some X.env.locals) (hc : Names X x c)
    (hb : ∀ (pn : List (Addr × Obj)) (xe : Value → Shared → Prop), PassesOwn (model X.prog X.w) X.A X.env xe → LB (X.tr pn xe) body cb) : LS X (.Try body [.ExceptHandler (some (.Name x np)) none (b₀ :: suite) pos'] [] [] pos) cb := by
  refine ⟨fun w h σd σv E F S R cc B => wS (ps_try_only (Wout := fun _ _ _ _ => False) (tb := fun W => fun D σ H => ∀ (pn : List (Addr × Obj)) (xe : Value → Shared → Prop), PassesOwn (model X.prog X.w) X.A X.env xe → tWB (X.tr pn xe) body D σ H) (ts := fun _ _ _ _ _ _ => False) hs hf hc ?_ ?_ ?_) ?_⟩
  · rintro u s' ⟨a, B, sI, pins, σ, H, cls, d, e, I, nb, up, sky, na, os, ag, wf⟩
    exact wf.elim
  · intro W pn xe tk po
    exact ⟨fun pins s σ H D I h => h pn xe po pins s I⟩
  · intro a oe cls d pn hz hv
    exact ⟨fun pins s σ H D I h => h.elim⟩
  · intro pn xe po
    exact (hb pn xe po).run w h σd σv E F S R cc B
end
end TL

namespace TL
open PySem PySem.Spec PyProof.Rows L2
theorem u64 {k : Nat} {A : Around} (r : Room k A) : A.units + 64 < cLine := by have := r.un; omega
theorem u65 {k : Nat} {A : Around} (r : Room k A) : A.units + 65 < cLine := by have := r.un; omega
theorem u1 {k : Nat} {A : Around} (r : Room k A) : A.units + 1 < cLine := by have := r.un; omega
def fdOf (K : PySem.W.Frag) (a : Addr) : FuncData := match K.lookup a with
  | some ⟨_, _, .func fd, _⟩ => fd
  | _ => default
theorem fdOf_eq {K : PySem.W.Frag} {x qual : Str} {params : Arguments} {body : List Stmt} {scope : Scope} {dvs : List V} {kws : List (Str × V)} {f : Addr} {fd : FuncData} (F : FunD K x qual params body scope dvs kws f fd) : fdOf K f = fd := by
  obtain ⟨oc, od, dV, kV, doc, pm, an, cdv, ct, osl, rfl, lk, _⟩ := F.ex
  unfold fdOf
  rw [lk]
theorem fdOf_of {K : PySem.W.Frag} {x qual : Str} {params : Arguments} {body : List Stmt} {scope : Scope} {dvs : List V} {kws : List (Str × V)} {f : Addr} (h : ∃ fd, FunD K x qual params body scope dvs kws f fd) : FunD K x qual params body scope dvs kws f (fdOf K f) := by
  obtain ⟨fd, F⟩ := h
  rw [fdOf_eq F]
  exact F
section
variable {X : Cx} {a b c e : Expr} {es : List Expr} {ca cb cc ce : CE} {ra : CA} {pos p : Pos} {x : Str}
theorem le_gint {i : Int} (hg : Gl X x) (hm : ∃ t, X.mg x = some (.int i t)) (hd : (x == ("__debug__" : Str)) = false := by decide) : LE X (.Name x pos) (cC (.int i)) := by
  obtain ⟨t, h⟩ := hm
  exact le_glob hg h (v := .int i) ⟨t, rfl⟩ (fun _ => .int i) hd
theorem le_gstr {z : Str} (hg : Gl X x) (hm : ∃ t, X.mg x = some (.str z t)) (hd : (x == ("__debug__" : Str)) = false := by decide) : LE X (.Name x pos) (cC (.str z)) := by
  obtain ⟨t, h⟩ := hm
  exact le_glob hg h (v := .str z) ⟨t, rfl⟩ (fun _ => .str z) hd
/-- a module's tuple of texts -/
theorem le_gtup {T : Addr} {xs : List Str} (hg : Gl X x) (hm : X.mg x = some (.ref T)) (ht : ∀ H, SqT X.K H T (xs.map V.str)) (hd : (x == ("__debug__" : Str)) = false := by decide) : LE X (.Name x pos) (cC (.tup (xs.map D.str))) := by
  refine le_glob hg hm (v := .ref T) rfl (fun w => .tup (fun H' _ => ht H') ?_) hd
  induction xs with
  | nil => exact .nil
  | cons y ys ih => exact .cons (.str y) (by
      clear ih ht hm
      induction ys with
      | nil => exact .nil
      | cons z zs ih => exact .cons (.str z) ih)
theorem le_gcls {C : Addr} (hg : Gl X x) (hm : X.mg x = some (.ref C)) (hd : (x == ("__debug__" : Str)) = false := by decide) : LE X (.Name x pos) (cC (.gl C)) := le_glob hg hm (v := .ref C) rfl (fun _ => .gl C) hd
theorem le_bty {T : String} (hg : Gl X x) (hm : X.mg x = none) (hv : bootBuiltins x = some (.type T) := by rfl) (hn : x ≠ "__name__" := by decide) (hd : (x == ("__debug__" : Str)) = false := by decide) : LE X (.Name x pos) (cC (.ty T)) := le_bltn hg hm hv (v := .ty T) rfl (fun _ => .ty T) hn hd
theorem lt_chain {op op' : CmpOp} {r r' : RD2} (ho : OpD X (compareOp op) r) (ho' : OpD X (compareOp op') r') (ha : LE X a ca) (hb : LE X b cb) (hc : LE X c cc)
    (p : ∀ {t t' : R2} {t1 t2 t3 : TE}, OpR X (compareOp op) t → OpR X (compareOp op') t' → PE X a t1 → PE X b t2 → PE X c t3 → PT X (.Compare a [op, op'] [b, c] pos) (tTest (tChain t t' t1 t2 t3))) : LT X (.Compare a [op, op'] [b, c] pos) (cTest (cChain r r' ca cb cc)) := by
  refine ⟨fun w h σd σv Qd Q S R c B => wT (p opr_w opr_w pe_w pe_w pe_w) ?_⟩
  refine ha.run w h σd σv _ _ S R c fun w1 h1 x vx l1 R1 r1 c1 => ?_
  refine hb.run w1 h1 σd σv _ _ (S.mono l1) R1 c1 fun w2 h2 y vy l2 R2 r2 c2 => ?_
  refine ho w2 h2 x y vx vy _ _ R2 (r1.mono l2) r2 c2 fun w3 h3 z v l3 R3 r3 c3 => ?_
  cases z with
  | bl k =>
    cases r3
    refine ⟨k, rfl, ?_⟩
    cases k with
    | true =>
      rw [if_pos rfl]
      refine hc.run w3 h3 σd σv _ _ (S.mono (l1.trans (l2.trans l3))) R3 c3 fun w4 h4 u vu l4 R4 r4 c4 => ?_
      refine ho' w4 h4 y u vy vu _ _ R4 (r2.mono (l3.trans l4)) r4 c4 fun w5 h5 d v5 l5 R5 r5 c5 => ?_
      cases d with
      | bl b => cases r5; exact ⟨b, rfl, B w5 h5 b (l1.trans (l2.trans (l3.trans (l4.trans l5)))) R5 c5⟩
      | _ => exact c5.elim
    | false =>
      rw [if_neg Bool.false_ne_true]
      exact ⟨false, rfl, B w3 h3 false (l1.trans (l2.trans l3)) R3 c3⟩
  | _ => exact c3.elim
variable {k : Nat} {f C : Addr} {fd : FuncData} {ps : List Str} {T : TSp} {dvs : List V} {dds : List D}
/-- defaults as they stand in K -/
def DDs (K : PySem.W.Frag) (dds : List D) (dvs : List V) : Prop := ∀ w, Reps K w dds dvs
theorem le_newFd (M : Mk X.K C f) (F : FnOk X.prog X.w X.K X.mg X.base CX0 k f fd ps (lift X.K T)) (hr : Room (k + 1) X.A) (hg : Gl X x) (hm : X.mg x = some (.ref C)) (hb : ∃ ds0, Vals dvs ds0 ∧ Binds X.K fd ps ds0) (hdd : DDs X.K dds dvs)
    (ha : LA X (e :: es) ra) (hdb : (x == ("__debug__" : Str)) = false := by decide) (he : starEach (e :: es) X.env = (false, eval e X.env) :: starEach es X.env := by rfl) (hpl : (backTo pos (starEach es X.env)).any (·.1) = false := by rfl) :
    LE X (.Call (.Name x p) (e :: es) [] pos) (cNewF C T dds ra) := by
  obtain ⟨ds0, hd, hb⟩ := hb
  exact le_newF M F hr hg hm hb hd hdd ha hdb he hpl
theorem le_newF0 (M : Mk X.K C f) (F : FnOk X.prog X.w X.K X.mg X.base CX0 k f fd ps (lift X.K T)) (hr : Room (k + 1) X.A) (hg : Gl X x) (hm : X.mg x = some (.ref C)) (hb : Binds X.K fd ps [])
    (ha : LA X (e :: es) ra) (hdb : (x == ("__debug__" : Str)) = false := by decide) (he : starEach (e :: es) X.env = (false, eval e X.env) :: starEach es X.env := by rfl) (hpl : (backTo pos (starEach es X.env)).any (·.1) = false := by rfl) :
    LE X (.Call (.Name x p) (e :: es) [] pos) (cNewF C T [] ra) := le_newF M F hr hg hm hb .nil (fun _ => .nil) ha hdb he hpl
theorem le_newM0 (M : Mk X.K C f) (F : FnOk X.prog X.w X.K X.mg X.base CX0 k f fd ps (lift X.K T)) (hr : Room (k + 1) X.A) (hg : Gl X x) (hm : X.mg x = some (.ref C)) (hb : Binds X.K fd ps [])
    (ha : LA X (e :: es) ra) (hdb : (x == ("__debug__" : Str)) = false := by decide) (he : starEach (e :: es) X.env = (false, eval e X.env) :: starEach es X.env := by rfl) (hpl : (backTo pos (starEach es X.env)).any (·.1) = false := by rfl) :
    LE X (.Call (.Name x p) (e :: es) [] pos) (cNewM C T [] ra) := le_newM M F hr hg hm hb .nil (fun _ => .nil) ha hdb he hpl
theorem le_callN (F : FnOk X.prog X.w X.K X.mg X.base CX0 k f fd ps (lift X.K T)) (hr : Room k X.A) (hg : Gl X x) (hm : X.mg x = some (.ref f)) (hk : PySem.W.keepIn X.K (.ref f) = true) (hb : Binds X.K fd ps [])
    (ha : LA X (e :: es) ra) (hdb : (x == ("__debug__" : Str)) = false := by decide) (he : starEach (e :: es) X.env = (false, eval e X.env) :: starEach es X.env := by rfl) (hpl : (backTo pos (starEach es X.env)).any (·.1) = false := by rfl) :
    LE X (.Call (.Name x p) (e :: es) [] pos) (cCall T [] ra) := le_call F hr hg hm hk hb .nil (fun _ => .nil) ha hdb he hpl
def ciStr (c : CE) : CI := fun σ h Q => c σ h fun x h1 => match x with
  | .str z => Q (z.cps.toList.map fun c => D.str ⟨#[c]⟩) (fun _ => True) h1
  | _ => False
theorem wlk_str {w : Wo} {z : Str} : Wlk X.K w (Its z) (z.cps.toList.map fun c => D.str ⟨#[c]⟩) fun _ => True := by
  have hl : (z.cps.toList.map fun c => D.str ⟨#[c]⟩).length = z.cps.size := by simp
  refine ⟨fun w2 h2 i l R _ hi => by rw [hl] at hi; exact walk_str.goes i w2.H hi trivial, fun w2 h2 l R _ => by rw [hl]; exact walk_str.stops w2.H trivial, fun w2 h2 i x H' l R _ hi y => ?_⟩
  rw [hl] at hi
  obtain ⟨rfl, c, e, rfl⟩ := walk_str.yields i w2.H x H' hi trivial y
  exact ⟨w2, .refl w2, R, rfl, .str ⟨#[c]⟩, by simp [e], .str _⟩
theorem li_str {tg : Expr} (ha : LE X e ce) : LI X tg e (ciStr ce) := by
  refine ⟨fun w h σd σv Qd Rr S R c B => wI (pi_str pe_w) ?_⟩
  refine ha.run w h σd σv _ _ S R c fun w1 h1 x v l1 R1 r1 c1 => ?_
  cases x with
  | str z => cases r1; exact ⟨z, rfl, B w1 h1 _ _ _ l1 R1 wlk_str c1⟩
  | _ => exact c1.elim
theorem le_negc {i : Int} {kk : Nat} {p1 : Pos} : LE X (.UnaryOp .USub (.Constant (.int i) kk p1) pos) (cC (.int (-i))) :=
  ⟨fun w h σd σv Qd Q S R c B => wE (pe_un un_neg pe_int) ⟨i, rfl, B w h _ _ (.refl w) R (.int _) c⟩⟩
theorem le_tl (h : LE X e ce) : LE X e ce := h
/-- empty tuples as defaults -/
theorem dds_nil {K : PySem.W.Frag} : DDs K [] [] := fun _ => .nil
theorem dds_tup0 {K : PySem.W.Frag} {T : Addr} {dds : List D} {dvs : List V} (h : ∀ H, SqT K H T []) (r : DDs K dds dvs) : DDs K (.tup [] :: dds) (.ref T :: dvs) := fun w => .cons (.tup (fun H' _ => h H') .nil) (r w)
/-- a promise told of an empty heap, for bools of closed trees: it holds of any heap -/
def anyH (T : List D → (Bool → Prop) → Prop) : TSp := fun ds h Q => ClL 0 ds ∧ T ds fun b => Q (.bl b) h
theorem any_heap {K : PySem.W.Frag} {T : List D → (Bool → Prop) → Prop} {T0 : TSp} (h0 : ∀ ds P, T ds P → T0 ds [] fun d _ => ∃ b, d = .bl b ∧ P b) {vs : List V} {H : Hp} {Q : VK} {E : XK} (h : lift K (anyH T) vs H Q E) : lift K T0 vs H Q E := by
  obtain ⟨w, h, ds, Qd, e, R, r, ⟨c, t⟩, B⟩ := h
  subst e
  have hR : HRel K (w.cut 0) ([] : DH) := HRel.cut (h := []) (g := h) R (fun i o e => by simp at e)
  refine ⟨w.cut 0, [], ds, _, rfl, hR, r.cut c, h0 ds _ t, ?_⟩
  intro w' h' d v l R' rd q
  obtain ⟨b, rfl, q⟩ := q
  cases rd
  have st : ∀ a, (w.φ a ∨ a ∈ w.ρ) → w'.H a = w.H a := fun a ha => l.k a (by
    rcases ha with ha | ha
    · exact .inl ha
    · exact .inr (by simpa using ha))
  have lw : w.le ⟨w.ρ, w.φ, w'.H⟩ := ⟨⟨[], by simp⟩, fun _ z => z, fun a ha => st a (.inl ha)⟩
  refine B ⟨w.ρ, w.φ, w'.H⟩ h _ _ lw ⟨R.len, R.nd, R.nφ, fun a ha => ?_, fun i o a hi ha => ?_⟩ (.bl b) q
  · obtain ⟨o, e⟩ := R.tr a ha
    exact ⟨o, (st a (.inl ha)).trans e⟩
  · exact (R.ob i o a hi ha).mono lw (st a (.inr (List.mem_of_getElem? ha)))
end
end TL

namespace TL
open PySem PySem.Spec PyProof.Rows L2
open AutoSeq1 (wpAny_loadPart')
theorem list_ne_len (l b : Addr) (items items2 : Array Value) (n n2 : Nat) (dd dd2 : Option Addr) (sl sl2 : Array (Option Value)) (hsz : items.size ≠ items2.size) :
    Meets (Builtin.«list.__ne__» ⟨[.ref l, .ref b], []⟩)
      (fun _ R s => s.heap.get? l = some { cls := .type "list", dict := dd, data := .seq items n, slots := sl } ∧ s.heap.get? b = some { cls := .type "list", dict := dd2, data := .seq items2 n2, slots := sl2 } ∧
        R (.ok (.ret (.bool true))) s) := .of_wp fun prog w A R s h => by
  obtain ⟨hp, g, d, tk, os⟩ := s; obtain ⟨hl, hb, h⟩ := h
  have f3 := AutoSeq1.sub_list_list
  have hne : (items.size != items2.size) = true := by simp [hsz]
  wp_walk using wpAny_loadPart' hl, wpAny_loadPart' hb
  exact ⟨_, rfl, h⟩
section
variable {X : Cx}
def rNeLen (K : PySem.W.Frag) : R2 := fun x y H Q => ∃ a b xs ys, x = .ref a ∧ y = .ref b ∧ SqL K H a xs ∧ SqL K H b ys ∧ xs.length ≠ ys.length ∧ Q (.bl true) H
theorem op_neLen (hu : X.A.units < cLine) : OpR X (compareOp .NotEq) (rNeLen X.K) := by
  intro pins s σ H x y v u Q I rx ry h
  obtain ⟨a, b, xs, ys, rfl, rfl, ha, hb, hn, q⟩ := h
  cases rx
  cases ry
  obtain ⟨its, r1, p1, _⟩ := I.list ha
  obtain ⟨its2, r2, p2, _⟩ := I.list hb
  obtain ⟨⟨cls, dd, data, sl⟩, ho, hc, n, hd⟩ := p1.isList
  obtain ⟨⟨cls2, dd2, data2, sl2⟩, ho2, hc2, n2, hd2⟩ := p2.isList
  simp only at hc hd hc2 hd2
  subst hc hd hc2 hd2
  have hsz : its.toArray.size ≠ its2.toArray.size := by rw [List.size_toArray, List.size_toArray, ← r1.length, ← r2.length]; exact hn
  exact richCompare_meets_room (op := .NotEq) ⟨_, ho, rfl⟩ ⟨_, ho2, rfl⟩ PySem.F.slot_list_ne PySem.F.entry_list_ne (PySem.F.args_list_ne_2 _ _) (list_ne_len a b its.toArray its2.toArray n n2 dd dd2 sl sl2 hsz)
    ⟨ho, ho2, show Value.bool true ≠ Value.notImplemented ∧ EP X pins σ Q (.bool true) s from ⟨(fun x => nomatch x), ⟨.bl true, H, I, rfl, q⟩⟩⟩ hu
def dNeLen : RD2 := fun x y h Q => ∃ xs ys, lstRd h x = some xs ∧ lstRd h y = some ys ∧ xs.length ≠ ys.length ∧ Q (.bl true) h
theorem od_neLen (hu : X.A.units < cLine) : OpD X (compareOp .NotEq) dNeLen := by
  intro w h x y vx vy Qd Q R rx ry c B
  obtain ⟨xs, ys, e1, e2, hn, q⟩ := c
  obtain ⟨a, vs, rfl, ha, ra⟩ := R.lstR rx e1
  obtain ⟨b, us, rfl, hb, rb⟩ := R.lstR ry e2
  exact wO (op_neLen hu) ⟨a, b, vs, us, rfl, rfl, ha, hb, by rw [← ra.length, ← rb.length]; exact hn, B.same R (.bl true) q⟩
theorem OpD.or {f : Value → Value → Sem Value} {r r' : RD2} (o : OpD X f r) (o' : OpD X f r') : OpD X f fun x y h Q => r x y h Q ∨ r' x y h Q := by
  intro w h x y vx vy Qd Q R rx ry c B
  rcases c with c | c
  · exact o w h x y vx vy Qd Q R rx ry c B
  · exact o' w h x y vx vy Qd Q R rx ry c B
end
end TL

namespace TL
open PySem PySem.Spec PyProof.Rows L2
/-- trees whose type is told by their form -/
def okD : D → Bool
  | .non => true
  | .bl _ => true
  | .int _ => true
  | .str _ => true
  | .tup _ => true
  | .xtup _ => true
  | .lst _ => true
  | .klst _ => true
  | _ => false
def isInt : D → Bool
  | .int _ => true
  | _ => false
def isBl : D → Bool
  | .bl _ => true
  | _ => false
def isStr : D → Bool
  | .str _ => true
  | _ => false
def isTup : D → Bool
  | .tup _ => true
  | .xtup _ => true
  | _ => false
section
variable {h : DH} {Q : KD} {d : D}
theorem okD_ty (ok : okD d = true) : tyN h d ≠ "object" := by
  cases d <;> first | exact absurd ok Bool.false_ne_true | (intro z; simp [tyN] at z)
theorem isi_gen {T : String} {b : Bool} (ok : okD d = true) (e : ∀ n, n = tyN h d → (kitB n T) = some b) (hn : tyN h d ≠ "object") (q : Q (.bl b) h) : dIsi T [d, .ty T] h Q := by
  refine ⟨rfl, hn, ?_, ?_⟩
  · rw [e _ rfl]; rfl
  · unfold isiB; rw [e _ rfl]; exact q
theorem isi_int (ok : okD d = true) (q : Q (.bl (isInt d || isBl d)) h) : dIsi "int" [d, .ty "int"] h Q := by
  cases d <;> first | exact absurd ok Bool.false_ne_true | exact isi_gen ok (fun n e => by rw [e]; rfl) (okD_ty ok) q
theorem isi_bool (ok : okD d = true) (q : Q (.bl (isBl d)) h) : dIsi "bool" [d, .ty "bool"] h Q := by
  cases d <;> first | exact absurd ok Bool.false_ne_true | exact isi_gen ok (fun n e => by rw [e]; rfl) (okD_ty ok) q
theorem isi_str (ok : okD d = true) (q : Q (.bl (isStr d)) h) : dIsi "str" [d, .ty "str"] h Q := by
  cases d <;> first | exact absurd ok Bool.false_ne_true | exact isi_gen ok (fun n e => by rw [e]; rfl) (okD_ty ok) q
theorem isi_tup (ok : okD d = true) (q : Q (.bl (isTup d)) h) : dIsi "tuple" [d, .ty "tuple"] h Q := by
  cases d <;> first | exact absurd ok Bool.false_ne_true | exact isi_gen ok (fun n e => by rw [e]; rfl) (okD_ty ok) q
end
@[irreducible] def jEq : RD2 := dEq
@[irreducible] def jNe : RD2 := fun x y h Q => dNe x y h Q ∨ dNeLen x y h Q
@[irreducible] def jIn : RD2 := dIn
@[irreducible] def jNotIn : RD2 := dNotIn
@[irreducible] def jLt : RD2 := dLt
@[irreducible] def jLe : RD2 := dLe
@[irreducible] def jGt : RD2 := dGt
@[irreducible] def jGe : RD2 := dGe
@[irreducible] def jAll : RDA := dAll fun bs => bs.all id
@[irreducible] def jAny : RDA := dAll fun bs => bs.any id
@[irreducible] def jIx : RD2 := dIx
@[irreducible] def jLc (ci : CI) (g : CG) (t : CT) (e : CE) (vs : List Nat) : CE := cLc ci g t e vs
@[irreducible] def jIsi (T : String) : RDA := dIsi T
section
variable {X : Cx}
theorem oj_eq (hu : X.A.units + 64 < cLine) : OpD X (compareOp .Eq) jEq := by unfold jEq; exact od_eq hu
theorem oj_ne (hu : X.A.units + 64 < cLine) : OpD X (compareOp .NotEq) jNe := by unfold jNe; exact (od_ne hu).or (od_neLen (by omega))
theorem oj_in (hu : X.A.units + 65 < cLine) : OpD X (compareOp .In) jIn := by unfold jIn; exact od_in hu
theorem oj_notIn (hu : X.A.units + 65 < cLine) : OpD X (compareOp .NotIn) jNotIn := by unfold jNotIn; exact od_notIn hu
theorem oj_lt : OpD X (compareOp .Lt) jLt := by unfold jLt; exact od_lt
theorem oj_le : OpD X (compareOp .LtE) jLe := by unfold jLe; exact od_le
theorem oj_gt : OpD X (compareOp .Gt) jGt := by unfold jGt; exact od_gt
theorem oj_ge : OpD X (compareOp .GtE) jGe := by unfold jGe; exact od_ge
theorem cj_all (hc : X.calm = true) : CallD X (.builtin "all") jAll := by unfold jAll; exact cd_all hc
theorem cj_any (hc : X.calm = true) : CallD X (.builtin "any") jAny := by unfold jAny; exact cd_any hc
theorem lj_ix {a b : Expr} {ca cb : CE} {pos : Pos} (ha : LE X a ca) (hb : LE X b cb) (hs : PlainIx b) : LE X (.Subscript a b pos) (cBin jIx ca cb) := by unfold jIx; exact le_ix ha hb hs
theorem lj_lc {elt tg iter : Expr} {ifs : List Expr} {scope : Scope} {own : List (Str × Nat)} {pos : Pos} {ci : CI} {g : CG} {t : CT} {e : CE} {js : List Nat} (hc : X.calm = true) (hN : X.N.Nodup) (hi : LI X tg iter ci) (ok : BlkOk X.N X.env.scope scope own) (hj : ∀ j ∈ js, j ∈ own.map (·.2)) (hg : Blk X scope fun Y => LG Y tg js g) (ht : Blk X scope fun Y => LTs Y ifs t) (he : Blk X scope fun Y => LE Y elt e)
    (hs : ∀ x, foldedSetIterable iter X.env x = pure x := by intro _; rfl) : LE X (.ListComp elt [⟨tg, iter, ifs, 0⟩] scope pos) (jLc ci g t e (own.map (·.2))) := by unfold jLc; exact le_lc hc hN hi ok hj hg ht he hs
theorem lj_setLc {elt tg iter : Expr} {ifs : List Expr} {scope : Scope} {own : List (Str × Nat)} {pos spos : Pos} {i : Nat} {y : Str} {py : Pos} {ci : CI} {g : CG} {t : CT} {el : CE} {js : List Nat} (hc : X.calm = true) (hN : X.N.Nodup) (hy : X.N[i]? = some y) (hyl : X.env.scope.names.lookup y = some .local)
    (hsw : swapsWith (.ListComp elt [⟨tg, iter, ifs, 0⟩] scope pos) (some (.Name y py)) spos.line X.env = pure true) (hi : LI X tg iter ci) (ok : BlkOk X.N X.env.scope scope own) (hj : ∀ j ∈ js, j ∈ own.map (·.2)) (hg : Blk X scope fun Y => LG Y tg js g) (ht : Blk X scope fun Y => LTs Y ifs t) (he : Blk X scope fun Y => LE Y elt el)
    (hs : ∀ x, foldedSetIterable iter X.env x = pure x := by intro _; rfl) : LS X (.Assign [.Name y py] (.ListComp elt [⟨tg, iter, ifs, 0⟩] scope pos) spos) (cAsg (jLc ci g t el (own.map (·.2))) (cgName i)) := by unfold jLc; exact ls_setLc hc hN hy hyl hsw hi ok hj hg ht he hs
theorem cj_isi (T : String) : CallD X (.builtin "isinstance") (jIsi T) := by unfold jIsi; exact cd_isi T
end
section
variable {h : DH} {Q : KD} {d : D}
theorem j_ix {x d : D} {ds : List D} {i : Int} (hs : ∀ z, x ≠ .str z) (e1 : seqRd h x = some ds) (e2 : L2.atI ds i = some d) (k : Q d h) : jIx x (.int i) h Q := by
  unfold jIx
  have z : (match seqRd h x with | some ds => (match L2.atI ds i with | some d => Q d h | none => False) | none => False) := by rw [e1]; show (match L2.atI ds i with | some d => Q d h | none => False); rw [e2]; exact k
  cases x with
  | str y => exact absurd rfl (hs y)
  | _ => exact z
theorem atI_last {α : Type} {l : List α} {x : α} (e : l.getLast? = some x) : L2.atI l (-1) = some x := by
  cases l with
  | nil => cases e
  | cons a r =>
    rw [List.getLast?_eq_getElem?] at e
    unfold L2.atI L2.ixN
    rw [if_neg (by omega), if_pos (by rw [List.length_cons]; omega)]
    show (a :: r)[((-1 : Int) + ((a :: r).length : Int)).toNat]? = some x
    rw [show ((-1 : Int) + ((a :: r).length : Int)).toNat = (a :: r).length - 1 by omega]
    exact e
theorem cut_init {l : List D} : cutD l none (some (-1)) = l.dropLast := by
  unfold cutD
  show (l.drop 0).take ((if (-1 : Int) < 0 then ((-1 : Int) + (l.length : Int)).toNat else min (-1 : Int).toNat l.length) - 0) = l.dropLast
  rw [if_pos (by decide), List.dropLast_eq_take, List.drop_zero]
  congr 1
  omega
theorem cut_tail {l : List D} : cutD l (some 1) none = l.drop 1 := by
  unfold cutD
  rw [show HT.sIx l.length 0 (some 1) = min 1 l.length from HT.sIx_nat l.length 0 1, show HT.sIx l.length l.length none = l.length from rfl]
  cases l with
  | nil => rfl
  | cons a r =>
    rw [show min 1 (a :: r).length = 1 by simp]
    show (r).take ((r.length + 1) - 1) = r
    rw [Nat.add_sub_cancel, List.take_length]
theorem bl_split {b : Bool} {P : Bool → Prop} (k1 : b = true → P true) (k2 : b = false → P false) : P b := by
  cases b with
  | true => exact k1 rfl
  | false => exact k2 rfl
theorem j_lt {i j : Int} (k1 : i < j → Q (.bl true) h) (k2 : ¬ i < j → Q (.bl false) h) : jLt (.int i) (.int j) h Q := by
  unfold jLt; exact bl_split (P := fun b => Q (.bl b) h) (fun e => k1 (of_decide_eq_true e)) (fun e => k2 (of_decide_eq_false e))
theorem j_le {i j : Int} (k1 : i ≤ j → Q (.bl true) h) (k2 : ¬ i ≤ j → Q (.bl false) h) : jLe (.int i) (.int j) h Q := by
  unfold jLe; exact bl_split (P := fun b => Q (.bl b) h) (fun e => k1 (of_decide_eq_true e)) (fun e => k2 (of_decide_eq_false e))
theorem j_gt {i j : Int} (k1 : j < i → Q (.bl true) h) (k2 : ¬ j < i → Q (.bl false) h) : jGt (.int i) (.int j) h Q := by
  unfold jGt; exact bl_split (P := fun b => Q (.bl b) h) (fun e => k1 (of_decide_eq_true e)) (fun e => k2 (of_decide_eq_false e))
theorem j_ge {i j : Int} (k1 : j ≤ i → Q (.bl true) h) (k2 : ¬ j ≤ i → Q (.bl false) h) : jGe (.int i) (.int j) h Q := by
  unfold jGe; exact bl_split (P := fun b => Q (.bl b) h) (fun e => k1 (of_decide_eq_true e)) (fun e => k2 (of_decide_eq_false e))
theorem ji_int (ok : okD d = true) (q : Q (.bl (isInt d || isBl d)) h) : jIsi "int" [d, .ty "int"] h Q := by unfold jIsi; exact isi_int ok q
theorem ji_bool (ok : okD d = true) (q : Q (.bl (isBl d)) h) : jIsi "bool" [d, .ty "bool"] h Q := by unfold jIsi; exact isi_bool ok q
theorem ji_str (ok : okD d = true) (q : Q (.bl (isStr d)) h) : jIsi "str" [d, .ty "str"] h Q := by unfold jIsi; exact isi_str ok q
theorem ji_tup (ok : okD d = true) (q : Q (.bl (isTup d)) h) : jIsi "tuple" [d, .ty "tuple"] h Q := by unfold jIsi; exact isi_tup ok q
end
theorem lc_pure {G : DH → Prop} {g : CG} {t : CT} {e : CE} {h : DH} {σ0 : DS} {Q : List D → DH → Prop} (F : D → Option D) (hG : ∀ l, G (h ++ [.lst l])) : ∀ (items acc : List D),
    (∀ d ∈ items, ∀ acc' (P : D → DH → Prop) (R : DH → Prop), (match F d with | some y => P y (h ++ [.lst acc']) | none => R (h ++ [.lst acc'])) → g d σ0 (h ++ [.lst acc']) (fun σ2 h2 => t σ2 h2 fun b h3 => if b = true then e σ2 h3 P else R h3)) →
    acc.length + items.length ≤ sizeLine → Q (acc ++ items.filterMap F) (h ++ [.lst (acc ++ items.filterMap F)]) → lcTurns G g t e h.length σ0 Q items acc (h ++ [.lst acc])
  | [], acc, _, hz, q => by
    refine ⟨hG acc, by simp, ?_⟩
    rw [List.filterMap_nil, List.append_nil] at q
    exact q
  | d :: ds, acc, step, hz, q => by
    refine ⟨hG acc, by simp, ?_⟩
    have hz' : acc.length + (ds.length + 1) ≤ sizeLine := hz
    refine step d List.mem_cons_self acc _ _ ?_
    cases e1 : F d with
    | none =>
      rw [List.filterMap_cons, e1] at q
      exact lc_pure F hG ds acc (fun d' hd => step d' (List.mem_cons_of_mem _ hd)) (by omega) q
    | some y =>
      refine ⟨by simp, by omega, ?_⟩
      have e2 : (h ++ [O.lst acc]).set h.length (.lst (acc ++ [y])) = h ++ [.lst (acc ++ [y])] := by simp
      rw [e2]
      refine lc_pure F hG ds (acc ++ [y]) (fun d' hd => step d' (List.mem_cons_of_mem _ hd)) (by rw [List.length_append]; show acc.length + 1 + ds.length ≤ sizeLine; omega) ?_
      rw [List.filterMap_cons, e1] at q
      rw [List.append_assoc]
      exact q
theorem lcEnd_ok {h : DH} {Q : KD} {acc : List D} (hc : HCl h) (hl : ClL h.length acc) (q : Q (.lst acc) h) : lcEnd h.length Q acc (h ++ [.lst acc]) := by
  refine ⟨by simp, hl, ?_, ?_⟩
  · rw [List.take_left]; exact hc
  · rw [List.take_left]; exact q
/-- a list comprehension over a list or tuple: each item handed on or left out -/
theorem lc_ok {G : DH → Prop} {g : CG} {t : CT} {e : CE} {h : DH} {σ0 : DS} {Q : KD} {items : List D} (F : D → Option D) (hG : ∀ l, G (h ++ [.lst l])) (hc : HCl h)
    (step : ∀ d ∈ items, ∀ acc' (P : D → DH → Prop) (R : DH → Prop), (match F d with | some y => P y (h ++ [.lst acc']) | none => R (h ++ [.lst acc'])) → g d σ0 (h ++ [.lst acc']) (fun σ2 h2 => t σ2 h2 fun b h3 => if b = true then e σ2 h3 P else R h3))
    (hz : items.length ≤ sizeLine) (hl : ClL h.length (items.filterMap F)) (q : Q (.lst (items.filterMap F)) h) : lcTurns G g t e h.length σ0 (lcEnd h.length Q) items [] (h ++ [.lst []]) :=
  lc_pure F hG items [] step (by rw [List.length_nil]; omega) (by rw [List.nil_append]; exact lcEnd_ok hc hl q)
theorem jlc_ok {ci : CI} {G : DH → Prop} {g : CG} {t : CT} {e : CE} {vs : List Nat} {h : DH} {σ : DS} {Q : KD} {items : List D} (hci : ∀ P : List D → (DH → Prop) → DH → Prop, P items G h → ci σ h P) (F : D → Option D) (hG : ∀ l, G (h ++ [.lst l])) (hc : HCl h)
    (step : ∀ d ∈ items, ∀ acc' (P : D → DH → Prop) (R : DH → Prop), (match F d with | some y => P y (h ++ [.lst acc']) | none => R (h ++ [.lst acc'])) → g d (wipeD σ vs) (h ++ [.lst acc']) (fun σ2 h2 => t σ2 h2 fun b h3 => if b = true then e σ2 h3 P else R h3))
    (hz : items.length ≤ sizeLine) (hl : ClL h.length (items.filterMap F)) (q : Q (.lst (items.filterMap F)) h) : jLc ci g t e vs σ h Q := by
  unfold jLc cLc
  exact hci _ (lc_ok F hG hc step hz hl q)
theorem lc_map {G : DH → Prop} {g : CG} {e : CE} {h : DH} {σ0 : DS} {Q : KD} {items : List D} (f : D → D) (hG : ∀ l, G (h ++ [.lst l])) (hc : HCl h)
    (step : ∀ d ∈ items, ∀ acc' (P : D → DH → Prop), P (f d) (h ++ [.lst acc']) → g d σ0 (h ++ [.lst acc']) (fun σ2 h2 => e σ2 h2 P))
    (hz : items.length ≤ sizeLine) (hl : ClL h.length (items.map f)) (q : Q (.lst (items.map f)) h) : lcTurns G g cYes e h.length σ0 (lcEnd h.length Q) items [] (h ++ [.lst []]) := by
  have em : items.filterMap (fun d => some (f d)) = items.map f := by rw [← List.filterMap_eq_map]; rfl
  refine lc_ok (fun d => some (f d)) hG hc (fun d hd acc P R c => ?_) hz (by rw [em]; exact hl) (by rw [em]; exact q)
  exact step d hd acc P c
theorem jlc_map {ci : CI} {G : DH → Prop} {g : CG} {e : CE} {vs : List Nat} {h : DH} {σ : DS} {Q : KD} {items : List D} (hci : ∀ P : List D → (DH → Prop) → DH → Prop, P items G h → ci σ h P) (f : D → D) (hG : ∀ l, G (h ++ [.lst l])) (hc : HCl h)
    (step : ∀ d ∈ items, ∀ acc' (P : D → DH → Prop), P (f d) (h ++ [.lst acc']) → g d (wipeD σ vs) (h ++ [.lst acc']) (fun σ2 h2 => e σ2 h2 P))
    (hz : items.length ≤ sizeLine) (hl : ClL h.length (items.map f)) (q : Q (.lst (items.map f)) h) : jLc ci g cYes e vs σ h Q := by
  unfold jLc cLc
  exact hci _ (lc_map f hG hc step hz hl q)
theorem for_inv {G : DH → Prop} {g : CG} {b : CS} {E : DE} {items : List D} (I : Nat → DS → DH → Prop) (hG : ∀ k σ h, I k σ h → G h) (hend : ∀ σ h, I items.length σ h → E.nx σ h)
    (step : ∀ k d σ h, items[k]? = some d → I k σ h → ∀ N : DS → DH → Prop, (∀ σ h, I (k + 1) σ h → N σ h) → g d σ h fun σ' h' => b { nx := N, rt := E.rt, bk := E.nx, ct := N } σ' h') :
    ∀ (n k : Nat) (σ : DS) (h : DH), n + k = items.length → I k σ h → turns G g b E (items.drop k) σ h
  | 0, k, σ, h, e, i => by
    have ek : k = items.length := by omega
    subst ek
    rw [List.drop_length]
    exact ⟨hG _ _ _ i, hend _ _ i⟩
  | n + 1, k, σ, h, e, i => by
    have hlt : k < items.length := by omega
    rw [List.drop_eq_getElem_cons hlt]
    refine ⟨hG _ _ _ i, step k _ σ h (List.getElem?_eq_getElem hlt) i _ fun σ' h' i' => ?_⟩
    exact for_inv I hG hend step n (k + 1) σ' h' (by omega) i'
theorem for_ok {G : DH → Prop} {g : CG} {b : CS} {E : DE} {items : List D} {σ : DS} {h : DH} (I : Nat → DS → DH → Prop) (hG : ∀ k σ h, I k σ h → G h) (hend : ∀ σ h, I items.length σ h → E.nx σ h)
    (step : ∀ k d σ h, items[k]? = some d → I k σ h → ∀ N : DS → DH → Prop, (∀ σ h, I (k + 1) σ h → N σ h) → g d σ h fun σ' h' => b { nx := N, rt := E.rt, bk := E.nx, ct := N } σ' h') (i : I 0 σ h) : turns G g b E items σ h := by
  have z := for_inv I hG hend step items.length 0 σ h rfl i
  rwa [List.drop_zero] at z
theorem get_last {g : DH} {o : O} : (g ++ [o])[g.length]? = some o := by simp
theorem set_last {g : DH} {o u : O} : (g ++ [o]).set g.length u = g ++ [u] := by simp
theorem insAt_last {g : DH} {C : Addr} {fs : List (Str × D)} : insAt (g ++ [O.ins C fs]) (.ref g.length) = some (g.length, C, fs) := by
  simp [insAt]
theorem objAt_last {g : DH} {C : Addr} {fs : List (Str × D)} : objAt (g ++ [O.ins C fs]) (.ref g.length) = some (C, fs) := by
  simp [objAt]
/-- self.f = .. in an __init__ -/
theorem putF_last {C : Addr} {f : Str} {i : Nat} {c : CE} {E : DE} {σ : DS} {g : DH} {fs : List (Str × D)} {y : D} (hc : ∀ P : KD, P y (g ++ [O.ins C fs]) → c σ (g ++ [O.ins C fs]) P) (ha : (σ[i]?).join = some (.ref g.length)) (hl : fs.length < 1000)
    (q : E.nx σ (g ++ [O.ins C (putD f y fs)])) : cPutF C f (cVar i) c E σ (g ++ [O.ins C fs]) := by
  refine hc _ ?_
  show cVar i σ _ _
  unfold cVar
  rw [ha]
  show match insAt (g ++ [O.ins C fs]) (.ref g.length) with
    | some (n, C', fs') => C' = C ∧ fs'.length < 1000 ∧ E.nx σ ((g ++ [O.ins C fs]).set n (.ins C (putD f y fs')))
    | none => False
  rw [insAt_last]
  refine ⟨rfl, hl, ?_⟩
  show E.nx σ ((g ++ [O.ins C fs]).set g.length (.ins C (putD f y fs)))
  rw [set_last]
  exact q
/-- what a def hands back of the heap it was given -/
theorem ret_l {h0 h : DH} {Q : KD} {d : D} (q : Q d h) : Ret h0 Q d h := .inl q
/-- .. what it made dropped -/
theorem ret_cut {h : DH} {Q : KD} {d : D} {g : DH} (hc : HCl h) (c : Cl h.length d) (q : Q d h) : Ret h Q d (h ++ g) := .inr ⟨h, g, d, rfl, Nat.le_refl _, hc, .same c, q⟩
theorem ret_lst {h : DH} {Q : KD} {n : Nat} {ds : List D} {g : DH} (hc : HCl h) (e : (h ++ g)[n]? = some (.lst ds)) (hn : h.length ≤ n) (c : ClL h.length ds) (q : Q (.lst ds) h) : Ret h Q (.ref n) (h ++ g) := .inr ⟨h, g, _, rfl, Nat.le_refl _, hc, .lst e hn c, q⟩
theorem hcl_nil : HCl [] := fun i o e => by simp at e
end TL

namespace TL
open PySem PySem.Spec PyProof.Rows L2
/-- a store of which some slots are forgotten, closed in a heap of n objects -/
structure Sub (n : Nat) (σ0 σ : DS) : Prop where
  len : σ0.length = σ.length
  at_ : ∀ (i : Nat) (d : D), σ0[i]? = some (some d) → σ[i]? = some (some d) ∧ Cl n d
def cutN (m : Nat) (T : DS → DH → Prop) : DS → DH → Prop := fun σ h => ∃ h0 g σ0, h = h0 ++ g ∧ m ≤ h0.length ∧ HCl h0 ∧ Sub h0.length σ0 σ ∧ T σ0 h0
def turnsC (m : Nat) (G : DH → Prop) (g : CG) (b : CS) (E : DE) : List D → DS → DH → Prop
  | [], σ, h => G h ∧ E.nx σ h
  | d :: ds, σ, h => G h ∧ g d σ h fun σ' h' => b { nx := cutN m (turnsC m G g b E ds), rt := E.rt, bk := E.nx, ct := cutN m (turnsC m G g b E ds) } σ' h'
def cForC (ci : CI) (g : CG) (b : CS) : CS := fun E σ h => ci σ h fun items G h1 => turnsC h1.length G g b E items σ h1
theorem turnsC_G {m : Nat} {G : DH → Prop} {g : CG} {b : CS} {E : DE} {ds : List D} {σ : DS} {h : DH} (t : turnsC m G g b E ds σ h) : G h := by
  cases ds with
  | nil => exact t.1
  | cons d ds => exact t.1
theorem Sub.rel {K : PySem.W.Frag} {w : Wo} {n : Nat} {σ0 σd : DS} {σv : L2.St} (sb : Sub n σ0 σd) (S : SRel K w σd σv) : SRel K (w.cut n) σ0 σv := by
  refine ⟨sb.len.trans S.len, fun i d e => ?_⟩
  obtain ⟨e1, c⟩ := sb.at_ i d e
  obtain ⟨v, e2, r⟩ := S.at_ i d e1
  exact ⟨v, e2, r.cut c⟩
section
variable {X : Cx} {tg iter : Expr} {pos : Pos}
theorem ls_forC {body : List Stmt} {ci : CI} {js : List Nat} {g : CG} {b : CS} (hp : PassesOwn (model X.prog X.w) X.A X.env X.xe) (hc : X.calm = true) (hi : LI X tg iter ci) (hg : LG X tg js g) (hb : LB X body b)
    (hs : ∀ x, foldedSetIterable iter X.env x = pure x := by intro _; rfl) : LS X (.For tg iter body [] pos) (cForC ci g b) := by
  refine ⟨fun w h σd σv E F S R c B => wS (ps_for hp hc pi_w pg_w pb_w hs) ?_⟩
  refine hi.run w h σd σv _ _ S R c fun w1 h1 J items G l1 R1 Wk c1 => ?_
  refine ⟨fun i m σ H => m = items.length - i ∧ i ≤ items.length ∧ ∃ w2 h2 σd2, w1.le w2 ∧ w2.H = H ∧ SRel X.K w2 σd2 σ ∧ HRel X.K w2 h2 ∧ turnsC h1.length G g b E (items.drop i) σd2 h2, ⟨_, rfl, Nat.zero_le _, w1, h1, σd, .refl w1, rfl, S.mono l1, R1, c1⟩, ?_⟩
  rintro i m σ H ⟨rfl, hi, w2, h2, σd2, l2, rfl, S2, R2, t2⟩
  by_cases hlt : i < items.length
  · refine .inr ⟨Wk.goes w2 h2 i l2 R2 (turnsC_G t2) hlt, fun σ' H' => ∃ w3 h3 σd3, w1.le w3 ∧ w3.H = H' ∧ SRel X.K w3 σd3 σ' ∧ HRel X.K w3 h3 ∧ turnsC h1.length G g b E (items.drop (i + 1)) σd3 h3, fun σ' H' ⟨w3, h3, σd3, l3, e3, S3, R3, t3⟩ => ⟨_, by omega, rfl, hlt, w3, h3, σd3, l3, e3, S3, R3, t3⟩, fun x H' y => ?_⟩
    obtain ⟨w3, l3, R3, rfl, d, e, r⟩ := Wk.yields w2 h2 i x H' l2 R2 (turnsC_G t2) hlt y
    rw [List.drop_eq_getElem_cons hlt] at t2
    have ed : items[i] = d := by rw [List.getElem?_eq_getElem hlt] at e; exact Option.some.inj e
    rw [ed] at t2
    have L3 := l2.trans l3
    refine hg.run w3 h2 σd2 σ d x _ _ (S2.mono l3) R3 r t2.2 fun w4 h4 σd4 σv4 l4 R4 S4 _ c4 => ?_
    have fin : BearsS X.K w4 (cutN h1.length (turnsC h1.length G g b E (items.drop (i + 1)))) (fun σ' H' => ∃ w3 h3 σd3, w1.le w3 ∧ w3.H = H' ∧ SRel X.K w3 σd3 σ' ∧ HRel X.K w3 h3 ∧ turnsC h1.length G g b E (items.drop (i + 1)) σd3 h3) := by
      rintro w5 h5 σd5 σv5 l5 R5 S5 ⟨h0, g0, σ0, rfl, hm, hcl, sb, t5⟩
      exact ⟨w5.cut h0.length, h0, σ0, Wo.le.cut ((L3.trans l4).trans l5) (by rw [R1.len]; exact hm), rfl, sb.rel S5, R5.cut hcl, t5⟩
    exact hb.run w4 h4 σd4 σv4 _ _ S4 R4 c4 ⟨fin, B.rt.mono (l1.trans (L3.trans l4)), B.nx.mono (l1.trans (L3.trans l4)), fin⟩
  · have ei : i = items.length := by omega
    subst ei
    rw [List.drop_length] at t2
    exact .inl ⟨Wk.stops w2 h2 l2 R2 t2.1, B.nx w2 h2 σd2 σ (l1.trans l2) R2 S2 t2.2⟩
end
theorem for_invC {m : Nat} {G : DH → Prop} {g : CG} {b : CS} {E : DE} {items : List D} (I : Nat → DS → DH → Prop) (hG : ∀ k σ h, I k σ h → G h) (hend : ∀ σ h, I items.length σ h → E.nx σ h)
    (step : ∀ k d σ h, items[k]? = some d → I k σ h → ∀ N : DS → DH → Prop, (∀ σ h, I (k + 1) σ h → N σ h) → g d σ h fun σ' h' => b { nx := cutN m N, rt := E.rt, bk := E.nx, ct := cutN m N } σ' h') :
    ∀ (n k : Nat) (σ : DS) (h : DH), n + k = items.length → I k σ h → turnsC m G g b E (items.drop k) σ h
  | 0, k, σ, h, e, i => by
    have ek : k = items.length := by omega
    subst ek
    rw [List.drop_length]
    exact ⟨hG _ _ _ i, hend _ _ i⟩
  | n + 1, k, σ, h, e, i => by
    have hlt : k < items.length := by omega
    rw [List.drop_eq_getElem_cons hlt]
    refine ⟨hG _ _ _ i, step k _ σ h (List.getElem?_eq_getElem hlt) i _ fun σ' h' i' => ?_⟩
    exact for_invC I hG hend step n (k + 1) σ' h' (by omega) i'
theorem for_okC {m : Nat} {G : DH → Prop} {g : CG} {b : CS} {E : DE} {items : List D} {σ : DS} {h : DH} (I : Nat → DS → DH → Prop) (hG : ∀ k σ h, I k σ h → G h) (hend : ∀ σ h, I items.length σ h → E.nx σ h)
    (step : ∀ k d σ h, items[k]? = some d → I k σ h → ∀ N : DS → DH → Prop, (∀ σ h, I (k + 1) σ h → N σ h) → g d σ h fun σ' h' => b { nx := cutN m N, rt := E.rt, bk := E.nx, ct := cutN m N } σ' h') (i : I 0 σ h) : turnsC m G g b E items σ h := by
  have z := for_invC I hG hend step items.length 0 σ h rfl i
  rwa [List.drop_zero] at z
end TL

namespace K69
open PySem PySem.Spec PyProof.Rows L2 TL
def top (i : Nat) : Stmt := PySem.Challenge.pw_whatturns_k69_chains_of_facts.main.body.getD i (.Pass ⟨0, 0, 0, 0⟩)
def cbody : Stmt → List Stmt
  | .ClassDef (body := b) .. => b
  | _ => []
def inCls (i j : Nat) : Stmt := (cbody (top i)).getD j (.Pass ⟨0, 0, 0, 0⟩)
/-- the getter of a property -/
def prA (K : PySem.W.Frag) (C : Addr) (f : PySem.Str) : Addr := match PySem.W.recIn K (He.ma K C f) "property" with
  | some (.ref g :: _) => g
  | _ => 0
abbrev st_is_integer : Stmt := top 6
abbrev N_is_integer : List PySem.Str := [("thing" : PySem.Str)]
abbrev st_is_name : Stmt := top 14
abbrev N_is_name : List PySem.Str := [("thing" : PySem.Str), ("letter" : PySem.Str)]
abbrev st_are_names : Stmt := top 15
abbrev N_are_names : List PySem.Str := [("thing" : PySem.Str), ("one" : PySem.Str)]
abbrev st_is_key_tables : Stmt := top 16
abbrev N_is_key_tables : List PySem.Str := [("thing" : PySem.Str), ("columns" : PySem.Str), ("one" : PySem.Str), ("column" : PySem.Str)]
abbrev st_Table_init : Stmt := inCls 18 0
abbrev N_Table_init : List PySem.Str := [("self" : PySem.Str), ("name" : PySem.Str), ("names" : PySem.Str), ("numbers" : PySem.Str), ("key" : PySem.Str), ("columns" : PySem.Str)]
abbrev st_Table_columns : Stmt := inCls 18 1
abbrev N_Table_columns : List PySem.Str := [("self" : PySem.Str)]
abbrev st_fact_of : Stmt := top 21
abbrev N_fact_of : List PySem.Str := [("left" : PySem.Str), ("operator" : PySem.Str), ("right" : PySem.Str)]
abbrev st_strict_in : Stmt := top 23
abbrev N_strict_in : List PySem.Str := [("chain" : PySem.Str), ("fact" : PySem.Str)]
abbrev st_chain_end : Stmt := top 24
abbrev N_chain_end : List PySem.Str := [("chain" : PySem.Str), ("start" : PySem.Str), ("term" : PySem.Str), ("left" : PySem.Str), ("operator" : PySem.Str), ("right" : PySem.Str)]
abbrev st_is_chain_clash : Stmt := top 25
abbrev N_is_chain_clash : List PySem.Str := [("chain" : PySem.Str), ("start" : PySem.Str), ("end" : PySem.Str), ("strict" : PySem.Str)]
abbrev st_is_clash : Stmt := top 26
abbrev N_is_clash : List PySem.Str := [("thing" : PySem.Str), ("facts" : PySem.Str), ("starts" : PySem.Str), ("signs" : PySem.Str), ("left" : PySem.Str), ("operator" : PySem.Str), ("right" : PySem.Str), ("ends" : PySem.Str), ("fact" : PySem.Str), ("start" : PySem.Str)]
abbrev st_Scene_init : Stmt := inCls 30 0
abbrev N_Scene_init : List PySem.Str := [("self" : PySem.Str), ("tables" : PySem.Str), ("plan" : PySem.Str), ("rows" : PySem.Str), ("kinds" : PySem.Str), ("table" : PySem.Str)]
abbrev st_Scene_entry : Stmt := inCls 30 1
abbrev N_Scene_entry : List PySem.Str := [("self" : PySem.Str), ("called" : PySem.Str), ("column" : PySem.Str)]
abbrev st_Scene_add_stranger : Stmt := inCls 30 2
abbrev N_Scene_add_stranger : List PySem.Str := [("self" : PySem.Str), ("alias" : PySem.Str), ("name" : PySem.Str), ("table" : PySem.Str), ("at" : PySem.Str), ("term" : PySem.Str), ("column" : PySem.Str)]
abbrev st_Scene_facts_at : Stmt := inCls 30 5
abbrev N_Scene_facts_at : List PySem.Str := [("self" : PySem.Str), ("plan" : PySem.Str), ("rows" : PySem.Str), ("facts" : PySem.Str), ("use" : PySem.Str), ("column" : PySem.Str), ("operator" : PySem.Str), ("right" : PySem.Str), ("operand" : PySem.Str)]
abbrev st_Scene_kept_at : Stmt := inCls 30 6
abbrev N_Scene_kept_at : List PySem.Str := [("self" : PySem.Str), ("plan" : PySem.Str), ("rows" : PySem.Str), ("use" : PySem.Str), ("column" : PySem.Str)]
abbrev st_is_plain : Stmt := top 31
abbrev N_is_plain : List PySem.Str := [("thing" : PySem.Str), ("waiting" : PySem.Str), ("one" : PySem.Str)]
abbrev st_is_tree : Stmt := top 36
abbrev N_is_tree : List PySem.Str := [("scene" : PySem.Str), ("facts" : PySem.Str), ("tree" : PySem.Str), ("unlike" : PySem.Str), ("fact" : PySem.Str)]
abbrev st_Plan_init : Stmt := inCls 43 0
abbrev N_Plan_init : List PySem.Str := [("self" : PySem.Str), ("names" : PySem.Str), ("conditions" : PySem.Str), ("withouts" : PySem.Str), ("kept" : PySem.Str), ("kinds" : PySem.Str)]
abbrev st_require : Stmt := top 44
abbrev N_require : List PySem.Str := [("good" : PySem.Str)]
abbrev st_table_with : Stmt := top 45
abbrev N_table_with : List PySem.Str := [("name" : PySem.Str), ("tables" : PySem.Str), ("found" : PySem.Str), ("table" : PySem.Str)]
abbrev st_scope_of : Stmt := top 46
abbrev N_scope_of : List PySem.Str := [("uses" : PySem.Str), ("most" : PySem.Str), ("tables" : PySem.Str), ("found" : PySem.Str), ("use" : PySem.Str)]
abbrev st_column_of : Stmt := top 47
abbrev N_column_of : List PySem.Str := [("scope" : PySem.Str), ("thing" : PySem.Str), ("alias" : PySem.Str), ("point" : PySem.Str), ("name" : PySem.Str), ("use" : PySem.Str), ("other" : PySem.Str), ("table" : PySem.Str)]
abbrev st_is_name_column : Stmt := top 48
abbrev N_is_name_column : List PySem.Str := [("scope" : PySem.Str), ("column" : PySem.Str), ("use" : PySem.Str), ("place" : PySem.Str)]
abbrev st_name_operand : Stmt := top 49
abbrev N_name_operand : List PySem.Str := [("scope" : PySem.Str), ("thing" : PySem.Str), ("right" : PySem.Str)]
abbrev st_number_operand : Stmt := top 50
abbrev N_number_operand : List PySem.Str := [("scope" : PySem.Str), ("left" : PySem.Str), ("thing" : PySem.Str), ("right" : PySem.Str)]
abbrev st_condition_of : Stmt := top 51
abbrev N_condition_of : List PySem.Str := [("scope" : PySem.Str), ("thing" : PySem.Str), ("left" : PySem.Str)]
abbrev st_conditions_of : Stmt := top 52
abbrev N_conditions_of : List PySem.Str := [("scope" : PySem.Str), ("things" : PySem.Str), ("thing" : PySem.Str)]
abbrev st_plan_of : Stmt := top 53
abbrev N_plan_of : List PySem.Str := [("question" : PySem.Str), ("tables" : PySem.Str), ("scope" : PySem.Str), ("conditions" : PySem.Str), ("aliases" : PySem.Str), ("withouts" : PySem.Str), ("without" : PySem.Str), ("more" : PySem.Str), ("names" : PySem.Str), ("kept" : PySem.Str), ("kinds" : PySem.Str), ("alias" : PySem.Str), ("table" : PySem.Str), ("column" : PySem.Str)]
abbrev st_Question_fits : Stmt := inCls 56 0
abbrev N_Question_fits : List PySem.Str := [("self" : PySem.Str), ("tables" : PySem.Str)]
abbrev st_Select_init : Stmt := inCls 57 0
abbrev N_Select_init : List PySem.Str := [("self" : PySem.Str), ("uses" : PySem.Str), ("keep" : PySem.Str), ("where" : PySem.Str), ("without" : PySem.Str)]
abbrev st_Select_kept_columns : Stmt := inCls 57 3
abbrev N_Select_kept_columns : List PySem.Str := [("self" : PySem.Str)]
abbrev st_Select_check : Stmt := inCls 57 4
abbrev N_Select_check : List PySem.Str := [("self" : PySem.Str), ("tables" : PySem.Str)]
abbrev st_check_select : Stmt := top 61
abbrev N_check_select : List PySem.Str := [("question" : PySem.Str), ("tables" : PySem.Str), ("parts" : PySem.Str)]
abbrev st_check_selects : Stmt := top 63
abbrev N_check_selects : List PySem.Str := [("first" : PySem.Str), ("second" : PySem.Str), ("tables" : PySem.Str)]
abbrev st_pair_scene : Stmt := top 64
abbrev N_pair_scene : List PySem.Str := [("first" : PySem.Str), ("second" : PySem.Str), ("tables" : PySem.Str), ("plan" : PySem.Str), ("scene" : PySem.Str), ("alias" : PySem.Str), ("name" : PySem.Str), ("match" : PySem.Str)]
abbrev st_within_holds : Stmt := top 65
abbrev N_within_holds : List PySem.Str := [("first" : PySem.Str), ("second" : PySem.Str), ("thing" : PySem.Str), ("tables" : PySem.Str), ("scene" : PySem.Str)]
abbrev st__law_deck : Stmt := top 67
abbrev N__law_deck : List PySem.Str := [("_law_script" : PySem.Str), ("_law_cells" : PySem.Str), ("_law_total" : PySem.Str), ("_law_cell" : PySem.Str)]
abbrev st__law_draw : Stmt := top 68
abbrev N__law_draw : List PySem.Str := [("_law_deck_here" : PySem.Str), ("_law_many" : PySem.Str), ("_law_turn" : PySem.Str), ("_law_cell" : PySem.Str), ("_law_mixed" : PySem.Str)]
abbrev st__law_pick : Stmt := top 69
abbrev N__law_pick : List PySem.Str := [("_law_deck_here" : PySem.Str), ("_law_some" : PySem.Str)]
abbrev st__law_first : Stmt := top 70
abbrev N__law_first : List PySem.Str := [("_law_deck_here" : PySem.Str), ("_law_names" : PySem.Str), ("_law_numbers" : PySem.Str), ("_law_is_number" : PySem.Str), ("_law_found" : PySem.Str), ("_law_here" : PySem.Str), ("_law_first_here" : PySem.Str), ("_law_columns" : PySem.Str), ("_law_k" : PySem.Str), ("_law_way" : PySem.Str), ("_law_others" : PySem.Str), ("_law_sign" : PySem.Str), ("_law_there" : PySem.Str), ("_law_one" : PySem.Str)]
abbrev st__law_facts : Stmt := top 71
abbrev N__law_facts : List PySem.Str := [("_law_where" : PySem.Str), ("_law_one" : PySem.Str), ("_law_sign" : PySem.Str), ("_law_other" : PySem.Str)]
abbrev st__law_chains : Stmt := top 72
abbrev N__law_chains : List PySem.Str := [("_law_deck_here" : PySem.Str), ("_law_facts_here" : PySem.Str), ("_law_some" : PySem.Str), ("_law_found" : PySem.Str), ("_law_k" : PySem.Str), ("_law_left" : PySem.Str), ("_law_chain" : PySem.Str), ("_law_turn" : PySem.Str), ("_law_one" : PySem.Str), ("_law_sign" : PySem.Str), ("_law_other" : PySem.Str), ("_law_odd" : PySem.Str), ("_law_many" : PySem.Str)]
abbrev st__law_is_plain : Stmt := top 73
abbrev N__law_is_plain : List PySem.Str := [("_law_it" : PySem.Str), ("_law_one" : PySem.Str)]
abbrev st__law_ends : Stmt := top 74
abbrev N__law_ends : List PySem.Str := [("_law_chain" : PySem.Str), ("_law_left" : PySem.Str), ("_law_sign" : PySem.Str), ("_law_right" : PySem.Str), ("_law_found" : PySem.Str), ("_law_ahead" : PySem.Str), ("_law_some" : PySem.Str), ("_law_first_here" : PySem.Str), ("_law_last" : PySem.Str), ("_law_k" : PySem.Str), ("_law_one" : PySem.Str)]
abbrev st__law_is_constant : Stmt := top 75
abbrev N__law_is_constant : List PySem.Str := [("_law_term" : PySem.Str)]
abbrev st__law_is_clash : Stmt := top 76
abbrev N__law_is_clash : List PySem.Str := [("_law_facts_here" : PySem.Str), ("_law_chain" : PySem.Str), ("_law_signs" : PySem.Str), ("_law_one" : PySem.Str), ("_law_sign" : PySem.Str), ("_law_other" : PySem.Str), ("_law_ends_here" : PySem.Str), ("_law_many" : PySem.Str), ("_law_first_here" : PySem.Str), ("_law_last" : PySem.Str)]
abbrev st_law : Stmt := top 77
abbrev N_law : List PySem.Str := [("_law_script" : PySem.Str), ("_law_deck_here" : PySem.Str), ("_law_one" : PySem.Str), ("_law_other" : PySem.Str), ("_law_turn" : PySem.Str), ("_law_where" : PySem.Str), ("_law_first_here" : PySem.Str), ("_law_facts_here" : PySem.Str), ("_law_second" : PySem.Str), ("_law_chain" : PySem.Str), ("_law_due" : PySem.Str), ("_law_told" : PySem.Str)]
/-- the facts -/
structure Kn (K : PySem.W.Frag) (mg : PySem.Str → Option Value) : Prop where
  bm_Select_check : BMeth K (He.ga K ("Select" : PySem.Str)) ("check" : PySem.Str) (He.ma K (He.ga K ("Select" : PySem.Str)) ("check" : PySem.Str))
  bm_Select_fits : BMeth K (He.ga K ("Select" : PySem.Str)) ("fits" : PySem.Str) (He.ma K (He.ga K ("Select" : PySem.Str)) ("fits" : PySem.Str))
  c_Plan : Cls K (He.ga K ("Plan" : PySem.Str))
  c_Scene : Cls K (He.ga K ("Scene" : PySem.Str))
  c_Select : Cls K (He.ga K ("Select" : PySem.Str))
  c_Table : Cls K (He.ga K ("Table" : PySem.Str))
  g_InvalidQuestion : mg ("InvalidQuestion" : PySem.Str) = some (.ref (He.ga K ("InvalidQuestion" : PySem.Str)))
  g_LETTERS : ∃ t, mg ("LETTERS" : PySem.Str) = some (.str ("abcdefghijklmnopqrstuvwxyz" : PySem.Str) t)
  g_MOST_COLUMNS : ∃ t, mg ("MOST_COLUMNS" : PySem.Str) = some (.int 2 t)
  g_MOST_KEPT : ∃ t, mg ("MOST_KEPT" : PySem.Str) = some (.int 4 t)
  g_MOST_LETTERS : ∃ t, mg ("MOST_LETTERS" : PySem.Str) = some (.int 8 t)
  g_MOST_PARTS : ∃ t, mg ("MOST_PARTS" : PySem.Str) = some (.int 6 t)
  g_MOST_USES_resolving : ∃ t, mg ("MOST_USES_resolving" : PySem.Str) = some (.int 3 t)
  g_MOST_USES_shapes : ∃ t, mg ("MOST_USES_shapes" : PySem.Str) = some (.int 2 t)
  g_MOST_WITHOUTS : ∃ t, mg ("MOST_WITHOUTS" : PySem.Str) = some (.int 2 t)
  g_NAME_OPERATORS : mg ("NAME_OPERATORS" : PySem.Str) = some (.ref (He.ga K ("NAME_OPERATORS" : PySem.Str)))
  g_NUMBER_OPERATORS : mg ("NUMBER_OPERATORS" : PySem.Str) = some (.ref (He.ga K ("NUMBER_OPERATORS" : PySem.Str)))
  g_Plan : mg ("Plan" : PySem.Str) = some (.ref (He.ga K ("Plan" : PySem.Str)))
  g_Scene : mg ("Scene" : PySem.Str) = some (.ref (He.ga K ("Scene" : PySem.Str)))
  g_Select : mg ("Select" : PySem.Str) = some (.ref (He.ga K ("Select" : PySem.Str)))
  g_Table : mg ("Table" : PySem.Str) = some (.ref (He.ga K ("Table" : PySem.Str)))
  g__law_chains : mg ("_law_chains" : PySem.Str) = some (.ref (He.ga K ("_law_chains" : PySem.Str)))
  g__law_deck : mg ("_law_deck" : PySem.Str) = some (.ref (He.ga K ("_law_deck" : PySem.Str)))
  g__law_draw : mg ("_law_draw" : PySem.Str) = some (.ref (He.ga K ("_law_draw" : PySem.Str)))
  g__law_ends : mg ("_law_ends" : PySem.Str) = some (.ref (He.ga K ("_law_ends" : PySem.Str)))
  g__law_facts : mg ("_law_facts" : PySem.Str) = some (.ref (He.ga K ("_law_facts" : PySem.Str)))
  g__law_first : mg ("_law_first" : PySem.Str) = some (.ref (He.ga K ("_law_first" : PySem.Str)))
  g__law_is_clash : mg ("_law_is_clash" : PySem.Str) = some (.ref (He.ga K ("_law_is_clash" : PySem.Str)))
  g__law_is_constant : mg ("_law_is_constant" : PySem.Str) = some (.ref (He.ga K ("_law_is_constant" : PySem.Str)))
  g__law_is_plain : mg ("_law_is_plain" : PySem.Str) = some (.ref (He.ga K ("_law_is_plain" : PySem.Str)))
  g__law_pick : mg ("_law_pick" : PySem.Str) = some (.ref (He.ga K ("_law_pick" : PySem.Str)))
  g_all : mg ("all" : PySem.Str) = none
  g_any : mg ("any" : PySem.Str) = none
  g_are_names : mg ("are_names" : PySem.Str) = some (.ref (He.ga K ("are_names" : PySem.Str)))
  g_bool : mg ("bool" : PySem.Str) = none
  g_chain_end : mg ("chain_end" : PySem.Str) = some (.ref (He.ga K ("chain_end" : PySem.Str)))
  g_check_select : mg ("check_select" : PySem.Str) = some (.ref (He.ga K ("check_select" : PySem.Str)))
  g_check_selects : mg ("check_selects" : PySem.Str) = some (.ref (He.ga K ("check_selects" : PySem.Str)))
  g_column_of : mg ("column_of" : PySem.Str) = some (.ref (He.ga K ("column_of" : PySem.Str)))
  g_condition_of : mg ("condition_of" : PySem.Str) = some (.ref (He.ga K ("condition_of" : PySem.Str)))
  g_conditions_of : mg ("conditions_of" : PySem.Str) = some (.ref (He.ga K ("conditions_of" : PySem.Str)))
  g_dict : mg ("dict" : PySem.Str) = none
  g_enumerate : mg ("enumerate" : PySem.Str) = none
  g_fact_of : mg ("fact_of" : PySem.Str) = some (.ref (He.ga K ("fact_of" : PySem.Str)))
  g_int : mg ("int" : PySem.Str) = none
  g_is_chain_clash : mg ("is_chain_clash" : PySem.Str) = some (.ref (He.ga K ("is_chain_clash" : PySem.Str)))
  g_is_clash : mg ("is_clash" : PySem.Str) = some (.ref (He.ga K ("is_clash" : PySem.Str)))
  g_is_integer : mg ("is_integer" : PySem.Str) = some (.ref (He.ga K ("is_integer" : PySem.Str)))
  g_is_key_tables : mg ("is_key_tables" : PySem.Str) = some (.ref (He.ga K ("is_key_tables" : PySem.Str)))
  g_is_name : mg ("is_name" : PySem.Str) = some (.ref (He.ga K ("is_name" : PySem.Str)))
  g_is_name_column : mg ("is_name_column" : PySem.Str) = some (.ref (He.ga K ("is_name_column" : PySem.Str)))
  g_is_plain : mg ("is_plain" : PySem.Str) = some (.ref (He.ga K ("is_plain" : PySem.Str)))
  g_is_tree : mg ("is_tree" : PySem.Str) = some (.ref (He.ga K ("is_tree" : PySem.Str)))
  g_isinstance : mg ("isinstance" : PySem.Str) = none
  g_len : mg ("len" : PySem.Str) = none
  g_list : mg ("list" : PySem.Str) = none
  g_name_operand : mg ("name_operand" : PySem.Str) = some (.ref (He.ga K ("name_operand" : PySem.Str)))
  g_number_operand : mg ("number_operand" : PySem.Str) = some (.ref (He.ga K ("number_operand" : PySem.Str)))
  g_pair_scene : mg ("pair_scene" : PySem.Str) = some (.ref (He.ga K ("pair_scene" : PySem.Str)))
  g_plan_of : mg ("plan_of" : PySem.Str) = some (.ref (He.ga K ("plan_of" : PySem.Str)))
  g_range : mg ("range" : PySem.Str) = none
  g_repr : mg ("repr" : PySem.Str) = none
  g_require : mg ("require" : PySem.Str) = some (.ref (He.ga K ("require" : PySem.Str)))
  g_scope_of : mg ("scope_of" : PySem.Str) = some (.ref (He.ga K ("scope_of" : PySem.Str)))
  g_set : mg ("set" : PySem.Str) = none
  g_str : mg ("str" : PySem.Str) = none
  g_strict_in : mg ("strict_in" : PySem.Str) = some (.ref (He.ga K ("strict_in" : PySem.Str)))
  g_table_with : mg ("table_with" : PySem.Str) = some (.ref (He.ga K ("table_with" : PySem.Str)))
  g_tuple : mg ("tuple" : PySem.Str) = none
  g_within_holds : mg ("within_holds" : PySem.Str) = some (.ref (He.ga K ("within_holds" : PySem.Str)))
  i1_Select : PySem.W.findIn K (.ref (He.ga K ("Select" : PySem.Str))) "__class__" = some (some (.builtin "object.__class__"))
  i2 : PySem.W.specialIn K (.builtin "object.__class__") "__get__" = some (some (.builtin "getset_descriptor.__get__"))
  i3 : PySem.W.takesIn K (.builtin "object.__class__") = some true
  i4_Select : PySem.W.mroIn K (He.ga K ("Select" : PySem.Str)) (.type "object") = some true
  i5_Select : PySem.W.kitOne K (.ref (He.ga K ("Select" : PySem.Str))) (.ref (He.ga K ("Select" : PySem.Str))) = some true
  m_Plan : Mk K (He.ga K ("Plan" : PySem.Str)) (He.ma K (He.ga K ("Plan" : PySem.Str)) "__init__")
  m_Scene : Mk K (He.ga K ("Scene" : PySem.Str)) (He.ma K (He.ga K ("Scene" : PySem.Str)) "__init__")
  m_Select : Mk K (He.ga K ("Select" : PySem.Str)) (He.ma K (He.ga K ("Select" : PySem.Str)) "__init__")
  m_Table : Mk K (He.ga K ("Table" : PySem.Str)) (He.ma K (He.ga K ("Table" : PySem.Str)) "__init__")
  me_Scene_add_stranger : Meth K (He.ga K ("Scene" : PySem.Str)) ("add_stranger" : PySem.Str) (He.ma K (He.ga K ("Scene" : PySem.Str)) ("add_stranger" : PySem.Str))
  me_Scene_entry : Meth K (He.ga K ("Scene" : PySem.Str)) ("entry" : PySem.Str) (He.ma K (He.ga K ("Scene" : PySem.Str)) ("entry" : PySem.Str))
  me_Scene_facts_at : Meth K (He.ga K ("Scene" : PySem.Str)) ("facts_at" : PySem.Str) (He.ma K (He.ga K ("Scene" : PySem.Str)) ("facts_at" : PySem.Str))
  me_Scene_kept_at : Meth K (He.ga K ("Scene" : PySem.Str)) ("kept_at" : PySem.Str) (He.ma K (He.ga K ("Scene" : PySem.Str)) ("kept_at" : PySem.Str))
  me_Select_kept_columns : Meth K (He.ga K ("Select" : PySem.Str)) ("kept_columns" : PySem.Str) (He.ma K (He.ga K ("Select" : PySem.Str)) ("kept_columns" : PySem.Str))
  n_Plan_conditions : NoAttr K (He.ga K ("Plan" : PySem.Str)) ("conditions" : PySem.Str)
  n_Plan_kept : NoAttr K (He.ga K ("Plan" : PySem.Str)) ("kept" : PySem.Str)
  n_Plan_kinds : NoAttr K (He.ga K ("Plan" : PySem.Str)) ("kinds" : PySem.Str)
  n_Plan_names : NoAttr K (He.ga K ("Plan" : PySem.Str)) ("names" : PySem.Str)
  n_Plan_withouts : NoAttr K (He.ga K ("Plan" : PySem.Str)) ("withouts" : PySem.Str)
  n_Scene_by_name : NoAttr K (He.ga K ("Scene" : PySem.Str)) ("by_name" : PySem.Str)
  n_Scene_called : NoAttr K (He.ga K ("Scene" : PySem.Str)) ("called" : PySem.Str)
  n_Scene_early : NoAttr K (He.ga K ("Scene" : PySem.Str)) ("early" : PySem.Str)
  n_Scene_late : NoAttr K (He.ga K ("Scene" : PySem.Str)) ("late" : PySem.Str)
  n_Scene_numeric : NoAttr K (He.ga K ("Scene" : PySem.Str)) ("numeric" : PySem.Str)
  n_Scene_plan : NoAttr K (He.ga K ("Scene" : PySem.Str)) ("plan" : PySem.Str)
  n_Scene_root : NoAttr K (He.ga K ("Scene" : PySem.Str)) ("root" : PySem.Str)
  n_Scene_strangers : NoAttr K (He.ga K ("Scene" : PySem.Str)) ("strangers" : PySem.Str)
  n_Scene_usable : NoAttr K (He.ga K ("Scene" : PySem.Str)) ("usable" : PySem.Str)
  n_Scene_wanted : NoAttr K (He.ga K ("Scene" : PySem.Str)) ("wanted" : PySem.Str)
  n_Select_keep : NoAttr K (He.ga K ("Select" : PySem.Str)) ("keep" : PySem.Str)
  n_Select_uses : NoAttr K (He.ga K ("Select" : PySem.Str)) ("uses" : PySem.Str)
  n_Select_where : NoAttr K (He.ga K ("Select" : PySem.Str)) ("where" : PySem.Str)
  n_Select_without : NoAttr K (He.ga K ("Select" : PySem.Str)) ("without" : PySem.Str)
  n_Table_key : NoAttr K (He.ga K ("Table" : PySem.Str)) ("key" : PySem.Str)
  n_Table_name : NoAttr K (He.ga K ("Table" : PySem.Str)) ("name" : PySem.Str)
  n_Table_names : NoAttr K (He.ga K ("Table" : PySem.Str)) ("names" : PySem.Str)
  n_Table_numbers : NoAttr K (He.ga K ("Table" : PySem.Str)) ("numbers" : PySem.Str)
  p_Table_columns : PropOf K (He.ga K ("Table" : PySem.Str)) "columns" (He.ma K (He.ga K ("Table" : PySem.Str)) "columns") (prA K (He.ga K ("Table" : PySem.Str)) "columns")
  t_NAME_OPERATORS : ∀ H, SqT K H (He.ga K ("NAME_OPERATORS" : PySem.Str)) (([("=" : PySem.Str), ("!=" : PySem.Str)] : List PySem.Str).map V.str)
  t_NUMBER_OPERATORS : ∀ H, SqT K H (He.ga K ("NUMBER_OPERATORS" : PySem.Str)) (([("=" : PySem.Str), ("!=" : PySem.Str), ("<=" : PySem.Str), (">=" : PySem.Str)] : List PySem.Str).map V.str)
  f_is_integer : FunD K ("is_integer" : PySem.Str) ("is_integer" : PySem.Str) (defArgs st_is_integer) (defBody st_is_integer) (defScope st_is_integer) [] [] (He.ga K ("is_integer" : PySem.Str)) (fdOf K (He.ga K ("is_integer" : PySem.Str)))
  f_is_name : FunD K ("is_name" : PySem.Str) ("is_name" : PySem.Str) (defArgs st_is_name) (defBody st_is_name) (defScope st_is_name) [] [] (He.ga K ("is_name" : PySem.Str)) (fdOf K (He.ga K ("is_name" : PySem.Str)))
  f_are_names : FunD K ("are_names" : PySem.Str) ("are_names" : PySem.Str) (defArgs st_are_names) (defBody st_are_names) (defScope st_are_names) [] [] (He.ga K ("are_names" : PySem.Str)) (fdOf K (He.ga K ("are_names" : PySem.Str)))
  f_is_key_tables : FunD K ("is_key" : PySem.Str) ("is_key" : PySem.Str) (defArgs st_is_key_tables) (defBody st_is_key_tables) (defScope st_is_key_tables) [] [] (He.ga K ("is_key_tables" : PySem.Str)) (fdOf K (He.ga K ("is_key_tables" : PySem.Str)))
  f_Table_init : FunD K ("__init__" : PySem.Str) ("Table.__init__" : PySem.Str) (defArgs st_Table_init) (defBody st_Table_init) (defScope st_Table_init) [V.ref (He.dflAt (("Table" : PySem.Str), some "__init__") 0 K), V.ref (He.dflAt (("Table" : PySem.Str), some "__init__") 1 K)] [] (He.ma K (He.ga K ("Table" : PySem.Str)) ("__init__" : PySem.Str)) (fdOf K (He.ma K (He.ga K ("Table" : PySem.Str)) ("__init__" : PySem.Str)))
  f_Table_columns : FunD K ("columns" : PySem.Str) ("Table.columns" : PySem.Str) (defArgs st_Table_columns) (defBody st_Table_columns) (defScope st_Table_columns) [] [] (prA K (He.ga K ("Table" : PySem.Str)) "columns") (fdOf K (prA K (He.ga K ("Table" : PySem.Str)) "columns"))
  f_fact_of : FunD K ("fact_of" : PySem.Str) ("fact_of" : PySem.Str) (defArgs st_fact_of) (defBody st_fact_of) (defScope st_fact_of) [] [] (He.ga K ("fact_of" : PySem.Str)) (fdOf K (He.ga K ("fact_of" : PySem.Str)))
  f_strict_in : FunD K ("strict_in" : PySem.Str) ("strict_in" : PySem.Str) (defArgs st_strict_in) (defBody st_strict_in) (defScope st_strict_in) [] [] (He.ga K ("strict_in" : PySem.Str)) (fdOf K (He.ga K ("strict_in" : PySem.Str)))
  f_chain_end : FunD K ("chain_end" : PySem.Str) ("chain_end" : PySem.Str) (defArgs st_chain_end) (defBody st_chain_end) (defScope st_chain_end) [] [] (He.ga K ("chain_end" : PySem.Str)) (fdOf K (He.ga K ("chain_end" : PySem.Str)))
  f_is_chain_clash : FunD K ("is_chain_clash" : PySem.Str) ("is_chain_clash" : PySem.Str) (defArgs st_is_chain_clash) (defBody st_is_chain_clash) (defScope st_is_chain_clash) [] [] (He.ga K ("is_chain_clash" : PySem.Str)) (fdOf K (He.ga K ("is_chain_clash" : PySem.Str)))
  f_is_clash : FunD K ("is_clash" : PySem.Str) ("is_clash" : PySem.Str) (defArgs st_is_clash) (defBody st_is_clash) (defScope st_is_clash) [] [] (He.ga K ("is_clash" : PySem.Str)) (fdOf K (He.ga K ("is_clash" : PySem.Str)))
  f_Scene_init : FunD K ("__init__" : PySem.Str) ("Scene.__init__" : PySem.Str) (defArgs st_Scene_init) (defBody st_Scene_init) (defScope st_Scene_init) [] [] (He.ma K (He.ga K ("Scene" : PySem.Str)) ("__init__" : PySem.Str)) (fdOf K (He.ma K (He.ga K ("Scene" : PySem.Str)) ("__init__" : PySem.Str)))
  f_Scene_entry : FunD K ("entry" : PySem.Str) ("Scene.entry" : PySem.Str) (defArgs st_Scene_entry) (defBody st_Scene_entry) (defScope st_Scene_entry) [] [] (He.ma K (He.ga K ("Scene" : PySem.Str)) ("entry" : PySem.Str)) (fdOf K (He.ma K (He.ga K ("Scene" : PySem.Str)) ("entry" : PySem.Str)))
  f_Scene_add_stranger : FunD K ("add_stranger" : PySem.Str) ("Scene.add_stranger" : PySem.Str) (defArgs st_Scene_add_stranger) (defBody st_Scene_add_stranger) (defScope st_Scene_add_stranger) [] [] (He.ma K (He.ga K ("Scene" : PySem.Str)) ("add_stranger" : PySem.Str)) (fdOf K (He.ma K (He.ga K ("Scene" : PySem.Str)) ("add_stranger" : PySem.Str)))
  f_Scene_facts_at : FunD K ("facts_at" : PySem.Str) ("Scene.facts_at" : PySem.Str) (defArgs st_Scene_facts_at) (defBody st_Scene_facts_at) (defScope st_Scene_facts_at) [] [] (He.ma K (He.ga K ("Scene" : PySem.Str)) ("facts_at" : PySem.Str)) (fdOf K (He.ma K (He.ga K ("Scene" : PySem.Str)) ("facts_at" : PySem.Str)))
  f_Scene_kept_at : FunD K ("kept_at" : PySem.Str) ("Scene.kept_at" : PySem.Str) (defArgs st_Scene_kept_at) (defBody st_Scene_kept_at) (defScope st_Scene_kept_at) [] [] (He.ma K (He.ga K ("Scene" : PySem.Str)) ("kept_at" : PySem.Str)) (fdOf K (He.ma K (He.ga K ("Scene" : PySem.Str)) ("kept_at" : PySem.Str)))
  f_is_plain : FunD K ("is_plain" : PySem.Str) ("is_plain" : PySem.Str) (defArgs st_is_plain) (defBody st_is_plain) (defScope st_is_plain) [] [] (He.ga K ("is_plain" : PySem.Str)) (fdOf K (He.ga K ("is_plain" : PySem.Str)))
  f_is_tree : FunD K ("is_tree" : PySem.Str) ("is_tree" : PySem.Str) (defArgs st_is_tree) (defBody st_is_tree) (defScope st_is_tree) [] [] (He.ga K ("is_tree" : PySem.Str)) (fdOf K (He.ga K ("is_tree" : PySem.Str)))
  f_Plan_init : FunD K ("__init__" : PySem.Str) ("Plan.__init__" : PySem.Str) (defArgs st_Plan_init) (defBody st_Plan_init) (defScope st_Plan_init) [] [] (He.ma K (He.ga K ("Plan" : PySem.Str)) ("__init__" : PySem.Str)) (fdOf K (He.ma K (He.ga K ("Plan" : PySem.Str)) ("__init__" : PySem.Str)))
  f_require : FunD K ("require" : PySem.Str) ("require" : PySem.Str) (defArgs st_require) (defBody st_require) (defScope st_require) [] [] (He.ga K ("require" : PySem.Str)) (fdOf K (He.ga K ("require" : PySem.Str)))
  f_table_with : FunD K ("table_with" : PySem.Str) ("table_with" : PySem.Str) (defArgs st_table_with) (defBody st_table_with) (defScope st_table_with) [] [] (He.ga K ("table_with" : PySem.Str)) (fdOf K (He.ga K ("table_with" : PySem.Str)))
  f_scope_of : FunD K ("scope_of" : PySem.Str) ("scope_of" : PySem.Str) (defArgs st_scope_of) (defBody st_scope_of) (defScope st_scope_of) [] [] (He.ga K ("scope_of" : PySem.Str)) (fdOf K (He.ga K ("scope_of" : PySem.Str)))
  f_column_of : FunD K ("column_of" : PySem.Str) ("column_of" : PySem.Str) (defArgs st_column_of) (defBody st_column_of) (defScope st_column_of) [] [] (He.ga K ("column_of" : PySem.Str)) (fdOf K (He.ga K ("column_of" : PySem.Str)))
  f_is_name_column : FunD K ("is_name_column" : PySem.Str) ("is_name_column" : PySem.Str) (defArgs st_is_name_column) (defBody st_is_name_column) (defScope st_is_name_column) [] [] (He.ga K ("is_name_column" : PySem.Str)) (fdOf K (He.ga K ("is_name_column" : PySem.Str)))
  f_name_operand : FunD K ("name_operand" : PySem.Str) ("name_operand" : PySem.Str) (defArgs st_name_operand) (defBody st_name_operand) (defScope st_name_operand) [] [] (He.ga K ("name_operand" : PySem.Str)) (fdOf K (He.ga K ("name_operand" : PySem.Str)))
  f_number_operand : FunD K ("number_operand" : PySem.Str) ("number_operand" : PySem.Str) (defArgs st_number_operand) (defBody st_number_operand) (defScope st_number_operand) [] [] (He.ga K ("number_operand" : PySem.Str)) (fdOf K (He.ga K ("number_operand" : PySem.Str)))
  f_condition_of : FunD K ("condition_of" : PySem.Str) ("condition_of" : PySem.Str) (defArgs st_condition_of) (defBody st_condition_of) (defScope st_condition_of) [] [] (He.ga K ("condition_of" : PySem.Str)) (fdOf K (He.ga K ("condition_of" : PySem.Str)))
  f_conditions_of : FunD K ("conditions_of" : PySem.Str) ("conditions_of" : PySem.Str) (defArgs st_conditions_of) (defBody st_conditions_of) (defScope st_conditions_of) [] [] (He.ga K ("conditions_of" : PySem.Str)) (fdOf K (He.ga K ("conditions_of" : PySem.Str)))
  f_plan_of : FunD K ("plan_of" : PySem.Str) ("plan_of" : PySem.Str) (defArgs st_plan_of) (defBody st_plan_of) (defScope st_plan_of) [] [] (He.ga K ("plan_of" : PySem.Str)) (fdOf K (He.ga K ("plan_of" : PySem.Str)))
  f_Question_fits : FunD K ("fits" : PySem.Str) ("Question.fits" : PySem.Str) (defArgs st_Question_fits) (defBody st_Question_fits) (defScope st_Question_fits) [] [] (He.ma K (He.ga K ("Select" : PySem.Str)) "fits") (fdOf K (He.ma K (He.ga K ("Select" : PySem.Str)) "fits"))
  f_Select_init : FunD K ("__init__" : PySem.Str) ("Select.__init__" : PySem.Str) (defArgs st_Select_init) (defBody st_Select_init) (defScope st_Select_init) [V.ref (He.dflAt (("Select" : PySem.Str), some "__init__") 0 K), V.ref (He.dflAt (("Select" : PySem.Str), some "__init__") 1 K)] [] (He.ma K (He.ga K ("Select" : PySem.Str)) ("__init__" : PySem.Str)) (fdOf K (He.ma K (He.ga K ("Select" : PySem.Str)) ("__init__" : PySem.Str)))
  f_Select_kept_columns : FunD K ("kept_columns" : PySem.Str) ("Select.kept_columns" : PySem.Str) (defArgs st_Select_kept_columns) (defBody st_Select_kept_columns) (defScope st_Select_kept_columns) [] [] (He.ma K (He.ga K ("Select" : PySem.Str)) ("kept_columns" : PySem.Str)) (fdOf K (He.ma K (He.ga K ("Select" : PySem.Str)) ("kept_columns" : PySem.Str)))
  f_Select_check : FunD K ("check" : PySem.Str) ("Select.check" : PySem.Str) (defArgs st_Select_check) (defBody st_Select_check) (defScope st_Select_check) [] [] (He.ma K (He.ga K ("Select" : PySem.Str)) ("check" : PySem.Str)) (fdOf K (He.ma K (He.ga K ("Select" : PySem.Str)) ("check" : PySem.Str)))
  f_check_select : FunD K ("check_select" : PySem.Str) ("check_select" : PySem.Str) (defArgs st_check_select) (defBody st_check_select) (defScope st_check_select) [] [] (He.ga K ("check_select" : PySem.Str)) (fdOf K (He.ga K ("check_select" : PySem.Str)))
  f_check_selects : FunD K ("check_selects" : PySem.Str) ("check_selects" : PySem.Str) (defArgs st_check_selects) (defBody st_check_selects) (defScope st_check_selects) [] [] (He.ga K ("check_selects" : PySem.Str)) (fdOf K (He.ga K ("check_selects" : PySem.Str)))
  f_pair_scene : FunD K ("pair_scene" : PySem.Str) ("pair_scene" : PySem.Str) (defArgs st_pair_scene) (defBody st_pair_scene) (defScope st_pair_scene) [] [] (He.ga K ("pair_scene" : PySem.Str)) (fdOf K (He.ga K ("pair_scene" : PySem.Str)))
  f_within_holds : FunD K ("within_holds" : PySem.Str) ("within_holds" : PySem.Str) (defArgs st_within_holds) (defBody st_within_holds) (defScope st_within_holds) [] [] (He.ga K ("within_holds" : PySem.Str)) (fdOf K (He.ga K ("within_holds" : PySem.Str)))
  f__law_deck : FunD K ("_law_deck" : PySem.Str) ("_law_deck" : PySem.Str) (defArgs st__law_deck) (defBody st__law_deck) (defScope st__law_deck) [] [] (He.ga K ("_law_deck" : PySem.Str)) (fdOf K (He.ga K ("_law_deck" : PySem.Str)))
  f__law_draw : FunD K ("_law_draw" : PySem.Str) ("_law_draw" : PySem.Str) (defArgs st__law_draw) (defBody st__law_draw) (defScope st__law_draw) [] [] (He.ga K ("_law_draw" : PySem.Str)) (fdOf K (He.ga K ("_law_draw" : PySem.Str)))
  f__law_pick : FunD K ("_law_pick" : PySem.Str) ("_law_pick" : PySem.Str) (defArgs st__law_pick) (defBody st__law_pick) (defScope st__law_pick) [] [] (He.ga K ("_law_pick" : PySem.Str)) (fdOf K (He.ga K ("_law_pick" : PySem.Str)))
  f__law_first : FunD K ("_law_first" : PySem.Str) ("_law_first" : PySem.Str) (defArgs st__law_first) (defBody st__law_first) (defScope st__law_first) [] [] (He.ga K ("_law_first" : PySem.Str)) (fdOf K (He.ga K ("_law_first" : PySem.Str)))
  f__law_facts : FunD K ("_law_facts" : PySem.Str) ("_law_facts" : PySem.Str) (defArgs st__law_facts) (defBody st__law_facts) (defScope st__law_facts) [] [] (He.ga K ("_law_facts" : PySem.Str)) (fdOf K (He.ga K ("_law_facts" : PySem.Str)))
  f__law_chains : FunD K ("_law_chains" : PySem.Str) ("_law_chains" : PySem.Str) (defArgs st__law_chains) (defBody st__law_chains) (defScope st__law_chains) [] [] (He.ga K ("_law_chains" : PySem.Str)) (fdOf K (He.ga K ("_law_chains" : PySem.Str)))
  f__law_is_plain : FunD K ("_law_is_plain" : PySem.Str) ("_law_is_plain" : PySem.Str) (defArgs st__law_is_plain) (defBody st__law_is_plain) (defScope st__law_is_plain) [] [] (He.ga K ("_law_is_plain" : PySem.Str)) (fdOf K (He.ga K ("_law_is_plain" : PySem.Str)))
  f__law_ends : FunD K ("_law_ends" : PySem.Str) ("_law_ends" : PySem.Str) (defArgs st__law_ends) (defBody st__law_ends) (defScope st__law_ends) [] [] (He.ga K ("_law_ends" : PySem.Str)) (fdOf K (He.ga K ("_law_ends" : PySem.Str)))
  f__law_is_constant : FunD K ("_law_is_constant" : PySem.Str) ("_law_is_constant" : PySem.Str) (defArgs st__law_is_constant) (defBody st__law_is_constant) (defScope st__law_is_constant) [] [] (He.ga K ("_law_is_constant" : PySem.Str)) (fdOf K (He.ga K ("_law_is_constant" : PySem.Str)))
  f__law_is_clash : FunD K ("_law_is_clash" : PySem.Str) ("_law_is_clash" : PySem.Str) (defArgs st__law_is_clash) (defBody st__law_is_clash) (defScope st__law_is_clash) [] [] (He.ga K ("_law_is_clash" : PySem.Str)) (fdOf K (He.ga K ("_law_is_clash" : PySem.Str)))
  f_law : FunD K ("law" : PySem.Str) ("law" : PySem.Str) (defArgs st_law) (defBody st_law) (defScope st_law) [] [] (He.ga K ("law" : PySem.Str)) (fdOf K (He.ga K ("law" : PySem.Str)))
  e_Table_0 : ∀ H, SqT K H (He.dflAt (("Table" : PySem.Str), some "__init__") 0 K) []
  e_Table_1 : ∀ H, SqT K H (He.dflAt (("Table" : PySem.Str), some "__init__") 1 K) []
  e_Select_0 : ∀ H, SqT K H (He.dflAt (("Select" : PySem.Str), some "__init__") 0 K) []
  e_Select_1 : ∀ H, SqT K H (He.dflAt (("Select" : PySem.Str), some "__init__") 1 K) []
theorem sc_is_integer : FnScope N_is_integer [("thing" : PySem.Str)] (defScope st_is_integer) := ⟨rfl, rfl, rfl, by decide +kernel, rfl, by decide +kernel, by decide +kernel⟩
theorem sc_is_name : FnScope N_is_name [("thing" : PySem.Str)] (defScope st_is_name) := ⟨rfl, rfl, rfl, by decide +kernel, rfl, by decide +kernel, by decide +kernel⟩
theorem sc_are_names : FnScope N_are_names [("thing" : PySem.Str)] (defScope st_are_names) := ⟨rfl, rfl, rfl, by decide +kernel, rfl, by decide +kernel, by decide +kernel⟩
theorem sc_is_key_tables : FnScope N_is_key_tables [("thing" : PySem.Str), ("columns" : PySem.Str)] (defScope st_is_key_tables) := ⟨rfl, rfl, rfl, by decide +kernel, rfl, by decide +kernel, by decide +kernel⟩
theorem sc_Table_init : FnScope N_Table_init [("self" : PySem.Str), ("name" : PySem.Str), ("names" : PySem.Str), ("numbers" : PySem.Str), ("key" : PySem.Str)] (defScope st_Table_init) := ⟨rfl, rfl, rfl, by decide +kernel, rfl, by decide +kernel, by decide +kernel⟩
theorem sc_Table_columns : FnScope N_Table_columns [("self" : PySem.Str)] (defScope st_Table_columns) := ⟨rfl, rfl, rfl, by decide +kernel, rfl, by decide +kernel, by decide +kernel⟩
theorem sc_fact_of : FnScope N_fact_of [("left" : PySem.Str), ("operator" : PySem.Str), ("right" : PySem.Str)] (defScope st_fact_of) := ⟨rfl, rfl, rfl, by decide +kernel, rfl, by decide +kernel, by decide +kernel⟩
theorem sc_strict_in : FnScope N_strict_in [("chain" : PySem.Str)] (defScope st_strict_in) := ⟨rfl, rfl, rfl, by decide +kernel, rfl, by decide +kernel, by decide +kernel⟩
theorem sc_chain_end : FnScope N_chain_end [("chain" : PySem.Str), ("start" : PySem.Str)] (defScope st_chain_end) := ⟨rfl, rfl, rfl, by decide +kernel, rfl, by decide +kernel, by decide +kernel⟩
theorem sc_is_chain_clash : FnScope N_is_chain_clash [("chain" : PySem.Str), ("start" : PySem.Str)] (defScope st_is_chain_clash) := ⟨rfl, rfl, rfl, by decide +kernel, rfl, by decide +kernel, by decide +kernel⟩
theorem sc_is_clash : FnScope N_is_clash [("thing" : PySem.Str), ("facts" : PySem.Str)] (defScope st_is_clash) := ⟨rfl, rfl, rfl, by decide +kernel, rfl, by decide +kernel, by decide +kernel⟩
theorem sc_Scene_init : FnScope N_Scene_init [("self" : PySem.Str), ("tables" : PySem.Str), ("plan" : PySem.Str), ("rows" : PySem.Str), ("kinds" : PySem.Str)] (defScope st_Scene_init) := ⟨rfl, rfl, rfl, by decide +kernel, rfl, by decide +kernel, by decide +kernel⟩
theorem sc_Scene_entry : FnScope N_Scene_entry [("self" : PySem.Str), ("called" : PySem.Str), ("column" : PySem.Str)] (defScope st_Scene_entry) := ⟨rfl, rfl, rfl, by decide +kernel, rfl, by decide +kernel, by decide +kernel⟩
theorem sc_Scene_add_stranger : FnScope N_Scene_add_stranger [("self" : PySem.Str), ("alias" : PySem.Str), ("name" : PySem.Str)] (defScope st_Scene_add_stranger) := ⟨rfl, rfl, rfl, by decide +kernel, rfl, by decide +kernel, by decide +kernel⟩
theorem sc_Scene_facts_at : FnScope N_Scene_facts_at [("self" : PySem.Str), ("plan" : PySem.Str), ("rows" : PySem.Str)] (defScope st_Scene_facts_at) := ⟨rfl, rfl, rfl, by decide +kernel, rfl, by decide +kernel, by decide +kernel⟩
theorem sc_Scene_kept_at : FnScope N_Scene_kept_at [("self" : PySem.Str), ("plan" : PySem.Str), ("rows" : PySem.Str)] (defScope st_Scene_kept_at) := ⟨rfl, rfl, rfl, by decide +kernel, rfl, by decide +kernel, by decide +kernel⟩
theorem sc_is_plain : FnScope N_is_plain [("thing" : PySem.Str)] (defScope st_is_plain) := ⟨rfl, rfl, rfl, by decide +kernel, rfl, by decide +kernel, by decide +kernel⟩
theorem sc_is_tree : FnScope N_is_tree [("scene" : PySem.Str), ("facts" : PySem.Str), ("tree" : PySem.Str)] (defScope st_is_tree) := ⟨rfl, rfl, rfl, by decide +kernel, rfl, by decide +kernel, by decide +kernel⟩
theorem sc_Plan_init : FnScope N_Plan_init [("self" : PySem.Str), ("names" : PySem.Str), ("conditions" : PySem.Str), ("withouts" : PySem.Str), ("kept" : PySem.Str), ("kinds" : PySem.Str)] (defScope st_Plan_init) := ⟨rfl, rfl, rfl, by decide +kernel, rfl, by decide +kernel, by decide +kernel⟩
theorem sc_require : FnScope N_require [("good" : PySem.Str)] (defScope st_require) := ⟨rfl, rfl, rfl, by decide +kernel, rfl, by decide +kernel, by decide +kernel⟩
theorem sc_table_with : FnScope N_table_with [("name" : PySem.Str), ("tables" : PySem.Str)] (defScope st_table_with) := ⟨rfl, rfl, rfl, by decide +kernel, rfl, by decide +kernel, by decide +kernel⟩
theorem sc_scope_of : FnScope N_scope_of [("uses" : PySem.Str), ("most" : PySem.Str), ("tables" : PySem.Str)] (defScope st_scope_of) := ⟨rfl, rfl, rfl, by decide +kernel, rfl, by decide +kernel, by decide +kernel⟩
theorem sc_column_of : FnScope N_column_of [("scope" : PySem.Str), ("thing" : PySem.Str)] (defScope st_column_of) := ⟨rfl, rfl, rfl, by decide +kernel, rfl, by decide +kernel, by decide +kernel⟩
theorem sc_is_name_column : FnScope N_is_name_column [("scope" : PySem.Str), ("column" : PySem.Str)] (defScope st_is_name_column) := ⟨rfl, rfl, rfl, by decide +kernel, rfl, by decide +kernel, by decide +kernel⟩
theorem sc_name_operand : FnScope N_name_operand [("scope" : PySem.Str), ("thing" : PySem.Str)] (defScope st_name_operand) := ⟨rfl, rfl, rfl, by decide +kernel, rfl, by decide +kernel, by decide +kernel⟩
theorem sc_number_operand : FnScope N_number_operand [("scope" : PySem.Str), ("left" : PySem.Str), ("thing" : PySem.Str)] (defScope st_number_operand) := ⟨rfl, rfl, rfl, by decide +kernel, rfl, by decide +kernel, by decide +kernel⟩
theorem sc_condition_of : FnScope N_condition_of [("scope" : PySem.Str), ("thing" : PySem.Str)] (defScope st_condition_of) := ⟨rfl, rfl, rfl, by decide +kernel, rfl, by decide +kernel, by decide +kernel⟩
theorem sc_conditions_of : FnScope N_conditions_of [("scope" : PySem.Str), ("things" : PySem.Str)] (defScope st_conditions_of) := ⟨rfl, rfl, rfl, by decide +kernel, rfl, by decide +kernel, by decide +kernel⟩
theorem sc_plan_of : FnScope N_plan_of [("question" : PySem.Str), ("tables" : PySem.Str)] (defScope st_plan_of) := ⟨rfl, rfl, rfl, by decide +kernel, rfl, by decide +kernel, by decide +kernel⟩
theorem sc_Question_fits : FnScope N_Question_fits [("self" : PySem.Str), ("tables" : PySem.Str)] (defScope st_Question_fits) := ⟨rfl, rfl, rfl, by decide +kernel, rfl, by decide +kernel, by decide +kernel⟩
theorem sc_Select_init : FnScope N_Select_init [("self" : PySem.Str), ("uses" : PySem.Str), ("keep" : PySem.Str), ("where" : PySem.Str), ("without" : PySem.Str)] (defScope st_Select_init) := ⟨rfl, rfl, rfl, by decide +kernel, rfl, by decide +kernel, by decide +kernel⟩
theorem sc_Select_kept_columns : FnScope N_Select_kept_columns [("self" : PySem.Str)] (defScope st_Select_kept_columns) := ⟨rfl, rfl, rfl, by decide +kernel, rfl, by decide +kernel, by decide +kernel⟩
theorem sc_Select_check : FnScope N_Select_check [("self" : PySem.Str), ("tables" : PySem.Str)] (defScope st_Select_check) := ⟨rfl, rfl, rfl, by decide +kernel, rfl, by decide +kernel, by decide +kernel⟩
theorem sc_check_select : FnScope N_check_select [("question" : PySem.Str), ("tables" : PySem.Str)] (defScope st_check_select) := ⟨rfl, rfl, rfl, by decide +kernel, rfl, by decide +kernel, by decide +kernel⟩
theorem sc_check_selects : FnScope N_check_selects [("first" : PySem.Str), ("second" : PySem.Str), ("tables" : PySem.Str)] (defScope st_check_selects) := ⟨rfl, rfl, rfl, by decide +kernel, rfl, by decide +kernel, by decide +kernel⟩
theorem sc_pair_scene : FnScope N_pair_scene [("first" : PySem.Str), ("second" : PySem.Str), ("tables" : PySem.Str)] (defScope st_pair_scene) := ⟨rfl, rfl, rfl, by decide +kernel, rfl, by decide +kernel, by decide +kernel⟩
theorem sc_within_holds : FnScope N_within_holds [("first" : PySem.Str), ("second" : PySem.Str), ("thing" : PySem.Str), ("tables" : PySem.Str)] (defScope st_within_holds) := ⟨rfl, rfl, rfl, by decide +kernel, rfl, by decide +kernel, by decide +kernel⟩
theorem sc__law_deck : FnScope N__law_deck [("_law_script" : PySem.Str)] (defScope st__law_deck) := ⟨rfl, rfl, rfl, by decide +kernel, rfl, by decide +kernel, by decide +kernel⟩
theorem sc__law_draw : FnScope N__law_draw [("_law_deck_here" : PySem.Str), ("_law_many" : PySem.Str)] (defScope st__law_draw) := ⟨rfl, rfl, rfl, by decide +kernel, rfl, by decide +kernel, by decide +kernel⟩
theorem sc__law_pick : FnScope N__law_pick [("_law_deck_here" : PySem.Str), ("_law_some" : PySem.Str)] (defScope st__law_pick) := ⟨rfl, rfl, rfl, by decide +kernel, rfl, by decide +kernel, by decide +kernel⟩
theorem sc__law_first : FnScope N__law_first [("_law_deck_here" : PySem.Str)] (defScope st__law_first) := ⟨rfl, rfl, rfl, by decide +kernel, rfl, by decide +kernel, by decide +kernel⟩
theorem sc__law_facts : FnScope N__law_facts [("_law_where" : PySem.Str)] (defScope st__law_facts) := ⟨rfl, rfl, rfl, by decide +kernel, rfl, by decide +kernel, by decide +kernel⟩
theorem sc__law_chains : FnScope N__law_chains [("_law_deck_here" : PySem.Str), ("_law_facts_here" : PySem.Str)] (defScope st__law_chains) := ⟨rfl, rfl, rfl, by decide +kernel, rfl, by decide +kernel, by decide +kernel⟩
theorem sc__law_is_plain : FnScope N__law_is_plain [("_law_it" : PySem.Str)] (defScope st__law_is_plain) := ⟨rfl, rfl, rfl, by decide +kernel, rfl, by decide +kernel, by decide +kernel⟩
theorem sc__law_ends : FnScope N__law_ends [("_law_chain" : PySem.Str)] (defScope st__law_ends) := ⟨rfl, rfl, rfl, by decide +kernel, rfl, by decide +kernel, by decide +kernel⟩
theorem sc__law_is_constant : FnScope N__law_is_constant [("_law_term" : PySem.Str)] (defScope st__law_is_constant) := ⟨rfl, rfl, rfl, by decide +kernel, rfl, by decide +kernel, by decide +kernel⟩
theorem sc__law_is_clash : FnScope N__law_is_clash [("_law_facts_here" : PySem.Str), ("_law_chain" : PySem.Str)] (defScope st__law_is_clash) := ⟨rfl, rfl, rfl, by decide +kernel, rfl, by decide +kernel, by decide +kernel⟩
theorem sc_law : FnScope N_law [("_law_script" : PySem.Str)] (defScope st_law) := ⟨rfl, rfl, rfl, by decide +kernel, rfl, by decide +kernel, by decide +kernel⟩
section
variable {K : PySem.W.Frag} {mg : PySem.Str → Option Value}
theorem Kn.k_is_integer (Z : Kn K mg) : PySem.W.keepIn K (.ref (He.ga K ("is_integer" : PySem.Str))) = true := Z.f_is_integer.kp
theorem Kn.b_is_integer (Z : Kn K mg) : Binds K (fdOf K (He.ga K ("is_integer" : PySem.Str))) [("thing" : PySem.Str)] [] := Z.f_is_integer.bindsN fun _ _ _ _ _ _ us hl => match us, hl with | [_], _ => rfl
theorem Kn.k_is_name (Z : Kn K mg) : PySem.W.keepIn K (.ref (He.ga K ("is_name" : PySem.Str))) = true := Z.f_is_name.kp
theorem Kn.b_is_name (Z : Kn K mg) : Binds K (fdOf K (He.ga K ("is_name" : PySem.Str))) [("thing" : PySem.Str)] [] := Z.f_is_name.bindsN fun _ _ _ _ _ _ us hl => match us, hl with | [_], _ => rfl
theorem Kn.k_are_names (Z : Kn K mg) : PySem.W.keepIn K (.ref (He.ga K ("are_names" : PySem.Str))) = true := Z.f_are_names.kp
theorem Kn.b_are_names (Z : Kn K mg) : Binds K (fdOf K (He.ga K ("are_names" : PySem.Str))) [("thing" : PySem.Str)] [] := Z.f_are_names.bindsN fun _ _ _ _ _ _ us hl => match us, hl with | [_], _ => rfl
theorem Kn.k_is_key_tables (Z : Kn K mg) : PySem.W.keepIn K (.ref (He.ga K ("is_key_tables" : PySem.Str))) = true := Z.f_is_key_tables.kp
theorem Kn.b_is_key_tables (Z : Kn K mg) : Binds K (fdOf K (He.ga K ("is_key_tables" : PySem.Str))) [("thing" : PySem.Str), ("columns" : PySem.Str)] [] := Z.f_is_key_tables.bindsN fun _ _ _ _ _ _ us hl => match us, hl with | [_, _], _ => rfl
theorem Kn.k_Table_init (Z : Kn K mg) : PySem.W.keepIn K (.ref (He.ma K (He.ga K ("Table" : PySem.Str)) ("__init__" : PySem.Str))) = true := Z.f_Table_init.kp
theorem Kn.k_Table_columns (Z : Kn K mg) : PySem.W.keepIn K (.ref (prA K (He.ga K ("Table" : PySem.Str)) "columns")) = true := Z.f_Table_columns.kp
theorem Kn.b_Table_columns (Z : Kn K mg) : Binds K (fdOf K (prA K (He.ga K ("Table" : PySem.Str)) "columns")) [("self" : PySem.Str)] [] := Z.f_Table_columns.bindsN fun _ _ _ _ _ _ us hl => match us, hl with | [_], _ => rfl
theorem Kn.k_fact_of (Z : Kn K mg) : PySem.W.keepIn K (.ref (He.ga K ("fact_of" : PySem.Str))) = true := Z.f_fact_of.kp
theorem Kn.b_fact_of (Z : Kn K mg) : Binds K (fdOf K (He.ga K ("fact_of" : PySem.Str))) [("left" : PySem.Str), ("operator" : PySem.Str), ("right" : PySem.Str)] [] := Z.f_fact_of.bindsN fun _ _ _ _ _ _ us hl => match us, hl with | [_, _, _], _ => rfl
theorem Kn.k_strict_in (Z : Kn K mg) : PySem.W.keepIn K (.ref (He.ga K ("strict_in" : PySem.Str))) = true := Z.f_strict_in.kp
theorem Kn.b_strict_in (Z : Kn K mg) : Binds K (fdOf K (He.ga K ("strict_in" : PySem.Str))) [("chain" : PySem.Str)] [] := Z.f_strict_in.bindsN fun _ _ _ _ _ _ us hl => match us, hl with | [_], _ => rfl
theorem Kn.k_chain_end (Z : Kn K mg) : PySem.W.keepIn K (.ref (He.ga K ("chain_end" : PySem.Str))) = true := Z.f_chain_end.kp
theorem Kn.b_chain_end (Z : Kn K mg) : Binds K (fdOf K (He.ga K ("chain_end" : PySem.Str))) [("chain" : PySem.Str), ("start" : PySem.Str)] [] := Z.f_chain_end.bindsN fun _ _ _ _ _ _ us hl => match us, hl with | [_, _], _ => rfl
theorem Kn.k_is_chain_clash (Z : Kn K mg) : PySem.W.keepIn K (.ref (He.ga K ("is_chain_clash" : PySem.Str))) = true := Z.f_is_chain_clash.kp
theorem Kn.b_is_chain_clash (Z : Kn K mg) : Binds K (fdOf K (He.ga K ("is_chain_clash" : PySem.Str))) [("chain" : PySem.Str), ("start" : PySem.Str)] [] := Z.f_is_chain_clash.bindsN fun _ _ _ _ _ _ us hl => match us, hl with | [_, _], _ => rfl
theorem Kn.k_is_clash (Z : Kn K mg) : PySem.W.keepIn K (.ref (He.ga K ("is_clash" : PySem.Str))) = true := Z.f_is_clash.kp
theorem Kn.b_is_clash (Z : Kn K mg) : Binds K (fdOf K (He.ga K ("is_clash" : PySem.Str))) [("thing" : PySem.Str), ("facts" : PySem.Str)] [] := Z.f_is_clash.bindsN fun _ _ _ _ _ _ us hl => match us, hl with | [_, _], _ => rfl
theorem Kn.k_Scene_init (Z : Kn K mg) : PySem.W.keepIn K (.ref (He.ma K (He.ga K ("Scene" : PySem.Str)) ("__init__" : PySem.Str))) = true := Z.f_Scene_init.kp
theorem Kn.b_Scene_init (Z : Kn K mg) : Binds K (fdOf K (He.ma K (He.ga K ("Scene" : PySem.Str)) ("__init__" : PySem.Str))) [("self" : PySem.Str), ("tables" : PySem.Str), ("plan" : PySem.Str), ("rows" : PySem.Str), ("kinds" : PySem.Str)] [] := Z.f_Scene_init.bindsN fun _ _ _ _ _ _ us hl => match us, hl with | [_, _, _, _, _], _ => rfl
theorem Kn.k_Scene_entry (Z : Kn K mg) : PySem.W.keepIn K (.ref (He.ma K (He.ga K ("Scene" : PySem.Str)) ("entry" : PySem.Str))) = true := Z.f_Scene_entry.kp
theorem Kn.b_Scene_entry (Z : Kn K mg) : Binds K (fdOf K (He.ma K (He.ga K ("Scene" : PySem.Str)) ("entry" : PySem.Str))) [("self" : PySem.Str), ("called" : PySem.Str), ("column" : PySem.Str)] [] := Z.f_Scene_entry.bindsN fun _ _ _ _ _ _ us hl => match us, hl with | [_, _, _], _ => rfl
theorem Kn.k_Scene_add_stranger (Z : Kn K mg) : PySem.W.keepIn K (.ref (He.ma K (He.ga K ("Scene" : PySem.Str)) ("add_stranger" : PySem.Str))) = true := Z.f_Scene_add_stranger.kp
theorem Kn.b_Scene_add_stranger (Z : Kn K mg) : Binds K (fdOf K (He.ma K (He.ga K ("Scene" : PySem.Str)) ("add_stranger" : PySem.Str))) [("self" : PySem.Str), ("alias" : PySem.Str), ("name" : PySem.Str)] [] := Z.f_Scene_add_stranger.bindsN fun _ _ _ _ _ _ us hl => match us, hl with | [_, _, _], _ => rfl
theorem Kn.k_Scene_facts_at (Z : Kn K mg) : PySem.W.keepIn K (.ref (He.ma K (He.ga K ("Scene" : PySem.Str)) ("facts_at" : PySem.Str))) = true := Z.f_Scene_facts_at.kp
theorem Kn.b_Scene_facts_at (Z : Kn K mg) : Binds K (fdOf K (He.ma K (He.ga K ("Scene" : PySem.Str)) ("facts_at" : PySem.Str))) [("self" : PySem.Str), ("plan" : PySem.Str), ("rows" : PySem.Str)] [] := Z.f_Scene_facts_at.bindsN fun _ _ _ _ _ _ us hl => match us, hl with | [_, _, _], _ => rfl
theorem Kn.k_Scene_kept_at (Z : Kn K mg) : PySem.W.keepIn K (.ref (He.ma K (He.ga K ("Scene" : PySem.Str)) ("kept_at" : PySem.Str))) = true := Z.f_Scene_kept_at.kp
theorem Kn.b_Scene_kept_at (Z : Kn K mg) : Binds K (fdOf K (He.ma K (He.ga K ("Scene" : PySem.Str)) ("kept_at" : PySem.Str))) [("self" : PySem.Str), ("plan" : PySem.Str), ("rows" : PySem.Str)] [] := Z.f_Scene_kept_at.bindsN fun _ _ _ _ _ _ us hl => match us, hl with | [_, _, _], _ => rfl
theorem Kn.k_is_plain (Z : Kn K mg) : PySem.W.keepIn K (.ref (He.ga K ("is_plain" : PySem.Str))) = true := Z.f_is_plain.kp
theorem Kn.b_is_plain (Z : Kn K mg) : Binds K (fdOf K (He.ga K ("is_plain" : PySem.Str))) [("thing" : PySem.Str)] [] := Z.f_is_plain.bindsN fun _ _ _ _ _ _ us hl => match us, hl with | [_], _ => rfl
theorem Kn.k_is_tree (Z : Kn K mg) : PySem.W.keepIn K (.ref (He.ga K ("is_tree" : PySem.Str))) = true := Z.f_is_tree.kp
theorem Kn.b_is_tree (Z : Kn K mg) : Binds K (fdOf K (He.ga K ("is_tree" : PySem.Str))) [("scene" : PySem.Str), ("facts" : PySem.Str), ("tree" : PySem.Str)] [] := Z.f_is_tree.bindsN fun _ _ _ _ _ _ us hl => match us, hl with | [_, _, _], _ => rfl
theorem Kn.k_Plan_init (Z : Kn K mg) : PySem.W.keepIn K (.ref (He.ma K (He.ga K ("Plan" : PySem.Str)) ("__init__" : PySem.Str))) = true := Z.f_Plan_init.kp
theorem Kn.b_Plan_init (Z : Kn K mg) : Binds K (fdOf K (He.ma K (He.ga K ("Plan" : PySem.Str)) ("__init__" : PySem.Str))) [("self" : PySem.Str), ("names" : PySem.Str), ("conditions" : PySem.Str), ("withouts" : PySem.Str), ("kept" : PySem.Str), ("kinds" : PySem.Str)] [] := Z.f_Plan_init.bindsN fun _ _ _ _ _ _ us hl => match us, hl with | [_, _, _, _, _, _], _ => rfl
theorem Kn.k_require (Z : Kn K mg) : PySem.W.keepIn K (.ref (He.ga K ("require" : PySem.Str))) = true := Z.f_require.kp
theorem Kn.b_require (Z : Kn K mg) : Binds K (fdOf K (He.ga K ("require" : PySem.Str))) [("good" : PySem.Str)] [] := Z.f_require.bindsN fun _ _ _ _ _ _ us hl => match us, hl with | [_], _ => rfl
theorem Kn.k_table_with (Z : Kn K mg) : PySem.W.keepIn K (.ref (He.ga K ("table_with" : PySem.Str))) = true := Z.f_table_with.kp
theorem Kn.b_table_with (Z : Kn K mg) : Binds K (fdOf K (He.ga K ("table_with" : PySem.Str))) [("name" : PySem.Str), ("tables" : PySem.Str)] [] := Z.f_table_with.bindsN fun _ _ _ _ _ _ us hl => match us, hl with | [_, _], _ => rfl
theorem Kn.k_scope_of (Z : Kn K mg) : PySem.W.keepIn K (.ref (He.ga K ("scope_of" : PySem.Str))) = true := Z.f_scope_of.kp
theorem Kn.b_scope_of (Z : Kn K mg) : Binds K (fdOf K (He.ga K ("scope_of" : PySem.Str))) [("uses" : PySem.Str), ("most" : PySem.Str), ("tables" : PySem.Str)] [] := Z.f_scope_of.bindsN fun _ _ _ _ _ _ us hl => match us, hl with | [_, _, _], _ => rfl
theorem Kn.k_column_of (Z : Kn K mg) : PySem.W.keepIn K (.ref (He.ga K ("column_of" : PySem.Str))) = true := Z.f_column_of.kp
theorem Kn.b_column_of (Z : Kn K mg) : Binds K (fdOf K (He.ga K ("column_of" : PySem.Str))) [("scope" : PySem.Str), ("thing" : PySem.Str)] [] := Z.f_column_of.bindsN fun _ _ _ _ _ _ us hl => match us, hl with | [_, _], _ => rfl
theorem Kn.k_is_name_column (Z : Kn K mg) : PySem.W.keepIn K (.ref (He.ga K ("is_name_column" : PySem.Str))) = true := Z.f_is_name_column.kp
theorem Kn.b_is_name_column (Z : Kn K mg) : Binds K (fdOf K (He.ga K ("is_name_column" : PySem.Str))) [("scope" : PySem.Str), ("column" : PySem.Str)] [] := Z.f_is_name_column.bindsN fun _ _ _ _ _ _ us hl => match us, hl with | [_, _], _ => rfl
theorem Kn.k_name_operand (Z : Kn K mg) : PySem.W.keepIn K (.ref (He.ga K ("name_operand" : PySem.Str))) = true := Z.f_name_operand.kp
theorem Kn.b_name_operand (Z : Kn K mg) : Binds K (fdOf K (He.ga K ("name_operand" : PySem.Str))) [("scope" : PySem.Str), ("thing" : PySem.Str)] [] := Z.f_name_operand.bindsN fun _ _ _ _ _ _ us hl => match us, hl with | [_, _], _ => rfl
theorem Kn.k_number_operand (Z : Kn K mg) : PySem.W.keepIn K (.ref (He.ga K ("number_operand" : PySem.Str))) = true := Z.f_number_operand.kp
theorem Kn.b_number_operand (Z : Kn K mg) : Binds K (fdOf K (He.ga K ("number_operand" : PySem.Str))) [("scope" : PySem.Str), ("left" : PySem.Str), ("thing" : PySem.Str)] [] := Z.f_number_operand.bindsN fun _ _ _ _ _ _ us hl => match us, hl with | [_, _, _], _ => rfl
theorem Kn.k_condition_of (Z : Kn K mg) : PySem.W.keepIn K (.ref (He.ga K ("condition_of" : PySem.Str))) = true := Z.f_condition_of.kp
theorem Kn.b_condition_of (Z : Kn K mg) : Binds K (fdOf K (He.ga K ("condition_of" : PySem.Str))) [("scope" : PySem.Str), ("thing" : PySem.Str)] [] := Z.f_condition_of.bindsN fun _ _ _ _ _ _ us hl => match us, hl with | [_, _], _ => rfl
theorem Kn.k_conditions_of (Z : Kn K mg) : PySem.W.keepIn K (.ref (He.ga K ("conditions_of" : PySem.Str))) = true := Z.f_conditions_of.kp
theorem Kn.b_conditions_of (Z : Kn K mg) : Binds K (fdOf K (He.ga K ("conditions_of" : PySem.Str))) [("scope" : PySem.Str), ("things" : PySem.Str)] [] := Z.f_conditions_of.bindsN fun _ _ _ _ _ _ us hl => match us, hl with | [_, _], _ => rfl
theorem Kn.k_plan_of (Z : Kn K mg) : PySem.W.keepIn K (.ref (He.ga K ("plan_of" : PySem.Str))) = true := Z.f_plan_of.kp
theorem Kn.b_plan_of (Z : Kn K mg) : Binds K (fdOf K (He.ga K ("plan_of" : PySem.Str))) [("question" : PySem.Str), ("tables" : PySem.Str)] [] := Z.f_plan_of.bindsN fun _ _ _ _ _ _ us hl => match us, hl with | [_, _], _ => rfl
theorem Kn.k_Question_fits (Z : Kn K mg) : PySem.W.keepIn K (.ref (He.ma K (He.ga K ("Select" : PySem.Str)) "fits")) = true := Z.f_Question_fits.kp
theorem Kn.k_Select_init (Z : Kn K mg) : PySem.W.keepIn K (.ref (He.ma K (He.ga K ("Select" : PySem.Str)) ("__init__" : PySem.Str))) = true := Z.f_Select_init.kp
theorem Kn.k_Select_kept_columns (Z : Kn K mg) : PySem.W.keepIn K (.ref (He.ma K (He.ga K ("Select" : PySem.Str)) ("kept_columns" : PySem.Str))) = true := Z.f_Select_kept_columns.kp
theorem Kn.b_Select_kept_columns (Z : Kn K mg) : Binds K (fdOf K (He.ma K (He.ga K ("Select" : PySem.Str)) ("kept_columns" : PySem.Str))) [("self" : PySem.Str)] [] := Z.f_Select_kept_columns.bindsN fun _ _ _ _ _ _ us hl => match us, hl with | [_], _ => rfl
theorem Kn.k_Select_check (Z : Kn K mg) : PySem.W.keepIn K (.ref (He.ma K (He.ga K ("Select" : PySem.Str)) ("check" : PySem.Str))) = true := Z.f_Select_check.kp
theorem Kn.k_check_select (Z : Kn K mg) : PySem.W.keepIn K (.ref (He.ga K ("check_select" : PySem.Str))) = true := Z.f_check_select.kp
theorem Kn.b_check_select (Z : Kn K mg) : Binds K (fdOf K (He.ga K ("check_select" : PySem.Str))) [("question" : PySem.Str), ("tables" : PySem.Str)] [] := Z.f_check_select.bindsN fun _ _ _ _ _ _ us hl => match us, hl with | [_, _], _ => rfl
theorem Kn.k_check_selects (Z : Kn K mg) : PySem.W.keepIn K (.ref (He.ga K ("check_selects" : PySem.Str))) = true := Z.f_check_selects.kp
theorem Kn.b_check_selects (Z : Kn K mg) : Binds K (fdOf K (He.ga K ("check_selects" : PySem.Str))) [("first" : PySem.Str), ("second" : PySem.Str), ("tables" : PySem.Str)] [] := Z.f_check_selects.bindsN fun _ _ _ _ _ _ us hl => match us, hl with | [_, _, _], _ => rfl
theorem Kn.k_pair_scene (Z : Kn K mg) : PySem.W.keepIn K (.ref (He.ga K ("pair_scene" : PySem.Str))) = true := Z.f_pair_scene.kp
theorem Kn.b_pair_scene (Z : Kn K mg) : Binds K (fdOf K (He.ga K ("pair_scene" : PySem.Str))) [("first" : PySem.Str), ("second" : PySem.Str), ("tables" : PySem.Str)] [] := Z.f_pair_scene.bindsN fun _ _ _ _ _ _ us hl => match us, hl with | [_, _, _], _ => rfl
theorem Kn.k_within_holds (Z : Kn K mg) : PySem.W.keepIn K (.ref (He.ga K ("within_holds" : PySem.Str))) = true := Z.f_within_holds.kp
theorem Kn.k__law_deck (Z : Kn K mg) : PySem.W.keepIn K (.ref (He.ga K ("_law_deck" : PySem.Str))) = true := Z.f__law_deck.kp
theorem Kn.b__law_deck (Z : Kn K mg) : Binds K (fdOf K (He.ga K ("_law_deck" : PySem.Str))) [("_law_script" : PySem.Str)] [] := Z.f__law_deck.bindsN fun _ _ _ _ _ _ us hl => match us, hl with | [_], _ => rfl
theorem Kn.k__law_draw (Z : Kn K mg) : PySem.W.keepIn K (.ref (He.ga K ("_law_draw" : PySem.Str))) = true := Z.f__law_draw.kp
theorem Kn.b__law_draw (Z : Kn K mg) : Binds K (fdOf K (He.ga K ("_law_draw" : PySem.Str))) [("_law_deck_here" : PySem.Str), ("_law_many" : PySem.Str)] [] := Z.f__law_draw.bindsN fun _ _ _ _ _ _ us hl => match us, hl with | [_, _], _ => rfl
theorem Kn.k__law_pick (Z : Kn K mg) : PySem.W.keepIn K (.ref (He.ga K ("_law_pick" : PySem.Str))) = true := Z.f__law_pick.kp
theorem Kn.b__law_pick (Z : Kn K mg) : Binds K (fdOf K (He.ga K ("_law_pick" : PySem.Str))) [("_law_deck_here" : PySem.Str), ("_law_some" : PySem.Str)] [] := Z.f__law_pick.bindsN fun _ _ _ _ _ _ us hl => match us, hl with | [_, _], _ => rfl
theorem Kn.k__law_first (Z : Kn K mg) : PySem.W.keepIn K (.ref (He.ga K ("_law_first" : PySem.Str))) = true := Z.f__law_first.kp
theorem Kn.b__law_first (Z : Kn K mg) : Binds K (fdOf K (He.ga K ("_law_first" : PySem.Str))) [("_law_deck_here" : PySem.Str)] [] := Z.f__law_first.bindsN fun _ _ _ _ _ _ us hl => match us, hl with | [_], _ => rfl
theorem Kn.k__law_facts (Z : Kn K mg) : PySem.W.keepIn K (.ref (He.ga K ("_law_facts" : PySem.Str))) = true := Z.f__law_facts.kp
theorem Kn.b__law_facts (Z : Kn K mg) : Binds K (fdOf K (He.ga K ("_law_facts" : PySem.Str))) [("_law_where" : PySem.Str)] [] := Z.f__law_facts.bindsN fun _ _ _ _ _ _ us hl => match us, hl with | [_], _ => rfl
theorem Kn.k__law_chains (Z : Kn K mg) : PySem.W.keepIn K (.ref (He.ga K ("_law_chains" : PySem.Str))) = true := Z.f__law_chains.kp
theorem Kn.b__law_chains (Z : Kn K mg) : Binds K (fdOf K (He.ga K ("_law_chains" : PySem.Str))) [("_law_deck_here" : PySem.Str), ("_law_facts_here" : PySem.Str)] [] := Z.f__law_chains.bindsN fun _ _ _ _ _ _ us hl => match us, hl with | [_, _], _ => rfl
theorem Kn.k__law_is_plain (Z : Kn K mg) : PySem.W.keepIn K (.ref (He.ga K ("_law_is_plain" : PySem.Str))) = true := Z.f__law_is_plain.kp
theorem Kn.b__law_is_plain (Z : Kn K mg) : Binds K (fdOf K (He.ga K ("_law_is_plain" : PySem.Str))) [("_law_it" : PySem.Str)] [] := Z.f__law_is_plain.bindsN fun _ _ _ _ _ _ us hl => match us, hl with | [_], _ => rfl
theorem Kn.k__law_ends (Z : Kn K mg) : PySem.W.keepIn K (.ref (He.ga K ("_law_ends" : PySem.Str))) = true := Z.f__law_ends.kp
theorem Kn.b__law_ends (Z : Kn K mg) : Binds K (fdOf K (He.ga K ("_law_ends" : PySem.Str))) [("_law_chain" : PySem.Str)] [] := Z.f__law_ends.bindsN fun _ _ _ _ _ _ us hl => match us, hl with | [_], _ => rfl
theorem Kn.k__law_is_constant (Z : Kn K mg) : PySem.W.keepIn K (.ref (He.ga K ("_law_is_constant" : PySem.Str))) = true := Z.f__law_is_constant.kp
theorem Kn.b__law_is_constant (Z : Kn K mg) : Binds K (fdOf K (He.ga K ("_law_is_constant" : PySem.Str))) [("_law_term" : PySem.Str)] [] := Z.f__law_is_constant.bindsN fun _ _ _ _ _ _ us hl => match us, hl with | [_], _ => rfl
theorem Kn.k__law_is_clash (Z : Kn K mg) : PySem.W.keepIn K (.ref (He.ga K ("_law_is_clash" : PySem.Str))) = true := Z.f__law_is_clash.kp
theorem Kn.b__law_is_clash (Z : Kn K mg) : Binds K (fdOf K (He.ga K ("_law_is_clash" : PySem.Str))) [("_law_facts_here" : PySem.Str), ("_law_chain" : PySem.Str)] [] := Z.f__law_is_clash.bindsN fun _ _ _ _ _ _ us hl => match us, hl with | [_, _], _ => rfl
theorem Kn.k_law (Z : Kn K mg) : PySem.W.keepIn K (.ref (He.ga K ("law" : PySem.Str))) = true := Z.f_law.kp
theorem Kn.b_law (Z : Kn K mg) : Binds K (fdOf K (He.ga K ("law" : PySem.Str))) [("_law_script" : PySem.Str)] [] := Z.f_law.bindsN fun _ _ _ _ _ _ us hl => match us, hl with | [_], _ => rfl
theorem Kn.b_Table_init_3 (Z : Kn K mg) : ∃ ds0, Vals [V.ref (He.dflAt (("Table" : PySem.Str), some "__init__") 1 K)] ds0 ∧ Binds K (fdOf K (He.ma K (He.ga K ("Table" : PySem.Str)) ("__init__" : PySem.Str))) [("self" : PySem.Str), ("name" : PySem.Str), ("names" : PySem.Str), ("numbers" : PySem.Str), ("key" : PySem.Str)] ds0 := Z.f_Table_init.binds1 4 1 (by simp) (by rfl) fun _ _ _ _ _ _ _ us its h1 h2 => match us, its, h1, h2 with | [_, _, _, _], [_, _], _, _ => ⟨_, rfl, rfl⟩
theorem Kn.d_Table_3 (Z : Kn K mg) : DDs K [D.tup []] [V.ref (He.dflAt (("Table" : PySem.Str), some "__init__") 1 K)] := (dds_tup0 Z.e_Table_1 dds_nil)
theorem Kn.b_Table_init_4 (Z : Kn K mg) : ∃ ds0, Vals [] ds0 ∧ Binds K (fdOf K (He.ma K (He.ga K ("Table" : PySem.Str)) ("__init__" : PySem.Str))) [("self" : PySem.Str), ("name" : PySem.Str), ("names" : PySem.Str), ("numbers" : PySem.Str), ("key" : PySem.Str)] ds0 := Z.f_Table_init.binds1 5 2 (by simp) (by rfl) fun _ _ _ _ _ _ _ us its h1 h2 => match us, its, h1, h2 with | [_, _, _, _, _], [_, _], _, _ => ⟨_, rfl, rfl⟩
theorem Kn.d_Table_4 (Z : Kn K mg) : DDs K [] [] := dds_nil
theorem Kn.b_Select_init_3 (Z : Kn K mg) : ∃ ds0, Vals [V.ref (He.dflAt (("Select" : PySem.Str), some "__init__") 1 K)] ds0 ∧ Binds K (fdOf K (He.ma K (He.ga K ("Select" : PySem.Str)) ("__init__" : PySem.Str))) [("self" : PySem.Str), ("uses" : PySem.Str), ("keep" : PySem.Str), ("where" : PySem.Str), ("without" : PySem.Str)] ds0 := Z.f_Select_init.binds1 4 1 (by simp) (by rfl) fun _ _ _ _ _ _ _ us its h1 h2 => match us, its, h1, h2 with | [_, _, _, _], [_, _], _, _ => ⟨_, rfl, rfl⟩
theorem Kn.d_Select_3 (Z : Kn K mg) : DDs K [D.tup []] [V.ref (He.dflAt (("Select" : PySem.Str), some "__init__") 1 K)] := (dds_tup0 Z.e_Select_1 dds_nil)
end
end K69

namespace K69
open PySem PySem.Spec PyProof.Rows L2 TL
def hasG (K : PySem.W.Frag) (p : Addr) : Bool := match PySem.W.recIn K p "property" with
  | some (.ref _ :: _) => true
  | _ => false
theorem hasG_ok {K : PySem.W.Frag} {C : Addr} {f : PySem.Str} (h : hasG K (He.ma K C f) = true) : ∃ rest, PySem.W.recIn K (He.ma K C f) "property" = some (.ref (prA K C f) :: rest) := by
  unfold hasG at h
  unfold prA
  split at h
  · rename_i g rest e
    rw [e]
    exact ⟨rest, rfl⟩
  · cases h
def tup0 (K : PySem.W.Frag) (a : Addr) : Bool := match K.lookup a with
  | some ⟨.type c, _, .seq its _, _⟩ => decide (c = "tuple") && its.isEmpty
  | _ => false
theorem tup0_ok {K : PySem.W.Frag} {a : Addr} (h : tup0 K a = true) (H : Hp) : SqT K H a [] := by
  unfold tup0 at h
  split at h
  · rename_i c d its n sl e
    rw [Bool.and_eq_true] at h
    have ec := of_decide_eq_true h.1
    have ei := Array.isEmpty_iff.mp h.2
    subst ec ei
    exact .inr ⟨_, _, n, e, rfl, rfl, Nat.zero_le _, .nil⟩
  · cases h
/-- a def at any address: what the text says of it -/
def fnP (K : PySem.W.Frag) (a : Addr) : He.FnW := match K.lookup a with
  | some ⟨_, _, .func z, _⟩ => some (z.name, z.qualname, z.params, z.body, z.scope, z.globals, z.closure, z.builtins)
  | _ => none
def okP (K : PySem.W.Frag) (a : Addr) (qn : PySem.Str) : Bool := match K.lookup a with
  | some ⟨_, _, .func z, _⟩ => PySem.W.keepIn K (.ref a) && (PySem.W.codeIn K z.code qn && (He.dflB K z.defaults [] && He.kwdB K z.kwdefaults []))
  | _ => false
theorem funD_at {K : PySem.W.Frag} {a : Addr} {x qn : PySem.Str} {ps : Arguments} {b : List Stmt} {sc : Scope} (e : fnP K a = some (x, qn, ps, .stmts b, sc, mainGlobals, [], builtinsNs)) (h : okP K a qn = true) : FunD K x qn ps b sc [] [] a (fdOf K a) := by
  refine fdOf_of ?_
  unfold fnP at e
  unfold okP at h
  split at e
  · rename_i oc od z sl el
    rw [el] at h
    have h : (PySem.W.keepIn K (.ref a) && (PySem.W.codeIn K z.code qn && (He.dflB K z.defaults [] && He.kwdB K z.kwdefaults []))) = true := h
    rw [Bool.and_eq_true, Bool.and_eq_true, Bool.and_eq_true] at h
    obtain ⟨w1, w2, w3, w4, w5, w6, w7, w8, w9, w10, w11, w12, w13, w14, w15⟩ := z
    simp only [Option.some.injEq, Prod.mk.injEq] at e
    obtain ⟨rfl, rfl, rfl, rfl, rfl, rfl, rfl, rfl⟩ := e
    exact ⟨_, ⟨oc, od, w8, w9, w10, w11, w12, w13, w14, sl, rfl, el, h.2.1, He.dflB_ok h.2.2.1, He.kwdB_ok h.2.2.2⟩, h.1⟩
  · cases e
def hfa0 : List He.Fa := [.meth ("Select" : PySem.Str) ("check" : PySem.Str), .meth ("Select" : PySem.Str) ("fits" : PySem.Str), .cls ("Plan" : PySem.Str), .cls ("Scene" : PySem.Str), .cls ("Select" : PySem.Str), .cls ("Table" : PySem.Str), .glo ("InvalidQuestion" : PySem.Str), .str ("LETTERS" : PySem.Str) ("abcdefghijklmnopqrstuvwxyz" : PySem.Str), .int ("MOST_COLUMNS" : PySem.Str) 2, .int ("MOST_KEPT" : PySem.Str) 4, .int ("MOST_LETTERS" : PySem.Str) 8, .int ("MOST_PARTS" : PySem.Str) 6, .int ("MOST_USES_resolving" : PySem.Str) 3, .int ("MOST_USES_shapes" : PySem.Str) 2, .int ("MOST_WITHOUTS" : PySem.Str) 2, .glo ("NAME_OPERATORS" : PySem.Str), .glo ("NUMBER_OPERATORS" : PySem.Str), .glo ("Plan" : PySem.Str), .glo ("Scene" : PySem.Str), .glo ("Select" : PySem.Str)]
def hfa1 : List He.Fa := [.glo ("Table" : PySem.Str), .glo ("_law_chains" : PySem.Str), .glo ("_law_deck" : PySem.Str), .glo ("_law_draw" : PySem.Str), .glo ("_law_ends" : PySem.Str), .glo ("_law_facts" : PySem.Str), .glo ("_law_first" : PySem.Str), .glo ("_law_is_clash" : PySem.Str), .glo ("_law_is_constant" : PySem.Str), .glo ("_law_is_plain" : PySem.Str), .glo ("_law_pick" : PySem.Str), .free ("all" : PySem.Str), .free ("any" : PySem.Str), .glo ("are_names" : PySem.Str), .free ("bool" : PySem.Str), .glo ("chain_end" : PySem.Str), .glo ("check_select" : PySem.Str), .glo ("check_selects" : PySem.Str), .glo ("column_of" : PySem.Str), .glo ("condition_of" : PySem.Str)]
def hfa2 : List He.Fa := [.glo ("conditions_of" : PySem.Str), .free ("dict" : PySem.Str), .free ("enumerate" : PySem.Str), .glo ("fact_of" : PySem.Str), .free ("int" : PySem.Str), .glo ("is_chain_clash" : PySem.Str), .glo ("is_clash" : PySem.Str), .glo ("is_integer" : PySem.Str), .glo ("is_key_tables" : PySem.Str), .glo ("is_name" : PySem.Str), .glo ("is_name_column" : PySem.Str), .glo ("is_plain" : PySem.Str), .glo ("is_tree" : PySem.Str), .free ("isinstance" : PySem.Str), .free ("len" : PySem.Str), .free ("list" : PySem.Str), .glo ("name_operand" : PySem.Str), .glo ("number_operand" : PySem.Str), .glo ("pair_scene" : PySem.Str), .glo ("plan_of" : PySem.Str)]
def hfa3 : List He.Fa := [.free ("range" : PySem.Str), .free ("repr" : PySem.Str), .glo ("require" : PySem.Str), .glo ("scope_of" : PySem.Str), .free ("set" : PySem.Str), .free ("str" : PySem.Str), .glo ("strict_in" : PySem.Str), .glo ("table_with" : PySem.Str), .free ("tuple" : PySem.Str), .glo ("within_holds" : PySem.Str), .mkr ("Plan" : PySem.Str), .mkr ("Scene" : PySem.Str), .mkr ("Select" : PySem.Str), .mkr ("Table" : PySem.Str), .meth ("Scene" : PySem.Str) ("add_stranger" : PySem.Str), .meth ("Scene" : PySem.Str) ("entry" : PySem.Str), .meth ("Scene" : PySem.Str) ("facts_at" : PySem.Str), .meth ("Scene" : PySem.Str) ("kept_at" : PySem.Str), .meth ("Select" : PySem.Str) ("kept_columns" : PySem.Str), .noat ("Plan" : PySem.Str) ("conditions" : PySem.Str)]
def hfa4 : List He.Fa := [.noat ("Plan" : PySem.Str) ("kept" : PySem.Str), .noat ("Plan" : PySem.Str) ("kinds" : PySem.Str), .noat ("Plan" : PySem.Str) ("names" : PySem.Str), .noat ("Plan" : PySem.Str) ("withouts" : PySem.Str), .noat ("Scene" : PySem.Str) ("by_name" : PySem.Str), .noat ("Scene" : PySem.Str) ("called" : PySem.Str), .noat ("Scene" : PySem.Str) ("early" : PySem.Str), .noat ("Scene" : PySem.Str) ("late" : PySem.Str), .noat ("Scene" : PySem.Str) ("numeric" : PySem.Str), .noat ("Scene" : PySem.Str) ("plan" : PySem.Str), .noat ("Scene" : PySem.Str) ("root" : PySem.Str), .noat ("Scene" : PySem.Str) ("strangers" : PySem.Str), .noat ("Scene" : PySem.Str) ("usable" : PySem.Str), .noat ("Scene" : PySem.Str) ("wanted" : PySem.Str), .noat ("Select" : PySem.Str) ("keep" : PySem.Str), .noat ("Select" : PySem.Str) ("uses" : PySem.Str), .noat ("Select" : PySem.Str) ("where" : PySem.Str), .noat ("Select" : PySem.Str) ("without" : PySem.Str), .noat ("Table" : PySem.Str) ("key" : PySem.Str), .noat ("Table" : PySem.Str) ("name" : PySem.Str)]
def hfa5 : List He.Fa := [.noat ("Table" : PySem.Str) ("names" : PySem.Str), .noat ("Table" : PySem.Str) ("numbers" : PySem.Str), .glo "law"]
def hfa : List He.Fa := hfa0 ++ hfa1 ++ hfa2 ++ hfa3 ++ hfa4 ++ hfa5
def hfn0 : List He.DefD := [⟨(("is_integer" : PySem.Str), none), ("is_integer" : PySem.Str), ("is_integer" : PySem.Str), defArgs st_is_integer, defBody st_is_integer, defScope st_is_integer, [], []⟩, ⟨(("is_name" : PySem.Str), none), ("is_name" : PySem.Str), ("is_name" : PySem.Str), defArgs st_is_name, defBody st_is_name, defScope st_is_name, [], []⟩, ⟨(("are_names" : PySem.Str), none), ("are_names" : PySem.Str), ("are_names" : PySem.Str), defArgs st_are_names, defBody st_are_names, defScope st_are_names, [], []⟩, ⟨(("is_key_tables" : PySem.Str), none), ("is_key" : PySem.Str), ("is_key" : PySem.Str), defArgs st_is_key_tables, defBody st_is_key_tables, defScope st_is_key_tables, [], []⟩, ⟨(("Table" : PySem.Str), some ("__init__" : PySem.Str)), ("__init__" : PySem.Str), ("Table.__init__" : PySem.Str), defArgs st_Table_init, defBody st_Table_init, defScope st_Table_init, [.adr (He.dflAt (("Table" : PySem.Str), some "__init__") 0), .adr (He.dflAt (("Table" : PySem.Str), some "__init__") 1)], []⟩, ⟨(("fact_of" : PySem.Str), none), ("fact_of" : PySem.Str), ("fact_of" : PySem.Str), defArgs st_fact_of, defBody st_fact_of, defScope st_fact_of, [], []⟩, ⟨(("strict_in" : PySem.Str), none), ("strict_in" : PySem.Str), ("strict_in" : PySem.Str), defArgs st_strict_in, defBody st_strict_in, defScope st_strict_in, [], []⟩, ⟨(("chain_end" : PySem.Str), none), ("chain_end" : PySem.Str), ("chain_end" : PySem.Str), defArgs st_chain_end, defBody st_chain_end, defScope st_chain_end, [], []⟩, ⟨(("is_chain_clash" : PySem.Str), none), ("is_chain_clash" : PySem.Str), ("is_chain_clash" : PySem.Str), defArgs st_is_chain_clash, defBody st_is_chain_clash, defScope st_is_chain_clash, [], []⟩, ⟨(("is_clash" : PySem.Str), none), ("is_clash" : PySem.Str), ("is_clash" : PySem.Str), defArgs st_is_clash, defBody st_is_clash, defScope st_is_clash, [], []⟩]
def hfn1 : List He.DefD := [⟨(("Scene" : PySem.Str), some ("__init__" : PySem.Str)), ("__init__" : PySem.Str), ("Scene.__init__" : PySem.Str), defArgs st_Scene_init, defBody st_Scene_init, defScope st_Scene_init, [], []⟩, ⟨(("Scene" : PySem.Str), some ("entry" : PySem.Str)), ("entry" : PySem.Str), ("Scene.entry" : PySem.Str), defArgs st_Scene_entry, defBody st_Scene_entry, defScope st_Scene_entry, [], []⟩, ⟨(("Scene" : PySem.Str), some ("add_stranger" : PySem.Str)), ("add_stranger" : PySem.Str), ("Scene.add_stranger" : PySem.Str), defArgs st_Scene_add_stranger, defBody st_Scene_add_stranger, defScope st_Scene_add_stranger, [], []⟩, ⟨(("Scene" : PySem.Str), some ("facts_at" : PySem.Str)), ("facts_at" : PySem.Str), ("Scene.facts_at" : PySem.Str), defArgs st_Scene_facts_at, defBody st_Scene_facts_at, defScope st_Scene_facts_at, [], []⟩, ⟨(("Scene" : PySem.Str), some ("kept_at" : PySem.Str)), ("kept_at" : PySem.Str), ("Scene.kept_at" : PySem.Str), defArgs st_Scene_kept_at, defBody st_Scene_kept_at, defScope st_Scene_kept_at, [], []⟩, ⟨(("is_plain" : PySem.Str), none), ("is_plain" : PySem.Str), ("is_plain" : PySem.Str), defArgs st_is_plain, defBody st_is_plain, defScope st_is_plain, [], []⟩, ⟨(("is_tree" : PySem.Str), none), ("is_tree" : PySem.Str), ("is_tree" : PySem.Str), defArgs st_is_tree, defBody st_is_tree, defScope st_is_tree, [], []⟩, ⟨(("Plan" : PySem.Str), some ("__init__" : PySem.Str)), ("__init__" : PySem.Str), ("Plan.__init__" : PySem.Str), defArgs st_Plan_init, defBody st_Plan_init, defScope st_Plan_init, [], []⟩, ⟨(("require" : PySem.Str), none), ("require" : PySem.Str), ("require" : PySem.Str), defArgs st_require, defBody st_require, defScope st_require, [], []⟩, ⟨(("table_with" : PySem.Str), none), ("table_with" : PySem.Str), ("table_with" : PySem.Str), defArgs st_table_with, defBody st_table_with, defScope st_table_with, [], []⟩]
def hfn2 : List He.DefD := [⟨(("scope_of" : PySem.Str), none), ("scope_of" : PySem.Str), ("scope_of" : PySem.Str), defArgs st_scope_of, defBody st_scope_of, defScope st_scope_of, [], []⟩, ⟨(("column_of" : PySem.Str), none), ("column_of" : PySem.Str), ("column_of" : PySem.Str), defArgs st_column_of, defBody st_column_of, defScope st_column_of, [], []⟩, ⟨(("is_name_column" : PySem.Str), none), ("is_name_column" : PySem.Str), ("is_name_column" : PySem.Str), defArgs st_is_name_column, defBody st_is_name_column, defScope st_is_name_column, [], []⟩, ⟨(("name_operand" : PySem.Str), none), ("name_operand" : PySem.Str), ("name_operand" : PySem.Str), defArgs st_name_operand, defBody st_name_operand, defScope st_name_operand, [], []⟩, ⟨(("number_operand" : PySem.Str), none), ("number_operand" : PySem.Str), ("number_operand" : PySem.Str), defArgs st_number_operand, defBody st_number_operand, defScope st_number_operand, [], []⟩, ⟨(("condition_of" : PySem.Str), none), ("condition_of" : PySem.Str), ("condition_of" : PySem.Str), defArgs st_condition_of, defBody st_condition_of, defScope st_condition_of, [], []⟩, ⟨(("conditions_of" : PySem.Str), none), ("conditions_of" : PySem.Str), ("conditions_of" : PySem.Str), defArgs st_conditions_of, defBody st_conditions_of, defScope st_conditions_of, [], []⟩, ⟨(("plan_of" : PySem.Str), none), ("plan_of" : PySem.Str), ("plan_of" : PySem.Str), defArgs st_plan_of, defBody st_plan_of, defScope st_plan_of, [], []⟩, ⟨(("Select" : PySem.Str), some ("fits" : PySem.Str)), ("fits" : PySem.Str), ("Question.fits" : PySem.Str), defArgs st_Question_fits, defBody st_Question_fits, defScope st_Question_fits, [], []⟩, ⟨(("Select" : PySem.Str), some ("__init__" : PySem.Str)), ("__init__" : PySem.Str), ("Select.__init__" : PySem.Str), defArgs st_Select_init, defBody st_Select_init, defScope st_Select_init, [.adr (He.dflAt (("Select" : PySem.Str), some "__init__") 0), .adr (He.dflAt (("Select" : PySem.Str), some "__init__") 1)], []⟩]
def hfn3 : List He.DefD := [⟨(("Select" : PySem.Str), some ("kept_columns" : PySem.Str)), ("kept_columns" : PySem.Str), ("Select.kept_columns" : PySem.Str), defArgs st_Select_kept_columns, defBody st_Select_kept_columns, defScope st_Select_kept_columns, [], []⟩, ⟨(("Select" : PySem.Str), some ("check" : PySem.Str)), ("check" : PySem.Str), ("Select.check" : PySem.Str), defArgs st_Select_check, defBody st_Select_check, defScope st_Select_check, [], []⟩, ⟨(("check_select" : PySem.Str), none), ("check_select" : PySem.Str), ("check_select" : PySem.Str), defArgs st_check_select, defBody st_check_select, defScope st_check_select, [], []⟩, ⟨(("check_selects" : PySem.Str), none), ("check_selects" : PySem.Str), ("check_selects" : PySem.Str), defArgs st_check_selects, defBody st_check_selects, defScope st_check_selects, [], []⟩, ⟨(("pair_scene" : PySem.Str), none), ("pair_scene" : PySem.Str), ("pair_scene" : PySem.Str), defArgs st_pair_scene, defBody st_pair_scene, defScope st_pair_scene, [], []⟩, ⟨(("within_holds" : PySem.Str), none), ("within_holds" : PySem.Str), ("within_holds" : PySem.Str), defArgs st_within_holds, defBody st_within_holds, defScope st_within_holds, [], []⟩, ⟨(("_law_deck" : PySem.Str), none), ("_law_deck" : PySem.Str), ("_law_deck" : PySem.Str), defArgs st__law_deck, defBody st__law_deck, defScope st__law_deck, [], []⟩, ⟨(("_law_draw" : PySem.Str), none), ("_law_draw" : PySem.Str), ("_law_draw" : PySem.Str), defArgs st__law_draw, defBody st__law_draw, defScope st__law_draw, [], []⟩, ⟨(("_law_pick" : PySem.Str), none), ("_law_pick" : PySem.Str), ("_law_pick" : PySem.Str), defArgs st__law_pick, defBody st__law_pick, defScope st__law_pick, [], []⟩, ⟨(("_law_first" : PySem.Str), none), ("_law_first" : PySem.Str), ("_law_first" : PySem.Str), defArgs st__law_first, defBody st__law_first, defScope st__law_first, [], []⟩]
def hfn4 : List He.DefD := [⟨(("_law_facts" : PySem.Str), none), ("_law_facts" : PySem.Str), ("_law_facts" : PySem.Str), defArgs st__law_facts, defBody st__law_facts, defScope st__law_facts, [], []⟩, ⟨(("_law_chains" : PySem.Str), none), ("_law_chains" : PySem.Str), ("_law_chains" : PySem.Str), defArgs st__law_chains, defBody st__law_chains, defScope st__law_chains, [], []⟩, ⟨(("_law_is_plain" : PySem.Str), none), ("_law_is_plain" : PySem.Str), ("_law_is_plain" : PySem.Str), defArgs st__law_is_plain, defBody st__law_is_plain, defScope st__law_is_plain, [], []⟩, ⟨(("_law_ends" : PySem.Str), none), ("_law_ends" : PySem.Str), ("_law_ends" : PySem.Str), defArgs st__law_ends, defBody st__law_ends, defScope st__law_ends, [], []⟩, ⟨(("_law_is_constant" : PySem.Str), none), ("_law_is_constant" : PySem.Str), ("_law_is_constant" : PySem.Str), defArgs st__law_is_constant, defBody st__law_is_constant, defScope st__law_is_constant, [], []⟩, ⟨(("_law_is_clash" : PySem.Str), none), ("_law_is_clash" : PySem.Str), ("_law_is_clash" : PySem.Str), defArgs st__law_is_clash, defBody st__law_is_clash, defScope st__law_is_clash, [], []⟩, ⟨(("law" : PySem.Str), none), ("law" : PySem.Str), ("law" : PySem.Str), defArgs st_law, defBody st_law, defScope st_law, [], []⟩]
def hfn : List He.DefD := hfn0 ++ hfn1 ++ hfn2 ++ hfn3 ++ hfn4
def hex_ (K : PySem.W.Frag) : List Bool := [He.eqO (PySem.W.specialIn K (.ref (He.ma K (He.ga K ("Select" : PySem.Str)) ("check" : PySem.Str))) "__get__") (some (some (.builtin "function.__get__"))),
  decide (PySem.W.takesIn K (.ref (He.ma K (He.ga K ("Select" : PySem.Str)) ("check" : PySem.Str))) = some false),
  PySem.W.fnIn K (He.ma K (He.ga K ("Select" : PySem.Str)) ("check" : PySem.Str)),
  He.eqO (PySem.W.specialIn K (.ref (He.ma K (He.ga K ("Select" : PySem.Str)) ("fits" : PySem.Str))) "__get__") (some (some (.builtin "function.__get__"))),
  decide (PySem.W.takesIn K (.ref (He.ma K (He.ga K ("Select" : PySem.Str)) ("fits" : PySem.Str))) = some false),
  PySem.W.fnIn K (He.ma K (He.ga K ("Select" : PySem.Str)) ("fits" : PySem.Str)),
  He.eqO (PySem.W.findIn K (.ref (He.ga K ("Select" : PySem.Str))) "__class__") (some (some (.builtin "object.__class__"))),
  He.eqO (PySem.W.specialIn K (.builtin "object.__class__") "__get__") (some (some (.builtin "getset_descriptor.__get__"))),
  decide (PySem.W.takesIn K (.builtin "object.__class__") = some true),
  decide (PySem.W.mroIn K (He.ga K ("Select" : PySem.Str)) (.type "object") = some true),
  decide (PySem.W.kitOne K (.ref (He.ga K ("Select" : PySem.Str))) (.ref (He.ga K ("Select" : PySem.Str))) = some true),
  He.eqO (PySem.W.findIn K (.ref (He.ga K ("Table" : PySem.Str))) "columns") (some (some (.ref (He.ma K (He.ga K ("Table" : PySem.Str)) "columns")))),
  He.eqO (PySem.W.specialIn K (.ref (He.ma K (He.ga K ("Table" : PySem.Str)) "columns")) "__get__") (some (some (.builtin "property.__get__"))),
  decide (PySem.W.takesIn K (.ref (He.ma K (He.ga K ("Table" : PySem.Str)) "columns")) = some true),
  hasG K (He.ma K (He.ga K ("Table" : PySem.Str)) "columns"),
  He.tupB K ("NAME_OPERATORS" : PySem.Str) [.str ("=" : PySem.Str), .str ("!=" : PySem.Str)],
  He.tupB K ("NUMBER_OPERATORS" : PySem.Str) [.str ("=" : PySem.Str), .str ("!=" : PySem.Str), .str ("<=" : PySem.Str), .str (">=" : PySem.Str)],
  tup0 K (He.dflAt (("Table" : PySem.Str), some "__init__") 0 K),
  tup0 K (He.dflAt (("Table" : PySem.Str), some "__init__") 1 K),
  tup0 K (He.dflAt (("Select" : PySem.Str), some "__init__") 0 K),
  tup0 K (He.dflAt (("Select" : PySem.Str), some "__init__") 1 K),
  okP K (prA K (He.ga K ("Table" : PySem.Str)) "columns") ("Table.columns" : PySem.Str)]
def hex (K : PySem.W.Frag) : Bool := (hex_ K).all fun b => b
abbrev R69 : PySem.W.OpenRow := PySem.W.OpenLaw.row PySem.Challenge.rw_whatturns_k69_chains_of_facts
abbrev qv : Program := PySem.W.view R69.prog [77]
def pfV : He.FnW := some ("columns", "Table.columns", defArgs st_Table_columns, .stmts (defBody st_Table_columns), defScope st_Table_columns, mainGlobals, [], builtinsNs)
def obsP (g : Addr → Option Obj) : He.AlX × He.FnW := (He.obsX 5 hfa hfn [] [] hex g, fnP (He.frT g (He.asD g 5)) (prA (He.frT g (He.asD g 5)) (He.ga (He.frT g (He.asD g 5)) ("Table" : PySem.Str)) "columns"))
def SaysP (w : World) (h : Heap) (K : PySem.W.Frag) : Prop := He.SaysX hfa hfn [] [] hex w h K ∧ fnP K (prA K (He.ga K ("Table" : PySem.Str)) "columns") = pfV
def hookP : PySem.W.Hook where
  α := He.AlX × He.FnW
  obs := fun s => obsP s.heap.get?
  val := fun w => (He.valX hfn [] w, pfV)
  says := fun w h => ∃ K : PySem.W.Frag, K.In h ∧ SaysP w h K
  of := fun w s e => ⟨_, He.frT_in, He.saysX_of (congrArg Prod.fst e), congrArg Prod.snd e⟩
  keeps := fun w h h' z k => by
    obtain ⟨K, hK, c, p⟩ := z
    exact ⟨K, PySem.W.Frag.In.keeps hK k, ⟨c.t, c.more, c.hd, c.out, fun p hp => k _ _ (c.empty p hp)⟩, p⟩
def obP (s : PySem.W.SharedT) : He.AlX × He.FnW := obsP (HandSHeadRun.getT s)
theorem obP_eq (s : PySem.W.SharedT) : obP s = hookP.obs s.abs := by
  have e : HandSHeadRun.getT s = s.abs.heap.get? := funext (HandSHeadRun.getT_eq s)
  show obsP (HandSHeadRun.getT s) = obsP s.abs.heap.get?
  rw [e]

def hnames0 : List PySem.Str := [("_wall" : PySem.Str), ("__name__" : PySem.Str), ("TurnError" : PySem.Str), ("InvalidTable" : PySem.Str), ("InvalidQuestion" : PySem.Str), ("is_integer" : PySem.Str), ("are_equal" : PySem.Str), ("are_items_equal" : PySem.Str), ("are_entries_equal" : PySem.Str), ("LETTERS" : PySem.Str), ("MOST_LETTERS" : PySem.Str), ("MOST_COLUMNS" : PySem.Str), ("is_name" : PySem.Str), ("are_names" : PySem.Str), ("is_key" : PySem.Str), ("is_key_tables" : PySem.Str), ("Table" : PySem.Str), ("FAILING" : PySem.Str), ("fact_of" : PySem.Str), ("failed" : PySem.Str)]
def hnames1 : List PySem.Str := [("strict_in" : PySem.Str), ("chain_end" : PySem.Str), ("is_chain_clash" : PySem.Str), ("is_clash" : PySem.Str), ("NEW" : PySem.Str), ("OLD" : PySem.Str), ("Scene" : PySem.Str), ("is_plain" : PySem.Str), ("are_trees" : PySem.Str), ("is_split" : PySem.Str), ("is_key_certificates" : PySem.Str), ("is_tree" : PySem.Str), ("MOST_USES_resolving" : PySem.Str), ("MOST_WITHOUTS" : PySem.Str), ("MOST_WITHOUT_USES" : PySem.Str), ("NAME_OPERATORS" : PySem.Str), ("NUMBER_OPERATORS" : PySem.Str), ("Plan" : PySem.Str), ("require" : PySem.Str), ("table_with" : PySem.Str)]
def hnames2 : List PySem.Str := [("scope_of" : PySem.Str), ("column_of" : PySem.Str), ("is_name_column" : PySem.Str), ("name_operand" : PySem.Str), ("number_operand" : PySem.Str), ("condition_of" : PySem.Str), ("conditions_of" : PySem.Str), ("plan_of" : PySem.Str), ("MOST_KEPT" : PySem.Str), ("Question" : PySem.Str), ("Select" : PySem.Str), ("MOST_USES_shapes" : PySem.Str), ("MOST_PARTS" : PySem.Str), ("check_select" : PySem.Str), ("check_selects" : PySem.Str), ("pair_scene" : PySem.Str), ("within_holds" : PySem.Str), ("_law_deck" : PySem.Str), ("_law_draw" : PySem.Str), ("_law_pick" : PySem.Str)]
def hnames3 : List PySem.Str := [("_law_first" : PySem.Str), ("_law_facts" : PySem.Str), ("_law_chains" : PySem.Str), ("_law_is_plain" : PySem.Str), ("_law_ends" : PySem.Str), ("_law_is_constant" : PySem.Str), ("_law_is_clash" : PySem.Str)]
def hnames : List PySem.Str := hnames0 ++ hnames1 ++ hnames2 ++ hnames3
end K69

namespace K69
open PySem PySem.Spec PyProof.Rows L2
theorem runF (w : World) : HandSHeadRun.RunEq R69 qv hookP obP 100000 hnames (w.withFollow "special-get-raises" false) := by
  intro os
  kernel_rfl
theorem runT (w : World) : HandSHeadRun.RunEq R69 qv hookP obP 100000 hnames (w.withFollow "special-get-raises" true) := by
  intro os
  kernel_rfl
theorem run (w : World) : HandSHeadRun.RunEq R69 qv hookP obP 100000 hnames w := PySem.W.byRow2 "special-get-raises" runF runT w
end K69

namespace K69
open PySem PySem.Spec PyProof.Rows L2 TL
def lettersS : PySem.Str := "abcdefghijklmnopqrstuvwxyz"
def nameS (z : PySem.Str) : Bool := decide (1 ≤ z.length) && (decide (z.length ≤ 8) && z.cps.toList.all fun c => subIn ⟨#[c]⟩ lettersS)
def nameD : D → Bool
  | .str z => nameS z
  | _ => false
def okS (x : PySem.Str) : Prop := x.length ≤ 1000 ∧ PyData.strOk x = true
/-- texts of a length that is told -/
def shortD : D → Prop
  | .str z => z.length ≤ 1000
  | _ => True
inductive Tm where
  | s (x : PySem.Str) | i (n : Int)
  deriving DecidableEq
def Tm.d : Tm → D
  | .s x => .str x
  | .i n => .int n
def Tm.p : Tm → PyData
  | .s x => .str x
  | .i n => .int n
def Tm.nm : Tm → Bool
  | .s x => nameS x
  | .i _ => false
def Tm.isI : Tm → Bool
  | .i _ => true
  | .s _ => false
def Tm.n : Tm → Int
  | .i n => n
  | .s _ => 0
abbrev Fact := Tm × PySem.Str × Tm
def okTm : Tm → Prop
  | .s x => okS x
  | .i _ => True
def okFact (f : Fact) : Prop := okTm f.1 ∧ okS f.2.1 ∧ okTm f.2.2
def isOp (o : PySem.Str) (f : Fact) : Bool := decide (f.2.1 = o)
def fd (f : Fact) : D := .tup [f.1.d, .str f.2.1, f.2.2.d]
def factD (a : D) (op : PySem.Str) (b : D) : D := if op = ">=" then .tup [b, .str "<=", a] else .tup [a, .str op, b]
def strsD (l : List PySem.Str) : List D := l.map D.str
def T_is_integer (K : PySem.W.Frag) : TSp := fun ds h Q => ∃ d, ds = [d] ∧ okD d = true ∧ Q (.bl (isInt d)) h
def T_is_name (K : PySem.W.Frag) : TSp := fun ds h Q => ∃ d, ds = [d] ∧ okD d = true ∧ shortD d ∧ Q (.bl (nameD d)) h
def T_are_names (K : PySem.W.Frag) : TSp := fun ds h Q => ∃ zs, ds = [.tup (strsD zs)] ∧ (∀ z ∈ zs, z.length ≤ 1000) ∧ zs.length ≤ 100 ∧ Q (.bl (decide (zs.length ≤ 2) && zs.all nameS)) h
def T_is_key_tables (K : PySem.W.Frag) : TSp := fun ds h Q => ∃ ky cs, ds = [.tup (strsD ky), .xtup (strsD cs)] ∧ (∀ z ∈ ky, okS z) ∧ (∀ z ∈ cs, okS z) ∧ ky.length ≤ 100 ∧ cs.length ≤ 100 ∧ Q (.bl (ky.all nameS && decide (ky = cs.filter fun c => ky.contains c))) h
def okTab (nm : PySem.Str) (ns us ky : List PySem.Str) : Prop := nameS nm = true ∧ nm.length ≤ 1000 ∧ (∀ z ∈ ns ++ us ++ ky, nameS z = true ∧ okS z) ∧ ns.length ≤ 2 ∧ us.length ≤ 2 ∧ ky.length ≤ 2 ∧ ns ≠ [] ∧ us ≠ [] ∧ (ns ++ us).Nodup ∧ ky = (ns ++ us).filter (fun c => ky.contains c)
def tabF (nm : PySem.Str) (ns us ky : List PySem.Str) : List (PySem.Str × D) := [("name", .str nm), ("names", .tup (strsD ns)), ("numbers", .tup (strsD us)), ("key", .tup (strsD ky))]
def tabD (K : PySem.W.Frag) (nm : PySem.Str) (ns us ky : List PySem.Str) : D := .ob (He.ga K ("Table" : PySem.Str)) (tabF nm ns us ky)
def T_Table_init (K : PySem.W.Frag) : TSp := fun ds h Q => ∃ o1 o2 nm ns us ky, h = [o1, o2, .ins (He.ga K ("Table" : PySem.Str)) []] ∧ ds = [.ref 2, .str nm, .tup (strsD ns), .tup (strsD us), .tup (strsD ky)] ∧ okTab nm ns us ky ∧ Q .non [o1, o2, .ins (He.ga K ("Table" : PySem.Str)) (tabF nm ns us ky)]
def T_Table_columns (K : PySem.W.Frag) : TSp := fun ds h Q => ∃ nm ns us ky, ds = [tabD K nm ns us ky] ∧ ns ≠ [] ∧ us ≠ [] ∧ ns.length + us.length ≤ 100 ∧ Q (.xtup (strsD ns ++ strsD us)) h
def T_fact_of (K : PySem.W.Frag) : TSp := fun ds h Q => ∃ a op b, ds = [a, .str op, b] ∧ okS op ∧ Q (factD a op b) h
def T_strict_in (K : PySem.W.Frag) : TSp := fun ds h Q => ∃ fs : List Fact, ds = [.tup (fs.map fd)] ∧ fs.length ≤ 5000 ∧ (∀ f ∈ fs, okFact f) ∧ Q (.int (fs.countP (isOp "<") : Nat)) h
def chainStep (t : Tm) (f : Fact) : Option Tm := if f.1 = t then some f.2.2 else if f.2.1 = "=" ∧ f.2.2 = t then some f.1 else none
def chainEnd : List Fact → Tm → Option Tm
  | [], t => some t
  | f :: r, t => match chainStep t f with
    | some u => chainEnd r u
    | none => none
def optD : Option Tm → D
  | some t => t.d
  | none => .non
def T_chain_end (K : PySem.W.Frag) : TSp := fun ds h Q => ∃ (fs : List Fact) (t : Tm), ds = [.tup (fs.map fd), t.d] ∧ fs.length ≤ 5000 ∧ (∀ f ∈ fs, okFact f) ∧ okTm t ∧ Q (optD (chainEnd fs t)) h
def endClash (k : Nat) (s e : Tm) : Bool := if s.nm && e.nm then !decide (s = e) else (decide (s = e) && decide (0 < k)) || (s.isI && (e.isI && decide (e.n < s.n + (k : Int))))
def chainClash (fs : List Fact) (s : Tm) : Bool := match chainEnd fs s with
  | none => false
  | some e => endClash (fs.countP (isOp "<")) s e
def T_is_chain_clash (K : PySem.W.Frag) : TSp := fun ds h Q => ∃ (fs : List Fact) (t : Tm), ds = [.tup (fs.map fd), t.d] ∧ fs.length ≤ 5000 ∧ (∀ f ∈ fs, okFact f) ∧ okTm t ∧ Q (.bl (chainClash fs t)) h
/-- what a chain that the law makes may hold -/
inductive Leaf : D → Prop
  | tm (t : Tm) (h : okTm t) : Leaf t.d
inductive Item : D → Prop
  | leaf {d : D} (h : Leaf d) : Item d
  | tup {ds : List D} (n : ds.length ≤ 5) (h : ∀ d ∈ ds, Leaf d) : Item (.tup ds)
  | lst {ds : List D} (n : ds.length ≤ 5) (h : ∀ d ∈ ds, Leaf d) : Item (.lst ds)
def Chain (ds : List D) : Prop := ds.length ≤ 5000 ∧ ∀ d ∈ ds, Item d
def factOf : D → Option Fact
  | .tup [.str a, .str op, .str b] => some (.s a, op, .s b)
  | .tup [.str a, .str op, .int b] => some (.s a, op, .i b)
  | .tup [.int a, .str op, .str b] => some (.i a, op, .s b)
  | .tup [.int a, .str op, .int b] => some (.i a, op, .i b)
  | _ => none
/-- the items as facts, where each is one of F -/
def factsIn (F : List Fact) : List D → Option (List Fact)
  | [] => some []
  | d :: r => match factOf d, factsIn F r with
    | some f, some fs => if f ∈ F then some (f :: fs) else none
    | _, _ => none
def progClash (fs : List Fact) : Bool := match fs.getLast? with
  | none => false
  | some l => match fs.head? with
    | none => false
    | some f => if l.2.1 ≠ "!=" then !(fs.any (isOp "!=")) && (chainClash fs f.1 || chainClash fs f.2.2)
      else if fs.length = 1 then decide (l.1 = l.2.2)
      else (fs.dropLast.all (isOp "=")) && ((decide (l.1 = f.1) && decide (chainEnd fs.dropLast f.1 = some l.2.2) || decide (l.1 = f.2.2) && decide (chainEnd fs.dropLast f.2.2 = some l.2.2)) || (decide (l.2.2 = f.1) && decide (chainEnd fs.dropLast f.1 = some l.1) || decide (l.2.2 = f.2.2) && decide (chainEnd fs.dropLast f.2.2 = some l.1)))
def clashD (F : List Fact) (ds : List D) : Bool := match factsIn F ds with
  | some fs => progClash fs
  | none => false
def T_is_clash (K : PySem.W.Frag) : TSp := fun ds h Q => ∃ (its : List D) (F : List Fact), ds = [.tup its, .lst (F.map fd)] ∧ Chain its ∧ F.length ≤ 10 ∧ (∀ f ∈ F, okFact f) ∧ Q (.bl (clashD F its)) h
def T_is_tree (K : PySem.W.Frag) : TSp := fun ds h Q => ∃ (sc : D) (its : List D) (F : List Fact), ds = [sc, .lst (F.map fd), .tup [.str "clash", .tup its]] ∧ Chain its ∧ F.length ≤ 10 ∧ (∀ f ∈ F, okFact f) ∧ Q (.bl (clashD F its)) h
def leafB : D → Bool
  | .str _ => true
  | .int _ => true
  | _ => false
def itemB : D → Bool
  | .tup ds => ds.all leafB
  | d => leafB d
def P_is_plain : List D → (Bool → Prop) → Prop := fun ds P => ∃ its, Chain its ∧ ((ds = [.tup [.str "clash", .tup its]] ∧ P (its.all itemB)) ∨ (ds = [.lst [.str "clash", .tup its]] ∧ P false))
def T_is_plain (K : PySem.W.Frag) : TSp := anyH P_is_plain
/-- the same told of an empty heap -/
def T0_is_plain (K : PySem.W.Frag) : TSp := fun ds h Q => h = [] ∧ P_is_plain ds fun b => Q (.bl b) []
inductive Col | ua | ub | up | uq | vc | vd | vr | vw | xc | xd
  deriving DecidableEq
def Col.s : Col → PySem.Str
  | .ua => "u.a" | .ub => "u.b" | .up => "u.p" | .uq => "u.q" | .vc => "v.c" | .vd => "v.d" | .vr => "v.r" | .vw => "v.w" | .xc => "x.c" | .xd => "x.d"
def Col.al : Col → PySem.Str
  | .ua => "u" | .ub => "u" | .up => "u" | .uq => "u" | .vc => "v" | .vd => "v" | .vr => "v" | .vw => "v" | .xc => "x" | .xd => "x"
def Col.cn : Col → PySem.Str
  | .ua => "a" | .ub => "b" | .up => "p" | .uq => "q" | .vc => "c" | .vd => "d" | .vr => "r" | .vw => "w" | .xc => "c" | .xd => "d"
def Col.u : Col → Nat
  | .ua => 0 | .ub => 0 | .up => 0 | .uq => 0 | .vc => 1 | .vd => 1 | .vr => 1 | .vw => 1 | .xc => 0 | .xd => 0
def Col.p : Col → Nat
  | .ua => 0 | .ub => 1 | .up => 2 | .uq => 3 | .vc => 0 | .vd => 1 | .vr => 2 | .vw => 3 | .xc => 0 | .xd => 1
/-- a column of names; of the first question -/
def Col.nm (c : Col) : Bool := decide (c.p < 2)
def Col.one : Col → Bool
  | .xc => false | .xd => false | _ => true
def Col.d (c : Col) : D := .tup [.int (c.u : Nat), .int (c.p : Nat)]
/-- what stands on the right: a name, a number, a column -/
inductive Rt where
  | nm (x : PySem.Str) | num (n : Int) | col (c : Col)
def Rt.t : Rt → Tm
  | .nm x => .s x
  | .num n => .i n
  | .col c => .s c.s
/-- as a plan holds it -/
def Rt.o : Rt → D
  | .nm x => .tup [.str x]
  | .num n => .tup [.int n]
  | .col c => c.d
structure Cond where
  a : Col
  op : PySem.Str
  b : Rt
def okRt (a : Col) : Rt → Prop
  | .nm x => x = "ann" ∨ x = "bo"
  | .num _ => True
  | .col c => c.one = a.one ∧ c.nm = a.nm ∧ (a.nm = false → c.u ≠ a.u ∨ c = a)
def Rt.isN : Rt → Prop
  | .nm _ => True
  | .num _ => False
  | .col _ => True
def Rt.isI : Rt → Prop
  | .nm _ => False
  | .num _ => True
  | .col _ => True
def Cond.ok (c : Cond) : Prop := okRt c.a c.b ∧ ((c.a.nm = true ∧ (c.op = "=" ∨ c.op = "!=") ∧ c.b.isN) ∨ (c.a.nm = false ∧ (c.op = "=" ∨ c.op = "!=" ∨ c.op = "<=" ∨ c.op = ">=") ∧ c.b.isI))
/-- as it is asked; as a plan holds it; the fact -/
def Cond.d (c : Cond) : D := .tup [.str c.a.s, .str c.op, c.b.t.d]
def Cond.o (c : Cond) : D := .tup [c.a.d, .str c.op, c.b.o]
def Cond.f (c : Cond) : Fact := if c.op = ">=" then (c.b.t, "<=", .s c.a.s) else (.s c.a.s, c.op, c.b.t)
def tT (K : PySem.W.Frag) : D := tabD K "t" ["a", "b"] ["p", "q"] []
def tS (K : PySem.W.Frag) (ky : List PySem.Str) : D := tabD K "s" ["c", "d"] ["r", "w"] ky
def okKy (ky : List PySem.Str) : Prop := ky = [] ∨ ky = [("c" : PySem.Str)]
def tabsL (K : PySem.W.Frag) (ky : List PySem.Str) : List D := [tT K, tS K ky]
def tabs (K : PySem.W.Frag) (ky : List PySem.Str) : D := .tup (tabsL K ky)
def scopeD (K : PySem.W.Frag) (ky : List PySem.Str) : Bool → D
  | true => .lst [.tup [.str "u", tT K], .tup [.str "v", tS K ky]]
  | false => .lst [.tup [.str "x", tS K ky]]
def T_require (K : PySem.W.Frag) : TSp := fun ds h Q => ds = [.bl true] ∧ Q .non h
def T_table_with (K : PySem.W.Frag) : TSp := fun ds h Q => ∃ ky, (ds = [.str "t", tabs K ky] ∧ Q (tT K) h) ∨ (ds = [.str "s", tabs K ky] ∧ Q (tS K ky) h)
def usesD : Bool → D
  | true => .tup [.tup [.str "u", .str "t"], .tup [.str "v", .str "s"]]
  | false => .tup [.tup [.str "x", .str "s"]]
def T_scope_of (K : PySem.W.Frag) : TSp := fun ds h Q => ∃ ky o, h = [] ∧ ds = [usesD o, .int 3, tabs K ky] ∧ Q (scopeD K ky o) []
def T_column_of (K : PySem.W.Frag) : TSp := fun ds h Q => ∃ (ky : List PySem.Str) (c : Col), ds = [scopeD K ky c.one, .str c.s] ∧ Q c.d h
def T_is_name_column (K : PySem.W.Frag) : TSp := fun ds h Q => ∃ (ky : List PySem.Str) (c : Col), ds = [scopeD K ky c.one, c.d] ∧ Q (.bl c.nm) h
def T_name_operand (K : PySem.W.Frag) : TSp := fun ds h Q => ∃ (ky : List PySem.Str) (a : Col) (b : Rt), ds = [scopeD K ky a.one, b.t.d] ∧ okRt a b ∧ a.nm = true ∧ b.isN ∧ Q b.o h
def T_number_operand (K : PySem.W.Frag) : TSp := fun ds h Q => ∃ (ky : List PySem.Str) (a : Col) (b : Rt), ds = [scopeD K ky a.one, a.d, b.t.d] ∧ okRt a b ∧ a.nm = false ∧ b.isI ∧ Q b.o h
def T_condition_of (K : PySem.W.Frag) : TSp := fun ds h Q => ∃ (ky : List PySem.Str) (c : Cond), ds = [scopeD K ky c.a.one, c.d] ∧ Cond.ok c ∧ Q c.o h
def T_conditions_of (K : PySem.W.Frag) : TSp := fun ds h Q => ∃ (ky : List PySem.Str) (o : Bool) (cs : List Cond), ds = [scopeD K ky o, .tup (cs.map Cond.d)] ∧ cs.length ≤ 10 ∧ (∀ c ∈ cs, c.ok ∧ c.a.one = o) ∧ Q (.tup (cs.map Cond.o)) h
def selF (uses keep : D) (cs : List Cond) : List (PySem.Str × D) := [("uses", uses), ("keep", keep), ("where", .tup (cs.map Cond.d)), ("without", .tup [])]
def cond2 : List Cond := [⟨.xd, "!=", .col .xc⟩]
def keepD : Bool → D
  | true => .tup [.str "u.a"]
  | false => .tup [.str "x.c"]
def sel (K : PySem.W.Frag) (cs : List Cond) (o : Bool) : D := .ob (He.ga K ("Select" : PySem.Str)) (selF (usesD o) (keepD o) cs)
/-- a question that the law asks -/
def okSel (cs : List Cond) (o : Bool) : Prop := cs.length ≤ 5 ∧ (∀ c ∈ cs, c.ok ∧ c.a.one = o)
def planF (names : D) (cs : List Cond) : List (PySem.Str × D) := [("names", names), ("conditions", .tup (cs.map Cond.o)), ("withouts", .tup []), ("kept", .tup [.tup [.int 0, .int 0]]), ("kinds", .tup [.str "name"])]
def planN : Bool → D
  | true => .tup [.str "t", .str "s"]
  | false => .tup [.str "s"]
def plan (K : PySem.W.Frag) (cs : List Cond) (o : Bool) : D := .ob (He.ga K ("Plan" : PySem.Str)) (planF (planN o) cs)
def T_Plan_init (K : PySem.W.Frag) : TSp := fun ds h Q => ∃ a b c d e, h = [.ins (He.ga K ("Plan" : PySem.Str)) []] ∧ ds = [.ref 0, a, b, c, d, e] ∧ Q .non [.ins (He.ga K ("Plan" : PySem.Str)) [("names", a), ("conditions", b), ("withouts", c), ("kept", d), ("kinds", e)]]
def T_Select_init (K : PySem.W.Frag) : TSp := fun ds h Q => ∃ o1 o2 a b c d, h = [o1, o2, .ins (He.ga K ("Select" : PySem.Str)) []] ∧ ds = [.ref 2, a, b, c, d] ∧ Q .non [o1, o2, .ins (He.ga K ("Select" : PySem.Str)) [("uses", a), ("keep", b), ("where", c), ("without", d)]]
def T_Select_kept_columns (K : PySem.W.Frag) : TSp := fun ds h Q => ∃ cs o, ds = [sel K cs o] ∧ Q (keepD o) h
def T_plan_of (K : PySem.W.Frag) : TSp := fun ds h Q => ∃ ky cs o, h = [] ∧ ds = [sel K cs o, tabs K ky] ∧ okSel cs o ∧ Q (plan K cs o) []
def T_Select_check (K : PySem.W.Frag) : TSp := fun ds h Q => ∃ ky cs o, h = [] ∧ ds = [sel K cs o, tabs K ky] ∧ okSel cs o ∧ Q .non []
def T_Question_fits (K : PySem.W.Frag) : TSp := fun ds h Q => ∃ ky cs o, h = [] ∧ ds = [sel K cs o, tabs K ky] ∧ okSel cs o ∧ Q (.bl true) []
def T_check_select (K : PySem.W.Frag) : TSp := fun ds h Q => ∃ ky cs o, h = [] ∧ ds = [sel K cs o, tabs K ky] ∧ okSel cs o ∧ Q .non []
def T_check_selects (K : PySem.W.Frag) : TSp := fun ds h Q => ∃ ky cs, h = [] ∧ ds = [sel K cs true, sel K cond2 false, tabs K ky] ∧ okSel cs true ∧ Q .non []
def scF (pl st early usable root wanted : D) : List (PySem.Str × D) := [("by_name", .ref 3), ("plan", pl), ("called", .ref 4), ("numeric", .ref 5), ("strangers", st), ("early", early), ("late", .lst []), ("usable", usable), ("root", root), ("wanted", wanted)]
def byN (K : PySem.W.Frag) (ky : List PySem.Str) : O := .dct [(.inr "t", tT K), (.inr "s", tS K ky)]
def scH (K : PySem.W.Frag) (ky : List PySem.Str) (called numeric : List (Key × D)) (strangers : List D) (early usable root wanted : D) : DH :=
  [.dct [], .dct [], .ins (He.ga K ("Scene" : PySem.Str)) (scF (plan K cond2 false) (.ref 6) early usable root wanted), byN K ky, .dct called, .dct numeric, .lst strangers]
def colsD (al : PySem.Str) (l : List PySem.Str) : D := .tup (l.map fun c => .str (al ++ "." ++ c))
def calledU : List (Key × D) := [(.inr "u", .tup [.str "t", .tup [.str "u.a", .str "u.b", .str "u.p", .str "u.q"]])]
def calledUV : List (Key × D) := calledU ++ [(.inr "v", .tup [.str "s", .tup [.str "v.c", .str "v.d", .str "v.r", .str "v.w"]])]
def numU : List (Key × D) := [(.inr "u.a", .bl false), (.inr "u.b", .bl false), (.inr "u.p", .bl true), (.inr "u.q", .bl true)]
def numUV : List (Key × D) := numU ++ [(.inr "v.c", .bl false), (.inr "v.d", .bl false), (.inr "v.r", .bl true), (.inr "v.w", .bl true)]
def E0 : D := .lst []
def T_Scene_init (K : PySem.W.Frag) : TSp := fun ds h Q => ∃ ky, h = [.dct [], .dct [], .ins (He.ga K ("Scene" : PySem.Str)) []] ∧ ds = [.ref 2, tabs K ky, plan K cond2 false, .ref 0, .ref 1] ∧ Q .non (scH K ky [] [] [] E0 E0 E0 E0)
def T_Scene_add_stranger (K : PySem.W.Frag) : TSp := fun ds h Q => ∃ ky, (h = scH K ky [] [] [] E0 E0 E0 E0 ∧ ds = [.ref 2, .str "u", .str "t"] ∧ Q .non (scH K ky calledU numU [.str "u"] E0 E0 E0 E0)) ∨
  (h = scH K ky calledU numU [.str "u"] E0 E0 E0 E0 ∧ ds = [.ref 2, .str "v", .str "s"] ∧ Q .non (scH K ky calledUV numUV [.str "u", .str "v"] E0 E0 E0 E0))
def matchD : D := .lst [.str "u", .str "v"]
/-- the scene while the facts are asked -/
def scA (K : PySem.W.Frag) (ky : List PySem.Str) (root : D) : DH := scH K ky calledUV numUV [.str "u", .str "v"] matchD matchD root E0
def T_Scene_entry (K : PySem.W.Frag) : TSp := fun ds h Q => ∃ (ky : List PySem.Str) (root : D) (g : DH) (c : Col), h = scA K ky root ++ g ∧ c.one = true ∧ ds = [.ref 2, .str c.al, .int (c.p : Nat)] ∧ Q (.str c.s) h
def T_Scene_facts_at (K : PySem.W.Frag) : TSp := fun ds h Q => ∃ ky cs, h = scA K ky E0 ∧ ds = [.ref 2, plan K cs true, matchD] ∧ okSel cs true ∧ Q (.lst (cs.map fun c => fd c.f)) h
def T_Scene_kept_at (K : PySem.W.Frag) : TSp := fun ds h Q => ∃ ky cs root, h = scA K ky root ∧ ds = [.ref 2, plan K cs true, matchD] ∧ Q (.lst [.str "u.a"]) h
def T_pair_scene (K : PySem.W.Frag) : TSp := fun ds h Q => ∃ ky cs, h = [] ∧ ds = [sel K cs true, sel K cond2 false, tabs K ky] ∧ okSel cs true ∧ Q (.ref 2) (scH K ky calledUV numUV [.str "u", .str "v"] matchD matchD (.lst (cs.map fun c => fd c.f)) (.lst [.str "u.a"]))
def P_within_holds (K : PySem.W.Frag) : List D → (Bool → Prop) → Prop := fun ds P => ∃ ky cs its, okSel cs true ∧ okKy ky ∧ Chain its ∧
  ((ds = [sel K cs true, sel K cond2 false, .tup [.str "clash", .tup its], tabs K ky] ∧ P (its.all itemB && clashD (cs.map Cond.f) its)) ∨ (ds = [sel K cs true, sel K cond2 false, .lst [.str "clash", .tup its], tabs K ky] ∧ P false))
def T_within_holds (K : PySem.W.Frag) : TSp := anyH (P_within_holds K)
def T0_within_holds (K : PySem.W.Frag) : TSp := fun ds h Q => h = [] ∧ P_within_holds K ds fun b => Q (.bl b) []
def dk (cs : List Int) (t j : Int) : DH := [.dct [(.inr "cells", .ref 1), (.inr "total", .int t), (.inr "draws", .int j)], .lst (cs.map D.int)]
def okT (t : Int) : Prop := 0 ≤ t ∧ t < 2147483587
def okC (cs : List Int) : Prop := cs.length ≤ 100
def okJ (j : Int) : Prop := 0 ≤ j ∧ j ≤ 1000000
def T__law_deck (K : PySem.W.Frag) : TSp := fun ds h Q => ∃ ns : List Int, h = [] ∧ ds = [.klst (ns.map D.int)] ∧ ns.length ≤ 63 ∧ ∀ cs t, okC cs → okT t → Q (.ref 0) (dk cs t 0)
def T__law_draw (K : PySem.W.Frag) : TSp := fun ds h Q => ∃ cs t j m g, h = dk cs t j ++ g ∧ ds = [.ref 0, .int m] ∧ 0 < m ∧ m ≤ 5000 ∧ okC cs ∧ okT t ∧ okJ j ∧ ∀ (r : Int) (cs' : List Int), 0 ≤ r → r < m → okC cs' → Q (.int r) (dk cs' t (j + 1) ++ g)
def seqD : D → Option (List D)
  | .lst ds => some ds
  | .tup ds => some ds
  | _ => none
def T__law_pick (K : PySem.W.Frag) : TSp := fun ds h Q => ∃ cs t j x its g, h = dk cs t j ++ g ∧ ds = [.ref 0, x] ∧ seqD x = some its ∧ its ≠ [] ∧ its.length ≤ 5000 ∧ okC cs ∧ okT t ∧ okJ j ∧ ∀ d cs', d ∈ its → okC cs' → Q d (dk cs' t (j + 1) ++ g)
def okCs (cs : List Cond) : Prop := cs ≠ [] ∧ okSel cs true
def T__law_first (K : PySem.W.Frag) : TSp := fun ds h Q => ∃ cs t j, h = dk cs t j ∧ ds = [.ref 0] ∧ okC cs ∧ okT t ∧ 0 ≤ j ∧ j ≤ 100000 ∧ ∀ qs cs' j', okCs qs → okC cs' → 0 ≤ j' → j' ≤ j + 100 → Q (.tup (qs.map Cond.d)) (dk cs' t j')
def T__law_facts (K : PySem.W.Frag) : TSp := fun ds h Q => ∃ qs : List Cond, ds = [.tup (qs.map Cond.d)] ∧ qs.length ≤ 5 ∧ (∀ c ∈ qs, c.ok) ∧ Q (.lst (qs.map fun c => fd c.f)) h
def okF (F : List Fact) : Prop := F ≠ [] ∧ F.length ≤ 5 ∧ ∀ f ∈ F, okFact f
def T__law_chains (K : PySem.W.Frag) : TSp := fun ds h Q => ∃ cs t j F, h = dk cs t j ∧ ds = [.ref 0, .lst (F.map fd)] ∧ okF F ∧ okC cs ∧ okT t ∧ 0 ≤ j ∧ j ≤ 100000 ∧
  ∀ (L : List (List D)) cs' j', (∀ its ∈ L, Chain its) → L.length ≤ 1000 → okC cs' → 0 ≤ j' → j' ≤ j + 1000 → Q (.lst (L.map D.tup)) (dk cs' t j')
/-- by depth -/
def T_plain : Nat → TSp
  | 0 => fun ds h Q => ∃ d, ds = [d] ∧ Leaf d ∧ Q (.bl true) h
  | 1 => fun ds h Q => ∃ d, ds = [d] ∧ Item d ∧ Q (.bl (itemB d)) h
  | _ + 2 => fun ds h Q => ∃ its, ds = [.tup its] ∧ Chain its ∧ Q (.bl (its.all itemB)) h
def T__law_is_plain (K : PySem.W.Frag) : TSp := T_plain 2
def stepEnds (ps : List (Tm × Tm)) (f : Fact) : List (Tm × Tm) :=
  let some_ := (ps.filterMap fun p => if p.2 = f.1 then some (p.1, f.2.2) else none) ++ ps.filterMap fun p => if p.2 = f.2.2 ∧ f.2.1 = "=" then some (p.1, f.1) else none
  (some_.zipIdx.filterMap fun q => if q.1 ∈ some_.take q.2 then none else some q.1)
def lawEnds : List Fact → List (Tm × Tm)
  | [] => []
  | f :: r => r.foldl stepEnds ((f.1, f.2.2) :: if f.2.1 = "=" then [(f.2.2, f.1)] else [])
def pD (p : Tm × Tm) : D := .tup [p.1.d, p.2.d]
def T__law_ends (K : PySem.W.Frag) : TSp := fun ds h Q => ∃ fs : List Fact, ds = [.tup (fs.map fd)] ∧ fs ≠ [] ∧ fs.length ≤ 5000 ∧ (∀ f ∈ fs, okFact f) ∧ Q (.lst ((lawEnds fs).map pD)) h
def constT : Tm → Bool
  | .s x => !decide (cutS x none (some 1) = "?") && !subIn "." x
  | .i _ => false
def T__law_is_constant (K : PySem.W.Frag) : TSp := fun ds h Q => ∃ t : Tm, ds = [t.d] ∧ okTm t ∧ Q (.bl (constT t)) h
def lawClash (fs : List Fact) : Bool := match fs.getLast? with
  | none => false
  | some l => if l.2.1 = "!=" then (if fs.length = 1 then decide (l.1 = l.2.2) else (fs.dropLast.all (isOp "=")) && ((lawEnds fs.dropLast).contains (l.1, l.2.2) || (lawEnds fs.dropLast).contains (l.2.2, l.1)))
    else !(fs.any (isOp "!=")) && (lawEnds fs).any fun p => if constT p.1 && constT p.2 then !decide (p.1 = p.2) else (decide (p.1 = p.2) && decide (0 < fs.countP (isOp "<"))) || (p.1.isI && (p.2.isI && decide (p.2.n < p.1.n + ((fs.countP (isOp "<") : Nat) : Int))))
def lawClashD (F : List Fact) (ds : List D) : Bool := match factsIn F ds with
  | some fs => lawClash fs
  | none => false
def T__law_is_clash (K : PySem.W.Frag) : TSp := fun ds h Q => ∃ F its, ds = [.lst (F.map fd), .tup its] ∧ Chain its ∧ okF F ∧ Q (.bl (lawClashD F its)) h
def T_law (K : PySem.W.Frag) : TSp := fun ds h Q => ∃ ns : List Int, h = [] ∧ ds = [.klst (ns.map D.int)] ∧ ns.length ≤ 63 ∧ ∀ h', Q (.bl true) h'
end K69

namespace K69
open PySem PySem.Spec PyProof.Rows L2 TL
def c_is_integer (K : PySem.W.Frag) : CS :=
  (cRet (cAndV (cB (jIsi "int") (cCons (cVar 0) (cCons (cC (.ty "int")) cNil))) (cNotV (cB (jIsi "bool") (cCons (cVar 0) (cCons (cC (.ty "bool")) cNil))))))
def c_is_name (K : PySem.W.Frag) : CS :=
  (cSeq (cIfS (cOr (cNot (cTest (cB (jIsi "str") (cCons (cVar 0) (cCons (cC (.ty "str")) cNil))))) (cNot (cTest (cChain jLe jLe (cC (.int 1)) (cB dLen (cCons (cVar 0) cNil)) (cC (.int 8)))))) (cRet (cC (.bl false))) cNext)
  (cRet (cB jAll (cCons (jLc (ciStr (cVar 0)) (cgName 1) cYes (cBin jIn (cVar 1) (cC (.str ("abcdefghijklmnopqrstuvwxyz" : PySem.Str)))) [1]) cNil))))
def c_are_names (K : PySem.W.Frag) : CS :=
  (cRet (cAndV (cB (jIsi "tuple") (cCons (cVar 0) (cCons (cC (.ty "tuple")) cNil))) (cAndV (cBin jLe (cB dLen (cCons (cVar 0) cNil)) (cC (.int 2))) (cB jAll (cCons (jLc (ciSeq (cVar 0)) (cgName 1) cYes (cCall (T_is_name K) [] (cCons (cVar 1) cNil)) [1]) cNil)))))
def c_is_key_tables (K : PySem.W.Frag) : CS :=
  (cSeq (cIfS (cOr (cNot (cTest (cB (jIsi "tuple") (cCons (cVar 0) (cCons (cC (.ty "tuple")) cNil))))) (cNot (cTest (cB jAll (cCons (jLc (ciSeq (cVar 0)) (cgName 2) cYes (cCall (T_is_name K) [] (cCons (cVar 2) cNil)) [2]) cNil))))) (cRet (cC (.bl false))) cNext)
  (cRet (cBin jEq (cB dList (cCons (cVar 0) cNil)) (jLc (ciSeq (cVar 1)) (cgName 3) (cTest (cBin jIn (cVar 3) (cVar 0))) (cVar 3) [3]))))
def c_Table_init (K : PySem.W.Frag) : CS :=
  (cSeq (cIfS (cOr (cNot (cTest (cCall (T_is_name K) [] (cCons (cVar 1) cNil)))) (cOr (cNot (cTest (cCall (T_are_names K) [] (cCons (cVar 2) cNil)))) (cNot (cTest (cCall (T_are_names K) [] (cCons (cVar 3) cNil)))))) cNever cNext)
  (cSeq (cAsg (cBin dAddX (cVar 2) (cVar 3)) (cgName 5))
  (cSeq (cIfS (cOr (cTest (cBin jEq (cVar 5) (cTup cNil))) (cOr (cTest (cBin jLt (cLenSet (cVar 5)) (cB dLen (cCons (cVar 5) cNil)))) (cNot (cTest (cCall (T_is_key_tables K) [] (cCons (cVar 4) (cCons (cVar 5) cNil))))))) cNever cNext)
  (cSeq (cPutF (He.ga K ("Table" : PySem.Str)) ("name" : PySem.Str) (cVar 0) (cVar 1))
  (cSeq (cPutF (He.ga K ("Table" : PySem.Str)) ("names" : PySem.Str) (cVar 0) (cVar 2))
  (cSeq (cPutF (He.ga K ("Table" : PySem.Str)) ("numbers" : PySem.Str) (cVar 0) (cVar 3))
  (cPutF (He.ga K ("Table" : PySem.Str)) ("key" : PySem.Str) (cVar 0) (cVar 4))))))))
def c_Table_columns (K : PySem.W.Frag) : CS :=
  (cRet (cBin dAddX (cFld (He.ga K ("Table" : PySem.Str)) ("names" : PySem.Str) (cVar 0)) (cFld (He.ga K ("Table" : PySem.Str)) ("numbers" : PySem.Str) (cVar 0))))
def c_fact_of (K : PySem.W.Frag) : CS :=
  (cSeq (cIfS (cTest (cBin jEq (cVar 1) (cC (.str (">=" : PySem.Str))))) (cRet (cTup (cCons (cVar 2) (cCons (cC (.str ("<=" : PySem.Str))) (cCons (cVar 0) cNil))))) cNext)
  (cRet (cTup (cCons (cVar 0) (cCons (cVar 1) (cCons (cVar 2) cNil))))))
def c_strict_in (K : PySem.W.Frag) : CS :=
  (cRet (cB dLen (cCons (jLc (ciSeq (cVar 0)) (cgName 1) (cTest (cBin jEq (cBin dIx (cVar 1) (cC (.int 1))) (cC (.str ("<" : PySem.Str))))) (cC (.int 1)) [1]) cNil)))
def c_chain_end (K : PySem.W.Frag) : CS :=
  (cSeq (cAsg (cVar 1) (cgName 2))
  (cSeq (cFor (ciSeq (cVar 0)) (cgTup 3 (cgsCons (cgName 3) (cgsCons (cgName 4) (cgsCons (cgName 5) cgsNil)))) (cIfS (cTest (cBin jEq (cVar 3) (cVar 2))) (cAsg (cVar 5) (cgName 2)) (cIfS (cAnd (cTest (cBin jEq (cVar 4) (cC (.str ("=" : PySem.Str))))) (cTest (cBin jEq (cVar 5) (cVar 2)))) (cAsg (cVar 3) (cgName 2)) (cRet (cC .non)))))
  (cRet (cVar 2))))
def c_is_chain_clash (K : PySem.W.Frag) : CS :=
  (cSeq (cAsg (cCall (T_chain_end K) [] (cCons (cVar 0) (cCons (cVar 1) cNil))) (cgName 2))
  (cSeq (cIfS (cTest (cBin (dIsN false) (cVar 2) (cC .non))) (cRet (cC (.bl false))) cNext)
  (cSeq (cIfS (cAnd (cTest (cCall (T_is_name K) [] (cCons (cVar 1) cNil))) (cTest (cCall (T_is_name K) [] (cCons (cVar 2) cNil)))) (cRet (cBin jNe (cVar 1) (cVar 2))) cNext)
  (cSeq (cAsg (cCall (T_strict_in K) [] (cCons (cVar 0) cNil)) (cgName 3))
  (cRet (cOrV (cAndV (cBin jEq (cVar 1) (cVar 2)) (cBin jGt (cVar 3) (cC (.int 0)))) (cAndV (cCall (T_is_integer K) [] (cCons (cVar 1) cNil)) (cAndV (cCall (T_is_integer K) [] (cCons (cVar 2) cNil)) (cBin jLt (cVar 2) (cBin dAdd (cVar 1) (cVar 3)))))))))))
def c_is_clash (K : PySem.W.Frag) : CS :=
  (cSeq (cIfS (cOr (cNot (cTest (cB (jIsi "tuple") (cCons (cVar 0) (cCons (cC (.ty "tuple")) cNil))))) (cOr (cTest (cBin jEq (cVar 0) (cTup cNil))) (cNot (cTest (cB jAll (cCons (jLc (ciSeq (cVar 0)) (cgName 8) cYes (cBin jIn (cVar 8) (cVar 1)) [8]) cNil)))))) (cRet (cC (.bl false))) cNext)
  (cSeq (cAsg (cTup (cCons (cBin dIx (cBin dIx (cVar 0) (cC (.int 0))) (cC (.int 0))) (cCons (cBin dIx (cBin dIx (cVar 0) (cC (.int 0))) (cC (.int 2))) cNil))) (cgName 2))
  (cSeq (cAsg (jLc (ciSeq (cVar 0)) (cgName 8) cYes (cBin dIx (cVar 8) (cC (.int 1))) [8]) (cgName 3))
  (cSeq (cIfS (cTest (cBin jNe (cBin jIx (cVar 3) (cC (.int (-1)))) (cC (.str ("!=" : PySem.Str))))) (cRet (cAndV (cBin jNotIn (cC (.str ("!=" : PySem.Str))) (cVar 3)) (cB jAny (cCons (jLc (ciSeq (cVar 2)) (cgName 9) cYes (cCall (T_is_chain_clash K) [] (cCons (cVar 0) (cCons (cVar 9) cNil))) [9]) cNil)))) cNext)
  (cSeq (cAsg (cBin jIx (cVar 0) (cC (.int (-1)))) (cgTup 3 (cgsCons (cgName 4) (cgsCons (cgName 5) (cgsCons (cgName 6) cgsNil)))))
  (cSeq (cIfS (cTest (cBin jEq (cB dLen (cCons (cVar 0) cNil)) (cC (.int 1)))) (cRet (cBin jEq (cVar 4) (cVar 6))) cNext)
  (cSeq (cIfS (cTest (cBin jNe (cSl dSl (cVar 3) cNoP (cPart (cC (.int (-1))))) (cBin dMul (cLst (cCons (cC (.str ("=" : PySem.Str))) cNil)) (cBin dSub (cB dLen (cCons (cVar 3) cNil)) (cC (.int 1)))))) (cRet (cC (.bl false))) cNext)
  (cSeq (cAsg (jLc (ciSeq (cVar 2)) (cgName 9) cYes (cTup (cCons (cVar 9) (cCons (cCall (T_chain_end K) [] (cCons (cSl dSl (cVar 0) cNoP (cPart (cC (.int (-1))))) (cCons (cVar 9) cNil))) cNil))) [9]) (cgName 7))
  (cRet (cOrV (cBin jIn (cTup (cCons (cVar 4) (cCons (cVar 6) cNil))) (cVar 7)) (cBin jIn (cTup (cCons (cVar 6) (cCons (cVar 4) cNil))) (cVar 7))))))))))))
def c_Scene_init (K : PySem.W.Frag) : CS :=
  (cSeq (cPutF (He.ga K ("Scene" : PySem.Str)) ("by_name" : PySem.Str) (cVar 0) (cDc (ciSeq (cVar 1)) (cgName 5) cYes (cFld (He.ga K ("Table" : PySem.Str)) ("name" : PySem.Str) (cVar 5)) (cVar 5) [5]))
  (cSeq (cPutF (He.ga K ("Scene" : PySem.Str)) ("plan" : PySem.Str) (cVar 0) (cVar 2))
  (cSeq (cPutF (He.ga K ("Scene" : PySem.Str)) ("called" : PySem.Str) (cVar 0) (cB dDict (cCons (cVar 3) cNil)))
  (cSeq (cPutF (He.ga K ("Scene" : PySem.Str)) ("numeric" : PySem.Str) (cVar 0) (cB dDict (cCons (cVar 4) cNil)))
  (cSeq (cPutF (He.ga K ("Scene" : PySem.Str)) ("strangers" : PySem.Str) (cVar 0) (cLstM cNil))
  (cSeq (cPutF (He.ga K ("Scene" : PySem.Str)) ("early" : PySem.Str) (cVar 0) (cLst cNil))
  (cSeq (cPutF (He.ga K ("Scene" : PySem.Str)) ("late" : PySem.Str) (cVar 0) (cLst cNil))
  (cSeq (cPutF (He.ga K ("Scene" : PySem.Str)) ("usable" : PySem.Str) (cVar 0) (cLst cNil))
  (cSeq (cPutF (He.ga K ("Scene" : PySem.Str)) ("root" : PySem.Str) (cVar 0) (cLst cNil))
  (cPutF (He.ga K ("Scene" : PySem.Str)) ("wanted" : PySem.Str) (cVar 0) (cLst cNil)))))))))))
def c_Scene_entry (K : PySem.W.Frag) : CS :=
  (cRet (cBin dIx (cBin dIx (cBin dGet (cFld (He.ga K ("Scene" : PySem.Str)) ("called" : PySem.Str) (cVar 0)) (cVar 1)) (cC (.int 1))) (cVar 2)))
def c_Scene_add_stranger (K : PySem.W.Frag) : CS :=
  (cSeq (cAsg (cBin dGet (cFld (He.ga K ("Scene" : PySem.Str)) ("by_name" : PySem.Str) (cVar 0)) (cVar 2)) (cgName 3))
  (cSeq (cPutK (cFld (He.ga K ("Scene" : PySem.Str)) ("called" : PySem.Str) (cVar 0)) (cVar 1) (cTup (cCons (cVar 2) (cCons (cB dTuple (cCons (jLc (ciSeq (cProp (He.ga K ("Table" : PySem.Str)) (T_Table_columns K) (cVar 3))) (cgName 6) cYes (fun σ h Q => cJs [(cFmt (cVar 1)), (cC (.str ("." : PySem.Str))), (cFmt (cVar 6))] Str.empty σ h fun z h1 => Q (.str z) h1) [6]) cNil)) cNil))))
  (cSeq (cFor (ciEnumT (cBin dIx (cBin dGet (cFld (He.ga K ("Scene" : PySem.Str)) ("called" : PySem.Str) (cVar 0)) (cVar 1)) (cC (.int 1)))) (cgTup 2 (cgsCons (cgName 4) (cgsCons (cgName 5) cgsNil))) (cPutK (cFld (He.ga K ("Scene" : PySem.Str)) ("numeric" : PySem.Str) (cVar 0)) (cVar 5) (cBin jGe (cVar 4) (cB dLen (cCons (cFld (He.ga K ("Table" : PySem.Str)) ("names" : PySem.Str) (cVar 3)) cNil)))))
  (cDrop (cBM "list" dAppend (cFld (He.ga K ("Scene" : PySem.Str)) ("strangers" : PySem.Str) (cVar 0)) (cCons (cVar 1) cNil))))))
def c_Scene_facts_at (K : PySem.W.Frag) : CS :=
  (cSeq (cAsg (cLstM cNil) (cgName 3))
  (cSeq (cFor (ciSeq (cFld (He.ga K ("Plan" : PySem.Str)) ("conditions" : PySem.Str) (cVar 1))) (cgTup 3 (cgsCons (cgTup 2 (cgsCons (cgName 4) (cgsCons (cgName 5) cgsNil))) (cgsCons (cgName 6) (cgsCons (cgName 7) cgsNil)))) (cSeq (cAsg (cIf (cTest (cBin jEq (cB dLen (cCons (cVar 7) cNil)) (cC (.int 1)))) (cBin dIx (cVar 7) (cC (.int 0))) (cMeth (He.ga K ("Scene" : PySem.Str)) ("entry" : PySem.Str) (T_Scene_entry K) [] (cVar 0) (cCons (cBin dIx (cVar 2) (cBin dIx (cVar 7) (cC (.int 0)))) (cCons (cBin dIx (cVar 7) (cC (.int 1))) cNil)))) (cgName 8))
  (cDrop (cBM "list" dAppend (cVar 3) (cCons (cCall (T_fact_of K) [] (cCons (cMeth (He.ga K ("Scene" : PySem.Str)) ("entry" : PySem.Str) (T_Scene_entry K) [] (cVar 0) (cCons (cBin dIx (cVar 2) (cVar 4)) (cCons (cVar 5) cNil))) (cCons (cVar 6) (cCons (cVar 8) cNil)))) cNil)))))
  (cRet (cVar 3))))
def c_Scene_kept_at (K : PySem.W.Frag) : CS :=
  (cRet (jLc (ciSeq (cFld (He.ga K ("Plan" : PySem.Str)) ("kept" : PySem.Str) (cVar 1))) (cgTup 2 (cgsCons (cgName 3) (cgsCons (cgName 4) cgsNil))) cYes (cMeth (He.ga K ("Scene" : PySem.Str)) ("entry" : PySem.Str) (T_Scene_entry K) [] (cVar 0) (cCons (cBin dIx (cVar 2) (cVar 3)) (cCons (cVar 4) cNil))) [3, 4]))
def c_is_plain (K : PySem.W.Frag) : CS :=
  (cSeq (cAsg (cLstM (cCons (cVar 0) cNil)) (cgName 1))
  (cSeq (cWhile (cTest (cBin jNe (cVar 1) (cLst cNil))) (cSeq (cAsg (cBM "list" dPop (cVar 1) cNil) (cgName 2))
  (cIfS (cTest (cB (jIsi "tuple") (cCons (cVar 2) (cCons (cC (.ty "tuple")) cNil)))) (cDrop (cBM "list" dExtend (cVar 1) (cCons (cB dList (cCons (cVar 2) cNil)) cNil))) (cIfS (cAnd (cNot (cTest (cB (jIsi "str") (cCons (cVar 2) (cCons (cC (.ty "str")) cNil))))) (cNot (cTest (cCall (T_is_integer K) [] (cCons (cVar 2) cNil))))) (cRet (cC (.bl false))) cNext))))
  (cRet (cC (.bl true)))))
def c_is_tree (K : PySem.W.Frag) : CS :=
  (cSeq (cIfS (cOr (cNot (cTest (cB (jIsi "tuple") (cCons (cVar 2) (cCons (cC (.ty "tuple")) cNil))))) (cTest (cBin jEq (cVar 2) (cTup cNil)))) (cRet (cC (.bl false))) cNext)
  (cSeq (cIfS (cTest (cBin jEq (cBin dIx (cVar 2) (cC (.int 0))) (cC (.str ("clash" : PySem.Str))))) (cRet (cAndV (cBin jEq (cB dLen (cCons (cVar 2) cNil)) (cC (.int 2))) (cCall (T_is_clash K) [] (cCons (cBin dIx (cVar 2) (cC (.int 1))) (cCons (cVar 1) cNil))))) cNext)
  (cSeq cNever
  (cSeq cNever
  (cSeq cNever
  (cSeq cNever
  cNever))))))
def c_Plan_init (K : PySem.W.Frag) : CS :=
  (cSeq (cPutF (He.ga K ("Plan" : PySem.Str)) ("names" : PySem.Str) (cVar 0) (cVar 1))
  (cSeq (cPutF (He.ga K ("Plan" : PySem.Str)) ("conditions" : PySem.Str) (cVar 0) (cVar 2))
  (cSeq (cPutF (He.ga K ("Plan" : PySem.Str)) ("withouts" : PySem.Str) (cVar 0) (cVar 3))
  (cSeq (cPutF (He.ga K ("Plan" : PySem.Str)) ("kept" : PySem.Str) (cVar 0) (cVar 4))
  (cPutF (He.ga K ("Plan" : PySem.Str)) ("kinds" : PySem.Str) (cVar 0) (cVar 5))))))
def c_require (K : PySem.W.Frag) : CS :=
  (cIfS (cNot (cTest (cVar 0))) cNever cNext)
def c_table_with (K : PySem.W.Frag) : CS :=
  (cSeq (cAsg (jLc (ciSeq (cVar 1)) (cgName 3) (cAnd (cTest (cB (jIsi "str") (cCons (cVar 0) (cCons (cC (.ty "str")) cNil)))) (cTest (cBin jEq (cFld (He.ga K ("Table" : PySem.Str)) ("name" : PySem.Str) (cVar 3)) (cVar 0)))) (cVar 3) [3]) (cgName 2))
  (cSeq (cDrop (cCall (T_require K) [] (cCons (cBin jNe (cVar 2) (cLst cNil)) cNil)))
  (cRet (cBin dIx (cVar 2) (cC (.int 0))))))
def c_scope_of (K : PySem.W.Frag) : CS :=
  (cSeq (cDrop (cCall (T_require K) [] (cCons (cAndV (cB (jIsi "tuple") (cCons (cVar 0) (cCons (cC (.ty "tuple")) cNil))) (cChain jLe jLe (cC (.int 1)) (cB dLen (cCons (cVar 0) cNil)) (cVar 1))) cNil)))
  (cSeq (cAsg (cLstM cNil) (cgName 3))
  (cSeq (cFor (ciSeq (cVar 0)) (cgName 4) (cSeq (cDrop (cCall (T_require K) [] (cCons (cAndV (cB (jIsi "tuple") (cCons (cVar 4) (cCons (cC (.ty "tuple")) cNil))) (cAndV (cBin jEq (cB dLen (cCons (cVar 4) cNil)) (cC (.int 2))) (cCall (T_is_name K) [] (cCons (cBin dIx (cVar 4) (cC (.int 0))) cNil)))) cNil)))
  (cDrop (cBM "list" dAppend (cVar 3) (cCons (cTup (cCons (cBin dIx (cVar 4) (cC (.int 0))) (cCons (cCall (T_table_with K) [] (cCons (cBin dIx (cVar 4) (cC (.int 1))) (cCons (cVar 2) cNil))) cNil))) cNil)))))
  (cRet (cVar 3)))))
def c_column_of (K : PySem.W.Frag) : CS :=
  (cSeq (cDrop (cCall (T_require K) [] (cCons (cB (jIsi "str") (cCons (cVar 1) (cCons (cC (.ty "str")) cNil))) cNil)))
  (cSeq (cAsg (cBM "str" dPartition (cVar 1) (cCons (cC (.str ("." : PySem.Str))) cNil)) (cgTup 3 (cgsCons (cgName 2) (cgsCons (cgName 3) (cgsCons (cgName 4) cgsNil)))))
  (cSeq (cFor (ciEnum (cVar 0)) (cgTup 2 (cgsCons (cgName 5) (cgsCons (cgTup 2 (cgsCons (cgName 6) (cgsCons (cgName 7) cgsNil))) cgsNil))) (cIfS (cAnd (cTest (cBin jEq (cVar 6) (cVar 2))) (cAnd (cTest (cBin jEq (cVar 3) (cC (.str ("." : PySem.Str))))) (cTest (cBin jIn (cVar 4) (cProp (He.ga K ("Table" : PySem.Str)) (T_Table_columns K) (cVar 7)))))) (cRet (cTup (cCons (cVar 5) (cCons (cTIx (cProp (He.ga K ("Table" : PySem.Str)) (T_Table_columns K) (cVar 7)) (cVar 4)) cNil)))) cNext))
  cNever)))
def c_is_name_column (K : PySem.W.Frag) : CS :=
  (cSeq (cAsg (cVar 1) (cgTup 2 (cgsCons (cgName 2) (cgsCons (cgName 3) cgsNil))))
  (cRet (cBin jLt (cVar 3) (cB dLen (cCons (cFld (He.ga K ("Table" : PySem.Str)) ("names" : PySem.Str) (cBin dIx (cBin dIx (cVar 0) (cVar 2)) (cC (.int 1)))) cNil)))))
def c_name_operand (K : PySem.W.Frag) : CS :=
  (cSeq (cIfS (cTest (cCall (T_is_name K) [] (cCons (cVar 1) cNil))) (cRet (cTup (cCons (cVar 1) cNil))) cNext)
  (cSeq (cAsg (cCall (T_column_of K) [] (cCons (cVar 0) (cCons (cVar 1) cNil))) (cgName 2))
  (cSeq (cDrop (cCall (T_require K) [] (cCons (cCall (T_is_name_column K) [] (cCons (cVar 0) (cCons (cVar 2) cNil))) cNil)))
  (cRet (cVar 2)))))
def c_number_operand (K : PySem.W.Frag) : CS :=
  (cSeq (cIfS (cTest (cCall (T_is_integer K) [] (cCons (cVar 2) cNil))) (cRet (cTup (cCons (cVar 2) cNil))) cNext)
  (cSeq (cAsg (cCall (T_column_of K) [] (cCons (cVar 0) (cCons (cVar 2) cNil))) (cgName 3))
  (cSeq (cDrop (cCall (T_require K) [] (cCons (cNotV (cCall (T_is_name_column K) [] (cCons (cVar 0) (cCons (cVar 3) cNil)))) cNil)))
  (cSeq (cDrop (cCall (T_require K) [] (cCons (cOrV (cBin jNe (cFld (He.ga K ("Table" : PySem.Str)) ("name" : PySem.Str) (cBin dIx (cBin dIx (cVar 0) (cBin dIx (cVar 1) (cC (.int 0)))) (cC (.int 1)))) (cFld (He.ga K ("Table" : PySem.Str)) ("name" : PySem.Str) (cBin dIx (cBin dIx (cVar 0) (cBin dIx (cVar 3) (cC (.int 0)))) (cC (.int 1))))) (cBin jEq (cBin dIx (cVar 1) (cC (.int 1))) (cBin dIx (cVar 3) (cC (.int 1))))) cNil)))
  (cRet (cVar 3))))))
def c_condition_of (K : PySem.W.Frag) : CS :=
  (cSeq (cDrop (cCall (T_require K) [] (cCons (cAndV (cB (jIsi "tuple") (cCons (cVar 1) (cCons (cC (.ty "tuple")) cNil))) (cAndV (cBin jEq (cB dLen (cCons (cVar 1) cNil)) (cC (.int 3))) (cB (jIsi "str") (cCons (cBin dIx (cVar 1) (cC (.int 1))) (cCons (cC (.ty "str")) cNil))))) cNil)))
  (cSeq (cAsg (cCall (T_column_of K) [] (cCons (cVar 0) (cCons (cBin dIx (cVar 1) (cC (.int 0))) cNil))) (cgName 2))
  (cSeq (cIfS (cTest (cCall (T_is_name_column K) [] (cCons (cVar 0) (cCons (cVar 2) cNil)))) (cSeq (cDrop (cCall (T_require K) [] (cCons (cBin jIn (cBin dIx (cVar 1) (cC (.int 1))) (cC (.tup (([("=" : PySem.Str), ("!=" : PySem.Str)] : List PySem.Str).map D.str)))) cNil)))
  (cRet (cTup (cCons (cVar 2) (cCons (cBin dIx (cVar 1) (cC (.int 1))) (cCons (cCall (T_name_operand K) [] (cCons (cVar 0) (cCons (cBin dIx (cVar 1) (cC (.int 2))) cNil))) cNil)))))) cNext)
  (cSeq (cDrop (cCall (T_require K) [] (cCons (cBin jIn (cBin dIx (cVar 1) (cC (.int 1))) (cC (.tup (([("=" : PySem.Str), ("!=" : PySem.Str), ("<=" : PySem.Str), (">=" : PySem.Str)] : List PySem.Str).map D.str)))) cNil)))
  (cRet (cTup (cCons (cVar 2) (cCons (cBin dIx (cVar 1) (cC (.int 1))) (cCons (cCall (T_number_operand K) [] (cCons (cVar 0) (cCons (cVar 2) (cCons (cBin dIx (cVar 1) (cC (.int 2))) cNil)))) cNil)))))))))
def c_conditions_of (K : PySem.W.Frag) : CS :=
  (cSeq (cDrop (cCall (T_require K) [] (cCons (cB (jIsi "tuple") (cCons (cVar 1) (cCons (cC (.ty "tuple")) cNil))) cNil)))
  (cRet (cB dTuple (cCons (jLc (ciSeq (cVar 1)) (cgName 2) cYes (cCall (T_condition_of K) [] (cCons (cVar 0) (cCons (cVar 2) cNil))) [2]) cNil))))
def c_plan_of (K : PySem.W.Frag) : CS :=
  (cSeq (cAsg (cCall (T_scope_of K) [] (cCons (cFld (He.ga K ("Select" : PySem.Str)) ("uses" : PySem.Str) (cVar 0)) (cCons (cC (.int 3)) (cCons (cVar 1) cNil)))) (cgName 2))
  (cSeq (cAsg (cCall (T_conditions_of K) [] (cCons (cVar 2) (cCons (cFld (He.ga K ("Select" : PySem.Str)) ("where" : PySem.Str) (cVar 0)) cNil))) (cgName 3))
  (cSeq (cAsg (jLc (ciSeq (cVar 2)) (cgTup 2 (cgsCons (cgName 11) (cgsCons (cgName 12) cgsNil))) cYes (cVar 11) [11, 12]) (cgName 4))
  (cSeq (cDrop (cCall (T_require K) [] (cCons (cAndV (cB (jIsi "tuple") (cCons (cFld (He.ga K ("Select" : PySem.Str)) ("without" : PySem.Str) (cVar 0)) (cCons (cC (.ty "tuple")) cNil))) (cBin jLe (cB dLen (cCons (cFld (He.ga K ("Select" : PySem.Str)) ("without" : PySem.Str) (cVar 0)) cNil)) (cC (.int 2)))) cNil)))
  (cSeq (cAsg (cLst cNil) (cgName 5))
  (cSeq (cFor (ciSeq (cFld (He.ga K ("Select" : PySem.Str)) ("without" : PySem.Str) (cVar 0))) (cgName 6) cNever)
  (cSeq (cDrop (cCall (T_require K) [] (cCons (cBin jEq (cLenSet (cVar 4)) (cB dLen (cCons (cVar 4) cNil))) cNil)))
  (cSeq (cAsg (cB dTuple (cCons (jLc (ciSeq (cMeth (He.ga K ("Select" : PySem.Str)) ("kept_columns" : PySem.Str) (T_Select_kept_columns K) [] (cVar 0) cNil)) (cgName 13) cYes (cCall (T_column_of K) [] (cCons (cVar 2) (cCons (cVar 13) cNil))) [13]) cNil)) (cgName 9))
  (cSeq (cAsg (cB dTuple (cCons (jLc (ciSeq (cVar 9)) (cgName 13) cYes (cIf (cTest (cCall (T_is_name_column K) [] (cCons (cVar 2) (cCons (cVar 13) cNil)))) (cC (.str ("name" : PySem.Str))) (cC (.str ("number" : PySem.Str)))) [13]) cNil)) (cgName 10))
  (cRet (cNewF (He.ga K ("Plan" : PySem.Str)) (T_Plan_init K) [] (cCons (cB dTuple (cCons (jLc (ciSeq (cVar 2)) (cgTup 2 (cgsCons (cgName 11) (cgsCons (cgName 12) cgsNil))) cYes (cFld (He.ga K ("Table" : PySem.Str)) ("name" : PySem.Str) (cVar 12)) [11, 12]) cNil)) (cCons (cVar 3) (cCons (cB dTuple (cCons (cVar 5) cNil)) (cCons (cVar 9) (cCons (cVar 10) cNil))))))))))))))))
def c_Question_fits (K : PySem.W.Frag) : CS :=
  (cSeq (cDrop (cMethS (He.ga K ("Select" : PySem.Str)) ("check" : PySem.Str) (starT 1 (T_Select_check K)) (cVar 0) (cVar 1)))
  (cRet (cC (.bl true))))
def c_Select_init (K : PySem.W.Frag) : CS :=
  (cSeq (cPutF (He.ga K ("Select" : PySem.Str)) ("uses" : PySem.Str) (cVar 0) (cVar 1))
  (cSeq (cPutF (He.ga K ("Select" : PySem.Str)) ("keep" : PySem.Str) (cVar 0) (cVar 2))
  (cSeq (cPutF (He.ga K ("Select" : PySem.Str)) ("where" : PySem.Str) (cVar 0) (cVar 3))
  (cPutF (He.ga K ("Select" : PySem.Str)) ("without" : PySem.Str) (cVar 0) (cVar 4)))))
def c_Select_kept_columns (K : PySem.W.Frag) : CS :=
  (cSeq (cDrop (cCall (T_require K) [] (cCons (cAndV (cB (jIsi "tuple") (cCons (cFld (He.ga K ("Select" : PySem.Str)) ("keep" : PySem.Str) (cVar 0)) (cCons (cC (.ty "tuple")) cNil))) (cChain jLe jLe (cC (.int 1)) (cB dLen (cCons (cFld (He.ga K ("Select" : PySem.Str)) ("keep" : PySem.Str) (cVar 0)) cNil)) (cC (.int 4)))) cNil)))
  (cRet (cFld (He.ga K ("Select" : PySem.Str)) ("keep" : PySem.Str) (cVar 0))))
def c_Select_check (K : PySem.W.Frag) : CS :=
  (cDrop (cCall (T_plan_of K) [] (cCons (cVar 0) (cCons (cVar 1) cNil))))
def c_check_select (K : PySem.W.Frag) : CS :=
  (cSeq (cIfS (cOr (cNot (cTest (cB (dIsiC (He.ga K ("Select" : PySem.Str))) (cCons (cVar 0) (cCons (cC (.gl (He.ga K ("Select" : PySem.Str)))) cNil))))) (cNot (cTest (cMethS (He.ga K ("Select" : PySem.Str)) ("fits" : PySem.Str) (starT 1 (T_Question_fits K)) (cVar 0) (cVar 1))))) cNever cNext)
  (cSeq (cAsg (cBin dAdd (cB dLen (cCons (cFld (He.ga K ("Select" : PySem.Str)) ("where" : PySem.Str) (cVar 0)) cNil)) (cB dLen (cCons (cFld (He.ga K ("Select" : PySem.Str)) ("keep" : PySem.Str) (cVar 0)) cNil))) (cgName 2))
  (cIfS (cOr (cTest (cBin jNe (cFld (He.ga K ("Select" : PySem.Str)) ("without" : PySem.Str) (cVar 0)) (cTup cNil))) (cOr (cTest (cBin jGt (cB dLen (cCons (cFld (He.ga K ("Select" : PySem.Str)) ("uses" : PySem.Str) (cVar 0)) cNil)) (cC (.int 2)))) (cTest (cBin jGt (cVar 2) (cC (.int 6)))))) cNever cNext)))
def c_check_selects (K : PySem.W.Frag) : CS :=
  (cSeq (cDrop (cCall (T_check_select K) [] (cCons (cVar 0) (cCons (cVar 2) cNil))))
  (cSeq (cDrop (cCall (T_check_select K) [] (cCons (cVar 1) (cCons (cVar 2) cNil))))
  (cIfS (cTest (cBin jNe (cFld (He.ga K ("Plan" : PySem.Str)) ("kinds" : PySem.Str) (cCall (T_plan_of K) [] (cCons (cVar 0) (cCons (cVar 2) cNil)))) (cFld (He.ga K ("Plan" : PySem.Str)) ("kinds" : PySem.Str) (cCall (T_plan_of K) [] (cCons (cVar 1) (cCons (cVar 2) cNil)))))) cNever cNext)))
def c_pair_scene (K : PySem.W.Frag) : CS :=
  (cSeq (cAsg (cCall (T_plan_of K) [] (cCons (cVar 0) (cCons (cVar 2) cNil))) (cgName 3))
  (cSeq (cAsg (cNewM (He.ga K ("Scene" : PySem.Str)) (T_Scene_init K) [] (cCons (cVar 2) (cCons (cCall (T_plan_of K) [] (cCons (cVar 1) (cCons (cVar 2) cNil))) (cCons (fun _ h Q => Q (.ref h.length) (h ++ [.dct []])) (cCons (fun _ h Q => Q (.ref h.length) (h ++ [.dct []])) cNil))))) (cgName 4))
  (cSeq (cFor (ciSeq (cFld (He.ga K ("Select" : PySem.Str)) ("uses" : PySem.Str) (cVar 0))) (cgTup 2 (cgsCons (cgName 5) (cgsCons (cgName 6) cgsNil))) (cDrop (cMeth (He.ga K ("Scene" : PySem.Str)) ("add_stranger" : PySem.Str) (T_Scene_add_stranger K) [] (cVar 4) (cCons (cVar 5) (cCons (cVar 6) cNil)))))
  (cSeq (cAsg (cB dList (cCons (cFld (He.ga K ("Scene" : PySem.Str)) ("strangers" : PySem.Str) (cVar 4)) cNil)) (cgName 7))
  (cSeq (cPutF (He.ga K ("Scene" : PySem.Str)) ("early" : PySem.Str) (cVar 4) (cVar 7))
  (cSeq (cPutF (He.ga K ("Scene" : PySem.Str)) ("usable" : PySem.Str) (cVar 4) (cVar 7))
  (cSeq (cPutF (He.ga K ("Scene" : PySem.Str)) ("root" : PySem.Str) (cVar 4) (cMeth (He.ga K ("Scene" : PySem.Str)) ("facts_at" : PySem.Str) (T_Scene_facts_at K) [] (cVar 4) (cCons (cVar 3) (cCons (cVar 7) cNil))))
  (cSeq (cPutF (He.ga K ("Scene" : PySem.Str)) ("wanted" : PySem.Str) (cVar 4) (cMeth (He.ga K ("Scene" : PySem.Str)) ("kept_at" : PySem.Str) (T_Scene_kept_at K) [] (cVar 4) (cCons (cVar 3) (cCons (cVar 7) cNil))))
  (cRet (cVar 4))))))))))
def c_within_holds (K : PySem.W.Frag) : CS :=
  (cSeq (cDrop (cCall (T_check_selects K) [] (cCons (cVar 0) (cCons (cVar 1) (cCons (cVar 3) cNil)))))
  (cSeq (cAsg (cCall (T_pair_scene K) [] (cCons (cVar 0) (cCons (cVar 1) (cCons (cVar 3) cNil)))) (cgName 4))
  (cRet (cAndV (cCall (T_is_plain K) [] (cCons (cVar 2) cNil)) (cCall (T_is_tree K) [] (cCons (cVar 4) (cCons (cFld (He.ga K ("Scene" : PySem.Str)) ("root" : PySem.Str) (cVar 4)) (cCons (cVar 2) cNil))))))))
def c__law_deck (K : PySem.W.Frag) : CS :=
  (cSeq (cPar 1 2 (cB dList (cCons (cSl dSl (cVar 0) cNoP (cPart (cC (.int 63)))) cNil)) (cC (.int 69029)))
  (cSeq (cFor (ciSeq (cVar 1)) (cgName 3) (cAsg (cBin dMod (cBin dAdd (cBin dAdd (cBin dMul (cVar 2) (cC (.int 48271))) (cBin dMod (cVar 3) (cC (.int 2147483629)))) (cC (.int 43))) (cC (.int 2147483587))) (cgName 2)))
  (cRet (cDisp [((cC (.str ("cells" : PySem.Str))), (cBackLM (cVar 1))), ((cC (.str ("total" : PySem.Str))), (cVar 2)), ((cC (.str ("draws" : PySem.Str))), (cC (.int 0)))]))))
def c__law_draw (K : PySem.W.Frag) : CS :=
  (cSeq (cPar 2 3 (cBin dAdd (cBin dGet (cVar 0) (cC (.str ("draws" : PySem.Str)))) (cC (.int 1))) (cBin dGet (cVar 0) (cC (.str ("total" : PySem.Str)))))
  (cSeq (cPutK (cVar 0) (cC (.str ("draws" : PySem.Str))) (cVar 2))
  (cSeq (cIfS (cTest (cBin jNe (cBin dGet (cVar 0) (cC (.str ("cells" : PySem.Str)))) (cLst cNil))) (cSeq (cAsg (cBM "list" dPop (cBin dGet (cVar 0) (cC (.str ("cells" : PySem.Str)))) cNil) (cgName 3))
  (cSeq (cIfS (cTest (cBin jGe (cVar 3) (cBin dPow (cC (.int 10)) (cC (.int 18))))) (cSeq (cDrop (cBM "list" dAppend (cBin dGet (cVar 0) (cC (.str ("cells" : PySem.Str)))) (cCons (cBin dDiv (cVar 3) (cVar 1)) cNil)))
  (cRet (cBin dMod (cVar 3) (cVar 1)))) cNext)
  (cAsg (cBin dAdd (cVar 3) (cBin dGet (cVar 0) (cC (.str ("total" : PySem.Str))))) (cgName 3)))) cNext)
  (cSeq (cAsg (cBin dMod (cBin dMul (cBin dAdd (cBin dAdd (cBin dMod (cVar 3) (cC (.int 2147483629))) (cBin dMul (cBin dMul (cC (.int 65539)) (cVar 2)) (cVar 2))) (cC (.int 43))) (cC (.int 40692))) (cC (.int 2147483647))) (cgName 4))
  (cSeq (cAsg (cBin dMod (cBin dAdd (cBin dAdd (cBin dMul (cVar 4) (cVar 4)) (cBin dMul (cC (.int 69621)) (cVar 2))) (cC (.int 41))) (cC (.int 2147483587))) (cgName 4))
  (cRet (cBin dMod (cBin dDiv (cBin dMod (cBin dMul (cVar 4) (cC (.int 39373))) (cC (.int 2147483563))) (cC (.int 64))) (cVar 1))))))))
def c__law_pick (K : PySem.W.Frag) : CS :=
  (cRet (cBin dIx (cVar 1) (cCall (T__law_draw K) [] (cCons (cVar 0) (cCons (cB dLen (cCons (cVar 1) cNil)) cNil)))))
def c__law_first (K : PySem.W.Frag) : CS :=
  (cSeq (cPar 1 2 (cLst (cCons (cC (.str ("u.a" : PySem.Str))) (cCons (cC (.str ("u.b" : PySem.Str))) (cCons (cC (.str ("v.c" : PySem.Str))) (cCons (cC (.str ("v.d" : PySem.Str))) cNil))))) (cLst (cCons (cC (.str ("u.p" : PySem.Str))) (cCons (cC (.str ("v.r" : PySem.Str))) (cCons (cC (.str ("u.q" : PySem.Str))) (cCons (cC (.str ("v.w" : PySem.Str))) cNil))))))
  (cSeq (cPar 3 4 (cBin jGt (cCall (T__law_draw K) [] (cCons (cVar 0) (cCons (cC (.int 3)) cNil))) (cC (.int 0))) (cLstM cNil))
  (cSeq (cAsg (cCall (T__law_pick K) [] (cCons (cVar 0) (cCons (cIf (cTest (cVar 3)) (cVar 2) (cVar 1)) cNil))) (cgName 5))
  (cSeq (cAsg (cVar 5) (cgName 6))
  (cSeq (cAsg (cIf (cTest (cVar 3)) (cVar 2) (cVar 1)) (cgName 7))
  (cSeq (cFor (ciRange1 (cBin dAdd (cC (.int 1)) (cCall (T__law_draw K) [] (cCons (cVar 0) (cCons (cC (.int 5)) cNil))))) (cgName 8) (cSeq (cPar 9 10 (cCall (T__law_draw K) [] (cCons (cVar 0) (cCons (cC (.int 6)) cNil))) (cVar 1))
  (cSeq (cPar 11 12 (cCall (T__law_pick K) [] (cCons (cVar 0) (cCons (cLst (cCons (cC (.str ("=" : PySem.Str))) (cCons (cC (.str ("=" : PySem.Str))) (cCons (cC (.str ("=" : PySem.Str))) (cCons (cC (.str ("!=" : PySem.Str))) cNil))))) cNil))) (cCall (T__law_pick K) [] (cCons (cVar 0) (cCons (cLst (cCons (cC (.str ("ann" : PySem.Str))) (cCons (cC (.str ("bo" : PySem.Str))) cNil))) cNil))))
  (cSeq (cIfS (cTest (cVar 3)) (cSeq (cAsg (cBin dAdd (jLc (ciSeq (cVar 2)) (cgName 13) (cTest (cBin jNe (cBin dIx (cVar 13) (cC (.int 0))) (cBin dIx (cVar 5) (cC (.int 0))))) (cVar 13) [13]) (cLst (cCons (cVar 5) cNil))) (cgName 10))
  (cPar 11 12 (cCall (T__law_pick K) [] (cCons (cVar 0) (cCons (cLst (cCons (cC (.str ("<=" : PySem.Str))) (cCons (cC (.str ("<=" : PySem.Str))) (cCons (cC (.str (">=" : PySem.Str))) (cCons (cC (.str ("=" : PySem.Str))) (cCons (cC (.str ("!=" : PySem.Str))) cNil)))))) cNil))) (cCall (T__law_draw K) [] (cCons (cVar 0) (cCons (cC (.int 4)) cNil))))) cNext)
  (cSeq (cIfS (cTest (cBin jGt (cVar 9) (cC (.int 0)))) (cAsg (cCall (T__law_pick K) [] (cCons (cVar 0) (cCons (cBin dAdd (cVar 10) (cBin dMul (cBin dMul (cLst (cCons (cVar 6) cNil)) (cC (.int 2))) (cB dInt (cCons (cAndV (cBin jEq (cVar 9) (cC (.int 1))) (cBin jIn (cVar 6) (cVar 10))) cNil)))) cNil))) (cgName 12)) cNext)
  (cSeq (cDrop (cBM "list" dAppend (cVar 4) (cCons (cTup (cCons (cVar 5) (cCons (cVar 11) (cCons (cVar 12) cNil)))) cNil)))
  (cAsg (cIf (cTest (cBin jIn (cVar 12) (cVar 7))) (cVar 12) (cCall (T__law_pick K) [] (cCons (cVar 0) (cCons (cVar 7) cNil)))) (cgName 5))))))))
  (cRet (cB dTuple (cCons (cVar 4) cNil)))))))))
def c__law_facts (K : PySem.W.Frag) : CS :=
  (cRet (jLc (ciSeq (cVar 0)) (cgTup 3 (cgsCons (cgName 1) (cgsCons (cgName 2) (cgsCons (cgName 3) cgsNil)))) cYes (cIf (cTest (cBin jEq (cVar 2) (cC (.str (">=" : PySem.Str))))) (cTup (cCons (cVar 3) (cCons (cC (.str ("<=" : PySem.Str))) (cCons (cVar 1) cNil)))) (cTup (cCons (cVar 1) (cCons (cVar 2) (cCons (cVar 3) cNil))))) [1, 2, 3]))
def c__law_chains (K : PySem.W.Frag) : CS :=
  (cSeq (cAsg (cB dTuple (cCons (cVar 1) cNil)) (cgName 2))
  (cSeq (cAsg (cLstM (cCons (cVar 2) (cCons (cBackT (cVar 2)) (cCons (cTup cNil) (cCons (cBin dAdd (cVar 2) (cVar 2)) (cCons (cSl dSl (cVar 2) (cPart (cC (.int 1))) cNoP) (cCons (cSl dSl (cVar 2) cNoP (cPart (cC (.int (-1))))) cNil))))))) (cgName 3))
  (cSeq (cFor (ciRange1 (cC (.int 10))) (cgName 4) (cSeq (cPar 5 6 (cB dListM (cCons (cVar 2) cNil)) (cTup cNil))
  (cSeq (cFor (ciRange1 (cBin dAdd (cC (.int 1)) (cCall (T__law_draw K) [] (cCons (cVar 0) (cCons (cB dLen (cCons (cVar 2) cNil)) cNil))))) (cgName 7) (cAsg (cBin dAdd (cVar 6) (cTup (cCons (cBM "list" dPop (cVar 5) (cCons (cCall (T__law_draw K) [] (cCons (cVar 0) (cCons (cB dLen (cCons (cVar 5) cNil)) cNil))) cNil)) cNil))) (cgName 6)))
  (cSeq (cDrop (cBM "list" dAppend (cVar 3) (cCons (cVar 6) cNil)))
  (cSeq (cAsg (cCall (T__law_pick K) [] (cCons (cVar 0) (cCons (cVar 6) cNil))) (cgTup 3 (cgsCons (cgName 8) (cgsCons (cgName 9) (cgsCons (cgName 10) cgsNil)))))
  (cSeq (cAsg (cLst (cCons (cTup (cCons (cVar 10) (cCons (cVar 9) (cCons (cVar 8) cNil)))) (cCons (cTup (cCons (cVar 8) (cCons (cC (.str ("<" : PySem.Str))) (cCons (cVar 10) cNil)))) (cCons (cTup (cCons (cVar 8) (cCons (cC (.str ("=" : PySem.Str))) (cCons (cVar 10) cNil)))) (cCons (cTup (cCons (cVar 8) (cCons (cVar 9) (cCons (cC (.int 9)) cNil)))) (cCons (cTup (cCons (cVar 8) (cCons (cVar 9) cNil))) cNil)))))) (cgName 11))
  (cDrop (cBM "list" dAppend (cVar 3) (cCons (cBin dAdd (cSl dSl (cVar 6) cNoP (cPart (cC (.int (-1))))) (cTup (cCons (cCall (T__law_pick K) [] (cCons (cVar 0) (cCons (cBin dAdd (cVar 11) (cLst (cCons (cLst (cCons (cVar 8) (cCons (cVar 9) (cCons (cVar 10) cNil)))) cNil))) cNil))) cNil))) cNil)))))))))
  (cSeq (cFor (ciSeq (cVar 1)) (cgName 8) (cDrop (cBM "list" dExtend (cVar 3) (cCons (cBin dAdd (cLst (cCons (cTup (cCons (cVar 8) cNil)) (cCons (cTup (cCons (cVar 8) (cCons (cVar 8) cNil))) cNil))) (jLc (ciSeq (cVar 1)) (cgName 10) cYes (cTup (cCons (cVar 8) (cCons (cVar 10) cNil))) [10])) cNil))))
  (cSeq (cAsg (cTup (cCons (cCall (T__law_pick K) [] (cCons (cVar 0) (cCons (cVar 1) cNil))) (cCons (cCall (T__law_pick K) [] (cCons (cVar 0) (cCons (cLst (cCons (cC (.int 40)) (cCons (cC (.int 40)) (cCons (cC (.int 40)) (cCons (cC (.int 400)) (cCons (cC (.int 1400)) cNil)))))) cNil))) cNil))) (cgTup 2 (cgsCons (cgName 8) (cgsCons (cgName 12) cgsNil))))
  (cSeq (cDrop (cBM "list" dExtend (cVar 3) (cCons (cBin dAdd (jLc (ciSeq (cVar 1)) (cgName 10) cYes (cBin dAdd (cBin dMul (cTup (cCons (cVar 8) cNil)) (cVar 12)) (cTup (cCons (cVar 10) cNil))) [10]) (jLc (ciSeq (cVar 1)) (cgName 10) cYes (cBin dAdd (cBin dMul (cTup (cCons (cVar 8) cNil)) (cBin dAdd (cVar 12) (cC (.int 1)))) (cTup (cCons (cVar 10) cNil))) [10])) cNil)))
  (cRet (cBin dAdd (cBin dAdd (cVar 3) (cLst (cCons (cBin dMul (cTup (cCons (cVar 8) cNil)) (cVar 12)) (cCons (cBin dMul (cTup (cCons (cVar 8) cNil)) (cBin dAdd (cVar 12) (cC (.int 1)))) (cCons (cBin dMul (cVar 2) (cBin dDiv (cVar 12) (cC (.int 4)))) cNil))))) (jLc (ciSeq (cVar 1)) (cgName 10) cYes (cBin dMul (cTup (cCons (cVar 8) (cCons (cVar 10) cNil))) (cVar 12)) [10])))))))))
def c__law_is_plain (K : PySem.W.Frag) (TR : TSp) : CS :=
  (cSeq (cIfS (cTest (cB (jIsi "tuple") (cCons (cVar 0) (cCons (cC (.ty "tuple")) cNil)))) (cRet (cBin jEq (jLc (ciSeq (cVar 0)) (cgName 1) (cNot (cTest (cCall TR [] (cCons (cVar 1) cNil)))) (cVar 1) [1]) (cLst cNil))) cNext)
  (cRet (cAndV (cIsiP "str" "int" (cVar 0)) (cNotV (cB (jIsi "bool") (cCons (cVar 0) (cCons (cC (.ty "bool")) cNil)))))))
def c__law_ends (K : PySem.W.Frag) : CS :=
  (cSeq (cAsg (cBin dIx (cVar 0) (cC (.int 0))) (cgTup 3 (cgsCons (cgName 1) (cgsCons (cgName 2) (cgsCons (cgName 3) cgsNil)))))
  (cSeq (cAsg (cBin dAdd (cLst (cCons (cTup (cCons (cVar 1) (cCons (cVar 3) cNil))) cNil)) (cBin dMul (cLst (cCons (cTup (cCons (cVar 3) (cCons (cVar 1) cNil))) cNil)) (cB dInt (cCons (cBin jEq (cVar 2) (cC (.str ("=" : PySem.Str)))) cNil)))) (cgName 4))
  (cSeq (cFor (ciSeq (cSl dSl (cVar 0) (cPart (cC (.int 1))) cNoP)) (cgTup 3 (cgsCons (cgName 1) (cgsCons (cgName 2) (cgsCons (cgName 3) cgsNil)))) (cSeq (cAsg (jLc (ciSeq (cVar 4)) (cgTup 2 (cgsCons (cgName 7) (cgsCons (cgName 8) cgsNil))) (cTest (cBin jEq (cVar 8) (cVar 1))) (cTup (cCons (cVar 7) (cCons (cVar 3) cNil))) [7, 8]) (cgName 5))
  (cSeq (cAsg (cBin dAdd (cVar 5) (jLc (ciSeq (cVar 4)) (cgTup 2 (cgsCons (cgName 7) (cgsCons (cgName 8) cgsNil))) (cAnd (cTest (cBin jEq (cVar 8) (cVar 3))) (cTest (cBin jEq (cVar 2) (cC (.str ("=" : PySem.Str)))))) (cTup (cCons (cVar 7) (cCons (cVar 1) cNil))) [7, 8])) (cgName 6))
  (cAsg (jLc (ciEnum (cVar 6)) (cgTup 2 (cgsCons (cgName 9) (cgsCons (cgName 10) cgsNil))) (cTest (cBin jNotIn (cVar 10) (cSl dSl (cVar 6) cNoP (cPart (cVar 9))))) (cVar 10) [9, 10]) (cgName 4)))))
  (cRet (cVar 4)))))
def c__law_is_constant (K : PySem.W.Frag) : CS :=
  (cRet (cAndV (cB (jIsi "str") (cCons (cVar 0) (cCons (cC (.ty "str")) cNil))) (cAndV (cBin jNe (cSl dSl (cVar 0) cNoP (cPart (cC (.int 1)))) (cC (.str ("?" : PySem.Str)))) (cBin jNotIn (cC (.str ("." : PySem.Str))) (cVar 0)))))
def c__law_is_clash (K : PySem.W.Frag) : CS :=
  (cSeq (cIfS (cOr (cNot (cTest (cB (jIsi "tuple") (cCons (cVar 1) (cCons (cC (.ty "tuple")) cNil))))) (cOr (cTest (cBin jEq (cVar 1) (cTup cNil))) (cTest (cBin jNe (jLc (ciSeq (cVar 1)) (cgName 3) (cTest (cBin jNotIn (cVar 3) (cVar 0))) (cVar 3) [3]) (cLst cNil))))) (cRet (cC (.bl false))) cNext)
  (cSeq (cAsg (jLc (ciSeq (cVar 1)) (cgName 3) cYes (cBin dIx (cVar 3) (cC (.int 1))) [3]) (cgName 2))
  (cSeq (cIfS (cTest (cBin jEq (cBin jIx (cVar 2) (cC (.int (-1)))) (cC (.str ("!=" : PySem.Str))))) (cSeq (cAsg (cBin jIx (cVar 1) (cC (.int (-1)))) (cgTup 3 (cgsCons (cgName 3) (cgsCons (cgName 4) (cgsCons (cgName 5) cgsNil)))))
  (cSeq (cIfS (cTest (cBin jEq (cB dLen (cCons (cVar 1) cNil)) (cC (.int 1)))) (cRet (cBin jEq (cVar 3) (cVar 5))) cNext)
  (cSeq (cAsg (cIf (cTest (cBin jEq (cBM "list" dCount (cSl dSl (cVar 2) cNoP (cPart (cC (.int (-1))))) (cCons (cC (.str ("=" : PySem.Str))) cNil)) (cBin dSub (cB dLen (cCons (cVar 1) cNil)) (cC (.int 1))))) (cCall (T__law_ends K) [] (cCons (cSl dSl (cVar 1) cNoP (cPart (cC (.int (-1))))) cNil)) (cLst cNil)) (cgName 6))
  (cRet (cOrV (cBin jIn (cTup (cCons (cVar 3) (cCons (cVar 5) cNil))) (cVar 6)) (cBin jIn (cTup (cCons (cVar 5) (cCons (cVar 3) cNil))) (cVar 6))))))) cNext)
  (cSeq (cAsg (cBM "list" dCount (cVar 2) (cCons (cC (.str ("<" : PySem.Str))) cNil)) (cgName 7))
  (cSeq (cFor (ciSeq (cBin dMul (cCall (T__law_ends K) [] (cCons (cVar 1) cNil)) (cB dInt (cCons (cBin jNotIn (cC (.str ("!=" : PySem.Str))) (cVar 2)) cNil)))) (cgTup 2 (cgsCons (cgName 8) (cgsCons (cgName 9) cgsNil))) (cIfS (cAnd (cTest (cCall (T__law_is_constant K) [] (cCons (cVar 8) cNil))) (cTest (cCall (T__law_is_constant K) [] (cCons (cVar 9) cNil)))) (cIfS (cTest (cBin jNe (cVar 8) (cVar 9))) (cRet (cC (.bl true))) cNext) (cIfS (cOr (cAnd (cTest (cBin jEq (cVar 8) (cVar 9))) (cTest (cBin jGt (cVar 7) (cC (.int 0))))) (cAnd (cTest (cB (jIsi "int") (cCons (cVar 8) (cCons (cC (.ty "int")) cNil)))) (cAnd (cTest (cB (jIsi "int") (cCons (cVar 9) (cCons (cC (.ty "int")) cNil)))) (cTest (cBin jLt (cVar 9) (cBin dAdd (cVar 8) (cVar 7))))))) (cRet (cC (.bl true))) cNext)))
  (cRet (cC (.bl false))))))))
end K69

namespace K69
open PySem PySem.Spec PyProof.Rows L2 TL
def c_lawC (K : PySem.W.Frag) : CS :=
  (cSeq (cAsg (cCall (T__law_deck K) [] (cCons (cVar 0) cNil)) (cgName 1))
  (cSeq (cAsg (cNewF (He.ga K ("Table" : PySem.Str)) (T_Table_init K) [D.tup []] (cCons (cC (.str ("t" : PySem.Str))) (cCons (cTup (cCons (cC (.str ("a" : PySem.Str))) (cCons (cC (.str ("b" : PySem.Str))) cNil))) (cCons (cTup (cCons (cC (.str ("p" : PySem.Str))) (cCons (cC (.str ("q" : PySem.Str))) cNil))) cNil)))) (cgName 2))
  (cSeq (cAsg (cNewF (He.ga K ("Table" : PySem.Str)) (T_Table_init K) [] (cCons (cC (.str ("s" : PySem.Str))) (cCons (cTup (cCons (cC (.str ("c" : PySem.Str))) (cCons (cC (.str ("d" : PySem.Str))) cNil))) (cCons (cTup (cCons (cC (.str ("r" : PySem.Str))) (cCons (cC (.str ("w" : PySem.Str))) cNil))) (cCons (cCall (T__law_pick K) [] (cCons (cVar 1) (cCons (cLst (cCons (cTup cNil) (cCons (cTup (cCons (cC (.str ("c" : PySem.Str))) cNil)) cNil))) cNil))) cNil))))) (cgName 3))
  (cSeq (cFor (ciRange1 (cC (.int 8))) (cgName 4) (cSeq (cAsg (cCall (T__law_first K) [] (cCons (cVar 1) cNil)) (cgName 5))
  (cSeq (cPar 6 7 (cNewF (He.ga K ("Select" : PySem.Str)) (T_Select_init K) [D.tup []] (cCons (cTup (cCons (cTup (cCons (cC (.str ("u" : PySem.Str))) (cCons (cC (.str ("t" : PySem.Str))) cNil))) (cCons (cTup (cCons (cC (.str ("v" : PySem.Str))) (cCons (cC (.str ("s" : PySem.Str))) cNil))) cNil))) (cCons (cTup (cCons (cC (.str ("u.a" : PySem.Str))) cNil)) (cCons (cVar 5) cNil)))) (cCall (T__law_facts K) [] (cCons (cVar 5) cNil)))
  (cSeq (cAsg (cNewF (He.ga K ("Select" : PySem.Str)) (T_Select_init K) [D.tup []] (cCons (cTup (cCons (cTup (cCons (cC (.str ("x" : PySem.Str))) (cCons (cC (.str ("s" : PySem.Str))) cNil))) cNil)) (cCons (cTup (cCons (cC (.str ("x.c" : PySem.Str))) cNil)) (cCons (cTup (cCons (cTup (cCons (cC (.str ("x.d" : PySem.Str))) (cCons (cC (.str ("!=" : PySem.Str))) (cCons (cC (.str ("x.c" : PySem.Str))) cNil)))) cNil)) cNil)))) (cgName 8))
  (cForC (ciSeq (cCall (T__law_chains K) [] (cCons (cVar 1) (cCons (cVar 7) cNil)))) (cgName 9) (cSeq (cAsg (cAndV (cCall (T__law_is_plain K) [] (cCons (cVar 9) cNil)) (cCall (T__law_is_clash K) [] (cCons (cVar 7) (cCons (cVar 9) cNil)))) (cgName 10))
  (cSeq (cAsg (cLstM (cCons (cCall (starT 3 (T_within_holds K)) [] (cCons (cVar 6) (cCons (cVar 8) (cCons (cTup (cCons (cC (.str ("clash" : PySem.Str))) (cCons (cVar 9) cNil))) (cCons (cVar 2) (cCons (cVar 3) cNil)))))) cNil)) (cgName 11))
  (cSeq (cDrop (cBM "list" dAppend (cVar 11) (cCons (cCall (starT 3 (T_within_holds K)) [] (cCons (cVar 6) (cCons (cVar 8) (cCons (cLst (cCons (cC (.str ("clash" : PySem.Str))) (cCons (cVar 9) cNil))) (cCons (cVar 2) (cCons (cVar 3) cNil)))))) cNil)))
  (cIfS (cTest (cBin jNe (cB dRepr (cCons (cVar 11) cNil)) (cB dRepr (cCons (cLst (cCons (cVar 10) (cCons (cC (.bl false)) cNil))) cNil)))) (cRet (cC (.bl false))) cNext)))))))))
  (cRet (cC (.bl true)))))))
end K69

namespace K69
open PySem PySem.Spec PyProof.Rows L2 TL
def Er (h : DH) (Q : KD) : DE := { nx := fun _ h' => Ret h Q .non h', rt := Ret h Q }
abbrev Pl (T : TSp) (c : CS) (N : List PySem.Str) : Prop := ∀ ds h Q, HCl h → ClL h.length ds → T ds h Q → c (Er h Q) (startD N ds) h
theorem eqv_s (a b : PySem.Str) : PyData.eqv (.str a) (.str b) = decide (a = b) := Bool.eq_iff_iff.mpr (by simp [PyData.eqv])
theorem eqv_t (a b : Tm) : PyData.eqv a.p b.p = decide (a = b) := by
  cases a <;> cases b <;> refine Bool.eq_iff_iff.mpr ?_ <;> simp [PyData.eqv, Tm.p]
theorem dval_t (a : Tm) (h : DH) : dval h a.d = some a.p := by cases a <;> rfl
theorem shaped_s {a : PySem.Str} (h : PyData.strOk a = true) : SeqAt.shaped (.str a) = true := by simp [SeqAt.shaped, PyData.canLay0, PyData.depth, h]
theorem shaped_i (a : Int) : SeqAt.shaped (.int a) = true := by simp [SeqAt.shaped, PyData.canLay0, PyData.depth]
theorem shaped_t {a : Tm} (h : okTm a) : SeqAt.shaped a.p = true := by
  cases a with
  | s x => exact shaped_s h.2
  | i n => exact shaped_i _
section
variable {h : DH} {Q : KD}
theorem eq_any {x y : D} {p q : PyData} {b : Bool} (e1 : dval h x = some p) (e2 : dval h y = some q) (s1 : SeqAt.shaped p = true) (s2 : SeqAt.shaped q = true) (eb : PyData.eqv p q = b) (k : Q (.bl b) h) : jEq x y h Q := by
  unfold jEq dEq
  rw [e1, e2]
  exact ⟨s1, s2, eb ▸ k⟩
theorem ne_any {x y : D} {p q : PyData} {b : Bool} (e1 : dval h x = some p) (e2 : dval h y = some q) (s1 : SeqAt.shaped p = true) (s2 : SeqAt.shaped q = true) (eb : (!PyData.eqv p q) = b) (k : Q (.bl b) h) : jNe x y h Q := by
  unfold jNe
  refine .inl ?_
  unfold dNe
  rw [e1, e2]
  exact ⟨s1, s2, eb ▸ k⟩
theorem ne_len {x y : D} {xs ys : List D} (e1 : lstRd h x = some xs) (e2 : lstRd h y = some ys) (hn : xs.length ≠ ys.length) (k : Q (.bl true) h) : jNe x y h Q := by
  unfold jNe
  exact .inr ⟨xs, ys, e1, e2, hn, k⟩
theorem eq_s {a b : PySem.Str} (ha : PyData.strOk a = true) (hb : PyData.strOk b = true) (k : Q (.bl (decide (a = b))) h) : jEq (.str a) (.str b) h Q := eq_any rfl rfl (shaped_s ha) (shaped_s hb) (eqv_s a b) k
theorem ne_s {a b : PySem.Str} (ha : PyData.strOk a = true) (hb : PyData.strOk b = true) (k : Q (.bl (!decide (a = b))) h) : jNe (.str a) (.str b) h Q := ne_any rfl rfl (shaped_s ha) (shaped_s hb) (by rw [eqv_s]) k
theorem eq_t {a b : Tm} (ha : okTm a) (hb : okTm b) (k : Q (.bl (decide (a = b))) h) : jEq a.d b.d h Q := eq_any (dval_t a h) (dval_t b h) (shaped_t ha) (shaped_t hb) (eqv_t a b) k
theorem ne_t {a b : Tm} (ha : okTm a) (hb : okTm b) (k : Q (.bl (!decide (a = b))) h) : jNe a.d b.d h Q := ne_any (dval_t a h) (dval_t b h) (shaped_t ha) (shaped_t hb) (by rw [eqv_t]) k
end
theorem three {a b c : D} : [a, b, c].length ≤ sizeLine := by show 3 ≤ sizeLine; decide
theorem two {a b : D} : [a, b].length ≤ sizeLine := by show 2 ≤ sizeLine; decide
theorem one {a : D} : [a].length ≤ sizeLine := by show 1 ≤ sizeLine; decide
theorem zero : ([] : List D).length ≤ sizeLine := by show 0 ≤ sizeLine; decide
theorem okD_t (t : Tm) : okD t.d = true := by cases t <;> rfl
theorem isInt_t (t : Tm) : isInt t.d = t.isI := by cases t <;> rfl
section
variable (K : PySem.W.Frag)
theorem pl_is_integer : Pl (T_is_integer K) (c_is_integer K) N_is_integer := by
  rintro ds h Q hc hl ⟨d, rfl, ok, q⟩
  conv => whnf
  refine ji_int ok ?_
  cases d <;> first | exact absurd ok Bool.false_ne_true | exact .inl q | skip
  all_goals exact ji_bool rfl (.inl q)
theorem pl_require : Pl (T_require K) (c_require K) N_require := by
  rintro ds h Q hc hl ⟨rfl, q⟩
  exact .inl q
theorem pl_Table_columns : Pl (T_Table_columns K) (c_Table_columns K) N_Table_columns := by
  rintro ds h Q hc hl ⟨nm, ns, us, ky, rfl, n1, n2, hz, q⟩
  refine ⟨rfl, rfl, ?_⟩
  conv => whnf
  refine ⟨by simpa [strsD] using n1, by simpa [strsD] using n2, by simp [strsD, sizeLine_eq]; omega, .inl q⟩
theorem pl_fact_of : Pl (T_fact_of K) (c_fact_of K) N_fact_of := by
  rintro ds h Q hc hl ⟨a, op, b, rfl, ho, q⟩
  conv => whnf
  refine eq_s ho.2 (by decide +kernel) ?_
  unfold factD at q
  by_cases e : op = ">="
  · rw [if_pos e] at q
    rw [decide_eq_true e]
    exact ⟨three, .inl q⟩
  · rw [if_neg e] at q
    rw [decide_eq_false e]
    exact ⟨three, .inl q⟩
theorem big {n : Nat} (h : n ≤ 5000) : n ≤ sizeLine := by rw [sizeLine_eq]; omega
theorem cl_all {n : Nat} : ∀ {l : List D}, (∀ d ∈ l, Cl n d) → ClL n l
  | [], _ => trivial
  | d :: r, h => ⟨h d List.mem_cons_self, cl_all fun x hx => h x (List.mem_cons_of_mem _ hx)⟩
theorem cl_t (n : Nat) (t : Tm) : Cl n t.d := by cases t <;> trivial
theorem cl_fd (n : Nat) (f : Fact) : Cl n (fd f) := ⟨cl_t n _, trivial, cl_t n _, trivial⟩
theorem pl_strict_in : Pl (T_strict_in K) (c_strict_in K) N_strict_in := by
  rintro ds h Q hc hl ⟨fs, rfl, hz, hf, q⟩
  conv => whnf
  have e : ((fs.map fd).filterMap fun d => match d with | .tup [_, .str op, _] => if op = ("<" : PySem.Str) then some (D.int 1) else none | _ => none).length = fs.countP (isOp "<") := by
    clear hz q hl hf
    induction fs with
    | nil => rfl
    | cons f r ih =>
      rw [List.map_cons, List.countP_cons]
      by_cases z : f.2.1 = ("<" : PySem.Str)
      · rw [List.filterMap_cons_some (b := D.int 1) (by show (if f.2.1 = _ then _ else _) = _; rw [if_pos z]), List.length_cons, ih, if_pos (show isOp _ f = true from decide_eq_true z)]
      · rw [List.filterMap_cons_none (by show (if f.2.1 = _ then _ else _) = _; rw [if_neg z]), ih, if_neg (by rw [isOp, decide_eq_false z]; exact Bool.false_ne_true)]
        rfl
  refine jlc_ok (fun _ p => p) (fun d => match d with | .tup [_, .str op, _] => if op = ("<" : PySem.Str) then some (D.int 1) else none | _ => none) (fun _ => trivial) hc (fun d hd acc P R c => ?_) (by rw [List.length_map]; exact big hz) (cl_all fun d hd => ?_) ?_
  · obtain ⟨f, hm, rfl⟩ := List.mem_map.mp hd
    conv => whnf
    refine eq_s (hf f hm).2.1.2 (by decide +kernel) ?_
    have c : (match (if f.2.1 = ("<" : PySem.Str) then some (D.int 1) else none) with | some y => P y (h ++ [O.lst acc]) | none => R (h ++ [O.lst acc])) := c
    by_cases z : f.2.1 = ("<" : PySem.Str)
    · rw [if_pos z] at c; rw [decide_eq_true z]; exact c
    · rw [if_neg z] at c; rw [decide_eq_false z]; exact c
  · obtain ⟨x, hx, e2⟩ := List.mem_filterMap.mp hd
    obtain ⟨f, _, rfl⟩ := List.mem_map.mp hx
    have e2 : (if f.2.1 = ("<" : PySem.Str) then some (D.int 1) else none) = some d := e2
    split at e2
    · cases e2; trivial
    · cases e2
  · conv => whnf
    rw [← e] at q
    exact .inl q
theorem pl_chain_end : Pl (T_chain_end K) (c_chain_end K) N_chain_end := by
  rintro ds h Q hc hl ⟨fs, t, rfl, hz, hf, ht, q⟩
  conv => whnf
  clear hl hz
  suffices H : ∀ (gs : List Fact) (u : Tm) (a b c : Option D), (∀ f ∈ gs, okFact f) → okTm u → (∀ v, chainEnd gs u = v → Q (optD v) h) → turns (fun x => True) (cgTup 3 (cgsCons (cgName 3) (cgsCons (cgName 4) (cgsCons (cgName 5) cgsNil))))
    (cIfS (cTest (cBin jEq (cVar 3) (cVar 2))) (cAsg (cVar 5) (cgName 2))
      (cIfS (cAnd (cTest (cBin jEq (cVar 4) (cC (D.str (Str.ofString "="))))) (cTest (cBin jEq (cVar 5) (cVar 2))))
        (cAsg (cVar 3) (cgName 2)) (cRet (cC D.non))))
    { nx := cRet (cVar 2) (Er h Q), rt := (Er h Q).rt }
    (List.map fd gs) [some (.tup (fs.map fd)), some t.d, some u.d, a, b, c] h from H fs t none none none hf ht fun v e => by rw [← e]; exact q
  intro gs
  induction gs with
  | nil => exact fun u a b c hf hu k => ⟨trivial, .inl (k _ rfl)⟩
  | cons f r ih =>
    intro u a b c hf hu k
    obtain ⟨k1, k2, k3⟩ := hf f List.mem_cons_self
    have hf' := fun g hg => hf g (List.mem_cons_of_mem _ hg)
    refine ⟨trivial, ?_⟩
    conv => whnf
    refine ⟨rfl, ?_⟩
    conv => whnf
    refine eq_t k1 hu ?_
    unfold chainEnd chainStep at k
    by_cases e1 : f.1 = u
    · rw [decide_eq_true e1]
      refine ih _ _ _ _ hf' k3 fun v e => k v ?_
      rw [if_pos e1]; exact e
    · rw [decide_eq_false e1]
      rw [if_neg e1] at k
      conv => whnf
      refine eq_s k2.2 (by decide +kernel) ?_
      by_cases e2 : f.2.1 = ("=" : PySem.Str)
      · rw [decide_eq_true e2]
        conv => whnf
        refine eq_t k3 hu ?_
        by_cases e3 : f.2.2 = u
        · rw [decide_eq_true e3]
          refine ih _ _ _ _ hf' k1 fun v e => k v ?_
          rw [if_pos ⟨e2, e3⟩]; exact e
        · rw [decide_eq_false e3]
          exact .inl (k none (by rw [if_neg fun z => e3 z.2]))
      · rw [decide_eq_false e2]
        exact .inl (k none (by rw [if_neg fun z => e2 z.1]))
end
end K69

namespace K69
open PySem PySem.Spec PyProof.Rows L2 TL
theorem bools_map {α : Type} (p : α → Bool) : ∀ l : List α, boolsOf (l.map fun c => D.bl (p c)) = some (l.map p)
  | [] => rfl
  | x :: r => by
    show (boolsOf (r.map fun c => D.bl (p c))).map (p x :: ·) = _
    rw [bools_map p r]
    rfl
section
variable {h : DH} {Q : KD}
theorem in_ss {a b : PySem.Str} (k : Q (.bl (subIn a b)) h) : jIn (.str a) (.str b) h Q := by unfold jIn; exact k
theorem nin_ss {a b : PySem.Str} (k : Q (.bl (!subIn a b)) h) : jNotIn (.str a) (.str b) h Q := by unfold jNotIn; exact k
theorem all_map {α : Type} {p : α → Bool} {l : List α} (k : Q (.bl (l.all p)) h) : jAll [.lst (l.map fun c => D.bl (p c))] h Q := by
  unfold jAll
  have e : (lstRd h (.lst (l.map fun c => D.bl (p c)))).bind boolsOf = some (l.map p) := bools_map p l
  show match (lstRd h (.lst (l.map fun c => D.bl (p c)))).bind boolsOf with | some bs => Q (.bl (bs.all id)) h | none => False
  rw [e]
  show Q (.bl ((l.map p).all id)) h
  rw [List.all_map]
  exact k
theorem any_map {α : Type} {p : α → Bool} {l : List α} (k : Q (.bl (l.any p)) h) : jAny [.lst (l.map fun c => D.bl (p c))] h Q := by
  unfold jAny
  have e : (lstRd h (.lst (l.map fun c => D.bl (p c)))).bind boolsOf = some (l.map p) := bools_map p l
  show match (lstRd h (.lst (l.map fun c => D.bl (p c)))).bind boolsOf with | some bs => Q (.bl (bs.any id)) h | none => False
  rw [e]
  show Q (.bl ((l.map p).any id)) h
  rw [List.any_map]
  exact k
end
theorem cl_bl {n : Nat} {α : Type} {p : α → Bool} (l : List α) : ClL n (l.map fun c => D.bl (p c)) := cl_all fun d hd => by
  obtain ⟨x, _, rfl⟩ := List.mem_map.mp hd
  trivial
section
variable (K : PySem.W.Frag)
theorem pl_is_name : Pl (T_is_name K) (c_is_name K) N_is_name := by
  rintro ds h Q hc hl ⟨d, rfl, ok, sh, q⟩
  conv => whnf
  refine ji_str ok ?_
  cases d with
  | str z =>
    conv => whnf
    have sh : z.length ≤ 1000 := sh
    refine ⟨by rw [sizeLine_eq]; omega, ?_⟩
    conv => whnf
    have q : Q (.bl (nameS z)) h := q
    unfold nameS at q
    refine j_le (fun e1 => ?_) (fun e1 => ?_)
    · have e1' : 1 ≤ z.length := by omega
      rw [decide_eq_true e1'] at q
      conv => whnf
      refine j_le (fun e2 => ?_) (fun e2 => ?_)
      · have e2' : z.length ≤ 8 := by omega
        rw [decide_eq_true e2'] at q
        conv => whnf
        refine jlc_map (fun _ p => p) (fun d => match d with | .str a => .bl (subIn a lettersS) | _ => .non) (fun _ => trivial) hc (fun d hd acc P k => ?_) ?_ ?_ ?_
        · obtain ⟨c, _, rfl⟩ := List.mem_map.mp hd
          conv => whnf
          exact in_ss k
        · rw [List.length_map, Array.length_toList]
          have : z.cps.size = z.length := rfl
          rw [sizeLine_eq]; omega
        · rw [List.map_map]; exact cl_bl (p := fun c => subIn ⟨#[c]⟩ lettersS) z.cps.toList
        · rw [List.map_map]
          conv => whnf
          exact all_map (p := fun c => subIn ⟨#[c]⟩ lettersS) (l := z.cps.toList) (.inl q)
      · have e2' : ¬ z.length ≤ 8 := by omega
        rw [decide_eq_false e2', Bool.false_and, Bool.and_false] at q
        exact .inl q
    · have e1' : ¬ 1 ≤ z.length := by omega
      rw [decide_eq_false e1', Bool.false_and] at q
      exact .inl q
  | _ => first | exact absurd ok Bool.false_ne_true | exact .inl q
end
end K69

namespace K69
open PySem PySem.Spec PyProof.Rows L2 TL
mutual
def nb : PyData → Bool
  | .int _ => true
  | .str _ => true
  | .list xs => nbs xs
  | .tuple xs => nbs xs
  | .none => true
  | .bool _ => false
  | .dict _ => false
def nbs : List PyData → Bool
  | [] => true
  | x :: r => nb x && nbs r
end
mutual
theorem eqv_nb : ∀ (p q : PyData), nb p = true → nb q = true → (PyData.eqv p q = true ↔ p = q)
  | .int i, .int j, _, _ => by simp [PyData.eqv]
  | .str i, .str j, _, _ => by simp [PyData.eqv]
  | .list xs, .list ys, h1, h2 => by
    simp only [nb] at h1 h2
    simp only [PyData.eqv, PyData.list.injEq]
    exact eqvs_nb xs ys h1 h2
  | .tuple xs, .tuple ys, h1, h2 => by
    simp only [nb] at h1 h2
    simp only [PyData.eqv, PyData.tuple.injEq]
    exact eqvs_nb xs ys h1 h2
  | .int _, .str _, _, _ => by simp [PyData.eqv]
  | .int _, .list _, _, _ => by simp [PyData.eqv]
  | .int _, .tuple _, _, _ => by simp [PyData.eqv]
  | .str _, .int _, _, _ => by simp [PyData.eqv]
  | .str _, .list _, _, _ => by simp [PyData.eqv]
  | .str _, .tuple _, _, _ => by simp [PyData.eqv]
  | .list _, .int _, _, _ => by simp [PyData.eqv]
  | .list _, .str _, _, _ => by simp [PyData.eqv]
  | .list _, .tuple _, _, _ => by simp [PyData.eqv]
  | .tuple _, .int _, _, _ => by simp [PyData.eqv]
  | .tuple _, .str _, _, _ => by simp [PyData.eqv]
  | .tuple _, .list _, _, _ => by simp [PyData.eqv]
  | .none, .none, _, _ => by simp [PyData.eqv]
  | .none, .int _, _, _ => by simp [PyData.eqv]
  | .none, .str _, _, _ => by simp [PyData.eqv]
  | .none, .list _, _, _ => by simp [PyData.eqv]
  | .none, .tuple _, _, _ => by simp [PyData.eqv]
  | .int _, .none, _, _ => by simp [PyData.eqv]
  | .str _, .none, _, _ => by simp [PyData.eqv]
  | .list _, .none, _, _ => by simp [PyData.eqv]
  | .tuple _, .none, _, _ => by simp [PyData.eqv]
  | .none, .bool _, _, h2 => by simp [nb] at h2
  | .none, .dict _, _, h2 => by simp [nb] at h2
  | .bool _, _, h1, _ => by simp [nb] at h1
  | .dict _, _, h1, _ => by simp [nb] at h1
  | .int _, .bool _, _, h2 => by simp [nb] at h2
  | .int _, .dict _, _, h2 => by simp [nb] at h2
  | .str _, .bool _, _, h2 => by simp [nb] at h2
  | .str _, .dict _, _, h2 => by simp [nb] at h2
  | .list _, .bool _, _, h2 => by simp [nb] at h2
  | .list _, .dict _, _, h2 => by simp [nb] at h2
  | .tuple _, .bool _, _, h2 => by simp [nb] at h2
  | .tuple _, .dict _, _, h2 => by simp [nb] at h2
theorem eqvs_nb : ∀ (xs ys : List PyData), nbs xs = true → nbs ys = true → (PyData.eqvAll xs ys = true ↔ xs = ys)
  | [], [], _, _ => by simp [PyData.eqvAll]
  | x :: xs, y :: ys, h1, h2 => by
    simp only [nbs, Bool.and_eq_true] at h1 h2
    simp only [PyData.eqvAll, Bool.and_eq_true, List.cons.injEq]
    rw [eqv_nb x y h1.1 h2.1, eqvs_nb xs ys h1.2 h2.2]
  | [], _ :: _, _, _ => by simp [PyData.eqvAll]
  | _ :: _, [], _, _ => by simp [PyData.eqvAll]
end
theorem nbs_all : ∀ {xs : List PyData}, (∀ x ∈ xs, nb x = true) → nbs xs = true
  | [], _ => rfl
  | x :: r, h => by
    unfold nbs
    rw [h x List.mem_cons_self, nbs_all fun y hy => h y (List.mem_cons_of_mem _ hy)]
    rfl
theorem can_all : ∀ {xs : List PyData}, (∀ x ∈ xs, x.canLay0 = true) → PyData.canLayAll0 xs = true
  | [], _ => by simp [PyData.canLayAll0]
  | x :: r, h => by
    unfold PyData.canLayAll0
    rw [h x List.mem_cons_self, can_all fun y hy => h y (List.mem_cons_of_mem _ hy)]
    rfl
theorem dep_all {n : Nat} : ∀ {xs : List PyData}, (∀ x ∈ xs, x.depth ≤ n) → PyData.depthAll xs ≤ n
  | [], _ => by simp [PyData.depthAll]
  | x :: r, h => by
    unfold PyData.depthAll
    exact Nat.max_le.mpr ⟨h x List.mem_cons_self, dep_all fun y hy => h y (List.mem_cons_of_mem _ hy)⟩
/-- nice: shaped, without bools, not deeper than n -/
structure Nc (n : Nat) (p : PyData) : Prop where
  nb : nb p = true
  can : p.canLay0 = true
  dep : p.depth ≤ n
theorem Nc.mono {n m : Nat} {p : PyData} (h : Nc n p) (hm : n ≤ m) : Nc m p := ⟨h.nb, h.can, Nat.le_trans h.dep hm⟩
theorem Nc.sh {n : Nat} {p : PyData} (h : Nc n p) (hn : n ≤ 64) : SeqAt.shaped p = true := by
  unfold SeqAt.shaped
  rw [h.can, decide_eq_true (Nat.le_trans h.dep hn)]
  rfl
theorem nc_s {x : PySem.Str} (h : PyData.strOk x = true) : Nc 0 (.str x) := ⟨rfl, by simp [PyData.canLay0, h], by simp [PyData.depth]⟩
theorem nc_i (i : Int) : Nc 0 (.int i) := ⟨rfl, by simp [PyData.canLay0], by simp [PyData.depth]⟩
theorem nc_n : Nc 0 .none := ⟨rfl, by simp [PyData.canLay0], by simp [PyData.depth]⟩
theorem nc_t {t : Tm} (h : okTm t) : Nc 0 t.p := by
  cases t with
  | s x => exact nc_s h.2
  | i n => exact nc_i n
theorem nc_lst {n : Nat} {xs : List PyData} (h : ∀ x ∈ xs, Nc n x) : Nc (n + 1) (.list xs) :=
  ⟨by unfold K69.nb; exact nbs_all fun x hx => (h x hx).nb, by unfold PyData.canLay0; exact can_all fun x hx => (h x hx).can, by unfold PyData.depth; exact Nat.succ_le_succ (dep_all fun x hx => (h x hx).dep)⟩
theorem nc_tup {n : Nat} {xs : List PyData} (h : ∀ x ∈ xs, Nc n x) : Nc (n + 1) (.tuple xs) :=
  ⟨by unfold K69.nb; exact nbs_all fun x hx => (h x hx).nb, by unfold PyData.canLay0; exact can_all fun x hx => (h x hx).can, by unfold PyData.depth; exact Nat.succ_le_succ (dep_all fun x hx => (h x hx).dep)⟩
section
variable {h : DH} {Q : KD}
theorem eq_nc {x y : D} {p q : PyData} {n m : Nat} (e1 : dval h x = some p) (e2 : dval h y = some q) (s1 : Nc n p) (s2 : Nc m q) (k1 : p = q → Q (.bl true) h) (k2 : p ≠ q → Q (.bl false) h) (hn : n ≤ 64 := by decide) (hm : m ≤ 64 := by decide) : jEq x y h Q := by
  refine eq_any e1 e2 (s1.sh hn) (s2.sh hm) rfl ?_
  refine bl_split (P := fun b => Q (.bl b) h) (fun e => k1 ((eqv_nb p q s1.nb s2.nb).mp e)) (fun e => k2 fun z => ?_)
  rw [(eqv_nb p q s1.nb s2.nb).mpr z] at e
  cases e
theorem ne_nc {x y : D} {p q : PyData} {n m : Nat} (e1 : dval h x = some p) (e2 : dval h y = some q) (s1 : Nc n p) (s2 : Nc m q) (k1 : p = q → Q (.bl false) h) (k2 : p ≠ q → Q (.bl true) h) (hn : n ≤ 64 := by decide) (hm : m ≤ 64 := by decide) : jNe x y h Q := by
  refine ne_any e1 e2 (s1.sh hn) (s2.sh hm) rfl ?_
  cases e : PyData.eqv p q with
  | true => exact k1 ((eqv_nb p q s1.nb s2.nb).mp e)
  | false =>
    refine k2 fun z => ?_
    rw [(eqv_nb p q s1.nb s2.nb).mpr z] at e
    cases e
theorem any_nc {n m : Nat} {p : PyData} {ps : List PyData} (s1 : Nc n p) (s2 : ∀ z ∈ ps, Nc m z) : ((ps.any fun z => PyData.eqv z p) = true ↔ p ∈ ps) := by
  rw [List.any_eq_true]
  constructor
  · rintro ⟨z, hz, e⟩
    rw [← (eqv_nb z p (s2 z hz).nb s1.nb).mp e]; exact hz
  · intro hp
    exact ⟨p, hp, (eqv_nb p p s1.nb s1.nb).mpr rfl⟩
theorem in_lstG {neg : Bool} {x : D} {p : PyData} {ds : List D} {ps : List PyData} (e1 : toPD x = some p) (e2 : toPDs ds = some ps) (k : SeqAt.shaped p = true ∧ SeqAt.shaped (.list ps) = true ∧ Q (.bl (if neg then !(ps.any fun z => PyData.eqv z p) else ps.any fun z => PyData.eqv z p)) h) : dInG neg x (.lst ds) h Q := by
  have z : (match toPD x, toPDs ds with
      | some p, some ps => SeqAt.shaped p = true ∧ SeqAt.shaped (.list ps) = true ∧ Q (.bl (if neg then !(ps.any fun z => PyData.eqv z p) else ps.any fun z => PyData.eqv z p)) h
      | _, _ => False) := by rw [e1, e2]; exact k
  cases x <;> exact z
theorem in_nc {x : D} {p : PyData} {ds : List D} {ps : List PyData} {n m : Nat} (e1 : toPD x = some p) (e2 : toPDs ds = some ps) (s1 : Nc n p) (s2 : ∀ z ∈ ps, Nc m z) (k1 : p ∈ ps → Q (.bl true) h) (k2 : p ∉ ps → Q (.bl false) h) (hn : n ≤ 60 := by decide) (hm : m ≤ 60 := by decide) : jIn x (.lst ds) h Q := by
  unfold jIn
  refine in_lstG e1 e2 ⟨s1.sh (by omega), (nc_lst s2).sh (by omega), ?_⟩
  rw [if_neg Bool.false_ne_true]
  refine bl_split (P := fun b => Q (.bl b) h) (fun e => k1 ((any_nc s1 s2).mp e)) (fun e => k2 fun z => ?_)
  rw [(any_nc s1 s2).mpr z] at e
  cases e
theorem notIn_nc {x : D} {p : PyData} {ds : List D} {ps : List PyData} {n m : Nat} (e1 : toPD x = some p) (e2 : toPDs ds = some ps) (s1 : Nc n p) (s2 : ∀ z ∈ ps, Nc m z) (k1 : p ∈ ps → Q (.bl false) h) (k2 : p ∉ ps → Q (.bl true) h) (hn : n ≤ 60 := by decide) (hm : m ≤ 60 := by decide) : jNotIn x (.lst ds) h Q := by
  unfold jNotIn
  refine in_lstG e1 e2 ⟨s1.sh (by omega), (nc_lst s2).sh (by omega), ?_⟩
  rw [if_pos rfl]
  cases e : (ps.any fun z => PyData.eqv z p) with
  | true => exact k1 ((any_nc s1 s2).mp e)
  | false =>
    refine k2 fun z => ?_
    rw [(any_nc s1 s2).mpr z] at e
    cases e
end
theorem strs_pd : ∀ l : List PySem.Str, toPDs (strsD l) = some (l.map PyData.str)
  | [] => rfl
  | x :: r => by
    show (match toPD (.str x), toPDs (strsD r) with | some p, some ps => some (p :: ps) | _, _ => none) = _
    rw [strs_pd r]
    rfl
theorem strsD_map (f : PySem.Str → Bool) (zs : List PySem.Str) : (strsD zs).map (fun d => match d with | .str a => D.bl (f a) | _ => .non) = zs.map fun z => D.bl (f z) := by
  unfold strsD; rw [List.map_map]; rfl
theorem map_inj {α β : Type} {f : α → β} (hf : ∀ x y, f x = f y → x = y) : ∀ {a b : List α}, a.map f = b.map f → a = b
  | [], [], _ => rfl
  | x :: a, y :: b, e => by
    rw [List.map_cons, List.map_cons] at e
    injection e with e1 e2
    rw [hf x y e1, map_inj hf e2]
  | [], _ :: _, e => by cases e
  | _ :: _, [], e => by cases e
theorem strs_inj {a b : List PySem.Str} (h : a.map PyData.str = b.map PyData.str) : a = b := map_inj (fun x y e => by injection e) h
theorem in_tup {h : DH} {Q : KD} {a : PySem.Str} {l : List PySem.Str} (k : Q (.bl (l.contains a)) h) : jIn (.str a) (.tup (strsD l)) h Q := by
  have e1 : (strsD l).all flatD = true := by unfold strsD; rw [List.all_map]; exact List.all_eq_true.mpr fun _ _ => rfl
  have e2 : ((strsD l).any fun z => eqD z (.str a)) = l.contains a := by
    unfold strsD
    rw [List.any_map, List.contains_eq_any_beq]
    congr 1
    funext z
    show (z == a) = (a == z)
    exact Bool.eq_iff_iff.mpr ⟨fun e => by rw [beq_iff_eq] at e ⊢; exact e.symm, fun e => by rw [beq_iff_eq] at e ⊢; exact e.symm⟩
  unfold jIn
  show flatD (.str a) = true ∧ (strsD l).all flatD = true ∧ Q (.bl ((strsD l).any fun z => eqD z (.str a))) h
  rw [e2]
  exact ⟨rfl, e1, k⟩
theorem in_xtup {h : DH} {Q : KD} {a : PySem.Str} {l : List PySem.Str} (k : Q (.bl (l.contains a)) h) : jIn (.str a) (.xtup (strsD l)) h Q := by
  have z := in_tup (h := h) (Q := Q) (a := a) (l := l) k
  unfold jIn at z ⊢
  exact z
section
variable (K : PySem.W.Frag)
theorem pl_are_names : Pl (T_are_names K) (c_are_names K) N_are_names := by
  rintro ds h Q hc hl ⟨zs, rfl, hz, hn, q⟩
  conv => whnf
  refine ji_tup rfl ?_
  conv => whnf
  have e : (strsD zs).length = zs.length := by unfold strsD; rw [List.length_map]
  refine j_le (fun e1 => ?_) (fun e1 => ?_)
  · have e1' : zs.length ≤ 2 := by omega
    rw [decide_eq_true e1', Bool.true_and] at q
    conv => whnf
    refine jlc_map (fun _ p => p) (fun d => match d with | .str a => .bl (nameS a) | _ => .non) (fun _ => trivial) hc (fun d hd acc P k => ?_) ?_ ?_ ?_
    · unfold strsD at hd
      obtain ⟨z, hm, rfl⟩ := List.mem_map.mp hd
      conv => whnf
      exact ⟨_, rfl, rfl, hz z hm, k⟩
    · rw [e, sizeLine_eq]; omega
    · rw [strsD_map]; exact cl_bl (p := nameS) zs
    · rw [strsD_map]
      conv => whnf
      exact all_map (p := nameS) (l := zs) (.inl q)
  · have e1' : ¬ zs.length ≤ 2 := by omega
    rw [decide_eq_false e1', Bool.false_and] at q
    exact .inl q
theorem cl_strs {n : Nat} (l : List PySem.Str) : ClL n (strsD l) := cl_all fun d hd => by
  unfold strsD at hd
  obtain ⟨x, _, rfl⟩ := List.mem_map.mp hd
  trivial
theorem len_strs (l : List PySem.Str) : (strsD l).length = l.length := by unfold strsD; rw [List.length_map]
theorem pl_is_key_tables : Pl (T_is_key_tables K) (c_is_key_tables K) N_is_key_tables := by
  rintro ds h Q hc hl ⟨ky, cs, rfl, hky, hcs, hn, hm, q⟩
  conv => whnf
  refine ji_tup rfl ?_
  conv => whnf
  refine jlc_map (fun _ p => p) (fun d => match d with | .str a => .bl (nameS a) | _ => .non) (fun _ => trivial) hc (fun d hd acc P k => ?_) ?_ ?_ ?_
  · unfold strsD at hd
    obtain ⟨z, hm, rfl⟩ := List.mem_map.mp hd
    conv => whnf
    exact ⟨_, rfl, rfl, (hky z hm).1, k⟩
  · rw [len_strs, sizeLine_eq]; omega
  · rw [strsD_map]; exact cl_bl (p := nameS) ky
  · rw [strsD_map]
    conv => whnf
    refine all_map (p := nameS) (l := ky) ?_
    cases e : ky.all nameS with
    | false =>
      rw [e, Bool.false_and] at q
      exact .inl q
    | true =>
      rw [e, Bool.true_and] at q
      conv => whnf
      have em : (strsD cs).filterMap (fun d => match d with | .str a => if ky.contains a then some (D.str a) else none | _ => none) = strsD (cs.filter fun c => ky.contains c) := by
        unfold strsD
        clear hcs hm q hl
        induction cs with
        | nil => rfl
        | cons x r ih =>
          rw [List.map_cons, List.filter_cons]
          cases z : ky.contains x with
          | true => rw [List.filterMap_cons_some (b := D.str x) (by show (if ky.contains x then _ else _) = _; rw [z]; rfl), ih, if_pos rfl]; rfl
          | false => rw [List.filterMap_cons_none (by show (if ky.contains x then _ else _) = _; rw [z]; rfl), ih, if_neg Bool.false_ne_true]
      refine jlc_ok (fun _ p => p) (fun d => match d with | .str a => if ky.contains a then some (D.str a) else none | _ => none) (fun _ => trivial) hc (fun d hd acc P R k => ?_) ?_ ?_ ?_
      · unfold strsD at hd
        obtain ⟨z, hm, rfl⟩ := List.mem_map.mp hd
        conv => whnf
        refine in_tup ?_
        have k : (match (if ky.contains z then some (D.str z) else none) with | some y => P y (h ++ [O.lst acc]) | none => R (h ++ [O.lst acc])) := k
        cases w : ky.contains z with
        | true => rw [w] at k; exact k
        | false => rw [w] at k; exact k
      · rw [len_strs, sizeLine_eq]; omega
      · rw [em]; exact cl_strs _
      · rw [em]
        conv => whnf
        have hcs' : ∀ z ∈ cs.filter (fun c => ky.contains c), okS z := fun z hz => hcs z ((List.mem_filter.mp hz).1)
        refine eq_nc (p := .list (ky.map .str)) (q := .list ((cs.filter fun c => ky.contains c).map .str)) (n := 1) (m := 1) (by show (toPDs (strsD ky)).map PyData.list = _; rw [strs_pd]; rfl) (by show (toPDs (strsD _)).map PyData.list = _; rw [strs_pd]; rfl) (nc_lst fun x hx => ?_) (nc_lst fun x hx => ?_) (fun e2 => ?_) (fun e2 => ?_)
        · obtain ⟨z, hz, rfl⟩ := List.mem_map.mp hx; exact nc_s (hky z hz).2
        · obtain ⟨z, hz, rfl⟩ := List.mem_map.mp hx; exact nc_s (hcs' z hz).2
        · injection e2 with e3
          rw [decide_eq_true (strs_inj e3)] at q
          exact .inl q
        · rw [decide_eq_false fun z => e2 (by rw [← z])] at q
          exact .inl q
end
end K69

namespace K69
open PySem PySem.Spec PyProof.Rows L2 TL
theorem nameD_t (t : Tm) : nameD t.d = t.nm := by cases t <;> rfl
theorem short_t {t : Tm} (h : okTm t) : shortD t.d := by
  cases t with
  | s x => exact h.1
  | i n => trivial
theorem okTm_end : ∀ {fs : List Fact} {t u : Tm}, (∀ f ∈ fs, okFact f) → okTm t → chainEnd fs t = some u → okTm u
  | [], t, u, _, ht, e => by cases e; exact ht
  | f :: r, t, u, hf, ht, e => by
    unfold chainEnd at e
    cases z : chainStep t f with
    | none => rw [z] at e; cases e
    | some v =>
      rw [z] at e
      refine okTm_end (fun g hg => hf g (List.mem_cons_of_mem _ hg)) ?_ e
      obtain ⟨k1, k2, k3⟩ := hf f List.mem_cons_self
      unfold chainStep at z
      split at z
      · cases z; exact k3
      · split at z
        · cases z; exact k1
        · cases z
theorem intsL (K : PySem.W.Frag) (t u : Tm) (k : Nat) (x : D) {h : DH} {Q : KD} (q : Q (.bl (t.isI && (u.isI && decide (u.n < t.n + (k : Int))))) h) :
    cAndV (cCall (T_is_integer K) [] (cCons (cVar 1) cNil)) (cAndV (cCall (T_is_integer K) [] (cCons (cVar 2) cNil)) (cBin jLt (cVar 2) (cBin dAdd (cVar 1) (cVar 3)))) [some x, some t.d, some u.d, some (.int (k : Nat))] h Q := by
  refine ⟨_, rfl, okD_t t, ?_⟩
  cases t with
  | s x => exact q
  | i n =>
    refine ⟨_, rfl, okD_t u, ?_⟩
    cases u with
    | s x => exact q
    | i m =>
      conv => whnf
      refine j_lt (fun e => ?_) (fun e => ?_)
      · have q : Q (.bl (decide (m < n + (k : Int)))) h := q
        rw [decide_eq_true e] at q; exact q
      · have q : Q (.bl (decide (m < n + (k : Int)))) h := q
        rw [decide_eq_false e] at q; exact q
section
variable (K : PySem.W.Frag)
theorem pl_is_chain_clash : Pl (T_is_chain_clash K) (c_is_chain_clash K) N_is_chain_clash := by
  rintro ds h Q hc hl ⟨fs, t, rfl, hz, hf, ht, q⟩
  conv => whnf
  refine ⟨fs, t, rfl, hz, hf, ht, ?_⟩
  unfold chainClash at q
  cases e : chainEnd fs t with
  | none =>
    rw [e] at q
    conv => whnf
    exact ⟨rfl, .inl q⟩
  | some u =>
    have hu := okTm_end hf ht e
    rw [e] at q
    have q : Q (.bl (endClash (fs.countP (isOp "<")) t u)) h := q
    unfold endClash at q
    rw [show optD (some u) = u.d from rfl]
    conv => whnf
    refine ⟨rfl, ?_⟩
    rw [show isNon u.d = false by cases u <;> rfl]
    conv => whnf
    refine ⟨_, rfl, okD_t t, short_t ht, ?_⟩
    rw [nameD_t]

    cases n1 : t.nm with
    | true =>
      conv => whnf
      refine ⟨_, rfl, okD_t u, short_t hu, ?_⟩
      rw [n1, Bool.true_and] at q
      rw [nameD_t]
      cases n2 : u.nm with
      | true =>
        rw [n2, if_pos rfl] at q
        conv => whnf
        exact ne_t ht hu (.inl q)
      | false =>
        rw [n2, if_neg Bool.false_ne_true] at q
        conv => whnf
        refine ⟨fs, rfl, hz, hf, ?_⟩
        conv => whnf
        refine eq_t ht hu ?_
        by_cases z1 : t = u
        · rw [decide_eq_true z1] at q ⊢
          rw [Bool.true_and] at q
          conv => whnf
          refine j_gt (fun z2 => ?_) (fun z2 => ?_)
          · rw [decide_eq_true (show 0 < fs.countP (isOp "<") by omega), Bool.true_or] at q
            exact .inl q
          · rw [decide_eq_false (show ¬ 0 < fs.countP (isOp "<") by omega), Bool.false_or] at q
            exact intsL K t u _ _ (.inl q)
        · rw [decide_eq_false z1] at q ⊢
          rw [Bool.false_and, Bool.false_or] at q
          exact intsL K t u _ _ (.inl q)
    | false =>
      rw [n1, Bool.false_and, if_neg Bool.false_ne_true] at q
      conv => whnf
      refine ⟨fs, rfl, hz, hf, ?_⟩
      conv => whnf
      refine eq_t ht hu ?_
      by_cases z1 : t = u
      · rw [decide_eq_true z1] at q ⊢
        rw [Bool.true_and] at q
        conv => whnf
        refine j_gt (fun z2 => ?_) (fun z2 => ?_)
        · rw [decide_eq_true (show 0 < fs.countP (isOp "<") by omega), Bool.true_or] at q
          exact .inl q
        · rw [decide_eq_false (show ¬ 0 < fs.countP (isOp "<") by omega), Bool.false_or] at q
          exact intsL K t u _ _ (.inl q)
      · rw [decide_eq_false z1] at q ⊢
        rw [Bool.false_and, Bool.false_or] at q
        exact intsL K t u _ _ (.inl q)
end
end K69

namespace K69
open PySem PySem.Spec PyProof.Rows L2 TL
theorem pd_t (t : Tm) : toPD t.d = some t.p := by cases t <;> rfl
theorem t_inj {a b : Tm} (h : a.p = b.p) : a = b := by
  cases a <;> cases b <;> simp [Tm.p] at h <;> rw [h]
theorem dv_tup {h : DH} {ds : List D} {ps : List PyData} (e : toPDs ds = some ps) : dval h (.tup ds) = some (.tuple ps) := by
  show (toPDs ds).map PyData.tuple = _; rw [e]; rfl
theorem dv_lst {h : DH} {ds : List D} {ps : List PyData} (e : toPDs ds = some ps) : dval h (.lst ds) = some (.list ps) := by
  show (toPDs ds).map PyData.list = _; rw [e]; rfl
theorem pds_of {n : Nat} : ∀ {ds : List D}, (∀ d ∈ ds, ∃ p, toPD d = some p ∧ Nc n p) → ∃ ps, toPDs ds = some ps ∧ ps.length = ds.length ∧ ∀ z ∈ ps, Nc n z
  | [], _ => ⟨[], rfl, rfl, fun z hz => by cases hz⟩
  | d :: r, h => by
    obtain ⟨p, e1, k1⟩ := h d List.mem_cons_self
    obtain ⟨ps, e2, e3, k2⟩ := pds_of fun x hx => h x (List.mem_cons_of_mem _ hx)
    refine ⟨p :: ps, ?_, by rw [List.length_cons, List.length_cons, e3], fun z hz => ?_⟩
    · show (match toPD d, toPDs r with | some p, some ps => some (p :: ps) | _, _ => none) = _
      rw [e1, e2]
    · rcases List.mem_cons.mp hz with rfl | hz
      · exact k1
      · exact k2 z hz
theorem leaf_pd {d : D} (h : Leaf d) : ∃ p, toPD d = some p ∧ Nc 0 p := by
  cases h with
  | tm t ht => exact ⟨t.p, pd_t t, nc_t ht⟩
theorem item_pd {d : D} (h : Item d) : ∃ p, toPD d = some p ∧ Nc 1 p := by
  cases h with
  | leaf h => obtain ⟨p, e, k⟩ := leaf_pd h; exact ⟨p, e, k.mono (by decide)⟩
  | tup n h =>
    obtain ⟨ps, e, _, k⟩ := pds_of fun x hx => leaf_pd (h x hx)
    exact ⟨.tuple ps, by show (toPDs _).map PyData.tuple = _; rw [e]; rfl, nc_tup k⟩
  | lst n h =>
    obtain ⟨ps, e, _, k⟩ := pds_of fun x hx => leaf_pd (h x hx)
    exact ⟨.list ps, by show (toPDs _).map PyData.list = _; rw [e]; rfl, nc_lst k⟩
def factP (f : Fact) : PyData := .tuple [f.1.p, .str f.2.1, f.2.2.p]
theorem pd_fd (f : Fact) : toPD (fd f) = some (factP f) := by
  show (toPDs [f.1.d, .str f.2.1, f.2.2.d]).map PyData.tuple = _
  have e : toPDs [f.1.d, .str f.2.1, f.2.2.d] = some [f.1.p, .str f.2.1, f.2.2.p] := by
    obtain ⟨a, o, b⟩ := f
    cases a <;> cases b <;> rfl
  rw [e]
  rfl
theorem nc_fact {f : Fact} (h : okFact f) : Nc 1 (factP f) := nc_tup fun x hx => by
  rcases List.mem_cons.mp hx with rfl | hx
  · exact nc_t h.1
  · rcases List.mem_cons.mp hx with rfl | hx
    · exact nc_s h.2.1.2
    · rcases List.mem_cons.mp hx with rfl | hx
      · exact nc_t h.2.2
      · cases hx
theorem pds_fds : ∀ fs : List Fact, toPDs (fs.map fd) = some (fs.map factP)
  | [] => rfl
  | f :: r => by
    show (match toPD (fd f), toPDs (r.map fd) with | some p, some ps => some (p :: ps) | _, _ => none) = _
    rw [pd_fd, pds_fds r]
    rfl
theorem fact_inj {f g : Fact} (h : factP f = factP g) : f = g := by
  obtain ⟨a, o, b⟩ := f
  obtain ⟨a', o', b'⟩ := g
  injection h with h
  injection h with h1 h
  injection h with h2 h
  injection h with h3 h
  have h2 : o = o' := by injection h2
  have h1 : a = a' := t_inj h1
  have h3 : b = b' := t_inj h3
  rw [h1, h2, h3]
theorem pd_leaf {d : D} {t : Tm} (h : Leaf d) (e : toPD d = some t.p) : d = t.d := by
  cases h with
  | tm u hu => rw [pd_t] at e; rw [t_inj (Option.some.inj e)]
theorem pd_leafs {d : D} {o : PySem.Str} (h : Leaf d) (e : toPD d = some (.str o)) : d = .str o := pd_leaf (t := .s o) h e
theorem pds3 {ds : List D} {a b c : PyData} (e : toPDs ds = some [a, b, c]) : ∃ x y z, ds = [x, y, z] ∧ toPD x = some a ∧ toPD y = some b ∧ toPD z = some c := by
  have step : ∀ {ds : List D} {a : PyData} {r : List PyData}, toPDs ds = some (a :: r) → ∃ x ds', ds = x :: ds' ∧ toPD x = some a ∧ toPDs ds' = some r := by
    intro ds a r e
    cases ds with
    | nil => cases e
    | cons x ds' =>
      have e : (match toPD x, toPDs ds' with | some p, some ps => some (p :: ps) | _, _ => none) = some (a :: r) := e
      split at e
      · rename_i p ps e1 e2
        cases e
        exact ⟨x, ds', rfl, e1, e2⟩
      · cases e
  obtain ⟨x, d1, rfl, e1, k1⟩ := step e
  obtain ⟨y, d2, rfl, e2, k2⟩ := step k1
  obtain ⟨z, d3, rfl, e3, k3⟩ := step k2
  cases d3 with
  | nil => exact ⟨x, y, z, rfl, e1, e2, e3⟩
  | cons w r =>
    have k3 : (match toPD w, toPDs r with | some p, some ps => some (p :: ps) | _, _ => none) = some [] := k3
    split at k3
    · cases k3
    · cases k3
/-- an item that is a fact's data is the fact -/
theorem item_fd {d : D} {f : Fact} (h : Item d) (e : toPD d = some (factP f)) : d = fd f := by
  cases h with
  | leaf h =>
    cases h with
    | tm t ht => rw [pd_t] at e; cases t <;> cases e
  | tup n h =>
    rename_i ds
    have e : (toPDs ds).map PyData.tuple = some (factP f) := e
    obtain ⟨ps, e1, e2⟩ := Option.map_eq_some_iff.mp e
    injection e2 with e2
    subst e2
    obtain ⟨x, y, z, rfl, k1, k2, k3⟩ := pds3 e1
    rw [pd_leaf (h x (by simp)) k1, pd_leafs (h y (by simp)) k2, pd_leaf (h z (by simp)) k3]
    rfl
  | lst n h =>
    rename_i ds
    have e : (toPDs ds).map PyData.list = some (factP f) := e
    obtain ⟨ps, e1, e2⟩ := Option.map_eq_some_iff.mp e
    cases e2
theorem factOf_fd (f : Fact) : factOf (fd f) = some f := by
  obtain ⟨a, o, b⟩ := f
  cases a <;> cases b <;> rfl
theorem factOf_some {d : D} {f : Fact} (e : factOf d = some f) : d = fd f := by
  unfold factOf at e
  split at e <;> first | (cases e; rfl) | cases e
def inF (F : List Fact) (d : D) : Bool := match factOf d with
  | some f => decide (f ∈ F)
  | none => false
theorem inF_iff {F : List Fact} {d : D} {p : PyData} (h : Item d) (e : toPD d = some p) : (inF F d = true ↔ p ∈ F.map factP) := by
  unfold inF
  constructor
  · intro k
    cases z : factOf d with
    | none => rw [z] at k; cases k
    | some f =>
      rw [z] at k
      have := factOf_some z
      subst this
      rw [pd_fd] at e
      cases e
      exact List.mem_map.mpr ⟨f, of_decide_eq_true k, rfl⟩
  · intro k
    obtain ⟨f, hf, rfl⟩ := List.mem_map.mp k
    have := item_fd h e
    subst this
    rw [factOf_fd]
    exact decide_eq_true hf
theorem facts_all {F : List Fact} : ∀ {its : List D}, its.all (inF F) = true → ∃ fs, its = fs.map fd ∧ factsIn F its = some fs ∧ ∀ f ∈ fs, f ∈ F
  | [], _ => ⟨[], rfl, rfl, fun f hf => by cases hf⟩
  | d :: r, h => by
    rw [List.all_cons, Bool.and_eq_true] at h
    obtain ⟨fs, e1, e2, k⟩ := facts_all h.2
    have h1 := h.1
    unfold inF at h1
    cases z : factOf d with
    | none => rw [z] at h1; cases h1
    | some f =>
      rw [z] at h1
      have hf := of_decide_eq_true h1
      refine ⟨f :: fs, by rw [List.map_cons, ← factOf_some z, e1], ?_, fun g hg => ?_⟩
      · show (match factOf d, factsIn F r with | some f, some fs => if f ∈ F then some (f :: fs) else none | _, _ => none) = _
        rw [z, e2]
        exact if_pos hf
      · rcases List.mem_cons.mp hg with rfl | hg
        · exact hf
        · exact k g hg
theorem facts_none {F : List Fact} : ∀ {its : List D}, its.all (inF F) = false → factsIn F its = none
  | [], h => by cases h
  | d :: r, h => by
    show (match factOf d, factsIn F r with | some f, some fs => if f ∈ F then some (f :: fs) else none | _, _ => none) = _
    rw [List.all_cons] at h
    unfold inF at h
    cases z : factOf d with
    | none => rfl
    | some f =>
      rw [z] at h
      cases w : factsIn F r with
      | none => rfl
      | some fs =>
        by_cases hf : f ∈ F
        · have h : (decide (f ∈ F) && r.all (inF F)) = false := h
          rw [decide_eq_true hf, Bool.true_and] at h
          rw [facts_none h] at w
          cases w
        · exact if_neg hf
def tmOf : D → Option Tm
  | .str x => some (.s x)
  | .int n => some (.i n)
  | _ => none
def onT (F : Tm → D) (d : D) : D := match tmOf d with
  | some t => F t
  | none => .non
theorem onT_d (F : Tm → D) (t : Tm) : onT F t.d = F t := by cases t <;> rfl
theorem atI_head {α : Type} {a : α} {l : List α} (e : l.head? = some a) : L2.atI l 0 = some a := by
  cases l with
  | nil => cases e
  | cons b r =>
    cases e
    unfold L2.atI L2.ixN
    rw [if_pos (by omega), if_pos (by rw [List.length_cons]; omega)]
    rfl
def optP : Option Tm → PyData
  | some t => t.p
  | none => .none
theorem pd_opt (o : Option Tm) : toPD (optD o) = some (optP o) := by
  cases o with
  | none => rfl
  | some t => exact pd_t t
theorem cl_opt (n : Nat) (o : Option Tm) : Cl n (optD o) := by
  cases o with
  | none => trivial
  | some t => exact cl_t n t
theorem nc_opt {o : Option Tm} (h : ∀ t, o = some t → okTm t) : Nc 0 (optP o) := by
  cases o with
  | none => exact nc_n
  | some t => exact nc_t (h t rfl)
theorem opt_inj {o : Option Tm} {t : Tm} (h : t.p = optP o) : o = some t := by
  cases o with
  | none => cases t <;> cases h
  | some u => rw [t_inj h]
theorem pds_two {x y : D} {p q : PyData} (e1 : toPD x = some p) (e2 : toPD y = some q) : toPDs [x, y] = some [p, q] := by
  show (match toPD x, toPDs [y] with | some p, some ps => some (p :: ps) | _, _ => none) = _
  rw [e1, show toPDs [y] = some [q] by show (match toPD y, toPDs [] with | some p, some ps => some (p :: ps) | _, _ => none) = _; rw [e2]; rfl]
theorem pd_pair {x y : D} {p q : PyData} (e1 : toPD x = some p) (e2 : toPD y = some q) : toPD (.tup [x, y]) = some (.tuple [p, q]) := by
  show (toPDs [x, y]).map PyData.tuple = _
  rw [pds_two e1 e2]
  rfl
theorem nc_pair {n : Nat} {p q : PyData} (h1 : Nc n p) (h2 : Nc n q) : Nc (n + 1) (.tuple [p, q]) := nc_tup fun z hz => by
  rcases List.mem_cons.mp hz with rfl | hz
  · exact h1
  · rcases List.mem_cons.mp hz with rfl | hz
    · exact h2
    · cases hz
theorem pair_mem {a b c d : Tm} {o o' : Option Tm} : (PyData.tuple [a.p, b.p] ∈ [PyData.tuple [c.p, optP o], PyData.tuple [d.p, optP o']]) ↔ (decide (a = c) && decide (o = some b) || decide (a = d) && decide (o' = some b)) = true := by
  rw [List.mem_cons, List.mem_singleton, Bool.or_eq_true, Bool.and_eq_true, Bool.and_eq_true, decide_eq_true_iff, decide_eq_true_iff, decide_eq_true_iff, decide_eq_true_iff]
  refine or_congr ?_ ?_
  · constructor
    · intro e
      injection e with e
      injection e with e1 e
      injection e with e2 e
      exact ⟨t_inj e1, opt_inj e2⟩
    · rintro ⟨rfl, rfl⟩; rfl
  · constructor
    · intro e
      injection e with e
      injection e with e1 e
      injection e with e2 e
      exact ⟨t_inj e1, opt_inj e2⟩
    · rintro ⟨rfl, rfl⟩; rfl
theorem all_rep : ∀ gs : List Fact, (gs.map (fun g => g.2.1) = List.replicate gs.length ("=" : PySem.Str)) ↔ gs.all (isOp "=") = true
  | [] => by simp
  | g :: r => by
    rw [List.map_cons, List.length_cons, List.replicate_succ, List.all_cons, Bool.and_eq_true, List.cons.injEq, all_rep r]
    refine and_congr ?_ Iff.rfl
    exact (decide_eq_true_iff (p := g.2.1 = ("=" : PySem.Str))).symm
theorem rep_flat (n : Nat) (x : PySem.Str) : (List.replicate n [D.str x]).flatten = strsD (List.replicate n x) := by
  induction n with
  | zero => rfl
  | succ n ih =>
    rw [List.replicate_succ, List.flatten_cons, ih, List.replicate_succ]
    rfl
section
variable (K : PySem.W.Frag)
theorem pl_is_clash : Pl (T_is_clash K) (c_is_clash K) N_is_clash := by
  rintro ds h Q hc hl ⟨its, F, rfl, hch, hF, hok, q⟩
  obtain ⟨ps, ep, lp, np⟩ := pds_of fun x hx => item_pd (hch.2 x hx)
  conv => whnf
  refine ji_tup rfl ?_
  conv => whnf
  refine ⟨zero, ?_⟩
  refine eq_nc (p := .tuple ps) (q := .tuple []) (dv_tup ep) (dv_tup (ds := []) rfl) (nc_tup np) (nc_tup (n := 0) fun z hz => by cases hz) (fun e => ?_) (fun e => ?_)
  · injection e with e
    subst e
    have : its = [] := List.eq_nil_of_length_eq_zero lp.symm
    subst this
    exact .inl q
  · conv => whnf
    refine jlc_map (fun _ p => p) (fun d => .bl (inF F d)) (fun _ => trivial) hc (fun d hd acc P k => ?_) (big hch.1) (cl_bl its) ?_
    · obtain ⟨p, e1, k1⟩ := item_pd (hch.2 d hd)
      conv => whnf
      refine in_nc (m := 1) e1 (pds_fds F) k1 (fun z hz => ?_) (fun m => ?_) (fun m => ?_)
      · obtain ⟨f, hf, rfl⟩ := List.mem_map.mp hz
        exact nc_fact (hok f hf)
      · rw [(inF_iff (hch.2 d hd) e1).mpr m] at k; exact k
      · have z : inF F d = false := by
          cases w : inF F d with
          | false => rfl
          | true => exact absurd ((inF_iff (hch.2 d hd) e1).mp w) m
        rw [z] at k; exact k
    · conv => whnf
      refine all_map (p := inF F) (l := its) ?_
      unfold clashD at q
      cases w : its.all (inF F) with
      | false =>
        rw [facts_none w] at q
        exact .inl q
      | true =>
        obtain ⟨fs, rfl, e2, k2⟩ := facts_all w
        rw [e2] at q
        have q : Q (.bl (progClash fs)) h := q
        have okf : ∀ f ∈ fs, okFact f := fun f hf => hok f (k2 f hf)
        have hz : fs.length ≤ 5000 := by have := hch.1; rwa [List.length_map] at this
        have nfs : fs ≠ [] := fun z => by
          subst z
          rw [List.map_nil] at lp
          exact e (by rw [List.eq_nil_of_length_eq_zero lp])
        obtain ⟨l, el⟩ : ∃ l, fs.getLast? = some l := by
          cases z : fs.getLast? with
          | none => exact absurd (List.getLast?_eq_none_iff.mp z) nfs
          | some l => exact ⟨l, rfl⟩
        obtain ⟨f, ef⟩ : ∃ f, fs.head? = some f := by
          cases z : fs.head? with
          | none => exact absurd (List.head?_eq_none_iff.mp z) nfs
          | some l => exact ⟨l, rfl⟩
        obtain ⟨l1, l2, l3⟩ := okf l (List.mem_of_getLast? el)
        obtain ⟨f1, f2, f3⟩ := okf f (List.mem_of_head? ef)
        have a0 : L2.atI (fs.map fd) 0 = some (fd f) := atI_head (by rw [List.head?_map, ef]; rfl)
        conv => whnf
        rw [a0]
        conv => whnf
        rw [a0]
        conv => whnf
        refine ⟨two, ?_⟩
        conv => whnf
        refine jlc_map (fun _ p => p) (fun d => match d with | .tup [_, o, _] => o | _ => .non) (fun _ => trivial) hc (fun d hd acc P k => ?_) (by rw [List.length_map]; exact big hz) (cl_all fun d hd => ?_) ?_
        · obtain ⟨g, hg, rfl⟩ := List.mem_map.mp hd
          exact k
        · obtain ⟨x, hx, rfl⟩ := List.mem_map.mp hd
          obtain ⟨g, hg, rfl⟩ := List.mem_map.mp hx
          trivial
        · rw [List.map_map, show ((fun d => match d with | .tup [_, o, _] => o | _ => D.non) ∘ fd) = fun g : Fact => D.str g.2.1 from rfl]
          conv => whnf
          refine j_ix (fun z e => by cases e) rfl (atI_last (by rw [List.getLast?_map, el]; rfl)) ?_
          conv => whnf
          refine ne_s l2.2 (by decide +kernel) ?_
          have e3 : toPDs (fs.map fun g : Fact => D.str g.2.1) = some ((fs.map fun g : Fact => g.2.1).map PyData.str) := by
            have := strs_pd (fs.map fun g : Fact => g.2.1)
            unfold strsD at this
            rw [List.map_map] at this
            exact this
          have n3 : ∀ z ∈ (fs.map fun g : Fact => g.2.1).map PyData.str, Nc 0 z := fun z hz => by
            rw [List.map_map] at hz
            obtain ⟨g, hg, rfl⟩ := List.mem_map.mp hz
            exact nc_s (okf g hg).2.1.2
          have len : (fs.map fd).length = fs.length := List.length_map _
          unfold progClash at q
          rw [el] at q
          have q : Q (.bl (match fs.head? with | none => false | some f => _)) h := q
          rw [ef] at q
          have q : Q (.bl (if l.2.1 ≠ "!=" then !(fs.any (isOp "!=")) && (chainClash fs f.1 || chainClash fs f.2.2) else _)) h := q
          by_cases o : l.2.1 = ("!=" : PySem.Str)
          · rw [if_neg (fun z => z o)] at q
            rw [decide_eq_true o]
            conv => whnf
            refine j_ix (fun z e => by cases e) rfl (atI_last (by rw [List.getLast?_map, el]; rfl)) ?_
            conv => whnf
            refine ⟨rfl, ?_⟩
            conv => whnf
            refine eq_nc (p := .int ((fs.map fd).length : Nat)) (q := .int 1) (n := 0) (m := 0) rfl rfl (nc_i _) (nc_i _) (fun e4 => ?_) (fun e4 => ?_)
            · injection e4 with e4
              rw [if_pos (by omega)] at q
              conv => whnf
              exact eq_t l1 l3 (.inl q)
            · rw [if_neg (fun z => e4 (by rw [len, z]; rfl))] at q
              conv => whnf
              have hd : fs.dropLast.length = fs.length - 1 := List.length_dropLast
              have okd : ∀ g ∈ fs.dropLast, okFact g := fun g hg => okf g (List.mem_of_mem_take (by rw [List.dropLast_eq_take] at hg; exact hg))
              have c1 : cutD (fs.map fun g : Fact => D.str g.2.1) none (some (-1)) = strsD (fs.dropLast.map fun g => g.2.1) := by
                rw [cut_init, ← List.map_dropLast]; unfold strsD; rw [List.map_map]; rfl
              have c3 : cutD (fs.map fd) none (some (-1)) = fs.dropLast.map fd := by rw [cut_init, ← List.map_dropLast]
              have kk : ((((fs.map fun g : Fact => D.str g.2.1).length : Nat) : Int) - 1).toNat = fs.length - 1 := by rw [List.length_map]; omega
              refine ⟨one, ?_⟩
              conv => whnf
              refine ⟨by rw [List.length_map]; omega, by rw [List.length_map]; omega, ?_, ?_⟩
              · rw [kk, sizeLine_eq]
                show 1 * (fs.length - 1) ≤ _
                omega
              rw [kk, c1, rep_flat]
              refine ne_nc (p := .list ((fs.dropLast.map fun g => g.2.1).map .str)) (q := .list ((List.replicate (fs.length - 1) ("=" : PySem.Str)).map .str)) (n := 1) (m := 1) (dv_lst (strs_pd _)) (dv_lst (strs_pd _)) (nc_lst fun z hz => ?_) (nc_lst fun z hz => ?_) (fun e5 => ?_) (fun e5 => ?_)
              · rw [List.map_map] at hz
                obtain ⟨g, hg, rfl⟩ := List.mem_map.mp hz
                exact nc_s (okd g hg).2.1.2
              · obtain ⟨x, hx, rfl⟩ := List.mem_map.mp hz
                rw [(List.mem_replicate.mp hx).2]
                exact nc_s (by decide +kernel)
              · injection e5 with e5
                have e6 := strs_inj e5
                rw [← hd] at e6
                rw [(all_rep _).mp e6, Bool.true_and] at q
                conv => whnf
                refine jlc_map (fun _ p => p) (onT fun t => .tup [t.d, optD (chainEnd fs.dropLast t)]) (fun _ => trivial) hc (fun d hd' acc P k => ?_) two ?_ ?_
                · have hd' : d = f.1.d ∨ d = f.2.2.d := by simpa using hd'
                  rcases hd' with rfl | rfl
                  · rw [onT_d] at k
                    conv => whnf
                    refine ⟨fs.dropLast, f.1, by show [D.tup (cutD _ _ _), _] = _; rw [c3], by omega, okd, f1, ?_⟩
                    exact ⟨two, k⟩
                  · rw [onT_d] at k
                    conv => whnf
                    refine ⟨fs.dropLast, f.2.2, by show [D.tup (cutD _ _ _), _] = _; rw [c3], by omega, okd, f3, ?_⟩
                    exact ⟨two, k⟩
                · show ClL _ [onT _ f.1.d, onT _ f.2.2.d]
                  rw [onT_d, onT_d]
                  exact ⟨⟨cl_t _ _, cl_opt _ _, trivial⟩, ⟨cl_t _ _, cl_opt _ _, trivial⟩, trivial⟩
                · rw [show [f.1.d, f.2.2.d].map (onT fun t => .tup [t.d, optD (chainEnd fs.dropLast t)]) = [D.tup [f.1.d, optD (chainEnd fs.dropLast f.1)], D.tup [f.2.2.d, optD (chainEnd fs.dropLast f.2.2)]] by show [onT _ f.1.d, onT _ f.2.2.d] = _; rw [onT_d, onT_d]]
                  have k1 : Nc 0 (optP (chainEnd fs.dropLast f.1)) := nc_opt fun t e => okTm_end okd f1 e
                  have k2 : Nc 0 (optP (chainEnd fs.dropLast f.2.2)) := nc_opt fun t e => okTm_end okd f3 e
                  have e7 := pds_two (pd_pair (pd_t f.1) (pd_opt (chainEnd fs.dropLast f.1))) (pd_pair (pd_t f.2.2) (pd_opt (chainEnd fs.dropLast f.2.2)))
                  have n7 : ∀ z ∈ [PyData.tuple [f.1.p, optP (chainEnd fs.dropLast f.1)], PyData.tuple [f.2.2.p, optP (chainEnd fs.dropLast f.2.2)]], Nc 1 z := fun z hz => by
                    rcases List.mem_cons.mp hz with rfl | hz
                    · exact nc_pair (nc_t f1) k1
                    · rcases List.mem_cons.mp hz with rfl | hz
                      · exact nc_pair (nc_t f3) k2
                      · cases hz
                  conv => whnf
                  refine ⟨two, ?_⟩
                  refine in_nc (p := .tuple [l.1.p, l.2.2.p]) (n := 1) (m := 1) (pd_pair (pd_t _) (pd_t _)) e7 (nc_pair (nc_t l1) (nc_t l3)) n7 (fun m => ?_) (fun m => ?_)
                  · rw [pair_mem.mp m, Bool.true_or] at q
                    exact .inl q
                  · have m' := Bool.eq_false_iff.mpr fun z => m (pair_mem.mpr z)
                    rw [m', Bool.false_or] at q
                    conv => whnf
                    refine ⟨two, ?_⟩
                    refine in_nc (p := .tuple [l.2.2.p, l.1.p]) (n := 1) (m := 1) (pd_pair (pd_t _) (pd_t _)) e7 (nc_pair (nc_t l3) (nc_t l1)) n7 (fun m => ?_) (fun m => ?_)
                    · rw [pair_mem.mp m] at q
                      exact .inl q
                    · rw [Bool.eq_false_iff.mpr fun z => m (pair_mem.mpr z)] at q
                      exact .inl q
              · have z : fs.dropLast.all (isOp "=") = false := Bool.eq_false_iff.mpr fun z => e5 (by rw [(all_rep _).mpr z, hd])
                rw [z, Bool.false_and] at q
                exact .inl q
          · rw [if_pos o] at q
            rw [decide_eq_false o]
            have mem : (PyData.str "!=" ∈ (fs.map fun g : Fact => g.2.1).map PyData.str) ↔ fs.any (isOp "!=") = true := by
              rw [List.map_map, List.mem_map, List.any_eq_true]
              constructor
              · rintro ⟨g, hg, e4⟩
                exact ⟨g, hg, decide_eq_true (by injection e4)⟩
              · rintro ⟨g, hg, e4⟩
                exact ⟨g, hg, congrArg PyData.str (of_decide_eq_true e4)⟩
            conv => whnf
            refine notIn_nc (p := .str "!=") (m := 0) rfl e3 (nc_s (by decide +kernel)) n3 (fun m => ?_) (fun m => ?_)
            · rw [mem.mp m, Bool.not_true, Bool.false_and] at q
              exact .inl q
            · have m' : fs.any (isOp "!=") = false := by
                cases w : fs.any (isOp "!=") with
                | false => rfl
                | true => exact absurd (mem.mpr w) m
              rw [m', Bool.not_false, Bool.true_and] at q
              conv => whnf
              refine jlc_map (fun _ p => p) (onT fun t => .bl (chainClash fs t)) (fun _ => trivial) hc (fun d hd acc P k => ?_) two ?_ ?_
              · have hd : d = f.1.d ∨ d = f.2.2.d := by simpa using hd
                rcases hd with rfl | rfl
                · rw [onT_d] at k
                  exact ⟨fs, f.1, rfl, hz, okf, f1, k⟩
                · rw [onT_d] at k
                  exact ⟨fs, f.2.2, rfl, hz, okf, f3, k⟩
              · show ClL _ [onT _ f.1.d, onT _ f.2.2.d]
                rw [onT_d, onT_d]
                exact ⟨trivial, trivial, trivial⟩
              · rw [show [f.1.d, f.2.2.d].map (onT fun t => .bl (chainClash fs t)) = [f.1, f.2.2].map fun t => .bl (chainClash fs t) by show [onT _ f.1.d, onT _ f.2.2.d] = _; rw [onT_d, onT_d]; rfl]
                conv => whnf
                refine any_map (p := chainClash fs) (l := [f.1, f.2.2]) (.inl ?_)
                rw [List.any_cons, List.any_cons, List.any_nil, Bool.or_false]
                exact q
end
end K69

namespace K69
open PySem PySem.Spec PyProof.Rows L2 TL
theorem nc_tup0 : Nc 1 (.tuple []) := nc_tup fun z hz => by cases hz
theorem nc_lst0 : Nc 1 (.list []) := nc_lst fun z hz => by cases hz
section
variable (K : PySem.W.Frag)
theorem pl_is_tree : Pl (T_is_tree K) (c_is_tree K) N_is_tree := by
  rintro ds h Q hc hl ⟨sc, its, F, rfl, hch, hF, hok, q⟩
  obtain ⟨ps, ep, lp, np⟩ := pds_of fun x hx => item_pd (hch.2 x hx)
  have e1 := pds_two (x := .str "clash") rfl (show toPD (.tup its) = some (.tuple ps) by show (toPDs its).map _ = _; rw [ep]; rfl)
  conv => whnf
  refine ji_tup rfl ?_
  conv => whnf
  refine ⟨zero, ?_⟩
  refine eq_nc (p := .tuple [.str "clash", .tuple ps]) (q := .tuple []) (n := 3) (m := 1) (dv_tup e1) (dv_tup (ds := []) rfl) (nc_pair ((nc_s (by decide +kernel)).mono (by decide)) (nc_tup np)) nc_tup0 (fun e => by cases e) (fun e => ?_)
  conv => whnf
  refine eq_s (by decide +kernel) (by decide +kernel) ?_
  rw [decide_eq_true rfl]
  conv => whnf
  refine eq_nc (p := .int 2) (q := .int 2) (n := 0) (m := 0) rfl rfl (nc_i _) (nc_i _) (fun e => ?_) (fun e => absurd rfl e)
  conv => whnf
  exact ⟨its, F, rfl, hch, hF, hok, .inl q⟩
end
def Lv : Nat → D → Prop
  | 0, d => Leaf d
  | n + 1, d => Leaf d ∨ (∃ ds, d = .tup ds ∧ ∀ x ∈ ds, Lv n x) ∨ (∃ ds, d = .lst ds ∧ ∀ x ∈ ds, Lv n x)
theorem Lv.up : ∀ {n : Nat} {d : D}, Lv n d → Lv (n + 1) d
  | 0, d, h => .inl h
  | n + 1, d, h => by
    rcases h with h | ⟨ds, e, h⟩ | ⟨ds, e, h⟩
    · exact .inl h
    · exact .inr (.inl ⟨ds, e, fun x hx => Lv.up (h x hx)⟩)
    · exact .inr (.inr ⟨ds, e, fun x hx => Lv.up (h x hx)⟩)
theorem Lv.pd : ∀ {n : Nat} {d : D}, Lv n d → ∃ p, toPD d = some p ∧ Nc n p
  | 0, d, h => leaf_pd h
  | n + 1, d, h => by
    rcases h with h | ⟨ds, rfl, h⟩ | ⟨ds, rfl, h⟩
    · obtain ⟨p, e, k⟩ := leaf_pd h
      exact ⟨p, e, k.mono (Nat.zero_le _)⟩
    · obtain ⟨ps, e, _, k⟩ := pds_of fun x hx => Lv.pd (h x hx)
      exact ⟨.tuple ps, by show (toPDs ds).map _ = _; rw [e]; rfl, nc_tup k⟩
    · obtain ⟨ps, e, _, k⟩ := pds_of fun x hx => Lv.pd (h x hx)
      exact ⟨.list ps, by show (toPDs ds).map _ = _; rw [e]; rfl, nc_lst k⟩
theorem Item.lv {d : D} (h : Item d) : Lv 1 d := by
  cases h with
  | leaf h => exact .inl h
  | tup n h => exact .inr (.inl ⟨_, rfl, h⟩)
  | lst n h => exact .inr (.inr ⟨_, rfl, h⟩)
mutual
def wt : D → Nat
  | .tup ds => wts ds + 1
  | .non => 1
  | .bl _ => 1
  | .int _ => 1
  | .str _ => 1
  | .lst _ => 1
  | .klst _ => 1
  | .xtup _ => 1
  | .ob _ _ => 1
  | .ref _ => 1
  | .gl _ => 1
  | .ty _ => 1
def wts : List D → Nat
  | [] => 0
  | d :: r => wt d + wts r
end
mutual
def plB : D → Bool
  | .tup ds => plBs ds
  | .int _ => true
  | .str _ => true
  | .non => false
  | .bl _ => false
  | .lst _ => false
  | .klst _ => false
  | .xtup _ => false
  | .ob _ _ => false
  | .ref _ => false
  | .gl _ => false
  | .ty _ => false
def plBs : List D → Bool
  | [] => true
  | d :: r => plB d && plBs r
end
theorem wts_app : ∀ a b : List D, wts (a ++ b) = wts a + wts b
  | [], b => by show wts b = 0 + wts b; omega
  | x :: a, b => by
    show wt x + wts (a ++ b) = (wt x + wts a) + wts b
    rw [wts_app a b]; omega
theorem plBs_app : ∀ a b : List D, plBs (a ++ b) = (plBs a && plBs b)
  | [], b => by show plBs b = (true && plBs b); rw [Bool.true_and]
  | x :: a, b => by
    show (plB x && plBs (a ++ b)) = ((plB x && plBs a) && plBs b)
    rw [plBs_app a b, Bool.and_assoc]
theorem wt_pos (d : D) : 1 ≤ wt d := by cases d <;> simp [wt]
theorem len_wts : ∀ l : List D, l.length ≤ wts l
  | [] => Nat.zero_le _
  | d :: r => by
    have := wt_pos d
    have := len_wts r
    show r.length + 1 ≤ wt d + wts r
    omega
theorem wts_le {n : Nat} : ∀ {l : List D}, (∀ d ∈ l, wt d ≤ n) → wts l ≤ n * l.length
  | [], _ => Nat.zero_le _
  | d :: r, h => by
    have h1 := h d List.mem_cons_self
    have h2 := wts_le fun x hx => h x (List.mem_cons_of_mem _ hx)
    show wt d + wts r ≤ n * (r.length + 1)
    rw [Nat.mul_succ]
    omega
theorem leaf_w {d : D} (h : Leaf d) : wt d = 1 ∧ plB d = true := by
  cases h with
  | tm t ht => cases t <;> exact ⟨rfl, rfl⟩
theorem plBs_leaf : ∀ {l : List D}, (∀ d ∈ l, Leaf d) → plBs l = true
  | [], _ => rfl
  | d :: r, h => by
    show (plB d && plBs r) = true
    rw [(leaf_w (h d List.mem_cons_self)).2, plBs_leaf fun x hx => h x (List.mem_cons_of_mem _ hx)]
    rfl
theorem all_leaf {l : List D} (h : ∀ d ∈ l, Leaf d) : l.all leafB = true := List.all_eq_true.mpr fun d hd => by
  cases h d hd with
  | tm t ht => cases t <;> rfl
theorem item_w {d : D} (h : Item d) : wt d ≤ 6 ∧ plB d = itemB d := by
  cases h with
  | leaf h => cases h with
    | tm t ht => cases t <;> exact ⟨(by show 1 ≤ 6; decide), rfl⟩
  | tup n h =>
    rename_i ds
    refine ⟨?_, ?_⟩
    · have := wts_le (n := 1) fun d hd => (by rw [(leaf_w (h d hd)).1]; exact Nat.le_refl 1 : wt d ≤ 1)
      show wts ds + 1 ≤ 6
      omega
    · show plBs ds = ds.all leafB
      rw [plBs_leaf h, all_leaf h]
  | lst n h => exact ⟨(by show 1 ≤ 6; decide), rfl⟩
theorem plBs_items : ∀ {l : List D}, (∀ d ∈ l, Item d) → plBs l = l.all itemB
  | [], _ => rfl
  | d :: r, h => by
    show (plB d && plBs r) = (d :: r).all itemB
    rw [List.all_cons, (item_w (h d List.mem_cons_self)).2, plBs_items fun x hx => h x (List.mem_cons_of_mem _ hx)]
section
variable (K : PySem.W.Frag)
theorem pl_is_plain : Pl (T0_is_plain K) (c_is_plain K) N_is_plain := by
  rintro ds h Q hc hl ⟨rfl, its, hch, q⟩
  obtain ⟨x, rfl, hx, hw, q⟩ : ∃ x, ds = [x] ∧ Lv 3 x ∧ wt x ≤ 40000 ∧ Q (.bl (plB x)) [] := by
    have h1 : Lv 2 (.tup its) := .inr (.inl ⟨its, rfl, fun d hd => (hch.2 d hd).lv⟩)
    have h2 : Lv 2 (.str "clash") := .inl (.tm (.s "clash") ⟨by decide +kernel, by decide +kernel⟩)
    have h3 : ∀ y ∈ [D.str "clash", .tup its], Lv 2 y := fun y hy => by
      rcases List.mem_cons.mp hy with rfl | hy
      · exact h2
      · rcases List.mem_cons.mp hy with rfl | hy
        · exact h1
        · cases hy
    have h4 := wts_le fun d hd => (item_w (hch.2 d hd)).1
    have h5 := hch.1
    rcases q with ⟨rfl, q⟩ | ⟨rfl, q⟩
    · refine ⟨_, rfl, .inr (.inl ⟨_, rfl, h3⟩), ?_, ?_⟩
      · show (1 + ((wts its + 1) + 0)) + 1 ≤ 40000
        omega
      · show Q (.bl (true && (plBs its && true))) []
        rw [plBs_items hch.2, Bool.true_and, Bool.and_true]
        exact q
    · exact ⟨_, rfl, .inr (.inr ⟨_, rfl, h3⟩), by show 1 ≤ 40000; omega, q⟩
  conv => whnf
  refine ⟨one, ?_⟩
  conv => whnf
  refine ⟨fun m σ h => ∃ st y, h = [.lst st] ∧ σ = [some x, some (.ref 0), y] ∧ m = wts st ∧ m ≤ 40000 ∧ (∀ d ∈ st, Lv 3 d) ∧ plBs st = plB x, ⟨_, [x], none, rfl, rfl, rfl, by show wt x + 0 ≤ 40000; omega, fun d hd => by rw [List.mem_singleton.mp hd]; exact hx, Bool.and_true _⟩, ?_⟩
  rintro m σ h ⟨st, y, rfl, rfl, rfl, hm, hst, hb⟩
  obtain ⟨ps, ep, lp, np⟩ := pds_of fun d hd => (hst d hd).pd
  conv => whnf
  refine ⟨zero, ?_⟩
  refine ne_nc (p := .list ps) (q := .list []) (n := 4) (m := 1) (by show (toPDs st).map _ = _; rw [ep]; rfl) (dv_lst (ds := []) rfl) (nc_lst np) nc_lst0 (fun e => ?_) (fun e => ?_)
  · injection e with e
    subst e
    have : st = [] := List.eq_nil_of_length_eq_zero lp.symm
    subst this
    refine .inr ⟨[], [.lst []], .bl true, rfl, Nat.le_refl _, hcl_nil, .same trivial, ?_⟩
    rw [← hb] at q
    exact q
  · obtain ⟨ini, v, rfl⟩ : ∃ ini v, st = ini ++ [v] := by
      rcases List.eq_nil_or_concat st with z | ⟨a, b, z⟩
      · subst z
        exact absurd (by rw [List.eq_nil_of_length_eq_zero lp]) e
      · exact ⟨a, b, by rw [z, List.concat_eq_append]⟩
    have g1 : (ini ++ [v])[(ini ++ [v]).length - 1]? = some v := by simp
    have g2 : (ini ++ [v]).dropLast = ini := by simp
    rw [wts_app] at hm
    rw [plBs_app] at hb
    have hb : (plBs ini && (plB v && true)) = plB x := hb
    rw [Bool.and_true] at hb
    have w1 : wts [v] = wt v := by show wt v + 0 = wt v; omega
    have hini : ∀ d ∈ ini, Lv 3 d := fun d hd => hst d (List.mem_append_left _ hd)
    have wv := wt_pos v
    have nxt : ∀ y, plB v = true → (∃ m', m' < wts (ini ++ [v]) ∧ ∃ st y', ([.lst ini] : DH) = [.lst st] ∧ [some x, some (D.ref 0), some y] = [some x, some (.ref 0), y'] ∧ m' = wts st ∧ m' ≤ 40000 ∧ (∀ d ∈ st, Lv 3 d) ∧ plBs st = plB x) := fun y hv => by
      refine ⟨wts ini, by rw [wts_app, w1]; omega, ini, some y, rfl, rfl, rfl, by omega, hini, ?_⟩
      rw [hv, Bool.and_true] at hb
      exact hb
    conv => whnf
    refine ⟨⟨rfl, rfl⟩, ?_⟩
    conv => whnf
    rw [g1]
    conv => whnf
    rw [g2]
    rcases hst v (by simp) with hv | ⟨ds, rfl, hv⟩ | ⟨ds, rfl, hv⟩
    · cases hv with
      | tm t ht =>
        refine ji_tup (okD_t t) ?_
        cases t with
        | s z =>
          conv => whnf
          refine ji_str rfl ?_
          exact nxt _ rfl
        | i n =>
          conv => whnf
          refine ji_str rfl ?_
          conv => whnf
          refine ⟨_, rfl, rfl, ?_⟩
          exact nxt _ rfl
    · refine ji_tup rfl ?_
      have hv' : ∀ d ∈ ini ++ ds, Lv 3 d := fun d hd => by
        rcases List.mem_append.mp hd with z | z
        · exact hini d z
        · exact (hv d z).up
      have l1 := len_wts (ini ++ ds)
      have w2 : wt (.tup ds) = wts ds + 1 := rfl
      rw [wts_app, List.length_append] at l1
      conv => whnf
      refine ⟨⟨rfl, rfl⟩, ?_⟩
      conv => whnf
      refine ⟨by rw [sizeLine_eq]; omega, wts (ini ++ ds), by rw [wts_app, wts_app, w1]; omega, ini ++ ds, some (.tup ds), rfl, rfl, rfl, by rw [wts_app]; omega, hv', ?_⟩
      rw [plBs_app]
      exact hb
    · refine ji_tup rfl ?_
      conv => whnf
      refine ji_str rfl ?_
      conv => whnf
      refine ⟨_, rfl, rfl, ?_⟩
      have z : plB (.lst ds) = false := rfl
      rw [z, Bool.and_false] at hb
      refine .inr ⟨[], [.lst ini], .bl false, rfl, Nat.le_refl _, hcl_nil, .same trivial, ?_⟩
      rw [← hb] at q
      exact q
end
end K69

namespace K69
open PySem PySem.Spec PyProof.Rows L2 TL
theorem dv_xtup {h : DH} {ds : List D} {ps : List PyData} (e : toPDs ds = some ps) : dval h (.xtup ds) = some (.tuple ps) := by
  show (toPDs ds).map PyData.tuple = _; rw [e]; rfl
theorem strsOf_D : ∀ l : List PySem.Str, strsOf (strsD l) = some l
  | [] => rfl
  | x :: r => by
    show (strsOf (strsD r)).map (x :: ·) = _
    rw [strsOf_D r]
    rfl
theorem strs_app (a b : List PySem.Str) : strsD a ++ strsD b = strsD (a ++ b) := by unfold strsD; rw [List.map_append]
theorem nc_strs {l : List PySem.Str} (h : ∀ z ∈ l, PyData.strOk z = true) : ∀ z ∈ l.map PyData.str, Nc 0 z := fun z hz => by
  obtain ⟨x, hx, rfl⟩ := List.mem_map.mp hz
  exact nc_s (h x hx)
section
variable (K : PySem.W.Frag)
theorem pl_Plan_init : Pl (T_Plan_init K) (c_Plan_init K) N_Plan_init := by
  rintro ds h Q hc hl ⟨a, b, c, d, e, rfl, rfl, q⟩
  conv => whnf
  refine ⟨rfl, by show 0 < 1000; decide, ?_⟩
  conv => whnf
  refine ⟨rfl, by show 1 < 1000; decide, ?_⟩
  conv => whnf
  refine ⟨rfl, by show 2 < 1000; decide, ?_⟩
  conv => whnf
  refine ⟨rfl, by show 3 < 1000; decide, ?_⟩
  conv => whnf
  refine ⟨rfl, by show 4 < 1000; decide, ?_⟩
  exact .inl q
theorem pl_Select_init : Pl (T_Select_init K) (c_Select_init K) N_Select_init := by
  rintro ds h Q hc hl ⟨o1, o2, a, b, c, d, rfl, rfl, q⟩
  conv => whnf
  refine ⟨rfl, by show 0 < 1000; decide, ?_⟩
  conv => whnf
  refine ⟨rfl, by show 1 < 1000; decide, ?_⟩
  conv => whnf
  refine ⟨rfl, by show 2 < 1000; decide, ?_⟩
  conv => whnf
  refine ⟨rfl, by show 3 < 1000; decide, ?_⟩
  exact .inl q
theorem pl_Select_kept_columns : Pl (T_Select_kept_columns K) (c_Select_kept_columns K) N_Select_kept_columns := by
  rintro ds h Q hc hl ⟨cs, o, rfl, q⟩
  conv => whnf
  refine ⟨rfl, ?_⟩
  conv => whnf
  cases o with
  | true =>
    refine ji_tup rfl ?_
    conv => whnf
    refine ⟨rfl, ?_⟩
    conv => whnf
    refine j_le (fun _ => ?_) (fun z => absurd (show (1 : Int) ≤ 1 by decide) z)
    conv => whnf
    refine j_le (fun _ => ?_) (fun z => absurd (show (1 : Int) ≤ 4 by decide) z)
    refine ⟨rfl, ?_⟩
    refine ⟨rfl, ?_⟩
    exact .inl q
  | false =>
    refine ji_tup rfl ?_
    conv => whnf
    refine ⟨rfl, ?_⟩
    conv => whnf
    refine j_le (fun _ => ?_) (fun z => absurd (show (1 : Int) ≤ 1 by decide) z)
    conv => whnf
    refine j_le (fun _ => ?_) (fun z => absurd (show (1 : Int) ≤ 4 by decide) z)
    refine ⟨rfl, ?_⟩
    refine ⟨rfl, ?_⟩
    exact .inl q
theorem pl_Table_init : Pl (T_Table_init K) (c_Table_init K) N_Table_init := by
  rintro ds h Q hc hl ⟨o1, o2, nm, ns, us, ky, rfl, rfl, ⟨t1, t2, t3, t4, t5, t6, t7, t8, t9, t10⟩, q⟩
  have k1 : ∀ z ∈ ns, nameS z = true ∧ okS z := fun z hz => t3 z (by simp [hz])
  have k2 : ∀ z ∈ us, nameS z = true ∧ okS z := fun z hz => t3 z (by simp [hz])
  have k3 : ∀ z ∈ ky, nameS z = true ∧ okS z := fun z hz => t3 z (by simp [hz])
  have a1 : ns.all nameS = true := List.all_eq_true.mpr fun z hz => (k1 z hz).1
  have a2 : us.all nameS = true := List.all_eq_true.mpr fun z hz => (k2 z hz).1
  have a3 : ky.all nameS = true := List.all_eq_true.mpr fun z hz => (k3 z hz).1
  conv => whnf
  refine ⟨_, rfl, rfl, t2, ?_⟩
  rw [show nameD (.str nm) = true from t1]
  conv => whnf
  refine ⟨ns, rfl, fun z hz => (k1 z hz).2.1, by omega, ?_⟩
  rw [a1, decide_eq_true t4]
  conv => whnf
  refine ⟨us, rfl, fun z hz => (k2 z hz).2.1, by omega, ?_⟩
  rw [a2, decide_eq_true t5]
  conv => whnf
  refine ⟨by unfold strsD; simpa using t7, by unfold strsD; simpa using t8, by rw [len_strs, len_strs, sizeLine_eq]; omega, ?_⟩
  conv => whnf
  rw [strs_app]
  refine ⟨zero, ?_⟩
  refine eq_nc (p := .tuple ((ns ++ us).map .str)) (q := .tuple []) (n := 1) (m := 1) (dv_xtup (strs_pd _)) (dv_tup (ds := []) rfl) (nc_tup (nc_strs fun z hz => ?_)) nc_tup0 (fun e => ?_) (fun _ => ?_)
  · rcases List.mem_append.mp hz with y | y
    · exact (k1 z y).2.2
    · exact (k2 z y).2.2
  · injection e with e
    cases ns with
    | nil => exact absurd rfl t7
    | cons a b => cases e
  conv => whnf
  rw [show (seqRd _ (D.xtup (strsD (ns ++ us)))).bind strsOf = some (ns ++ us) from strsOf_D _]
  refine ⟨by rw [List.length_append]; omega, t9, ?_⟩
  conv => whnf
  refine j_lt (fun e => absurd e (by rw [len_strs]; omega)) (fun _ => ?_)
  conv => whnf
  refine ⟨ky, ns ++ us, rfl, fun z hz => (k3 z hz).2, fun z hz => ?_, by omega, by rw [List.length_append]; omega, ?_⟩
  · rcases List.mem_append.mp hz with y | y
    · exact (k1 z y).2
    · exact (k2 z y).2
  rw [a3, decide_eq_true t10]
  conv => whnf
  refine ⟨rfl, by show 0 < 1000; decide, ?_⟩
  conv => whnf
  refine ⟨rfl, by show 1 < 1000; decide, ?_⟩
  conv => whnf
  refine ⟨rfl, by show 2 < 1000; decide, ?_⟩
  conv => whnf
  refine ⟨rfl, by show 3 < 1000; decide, ?_⟩
  exact .inl q
theorem cl_tab (n : Nat) (nm : PySem.Str) (ns us ky : List PySem.Str) : Cl n (tabD K nm ns us ky) := ⟨trivial, cl_strs ns, cl_strs us, cl_strs ky, trivial⟩
theorem pl_table_with : Pl (T_table_with K) (c_table_with K) N_table_with := by
  rintro ds h Q hc hl ⟨ky, q⟩
  rcases q with ⟨rfl, q⟩ | ⟨rfl, q⟩
  · conv => whnf
    refine jlc_ok (fun _ p => p) (fun d => match d with | .ob _ ((_, .str z) :: _) => if z = ("t" : PySem.Str) then some d else none | _ => none) (fun _ => trivial) hc (fun d hd acc P R k => ?_) two ?_ ?_
    · have hd : d = tT K ∨ d = tS K ky := by simpa [tabsL] using hd
      rcases hd with rfl | rfl
      · conv => whnf
        refine ji_str rfl ?_
        conv => whnf
        refine ⟨rfl, ?_⟩
        conv => whnf
        refine eq_s (by decide +kernel) (by decide +kernel) ?_
        exact k
      · conv => whnf
        refine ji_str rfl ?_
        conv => whnf
        refine ⟨rfl, ?_⟩
        conv => whnf
        refine eq_s (by decide +kernel) (by decide +kernel) ?_
        exact k
    · show ClL _ [tT K]
      exact ⟨cl_tab K _ _ _ _ _, trivial⟩
    · rw [show (tabsL K ky).filterMap _ = [tT K] from rfl]
      conv => whnf
      refine ⟨zero, ?_⟩
      refine ne_len (xs := [tT K]) (ys := []) rfl rfl (by show 1 ≠ 0; decide) ?_
      refine ⟨rfl, ?_⟩
      exact .inl q
  · conv => whnf
    refine jlc_ok (fun _ p => p) (fun d => match d with | .ob _ ((_, .str z) :: _) => if z = ("s" : PySem.Str) then some d else none | _ => none) (fun _ => trivial) hc (fun d hd acc P R k => ?_) two ?_ ?_
    · have hd : d = tT K ∨ d = tS K ky := by simpa [tabsL] using hd
      rcases hd with rfl | rfl
      · conv => whnf
        refine ji_str rfl ?_
        conv => whnf
        refine ⟨rfl, ?_⟩
        conv => whnf
        refine eq_s (by decide +kernel) (by decide +kernel) ?_
        exact k
      · conv => whnf
        refine ji_str rfl ?_
        conv => whnf
        refine ⟨rfl, ?_⟩
        conv => whnf
        refine eq_s (by decide +kernel) (by decide +kernel) ?_
        exact k
    · show ClL _ [tS K ky]
      exact ⟨cl_tab K _ _ _ _ _, trivial⟩
    · rw [show (tabsL K ky).filterMap _ = [tS K ky] from rfl]
      conv => whnf
      refine ⟨zero, ?_⟩
      refine ne_len (xs := [tS K ky]) (ys := []) rfl rfl (by show 1 ≠ 0; decide) ?_
      refine ⟨rfl, ?_⟩
      exact .inl q
end
end K69

namespace K69
open PySem PySem.Spec PyProof.Rows L2 TL
section
variable {h : DH} {Q : KD}
theorem j_eqT {a b : PySem.Str} (e : a = b) (ha : PyData.strOk a = true) (k : Q (.bl true) h) : jEq (.str a) (.str b) h Q := by
  subst e
  refine eq_s ha ha ?_
  rw [decide_eq_true rfl]
  exact k
theorem j_eqF {a b : PySem.Str} (e : a ≠ b) (ha : PyData.strOk a = true) (hb : PyData.strOk b = true) (k : Q (.bl false) h) : jEq (.str a) (.str b) h Q := by
  refine eq_s ha hb ?_
  rw [decide_eq_false e]
  exact k
theorem j_inX {a : PySem.Str} {l m : List PySem.Str} (e : (l ++ m).contains a = true) (k : Q (.bl true) h) : jIn (.str a) (.xtup (strsD l ++ strsD m)) h Q := by
  rw [strs_app]
  refine in_xtup ?_
  rw [e]
  exact k
end
theorem part_s (c : Col) : Txt.partition c.s "." = (c.al, ("." : PySem.Str), c.cn) := by cases c <;> decide +kernel
section
variable (K : PySem.W.Frag)
theorem pl_column_of : Pl (T_column_of K) (c_column_of K) N_column_of := by
  rintro ds h Q hc hl ⟨ky, c, rfl, q⟩
  have ps := part_s c
  cases c with
  | ua =>
    conv => whnf
    refine ji_str rfl ?_
    conv => whnf
    refine ⟨rfl, ?_⟩
    conv => whnf
    refine ⟨rfl, rfl, ?_⟩
    conv => whnf
    refine ⟨by decide, by decide, ?_⟩
    rw [ps]
    conv => whnf
    refine ⟨rfl, ?_⟩
    conv => whnf
    refine ⟨rfl, ?_⟩
    conv => whnf
    refine ⟨rfl, ?_⟩
    conv => whnf
    refine j_eqT rfl (by decide +kernel) ?_
    conv => whnf
    refine j_eqT rfl (by decide +kernel) ?_
    conv => whnf
    refine ⟨⟨_, rfl⟩, _, _, _, _, rfl, by decide, by decide, by decide, ?_⟩
    refine j_inX (by decide) ?_
    conv => whnf
    refine ⟨⟨_, rfl⟩, _, _, _, _, rfl, by decide, by decide, by decide, ?_⟩
    refine ⟨⟨_, rfl⟩, ?_⟩
    conv => whnf
    exact ⟨two, .inl q⟩
  | ub =>
    conv => whnf
    refine ji_str rfl ?_
    conv => whnf
    refine ⟨rfl, ?_⟩
    conv => whnf
    refine ⟨rfl, rfl, ?_⟩
    conv => whnf
    refine ⟨by decide, by decide, ?_⟩
    rw [ps]
    conv => whnf
    refine ⟨rfl, ?_⟩
    conv => whnf
    refine ⟨rfl, ?_⟩
    conv => whnf
    refine ⟨rfl, ?_⟩
    conv => whnf
    refine j_eqT rfl (by decide +kernel) ?_
    conv => whnf
    refine j_eqT rfl (by decide +kernel) ?_
    conv => whnf
    refine ⟨⟨_, rfl⟩, _, _, _, _, rfl, by decide, by decide, by decide, ?_⟩
    refine j_inX (by decide) ?_
    conv => whnf
    refine ⟨⟨_, rfl⟩, _, _, _, _, rfl, by decide, by decide, by decide, ?_⟩
    refine ⟨⟨_, rfl⟩, ?_⟩
    conv => whnf
    exact ⟨two, .inl q⟩
  | up =>
    conv => whnf
    refine ji_str rfl ?_
    conv => whnf
    refine ⟨rfl, ?_⟩
    conv => whnf
    refine ⟨rfl, rfl, ?_⟩
    conv => whnf
    refine ⟨by decide, by decide, ?_⟩
    rw [ps]
    conv => whnf
    refine ⟨rfl, ?_⟩
    conv => whnf
    refine ⟨rfl, ?_⟩
    conv => whnf
    refine ⟨rfl, ?_⟩
    conv => whnf
    refine j_eqT rfl (by decide +kernel) ?_
    conv => whnf
    refine j_eqT rfl (by decide +kernel) ?_
    conv => whnf
    refine ⟨⟨_, rfl⟩, _, _, _, _, rfl, by decide, by decide, by decide, ?_⟩
    refine j_inX (by decide) ?_
    conv => whnf
    refine ⟨⟨_, rfl⟩, _, _, _, _, rfl, by decide, by decide, by decide, ?_⟩
    refine ⟨⟨_, rfl⟩, ?_⟩
    conv => whnf
    exact ⟨two, .inl q⟩
  | uq =>
    conv => whnf
    refine ji_str rfl ?_
    conv => whnf
    refine ⟨rfl, ?_⟩
    conv => whnf
    refine ⟨rfl, rfl, ?_⟩
    conv => whnf
    refine ⟨by decide, by decide, ?_⟩
    rw [ps]
    conv => whnf
    refine ⟨rfl, ?_⟩
    conv => whnf
    refine ⟨rfl, ?_⟩
    conv => whnf
    refine ⟨rfl, ?_⟩
    conv => whnf
    refine j_eqT rfl (by decide +kernel) ?_
    conv => whnf
    refine j_eqT rfl (by decide +kernel) ?_
    conv => whnf
    refine ⟨⟨_, rfl⟩, _, _, _, _, rfl, by decide, by decide, by decide, ?_⟩
    refine j_inX (by decide) ?_
    conv => whnf
    refine ⟨⟨_, rfl⟩, _, _, _, _, rfl, by decide, by decide, by decide, ?_⟩
    refine ⟨⟨_, rfl⟩, ?_⟩
    conv => whnf
    exact ⟨two, .inl q⟩
  | vc =>
    conv => whnf
    refine ji_str rfl ?_
    conv => whnf
    refine ⟨rfl, ?_⟩
    conv => whnf
    refine ⟨rfl, rfl, ?_⟩
    conv => whnf
    refine ⟨by decide, by decide, ?_⟩
    rw [ps]
    conv => whnf
    refine ⟨rfl, ?_⟩
    conv => whnf
    refine ⟨rfl, ?_⟩
    conv => whnf
    refine ⟨rfl, ?_⟩
    conv => whnf
    refine j_eqF (by decide) (by decide +kernel) (by decide +kernel) ?_
    conv => whnf
    conv => whnf
    refine ⟨rfl, ?_⟩
    conv => whnf
    refine ⟨rfl, ?_⟩
    conv => whnf
    refine ⟨rfl, ?_⟩
    conv => whnf
    refine j_eqT rfl (by decide +kernel) ?_
    conv => whnf
    refine j_eqT rfl (by decide +kernel) ?_
    conv => whnf
    refine ⟨⟨_, rfl⟩, _, _, _, _, rfl, by decide, by decide, by decide, ?_⟩
    refine j_inX (by decide) ?_
    conv => whnf
    refine ⟨⟨_, rfl⟩, _, _, _, _, rfl, by decide, by decide, by decide, ?_⟩
    refine ⟨⟨_, rfl⟩, ?_⟩
    conv => whnf
    exact ⟨two, .inl q⟩
  | vd =>
    conv => whnf
    refine ji_str rfl ?_
    conv => whnf
    refine ⟨rfl, ?_⟩
    conv => whnf
    refine ⟨rfl, rfl, ?_⟩
    conv => whnf
    refine ⟨by decide, by decide, ?_⟩
    rw [ps]
    conv => whnf
    refine ⟨rfl, ?_⟩
    conv => whnf
    refine ⟨rfl, ?_⟩
    conv => whnf
    refine ⟨rfl, ?_⟩
    conv => whnf
    refine j_eqF (by decide) (by decide +kernel) (by decide +kernel) ?_
    conv => whnf
    conv => whnf
    refine ⟨rfl, ?_⟩
    conv => whnf
    refine ⟨rfl, ?_⟩
    conv => whnf
    refine ⟨rfl, ?_⟩
    conv => whnf
    refine j_eqT rfl (by decide +kernel) ?_
    conv => whnf
    refine j_eqT rfl (by decide +kernel) ?_
    conv => whnf
    refine ⟨⟨_, rfl⟩, _, _, _, _, rfl, by decide, by decide, by decide, ?_⟩
    refine j_inX (by decide) ?_
    conv => whnf
    refine ⟨⟨_, rfl⟩, _, _, _, _, rfl, by decide, by decide, by decide, ?_⟩
    refine ⟨⟨_, rfl⟩, ?_⟩
    conv => whnf
    exact ⟨two, .inl q⟩
  | vr =>
    conv => whnf
    refine ji_str rfl ?_
    conv => whnf
    refine ⟨rfl, ?_⟩
    conv => whnf
    refine ⟨rfl, rfl, ?_⟩
    conv => whnf
    refine ⟨by decide, by decide, ?_⟩
    rw [ps]
    conv => whnf
    refine ⟨rfl, ?_⟩
    conv => whnf
    refine ⟨rfl, ?_⟩
    conv => whnf
    refine ⟨rfl, ?_⟩
    conv => whnf
    refine j_eqF (by decide) (by decide +kernel) (by decide +kernel) ?_
    conv => whnf
    conv => whnf
    refine ⟨rfl, ?_⟩
    conv => whnf
    refine ⟨rfl, ?_⟩
    conv => whnf
    refine ⟨rfl, ?_⟩
    conv => whnf
    refine j_eqT rfl (by decide +kernel) ?_
    conv => whnf
    refine j_eqT rfl (by decide +kernel) ?_
    conv => whnf
    refine ⟨⟨_, rfl⟩, _, _, _, _, rfl, by decide, by decide, by decide, ?_⟩
    refine j_inX (by decide) ?_
    conv => whnf
    refine ⟨⟨_, rfl⟩, _, _, _, _, rfl, by decide, by decide, by decide, ?_⟩
    refine ⟨⟨_, rfl⟩, ?_⟩
    conv => whnf
    exact ⟨two, .inl q⟩
  | vw =>
    conv => whnf
    refine ji_str rfl ?_
    conv => whnf
    refine ⟨rfl, ?_⟩
    conv => whnf
    refine ⟨rfl, rfl, ?_⟩
    conv => whnf
    refine ⟨by decide, by decide, ?_⟩
    rw [ps]
    conv => whnf
    refine ⟨rfl, ?_⟩
    conv => whnf
    refine ⟨rfl, ?_⟩
    conv => whnf
    refine ⟨rfl, ?_⟩
    conv => whnf
    refine j_eqF (by decide) (by decide +kernel) (by decide +kernel) ?_
    conv => whnf
    conv => whnf
    refine ⟨rfl, ?_⟩
    conv => whnf
    refine ⟨rfl, ?_⟩
    conv => whnf
    refine ⟨rfl, ?_⟩
    conv => whnf
    refine j_eqT rfl (by decide +kernel) ?_
    conv => whnf
    refine j_eqT rfl (by decide +kernel) ?_
    conv => whnf
    refine ⟨⟨_, rfl⟩, _, _, _, _, rfl, by decide, by decide, by decide, ?_⟩
    refine j_inX (by decide) ?_
    conv => whnf
    refine ⟨⟨_, rfl⟩, _, _, _, _, rfl, by decide, by decide, by decide, ?_⟩
    refine ⟨⟨_, rfl⟩, ?_⟩
    conv => whnf
    exact ⟨two, .inl q⟩
  | xc =>
    conv => whnf
    refine ji_str rfl ?_
    conv => whnf
    refine ⟨rfl, ?_⟩
    conv => whnf
    refine ⟨rfl, rfl, ?_⟩
    conv => whnf
    refine ⟨by decide, by decide, ?_⟩
    rw [ps]
    conv => whnf
    refine ⟨rfl, ?_⟩
    conv => whnf
    refine ⟨rfl, ?_⟩
    conv => whnf
    refine ⟨rfl, ?_⟩
    conv => whnf
    refine j_eqT rfl (by decide +kernel) ?_
    conv => whnf
    refine j_eqT rfl (by decide +kernel) ?_
    conv => whnf
    refine ⟨⟨_, rfl⟩, _, _, _, _, rfl, by decide, by decide, by decide, ?_⟩
    refine j_inX (by decide) ?_
    conv => whnf
    refine ⟨⟨_, rfl⟩, _, _, _, _, rfl, by decide, by decide, by decide, ?_⟩
    refine ⟨⟨_, rfl⟩, ?_⟩
    conv => whnf
    exact ⟨two, .inl q⟩
  | xd =>
    conv => whnf
    refine ji_str rfl ?_
    conv => whnf
    refine ⟨rfl, ?_⟩
    conv => whnf
    refine ⟨rfl, rfl, ?_⟩
    conv => whnf
    refine ⟨by decide, by decide, ?_⟩
    rw [ps]
    conv => whnf
    refine ⟨rfl, ?_⟩
    conv => whnf
    refine ⟨rfl, ?_⟩
    conv => whnf
    refine ⟨rfl, ?_⟩
    conv => whnf
    refine j_eqT rfl (by decide +kernel) ?_
    conv => whnf
    refine j_eqT rfl (by decide +kernel) ?_
    conv => whnf
    refine ⟨⟨_, rfl⟩, _, _, _, _, rfl, by decide, by decide, by decide, ?_⟩
    refine j_inX (by decide) ?_
    conv => whnf
    refine ⟨⟨_, rfl⟩, _, _, _, _, rfl, by decide, by decide, by decide, ?_⟩
    refine ⟨⟨_, rfl⟩, ?_⟩
    conv => whnf
    exact ⟨two, .inl q⟩
end
end K69

namespace K69
open PySem PySem.Spec PyProof.Rows L2 TL
section
variable (K : PySem.W.Frag)
theorem pl_is_name_column : Pl (T_is_name_column K) (c_is_name_column K) N_is_name_column := by
  rintro ds h Q hc hl ⟨ky, c, rfl, q⟩
  cases c with
  | ua =>
    conv => whnf
    refine ⟨rfl, ?_⟩
    conv => whnf
    refine ⟨rfl, ?_⟩
    conv => whnf
    exact j_lt (fun _ => .inl q) (fun z => (z (by decide)).elim)
  | ub =>
    conv => whnf
    refine ⟨rfl, ?_⟩
    conv => whnf
    refine ⟨rfl, ?_⟩
    conv => whnf
    exact j_lt (fun _ => .inl q) (fun z => (z (by decide)).elim)
  | up =>
    conv => whnf
    refine ⟨rfl, ?_⟩
    conv => whnf
    refine ⟨rfl, ?_⟩
    conv => whnf
    exact j_lt (fun z => absurd z (by decide)) (fun _ => .inl q)
  | uq =>
    conv => whnf
    refine ⟨rfl, ?_⟩
    conv => whnf
    refine ⟨rfl, ?_⟩
    conv => whnf
    exact j_lt (fun z => absurd z (by decide)) (fun _ => .inl q)
  | vc =>
    conv => whnf
    refine ⟨rfl, ?_⟩
    conv => whnf
    refine ⟨rfl, ?_⟩
    conv => whnf
    exact j_lt (fun _ => .inl q) (fun z => (z (by decide)).elim)
  | vd =>
    conv => whnf
    refine ⟨rfl, ?_⟩
    conv => whnf
    refine ⟨rfl, ?_⟩
    conv => whnf
    exact j_lt (fun _ => .inl q) (fun z => (z (by decide)).elim)
  | vr =>
    conv => whnf
    refine ⟨rfl, ?_⟩
    conv => whnf
    refine ⟨rfl, ?_⟩
    conv => whnf
    exact j_lt (fun z => absurd z (by decide)) (fun _ => .inl q)
  | vw =>
    conv => whnf
    refine ⟨rfl, ?_⟩
    conv => whnf
    refine ⟨rfl, ?_⟩
    conv => whnf
    exact j_lt (fun z => absurd z (by decide)) (fun _ => .inl q)
  | xc =>
    conv => whnf
    refine ⟨rfl, ?_⟩
    conv => whnf
    refine ⟨rfl, ?_⟩
    conv => whnf
    exact j_lt (fun _ => .inl q) (fun z => (z (by decide)).elim)
  | xd =>
    conv => whnf
    refine ⟨rfl, ?_⟩
    conv => whnf
    refine ⟨rfl, ?_⟩
    conv => whnf
    exact j_lt (fun _ => .inl q) (fun z => (z (by decide)).elim)
theorem rt_nm {b : Rt} {a : Col} (h : okRt a b) (n : b.isN) : (∃ x, b = .nm x ∧ nameS x = true ∧ okS x) ∨ ∃ c : Col, b = .col c ∧ c.one = a.one ∧ c.nm = a.nm ∧ nameS c.s = false := by
  cases b with
  | nm x =>
    refine .inl ⟨x, rfl, ?_⟩
    rcases h with rfl | rfl
    · exact ⟨by decide +kernel, by decide +kernel, by decide +kernel⟩
    · exact ⟨by decide +kernel, by decide +kernel, by decide +kernel⟩
  | num i => exact n.elim
  | col c => exact .inr ⟨c, rfl, h.1, h.2.1, by cases c <;> decide +kernel⟩
theorem okS_c (c : Col) : okS c.s := by cases c <;> exact ⟨by decide +kernel, by decide +kernel⟩
theorem pl_name_operand : Pl (T_name_operand K) (c_name_operand K) N_name_operand := by
  rintro ds h Q hc hl ⟨ky, a, b, rfl, hb, ha, hn, q⟩
  rcases rt_nm hb hn with ⟨x, rfl, n1, n2⟩ | ⟨c, rfl, h1, h2, h3⟩
  · conv => whnf
    refine ⟨_, rfl, rfl, n2.1, ?_⟩
    rw [show nameD (Rt.nm x).t.d = true from n1]
    exact ⟨one, .inl q⟩
  · conv => whnf
    refine ⟨_, rfl, rfl, (okS_c c).1, ?_⟩
    rw [show nameD (Rt.col c).t.d = false from h3]
    conv => whnf
    refine ⟨ky, c, by rw [← h1]; rfl, ?_⟩
    conv => whnf
    refine ⟨ky, c, by rw [← h1]; rfl, ?_⟩
    rw [h2, ha]
    refine ⟨rfl, ?_⟩
    exact .inl q
theorem pl_number_operand : Pl (T_number_operand K) (c_number_operand K) N_number_operand := by
  rintro ds h Q hc hl ⟨ky, a, b, rfl, hb, ha, hn, q⟩
  cases b with
  | nm x => exact hn.elim
  | num i =>
    conv => whnf
    refine ⟨_, rfl, rfl, ?_⟩
    exact ⟨one, .inl q⟩
  | col c =>
    obtain ⟨h1, h2, h3⟩ := hb
    conv => whnf
    refine ⟨_, rfl, rfl, ?_⟩
    conv => whnf
    refine ⟨ky, c, by rw [← h1]; rfl, ?_⟩
    conv => whnf
    refine ⟨ky, c, by rw [← h1]; rfl, ?_⟩
    rw [h2, ha]
    conv => whnf
    refine ⟨rfl, ?_⟩
    have h3 := h3 ha
    clear hl hn
    cases a with
    | ua => exact absurd ha (by decide)
    | ub => exact absurd ha (by decide)
    | up =>
      cases c with
      | ua => exact absurd h2 (by decide)
      | ub => exact absurd h2 (by decide)
      | up =>
        conv => whnf
        refine ⟨rfl, ?_⟩
        conv => whnf
        refine ⟨rfl, ?_⟩
        conv => whnf
        refine ne_s (by decide +kernel) (by decide +kernel) ?_
        conv => whnf
        refine eq_nc (p := .int 2) (q := .int 2) (n := 0) (m := 0) rfl rfl (nc_i _) (nc_i _) (fun _ => ?_) (fun z => absurd rfl z)
        refine ⟨rfl, ?_⟩
        exact .inl q
      | uq => exact absurd h3 (by decide)
      | vc => exact absurd h2 (by decide)
      | vd => exact absurd h2 (by decide)
      | vr =>
        conv => whnf
        refine ⟨rfl, ?_⟩
        conv => whnf
        refine ⟨rfl, ?_⟩
        conv => whnf
        refine ne_s (by decide +kernel) (by decide +kernel) ?_
        refine ⟨rfl, ?_⟩
        exact .inl q
      | vw =>
        conv => whnf
        refine ⟨rfl, ?_⟩
        conv => whnf
        refine ⟨rfl, ?_⟩
        conv => whnf
        refine ne_s (by decide +kernel) (by decide +kernel) ?_
        refine ⟨rfl, ?_⟩
        exact .inl q
      | xc => exact absurd h2 (by decide)
      | xd => exact absurd h2 (by decide)
    | uq =>
      cases c with
      | ua => exact absurd h2 (by decide)
      | ub => exact absurd h2 (by decide)
      | up => exact absurd h3 (by decide)
      | uq =>
        conv => whnf
        refine ⟨rfl, ?_⟩
        conv => whnf
        refine ⟨rfl, ?_⟩
        conv => whnf
        refine ne_s (by decide +kernel) (by decide +kernel) ?_
        conv => whnf
        refine eq_nc (p := .int 3) (q := .int 3) (n := 0) (m := 0) rfl rfl (nc_i _) (nc_i _) (fun _ => ?_) (fun z => absurd rfl z)
        refine ⟨rfl, ?_⟩
        exact .inl q
      | vc => exact absurd h2 (by decide)
      | vd => exact absurd h2 (by decide)
      | vr =>
        conv => whnf
        refine ⟨rfl, ?_⟩
        conv => whnf
        refine ⟨rfl, ?_⟩
        conv => whnf
        refine ne_s (by decide +kernel) (by decide +kernel) ?_
        refine ⟨rfl, ?_⟩
        exact .inl q
      | vw =>
        conv => whnf
        refine ⟨rfl, ?_⟩
        conv => whnf
        refine ⟨rfl, ?_⟩
        conv => whnf
        refine ne_s (by decide +kernel) (by decide +kernel) ?_
        refine ⟨rfl, ?_⟩
        exact .inl q
      | xc => exact absurd h2 (by decide)
      | xd => exact absurd h2 (by decide)
    | vc => exact absurd ha (by decide)
    | vd => exact absurd ha (by decide)
    | vr =>
      cases c with
      | ua => exact absurd h2 (by decide)
      | ub => exact absurd h2 (by decide)
      | up =>
        conv => whnf
        refine ⟨rfl, ?_⟩
        conv => whnf
        refine ⟨rfl, ?_⟩
        conv => whnf
        refine ne_s (by decide +kernel) (by decide +kernel) ?_
        refine ⟨rfl, ?_⟩
        exact .inl q
      | uq =>
        conv => whnf
        refine ⟨rfl, ?_⟩
        conv => whnf
        refine ⟨rfl, ?_⟩
        conv => whnf
        refine ne_s (by decide +kernel) (by decide +kernel) ?_
        refine ⟨rfl, ?_⟩
        exact .inl q
      | vc => exact absurd h2 (by decide)
      | vd => exact absurd h2 (by decide)
      | vr =>
        conv => whnf
        refine ⟨rfl, ?_⟩
        conv => whnf
        refine ⟨rfl, ?_⟩
        conv => whnf
        refine ne_s (by decide +kernel) (by decide +kernel) ?_
        conv => whnf
        refine eq_nc (p := .int 2) (q := .int 2) (n := 0) (m := 0) rfl rfl (nc_i _) (nc_i _) (fun _ => ?_) (fun z => absurd rfl z)
        refine ⟨rfl, ?_⟩
        exact .inl q
      | vw => exact absurd h3 (by decide)
      | xc => exact absurd h2 (by decide)
      | xd => exact absurd h2 (by decide)
    | vw =>
      cases c with
      | ua => exact absurd h2 (by decide)
      | ub => exact absurd h2 (by decide)
      | up =>
        conv => whnf
        refine ⟨rfl, ?_⟩
        conv => whnf
        refine ⟨rfl, ?_⟩
        conv => whnf
        refine ne_s (by decide +kernel) (by decide +kernel) ?_
        refine ⟨rfl, ?_⟩
        exact .inl q
      | uq =>
        conv => whnf
        refine ⟨rfl, ?_⟩
        conv => whnf
        refine ⟨rfl, ?_⟩
        conv => whnf
        refine ne_s (by decide +kernel) (by decide +kernel) ?_
        refine ⟨rfl, ?_⟩
        exact .inl q
      | vc => exact absurd h2 (by decide)
      | vd => exact absurd h2 (by decide)
      | vr => exact absurd h3 (by decide)
      | vw =>
        conv => whnf
        refine ⟨rfl, ?_⟩
        conv => whnf
        refine ⟨rfl, ?_⟩
        conv => whnf
        refine ne_s (by decide +kernel) (by decide +kernel) ?_
        conv => whnf
        refine eq_nc (p := .int 3) (q := .int 3) (n := 0) (m := 0) rfl rfl (nc_i _) (nc_i _) (fun _ => ?_) (fun z => absurd rfl z)
        refine ⟨rfl, ?_⟩
        exact .inl q
      | xc => exact absurd h2 (by decide)
      | xd => exact absurd h2 (by decide)
    | xc => exact absurd ha (by decide)
    | xd => exact absurd ha (by decide)
end
end K69

namespace K69
open PySem PySem.Spec PyProof.Rows L2 TL
theorem j_inT {h : DH} {Q : KD} {a : PySem.Str} {l : List PySem.Str} (e : l.contains a = true) (k : Q (.bl true) h) : jIn (.str a) (.tup (l.map D.str)) h Q := by
  refine in_tup (l := l) ?_
  rw [e]
  exact k
theorem lc_rel {α : Type} {G : DH → Prop} {g : CG} {e : CE} {h : DH} {σ0 : DS} {Q : List D → DH → Prop} (A B : α → D) (hG : ∀ l, G (h ++ [.lst l])) : ∀ (cs : List α) (acc : List D),
    (∀ c ∈ cs, ∀ acc' (P : D → DH → Prop), P (B c) (h ++ [.lst acc']) → g (A c) σ0 (h ++ [.lst acc']) (fun σ2 h2 => e σ2 h2 P)) →
    acc.length + cs.length ≤ sizeLine → Q (acc ++ cs.map B) (h ++ [.lst (acc ++ cs.map B)]) → lcTurns G g cYes e h.length σ0 Q (cs.map A) acc (h ++ [.lst acc])
  | [], acc, _, hz, q => by
    refine ⟨hG acc, by simp, ?_⟩
    rw [List.map_nil, List.append_nil] at q
    exact q
  | c :: cs, acc, step, hz, q => by
    refine ⟨hG acc, by simp, ?_⟩
    have hz' : acc.length + (cs.length + 1) ≤ sizeLine := hz
    refine step c List.mem_cons_self acc _ ?_
    refine ⟨by simp, by omega, ?_⟩
    have e2 : (h ++ [O.lst acc]).set h.length (.lst (acc ++ [B c])) = h ++ [.lst (acc ++ [B c])] := by simp
    rw [e2]
    refine lc_rel A B hG cs (acc ++ [B c]) (fun d' hd => step d' (List.mem_cons_of_mem _ hd)) (by rw [List.length_append]; show acc.length + 1 + cs.length ≤ sizeLine; omega) ?_
    rw [List.append_assoc]
    exact q
theorem jlc_rel {α : Type} {ci : CI} {G : DH → Prop} {g : CG} {e : CE} {vs : List Nat} {h : DH} {σ : DS} {Q : KD} (A B : α → D) (cs : List α) (hci : ∀ P : List D → (DH → Prop) → DH → Prop, P (cs.map A) G h → ci σ h P) (hG : ∀ l, G (h ++ [.lst l])) (hc : HCl h)
    (step : ∀ c ∈ cs, ∀ acc' (P : D → DH → Prop), P (B c) (h ++ [.lst acc']) → g (A c) (wipeD σ vs) (h ++ [.lst acc']) (fun σ2 h2 => e σ2 h2 P))
    (hz : cs.length ≤ sizeLine) (hl : ClL h.length (cs.map B)) (q : Q (.lst (cs.map B)) h) : jLc ci g cYes e vs σ h Q := by
  unfold jLc cLc
  refine hci _ (lc_rel A B hG cs [] step (by rw [List.length_nil]; omega) ?_)
  rw [List.nil_append]
  exact lcEnd_ok hc hl q
section
variable (K : PySem.W.Frag)
theorem cl_d (n : Nat) (c : Col) : Cl n c.d := ⟨trivial, trivial, trivial⟩
theorem cl_rt (n : Nat) (b : Rt) : Cl n b.o := by
  cases b with
  | nm x => exact ⟨trivial, trivial⟩
  | num x => exact ⟨trivial, trivial⟩
  | col c => exact cl_d n c
theorem cl_o (n : Nat) (c : Cond) : Cl n c.o := ⟨cl_d n _, trivial, cl_rt n _, trivial⟩
theorem pl_condition_of : Pl (T_condition_of K) (c_condition_of K) N_condition_of := by
  rintro ds h Q hc hl ⟨ky, c, rfl, ⟨hb, ho⟩, q⟩
  have last : jIsi "str" [.str c.op, .ty "str"] h = jIsi "str" [.str c.op, .ty "str"] h := rfl
  conv => whnf
  refine ji_tup rfl ?_
  conv => whnf
  refine eq_nc (p := .int 3) (q := .int 3) (n := 0) (m := 0) rfl rfl (nc_i _) (nc_i _) (fun _ => ?_) (fun z => absurd rfl z)
  conv => whnf
  refine ji_str rfl ?_
  refine ⟨rfl, ?_⟩
  conv => whnf
  refine ⟨ky, c.a, rfl, ?_⟩
  conv => whnf
  refine ⟨ky, c.a, rfl, ?_⟩
  rcases ho with ⟨h1, h2, h3⟩ | ⟨h1, h2, h3⟩
  · rw [h1]
    conv => whnf
    refine j_inT ?_ ?_
    · rcases h2 with e | e <;> rw [e] <;> decide
    refine ⟨rfl, ?_⟩
    conv => whnf
    refine ⟨ky, c.a, c.b, rfl, hb, h1, h3, ?_⟩
    exact ⟨three, .inl q⟩
  · rw [h1]
    conv => whnf
    refine j_inT ?_ ?_
    · rcases h2 with e | e | e | e <;> rw [e] <;> decide
    refine ⟨rfl, ?_⟩
    conv => whnf
    refine ⟨ky, c.a, c.b, rfl, hb, h1, h3, ?_⟩
    exact ⟨three, .inl q⟩
theorem pl_conditions_of : Pl (T_conditions_of K) (c_conditions_of K) N_conditions_of := by
  rintro ds h Q hc hl ⟨ky, o, cs, rfl, hz, hok, q⟩
  conv => whnf
  refine ji_tup rfl ?_
  refine ⟨rfl, ?_⟩
  conv => whnf
  refine jlc_rel Cond.d Cond.o cs (fun _ p => p) (fun _ => trivial) hc (fun c hm acc P k => ?_) (by rw [sizeLine_eq]; omega) (cl_all fun d hd => ?_) ?_
  · obtain ⟨h1, h2⟩ := hok c hm
    conv => whnf
    exact ⟨ky, c, by rw [← h2]; rfl, h1, k⟩
  · obtain ⟨c, _, rfl⟩ := List.mem_map.mp hd
    exact cl_o _ c
  · exact .inl q
theorem pl_scope_of : Pl (T_scope_of K) (c_scope_of K) N_scope_of := by
  rintro ds h Q hc hl ⟨ky, o, rfl, rfl, q⟩
  cases o with
  | true =>
    conv => whnf
    refine ji_tup rfl ?_
    conv => whnf
    refine j_le (fun _ => ?_) (fun z => (z (by decide)).elim)
    conv => whnf
    refine j_le (fun _ => ?_) (fun z => (z (by decide)).elim)
    refine ⟨rfl, ?_⟩
    conv => whnf
    refine ⟨zero, ?_⟩
    conv => whnf
    refine ⟨trivial, ?_⟩
    conv => whnf
    refine ji_tup rfl ?_
    conv => whnf
    refine eq_nc (p := .int 2) (q := .int 2) (n := 0) (m := 0) rfl rfl (nc_i _) (nc_i _) (fun _ => ?_) (fun z => absurd rfl z)
    conv => whnf
    refine ⟨_, rfl, rfl, by show (1 : Nat) ≤ 1000; decide, ?_⟩
    refine ⟨congrArg (fun b => [D.bl b]) (show nameD (.str "u") = true by decide +kernel), ?_⟩
    conv => whnf
    refine ⟨⟨rfl, rfl⟩, ?_⟩
    conv => whnf
    refine ⟨ky, .inl ⟨rfl, ?_⟩⟩
    refine ⟨two, ?_⟩
    conv => whnf
    refine ⟨by show 0 < sizeLine; decide, ?_⟩
    conv => whnf
    refine ⟨trivial, ?_⟩
    conv => whnf
    refine ji_tup rfl ?_
    conv => whnf
    refine eq_nc (p := .int 2) (q := .int 2) (n := 0) (m := 0) rfl rfl (nc_i _) (nc_i _) (fun _ => ?_) (fun z => absurd rfl z)
    conv => whnf
    refine ⟨_, rfl, rfl, by show (1 : Nat) ≤ 1000; decide, ?_⟩
    refine ⟨congrArg (fun b => [D.bl b]) (show nameD (.str "v") = true by decide +kernel), ?_⟩
    conv => whnf
    refine ⟨⟨rfl, rfl⟩, ?_⟩
    conv => whnf
    refine ⟨ky, .inr ⟨rfl, ?_⟩⟩
    refine ⟨two, ?_⟩
    conv => whnf
    refine ⟨by show 1 < sizeLine; decide, ?_⟩
    refine ⟨trivial, .inr ⟨[], [.lst [.tup [.str "u", tT K], .tup [.str "v", tS K ky]]], .lst [.tup [.str "u", tT K], .tup [.str "v", tS K ky]], rfl, Nat.le_refl _, hcl_nil, .lst rfl (Nat.le_refl _) ⟨⟨trivial, cl_tab K _ _ _ _ _, trivial⟩, ⟨trivial, cl_tab K _ _ _ _ _, trivial⟩, trivial⟩, q⟩⟩
  | false =>
    conv => whnf
    refine ji_tup rfl ?_
    conv => whnf
    refine j_le (fun _ => ?_) (fun z => (z (by decide)).elim)
    conv => whnf
    refine j_le (fun _ => ?_) (fun z => (z (by decide)).elim)
    refine ⟨rfl, ?_⟩
    conv => whnf
    refine ⟨zero, ?_⟩
    conv => whnf
    refine ⟨trivial, ?_⟩
    conv => whnf
    refine ji_tup rfl ?_
    conv => whnf
    refine eq_nc (p := .int 2) (q := .int 2) (n := 0) (m := 0) rfl rfl (nc_i _) (nc_i _) (fun _ => ?_) (fun z => absurd rfl z)
    conv => whnf
    refine ⟨_, rfl, rfl, by show (1 : Nat) ≤ 1000; decide, ?_⟩
    refine ⟨congrArg (fun b => [D.bl b]) (show nameD (.str "x") = true by decide +kernel), ?_⟩
    conv => whnf
    refine ⟨⟨rfl, rfl⟩, ?_⟩
    conv => whnf
    refine ⟨ky, .inr ⟨rfl, ?_⟩⟩
    refine ⟨two, ?_⟩
    conv => whnf
    refine ⟨by show 0 < sizeLine; decide, ?_⟩
    refine ⟨trivial, .inr ⟨[], [.lst [.tup [.str "x", tS K ky]]], .lst [.tup [.str "x", tS K ky]], rfl, Nat.le_refl _, hcl_nil, .lst rfl (Nat.le_refl _) ⟨⟨trivial, cl_tab K _ _ _ _ _, trivial⟩, trivial⟩, q⟩⟩
end
end K69

namespace K69
open PySem PySem.Spec PyProof.Rows L2 TL
section
variable (K : PySem.W.Frag)
theorem cl_conds (n : Nat) (cs : List Cond) : ClL n (cs.map Cond.o) := cl_all fun d hd => by
  obtain ⟨c, _, rfl⟩ := List.mem_map.mp hd
  exact cl_o n c
theorem pl_plan_of : Pl (T_plan_of K) (c_plan_of K) N_plan_of := by
  rintro ds h Q hc hl ⟨ky, cs, o, rfl, rfl, ⟨hz, hok⟩, q⟩
  conv => whnf
  refine ⟨rfl, ?_⟩
  conv => whnf
  refine ⟨ky, o, rfl, rfl, ?_⟩
  conv => whnf
  refine ⟨rfl, ?_⟩
  conv => whnf
  refine ⟨ky, o, cs, rfl, by omega, hok, ?_⟩
  cases o with
  | true =>
    conv => whnf
    unfold jLc
    conv => whnf
    refine ⟨rfl, rfl, ?_⟩
    conv => whnf
    refine ⟨rfl, ?_⟩
    conv => whnf
    refine ⟨rfl, by show 0 < sizeLine; decide, ?_⟩
    conv => whnf
    refine ⟨rfl, rfl, ?_⟩
    conv => whnf
    refine ⟨rfl, ?_⟩
    conv => whnf
    refine ⟨rfl, by show 1 < sizeLine; decide, ?_⟩
    conv => whnf
    refine ⟨rfl, rfl, rfl, ⟨trivial, trivial, trivial⟩, hcl_nil, ?_⟩
    conv => whnf
    refine ⟨rfl, ?_⟩
    conv => whnf
    refine ji_tup rfl ?_
    conv => whnf
    refine ⟨rfl, ?_⟩
    conv => whnf
    refine j_le (fun _ => ?_) (fun z => (z (by decide)).elim)
    refine ⟨rfl, ?_⟩
    conv => whnf
    refine ⟨zero, ?_⟩
    conv => whnf
    refine ⟨rfl, ?_⟩
    conv => whnf
    refine ⟨trivial, ?_⟩
    conv => whnf
    refine ⟨by decide, by decide, ?_⟩
    conv => whnf
    refine eq_nc (p := .int 2) (q := .int 2) (n := 0) (m := 0) rfl rfl (nc_i _) (nc_i _) (fun _ => ?_) (fun z => absurd rfl z)
    refine ⟨rfl, ?_⟩
    conv => whnf
    refine ⟨⟨_, rfl, rfl⟩, ?_⟩
    refine ⟨cs, true, rfl, ?_⟩
    conv => whnf
    refine ⟨trivial, rfl, ?_⟩
    conv => whnf
    refine ⟨ky, .ua, rfl, ?_⟩
    refine ⟨rfl, by show 0 < sizeLine; decide, ?_⟩
    conv => whnf
    refine ⟨trivial, rfl, rfl, ⟨cl_d _ .ua, trivial⟩, hcl_nil, ?_⟩
    conv => whnf
    refine ⟨trivial, rfl, ?_⟩
    conv => whnf
    refine ⟨ky, .ua, rfl, ?_⟩
    refine ⟨rfl, by show 0 < sizeLine; decide, ?_⟩
    conv => whnf
    refine ⟨trivial, rfl, rfl, ⟨trivial, trivial⟩, hcl_nil, ?_⟩
    conv => whnf
    refine ⟨rfl, rfl, ?_⟩
    conv => whnf
    refine ⟨rfl, ?_⟩
    conv => whnf
    refine ⟨rfl, ?_⟩
    conv => whnf
    refine ⟨rfl, by show 0 < sizeLine; decide, ?_⟩
    conv => whnf
    refine ⟨rfl, rfl, ?_⟩
    conv => whnf
    refine ⟨rfl, ?_⟩
    conv => whnf
    refine ⟨rfl, ?_⟩
    conv => whnf
    refine ⟨rfl, by show 1 < sizeLine; decide, ?_⟩
    conv => whnf
    refine ⟨rfl, rfl, rfl, ⟨trivial, trivial, trivial⟩, hcl_nil, ?_⟩
    conv => whnf
    refine ⟨_, _, _, _, _, rfl, rfl, ?_⟩
    exact ⟨rfl, _, rfl, ⟨⟨trivial, trivial, trivial⟩, cl_conds _ cs, trivial, ⟨cl_d _ .ua, trivial⟩, ⟨trivial, trivial⟩, trivial⟩, .inl q⟩
  | false =>
    conv => whnf
    unfold jLc
    conv => whnf
    refine ⟨rfl, rfl, ?_⟩
    conv => whnf
    refine ⟨rfl, ?_⟩
    conv => whnf
    refine ⟨rfl, by show 0 < sizeLine; decide, ?_⟩
    conv => whnf
    refine ⟨rfl, rfl, rfl, ⟨trivial, trivial⟩, hcl_nil, ?_⟩
    conv => whnf
    refine ⟨rfl, ?_⟩
    conv => whnf
    refine ji_tup rfl ?_
    conv => whnf
    refine ⟨rfl, ?_⟩
    conv => whnf
    refine j_le (fun _ => ?_) (fun z => (z (by decide)).elim)
    refine ⟨rfl, ?_⟩
    conv => whnf
    refine ⟨zero, ?_⟩
    conv => whnf
    refine ⟨rfl, ?_⟩
    conv => whnf
    refine ⟨trivial, ?_⟩
    conv => whnf
    refine ⟨by decide, by decide, ?_⟩
    conv => whnf
    refine eq_nc (p := .int 1) (q := .int 1) (n := 0) (m := 0) rfl rfl (nc_i _) (nc_i _) (fun _ => ?_) (fun z => absurd rfl z)
    refine ⟨rfl, ?_⟩
    conv => whnf
    refine ⟨⟨_, rfl, rfl⟩, ?_⟩
    refine ⟨cs, false, rfl, ?_⟩
    conv => whnf
    refine ⟨trivial, rfl, ?_⟩
    conv => whnf
    refine ⟨ky, .xc, rfl, ?_⟩
    refine ⟨rfl, by show 0 < sizeLine; decide, ?_⟩
    conv => whnf
    refine ⟨trivial, rfl, rfl, ⟨cl_d _ .xc, trivial⟩, hcl_nil, ?_⟩
    conv => whnf
    refine ⟨trivial, rfl, ?_⟩
    conv => whnf
    refine ⟨ky, .xc, rfl, ?_⟩
    refine ⟨rfl, by show 0 < sizeLine; decide, ?_⟩
    conv => whnf
    refine ⟨trivial, rfl, rfl, ⟨trivial, trivial⟩, hcl_nil, ?_⟩
    conv => whnf
    refine ⟨rfl, rfl, ?_⟩
    conv => whnf
    refine ⟨rfl, ?_⟩
    conv => whnf
    refine ⟨rfl, ?_⟩
    conv => whnf
    refine ⟨rfl, by show 0 < sizeLine; decide, ?_⟩
    conv => whnf
    refine ⟨rfl, rfl, rfl, ⟨trivial, trivial⟩, hcl_nil, ?_⟩
    conv => whnf
    refine ⟨_, _, _, _, _, rfl, rfl, ?_⟩
    exact ⟨rfl, _, rfl, ⟨⟨trivial, trivial⟩, cl_conds _ cs, trivial, ⟨cl_d _ .xc, trivial⟩, ⟨trivial, trivial⟩, trivial⟩, .inl q⟩
end
end K69

namespace K69
open PySem PySem.Spec PyProof.Rows L2 TL
section
variable (K : PySem.W.Frag)
theorem pl_Select_check : Pl (T_Select_check K) (c_Select_check K) N_Select_check := by
  rintro ds h Q hc hl ⟨ky, cs, o, rfl, rfl, hok, q⟩
  conv => whnf
  exact ⟨ky, cs, o, rfl, rfl, hok, .inl q⟩
theorem pl_Question_fits : Pl (T_Question_fits K) (c_Question_fits K) N_Question_fits := by
  rintro ds h Q hc hl ⟨ky, cs, o, rfl, rfl, hok, q⟩
  conv => whnf
  refine ⟨⟨_, rfl, rfl⟩, ?_⟩
  conv => whnf
  refine ⟨[sel K cs o], tabsL K ky, rfl, rfl, two, ?_⟩
  exact ⟨ky, cs, o, rfl, rfl, hok, .inl q⟩
theorem pl_check_select : Pl (T_check_select K) (c_check_select K) N_check_select := by
  rintro ds h Q hc hl ⟨ky, cs, o, rfl, rfl, ⟨hz, hok⟩, q⟩
  conv => whnf
  refine ⟨rfl, ⟨_, rfl⟩, ?_⟩
  conv => whnf
  refine ⟨⟨_, rfl, rfl⟩, ?_⟩
  conv => whnf
  refine ⟨[sel K cs o], tabsL K ky, rfl, rfl, two, ?_⟩
  refine ⟨ky, cs, o, rfl, rfl, ⟨hz, hok⟩, ?_⟩
  conv => whnf
  refine ⟨rfl, ?_⟩
  cases o with
  | true =>
    conv => whnf
    refine ⟨rfl, ?_⟩
    conv => whnf
    refine ⟨rfl, ?_⟩
    conv => whnf
    refine ⟨zero, ?_⟩
    refine ne_nc (p := .tuple []) (q := .tuple []) (n := 1) (m := 1) rfl rfl nc_tup0 nc_tup0 (fun _ => ?_) (fun z => absurd rfl z)
    conv => whnf
    refine ⟨rfl, ?_⟩
    conv => whnf
    refine j_gt (fun z => absurd z (by decide)) (fun _ => ?_)
    conv => whnf
    refine j_gt (fun z => absurd z (by rw [List.length_map]; show ¬ (6 : Int) < (cs.length : Int) + ((1 : Nat) : Int); omega)) (fun _ => ?_)
    exact .inl q
  | false =>
    conv => whnf
    refine ⟨rfl, ?_⟩
    conv => whnf
    refine ⟨rfl, ?_⟩
    conv => whnf
    refine ⟨zero, ?_⟩
    refine ne_nc (p := .tuple []) (q := .tuple []) (n := 1) (m := 1) rfl rfl nc_tup0 nc_tup0 (fun _ => ?_) (fun z => absurd rfl z)
    conv => whnf
    refine ⟨rfl, ?_⟩
    conv => whnf
    refine j_gt (fun z => absurd z (by decide)) (fun _ => ?_)
    conv => whnf
    refine j_gt (fun z => absurd z (by rw [List.length_map]; show ¬ (6 : Int) < (cs.length : Int) + ((1 : Nat) : Int); omega)) (fun _ => ?_)
    exact .inl q
theorem pl_check_selects : Pl (T_check_selects K) (c_check_selects K) N_check_selects := by
  rintro ds h Q hc hl ⟨ky, cs, rfl, rfl, hok, q⟩
  have ok2 : okSel cond2 false := ⟨by decide, fun c hc => by
    have : c = ⟨.xd, "!=", .col .xc⟩ := by simpa [cond2] using hc
    subst this
    exact ⟨⟨⟨rfl, rfl, fun z => by cases z⟩, .inl ⟨rfl, .inr rfl, trivial⟩⟩, rfl⟩⟩
  conv => whnf
  refine ⟨ky, cs, true, rfl, rfl, hok, ?_⟩
  conv => whnf
  refine ⟨ky, cond2, false, rfl, rfl, ok2, ?_⟩
  conv => whnf
  refine ⟨ky, cs, true, rfl, rfl, hok, ?_⟩
  conv => whnf
  refine ⟨rfl, ?_⟩
  conv => whnf
  refine ⟨ky, cond2, false, rfl, rfl, ok2, ?_⟩
  conv => whnf
  refine ⟨rfl, ?_⟩
  conv => whnf
  refine ne_nc (p := .tuple [.str "name"]) (q := .tuple [.str "name"]) (n := 1) (m := 1) rfl rfl (nc_tup fun z hz => ?_) (nc_tup fun z hz => ?_) (fun _ => ?_) (fun z => absurd rfl z)
  · rw [List.mem_singleton.mp hz]; exact nc_s (by decide +kernel)
  · rw [List.mem_singleton.mp hz]; exact nc_s (by decide +kernel)
  · exact .inl q
theorem toH {P : DH → Prop} {h : DH} (h' : DH) (e : h = h') (k : P h') : P h := by rw [e]; exact k
theorem pl_Scene_init : Pl (T_Scene_init K) (c_Scene_init K) N_Scene_init := by
  rintro ds h Q hc hl ⟨ky, rfl, rfl, q⟩
  conv => whnf
  refine ⟨trivial, ?_⟩
  conv => whnf
  refine ⟨rfl, ?_⟩
  conv => whnf
  refine ⟨by show 0 < sizeLine; decide, ?_⟩
  conv => whnf
  refine ⟨trivial, ?_⟩
  conv => whnf
  refine ⟨rfl, ?_⟩
  conv => whnf
  refine ⟨by show 1 < sizeLine; decide, ?_⟩
  conv => whnf
  refine ⟨trivial, ?_⟩
  conv => whnf
  refine ⟨rfl, by show 0 < 1000; decide, ?_⟩
  refine toH [.dct [], .dct [], .ins (He.ga K ("Scene" : PySem.Str)) [("by_name", .ref 3)], byN K ky] rfl ?_
  conv => whnf
  refine ⟨rfl, by show 1 < 1000; decide, ?_⟩
  refine toH [.dct [], .dct [], .ins (He.ga K ("Scene" : PySem.Str)) [("by_name", .ref 3), ("plan", plan K cond2 false)], byN K ky] rfl ?_
  conv => whnf
  refine ⟨rfl, by show 2 < 1000; decide, ?_⟩
  refine toH [.dct [], .dct [], .ins (He.ga K ("Scene" : PySem.Str)) [("by_name", .ref 3), ("plan", plan K cond2 false), ("called", .ref 4)], byN K ky, .dct []] rfl ?_
  conv => whnf
  refine ⟨rfl, by show 3 < 1000; decide, ?_⟩
  refine toH [.dct [], .dct [], .ins (He.ga K ("Scene" : PySem.Str)) [("by_name", .ref 3), ("plan", plan K cond2 false), ("called", .ref 4), ("numeric", .ref 5)], byN K ky, .dct [], .dct []] rfl ?_
  conv => whnf
  refine ⟨zero, ?_⟩
  conv => whnf
  refine ⟨rfl, by show 4 < 1000; decide, ?_⟩
  refine toH [.dct [], .dct [], .ins (He.ga K ("Scene" : PySem.Str)) [("by_name", .ref 3), ("plan", plan K cond2 false), ("called", .ref 4), ("numeric", .ref 5), ("strangers", .ref 6)], byN K ky, .dct [], .dct [], .lst []] rfl ?_
  conv => whnf
  refine ⟨zero, ?_⟩
  conv => whnf
  refine ⟨rfl, by show 5 < 1000; decide, ?_⟩
  refine toH [.dct [], .dct [], .ins (He.ga K ("Scene" : PySem.Str)) [("by_name", .ref 3), ("plan", plan K cond2 false), ("called", .ref 4), ("numeric", .ref 5), ("strangers", .ref 6), ("early", .lst [])], byN K ky, .dct [], .dct [], .lst []] rfl ?_
  conv => whnf
  refine ⟨zero, ?_⟩
  conv => whnf
  refine ⟨rfl, by show 6 < 1000; decide, ?_⟩
  refine toH [.dct [], .dct [], .ins (He.ga K ("Scene" : PySem.Str)) [("by_name", .ref 3), ("plan", plan K cond2 false), ("called", .ref 4), ("numeric", .ref 5), ("strangers", .ref 6), ("early", .lst []), ("late", .lst [])], byN K ky, .dct [], .dct [], .lst []] rfl ?_
  conv => whnf
  refine ⟨zero, ?_⟩
  conv => whnf
  refine ⟨rfl, by show 7 < 1000; decide, ?_⟩
  refine toH [.dct [], .dct [], .ins (He.ga K ("Scene" : PySem.Str)) [("by_name", .ref 3), ("plan", plan K cond2 false), ("called", .ref 4), ("numeric", .ref 5), ("strangers", .ref 6), ("early", .lst []), ("late", .lst []), ("usable", .lst [])], byN K ky, .dct [], .dct [], .lst []] rfl ?_
  conv => whnf
  refine ⟨zero, ?_⟩
  conv => whnf
  refine ⟨rfl, by show 8 < 1000; decide, ?_⟩
  refine toH [.dct [], .dct [], .ins (He.ga K ("Scene" : PySem.Str)) [("by_name", .ref 3), ("plan", plan K cond2 false), ("called", .ref 4), ("numeric", .ref 5), ("strangers", .ref 6), ("early", .lst []), ("late", .lst []), ("usable", .lst []), ("root", .lst [])], byN K ky, .dct [], .dct [], .lst []] rfl ?_
  conv => whnf
  refine ⟨zero, ?_⟩
  conv => whnf
  refine ⟨rfl, by show 9 < 1000; decide, ?_⟩
  exact .inl q
theorem pl_Scene_entry : Pl (T_Scene_entry K) (c_Scene_entry K) N_Scene_entry := by
  rintro ds h Q hc hl ⟨ky, root, g, c, rfl, ho, rfl, q⟩
  cases c with
  | ua =>
    conv => whnf
    refine ⟨rfl, ?_⟩
    conv => whnf
    exact .inl q
  | ub =>
    conv => whnf
    refine ⟨rfl, ?_⟩
    conv => whnf
    exact .inl q
  | up =>
    conv => whnf
    refine ⟨rfl, ?_⟩
    conv => whnf
    exact .inl q
  | uq =>
    conv => whnf
    refine ⟨rfl, ?_⟩
    conv => whnf
    exact .inl q
  | vc =>
    conv => whnf
    refine ⟨rfl, ?_⟩
    conv => whnf
    exact .inl q
  | vd =>
    conv => whnf
    refine ⟨rfl, ?_⟩
    conv => whnf
    exact .inl q
  | vr =>
    conv => whnf
    refine ⟨rfl, ?_⟩
    conv => whnf
    exact .inl q
  | vw =>
    conv => whnf
    refine ⟨rfl, ?_⟩
    conv => whnf
    exact .inl q
  | xc => cases ho
  | xd => cases ho
end
end K69

namespace K69
open PySem PySem.Spec PyProof.Rows L2 TL
def pre (al : PySem.Str) (c : PySem.Str) : D := .str (Str.empty ++ al ++ "." ++ c)
theorem preU : (["a", "b", "p", "q"] : List PySem.Str).map (pre "u") = [.str "u.a", .str "u.b", .str "u.p", .str "u.q"] := by
  show [pre "u" "a", pre "u" "b", pre "u" "p", pre "u" "q"] = _
  rw [show pre "u" "a" = .str "u.a" from congrArg D.str (by decide +kernel), show pre "u" "b" = .str "u.b" from congrArg D.str (by decide +kernel), show pre "u" "p" = .str "u.p" from congrArg D.str (by decide +kernel), show pre "u" "q" = .str "u.q" from congrArg D.str (by decide +kernel)]
theorem preV : (["c", "d", "r", "w"] : List PySem.Str).map (pre "v") = [.str "v.c", .str "v.d", .str "v.r", .str "v.w"] := by
  show [pre "v" "c", pre "v" "d", pre "v" "r", pre "v" "w"] = _
  rw [show pre "v" "c" = .str "v.c" from congrArg D.str (by decide +kernel), show pre "v" "d" = .str "v.d" from congrArg D.str (by decide +kernel), show pre "v" "r" = .str "v.r" from congrArg D.str (by decide +kernel), show pre "v" "w" = .str "v.w" from congrArg D.str (by decide +kernel)]
section
variable (K : PySem.W.Frag)
theorem pl_Scene_add_stranger : Pl (T_Scene_add_stranger K) (c_Scene_add_stranger K) N_Scene_add_stranger := by
  rintro ds h Q hc hl ⟨ky, q⟩
  rcases q with ⟨rfl, rfl, q⟩ | ⟨rfl, rfl, q⟩
  · conv => whnf
    refine ⟨rfl, ?_⟩
    conv => whnf
    refine jlc_rel D.str (pre "u") ["a", "b", "p", "q"] (fun P p => ⟨⟨_, rfl⟩, _, _, _, _, rfl, by decide, by decide, by decide, p⟩) (fun _ => trivial) hc (fun c hm acc P k => ?_) (by decide) ?_ ?_
    · have hm : c = ("a" : PySem.Str) ∨ c = ("b" : PySem.Str) ∨ c = ("p" : PySem.Str) ∨ c = ("q" : PySem.Str) := by simpa using hm
      rcases hm with rfl | rfl | rfl | rfl
      all_goals ((conv => whnf); refine ⟨by decide +kernel, ?_⟩; (conv => whnf); refine ⟨by decide +kernel, ?_⟩; (conv => whnf); refine ⟨by decide +kernel, ?_⟩; (conv => whnf); refine ⟨by decide +kernel, ?_⟩; (conv => whnf); refine ⟨by decide +kernel, ?_⟩; exact k)
    · exact ⟨trivial, trivial, trivial, trivial, trivial⟩
    · rw [preU]
      conv => whnf
      refine ⟨two, ?_⟩
      conv => whnf
      refine ⟨rfl, ?_⟩
      conv => whnf
      refine ⟨by show 0 < sizeLine; decide, ?_⟩
      refine toH (scH K ky calledU [] [] E0 E0 E0 E0) rfl ?_
      conv => whnf
      refine ⟨rfl, ?_⟩
      conv => whnf
      refine ⟨trivial, ?_⟩
      conv => whnf
      refine ⟨rfl, ?_⟩
      conv => whnf
      refine ⟨rfl, ?_⟩
      conv => whnf
      refine j_ge (fun z => absurd z (by decide)) (fun _ => ?_)
      conv => whnf
      refine ⟨rfl, ?_⟩
      conv => whnf
      refine ⟨by show 0 < sizeLine; decide, ?_⟩
      refine toH (scH K ky calledU ([(.inr "u.a", .bl false)]) [] E0 E0 E0 E0) rfl ?_
      conv => whnf
      refine ⟨trivial, ?_⟩
      conv => whnf
      refine ⟨rfl, ?_⟩
      conv => whnf
      refine ⟨rfl, ?_⟩
      conv => whnf
      refine j_ge (fun z => absurd z (by decide)) (fun _ => ?_)
      conv => whnf
      refine ⟨rfl, ?_⟩
      conv => whnf
      refine ⟨by show 1 < sizeLine; decide, ?_⟩
      refine toH (scH K ky calledU ([(.inr "u.a", .bl false), (.inr "u.b", .bl false)]) [] E0 E0 E0 E0) rfl ?_
      conv => whnf
      refine ⟨trivial, ?_⟩
      conv => whnf
      refine ⟨rfl, ?_⟩
      conv => whnf
      refine ⟨rfl, ?_⟩
      conv => whnf
      refine j_ge (fun _ => ?_) (fun z => (z (by decide)).elim)
      conv => whnf
      refine ⟨rfl, ?_⟩
      conv => whnf
      refine ⟨by show 2 < sizeLine; decide, ?_⟩
      refine toH (scH K ky calledU ([(.inr "u.a", .bl false), (.inr "u.b", .bl false), (.inr "u.p", .bl true)]) [] E0 E0 E0 E0) rfl ?_
      conv => whnf
      refine ⟨trivial, ?_⟩
      conv => whnf
      refine ⟨rfl, ?_⟩
      conv => whnf
      refine ⟨rfl, ?_⟩
      conv => whnf
      refine j_ge (fun _ => ?_) (fun z => (z (by decide)).elim)
      conv => whnf
      refine ⟨rfl, ?_⟩
      conv => whnf
      refine ⟨by show 3 < sizeLine; decide, ?_⟩
      refine toH (scH K ky calledU ([(.inr "u.a", .bl false), (.inr "u.b", .bl false), (.inr "u.p", .bl true), (.inr "u.q", .bl true)]) [] E0 E0 E0 E0) rfl ?_
      conv => whnf
      refine ⟨trivial, ?_⟩
      conv => whnf
      refine ⟨rfl, ?_⟩
      conv => whnf
      refine ⟨⟨rfl, rfl⟩, ?_⟩
      conv => whnf
      refine ⟨by show 0 < sizeLine; decide, ?_⟩
      exact .inl q
  · conv => whnf
    refine ⟨rfl, ?_⟩
    conv => whnf
    refine jlc_rel D.str (pre "v") ["c", "d", "r", "w"] (fun P p => ⟨⟨_, rfl⟩, _, _, _, _, rfl, by decide, by decide, by decide, p⟩) (fun _ => trivial) hc (fun c hm acc P k => ?_) (by decide) ?_ ?_
    · have hm : c = ("c" : PySem.Str) ∨ c = ("d" : PySem.Str) ∨ c = ("r" : PySem.Str) ∨ c = ("w" : PySem.Str) := by simpa using hm
      rcases hm with rfl | rfl | rfl | rfl
      all_goals ((conv => whnf); refine ⟨by decide +kernel, ?_⟩; (conv => whnf); refine ⟨by decide +kernel, ?_⟩; (conv => whnf); refine ⟨by decide +kernel, ?_⟩; (conv => whnf); refine ⟨by decide +kernel, ?_⟩; (conv => whnf); refine ⟨by decide +kernel, ?_⟩; exact k)
    · exact ⟨trivial, trivial, trivial, trivial, trivial⟩
    · rw [preV]
      conv => whnf
      refine ⟨two, ?_⟩
      conv => whnf
      refine ⟨rfl, ?_⟩
      conv => whnf
      refine ⟨by show 1 < sizeLine; decide, ?_⟩
      refine toH (scH K ky calledUV numU [.str "u"] E0 E0 E0 E0) rfl ?_
      conv => whnf
      refine ⟨rfl, ?_⟩
      conv => whnf
      refine ⟨trivial, ?_⟩
      conv => whnf
      refine ⟨rfl, ?_⟩
      conv => whnf
      refine ⟨rfl, ?_⟩
      conv => whnf
      refine j_ge (fun z => absurd z (by decide)) (fun _ => ?_)
      conv => whnf
      refine ⟨rfl, ?_⟩
      conv => whnf
      refine ⟨by show 4 < sizeLine; decide, ?_⟩
      refine toH (scH K ky calledUV (numU ++ [(.inr "v.c", .bl false)]) [.str "u"] E0 E0 E0 E0) rfl ?_
      conv => whnf
      refine ⟨trivial, ?_⟩
      conv => whnf
      refine ⟨rfl, ?_⟩
      conv => whnf
      refine ⟨rfl, ?_⟩
      conv => whnf
      refine j_ge (fun z => absurd z (by decide)) (fun _ => ?_)
      conv => whnf
      refine ⟨rfl, ?_⟩
      conv => whnf
      refine ⟨by show 5 < sizeLine; decide, ?_⟩
      refine toH (scH K ky calledUV (numU ++ [(.inr "v.c", .bl false), (.inr "v.d", .bl false)]) [.str "u"] E0 E0 E0 E0) rfl ?_
      conv => whnf
      refine ⟨trivial, ?_⟩
      conv => whnf
      refine ⟨rfl, ?_⟩
      conv => whnf
      refine ⟨rfl, ?_⟩
      conv => whnf
      refine j_ge (fun _ => ?_) (fun z => (z (by decide)).elim)
      conv => whnf
      refine ⟨rfl, ?_⟩
      conv => whnf
      refine ⟨by show 6 < sizeLine; decide, ?_⟩
      refine toH (scH K ky calledUV (numU ++ [(.inr "v.c", .bl false), (.inr "v.d", .bl false), (.inr "v.r", .bl true)]) [.str "u"] E0 E0 E0 E0) rfl ?_
      conv => whnf
      refine ⟨trivial, ?_⟩
      conv => whnf
      refine ⟨rfl, ?_⟩
      conv => whnf
      refine ⟨rfl, ?_⟩
      conv => whnf
      refine j_ge (fun _ => ?_) (fun z => (z (by decide)).elim)
      conv => whnf
      refine ⟨rfl, ?_⟩
      conv => whnf
      refine ⟨by show 7 < sizeLine; decide, ?_⟩
      refine toH (scH K ky calledUV (numU ++ [(.inr "v.c", .bl false), (.inr "v.d", .bl false), (.inr "v.r", .bl true), (.inr "v.w", .bl true)]) [.str "u"] E0 E0 E0 E0) rfl ?_
      conv => whnf
      refine ⟨trivial, ?_⟩
      conv => whnf
      refine ⟨rfl, ?_⟩
      conv => whnf
      refine ⟨⟨rfl, rfl⟩, ?_⟩
      conv => whnf
      refine ⟨by show 1 < sizeLine; decide, ?_⟩
      exact .inl q
end
end K69

namespace K69
open PySem PySem.Spec PyProof.Rows L2 TL
theorem atI_al {c : Col} (h : c.one = true) : L2.atI [D.str "u", D.str "v"] ((c.u : Nat) : Int) = some (.str c.al) := by cases c <;> first | rfl | cases h
theorem fact_f (c : Cond) : factD (.str c.a.s) c.op c.b.t.d = fd c.f := by
  unfold factD Cond.f
  by_cases e : c.op = (">=" : PySem.Str)
  · rw [if_pos e, if_pos e]; rfl
  · rw [if_neg e, if_neg e]; rfl
theorem op_ok {c : Cond} (h : c.ok) : okS c.op := by
  rcases h.2 with ⟨_, e | e, _⟩ | ⟨_, e | e | e | e, _⟩ <;> rw [e] <;> exact ⟨by decide +kernel, by decide +kernel⟩
theorem cl_leaf {n : Nat} {d : D} (h : Leaf d) : Cl n d := by
  cases h with
  | tm t ht => exact cl_t n t
theorem cl_item {n : Nat} {d : D} (h : Item d) : Cl n d := by
  cases h with
  | leaf h => exact cl_leaf h
  | tup m h => exact cl_all fun x hx => cl_leaf (h x hx)
  | lst m h => exact cl_all fun x hx => cl_leaf (h x hx)
theorem cl_its {n : Nat} {its : List D} (h : Chain its) : ClL n its := cl_all fun d hd => cl_item (h.2 d hd)
section
variable (K : PySem.W.Frag)
theorem cl_facts (n : Nat) (cs : List Cond) : ClL n (cs.map fun c => fd c.f) := cl_all fun d hd => by
  obtain ⟨c, _, rfl⟩ := List.mem_map.mp hd
  exact cl_fd n _
theorem pl_Scene_facts_at : Pl (T_Scene_facts_at K) (c_Scene_facts_at K) N_Scene_facts_at := by
  rintro ds h Q hc hl ⟨ky, cs, rfl, rfl, ⟨hz, hok⟩, q⟩
  conv => whnf
  refine ⟨zero, ?_⟩
  conv => whnf
  refine ⟨rfl, ?_⟩
  conv => whnf
  refine for_ok (fun k σ h => ∃ a b c d e, h = scA K ky E0 ++ [.lst ((cs.take k).map fun c => fd c.f)] ∧ σ = [some (.ref 2), some (plan K cs true), some matchD, some (.ref 7), a, b, c, d, e]) (fun _ _ _ _ => trivial) (fun σ h i => ?_) (fun k d σ h ek i N hN => ?_) ⟨_, _, _, _, _, rfl, rfl⟩
  · obtain ⟨a, b, c, d, e, rfl, rfl⟩ := i
    rw [List.length_map, List.take_length]
    exact .inr ⟨scA K ky E0, [.lst (cs.map fun c => fd c.f)], .lst (cs.map fun c => fd c.f), rfl, Nat.le_refl _, hc, .lst rfl (Nat.le_refl _) (cl_facts _ cs), q⟩
  · obtain ⟨a, b, c, d', e, rfl, rfl⟩ := i
    rw [List.getElem?_map] at ek
    cases ec : cs[k]? with
    | none => rw [ec] at ek; cases ek
    | some cd =>
      rw [ec] at ek
      cases ek
      obtain ⟨h1, h2⟩ := hok cd (List.mem_of_getElem? ec)
      conv => whnf
      refine ⟨rfl, ?_⟩
      conv => whnf
      refine ⟨rfl, ?_⟩
      have hh : (scA K ky E0 ++ [O.lst ((cs.take k).map fun c => fd c.f)]).set 7 (.lst (((cs.take k).map fun c => fd c.f) ++ [fd cd.f])) = scA K ky E0 ++ [.lst ((cs.take (k + 1)).map fun c => fd c.f)] := by
        rw [List.take_add_one, ec, List.map_append]
        rfl
      cases hb : cd.b with
      | nm x =>
        have eb : (.str x : D) = cd.b.t.d := by rw [hb]; rfl
        conv => whnf
        refine eq_nc (p := .int 1) (q := .int 1) (n := 0) (m := 0) rfl rfl (nc_i _) (nc_i _) (fun _ => ?_) (fun z => absurd rfl z)
        conv => whnf
        refine ⟨⟨rfl, rfl⟩, ?_⟩
        conv => whnf
        refine ⟨⟨_, rfl, rfl⟩, ?_⟩
        conv => whnf
        rw [atI_al h2]
        conv => whnf
        refine ⟨ky, E0, _, cd.a, rfl, h2, rfl, ?_⟩
        conv => whnf
        refine ⟨_, _, _, rfl, op_ok h1, ?_⟩
        rw [eb, fact_f]
        conv => whnf
        refine ⟨by rw [List.length_map, List.length_take, sizeLine_eq]; omega, ?_⟩
        exact hN _ _ ⟨_, _, _, _, _, hh, rfl⟩
      | num x =>
        have eb : (.int x : D) = cd.b.t.d := by rw [hb]; rfl
        conv => whnf
        refine eq_nc (p := .int 1) (q := .int 1) (n := 0) (m := 0) rfl rfl (nc_i _) (nc_i _) (fun _ => ?_) (fun z => absurd rfl z)
        conv => whnf
        refine ⟨⟨rfl, rfl⟩, ?_⟩
        conv => whnf
        refine ⟨⟨_, rfl, rfl⟩, ?_⟩
        conv => whnf
        rw [atI_al h2]
        conv => whnf
        refine ⟨ky, E0, _, cd.a, rfl, h2, rfl, ?_⟩
        conv => whnf
        refine ⟨_, _, _, rfl, op_ok h1, ?_⟩
        rw [eb, fact_f]
        conv => whnf
        refine ⟨by rw [List.length_map, List.length_take, sizeLine_eq]; omega, ?_⟩
        exact hN _ _ ⟨_, _, _, _, _, hh, rfl⟩
      | col c' =>
        have eb : (.str c'.s : D) = cd.b.t.d := by rw [hb]; rfl
        have h3 : c'.one = true := by
          have := h1.1
          rw [hb] at this
          rw [this.1, h2]
        conv => whnf
        refine eq_nc (p := .int 2) (q := .int 1) (n := 0) (m := 0) rfl rfl (nc_i _) (nc_i _) (fun z => by cases z) (fun _ => ?_)
        conv => whnf
        refine ⟨⟨_, rfl, rfl⟩, ?_⟩
        conv => whnf
        rw [atI_al h3]
        conv => whnf
        refine ⟨ky, E0, _, c', rfl, h3, rfl, ?_⟩
        conv => whnf
        refine ⟨⟨rfl, rfl⟩, ?_⟩
        conv => whnf
        refine ⟨⟨_, rfl, rfl⟩, ?_⟩
        conv => whnf
        rw [atI_al h2]
        conv => whnf
        refine ⟨ky, E0, _, cd.a, rfl, h2, rfl, ?_⟩
        conv => whnf
        refine ⟨_, _, _, rfl, op_ok h1, ?_⟩
        rw [eb, fact_f]
        conv => whnf
        refine ⟨by rw [List.length_map, List.length_take, sizeLine_eq]; omega, ?_⟩
        exact hN _ _ ⟨_, _, _, _, _, hh, rfl⟩
theorem pl_Scene_kept_at : Pl (T_Scene_kept_at K) (c_Scene_kept_at K) N_Scene_kept_at := by
  rintro ds h Q hc hl ⟨ky, cs, root, rfl, rfl, q⟩
  conv => whnf
  refine jlc_rel (fun _ : Unit => .tup [.int 0, .int 0]) (fun _ : Unit => .str "u.a") [()] (fun P p => ⟨rfl, p⟩) (fun _ => trivial) hc (fun c hm acc P k => ?_) (by decide) ⟨trivial, trivial⟩ ?_
  · conv => whnf
    refine ⟨rfl, ?_⟩
    conv => whnf
    refine ⟨⟨_, rfl, rfl⟩, ?_⟩
    conv => whnf
    exact ⟨ky, root, _, .ua, rfl, rfl, rfl, k⟩
  · exact .inl q
theorem pl_pair_scene : Pl (T_pair_scene K) (c_pair_scene K) N_pair_scene := by
  rintro ds h Q hc hl ⟨ky, cs, rfl, rfl, hok, q⟩
  have ok2 : okSel cond2 false := ⟨by decide, fun c hc => by
    have : c = ⟨.xd, "!=", .col .xc⟩ := by simpa [cond2] using hc
    subst this
    exact ⟨⟨⟨rfl, rfl, fun z => by cases z⟩, .inl ⟨rfl, .inr rfl, trivial⟩⟩, rfl⟩⟩
  conv => whnf
  refine ⟨ky, cs, true, rfl, rfl, hok, ?_⟩
  conv => whnf
  refine ⟨ky, cond2, false, rfl, rfl, ok2, ?_⟩
  conv => whnf
  refine ⟨ky, rfl, rfl, ?_⟩
  refine ⟨rfl, ?_⟩
  conv => whnf
  refine ⟨rfl, ?_⟩
  conv => whnf
  refine ⟨trivial, ?_⟩
  conv => whnf
  refine ⟨rfl, ?_⟩
  conv => whnf
  refine ⟨⟨_, rfl, rfl⟩, ?_⟩
  conv => whnf
  refine ⟨ky, .inl ⟨rfl, rfl, ?_⟩⟩
  refine ⟨trivial, ?_⟩
  conv => whnf
  refine ⟨rfl, ?_⟩
  conv => whnf
  refine ⟨⟨_, rfl, rfl⟩, ?_⟩
  conv => whnf
  refine ⟨ky, .inr ⟨rfl, rfl, ?_⟩⟩
  refine ⟨trivial, ?_⟩
  conv => whnf
  refine ⟨rfl, ?_⟩
  conv => whnf
  refine ⟨rfl, by show 10 < 1000; decide, ?_⟩
  refine toH (scH K ky calledUV numUV [.str "u", .str "v"] matchD E0 E0 E0) rfl ?_
  conv => whnf
  refine ⟨rfl, by show 10 < 1000; decide, ?_⟩
  refine toH (scA K ky E0) rfl ?_
  conv => whnf
  refine ⟨⟨_, rfl, rfl⟩, ?_⟩
  conv => whnf
  refine ⟨ky, cs, rfl, rfl, hok, ?_⟩
  conv => whnf
  refine ⟨rfl, by show 10 < 1000; decide, ?_⟩
  refine toH (scA K ky (.lst (cs.map fun c => fd c.f))) rfl ?_
  conv => whnf
  refine ⟨⟨_, rfl, rfl⟩, ?_⟩
  conv => whnf
  refine ⟨ky, cs, _, rfl, rfl, ?_⟩
  conv => whnf
  refine ⟨rfl, by show 10 < 1000; decide, ?_⟩
  exact .inl q
theorem okS_le : okS "<=" := ⟨by decide +kernel, by decide +kernel⟩
theorem okF_of {cs : List Cond} (h : ∀ c ∈ cs, c.ok ∧ c.a.one = true) : ∀ f ∈ cs.map Cond.f, okFact f := fun f hf => by
  obtain ⟨c, hc, rfl⟩ := List.mem_map.mp hf
  obtain ⟨h1, h2⟩ := h c hc
  have hb : okTm c.b.t := by
    have h3 := h1.1
    cases e : c.b with
    | nm x =>
      rw [e] at h3
      rcases h3 with rfl | rfl
      · exact ⟨by decide +kernel, by decide +kernel⟩
      · exact ⟨by decide +kernel, by decide +kernel⟩
    | num n => trivial
    | col c' => exact okS_c c'
  unfold Cond.f
  split
  · exact ⟨hb, okS_le, okS_c c.a⟩
  · exact ⟨okS_c c.a, op_ok h1, hb⟩
theorem pl_within_holds : Pl (T0_within_holds K) (c_within_holds K) N_within_holds := by
  rintro ds h Q hc hl ⟨rfl, ky, cs, its, hok, hky, hch, q⟩
  have okf := okF_of hok.2
  have em : (cs.map fun c => fd c.f) = (cs.map Cond.f).map fd := by rw [List.map_map]; rfl
  rcases q with ⟨rfl, q⟩ | ⟨rfl, q⟩
  · conv => whnf
    refine ⟨ky, cs, rfl, rfl, hok, ?_⟩
    conv => whnf
    refine ⟨ky, cs, rfl, rfl, hok, ?_⟩
    conv => whnf
    refine ⟨⟨⟨trivial, cl_its hch, trivial⟩, trivial⟩, its, hch, .inl ⟨rfl, ?_⟩⟩
    cases w : its.all itemB with
    | false =>
      rw [w, Bool.false_and] at q
      exact .inr ⟨[], _, .bl false, rfl, Nat.le_refl _, hcl_nil, .same trivial, q⟩
    | true =>
      rw [w, Bool.true_and] at q
      conv => whnf
      refine ⟨rfl, ?_⟩
      conv => whnf
      refine ⟨_, its, cs.map Cond.f, by rw [em]; rfl, hch, by rw [List.length_map]; have := hok.1; omega, okf, ?_⟩
      exact .inr ⟨[], _, .bl _, rfl, Nat.le_refl _, hcl_nil, .same trivial, q⟩
  · conv => whnf
    refine ⟨ky, cs, rfl, rfl, hok, ?_⟩
    conv => whnf
    refine ⟨ky, cs, rfl, rfl, hok, ?_⟩
    conv => whnf
    refine ⟨⟨⟨trivial, cl_its hch, trivial⟩, trivial⟩, its, hch, .inr ⟨rfl, ?_⟩⟩
    exact .inr ⟨[], _, .bl false, rfl, Nat.le_refl _, hcl_nil, .same trivial, q⟩
end
end K69

namespace K69
open PySem PySem.Spec PyProof.Rows L2 TL
theorem cm_mod (a y : Int) : CMul (a % 2147483647) y := .inl ⟨by have := Int.emod_nonneg a (show (2147483647 : Int) ≠ 0 by decide); omega, by have := Int.emod_lt_of_pos a (show (0 : Int) < 2147483647 by decide); omega⟩
theorem cut_map {α : Type} (f : α → D) (l : List α) (lo hi : Option Int) : ∃ m : List α, cutD (l.map f) lo hi = m.map f ∧ m.length ≤ l.length := by
  refine ⟨(l.drop (HT.sIx (l.map f).length 0 lo)).take (HT.sIx (l.map f).length (l.map f).length hi - HT.sIx (l.map f).length 0 lo), ?_, ?_⟩
  · unfold TL.cutD
    rw [List.map_take, List.map_drop]
  · rw [List.length_take, List.length_drop]; omega
theorem strOk_cut {x : PySem.Str} (lo hi : Option Int) (h : PyData.strOk x = true) : PyData.strOk (cutS x lo hi) = true := by
  unfold PyData.strOk at h ⊢
  rw [← Array.all_toList] at h ⊢
  rw [List.all_eq_true] at h ⊢
  intro y hy
  exact h y (List.mem_of_mem_drop (List.mem_of_mem_take hy))
theorem pds_ints : ∀ l : List Int, toPDs (l.map D.int) = some (l.map PyData.int)
  | [] => rfl
  | x :: r => by
    show (match toPD (.int x), toPDs (r.map D.int) with | some p, some ps => some (p :: ps) | _, _ => none) = _
    rw [pds_ints r]
    rfl
theorem atI_in {l : List D} {r : Int} (h0 : 0 ≤ r) (h1 : r < (l.length : Int)) : ∃ x ∈ l, L2.atI l r = some x := by
  obtain ⟨n, rfl⟩ := Int.eq_ofNat_of_zero_le h0
  have hn : n < l.length := by omega
  refine ⟨l[n], List.getElem_mem hn, ?_⟩
  unfold L2.atI L2.ixN
  rw [if_pos h0, if_pos h1]
  show l[((n : Nat) : Int).toNat]? = _
  rw [Int.toNat_natCast]
  exact List.getElem?_eq_getElem hn
section
variable (K : PySem.W.Frag)
theorem pl__law_deck : Pl (T__law_deck K) (c__law_deck K) N__law_deck := by
  rintro ds h Q hc hl ⟨ns, rfl, rfl, hn, q⟩
  obtain ⟨m, em, hm⟩ := cut_map D.int ns none (some 63)
  conv => whnf
  rw [em]
  refine for_ok (fun k σ h => h = [] ∧ ∃ t x, okT t ∧ σ = [some (.klst (ns.map D.int)), some (.lst (m.map D.int)), some (.int t), x]) (fun _ _ _ _ => rfl) (fun σ h i => ?_) (fun k d σ h ek i N hN => ?_) ⟨rfl, 69029, _, ⟨by decide, by decide⟩, rfl⟩
  · obtain ⟨rfl, t, x, ht, rfl⟩ := i
    conv => whnf
    refine ⟨rfl, ?_⟩
    conv => whnf
    refine ⟨by show 3 ≤ 15; decide, ?_⟩
    refine .inl ?_
    have z := q m.reverse t (by unfold okC; rw [List.length_reverse]; omega) ht
    unfold dk at z
    rw [List.map_reverse] at z
    exact z
  · obtain ⟨rfl, t, x, ht, rfl⟩ := i
    rw [List.getElem?_map] at ek
    cases ec : m[k]? with
    | none => rw [ec] at ek; cases ek
    | some v =>
      rw [ec] at ek
      cases ek
      conv => whnf
      refine ⟨.inr ⟨by decide, by decide⟩, ?_⟩
      conv => whnf
      refine ⟨(show (0 : Int) < 2147483629 by decide), ?_⟩
      conv => whnf
      refine ⟨(show (0 : Int) < 2147483587 by decide), ?_⟩
      exact hN _ _ ⟨rfl, _, _, ⟨Int.emod_nonneg _ (by decide), Int.emod_lt_of_pos _ (by decide)⟩, rfl⟩
theorem pl__law_draw : Pl (T__law_draw K) (c__law_draw K) N__law_draw := by
  rintro ds h Q hc hl ⟨cs, t, j, m, g, rfl, rfl, h1, h2, h3, h4, h5, q⟩
  unfold okJ at h5
  unfold okC at h3
  conv => whnf
  refine ⟨by show 3 < sizeLine; decide, ?_⟩
  refine toH (dk cs t (j + 1) ++ g) rfl ?_
  conv => whnf
  refine ⟨zero, ?_⟩
  rcases List.eq_nil_or_concat cs with rfl | ⟨ini, c, ec⟩
  · refine ne_nc (p := .list []) (q := .list []) (n := 1) (m := 1) rfl rfl nc_lst0 nc_lst0 (fun _ => ?_) (fun z => absurd rfl z)
    conv => whnf
    refine ⟨(show (0 : Int) < 2147483629 by decide), ?_⟩
    conv => whnf
    refine ⟨.inl ⟨by decide, by decide⟩, ?_⟩
    conv => whnf
    refine ⟨.inr ⟨by have := h5.1; omega, by have := h5.2; omega⟩, ?_⟩
    conv => whnf
    refine ⟨.inr ⟨by decide, by decide⟩, ?_⟩
    conv => whnf
    refine ⟨(show (0 : Int) < 2147483647 by decide), ?_⟩
    conv => whnf
    refine ⟨cm_mod _ _, ?_⟩
    conv => whnf
    refine ⟨.inl ⟨by decide, by decide⟩, ?_⟩
    conv => whnf
    refine ⟨(show (0 : Int) < 2147483587 by decide), ?_⟩
    conv => whnf
    refine ⟨.inr ⟨by decide, by decide⟩, ?_⟩
    conv => whnf
    refine ⟨(show (0 : Int) < 2147483563 by decide), ?_⟩
    conv => whnf
    refine ⟨⟨by decide, by decide⟩, ?_⟩
    conv => whnf
    refine ⟨h1, ?_⟩
    exact .inl (q _ [] (Int.emod_nonneg _ (by omega)) (Int.emod_lt_of_pos _ h1) (Nat.zero_le _))
  · rw [List.concat_eq_append] at ec
    subst ec
    rw [List.length_append] at h3
    have h3 : ini.length + 1 ≤ 100 := h3
    refine ne_len (xs := (ini ++ [c]).map D.int) (ys := []) rfl rfl (by rw [List.length_map, List.length_append]; show ini.length + 1 ≠ 0; omega) ?_
    have g1 : ((ini ++ [c]).map D.int)[((ini ++ [c]).map D.int).length - 1]? = some (.int c) := by simp
    have g2 : ((ini ++ [c]).map D.int).dropLast = ini.map D.int := by simp
    conv => whnf
    refine ⟨⟨rfl, rfl⟩, ?_⟩
    conv => whnf
    rw [g1]
    conv => whnf
    rw [g2]
    refine ⟨⟨by decide, by decide, by decide⟩, ?_⟩
    refine j_ge (fun _ => ?_) (fun _ => ?_)
    · conv => whnf
      refine ⟨⟨rfl, rfl⟩, ?_⟩
      conv => whnf
      refine ⟨⟨by omega, by omega⟩, ?_⟩
      conv => whnf
      refine ⟨by rw [List.length_map, sizeLine_eq]; omega, ?_⟩
      conv => whnf
      refine ⟨h1, ?_⟩
      have q' := q _ (ini ++ [c.fdiv m]) (Int.emod_nonneg c (show m ≠ 0 by omega)) (Int.emod_lt_of_pos c h1) (by unfold okC; rw [List.length_append]; exact h3)
      unfold dk at q'
      rw [List.map_append] at q'
      exact .inl q'
    · skip
      conv => whnf
      refine ⟨(show (0 : Int) < 2147483629 by decide), ?_⟩
      conv => whnf
      refine ⟨.inl ⟨by decide, by decide⟩, ?_⟩
      conv => whnf
      refine ⟨.inr ⟨by have := h5.1; omega, by have := h5.2; omega⟩, ?_⟩
      conv => whnf
      refine ⟨.inr ⟨by decide, by decide⟩, ?_⟩
      conv => whnf
      refine ⟨(show (0 : Int) < 2147483647 by decide), ?_⟩
      conv => whnf
      refine ⟨cm_mod _ _, ?_⟩
      conv => whnf
      refine ⟨.inl ⟨by decide, by decide⟩, ?_⟩
      conv => whnf
      refine ⟨(show (0 : Int) < 2147483587 by decide), ?_⟩
      conv => whnf
      refine ⟨.inr ⟨by decide, by decide⟩, ?_⟩
      conv => whnf
      refine ⟨(show (0 : Int) < 2147483563 by decide), ?_⟩
      conv => whnf
      refine ⟨⟨by decide, by decide⟩, ?_⟩
      conv => whnf
      refine ⟨h1, ?_⟩
      exact .inl (q _ ini (Int.emod_nonneg _ (by omega)) (Int.emod_lt_of_pos _ h1) (by unfold okC; omega))
theorem pl__law_pick : Pl (T__law_pick K) (c__law_pick K) N__law_pick := by
  rintro ds h Q hc hl ⟨cs, t, j, x, its, g, rfl, rfl, h0, h1, h2, h3, h4, h5, q⟩
  have hl0 : 0 < its.length := List.length_pos_iff.mpr h1
  cases x with
  | lst ds =>
    cases h0
    conv => whnf
    refine ⟨cs, t, j, its.length, g, rfl, rfl, by omega, by omega, h3, h4, h5, fun r cs' r0 r1 hcs => ?_⟩
    obtain ⟨y, hy, ey⟩ := atI_in r0 r1
    conv => whnf
    rw [ey]
    exact .inl (q y cs' hy hcs)
  | tup ds =>
    cases h0
    conv => whnf
    refine ⟨cs, t, j, its.length, g, rfl, rfl, by omega, by omega, h3, h4, h5, fun r cs' r0 r1 hcs => ?_⟩
    obtain ⟨y, hy, ey⟩ := atI_in r0 r1
    conv => whnf
    rw [ey]
    exact .inl (q y cs' hy hcs)
  | _ => cases h0
theorem pl__law_facts : Pl (T__law_facts K) (c__law_facts K) N__law_facts := by
  rintro ds h Q hc hl ⟨qs, rfl, hz, hok, q⟩
  conv => whnf
  refine jlc_rel Cond.d (fun c => fd c.f) qs (fun _ p => p) (fun _ => trivial) hc (fun c hm acc P k => ?_) (by rw [sizeLine_eq]; omega) (cl_facts _ qs) (.inl q)
  conv => whnf
  refine ⟨rfl, ?_⟩
  conv => whnf
  refine eq_s (op_ok (hok c hm)).2 (by decide +kernel) ?_
  rw [← fact_f] at k
  unfold factD at k
  by_cases e : c.op = (">=" : PySem.Str)
  · rw [if_pos e] at k
    rw [decide_eq_true e]
    exact ⟨three, k⟩
  · rw [if_neg e] at k
    rw [decide_eq_false e]
    exact ⟨three, k⟩
theorem pl__law_is_constant : Pl (T__law_is_constant K) (c__law_is_constant K) N__law_is_constant := by
  rintro ds h Q hc hl ⟨t, rfl, ht, q⟩
  conv => whnf
  refine ji_str (okD_t t) ?_
  cases t with
  | i n => exact .inl q
  | s x =>
    have q : Q (.bl (!decide (cutS x none (some 1) = "?") && !subIn "." x)) h := q
    have ht1 : x.length ≤ 1000 := ht.1
    conv => whnf
    refine ⟨by rw [sizeLine_eq]; omega, ?_⟩
    conv => whnf
    refine ne_s (strOk_cut _ _ ht.2) (by decide +kernel) ?_
    by_cases e : cutS x none (some 1) = ("?" : PySem.Str)
    · rw [decide_eq_true e] at q ⊢
      exact .inl q
    · rw [decide_eq_false e] at q ⊢
      conv => whnf
      exact nin_ss (.inl q)
end
end K69

namespace K69
open PySem PySem.Spec PyProof.Rows L2 TL
section
variable (K : PySem.W.Frag)
theorem isiP_leaf {h : DH} {t : Tm} {ce : CE} {σ : DS} {Q : KD} (hce : ∀ P : KD, P t.d h → ce σ h P) (k : Q (.bl true) h) : cIsiP "str" "int" ce σ h Q := by
  refine hce _ ?_
  cases t with
  | s x => exact ⟨by simp [tyN, Tm.d], rfl, rfl, k⟩
  | i n => exact ⟨by simp [tyN, Tm.d], rfl, rfl, k⟩
theorem pl_plain0 (TR : TSp) : Pl (T_plain 0) (c__law_is_plain K TR) N__law_is_plain := by
  rintro ds h Q hc hl ⟨d, rfl, hd, q⟩
  cases hd with
  | tm t ht =>
    conv => whnf
    refine ji_tup (okD_t t) ?_
    cases t with
    | s x =>
      conv => whnf
      refine ⟨by simp [tyN, Tm.d], rfl, rfl, ?_⟩
      conv => whnf
      refine ji_bool rfl ?_
      exact .inl q
    | i x =>
      conv => whnf
      refine ⟨by simp [tyN, Tm.d], rfl, rfl, ?_⟩
      conv => whnf
      refine ji_bool rfl ?_
      exact .inl q
/-- the tuple branch -/
theorem pl_plainT (TR : TSp) (its : List D) (B : D → Bool) {h : DH} {Q : KD} (hc : HCl h) (hz : its.length ≤ 5000) (hpd : ∀ d ∈ its, ∃ p, toPD d = some p ∧ Nc 1 p) (hcl : ∀ d ∈ its, Cl h.length d) (step : ∀ d ∈ its, ∀ (h' : DH) (P : KD), P (.bl (B d)) h' → TR [d] h' P) (q : Q (.bl (its.all B)) h) :
    c__law_is_plain K TR (Er h Q) (startD N__law_is_plain [.tup its]) h := by
  have sub : ∀ d ∈ its.filterMap (fun d => if B d then none else some d), d ∈ its := fun d hd => by
    obtain ⟨x, hx, e⟩ := List.mem_filterMap.mp hd
    split at e
    · cases e
    · cases e; exact hx
  obtain ⟨ps, ep, lp, np⟩ := pds_of fun d hd => hpd d (sub d hd)
  conv => whnf
  refine ji_tup rfl ?_
  conv => whnf
  refine jlc_ok (fun _ p => p) (fun d => if B d then none else some d) (fun _ => trivial) hc (fun d hd acc P R k => ?_) (big hz) (cl_all fun d hd => hcl d (sub d hd)) ?_
  · conv => whnf
    refine step d hd _ _ ?_
    cases e : B d with
    | true => rw [e] at k; exact k
    | false => rw [e] at k; exact k
  · conv => whnf
    refine ⟨zero, ?_⟩
    refine eq_nc (p := .list ps) (q := .list []) (n := 2) (m := 1) (dv_lst ep) (dv_lst (ds := []) rfl) (nc_lst np) nc_lst0 (fun e => ?_) (fun e => ?_)
    · injection e with e
      subst e
      have e0 := List.eq_nil_of_length_eq_zero lp.symm
      have : its.all B = true := List.all_eq_true.mpr fun d hd => by
        cases z : B d with
        | true => rfl
        | false =>
          have : d ∈ its.filterMap (fun d => if B d then none else some d) := List.mem_filterMap.mpr ⟨d, hd, by rw [z]; rfl⟩
          rw [e0] at this
          cases this
      rw [this] at q
      exact .inl q
    · have : its.all B = false := by
        cases z : its.all B with
        | false => rfl
        | true =>
          have e0 : its.filterMap (fun d => if B d then none else some d) = [] := by
            rw [List.filterMap_eq_nil_iff]
            intro d hd
            rw [if_pos (List.all_eq_true.mp z d hd)]
          rw [e0] at ep
          cases ep
          exact absurd rfl e
      rw [this] at q
      exact .inl q
theorem pl_plain1 : Pl (T_plain 1) (c__law_is_plain K (T_plain 0)) N__law_is_plain := by
  rintro ds h Q hc hl ⟨d, rfl, hd, q⟩
  cases hd with
  | leaf hd =>
    have e : itemB d = true := by cases hd with
      | tm t ht => cases t <;> rfl
    rw [e] at q
    exact pl_plain0 K _ [d] h Q hc hl ⟨d, rfl, hd, q⟩
  | tup n hd =>
    rename_i its
    refine pl_plainT K (T_plain 0) its leafB hc (by omega) (fun d h => by obtain ⟨p, e, k⟩ := leaf_pd (hd d h); exact ⟨p, e, k.mono (by decide)⟩) (fun d h => cl_leaf (hd d h)) (fun d hm h' P k => ?_) q
    have e : leafB d = true := by cases hd d hm with
      | tm t ht => cases t <;> rfl
    rw [e] at k
    exact ⟨d, rfl, hd d hm, k⟩
  | lst n hd =>
    conv => whnf
    refine ji_tup rfl ?_
    conv => whnf
    refine ⟨by simp [tyN], rfl, rfl, ?_⟩
    exact .inl q
theorem pl_plain2 : Pl (T_plain 2) (c__law_is_plain K (T_plain 1)) N__law_is_plain := by
  rintro ds h Q hc hl ⟨its, rfl, hch, q⟩
  exact pl_plainT K (T_plain 1) its itemB hc hch.1 (fun d h => item_pd (hch.2 d h)) (fun d h => cl_item (hch.2 d h)) (fun d hm h' P k => ⟨d, rfl, hch.2 d hm, k⟩) q
end
end K69

namespace K69
open PySem PySem.Spec PyProof.Rows L2 TL
theorem lc_relF {α : Type} {G : DH → Prop} {g : CG} {t : CT} {e : CE} {h : DH} {σ0 : DS} {Q : List D → DH → Prop} (A : α → D) (B : α → Option D) (hG : ∀ l, G (h ++ [.lst l])) : ∀ (cs : List α) (acc : List D),
    (∀ c ∈ cs, ∀ acc' (P : D → DH → Prop) (R : DH → Prop), (match B c with | some y => P y (h ++ [.lst acc']) | none => R (h ++ [.lst acc'])) → g (A c) σ0 (h ++ [.lst acc']) (fun σ2 h2 => t σ2 h2 fun b h3 => if b = true then e σ2 h3 P else R h3)) →
    acc.length + cs.length ≤ sizeLine → Q (acc ++ cs.filterMap B) (h ++ [.lst (acc ++ cs.filterMap B)]) → lcTurns G g t e h.length σ0 Q (cs.map A) acc (h ++ [.lst acc])
  | [], acc, _, hz, q => by
    refine ⟨hG acc, by simp, ?_⟩
    rw [List.filterMap_nil, List.append_nil] at q
    exact q
  | c :: cs, acc, step, hz, q => by
    refine ⟨hG acc, by simp, ?_⟩
    have hz' : acc.length + (cs.length + 1) ≤ sizeLine := hz
    refine step c List.mem_cons_self acc _ _ ?_
    cases e1 : B c with
    | none =>
      rw [List.filterMap_cons, e1] at q
      exact lc_relF A B hG cs acc (fun d' hd => step d' (List.mem_cons_of_mem _ hd)) (by omega) q
    | some y =>
      refine ⟨by simp, by omega, ?_⟩
      have e2 : (h ++ [O.lst acc]).set h.length (.lst (acc ++ [y])) = h ++ [.lst (acc ++ [y])] := by simp
      rw [e2]
      refine lc_relF A B hG cs (acc ++ [y]) (fun d' hd => step d' (List.mem_cons_of_mem _ hd)) (by rw [List.length_append]; show acc.length + 1 + cs.length ≤ sizeLine; omega) ?_
      rw [List.filterMap_cons, e1] at q
      rw [List.append_assoc]
      exact q
theorem jlc_relF {α : Type} {ci : CI} {G : DH → Prop} {g : CG} {t : CT} {e : CE} {vs : List Nat} {h : DH} {σ : DS} {Q : KD} (A : α → D) (B : α → Option D) (cs : List α) (hci : ∀ P : List D → (DH → Prop) → DH → Prop, P (cs.map A) G h → ci σ h P) (hG : ∀ l, G (h ++ [.lst l])) (hc : HCl h)
    (step : ∀ c ∈ cs, ∀ acc' (P : D → DH → Prop) (R : DH → Prop), (match B c with | some y => P y (h ++ [.lst acc']) | none => R (h ++ [.lst acc'])) → g (A c) (wipeD σ vs) (h ++ [.lst acc']) (fun σ2 h2 => t σ2 h2 fun b h3 => if b = true then e σ2 h3 P else R h3))
    (hz : cs.length ≤ sizeLine) (hl : ClL h.length (cs.filterMap B)) (q : Q (.lst (cs.filterMap B)) h) : jLc ci g t e vs σ h Q := by
  unfold jLc cLc
  refine hci _ (lc_relF A B hG cs [] step (by rw [List.length_nil]; omega) ?_)
  rw [List.nil_append]
  exact lcEnd_ok hc hl q
theorem nodup_le {α : Type} [DecidableEq α] : ∀ (l m : List α), l.Nodup → (∀ x ∈ l, x ∈ m) → l.length ≤ m.length
  | [], _, _, _ => Nat.zero_le _
  | x :: l, m, hn, hs => by
    have hx := hs x List.mem_cons_self
    rw [List.nodup_cons] at hn
    have := nodup_le l (m.erase x) hn.2 fun y hy => by
      have hne : y ≠ x := fun e => hn.1 (e ▸ hy)
      exact (List.mem_erase_of_ne hne).mpr (hs y (List.mem_cons_of_mem _ hy))
    rw [List.length_erase_of_mem hx] at this
    have hp : 0 < m.length := List.length_pos_of_mem hx
    rw [List.length_cons]
    omega
def ded (l : List (Tm × Tm)) : List (Tm × Tm) := l.zipIdx.filterMap fun q => if q.1 ∈ l.take q.2 then none else some q.1
theorem ded_mem {l : List (Tm × Tm)} {p : Tm × Tm} : p ∈ ded l ↔ p ∈ l := by
  unfold ded
  rw [List.mem_filterMap]
  constructor
  · rintro ⟨q, hq, e⟩
    split at e
    · cases e
    · cases e
      obtain ⟨a, i⟩ := q
      have := List.mem_zipIdx hq
      exact List.fst_mem_of_mem_zipIdx hq
  · intro hp
    obtain ⟨i, hi, e⟩ := List.getElem_of_mem hp
    have hx : l.idxOf p < l.length := List.idxOf_lt_length_iff.mpr hp
    refine ⟨(p, l.idxOf p), ?_, ?_⟩
    · rw [List.mk_mem_zipIdx_iff_getElem?, List.getElem?_eq_getElem hx]
      simp
    · refine if_neg fun hm => ?_
      obtain ⟨j, hj, ej⟩ := List.getElem_of_mem hm
      rw [List.length_take] at hj
      rw [List.getElem_take] at ej
      have : l.idxOf p ≤ j := by
        have := List.not_of_lt_findIdx (p := (· == p)) (xs := l) (i := j)
        by_cases h : j < l.idxOf p
        · exact absurd (beq_iff_eq.mpr ej) (by
            have h' : j < l.findIdx (· == p) := h
            have := this h'
            simpa using this)
        · omega
      omega
theorem ded_nodup (l : List (Tm × Tm)) : (ded l).Nodup := by
  unfold ded List.Nodup
  rw [List.pairwise_filterMap, List.pairwise_iff_getElem]
  intro i j hi hj hij b hb b' hb' e
  subst e
  rw [List.length_zipIdx] at hi hj
  rw [List.getElem_zipIdx] at hb hb'
  simp only [Nat.zero_add] at hb hb'
  split at hb
  · cases hb
  · split at hb'
    · cases hb'
    · rename_i h1 h2
      have e1 := Option.some.inj hb
      have e2 := Option.some.inj hb'
      refine h2 ?_
      rw [e2, ← e1]
      refine List.mem_iff_getElem.mpr ⟨i, by rw [List.length_take]; omega, ?_⟩
      rw [List.getElem_take]
theorem step_ded (ps : List (Tm × Tm)) (f : Fact) : stepEnds ps f = ded ((ps.filterMap fun p => if p.2 = f.1 then some (p.1, f.2.2) else none) ++ ps.filterMap fun p => if p.2 = f.2.2 ∧ f.2.1 = "=" then some (p.1, f.1) else none) := rfl
theorem step_mem {ps : List (Tm × Tm)} {f : Fact} {p : Tm × Tm} : p ∈ stepEnds ps f ↔ ∃ p0 ∈ ps, p0.1 = p.1 ∧ chainStep p0.2 f = some p.2 := by
  rw [step_ded, ded_mem, List.mem_append, List.mem_filterMap, List.mem_filterMap]
  constructor
  · rintro (⟨p0, h0, e⟩ | ⟨p0, h0, e⟩)
    · split at e
      · rename_i e1
        cases e
        exact ⟨p0, h0, rfl, by unfold chainStep; rw [if_pos e1.symm]⟩
      · cases e
    · split at e
      · rename_i e1
        cases e
        refine ⟨p0, h0, rfl, ?_⟩
        unfold chainStep
        by_cases e2 : f.1 = p0.2
        · rw [if_pos e2, ← e1.1, e2]
        · rw [if_neg e2, if_pos ⟨e1.2, e1.1.symm⟩]
      · cases e
  · rintro ⟨p0, h0, e0, e⟩
    unfold chainStep at e
    split at e
    · rename_i e1
      have e2 := Option.some.inj e
      exact .inl ⟨p0, h0, by rw [if_pos e1.symm, e0, e2]⟩
    · split at e
      · rename_i e1
        have e2 := Option.some.inj e
        exact .inr ⟨p0, h0, by rw [if_pos ⟨e1.2.symm, e1.1⟩, e0, e2]⟩
      · cases e
theorem step_len (ps : List (Tm × Tm)) (f : Fact) : (stepEnds ps f).length ≤ ps.length := by
  have h1 : (stepEnds ps f).length ≤ (ps.filterMap fun p => (chainStep p.2 f).map fun u => (p.1, u)).length := by
    refine nodup_le _ _ (by rw [step_ded]; exact ded_nodup _) fun x hx => ?_
    obtain ⟨p0, h0, e0, e⟩ := step_mem.mp hx
    refine List.mem_filterMap.mpr ⟨p0, h0, ?_⟩
    rw [e]
    show some (p0.1, x.2) = some x
    rw [e0]
  exact Nat.le_trans h1 (List.length_filterMap_le _ _)
def ends0 (f : Fact) : List (Tm × Tm) := (f.1, f.2.2) :: if f.2.1 = "=" then [(f.2.2, f.1)] else []
theorem ends0_mem {f : Fact} {p : Tm × Tm} : p ∈ ends0 f ↔ (p.1 = f.1 ∨ p.1 = f.2.2) ∧ chainStep p.1 f = some p.2 := by
  obtain ⟨a, b⟩ := p
  obtain ⟨l, o, r⟩ := f
  unfold ends0 chainStep
  show (a, b) ∈ (l, r) :: (if o = "=" then [(r, l)] else []) ↔ (a = l ∨ a = r) ∧ (if l = a then some r else if o = "=" ∧ r = a then some l else none) = some b
  by_cases ho : o = ("=" : PySem.Str)
  · rw [if_pos ho]
    simp only [List.mem_cons, Prod.mk.injEq, List.not_mem_nil, or_false]
    constructor
    · rintro (⟨rfl, rfl⟩ | ⟨rfl, rfl⟩)
      · exact ⟨.inl rfl, by rw [if_pos rfl]⟩
      · refine ⟨.inr rfl, ?_⟩
        by_cases e : b = a
        · rw [if_pos e, e]
        · rw [if_neg e, if_pos ⟨ho, rfl⟩]
    · rintro ⟨ha, e⟩
      split at e
      · rename_i e1
        cases e
        exact .inl ⟨e1.symm, rfl⟩
      · split at e
        · rename_i e1
          cases e
          exact .inr ⟨e1.2.symm, rfl⟩
        · cases e
  · rw [if_neg ho]
    simp only [List.mem_cons, Prod.mk.injEq, List.not_mem_nil, or_false]
    constructor
    · rintro ⟨rfl, rfl⟩
      exact ⟨.inl rfl, by rw [if_pos rfl]⟩
    · rintro ⟨ha, e⟩
      split at e
      · rename_i e1
        cases e
        exact ⟨e1.symm, rfl⟩
      · split at e
        · rename_i e1
          exact absurd e1.1 ho
        · cases e
theorem fold_mem : ∀ (r : List Fact) (ps : List (Tm × Tm)) (p : Tm × Tm), p ∈ r.foldl stepEnds ps ↔ ∃ p0 ∈ ps, p0.1 = p.1 ∧ chainEnd r p0.2 = some p.2
  | [], ps, p => by
    show p ∈ ps ↔ _
    constructor
    · exact fun h => ⟨p, h, rfl, rfl⟩
    · rintro ⟨p0, h0, e0, e⟩
      have e : some p0.2 = some p.2 := e
      have : p0 = p := Prod.ext e0 (Option.some.inj e)
      exact this ▸ h0
  | f :: r, ps, p => by
    show p ∈ r.foldl stepEnds (stepEnds ps f) ↔ _
    rw [fold_mem r]
    constructor
    · rintro ⟨p1, h1, e1, e⟩
      obtain ⟨p0, h0, e0, e2⟩ := step_mem.mp h1
      refine ⟨p0, h0, e0.trans e1, ?_⟩
      unfold chainEnd
      rw [e2]
      exact e
    · rintro ⟨p0, h0, e0, e⟩
      unfold chainEnd at e
      cases z : chainStep p0.2 f with
      | none => rw [z] at e; cases e
      | some u =>
        rw [z] at e
        exact ⟨(p0.1, u), step_mem.mpr ⟨p0, h0, rfl, z⟩, e0, e⟩
/-- the ends of a chain: from its first fact's sides -/
theorem ends_mem {f : Fact} {r : List Fact} {p : Tm × Tm} : p ∈ lawEnds (f :: r) ↔ (p.1 = f.1 ∨ p.1 = f.2.2) ∧ chainEnd (f :: r) p.1 = some p.2 := by
  show p ∈ r.foldl stepEnds (ends0 f) ↔ _
  rw [fold_mem]
  constructor
  · rintro ⟨p0, h0, e0, e⟩
    obtain ⟨h1, h2⟩ := ends0_mem.mp h0
    refine ⟨by rw [← e0]; exact h1, ?_⟩
    unfold chainEnd
    rw [← e0, h2]
    exact e
  · rintro ⟨h1, e⟩
    unfold chainEnd at e
    cases z : chainStep p.1 f with
    | none => rw [z] at e; cases e
    | some u =>
      rw [z] at e
      exact ⟨(p.1, u), ends0_mem.mpr ⟨h1, z⟩, rfl, e⟩
theorem fold_len : ∀ (r : List Fact) (ps : List (Tm × Tm)), (r.foldl stepEnds ps).length ≤ ps.length
  | [], ps => Nat.le_refl _
  | f :: r, ps => Nat.le_trans (fold_len r _) (step_len ps f)
theorem ends0_len (f : Fact) : (ends0 f).length ≤ 2 := by
  unfold ends0
  split <;> simp
end K69

namespace K69
open PySem PySem.Spec PyProof.Rows L2 TL
theorem end_pred (A : Tm → Prop) : ∀ {fs : List Fact} {t u : Tm}, (∀ f ∈ fs, A f.1 ∧ A f.2.2) → A t → chainEnd fs t = some u → A u
  | [], t, u, _, ht, e => by cases e; exact ht
  | f :: r, t, u, hf, ht, e => by
    unfold chainEnd at e
    cases z : chainStep t f with
    | none => rw [z] at e; cases e
    | some v =>
      rw [z] at e
      refine end_pred A (fun g hg => hf g (List.mem_cons_of_mem _ hg)) ?_ e
      obtain ⟨k1, k2⟩ := hf f List.mem_cons_self
      unfold chainStep at z
      split at z
      · cases z; exact k2
      · split at z
        · cases z; exact k1
        · cases z
def Agr (t : Tm) : Prop := t.nm = constT t
def lawP (fs : List Fact) (p : Tm × Tm) : Bool := if constT p.1 && constT p.2 then !decide (p.1 = p.2) else (decide (p.1 = p.2) && decide (0 < fs.countP (isOp "<"))) || (p.1.isI && (p.2.isI && decide (p.2.n < p.1.n + ((fs.countP (isOp "<") : Nat) : Int))))
theorem any_ends {f : Fact} {r : List Fact} (h : ∀ g ∈ f :: r, Agr g.1 ∧ Agr g.2.2) : (lawEnds (f :: r)).any (lawP (f :: r)) = (chainClash (f :: r) f.1 || chainClash (f :: r) f.2.2) := by
  obtain ⟨k1, k2⟩ := h f List.mem_cons_self
  have key : ∀ s, (s = f.1 ∨ s = f.2.2) → Agr s → (chainClash (f :: r) s = true ↔ ∃ e, chainEnd (f :: r) s = some e ∧ lawP (f :: r) (s, e) = true) := by
    intro s hs hA
    unfold chainClash
    cases z : chainEnd (f :: r) s with
    | none => exact ⟨(fun x => by cases x), (fun ⟨e, x, _⟩ => by cases x)⟩
    | some e =>
      have hE := end_pred Agr h hA z
      have e1 : endClash ((f :: r).countP (isOp "<")) s e = lawP (f :: r) (s, e) := by
        unfold endClash lawP
        rw [show s.nm = constT s from hA, show e.nm = constT e from hE]
      constructor
      · intro x
        exact ⟨e, rfl, by rw [← e1]; exact x⟩
      · rintro ⟨e', x, y⟩
        cases x
        show endClash _ s e = true
        rw [e1]; exact y
  refine Bool.eq_iff_iff.mpr ?_
  rw [List.any_eq_true, Bool.or_eq_true, key _ (.inl rfl) k1, key _ (.inr rfl) k2]
  constructor
  · rintro ⟨⟨s, e⟩, hp, hl⟩
    obtain ⟨hs, he⟩ := ends_mem.mp hp
    rcases hs with hs | hs
    · have hs : s = f.1 := hs
      subst hs
      exact .inl ⟨e, he, hl⟩
    · have hs : s = f.2.2 := hs
      subst hs
      exact .inr ⟨e, he, hl⟩
  · rintro (⟨e, he, hl⟩ | ⟨e, he, hl⟩)
    · exact ⟨_, ends_mem.mpr ⟨.inl rfl, he⟩, hl⟩
    · exact ⟨_, ends_mem.mpr ⟨.inr rfl, he⟩, hl⟩
theorem cont_ends {f : Fact} {r : List Fact} (a b : Tm) : (lawEnds (f :: r)).contains (a, b) = (decide (a = f.1) && decide (chainEnd (f :: r) f.1 = some b) || decide (a = f.2.2) && decide (chainEnd (f :: r) f.2.2 = some b)) := by
  refine Bool.eq_iff_iff.mpr ?_
  rw [List.contains_iff_mem, ends_mem, Bool.or_eq_true, Bool.and_eq_true, Bool.and_eq_true, decide_eq_true_iff, decide_eq_true_iff, decide_eq_true_iff, decide_eq_true_iff]
  show (a = f.1 ∨ a = f.2.2) ∧ chainEnd (f :: r) a = some b ↔ _
  constructor
  · rintro ⟨h | h, e⟩
    · exact .inl ⟨h, by rw [← h]; exact e⟩
    · exact .inr ⟨h, by rw [← h]; exact e⟩
  · rintro (⟨h, e⟩ | ⟨h, e⟩)
    · exact ⟨.inl h, by rw [h]; exact e⟩
    · exact ⟨.inr h, by rw [h]; exact e⟩
theorem clash_eq {fs : List Fact} (h : ∀ g ∈ fs, Agr g.1 ∧ Agr g.2.2) : progClash fs = lawClash fs := by
  cases fs with
  | nil => rfl
  | cons f r =>
    unfold progClash lawClash
    cases el : (f :: r).getLast? with
    | none => rfl
    | some l =>
      show (if l.2.1 ≠ "!=" then _ else _) = (if l.2.1 = "!=" then _ else _)
      by_cases o : l.2.1 = ("!=" : PySem.Str)
      · rw [if_neg (fun z => z o), if_pos o]
        by_cases n : (f :: r).length = 1
        · rw [if_pos n, if_pos n]
        · rw [if_neg n, if_neg n]
          cases r with
          | nil => exact absurd rfl n
          | cons g r =>
            have ed : (f :: g :: r).dropLast = f :: (g :: r).dropLast := rfl
            rw [ed, cont_ends, cont_ends]
      · rw [if_pos o, if_neg o]
        rw [← any_ends h]
        rfl
theorem clashD_eq {F : List Fact} (h : ∀ g ∈ F, Agr g.1 ∧ Agr g.2.2) : ∀ its : List D, clashD F its = lawClashD F its := by
  intro its
  unfold clashD lawClashD
  cases e : factsIn F its with
  | none => rfl
  | some fs =>
    refine clash_eq fun g hg => h g ?_
    have hall : its.all (inF F) = true := by
      cases z : its.all (inF F) with
      | true => rfl
      | false => rw [facts_none z] at e; cases e
    obtain ⟨fs', e1, e2, k⟩ := facts_all hall
    rw [e] at e2
    cases e2
    exact k g hg
end K69

namespace K69
open PySem PySem.Spec PyProof.Rows L2 TL
theorem cl_pD (n : Nat) (p : Tm × Tm) : Cl n (pD p) := ⟨cl_t n _, cl_t n _, trivial⟩
theorem cl_pDs (n : Nat) (l : List (Tm × Tm)) : ClL n (l.map pD) := cl_all fun d hd => by
  obtain ⟨p, _, rfl⟩ := List.mem_map.mp hd
  exact cl_pD n p
def pP (p : Tm × Tm) : PyData := .tuple [p.1.p, p.2.p]
theorem pd_pD (p : Tm × Tm) : toPD (pD p) = some (pP p) := pd_pair (pd_t _) (pd_t _)
theorem pds_pD : ∀ l : List (Tm × Tm), toPDs (l.map pD) = some (l.map pP)
  | [] => rfl
  | x :: r => by
    show (match toPD (pD x), toPDs (r.map pD) with | some p, some ps => some (p :: ps) | _, _ => none) = _
    rw [pd_pD, pds_pD r]
    rfl
theorem pP_inj {p q : Tm × Tm} (h : pP p = pP q) : p = q := by
  unfold pP at h
  injection h with h
  injection h with h1 h
  injection h with h2 h
  exact Prod.ext (t_inj h1) (t_inj h2)
theorem pP_mem {p : Tm × Tm} {l : List (Tm × Tm)} : pP p ∈ l.map pP ↔ p ∈ l := by
  rw [List.mem_map]
  constructor
  · rintro ⟨q, hq, e⟩
    rw [← pP_inj e]; exact hq
  · intro h
    exact ⟨p, h, rfl⟩
theorem fm_map {α β : Type} (b : α → Option β) (f : β → D) (l : List α) : l.filterMap (fun x => (b x).map f) = (l.filterMap b).map f := by
  rw [List.map_filterMap]
theorem cut_take {l : List D} {i : Nat} : cutD l none (some (i : Nat)) = l.take i := by
  unfold TL.cutD
  rw [show HT.sIx l.length 0 none = 0 from rfl, HT.sIx_nat, List.drop_zero, Nat.sub_zero, List.take_eq_take_iff]
  omega
theorem enum_zip (l : List (Tm × Tm)) : enumD (l.map pD) = l.zipIdx.map fun q => .tup [.int (q.2 : Nat), pD q.1] := by
  unfold enumD
  rw [List.mapIdx_eq_zipIdx_map, List.zipIdx_map, List.map_map]
  rfl
theorem pl_ends_step (K : PySem.W.Frag) (f : Fact) (r : List Fact) (k : Nat) (d : D) {h : DH} (ek : (r.map fd)[k]? = some d) (okP : ∀ k, ∀ p ∈ (r.take k).foldl stepEnds (ends0 f), okTm p.1 ∧ okTm p.2) (lenP : ∀ k, ((r.take k).foldl stepEnds (ends0 f)).length ≤ 2) (hr : ∀ g ∈ r, okFact g) (hc : HCl h)
    {rt : KD} {bk : DS → DH → Prop} (N : DS → DH → Prop) {X0 a b c x5 x6 x7 x8 x9 x10 : Option D}
    (hN : ∀ σ h', (h' = h ∧ ∃ a b c x5 x6 x7 x8 x9 x10, σ = [X0, a, b, c, some (.lst (((r.take (k + 1)).foldl stepEnds (ends0 f)).map pD)), x5, x6, x7, x8, x9, x10]) → N σ h') :
    cgTup 3 (cgsCons (cgName 1) (cgsCons (cgName 2) (cgsCons (cgName 3) cgsNil))) d [X0, a, b, c, some (.lst (((r.take k).foldl stepEnds (ends0 f)).map pD)), x5, x6, x7, x8, x9, x10] h fun σ' h' =>
      (cSeq
      (cAsg
        (jLc (ciSeq (cVar 4)) (cgTup 2 (cgsCons (cgName 7) (cgsCons (cgName 8) cgsNil)))
          (cTest (cBin jEq (cVar 8) (cVar 1))) (cTup (cCons (cVar 7) (cCons (cVar 3) cNil))) [7, 8])
        (cgName 5))
      (cSeq
        (cAsg
          (cBin dAdd (cVar 5)
            (jLc (ciSeq (cVar 4)) (cgTup 2 (cgsCons (cgName 7) (cgsCons (cgName 8) cgsNil)))
              (cAnd (cTest (cBin jEq (cVar 8) (cVar 3))) (cTest (cBin jEq (cVar 2) (cC (D.str (Str.ofString "="))))))
              (cTup (cCons (cVar 7) (cCons (cVar 1) cNil))) [7, 8]))
          (cgName 6))
        (cAsg
          (jLc (ciEnum (cVar 6)) (cgTup 2 (cgsCons (cgName 9) (cgsCons (cgName 10) cgsNil)))
            (cTest (cBin jNotIn (cVar 10) (cSl dSl (cVar 6) cNoP (cPart (cVar 9))))) (cVar 10) [9, 10])
          (cgName 4)))) { nx := N, rt := rt, bk := bk, ct := N } σ' h' := by
  rw [List.getElem?_map] at ek
  cases ec : r[k]? with
  | none => rw [ec] at ek; cases ek
  | some g =>
    rw [ec] at ek
    cases ek
    obtain ⟨g1, g2, g3⟩ := hr g (List.mem_of_getElem? ec)
    have nxt : (r.take (k + 1)).foldl stepEnds (ends0 f) = stepEnds ((r.take k).foldl stepEnds (ends0 f)) g := by
      rw [List.take_add_one, ec, List.foldl_append]
      rfl
    rw [nxt] at hN
    generalize hps : (r.take k).foldl stepEnds (ends0 f) = ps at hN ⊢
    have okps : ∀ p ∈ ps, okTm p.1 ∧ okTm p.2 := by rw [← hps]; exact okP k
    have lps : ps.length ≤ 2 := by rw [← hps]; exact lenP k
    clear okP lenP hps nxt
    conv => whnf
    refine ⟨rfl, ?_⟩
    conv => whnf
    refine jlc_relF pD (fun p => (if p.2 = g.1 then some (p.1, g.2.2) else none).map pD) ps (fun _ p => p) (fun _ => rfl) hc (fun p hp acc P R m => ?_) (by rw [sizeLine_eq]; omega) (by rw [fm_map]; exact cl_pDs _ _) ?_
    · conv => whnf
      refine ⟨rfl, ?_⟩
      conv => whnf
      refine eq_t (okps p hp).2 g1 ?_
      by_cases e : p.2 = g.1
      · rw [decide_eq_true e]
        rw [if_pos e] at m
        exact ⟨two, m⟩
      · rw [decide_eq_false e]
        rw [if_neg e] at m
        exact m
    rw [fm_map]
    conv => whnf
    refine jlc_relF pD (fun p => (if p.2 = g.2.2 ∧ g.2.1 = "=" then some (p.1, g.1) else none).map pD) ps (fun _ p => p) (fun _ => rfl) hc (fun p hp acc P R m => ?_) (by rw [sizeLine_eq]; omega) (by rw [fm_map]; exact cl_pDs _ _) ?_
    · conv => whnf
      refine ⟨rfl, ?_⟩
      conv => whnf
      refine eq_t (okps p hp).2 g3 ?_
      by_cases e : p.2 = g.2.2
      · rw [decide_eq_true e]
        conv => whnf
        refine eq_s g2.2 (by decide +kernel) ?_
        by_cases e2 : g.2.1 = ("=" : PySem.Str)
        · rw [decide_eq_true e2]
          rw [if_pos ⟨e, e2⟩] at m
          exact ⟨two, m⟩
        · rw [decide_eq_false e2]
          rw [if_neg fun z => e2 z.2] at m
          exact m
      · rw [decide_eq_false e]
        rw [if_neg fun z => e z.1] at m
        exact m
    rw [fm_map]
    have la := List.length_filterMap_le (fun p : Tm × Tm => if p.2 = g.1 then some (p.1, g.2.2) else none) ps
    have lb := List.length_filterMap_le (fun p : Tm × Tm => if p.2 = g.2.2 ∧ g.2.1 = "=" then some (p.1, g.1) else none) ps
    conv => whnf
    refine ⟨by rw [List.length_map, List.length_map, sizeLine_eq]; omega, ?_⟩
    rw [← List.map_append]
    rw [step_ded] at hN
    have oka : ∀ p ∈ (ps.filterMap fun p : Tm × Tm => if p.2 = g.1 then some (p.1, g.2.2) else none) ++ ps.filterMap fun p : Tm × Tm => if p.2 = g.2.2 ∧ g.2.1 = "=" then some (p.1, g.1) else none, okTm p.1 ∧ okTm p.2 := fun p hp => by
      rcases List.mem_append.mp hp with hp | hp
      · obtain ⟨p0, h0, e⟩ := List.mem_filterMap.mp hp
        split at e
        · cases e; exact ⟨(okps p0 h0).1, g3⟩
        · cases e
      · obtain ⟨p0, h0, e⟩ := List.mem_filterMap.mp hp
        split at e
        · cases e; exact ⟨(okps p0 h0).1, g1⟩
        · cases e
    have lsm : ((ps.filterMap fun p : Tm × Tm => if p.2 = g.1 then some (p.1, g.2.2) else none) ++ ps.filterMap fun p : Tm × Tm => if p.2 = g.2.2 ∧ g.2.1 = "=" then some (p.1, g.1) else none).length ≤ 4 := by rw [List.length_append]; omega
    generalize (ps.filterMap fun p : Tm × Tm => if p.2 = g.1 then some (p.1, g.2.2) else none) ++ ps.filterMap (fun p : Tm × Tm => if p.2 = g.2.2 ∧ g.2.1 = "=" then some (p.1, g.1) else none) = sm at hN oka lsm ⊢
    clear la lb
    have eB : (sm.zipIdx.filterMap fun q => (if q.1 ∈ sm.take q.2 then none else some q.1).map pD) = (ded sm).map pD := by rw [fm_map]; rfl
    conv => whnf
    refine jlc_relF (fun q : (Tm × Tm) × Nat => .tup [.int (q.2 : Nat), pD q.1]) (fun q => (if q.1 ∈ sm.take q.2 then none else some q.1).map pD) sm.zipIdx (fun P p => by show P (enumD (sm.map pD)) _ _; rw [enum_zip]; exact p) (fun _ => rfl) hc (fun q hq acc P R m => ?_) (by rw [List.length_zipIdx, sizeLine_eq]; omega) (by rw [eB]; exact cl_pDs _ _) ?_
    · obtain ⟨p, i⟩ := q
      have hp : p ∈ sm := List.fst_mem_of_mem_zipIdx hq
      conv => whnf
      refine ⟨rfl, ?_⟩
      conv => whnf
      rw [cut_take, ← List.map_take]
      refine notIn_nc (p := pP p) (n := 1) (m := 1) (pd_pD p) (pds_pD _) (nc_pair (nc_t (oka p hp).1) (nc_t (oka p hp).2)) (fun z hz => ?_) (fun e => ?_) (fun e => ?_)
      · obtain ⟨p', hp', rfl⟩ := List.mem_map.mp hz
        have hp'' := List.mem_of_mem_take hp'
        exact nc_pair (nc_t (oka p' hp'').1) (nc_t (oka p' hp'').2)
      · have e := pP_mem.mp e
        rw [if_pos e] at m
        exact m
      · have e : ¬ p ∈ sm.take i := fun z => e (pP_mem.mpr z)
        rw [if_neg e] at m
        exact m
    rw [eB]
    exact hN _ _ ⟨rfl, _, _, _, _, _, _, _, _, _, rfl⟩
section
variable (K : PySem.W.Frag)
theorem pl__law_ends : Pl (T__law_ends K) (c__law_ends K) N__law_ends := by
  rintro ds h Q hc hl ⟨fs, rfl, nfs, hz, hok, q⟩
  obtain ⟨f, r, rfl⟩ : ∃ f r, fs = f :: r := by
    cases fs with
    | nil => exact absurd rfl nfs
    | cons f r => exact ⟨f, r, rfl⟩
  have a0 : L2.atI ((f :: r).map fd) 0 = some (fd f) := atI_head rfl
  obtain ⟨k1, k2, k3⟩ := hok f List.mem_cons_self
  have et : cutD ((f :: r).map fd) (some 1) none = r.map fd := by rw [cut_tail]; rfl
  have hr : ∀ g ∈ r, okFact g := fun g hg => hok g (List.mem_cons_of_mem _ hg)
  have okP : ∀ k, ∀ p ∈ (r.take k).foldl stepEnds (ends0 f), okTm p.1 ∧ okTm p.2 := fun k p hp => by
    obtain ⟨p0, h0, e0, e⟩ := (fold_mem _ _ _).mp hp
    obtain ⟨h1, h2⟩ := ends0_mem.mp h0
    have o1 : okTm p0.1 := by rcases h1 with h1 | h1 <;> rw [h1] <;> assumption
    have o2 : okTm p0.2 := okTm_end (fs := [f]) (fun g hg => by rw [List.mem_singleton.mp hg]; exact ⟨k1, k2, k3⟩) o1 (by unfold chainEnd; rw [h2]; rfl)
    exact ⟨e0 ▸ o1, okTm_end (fun g hg => hr g (List.mem_of_mem_take hg)) o2 e⟩
  have lenP : ∀ k, ((r.take k).foldl stepEnds (ends0 f)).length ≤ 2 := fun k => Nat.le_trans (fold_len _ _) (ends0_len f)
  conv => whnf
  rw [a0]
  conv => whnf
  refine ⟨rfl, ?_⟩
  conv => whnf
  refine ⟨two, ?_⟩
  conv => whnf
  refine ⟨one, ?_⟩
  conv => whnf
  refine ⟨two, ?_⟩
  conv => whnf
  refine ⟨one, ?_⟩
  conv => whnf
  refine eq_s k2.2 (by decide +kernel) ?_
  by_cases o : f.2.1 = ("=" : PySem.Str)
  · rw [decide_eq_true o]
    have st : ends0 f = [(f.1, f.2.2), (f.2.2, f.1)] := by unfold ends0; rw [if_pos o]
    conv => whnf
    refine ⟨by decide, by decide, by show 1 * 1 ≤ sizeLine; decide, ?_⟩
    conv => whnf
    refine ⟨by show 1 + 1 ≤ sizeLine; decide, ?_⟩
    conv => whnf
    rw [et]
    refine for_ok (fun k σ h' => h' = h ∧ ∃ a b c x5 x6 x7 x8 x9 x10, σ = [some (.tup ((f :: r).map fd)), a, b, c, some (.lst (((r.take k).foldl stepEnds (ends0 f)).map pD)), x5, x6, x7, x8, x9, x10]) (fun _ _ _ _ => trivial) (fun σ h' i => ?_) (fun k d σ h' ek i N hN => ?_) ⟨rfl, _, _, _, _, _, _, _, _, _, by show _ = [_, _, _, _, some (D.lst ((ends0 f).map pD)), _, _, _, _, _, _]; rw [st]; rfl⟩
    · obtain ⟨rfl, a, b, c, x5, x6, x7, x8, x9, x10, rfl⟩ := i
      rw [List.length_map, List.take_length]
      exact .inl q
    · obtain ⟨rfl, a, b, c, x5, x6, x7, x8, x9, x10, rfl⟩ := i
      exact pl_ends_step K f r k d ek okP lenP hr hc N hN
  · rw [decide_eq_false o]
    have st : ends0 f = [(f.1, f.2.2)] := by unfold ends0; rw [if_neg o]
    conv => whnf
    refine ⟨by decide, by decide, by show 1 * 0 ≤ sizeLine; decide, ?_⟩
    conv => whnf
    refine ⟨by show 1 + 0 ≤ sizeLine; decide, ?_⟩
    conv => whnf
    rw [et]
    refine for_ok (fun k σ h' => h' = h ∧ ∃ a b c x5 x6 x7 x8 x9 x10, σ = [some (.tup ((f :: r).map fd)), a, b, c, some (.lst (((r.take k).foldl stepEnds (ends0 f)).map pD)), x5, x6, x7, x8, x9, x10]) (fun _ _ _ _ => trivial) (fun σ h' i => ?_) (fun k d σ h' ek i N hN => ?_) ⟨rfl, _, _, _, _, _, _, _, _, _, by show _ = [_, _, _, _, some (D.lst ((ends0 f).map pD)), _, _, _, _, _, _]; rw [st]; rfl⟩
    · obtain ⟨rfl, a, b, c, x5, x6, x7, x8, x9, x10, rfl⟩ := i
      rw [List.length_map, List.take_length]
      exact .inl q
    · obtain ⟨rfl, a, b, c, x5, x6, x7, x8, x9, x10, rfl⟩ := i
      exact pl_ends_step K f r k d ek okP lenP hr hc N hN
end
end K69

namespace K69
open PySem PySem.Spec PyProof.Rows L2 TL
theorem signs_flat (fs : List Fact) : (fs.map fun g : Fact => D.str g.2.1).all flatD = true := by
  rw [List.all_map]; exact List.all_eq_true.mpr fun _ _ => rfl
theorem signs_count (fs : List Fact) (o : PySem.Str) : ((fs.map fun g : Fact => D.str g.2.1).countP fun z => eqD z (.str o)) = fs.countP (isOp o) := by
  rw [List.countP_map]
  refine congrFun (congrArg List.countP (funext fun g => ?_)) fs
  exact Bool.eq_iff_iff.mpr ⟨fun e => decide_eq_true (beq_iff_eq.mp e), fun e => beq_iff_eq.mpr (of_decide_eq_true e)⟩
theorem drop_signs (fs : List Fact) : cutD (fs.map fun g : Fact => D.str g.2.1) none (some (-1)) = fs.dropLast.map fun g : Fact => D.str g.2.1 := by rw [cut_init, List.map_dropLast]
theorem ends_len : ∀ fs : List Fact, (lawEnds fs).length ≤ 2
  | [] => Nat.zero_le _
  | f :: r => Nat.le_trans (fold_len r _) (ends0_len f)
theorem ends_ok {fs : List Fact} (h : ∀ f ∈ fs, okFact f) {p : Tm × Tm} (hp : p ∈ lawEnds fs) : okTm p.1 ∧ okTm p.2 := by
  cases fs with
  | nil => cases hp
  | cons f r =>
    obtain ⟨h1, h2⟩ := ends_mem.mp hp
    obtain ⟨k1, k2, k3⟩ := h f List.mem_cons_self
    have o1 : okTm p.1 := by rcases h1 with h1 | h1 <;> rw [h1] <;> assumption
    exact ⟨o1, okTm_end h o1 h2⟩
theorem nc_pP {p : Tm × Tm} (h1 : okTm p.1) (h2 : okTm p.2) : Nc 1 (pP p) := nc_pair (nc_t h1) (nc_t h2)
theorem nc_pPs {l : List (Tm × Tm)} (h : ∀ p ∈ l, okTm p.1 ∧ okTm p.2) : ∀ z ∈ l.map pP, Nc 1 z := fun z hz => by
  obtain ⟨p, hp, rfl⟩ := List.mem_map.mp hz
  exact nc_pP (h p hp).1 (h p hp).2
section
variable (K : PySem.W.Frag)
theorem pl__law_is_clash : Pl (T__law_is_clash K) (c__law_is_clash K) N__law_is_clash := by
  rintro ds h Q hc hl ⟨F, its, rfl, hch, ⟨_, hF, hok⟩, q⟩
  obtain ⟨ps, ep, lp, np⟩ := pds_of fun x hx => item_pd (hch.2 x hx)
  conv => whnf
  refine ji_tup rfl ?_
  conv => whnf
  refine ⟨zero, ?_⟩
  refine eq_nc (p := .tuple ps) (q := .tuple []) (n := 2) (m := 1) (dv_tup ep) (dv_tup (ds := []) rfl) (nc_tup np) nc_tup0 (fun e => ?_) (fun e => ?_)
  · injection e with e
    subst e
    have : its = [] := List.eq_nil_of_length_eq_zero lp.symm
    subst this
    exact .inl q
  have sub : ∀ d ∈ its.filterMap (fun d => if inF F d then none else some d), d ∈ its := fun d hd => by
    obtain ⟨x, hx, e⟩ := List.mem_filterMap.mp hd
    split at e
    · cases e
    · cases e; exact hx
  obtain ⟨ps2, ep2, lp2, np2⟩ := pds_of fun x hx => item_pd (hch.2 x (sub x hx))
  conv => whnf
  refine jlc_ok (fun _ p => p) (fun d => if inF F d then none else some d) (fun _ => trivial) hc (fun d hd acc P R k => ?_) (big hch.1) (cl_all fun d hd => cl_item (hch.2 d (sub d hd))) ?_
  · obtain ⟨p, e1, k1⟩ := item_pd (hch.2 d hd)
    conv => whnf
    refine notIn_nc (m := 1) e1 (pds_fds F) k1 (fun z hz => ?_) (fun m => ?_) (fun m => ?_)
    · obtain ⟨f, hf, rfl⟩ := List.mem_map.mp hz
      exact nc_fact (hok f hf)
    · rw [(inF_iff (hch.2 d hd) e1).mpr m] at k; exact k
    · have z : inF F d = false := by
        cases w : inF F d with
        | false => rfl
        | true => exact absurd ((inF_iff (hch.2 d hd) e1).mp w) m
      rw [z] at k; exact k
  conv => whnf
  refine ⟨zero, ?_⟩
  unfold lawClashD at q
  refine ne_nc (p := .list ps2) (q := .list []) (n := 2) (m := 1) (dv_lst ep2) (dv_lst (ds := []) rfl) (nc_lst np2) nc_lst0 (fun e5 => ?_) (fun e5 => ?_)
  · injection e5 with e5
    subst e5
    have e0 := List.eq_nil_of_length_eq_zero lp2.symm
    have w : its.all (inF F) = true := List.all_eq_true.mpr fun d hd => by
      cases z : inF F d with
      | true => rfl
      | false =>
        have : d ∈ its.filterMap (fun d => if inF F d then none else some d) := List.mem_filterMap.mpr ⟨d, hd, by rw [z]; rfl⟩
        rw [e0] at this
        cases this
    clear sub ep2 lp2 np2 e0
    obtain ⟨fs, rfl, e2, k2⟩ := facts_all w
    rw [e2] at q
    have q : Q (.bl (lawClash fs)) h := q
    have okf : ∀ f ∈ fs, okFact f := fun f hf => hok f (k2 f hf)
    have hz : fs.length ≤ 5000 := by have := hch.1; rwa [List.length_map] at this
    have nfs : fs ≠ [] := fun z => by
      subst z
      rw [List.map_nil] at lp
      exact e (by rw [List.eq_nil_of_length_eq_zero lp])
    obtain ⟨l, el⟩ : ∃ l, fs.getLast? = some l := by
      cases z : fs.getLast? with
      | none => exact absurd (List.getLast?_eq_none_iff.mp z) nfs
      | some l => exact ⟨l, rfl⟩
    obtain ⟨l1, l2, l3⟩ := okf l (List.mem_of_getLast? el)
    have len : (fs.map fd).length = fs.length := List.length_map _
    unfold lawClash at q
    rw [el] at q
    conv => whnf
    refine jlc_rel fd (fun g : Fact => .str g.2.1) fs (fun _ p => p) (fun _ => trivial) hc (fun g hg acc P k => k) (big hz) (cl_all fun d hd => by
      obtain ⟨g, hg, rfl⟩ := List.mem_map.mp hd
      trivial) ?_
    conv => whnf
    refine j_ix (fun z e => by cases e) rfl (atI_last (by rw [List.getLast?_map, el]; rfl)) ?_
    refine eq_s l2.2 (by decide +kernel) ?_
    by_cases o : l.2.1 = ("!=" : PySem.Str)
    · rw [decide_eq_true o]
      have q : Q (.bl (if l.2.1 = "!=" then (if fs.length = 1 then decide (l.1 = l.2.2) else (fs.dropLast.all (isOp "=")) && ((lawEnds fs.dropLast).contains (l.1, l.2.2) || (lawEnds fs.dropLast).contains (l.2.2, l.1))) else _)) h := q
      rw [if_pos o] at q
      conv => whnf
      refine j_ix (fun z e => by cases e) rfl (atI_last (by rw [List.getLast?_map, el]; rfl)) ?_
      conv => whnf
      refine ⟨rfl, ?_⟩
      conv => whnf
      refine eq_nc (p := .int ((fs.map fd).length : Nat)) (q := .int 1) (n := 0) (m := 0) rfl rfl (nc_i _) (nc_i _) (fun e4 => ?_) (fun e4 => ?_)
      · injection e4 with e4
        rw [if_pos (by omega)] at q
        conv => whnf
        exact eq_t l1 l3 (.inl q)
      · rw [if_neg (fun z => e4 (by rw [len, z]; rfl))] at q
        conv => whnf
        have hd : fs.dropLast.length = fs.length - 1 := List.length_dropLast
        have okd : ∀ g ∈ fs.dropLast, okFact g := fun g hg => okf g (List.mem_of_mem_take (by rw [List.dropLast_eq_take] at hg; exact hg))
        have c3 : cutD (fs.map fd) none (some (-1)) = fs.dropLast.map fd := by rw [cut_init, ← List.map_dropLast]
        have pos : 0 < fs.length := List.length_pos_iff.mpr nfs
        have ne1 : fs.length ≠ 1 := fun z => e4 (by rw [len, z]; rfl)
        have nd : fs.dropLast ≠ [] := fun z => by rw [z] at hd; have : 0 = fs.length - 1 := hd; omega
        refine ⟨⟨rfl, rfl⟩, ?_⟩
        conv => whnf
        refine ⟨rfl, by rw [drop_signs]; exact signs_flat _, ?_⟩
        rw [drop_signs, signs_count]
        conv => whnf
        refine eq_nc (p := .int (fs.dropLast.countP (isOp "=") : Nat)) (q := .int (((fs.map fd).length : Nat) - 1)) (n := 0) (m := 0) rfl rfl (nc_i _) (nc_i _) (fun e6 => ?_) (fun e6 => ?_)
        · injection e6 with e6
          have all : fs.dropLast.all (isOp "=") = true := by
            rw [List.all_eq_true, ← List.countP_eq_length]
            rw [len] at e6
            omega
          rw [all, Bool.true_and] at q
          conv => whnf
          refine ⟨fs.dropLast, by show [D.tup (cutD _ _ _)] = _; rw [c3], nd, by omega, okd, ?_⟩
          have oke := fun p hp => ends_ok okd (p := p) hp
          conv => whnf
          refine ⟨two, ?_⟩
          refine in_nc (p := pP (l.1, l.2.2)) (n := 1) (m := 1) (pd_pair (pd_t _) (pd_t _)) (pds_pD (lawEnds fs.dropLast)) (nc_pP l1 l3) (nc_pPs oke) (fun m => ?_) (fun m => ?_)
          · have m' := List.contains_iff_mem.mpr (pP_mem.mp m)
            rw [m', Bool.true_or] at q
            exact .inl q
          have m' : (lawEnds fs.dropLast).contains (l.1, l.2.2) = false := Bool.eq_false_iff.mpr fun z => m (pP_mem.mpr (List.contains_iff_mem.mp z))
          rw [m', Bool.false_or] at q
          conv => whnf
          refine ⟨two, ?_⟩
          refine in_nc (p := pP (l.2.2, l.1)) (n := 1) (m := 1) (pd_pair (pd_t _) (pd_t _)) (pds_pD (lawEnds fs.dropLast)) (nc_pP l3 l1) (nc_pPs oke) (fun m2 => ?_) (fun m2 => ?_)
          · rw [List.contains_iff_mem.mpr (pP_mem.mp m2)] at q
            exact .inl q
          · rw [Bool.eq_false_iff.mpr fun z => m2 (pP_mem.mpr (List.contains_iff_mem.mp z))] at q
            exact .inl q
        · have all : fs.dropLast.all (isOp "=") = false := Bool.eq_false_iff.mpr fun z => e6 (by
            rw [List.all_eq_true, ← List.countP_eq_length] at z
            rw [len, z, hd]
            congr 1
            omega)
          rw [all, Bool.false_and] at q
          conv => whnf
          refine ⟨zero, ?_⟩
          conv => whnf
          refine ⟨two, ?_⟩
          refine in_nc (p := pP (l.1, l.2.2)) (n := 1) (m := 1) (pd_pair (pd_t _) (pd_t _)) ((rfl : toPDs [] = some [])) (nc_pP l1 l3) (fun z hz => by cases hz) (fun m => ?_) (fun m => ?_)
          · cases m
          conv => whnf
          refine ⟨two, ?_⟩
          refine in_nc (p := pP (l.2.2, l.1)) (n := 1) (m := 1) (pd_pair (pd_t _) (pd_t _)) ((rfl : toPDs [] = some [])) (nc_pP l3 l1) (fun z hz => by cases hz) (fun m2 => ?_) (fun m2 => ?_)
          · cases m2
          · exact .inl q
    · rw [decide_eq_false o]
      conv => whnf
      refine ⟨⟨rfl, rfl⟩, ?_⟩
      conv => whnf
      refine ⟨rfl, signs_flat fs, ?_⟩
      rw [signs_count]
      have q : Q (.bl (if l.2.1 = "!=" then _ else !(fs.any (isOp "!=")) && (lawEnds fs).any (lawP fs))) h := q
      rw [if_neg o] at q
      have oke := fun p hp => ends_ok okf (p := p) hp
      have el2 := ends_len fs
      conv => whnf
      refine ⟨fs, rfl, nfs, hz, okf, ?_⟩
      have e3 : toPDs (fs.map fun g : Fact => D.str g.2.1) = some ((fs.map fun g : Fact => g.2.1).map PyData.str) := by
        have := strs_pd (fs.map fun g : Fact => g.2.1)
        unfold strsD at this
        rw [List.map_map] at this
        exact this
      have n3 : ∀ z ∈ (fs.map fun g : Fact => g.2.1).map PyData.str, Nc 0 z := fun z hz => by
        rw [List.map_map] at hz
        obtain ⟨g, hg, rfl⟩ := List.mem_map.mp hz
        exact nc_s (okf g hg).2.1.2
      have mem : (PyData.str "!=" ∈ (fs.map fun g : Fact => g.2.1).map PyData.str) ↔ fs.any (isOp "!=") = true := by
        rw [List.map_map, List.mem_map, List.any_eq_true]
        constructor
        · rintro ⟨g, hg, e4⟩
          exact ⟨g, hg, decide_eq_true (by injection e4)⟩
        · rintro ⟨g, hg, e4⟩
          exact ⟨g, hg, congrArg PyData.str (of_decide_eq_true e4)⟩
      conv => whnf
      refine notIn_nc (p := .str "!=") (m := 0) rfl e3 (nc_s (by decide +kernel)) n3 (fun m => ?_) (fun m => ?_)
      · rw [mem.mp m, Bool.not_true, Bool.false_and] at q
        conv => whnf
        refine ⟨by decide, by decide, by rw [List.length_map]; show _ * 0 ≤ _; rw [sizeLine_eq]; omega, ?_⟩
        exact ⟨rfl, .inl q⟩
      · have m' : fs.any (isOp "!=") = false := Bool.eq_false_iff.mpr fun z => m (mem.mpr z)
        rw [m', Bool.not_false, Bool.true_and] at q
        conv => whnf
        refine ⟨by decide, by decide, by rw [List.length_map]; show _ * 1 ≤ _; rw [sizeLine_eq]; omega, ?_⟩
        rw [show (List.replicate (if true = true then (1 : Int) else 0).toNat ((lawEnds fs).map pD)).flatten = (lawEnds fs).map pD by show (List.replicate 1 ((lawEnds fs).map pD)).flatten = _; simp]
        generalize hL : lawEnds fs = L at q oke el2 ⊢
        conv => whnf
        refine for_ok (fun k σ h' => h' = h ∧ (L.take k).any (lawP fs) = false ∧ ∃ x3 x4 x5 x6 x8 x9, σ = [some (.lst (F.map fd)), some (.tup (fs.map fd)), some (.lst (fs.map fun g : Fact => D.str g.2.1)), x3, x4, x5, x6, some (.int (fs.countP (isOp "<") : Nat)), x8, x9]) (fun k σ h' i => by rfl) (fun σ h' i => ?_) (fun k d σ h' ek i N hN => ?_) ⟨rfl, rfl, _, _, _, _, _, _, rfl⟩
        · obtain ⟨rfl, ha, x3, x4, x5, x6, x8, x9, rfl⟩ := i
          rw [List.length_map, List.take_length] at ha
          rw [ha] at q
          exact .inl q
        · obtain ⟨rfl, ha, x3, x4, x5, x6, x8, x9, rfl⟩ := i
          rw [List.getElem?_map] at ek
          cases ec : L[k]? with
          | none => rw [ec] at ek; cases ek
          | some p =>
            rw [ec] at ek
            cases ek
            have hp : p ∈ L := List.mem_of_getElem? ec
            obtain ⟨o1, o2⟩ := oke p hp
            have yes : lawP fs p = true → Ret h' Q (.bl true) h' := fun z => by
              rw [List.any_eq_true.mpr ⟨p, hp, z⟩] at q
              exact .inl q
            have no : lawP fs p = false → ∀ x8 x9, N [some (.lst (F.map fd)), some (.tup (fs.map fd)), some (.lst (fs.map fun g : Fact => D.str g.2.1)), x3, x4, x5, x6, some (.int (fs.countP (isOp "<") : Nat)), x8, x9] h' := fun z x8 x9 => by
              refine hN _ _ ⟨rfl, ?_, _, _, _, _, _, _, rfl⟩
              rw [List.take_add_one, ec, List.any_append, ha]
              show (false || (lawP fs p || false)) = false
              rw [z]; rfl
            clear q hN ha
            obtain ⟨s, t⟩ := p
            have val : (constT s && constT t) = false → lawP fs (s, t) = ((decide (s = t) && decide (0 < fs.countP (isOp "<"))) || (s.isI && (t.isI && decide (t.n < s.n + ((fs.countP (isOp "<") : Nat) : Int))))) := fun z => by
              unfold lawP
              rw [if_neg (by rw [z]; exact Bool.false_ne_true)]
            have vcc : (constT s && constT t) = true → lawP fs (s, t) = !decide (s = t) := fun z => by
              unfold lawP
              rw [if_pos z]
            conv => whnf
            refine ⟨rfl, ?_⟩
            conv => whnf
            refine ⟨s, rfl, o1, ?_⟩
            have fin : (constT s && constT t) = false → (cIfS
                (cOr (cAnd (cTest (cBin jEq (cVar 8) (cVar 9))) (cTest (cBin jGt (cVar 7) (cC (D.int 0)))))
                  (cAnd (cTest (cB (jIsi "int") (cCons (cVar 8) (cCons (cC (D.ty "int")) cNil))))
                    (cAnd (cTest (cB (jIsi "int") (cCons (cVar 9) (cCons (cC (D.ty "int")) cNil))))
                      (cTest (cBin jLt (cVar 9) (cBin dAdd (cVar 8) (cVar 7)))))))
                (cRet (cC (D.bl true))) cNext) { nx := N, rt := (Er h' Q).rt, bk := cRet (cC (D.bl false)) (Er h' Q), ct := N } [some (.lst (F.map fd)), some (.tup (fs.map fd)), some (.lst (fs.map fun g : Fact => D.str g.2.1)), x3, x4, x5, x6, some (.int (fs.countP (isOp "<") : Nat)), some s.d, some t.d] h' := fun hcc => by
              have val := val hcc
              conv => whnf
              refine eq_t o1 o2 ?_
              have intsC : (decide (s = t) && decide (0 < fs.countP (isOp "<"))) = false → (cAnd (cTest (cB (jIsi "int") (cCons (cVar 8) (cCons (cC (D.ty "int")) cNil))))
                    (cAnd (cTest (cB (jIsi "int") (cCons (cVar 9) (cCons (cC (D.ty "int")) cNil))))
                      (cTest (cBin jLt (cVar 9) (cBin dAdd (cVar 8) (cVar 7)))))) [some (.lst (F.map fd)), some (.tup (fs.map fd)), some (.lst (fs.map fun g : Fact => D.str g.2.1)), x3, x4, x5, x6, some (.int (fs.countP (isOp "<") : Nat)), some s.d, some t.d] h' fun k h1 => if k = true then cRet (cC (D.bl true)) { nx := N, rt := (Er h' Q).rt, bk := cRet (cC (D.bl false)) (Er h' Q), ct := N } [some (.lst (F.map fd)), some (.tup (fs.map fd)), some (.lst (fs.map fun g : Fact => D.str g.2.1)), x3, x4, x5, x6, some (.int (fs.countP (isOp "<") : Nat)), some s.d, some t.d] h1 else cNext { nx := N, rt := (Er h' Q).rt, bk := cRet (cC (D.bl false)) (Er h' Q), ct := N } [some (.lst (F.map fd)), some (.tup (fs.map fd)), some (.lst (fs.map fun g : Fact => D.str g.2.1)), x3, x4, x5, x6, some (.int (fs.countP (isOp "<") : Nat)), some s.d, some t.d] h1 := fun z => by
                rw [z, Bool.false_or] at val
                clear vcc hcc z
                conv => whnf
                refine ji_int (okD_t s) ?_
                cases s with
                | s x => exact no val _ _
                | i n =>
                  conv => whnf
                  refine ji_int (okD_t t) ?_
                  cases t with
                  | s x => exact no val _ _
                  | i m =>
                    conv => whnf
                    refine j_lt (fun z3 => yes (by rw [val]; exact decide_eq_true z3)) (fun z3 => no (by rw [val]; exact decide_eq_false z3) _ _)
              by_cases z1 : s = t
              · rw [decide_eq_true z1]
                conv => whnf
                refine j_gt (fun z2 => yes (by rw [val, decide_eq_true z1, decide_eq_true (show 0 < fs.countP (isOp "<") by omega)]; rfl)) (fun z2 => ?_)
                exact intsC (by rw [decide_eq_false (show ¬ 0 < fs.countP (isOp "<") by omega), Bool.and_false])
              · rw [decide_eq_false z1]
                exact intsC (by rw [decide_eq_false z1, Bool.false_and])
            cases c1 : constT s with
            | false => exact fin (by rw [c1, Bool.false_and])
            | true =>
              conv => whnf
              refine ⟨t, rfl, o2, ?_⟩
              cases c2 : constT t with
              | false => exact fin (by rw [c1, c2]; rfl)
              | true =>
                conv => whnf
                refine ne_t o1 o2 ?_
                have v := vcc (by rw [c1, c2]; rfl)
                by_cases z1 : s = t
                · rw [decide_eq_true z1] at v ⊢
                  exact no v _ _
                · rw [decide_eq_false z1] at v ⊢
                  exact yes v
  · have w : its.all (inF F) = false := by
      cases z : its.all (inF F) with
      | false => rfl
      | true =>
        have e0 : its.filterMap (fun d => if inF F d then none else some d) = [] := by
          rw [List.filterMap_eq_nil_iff]
          intro d hd
          rw [if_pos (List.all_eq_true.mp z d hd)]
        rw [e0] at ep2
        cases ep2
        exact absurd rfl e5
    rw [facts_none w] at q
    exact .inl q
end
end K69

namespace K69
open PySem PySem.Spec PyProof.Rows L2 TL
def colsL : Bool → List Col
  | true => [.up, .vr, .uq, .vw]
  | false => [.ua, .ub, .vc, .vd]
def colsS (b : Bool) : List D := (colsL b).map fun c => .str c.s
theorem cols_ok {b : Bool} {c : Col} (h : c ∈ colsL b) : c.one = true ∧ c.nm = !b := by
  cases b <;> simp [colsL] at h <;> rcases h with rfl | rfl | rfl | rfl <;> exact ⟨rfl, rfl⟩
theorem cols_str {b : Bool} {d : D} (h : d ∈ colsS b) : ∃ c ∈ colsL b, d = .str c.s := by
  obtain ⟨c, hc, rfl⟩ := List.mem_map.mp h
  exact ⟨c, hc, rfl⟩
theorem cl_ints (n : Nat) (l : List Int) : ClL n (l.map D.int) := cl_all fun d hd => by
  obtain ⟨x, _, rfl⟩ := List.mem_map.mp hd
  trivial
theorem cl_cds (n : Nat) (l : List Cond) : ClL n (l.map Cond.d) := cl_all fun d hd => by
  obtain ⟨c, _, rfl⟩ := List.mem_map.mp hd
  exact ⟨trivial, trivial, cl_t n _, trivial⟩
theorem hcl_dk (cs : List Int) (t j : Int) : HCl (dk cs t j) := fun i o e => by
  match i, e with
  | 0, e => cases e; exact ⟨(by show 1 < 2; decide), trivial, trivial, trivial⟩
  | 1, e => cases e; exact cl_ints _ cs
  | n + 2, e => cases e
theorem hcl_dk1 (cs : List Int) (t j : Int) {l : List D} (h : ClL 3 l) : HCl (dk cs t j ++ [.lst l]) := fun i o e => by
  match i, e with
  | 0, e => cases e; exact ⟨(by show 1 < 3; decide), trivial, trivial, trivial⟩
  | 1, e => cases e; exact cl_ints _ cs
  | 2, e => cases e; exact h
  | n + 3, e => cases e
theorem cols_pd (l : List Col) : toPDs (l.map fun c => D.str c.s) = some (l.map fun c => PyData.str c.s) := by
  have := strs_pd (l.map Col.s)
  unfold strsD at this
  rw [List.map_map, List.map_map] at this
  exact this
theorem cols_nc (l : List Col) : ∀ z ∈ l.map (fun c => PyData.str c.s), Nc 0 z := fun z hz => by
  obtain ⟨c, _, rfl⟩ := List.mem_map.mp hz
  exact nc_s (okS_c c).2
theorem okTm_rt {c : Col} {b : Rt} (h : okRt c b) : okTm b.t := by
  cases b with
  | nm x =>
    rcases h with rfl | rfl
    · exact ⟨by decide +kernel, by decide +kernel⟩
    · exact ⟨by decide +kernel, by decide +kernel⟩
  | num n => trivial
  | col c' => exact okS_c c'
theorem at0 (c : Col) : atI c.s.cps.toList 0 = some c.al.cps[0]! := by
  cases c <;> rfl
theorem al_eq (c : Col) : (⟨#[c.al.cps[0]!]⟩ : PySem.Str) = c.al := by
  cases c <;> rfl
theorem len_c (c : Col) : c.s.length ≤ sizeLine := by
  cases c <;> decide
theorem okS_al (c : Col) : PyData.strOk c.al = true := by
  cases c <;> decide +kernel
theorem al_u {c c' : Col} (h : c ∈ colsL true) (h' : c' ∈ colsL true) (e : c.al = c'.al) : c.u = c'.u := by
  simp [colsL] at h h'
  rcases h with rfl | rfl | rfl | rfl <;> rcases h' with rfl | rfl | rfl | rfl <;> first | rfl | exact absurd e (by decide)
theorem u_al {c c' : Col} (h : c ∈ colsL true) (h' : c' ∈ colsL true) (e : c.u = c'.u) : c.al = c'.al := by
  simp [colsL] at h h'
  rcases h with rfl | rfl | rfl | rfl <;> rcases h' with rfl | rfl | rfl | rfl <;> first | rfl | exact absurd e (by decide)
def OLc (c : Col) : List Col := (colsL true).filter (fun c' => decide (c'.u ≠ c.u)) ++ [c]
theorem eOc (c : Col) : List.filterMap (fun c' : Col => if c'.u = c.u then none else some (D.str c'.s)) (colsL true) ++ [D.str c.s] = (OLc c).map fun c => D.str c.s := by
  cases c <;> rfl
theorem OLc_ne (c : Col) : OLc c ≠ [] := fun z => by
  have := (List.append_eq_nil_iff.mp z).2
  cases this
theorem OLc_len (c : Col) : (OLc c).length ≤ 10 := by
  cases c <;> decide
theorem OLc_ok {c c' : Col} (h : c ∈ colsL true) (m : c' ∈ OLc c) : okRt c (.col c') := by
  have a := cols_ok h
  rcases List.mem_append.mp m with m | m
  · obtain ⟨m, n⟩ := List.mem_filter.mp m
    have b := cols_ok m
    exact ⟨by rw [a.1, b.1], by rw [a.2, b.2], fun _ => .inl (of_decide_eq_true n)⟩
  · cases List.mem_singleton.mp m
    exact ⟨rfl, rfl, fun _ => .inr rfl⟩
theorem first_tail (K : PySem.W.Frag) (nb : Bool) (cs : List Int) (t j : Int) (qs : List Cond) (c f : Col) (r : Int) (OL : List Col) (sg : PySem.Str) (b : Rt) {x8 x13 : Option D} {E : DE}
    (hcs : okC cs) (ht : okT t) (h0 : 0 ≤ j) (h1 : j ≤ 200000) (hq : qs.length ≤ 5) (hf : f ∈ colsL nb) (hOL : OL ≠ []) (hOl : OL.length ≤ 10) (hO : ∀ c' ∈ OL, okRt c (.col c')) (hb : okRt c b) (hbn : if nb then b.isI else b.isN) (hc : c ∈ colsL nb)
    (hs : if nb then (sg = "=" ∨ sg = "!=" ∨ sg = "<=" ∨ sg = ">=") else (sg = "=" ∨ sg = "!="))
    (hN : ∀ cs' j' c' q x10 x12, okC cs' → j ≤ j' → j' ≤ j + 2 → c' ∈ colsL nb → Cond.ok q → q.a.one = true → E.nx [some (.ref 0), some (.lst (colsS false)), some (.lst (colsS true)), some (.bl nb), some (.ref 2), some (.str (Col.s c')), some (.str f.s), some (.lst (colsS nb)), x8, some (.int r), x10, some (.str sg), x12, x13] (dk cs' t j' ++ [.lst ((qs ++ [q]).map Cond.d)])) :
    cSeq (cIfS (cTest (cBin jGt (cVar 9) (cC (D.int 0))))
          (cAsg
            (cCall (T__law_pick K) []
              (cCons (cVar 0)
                (cCons
                  (cBin dAdd (cVar 10)
                    (cBin dMul (cBin dMul (cLst (cCons (cVar 6) cNil)) (cC (D.int 2)))
                      (cB dInt
                        (cCons (cAndV (cBin jEq (cVar 9) (cC (D.int 1))) (cBin jIn (cVar 6) (cVar 10))) cNil))))
                  cNil)))
            (cgName 12)) cNext)
      (cSeq
        (cDrop
          (cBM "list" dAppend (cVar 4)
            (cCons (cTup (cCons (cVar 5) (cCons (cVar 11) (cCons (cVar 12) cNil)))) cNil)))
        (cAsg
          (cIf (cTest (cBin jIn (cVar 12) (cVar 7))) (cVar 12)
            (cCall (T__law_pick K) [] (cCons (cVar 0) (cCons (cVar 7) cNil))))
          (cgName 5))) E
      [some (.ref 0), some (.lst (colsS false)), some (.lst (colsS true)), some (.bl nb), some (.ref 2), some (.str c.s), some (.str f.s), some (.lst (colsS nb)), x8, some (.int r), some (.lst (OL.map fun c => D.str c.s)), some (.str sg), some b.t.d, x13] (dk cs t j ++ [.lst (qs.map Cond.d)]) := by
  have fin : ∀ (cs : List Int) (j2 : Int) (b : Rt) x10, okC cs → j ≤ j2 → j2 ≤ j + 1 → okRt c b → (if nb then b.isI else b.isN) → cSeq
        (cDrop
          (cBM "list" dAppend (cVar 4)
            (cCons (cTup (cCons (cVar 5) (cCons (cVar 11) (cCons (cVar 12) cNil)))) cNil)))
        (cAsg
          (cIf (cTest (cBin jIn (cVar 12) (cVar 7))) (cVar 12)
            (cCall (T__law_pick K) [] (cCons (cVar 0) (cCons (cVar 7) cNil))))
          (cgName 5)) E
      [some (.ref 0), some (.lst (colsS false)), some (.lst (colsS true)), some (.bl nb), some (.ref 2), some (.str c.s), some (.str f.s), some (.lst (colsS nb)), x8, some (.int r), x10, some (.str sg), some b.t.d, x13] (dk cs t j2 ++ [.lst (qs.map Cond.d)]) := fun cs j2 b x10 hcs hj hj' hb hbn => by
    obtain ⟨one_, nm_⟩ := cols_ok hc
    have okq : Cond.ok (⟨c, sg, b⟩ : Cond) := ⟨hb, by
      cases nb with
      | true => exact .inr ⟨by rw [nm_]; rfl, hs, hbn⟩
      | false => exact .inl ⟨by rw [nm_]; rfl, hs, hbn⟩⟩
    have hH : (dk cs t j2 ++ [O.lst (qs.map Cond.d)]).set 2 (.lst (qs.map Cond.d ++ [.tup [.str c.s, .str sg, b.t.d]])) = dk cs t j2 ++ [.lst ((qs ++ [(⟨c, sg, b⟩ : Cond)]).map Cond.d)] := by
      rw [List.map_append]; rfl
    conv => whnf
    refine ⟨⟨rfl, rfl⟩, ?_⟩
    conv => whnf
    refine ⟨three, ?_⟩
    conv => whnf
    refine ⟨by rw [List.length_map, sizeLine_eq]; omega, ?_⟩
    conv => whnf
    refine in_nc (p := b.t.p) (n := 0) (m := 0) (pd_t _) (cols_pd (colsL nb)) (nc_t (okTm_rt hb)) (cols_nc _) (fun m => ?_) (fun m => ?_)
    · obtain ⟨c', hc', e⟩ := List.mem_map.mp m
      have e2 : b.t = .s c'.s := by
        cases hbt : b.t with
        | s x => rw [hbt] at e; injection e with e; rw [e]
        | i n => rw [hbt] at e; cases e
      have e3 : b.t.d = .str c'.s := by rw [e2]; rfl
      have z := hN cs j2 c' ⟨c, sg, b⟩ x10 (some b.t.d) hcs hj (by omega) hc' okq one_
      rw [← hH, ← e3] at z
      exact z
    · conv => whnf
      refine ⟨cs, t, j2, .lst (colsS nb), colsS nb, [.lst (qs.map Cond.d ++ [.tup [.str c.s, .str sg, b.t.d]])], rfl, rfl, rfl, by cases nb <;> exact (fun z => by cases z), by cases nb <;> decide, hcs, ht, ⟨by omega, by omega⟩, fun d cs' hd hcs' => ?_⟩
      obtain ⟨c', hc', rfl⟩ := cols_str hd
      have z := hN cs' (j2 + 1) c' ⟨c, sg, b⟩ x10 (some b.t.d) hcs' (by omega) (by omega) hc' okq one_
      rw [List.map_append] at z
      exact z
  have pick : ∀ (its : List D) x10, (∀ d ∈ its, ∃ c' ∈ OL, d = .str c'.s) → its ≠ [] → its.length ≤ 5000 → T__law_pick K [.ref 0, .lst its] (dk cs t j ++ [.lst (qs.map Cond.d)]) fun d h' => cSeq
        (cDrop
          (cBM "list" dAppend (cVar 4)
            (cCons (cTup (cCons (cVar 5) (cCons (cVar 11) (cCons (cVar 12) cNil)))) cNil)))
        (cAsg
          (cIf (cTest (cBin jIn (cVar 12) (cVar 7))) (cVar 12)
            (cCall (T__law_pick K) [] (cCons (cVar 0) (cCons (cVar 7) cNil))))
          (cgName 5)) E
      [some (.ref 0), some (.lst (colsS false)), some (.lst (colsS true)), some (.bl nb), some (.ref 2), some (.str c.s), some (.str f.s), some (.lst (colsS nb)), x8, some (.int r), x10, some (.str sg), some d, x13] h' := fun its x10 hi hne hle => by
    refine ⟨cs, t, j, .lst its, its, [.lst (qs.map Cond.d)], rfl, rfl, rfl, hne, hle, hcs, ht, ⟨h0, by omega⟩, fun d cs' hd hcs' => ?_⟩
    obtain ⟨c', hc', rfl⟩ := hi d hd
    exact fin cs' (j + 1) (.col c') x10 hcs' (by omega) (by omega) (hO c' hc') (by cases nb <;> trivial)
  have memO : ∀ d ∈ OL.map (fun c => D.str c.s), ∃ c' ∈ OL, d = .str c'.s := fun d hd => by
    obtain ⟨c', hc', rfl⟩ := List.mem_map.mp hd
    exact ⟨c', hc', rfl⟩
  have neO : OL.map (fun c => D.str c.s) ≠ [] := fun z => hOL (List.map_eq_nil_iff.mp z)
  have lenO : (OL.map fun c => D.str c.s).length = OL.length := List.length_map _
  have none_ : ∀ n : Nat, (List.replicate (0 : Int).toNat (List.replicate n [D.str f.s]).flatten).flatten = [] := fun n => rfl
  conv => whnf
  refine j_gt (fun _ => ?_) (fun _ => fin cs j b _ hcs (by omega) (by omega) hb hbn)
  conv => whnf
  refine ⟨one, ?_⟩
  conv => whnf
  refine ⟨by decide, by decide, by show 1 * 2 ≤ sizeLine; decide, ?_⟩
  conv => whnf
  refine eq_nc (p := .int r) (q := .int 1) (n := 0) (m := 0) rfl rfl (nc_i _) (nc_i _) (fun e => ?_) (fun e => ?_)
  · conv => whnf
    refine in_nc (p := .str f.s) (n := 0) (m := 0) rfl (cols_pd OL) (nc_s (okS_c f).2) (cols_nc _) (fun m => ?_) (fun m => ?_)
    · obtain ⟨c', hc', e⟩ := List.mem_map.mp m
      injection e with e
      conv => whnf
      refine ⟨by decide, by decide, by show 2 * 1 ≤ sizeLine; decide, ?_⟩
      conv => whnf
      refine ⟨by rw [lenO]; show OL.length + 2 ≤ sizeLine; rw [sizeLine_eq]; omega, ?_⟩
      refine pick _ _ (fun d hd => ?_) (fun z => neO (List.append_eq_nil_iff.mp z).1) (by rw [List.length_append, lenO]; show OL.length + 2 ≤ 5000; omega)
      rcases List.mem_append.mp hd with hd | hd
      · exact memO d hd
      · have hd : d ∈ [D.str f.s, D.str f.s] := hd
        have : d = .str f.s := by simpa using hd
        exact ⟨c', hc', by rw [this, e]⟩
    · conv => whnf
      refine ⟨by decide, by decide, by show 2 * 0 ≤ sizeLine; decide, ?_⟩
      conv => whnf
      refine ⟨by rw [lenO]; show OL.length + 0 ≤ sizeLine; rw [sizeLine_eq]; omega, ?_⟩
      refine pick _ _ (fun d hd => ?_) (fun z => neO (List.append_eq_nil_iff.mp z).1) (by rw [List.length_append, lenO]; show OL.length + 0 ≤ 5000; omega)
      rcases List.mem_append.mp hd with hd | hd
      · exact memO d hd
      · cases (show d ∈ ([] : List D) from hd)
  · conv => whnf
    refine ⟨by decide, by decide, by show 2 * 0 ≤ sizeLine; decide, ?_⟩
    conv => whnf
    refine ⟨by rw [lenO]; show OL.length + 0 ≤ sizeLine; rw [sizeLine_eq]; omega, ?_⟩
    refine pick _ _ (fun d hd => ?_) (fun z => neO (List.append_eq_nil_iff.mp z).1) (by rw [List.length_append, lenO]; show OL.length + 0 ≤ 5000; omega)
    rcases List.mem_append.mp hd with hd | hd
    · exact memO d hd
    · cases (show d ∈ ([] : List D) from hd)
section
variable (K : PySem.W.Frag)
theorem pl__law_first : Pl (T__law_first K) (c__law_first K) N__law_first := by
  rintro ds h Q hc hl ⟨cs, t, j, rfl, rfl, hcs, ht, h0, h1, q⟩
  conv => whnf
  refine ⟨by decide, ?_⟩
  conv => whnf
  refine ⟨by decide, ?_⟩
  conv => whnf
  refine ⟨cs, t, j, 3, [], rfl, rfl, by decide, by decide, hcs, ht, ⟨h0, by omega⟩, fun r0 cs0 r00 r01 hcs0 => ?_⟩
  refine j_gt (fun z => ?_) (fun z => ?_)
  · skip
    conv => whnf
    refine ⟨zero, ?_⟩
    conv => whnf
    refine ⟨cs0, t, j + 1, .lst (colsS true), colsS true, [.lst []], rfl, rfl, rfl, by decide, by decide, hcs0, ht, ⟨by omega, by omega⟩, fun d cs1 hd hcs1 => ?_⟩
    obtain ⟨c0, hc0, rfl⟩ := cols_str hd
    conv => whnf
    refine ⟨cs1, t, j + 1 + 1, 5, [.lst []], rfl, rfl, by decide, by decide, hcs1, ht, ⟨by omega, by omega⟩, fun r1 cs2 r10 r11 hcs2 => ?_⟩
    conv => whnf
    refine ⟨by omega, by omega, ?_⟩
    refine for_ok (fun k σ h => ∃ cs' j' qs c f x8 x9 x10 x11 x12 x13, h = dk cs' t j' ++ [.lst ((qs : List Cond).map Cond.d)] ∧ okC cs' ∧ 0 ≤ j' ∧ j' ≤ j + 3 + 8 * (k : Int) ∧ qs.length = k ∧ (∀ q ∈ qs, Cond.ok q ∧ q.a.one = true) ∧ c ∈ colsL true ∧ f ∈ colsL true ∧ σ = [some (.ref 0), some (.lst (colsS false)), some (.lst (colsS true)), some (.bl true), some (.ref 2), some (.str (Col.s c)), some (.str (Col.s f)), some (.lst (colsS true)), x8, x9, x10, x11, x12, x13]) (fun k σ h i => trivial) (fun σ h i => ?_) (fun k d σ h ek i N hN => ?_) ⟨cs2, j + 1 + 1 + 1, [], c0, c0, _, _, _, _, _, _, rfl, hcs2, by omega, by omega, rfl, (fun q hq => by cases hq), hc0, hc0, rfl⟩
    · obtain ⟨cs', j', qs, c, f, x8, x9, x10, x11, x12, x13, rfl, i1, i2, i3, i4, i5, i6, i7, rfl⟩ := i
      have el : qs.length = (1 + r1).toNat := by rw [i4]; simp [rangeD]
      refine .inr ⟨dk cs' t j', [.lst (qs.map Cond.d)], .tup (qs.map Cond.d), rfl, Nat.le_refl _, hcl_dk _ _ _, .same (cl_cds _ _), q qs cs' j' ⟨fun z => by subst z; have : 0 = (1 + r1).toNat := el; omega, by omega, i5⟩ i1 i2 ?_⟩
      have : (rangeD 0 (1 + r1).toNat).length = (1 + r1).toNat := by simp [rangeD]
      rw [this] at i3
      omega
    · obtain ⟨cs', j', qs, c, f, x8, x9, x10, x11, x12, x13, rfl, i1, i2, i3, i4, i5, i6, i7, rfl⟩ := i
      have hk : k < 5 := by
        have := (List.getElem?_eq_some_iff.mp ek).1
        simp [rangeD] at this
        omega
      conv => whnf
      refine ⟨cs', t, j', 6, [.lst (qs.map Cond.d)], rfl, rfl, by decide, by decide, i1, ht, ⟨by omega, by omega⟩, fun r2 cs3 r20 r21 hcs3 => ?_⟩
      conv => whnf
      refine ⟨by show 4 ≤ sizeLine; decide, ?_⟩
      conv => whnf
      refine ⟨cs3, t, j' + 1, .lst [.str "=", .str "=", .str "=", .str "!="], [.str "=", .str "=", .str "=", .str "!="], [.lst (qs.map Cond.d)], rfl, rfl, rfl, (fun z => by cases z), by show 4 ≤ 5000; decide, hcs3, ht, ⟨by omega, by omega⟩, fun sg cs4 hsg hcs4 => ?_⟩
      conv => whnf
      refine ⟨two, ?_⟩
      conv => whnf
      refine ⟨cs4, t, j' + 1 + 1, .lst [.str "ann", .str "bo"], [.str "ann", .str "bo"], [.lst (qs.map Cond.d)], rfl, rfl, rfl, (fun z => by cases z), by show 2 ≤ 5000; decide, hcs4, ht, ⟨by omega, by omega⟩, fun th cs5 hth hcs5 => ?_⟩
      conv => whnf
      have hcl : HCl (dk cs5 t (j' + 1 + 1 + 1) ++ [O.lst (List.map Cond.d qs)]) := hcl_dk1 _ _ _ (cl_cds _ _)
      refine jlc_relF (fun c : Col => D.str c.s) (fun c' => if c'.u = c.u then none else some (.str c'.s)) (colsL true) (fun _ p => p) (fun _ => rfl) hcl (fun c' hc' acc P R m => ?_) (by decide) (cl_all fun d hd => ?_) ?_
      · conv => whnf
        refine ⟨len_c c', ?_⟩
        rw [at0 c']
        conv => whnf
        refine ⟨len_c c, ?_⟩
        rw [at0 c]
        conv => whnf
        refine ne_nc (p := .str c'.al) (q := .str c.al) (n := 0) (m := 0) (by rw [al_eq]; rfl) (by rw [al_eq]; rfl) (nc_s (okS_al c')) (nc_s (okS_al c)) (fun e => ?_) (fun e => ?_)
        · have e : c'.u = c.u := al_u hc' i6 (by injection e)
          rw [if_pos e] at m
          exact m
        · have e : c'.u ≠ c.u := fun z => e (by rw [u_al hc' i6 z])
          rw [if_neg e] at m
          exact m
      · obtain ⟨c', _, e⟩ := List.mem_filterMap.mp hd
        by_cases z : c'.u = c.u
        · rw [if_pos z] at e; cases e
        · rw [if_neg z] at e; cases e; trivial
      · conv => whnf
        refine ⟨one, ?_⟩
        conv => whnf
        refine ⟨by
          have := List.length_filterMap_le (fun c' : Col => if c'.u = c.u then none else some (D.str c'.s)) (colsL true)
          have e : (colsL true).length = 4 := rfl
          rw [sizeLine_eq]
          show _ + 1 ≤ _
          omega, ?_⟩
        refine ⟨by show 5 ≤ sizeLine; decide, ?_⟩
        conv => whnf
        refine ⟨cs5, t, j' + 1 + 1 + 1, .lst [.str "<=", .str "<=", .str ">=", .str "=", .str "!="], [.str "<=", .str "<=", .str ">=", .str "=", .str "!="], [.lst (qs.map Cond.d)], rfl, rfl, rfl, (fun z => by cases z), by show 5 ≤ 5000; decide, hcs5, ht, ⟨by omega, by omega⟩, fun sg2 cs6 hsg2 hcs6 => ?_⟩
        refine ⟨cs6, t, j' + 1 + 1 + 1 + 1, 4, [.lst (qs.map Cond.d)], rfl, rfl, by decide, by decide, hcs6, ht, ⟨by omega, by omega⟩, fun r3 cs7 r30 r31 hcs7 => ?_⟩
        obtain ⟨s, hs, rfl⟩ : ∃ s : PySem.Str, (s = "=" ∨ s = "!=" ∨ s = "<=" ∨ s = ">=") ∧ sg2 = .str s := by
          rcases List.mem_cons.mp hsg2 with rfl | hsg2
          · exact ⟨_, .inr (.inr (.inl rfl)), rfl⟩
          · rcases List.mem_cons.mp hsg2 with rfl | hsg2
            · exact ⟨_, .inr (.inr (.inl rfl)), rfl⟩
            · rcases List.mem_cons.mp hsg2 with rfl | hsg2
              · exact ⟨_, .inr (.inr (.inr rfl)), rfl⟩
              · rcases List.mem_cons.mp hsg2 with rfl | hsg2
                · exact ⟨_, .inl rfl, rfl⟩
                · rcases List.mem_cons.mp hsg2 with rfl | hsg2
                  · exact ⟨_, .inr (.inl rfl), rfl⟩
                  · cases hsg2
        rw [eOc c]
        refine first_tail K true cs7 t (j' + 1 + 1 + 1 + 1 + 1) qs c f r2 (OLc c) s (.num r3) hcs7 ht (by omega) (by omega) (by omega) i7 (OLc_ne c) (OLc_len c) (fun c' hc' => OLc_ok i6 hc') trivial trivial i6 hs (fun cs' j2 c' q' x10 x12 k1 k2 k3 k4 k5 k6 => ?_)
        refine hN _ _ ⟨cs', j2, qs ++ [q'], c', f, _, _, _, _, _, _, rfl, k1, by omega, by omega, by rw [List.length_append, i4]; rfl, fun q2 hq2 => ?_, k4, i7, rfl⟩
        rcases List.mem_append.mp hq2 with hq2 | hq2
        · exact i5 q2 hq2
        · cases List.mem_singleton.mp hq2
          exact ⟨k5, k6⟩
  · skip
    conv => whnf
    refine ⟨zero, ?_⟩
    conv => whnf
    refine ⟨cs0, t, j + 1, .lst (colsS false), colsS false, [.lst []], rfl, rfl, rfl, by decide, by decide, hcs0, ht, ⟨by omega, by omega⟩, fun d cs1 hd hcs1 => ?_⟩
    obtain ⟨c0, hc0, rfl⟩ := cols_str hd
    conv => whnf
    refine ⟨cs1, t, j + 1 + 1, 5, [.lst []], rfl, rfl, by decide, by decide, hcs1, ht, ⟨by omega, by omega⟩, fun r1 cs2 r10 r11 hcs2 => ?_⟩
    conv => whnf
    refine ⟨by omega, by omega, ?_⟩
    refine for_ok (fun k σ h => ∃ cs' j' qs c f x8 x9 x10 x11 x12 x13, h = dk cs' t j' ++ [.lst ((qs : List Cond).map Cond.d)] ∧ okC cs' ∧ 0 ≤ j' ∧ j' ≤ j + 3 + 8 * (k : Int) ∧ qs.length = k ∧ (∀ q ∈ qs, Cond.ok q ∧ q.a.one = true) ∧ c ∈ colsL false ∧ f ∈ colsL false ∧ σ = [some (.ref 0), some (.lst (colsS false)), some (.lst (colsS true)), some (.bl false), some (.ref 2), some (.str (Col.s c)), some (.str (Col.s f)), some (.lst (colsS false)), x8, x9, x10, x11, x12, x13]) (fun k σ h i => trivial) (fun σ h i => ?_) (fun k d σ h ek i N hN => ?_) ⟨cs2, j + 1 + 1 + 1, [], c0, c0, _, _, _, _, _, _, rfl, hcs2, by omega, by omega, rfl, (fun q hq => by cases hq), hc0, hc0, rfl⟩
    · obtain ⟨cs', j', qs, c, f, x8, x9, x10, x11, x12, x13, rfl, i1, i2, i3, i4, i5, i6, i7, rfl⟩ := i
      have el : qs.length = (1 + r1).toNat := by rw [i4]; simp [rangeD]
      refine .inr ⟨dk cs' t j', [.lst (qs.map Cond.d)], .tup (qs.map Cond.d), rfl, Nat.le_refl _, hcl_dk _ _ _, .same (cl_cds _ _), q qs cs' j' ⟨fun z => by subst z; have : 0 = (1 + r1).toNat := el; omega, by omega, i5⟩ i1 i2 ?_⟩
      have : (rangeD 0 (1 + r1).toNat).length = (1 + r1).toNat := by simp [rangeD]
      rw [this] at i3
      omega
    · obtain ⟨cs', j', qs, c, f, x8, x9, x10, x11, x12, x13, rfl, i1, i2, i3, i4, i5, i6, i7, rfl⟩ := i
      have hk : k < 5 := by
        have := (List.getElem?_eq_some_iff.mp ek).1
        simp [rangeD] at this
        omega
      conv => whnf
      refine ⟨cs', t, j', 6, [.lst (qs.map Cond.d)], rfl, rfl, by decide, by decide, i1, ht, ⟨by omega, by omega⟩, fun r2 cs3 r20 r21 hcs3 => ?_⟩
      conv => whnf
      refine ⟨by show 4 ≤ sizeLine; decide, ?_⟩
      conv => whnf
      refine ⟨cs3, t, j' + 1, .lst [.str "=", .str "=", .str "=", .str "!="], [.str "=", .str "=", .str "=", .str "!="], [.lst (qs.map Cond.d)], rfl, rfl, rfl, (fun z => by cases z), by show 4 ≤ 5000; decide, hcs3, ht, ⟨by omega, by omega⟩, fun sg cs4 hsg hcs4 => ?_⟩
      conv => whnf
      refine ⟨two, ?_⟩
      conv => whnf
      refine ⟨cs4, t, j' + 1 + 1, .lst [.str "ann", .str "bo"], [.str "ann", .str "bo"], [.lst (qs.map Cond.d)], rfl, rfl, rfl, (fun z => by cases z), by show 2 ≤ 5000; decide, hcs4, ht, ⟨by omega, by omega⟩, fun th cs5 hth hcs5 => ?_⟩
      conv => whnf
      obtain ⟨x, hx, rfl⟩ : ∃ x : PySem.Str, (x = "ann" ∨ x = "bo") ∧ th = .str x := by
        rcases List.mem_cons.mp hth with rfl | hth
        · exact ⟨_, .inl rfl, rfl⟩
        · rcases List.mem_cons.mp hth with rfl | hth
          · exact ⟨_, .inr rfl, rfl⟩
          · cases hth
      obtain ⟨s, hs, rfl⟩ : ∃ s : PySem.Str, (s = "=" ∨ s = "!=") ∧ sg = .str s := by
        rcases List.mem_cons.mp hsg with rfl | hsg
        · exact ⟨_, .inl rfl, rfl⟩
        · rcases List.mem_cons.mp hsg with rfl | hsg
          · exact ⟨_, .inl rfl, rfl⟩
          · rcases List.mem_cons.mp hsg with rfl | hsg
            · exact ⟨_, .inl rfl, rfl⟩
            · rcases List.mem_cons.mp hsg with rfl | hsg
              · exact ⟨_, .inr rfl, rfl⟩
              · cases hsg
      refine first_tail K false cs5 t (j' + 1 + 1 + 1) qs c f r2 [.ua, .ub, .vc, .vd] s (.nm x) hcs5 ht (by omega) (by omega) (by omega) i7 (by simp) (by decide) (fun c' hc' => ?_) hx trivial i6 hs (fun cs' j2 c' q' x10 x12 k1 k2 k3 k4 k5 k6 => ?_)
      · have a := cols_ok i6
        have b : c' ∈ colsL false := hc'
        have b := cols_ok b
        exact ⟨by rw [a.1, b.1], by rw [a.2, b.2], fun z => by rw [a.2] at z; cases z⟩
      · refine hN _ _ ⟨cs', j2, qs ++ [q'], c', f, _, _, _, _, _, _, rfl, k1, by omega, by omega, by rw [List.length_append, i4]; rfl, fun q2 hq2 => ?_, k4, i7, rfl⟩
        rcases List.mem_append.mp hq2 with hq2 | hq2
        · exact i5 q2 hq2
        · cases List.mem_singleton.mp hq2
          exact ⟨k5, k6⟩
end
end K69

namespace K69
open PySem PySem.Spec PyProof.Rows L2 TL
theorem item_f {f : Fact} (h : okFact f) : Item (fd f) := .tup (by show 3 ≤ 5; decide) fun d hd => by
  rcases List.mem_cons.mp hd with rfl | hd
  · exact .tm _ h.1
  · rcases List.mem_cons.mp hd with rfl | hd
    · exact .tm (.s f.2.1) h.2.1
    · cases List.mem_singleton.mp hd
      exact .tm _ h.2.2
/-- the heap of the law's chains: the deck, the list of what is found, lists that are behind us -/
def chH (cs : List Int) (t j : Int) (L : List (List D)) (G : List (List D)) : DH := dk cs t j ++ (L.map D.tup :: G).map O.lst
theorem len_chH (cs : List Int) (t j : Int) (L G : List (List D)) : (chH cs t j L G).length = 3 + G.length := by
  unfold chH
  rw [List.length_append, List.length_map, List.length_cons]
  show 2 + (G.length + 1) = 3 + G.length
  omega
theorem at_end (cs : List Int) (t j : Int) (L G : List (List D)) (l : List D) : (chH cs t j L G ++ [.lst l])[3 + G.length]? = some (.lst l) := by
  rw [← len_chH cs t j L G, List.getElem?_append_right (Nat.le_refl _), Nat.sub_self]
  rfl
theorem lst_end (cs : List Int) (t j : Int) (L G : List (List D)) (l : List D) : lstRd (chH cs t j L G ++ [.lst l]) (.ref (3 + G.length)) = some l := by
  simp only [lstRd, lstAt, at_end]
theorem seq_end (cs : List Int) (t j : Int) (L G : List (List D)) (l : List D) : seqRd (chH cs t j L G ++ [.lst l]) (.ref (3 + G.length)) = some l := lst_end ..
theorem set_end (cs : List Int) (t j : Int) (L G : List (List D)) (l m : List D) : (chH cs t j L G ++ [O.lst l]).set (3 + G.length) (O.lst m) = chH cs t j L G ++ [.lst m] := by
  rw [← len_chH cs t j L G, List.set_append_right _ _ (Nat.le_refl _), Nat.sub_self]
  rfl
theorem pop_end {cs : List Int} {t j : Int} {L G : List (List D)} {l : List D} {r : Int} {Q : KD} (h0 : 0 ≤ r) (h1 : r < ((l.length : Nat) : Int)) (hz : l.length ≤ 5000) (q : ∀ (k : Nat) y, l[k]? = some y → Q y (chH cs t j L G ++ [.lst (l.eraseIdx k)])) : dPop (.ref (3 + G.length)) [.int r] (chH cs t j L G ++ [.lst l]) Q := by
  have e : seqIndex? r l.length = some r.toNat := by
    simp [seqIndex?, show ¬ r < 0 by omega, h0, h1]
  have hk : r.toNat < l.length := by omega
  simp only [dPop, lstMut, at_end, e, set_end, List.getElem?_eq_getElem hk]
  exact ⟨by omega, by omega, q _ _ (List.getElem?_eq_getElem hk)⟩
theorem hcl_chH {cs : List Int} {t j : Int} {L G : List (List D)} (hL : ∀ its ∈ L, Chain its) (hG : ∀ l ∈ G, ∀ n, ClL n l) : HCl (chH cs t j L G) := fun i o e => by
  match i, e with
  | 0, e => cases e; exact ⟨(by show 1 < _; rw [len_chH]; omega), trivial, trivial, trivial⟩
  | 1, e => cases e; exact cl_ints _ cs
  | 2, e =>
    cases e
    refine cl_all fun d hd => ?_
    obtain ⟨its, hi, rfl⟩ := List.mem_map.mp hd
    exact cl_its (hL its hi)
  | n + 3, e =>
    have e : (G.map O.lst)[n]? = some o := e
    rw [List.getElem?_map] at e
    cases z : G[n]? with
    | none => rw [z] at e; cases e
    | some l => rw [z] at e; cases e; exact hG l (List.mem_of_getElem? z) _
theorem app_chH (cs : List Int) (t j : Int) (L G : List (List D)) (l : List D) : chH cs t j L G ++ [.lst l] = chH cs t j L (G ++ [l]) := by
  unfold chH
  rw [List.append_assoc, ← List.cons_append, List.map_append]
  rfl
section
variable (K : PySem.W.Frag)
/-- one draw of a fact out of those that are left -/
theorem ch_inner {cs : List Int} {t j : Int} {L G : List (List D)} {left ch : List D} {S F : D} {d4 x7 x8 x9 x10 x11 x12 : Option D} {E : DE} (hcs : okC cs) (ht : okT t) (h0 : 0 ≤ j) (h1 : j ≤ 200000) (hl : left ≠ []) (hz : left.length ≤ 10) (hc : ch.length ≤ 10)
    (hN : ∀ cs' (k : Nat) y, okC cs' → left[k]? = some y → E.nx [some (.ref 0), some F, some S, some (.ref 2), d4, some (.ref (3 + G.length)), some (.tup (ch ++ [y])), x7, x8, x9, x10, x11, x12] (chH cs' t (j + 1) L G ++ [.lst (left.eraseIdx k)])) :
    (cAsg (cBin dAdd (cVar 6) (cTup (cCons (cBM "list" dPop (cVar 5) (cCons (cCall (T__law_draw K) [] (cCons (cVar 0) (cCons (cB dLen (cCons (cVar 5) cNil)) cNil))) cNil)) cNil))) (cgName 6)) E
      [some (.ref 0), some F, some S, some (.ref 2), d4, some (.ref (3 + G.length)), some (.tup ch), x7, x8, x9, x10, x11, x12] (chH cs t j L G ++ [.lst left]) := by
  have hp : 0 < left.length := List.length_pos_iff.mpr hl
  conv => whnf
  refine ⟨⟨rfl, by rw [lst_end]; rfl⟩, ?_⟩
  conv => whnf
  rw [seq_end]
  refine ⟨cs, t, j, ((left.length : Nat) : Int), (L.map D.tup :: G).map O.lst ++ [.lst left], by unfold chH; rw [List.append_assoc], rfl, by omega, by omega, hcs, ht, ⟨h0, by omega⟩, fun r2 cs3 r20 r21 hcs3 => ?_⟩
  refine toH (chH cs3 t (j + 1) L G ++ [.lst left]) (by unfold chH; rw [List.append_assoc]) ?_
  refine pop_end r20 r21 (by omega) fun k y ek => ?_
  conv => whnf
  refine ⟨one, ?_⟩
  conv => whnf
  refine ⟨by rw [sizeLine_eq]; show ch.length + 1 ≤ _; omega, ?_⟩
  exact hN cs3 k y hcs3 ek
/-- an item that is a fact -/
def FD (d : D) : Prop := ∃ f : Fact, okFact f ∧ d = fd f
theorem FD.item {d : D} (h : FD d) : Item d := by
  obtain ⟨f, hf, rfl⟩ := h
  exact item_f hf
theorem chain_FD {l : List D} (hz : l.length ≤ 5000) (h : ∀ d ∈ l, FD d) : Chain l := ⟨hz, fun d hd => (h d hd).item⟩
theorem app2 (cs : List Int) (t j : Int) (L G : List (List D)) (c : List D) : (chH cs t j L G).set 2 (.lst (L.map D.tup ++ [.tup c])) = chH cs t j (L ++ [c]) G := by
  unfold chH
  rw [List.map_append]
  rfl
/-- behind the draws: a chain, and one whose last fact is changed -/
theorem ch_tail {cs : List Int} {t j : Int} {L G : List (List D)} {ch : List D} {S F : D} {d4 x5 x7 x8 x9 x10 x11 x12 : Option D} {E : DE} (hcs : okC cs) (ht : okT t) (h0 : 0 ≤ j) (h1 : j ≤ 200000) (ne : ch ≠ []) (hz : ch.length ≤ 10) (hch : ∀ d ∈ ch, FD d) (hL : L.length ≤ 1000)
    (hN : ∀ cs' c1 x8 x9 x10 x11, okC cs' → Chain c1 → E.nx [some (.ref 0), some F, some S, some (.ref 2), d4, x5, some (.tup ch), x7, x8, x9, x10, x11, x12] (chH cs' t (j + 1 + 1) (L ++ [ch] ++ [c1]) G)) :
    (cSeq (cDrop (cBM "list" dAppend (cVar 3) (cCons (cVar 6) cNil)))
  (cSeq (cAsg (cCall (T__law_pick K) [] (cCons (cVar 0) (cCons (cVar 6) cNil))) (cgTup 3 (cgsCons (cgName 8) (cgsCons (cgName 9) (cgsCons (cgName 10) cgsNil)))))
  (cSeq (cAsg (cLst (cCons (cTup (cCons (cVar 10) (cCons (cVar 9) (cCons (cVar 8) cNil)))) (cCons (cTup (cCons (cVar 8) (cCons (cC (.str ("<" : PySem.Str))) (cCons (cVar 10) cNil)))) (cCons (cTup (cCons (cVar 8) (cCons (cC (.str ("=" : PySem.Str))) (cCons (cVar 10) cNil)))) (cCons (cTup (cCons (cVar 8) (cCons (cVar 9) (cCons (cC (.int 9)) cNil)))) (cCons (cTup (cCons (cVar 8) (cCons (cVar 9) cNil))) cNil)))))) (cgName 11))
  (cDrop (cBM "list" dAppend (cVar 3) (cCons (cBin dAdd (cSl dSl (cVar 6) cNoP (cPart (cC (.int (-1))))) (cTup (cCons (cCall (T__law_pick K) [] (cCons (cVar 0) (cCons (cBin dAdd (cVar 11) (cLst (cCons (cLst (cCons (cVar 8) (cCons (cVar 9) (cCons (cVar 10) cNil)))) cNil))) cNil))) cNil))) cNil)))))) E
      [some (.ref 0), some F, some S, some (.ref 2), d4, x5, some (.tup ch), x7, x8, x9, x10, x11, x12] (chH cs t j L G) := by
  conv => whnf
  refine ⟨⟨rfl, rfl⟩, ?_⟩
  conv => whnf
  refine ⟨by rw [List.length_map, sizeLine_eq]; omega, ?_⟩
  refine toH (chH cs t j (L ++ [ch]) G) (app2 cs t j L G ch) ?_
  conv => whnf
  refine ⟨cs, t, j, .tup ch, ch, ((L ++ [ch]).map D.tup :: G).map O.lst, rfl, rfl, rfl, ne, by omega, hcs, ht, ⟨h0, by omega⟩, fun d cs' hd hcs' => ?_⟩
  obtain ⟨f, hf, rfl⟩ := hch d hd
  obtain ⟨k1, k2, k3⟩ := hf
  conv => whnf
  refine ⟨rfl, ?_⟩
  conv => whnf
  refine ⟨three, ?_⟩
  conv => whnf
  refine ⟨three, ?_⟩
  conv => whnf
  refine ⟨three, ?_⟩
  conv => whnf
  refine ⟨three, ?_⟩
  conv => whnf
  refine ⟨two, ?_⟩
  conv => whnf
  refine ⟨by show 5 ≤ sizeLine; decide, ?_⟩
  conv => whnf
  refine ⟨⟨rfl, rfl⟩, ?_⟩
  conv => whnf
  refine ⟨by show 3 ≤ sizeLine; decide, ?_⟩
  conv => whnf
  refine ⟨by show 1 ≤ sizeLine; decide, ?_⟩
  conv => whnf
  refine ⟨by show 6 ≤ sizeLine; decide, ?_⟩
  refine ⟨cs', t, j + 1, _, [_, _, _, _, _, _], ((L ++ [ch]).map D.tup :: G).map O.lst, rfl, rfl, rfl, (fun z => by cases z), by show 6 ≤ 5000; decide, hcs', ht, ⟨by omega, by omega⟩, fun d cs2 hd hcs2 => ?_⟩
  have id_ : Item d := by
    have l1 : Leaf f.1.d := .tm _ k1
    have l2 : Leaf (.str f.2.1) := .tm (.s f.2.1) k2
    have l3 : Leaf f.2.2.d := .tm _ k3
    have lt : Leaf (.str "<") := .tm (.s "<") ⟨by decide, by decide +kernel⟩
    have le : Leaf (.str "=") := .tm (.s "=") ⟨by decide, by decide +kernel⟩
    have ln : Leaf (.int 9) := .tm (.i 9) trivial
    simp only [List.mem_cons, List.not_mem_nil, or_false] at hd
    rcases hd with rfl | rfl | rfl | rfl | rfl | rfl
    · exact .tup (by show 3 ≤ 5; decide) fun x hx => by simp only [List.mem_cons, List.not_mem_nil, or_false] at hx; rcases hx with rfl | rfl | rfl <;> assumption
    · exact .tup (by show 3 ≤ 5; decide) fun x hx => by simp only [List.mem_cons, List.not_mem_nil, or_false] at hx; rcases hx with rfl | rfl | rfl <;> assumption
    · exact .tup (by show 3 ≤ 5; decide) fun x hx => by simp only [List.mem_cons, List.not_mem_nil, or_false] at hx; rcases hx with rfl | rfl | rfl <;> assumption
    · exact .tup (by show 3 ≤ 5; decide) fun x hx => by simp only [List.mem_cons, List.not_mem_nil, or_false] at hx; rcases hx with rfl | rfl | rfl <;> assumption
    · exact .tup (by show 2 ≤ 5; decide) fun x hx => by simp only [List.mem_cons, List.not_mem_nil, or_false] at hx; rcases hx with rfl | rfl <;> assumption
    · exact .lst (by show 3 ≤ 5; decide) fun x hx => by simp only [List.mem_cons, List.not_mem_nil, or_false] at hx; rcases hx with rfl | rfl | rfl <;> assumption
  conv => whnf
  refine ⟨one, ?_⟩
  conv => whnf
  rw [cut_init]
  refine ⟨by rw [List.length_dropLast, sizeLine_eq]; show ch.length - 1 + 1 ≤ _; omega, ?_⟩
  conv => whnf
  refine ⟨by rw [List.length_map, List.length_append, sizeLine_eq]; show L.length + 1 < _; omega, ?_⟩
  have z := hN cs2 (ch.dropLast ++ [d]) (some f.1.d) (some (.str f.2.1)) (some f.2.2.d) (some (.lst [.tup [f.2.2.d, .str f.2.1, f.1.d], .tup [f.1.d, .str "<", f.2.2.d], .tup [f.1.d, .str "=", f.2.2.d], .tup [f.1.d, .str f.2.1, .int 9], .tup [f.1.d, .str f.2.1]])) hcs2 ⟨by rw [List.length_append, List.length_dropLast]; show ch.length - 1 + 1 ≤ _; omega, fun x hx => ?_⟩
  · rw [← app2] at z
    exact z
  · rcases List.mem_append.mp hx with hx | hx
    · exact (hch x (List.dropLast_subset _ hx)).item
    · cases List.mem_singleton.mp hx
      exact id_
/-- one turn of the ten -/
theorem ch_turn {cs : List Int} {t j : Int} {L G : List (List D)} {Fs : List D} {Fd : D} {d4 x5 x6 x7 x8 x9 x10 x11 x12 : Option D} {E : DE} (hcs : okC cs) (ht : okT t) (h0 : 0 ≤ j) (h1 : j ≤ 150000) (ne : Fs ≠ []) (hz : Fs.length ≤ 5) (hF : ∀ d ∈ Fs, FD d) (hL : L.length ≤ 1000) (hLc : ∀ its ∈ L, Chain its) (hG : ∀ l ∈ G, ∀ n, ClL n l)
    (hN : ∀ cs' j' c1 c2 g x5 x6 x7 x8 x9 x10 x11, okC cs' → j ≤ j' → j' ≤ j + 20 → Chain c1 → Chain c2 → (∀ n, ClL n g) → E.nx [some (.ref 0), some Fd, some (.tup Fs), some (.ref 2), d4, x5, x6, x7, x8, x9, x10, x11, x12] (chH cs' t j' (L ++ [c1] ++ [c2]) (G ++ [g]))) :
    (cSeq (cPar 5 6 (cB dListM (cCons (cVar 2) cNil)) (cTup cNil))
  (cSeq (cFor (ciRange1 (cBin dAdd (cC (.int 1)) (cCall (T__law_draw K) [] (cCons (cVar 0) (cCons (cB dLen (cCons (cVar 2) cNil)) cNil))))) (cgName 7) (cAsg (cBin dAdd (cVar 6) (cTup (cCons (cBM "list" dPop (cVar 5) (cCons (cCall (T__law_draw K) [] (cCons (cVar 0) (cCons (cB dLen (cCons (cVar 5) cNil)) cNil))) cNil)) cNil))) (cgName 6)))
  (cSeq (cDrop (cBM "list" dAppend (cVar 3) (cCons (cVar 6) cNil)))
  (cSeq (cAsg (cCall (T__law_pick K) [] (cCons (cVar 0) (cCons (cVar 6) cNil))) (cgTup 3 (cgsCons (cgName 8) (cgsCons (cgName 9) (cgsCons (cgName 10) cgsNil)))))
  (cSeq (cAsg (cLst (cCons (cTup (cCons (cVar 10) (cCons (cVar 9) (cCons (cVar 8) cNil)))) (cCons (cTup (cCons (cVar 8) (cCons (cC (.str ("<" : PySem.Str))) (cCons (cVar 10) cNil)))) (cCons (cTup (cCons (cVar 8) (cCons (cC (.str ("=" : PySem.Str))) (cCons (cVar 10) cNil)))) (cCons (cTup (cCons (cVar 8) (cCons (cVar 9) (cCons (cC (.int 9)) cNil)))) (cCons (cTup (cCons (cVar 8) (cCons (cVar 9) cNil))) cNil)))))) (cgName 11))
  (cDrop (cBM "list" dAppend (cVar 3) (cCons (cBin dAdd (cSl dSl (cVar 6) cNoP (cPart (cC (.int (-1))))) (cTup (cCons (cCall (T__law_pick K) [] (cCons (cVar 0) (cCons (cBin dAdd (cVar 11) (cLst (cCons (cLst (cCons (cVar 8) (cCons (cVar 9) (cCons (cVar 10) cNil)))) cNil))) cNil))) cNil))) cNil)))))))) E
      [some (.ref 0), some Fd, some (.tup Fs), some (.ref 2), d4, x5, x6, x7, x8, x9, x10, x11, x12] (chH cs t j L G) := by
  have hp : 0 < Fs.length := List.length_pos_iff.mpr ne
  have eG := len_chH cs t j L G
  conv => whnf
  refine ⟨by decide, ?_⟩
  conv => whnf
  refine ⟨cs, t, j, ((Fs.length : Nat) : Int), (L.map D.tup :: G).map O.lst ++ [.lst Fs], by unfold chH; rw [List.append_assoc], rfl, by omega, by omega, hcs, ht, ⟨h0, by omega⟩, fun r1 cs1 r10 r11 hcs1 => ?_⟩
  conv => whnf
  refine ⟨by omega, by omega, ?_⟩
  rw [eG]
  refine for_ok (fun m σ h => ∃ cs2 j2 left ch x7, h = chH cs2 t j2 L G ++ [.lst (left : List D)] ∧ okC cs2 ∧ j ≤ j2 ∧ j2 ≤ j + 1 + (m : Int) ∧ left.length + m = Fs.length ∧ ch.length = m ∧ (∀ d ∈ left, FD d) ∧ (∀ d ∈ ch, FD d) ∧ σ = [some (.ref 0), some Fd, some (.tup Fs), some (.ref 2), d4, some (.ref (3 + G.length)), some (.tup (ch : List D)), x7, x8, x9, x10, x11, x12]) (fun m σ h i => trivial) (fun σ h i => ?_) (fun m d1 σ h em i N1 hN1 => ?_) ⟨cs1, j + 1, Fs, [], x7, ?_, hcs1, by omega, by omega, rfl, rfl, hF, (fun d hd => by cases hd), rfl⟩
  · obtain ⟨cs2, j2, left, ch, x7, rfl, k1, k2, k3, k4, k5, k6, k7, rfl⟩ := i
    have lr : (rangeD 0 (1 + r1).toNat).length = (1 + r1).toNat := by simp [rangeD]
    rw [lr] at k3 k4 k5
    rw [app_chH]
    refine ch_tail K k1 ht (by omega) (by omega) (fun z => by subst z; have : 0 = (1 + r1).toNat := k5; omega) (by omega) k7 hL (fun cs' c1 y8 y9 y10 y11 q1 q2 => ?_)
    exact hN cs' (j2 + 1 + 1) ch c1 left _ _ _ _ _ _ _ q1 (by omega) (by omega) (chain_FD (by omega) k7) q2 (fun n => cl_all fun d hd => cl_item (k6 d hd).item)
  · obtain ⟨cs2, j2, left, ch, x7, rfl, k1, k2, k3, k4, k5, k6, k7, rfl⟩ := i
    have hm : m < (1 + r1).toNat := by
      have := (List.getElem?_eq_some_iff.mp em).1
      simpa [rangeD] using this
    dsimp only [cgName]
    refine ch_inner K k1 ht (by omega) (by omega) (fun z => by subst z; have : 0 + m = Fs.length := k4; omega) (by omega) (by omega) (fun cs' k y q1 q2 => ?_)
    refine hN1 _ _ ⟨cs', j2 + 1, left.eraseIdx k, ch ++ [y], _, rfl, q1, by omega, by omega, ?_, by rw [List.length_append, k5]; rfl, fun d hd => k6 d (List.mem_of_mem_eraseIdx hd), fun d hd => ?_, rfl⟩
    · have := (List.getElem?_eq_some_iff.mp q2).1
      rw [List.length_eraseIdx, if_pos this]
      omega
    · rcases List.mem_append.mp hd with hd | hd
      · exact k7 d hd
      · cases List.mem_singleton.mp hd
        exact k6 _ (List.mem_of_getElem? q2)
  · unfold chH
    rw [List.append_assoc]
end
end K69

namespace K69
open PySem PySem.Spec PyProof.Rows L2 TL
theorem appl (cs : List Int) (t j : Int) (L G : List (List D)) (M : List (List D)) : (chH cs t j L G).set 2 (.lst (L.map D.tup ++ M.map D.tup)) = chH cs t j (L ++ M) G := by
  unfold chH
  rw [List.map_append]
  rfl
theorem chain2 {c d : List D} (a : Chain c) (b : Chain d) (hz : c.length + d.length ≤ 5000) : Chain (c ++ d) := ⟨by rw [List.length_append]; exact hz, fun x hx => (List.mem_append.mp hx).elim (a.2 x) (b.2 x)⟩
theorem chain1 {d : D} (a : Item d) : Chain [d] := ⟨by show 1 ≤ 5000; decide, fun x hx => by cases List.mem_singleton.mp hx; exact a⟩
theorem chain_rep {c : List D} (n : Nat) (a : Chain c) (hz : n * c.length ≤ 5000) : Chain (List.replicate n c).flatten := ⟨by rw [List.length_flatten, List.map_replicate, List.sum_replicate_nat]; exact hz, fun x hx => by
  obtain ⟨l, hl, hx⟩ := List.mem_flatten.mp hx
  rw [List.eq_of_mem_replicate hl] at hx
  exact a.2 x hx⟩
section
variable (K : PySem.W.Frag)
/-- the pairs of one fact with each -/
theorem ch_pairs {cs : List Int} {t j : Int} {L G : List (List D)} {F : List Fact} {f : Fact} {S d4 x5 x6 x7 x9 x10 x11 x12 : Option D} {E : DE} (hF : ∀ f ∈ F, okFact f) (hf : okFact f) (hz : F.length ≤ 5) (hL : L.length ≤ 500) (hLc : ∀ its ∈ L, Chain its) (hG : ∀ l ∈ G, ∀ n, ClL n l)
    (hN : ∀ M : List (List D), (∀ its ∈ M, Chain its) → M.length ≤ 7 → E.nx [some (.ref 0), some (.lst (F.map fd)), S, some (.ref 2), d4, x5, x6, x7, some (fd f), x9, x10, x11, x12] (chH cs t j (L ++ M) G)) :
    (cDrop (cBM "list" dExtend (cVar 3) (cCons (cBin dAdd (cLst (cCons (cTup (cCons (cVar 8) cNil)) (cCons (cTup (cCons (cVar 8) (cCons (cVar 8) cNil))) cNil))) (jLc (ciSeq (cVar 1)) (cgName 10) cYes (cTup (cCons (cVar 8) (cCons (cVar 10) cNil))) [10])) cNil))) E
      [some (.ref 0), some (.lst (F.map fd)), S, some (.ref 2), d4, x5, x6, x7, some (fd f), x9, x10, x11, x12] (chH cs t j L G) := by
  conv => whnf
  refine ⟨⟨rfl, rfl⟩, ?_⟩
  conv => whnf
  refine ⟨one, ?_⟩
  conv => whnf
  refine ⟨two, ?_⟩
  conv => whnf
  refine ⟨two, ?_⟩
  refine jlc_rel fd (fun g => .tup [fd f, fd g]) F (fun _ p => p) (fun _ => rfl) (hcl_chH hLc hG) (fun g hg acc P k => ?_) (by rw [sizeLine_eq]; omega) (cl_all fun d hd => ?_) ?_
  · exact ⟨two, k⟩
  · obtain ⟨g, _, rfl⟩ := List.mem_map.mp hd
    exact ⟨cl_fd _ _, cl_fd _ _, trivial⟩
  · skip
    have eM : [D.tup [fd f], .tup [fd f, fd f]] ++ F.map (fun g => D.tup [fd f, fd g]) = (([[fd f], [fd f, fd f]] : List (List D)) ++ F.map (fun g => [fd f, fd g])).map D.tup := by
      rw [List.map_append, List.map_map]
      rfl
    have lM : ((([[fd f], [fd f, fd f]] : List (List D)) ++ F.map (fun g => [fd f, fd g]))).length ≤ 7 := by
      rw [List.length_append, List.length_map]
      show 2 + F.length ≤ 7
      omega
    conv => whnf
    refine ⟨by rw [List.length_map, sizeLine_eq]; show 2 + F.length ≤ _; omega, ?_⟩
    conv => whnf
    refine ⟨?_, ?_⟩
    · show (L.map D.tup).length + ([D.tup [fd f], .tup [fd f, fd f]] ++ F.map (fun g => D.tup [fd f, fd g])).length ≤ sizeLine
      rw [eM, List.length_map, List.length_map, sizeLine_eq]
      omega
    · have z := hN _ (fun its hi => ?_) lM
      · rw [← appl, ← eM] at z
        exact z
      · rcases List.mem_append.mp hi with hi | hi
        · simp only [List.mem_cons, List.not_mem_nil, or_false] at hi
          rcases hi with rfl | rfl
          · exact chain1 (item_f hf)
          · exact chain2 (c := [fd f]) (chain1 (item_f hf)) (chain1 (item_f hf)) (by show 1 + 1 ≤ 5000; decide)
        · obtain ⟨g, hg, rfl⟩ := List.mem_map.mp hi
          exact chain2 (c := [fd f]) (chain1 (item_f hf)) (chain1 (item_f (hF g hg))) (by show 1 + 1 ≤ 5000; decide)
/-- the last part: long chains -/
theorem ch_last {cs : List Int} {t j : Int} {L G : List (List D)} {F : List Fact} {d4 x5 x6 x7 x8 x9 x10 x11 x12 : Option D} {Q : KD} {h0' : DH} (hcs : okC cs) (ht : okT t) (h0 : 0 ≤ j) (h1 : j ≤ 200000) (hF : ∀ f ∈ F, okFact f) (ne : F ≠ []) (hz : F.length ≤ 5) (hL : L.length ≤ 500) (hLc : ∀ its ∈ L, Chain its) (hG : ∀ l ∈ G, ∀ n, ClL n l) (hh : h0'.length = 2)
    (q : ∀ (M : List (List D)) cs' j', (∀ its ∈ M, Chain its) → M.length ≤ 1000 → okC cs' → j ≤ j' → j' ≤ j + 2 → Q (.lst (M.map D.tup)) (dk cs' t j')) :
    (cSeq (cAsg (cTup (cCons (cCall (T__law_pick K) [] (cCons (cVar 0) (cCons (cVar 1) cNil))) (cCons (cCall (T__law_pick K) [] (cCons (cVar 0) (cCons (cLst (cCons (cC (.int 40)) (cCons (cC (.int 40)) (cCons (cC (.int 40)) (cCons (cC (.int 400)) (cCons (cC (.int 1400)) cNil)))))) cNil))) cNil))) (cgTup 2 (cgsCons (cgName 8) (cgsCons (cgName 12) cgsNil))))
  (cSeq (cDrop (cBM "list" dExtend (cVar 3) (cCons (cBin dAdd (jLc (ciSeq (cVar 1)) (cgName 10) cYes (cBin dAdd (cBin dMul (cTup (cCons (cVar 8) cNil)) (cVar 12)) (cTup (cCons (cVar 10) cNil))) [10]) (jLc (ciSeq (cVar 1)) (cgName 10) cYes (cBin dAdd (cBin dMul (cTup (cCons (cVar 8) cNil)) (cBin dAdd (cVar 12) (cC (.int 1)))) (cTup (cCons (cVar 10) cNil))) [10])) cNil)))
  (cRet (cBin dAdd (cBin dAdd (cVar 3) (cLst (cCons (cBin dMul (cTup (cCons (cVar 8) cNil)) (cVar 12)) (cCons (cBin dMul (cTup (cCons (cVar 8) cNil)) (cBin dAdd (cVar 12) (cC (.int 1)))) (cCons (cBin dMul (cVar 2) (cBin dDiv (cVar 12) (cC (.int 4)))) cNil))))) (jLc (ciSeq (cVar 1)) (cgName 10) cYes (cBin dMul (cTup (cCons (cVar 8) (cCons (cVar 10) cNil))) (cVar 12)) [10]))))) (Er h0' Q)
      [some (.ref 0), some (.lst (F.map fd)), some (.tup (F.map fd)), some (.ref 2), d4, x5, x6, x7, x8, x9, x10, x11, x12] (chH cs t j L G) := by
  have lF : (F.map fd).length = F.length := List.length_map _
  conv => whnf
  refine ⟨cs, t, j, _, F.map fd, (L.map D.tup :: G).map O.lst, rfl, rfl, rfl, (fun z => ne (List.map_eq_nil_iff.mp z)), by omega, hcs, ht, ⟨h0, by omega⟩, fun d cs1 hd hcs1 => ?_⟩
  obtain ⟨f, hf, rfl⟩ := List.mem_map.mp hd
  conv => whnf
  refine ⟨by show 5 ≤ sizeLine; decide, ?_⟩
  conv => whnf
  refine ⟨cs1, t, j + 1, _, [.int 40, .int 40, .int 40, .int 400, .int 1400], (L.map D.tup :: G).map O.lst, rfl, rfl, rfl, (fun z => by cases z), by show 5 ≤ 5000; decide, hcs1, ht, ⟨by omega, by omega⟩, fun d2 cs2 hd2 hcs2 => ?_⟩
  obtain ⟨m, rfl, m0, m1⟩ : ∃ m : Int, d2 = .int m ∧ 40 ≤ m ∧ m ≤ 1400 := by
    simp only [List.mem_cons, List.not_mem_nil, or_false] at hd2
    rcases hd2 with rfl | rfl | rfl | rfl | rfl <;> exact ⟨_, rfl, by decide, by decide⟩
  conv => whnf
  refine ⟨two, ?_⟩
  conv => whnf
  refine ⟨rfl, ?_⟩
  conv => whnf
  refine ⟨⟨rfl, rfl⟩, ?_⟩
  have lR : ∀ n : Nat, (List.replicate n [fd f]).flatten.length = n := fun n => by rw [List.length_flatten, List.map_replicate, List.sum_replicate_nat]; exact Nat.mul_one n
  have cR : ∀ n : Nat, n ≤ 5000 → Chain (List.replicate n [fd f]).flatten := fun n hn => chain_rep n (chain1 (item_f (hF f hf))) (by show n * 1 ≤ 5000; omega)
  have clR : ∀ (n : Nat) (k : Nat), ClL k (List.replicate n [fd f]).flatten := fun n k => cl_all fun d hd => by
    obtain ⟨l, hl, hd⟩ := List.mem_flatten.mp hd
    rw [List.eq_of_mem_replicate hl] at hd
    cases List.mem_singleton.mp hd
    exact cl_fd _ _
  have comp : ∀ (n : Int) (Q' : KD) (cm : CE), 40 ≤ n → n ≤ 1401 → (∀ (h : DH) (d : D) (P : KD), P (.int n) h → cm [some (.ref 0), some (.lst (F.map fd)), some (.tup (F.map fd)), some (.ref 2), d4, x5, x6, x7, some (fd f), x9, some d, x11, some (.int m)] h P) → Q' (.lst (F.map fun g => .tup ((List.replicate n.toNat [fd f]).flatten ++ [fd g]))) (chH cs2 t (j + 1 + 1) L G) →
      jLc (ciSeq (cVar 1)) (cgName 10) cYes (cBin dAdd (cBin dMul (cTup (cCons (cVar 8) cNil)) cm) (cTup (cCons (cVar 10) cNil))) [10] [some (.ref 0), some (.lst (F.map fd)), some (.tup (F.map fd)), some (.ref 2), d4, x5, x6, x7, some (fd f), x9, x10, x11, some (.int m)] (chH cs2 t (j + 1 + 1) L G) Q' := by
    intro n Q' cm n0 n1 hcm k
    refine jlc_rel fd (fun g => .tup ((List.replicate n.toNat [fd f]).flatten ++ [fd g])) F (fun _ p => p) (fun _ => rfl) (hcl_chH hLc hG) (fun g hg acc P k => ?_) (by rw [sizeLine_eq]; omega) (cl_all fun d hd => ?_) k
    · conv => whnf
      refine ⟨one, ?_⟩
      refine hcm _ (fd g) _ ?_
      conv => whnf
      refine ⟨fun z => (by cases z), by omega, by omega, by show 1 ≤ 10; decide, ?_⟩
      refine ⟨one, ?_⟩
      conv => whnf
      refine ⟨by rw [lR, sizeLine_eq]; show n.toNat + 1 ≤ _; omega, ?_⟩
      exact k
    · obtain ⟨g, hg, rfl⟩ := List.mem_map.mp hd
      exact cl_its (chain2 (cR n.toNat (by omega)) (chain1 (item_f (hF g hg))) (by rw [lR]; show n.toNat + 1 ≤ 5000; omega))
  conv => whnf
  refine comp m _ _ m0 (by omega) (fun h d P k => k) ?_
  conv => whnf
  refine comp (m + 1) _ _ (by omega) (by omega) (fun h d P k => k) ?_
  conv => whnf
  refine ⟨by rw [List.length_map, sizeLine_eq, List.length_map]; omega, ?_⟩
  conv => whnf
  refine ⟨by rw [List.length_map, List.length_append, sizeLine_eq, List.length_map, List.length_map]; omega, ?_⟩
  obtain ⟨M, eM⟩ : ∃ M : List (List D), M = F.map (fun g => (List.replicate m.toNat [fd f]).flatten ++ [fd g]) ++ F.map (fun g => (List.replicate (m + 1).toNat [fd f]).flatten ++ [fd g]) := ⟨_, rfl⟩
  have hM : ∀ its ∈ M, Chain its := fun its hi => by
    rw [eM] at hi
    rcases List.mem_append.mp hi with hi | hi
    · obtain ⟨g, hg, rfl⟩ := List.mem_map.mp hi
      exact chain2 (cR m.toNat (by omega)) (chain1 (item_f (hF g hg))) (by rw [lR]; show m.toNat + 1 ≤ 5000; omega)
    · obtain ⟨g, hg, rfl⟩ := List.mem_map.mp hi
      exact chain2 (cR (m + 1).toNat (by omega)) (chain1 (item_f (hF g hg))) (by rw [lR]; show (m + 1).toNat + 1 ≤ 5000; omega)
  have lM : M.length ≤ 10 := by rw [eM, List.length_append, List.length_map, List.length_map]; omega
  have eM1 : F.map (fun g => D.tup ((List.replicate m.toNat [fd f]).flatten ++ [fd g])) ++ F.map (fun g => D.tup ((List.replicate (m + 1).toNat [fd f]).flatten ++ [fd g])) = M.map D.tup := by
    rw [eM, List.map_append, List.map_map, List.map_map]; rfl
  refine toH (chH cs2 t (j + 1 + 1) (L ++ M) G) ((congrArg (fun l => (chH cs2 t (j + 1 + 1) L G).set 2 (.lst (L.map D.tup ++ l))) eM1).trans (appl ..)) ?_
  have m4 : m.fdiv 4 = m / 4 := Int.fdiv_eq_ediv_of_nonneg m (by decide)
  conv => whnf
  refine ⟨one, ?_⟩
  conv => whnf
  refine ⟨fun z => (by cases z), by omega, by omega, by show 1 ≤ 10; decide, ?_⟩
  refine ⟨one, ?_⟩
  conv => whnf
  refine ⟨fun z => (by cases z), by omega, by omega, by show 1 ≤ 10; decide, ?_⟩
  conv => whnf
  refine ⟨⟨by decide, by decide⟩, ?_⟩
  conv => whnf
  refine ⟨fun z => ne (List.map_eq_nil_iff.mp z), by show 2 ≤ m.fdiv 4; rw [m4]; omega, by show m.fdiv 4 ≤ 100000; rw [m4]; omega, by omega, ?_⟩
  conv => whnf
  refine ⟨three, ?_⟩
  conv => whnf
  refine ⟨by rw [List.length_map, List.length_append, sizeLine_eq]; show L.length + M.length + 3 ≤ _; omega, ?_⟩
  have clP : ∀ g ∈ F, Chain (List.replicate m.toNat [fd f, fd g]).flatten := fun g hg => chain_rep m.toNat (chain2 (c := [fd f]) (chain1 (item_f (hF f hf))) (chain1 (item_f (hF g hg))) (by show 1 + 1 ≤ 5000; decide)) (by show m.toNat * 2 ≤ 5000; omega)
  refine jlc_rel fd (fun g => .tup (List.replicate m.toNat [fd f, fd g]).flatten) F (fun _ p => p) (fun _ => rfl) (hcl_chH (fun its hi => (List.mem_append.mp hi).elim (hLc its) (hM its)) hG) (fun g hg acc P k => ?_) (by rw [sizeLine_eq]; omega) (cl_all fun d hd => ?_) ?_
  · conv => whnf
    refine ⟨two, ?_⟩
    conv => whnf
    exact ⟨fun z => (by cases z), by omega, by omega, by show 2 ≤ 10; decide, k⟩
  · obtain ⟨g, hg, rfl⟩ := List.mem_map.mp hd
    exact cl_its (clP g hg)
  have eAll : (((L ++ M).map D.tup ++ [D.tup (List.replicate m.toNat [fd f]).flatten, .tup (List.replicate (m + 1).toNat [fd f]).flatten, .tup (List.replicate (m.fdiv 4).toNat (F.map fd)).flatten]) ++ F.map (fun g => D.tup (List.replicate m.toNat [fd f, fd g]).flatten)) = (((L ++ M) ++ [(List.replicate m.toNat [fd f]).flatten, (List.replicate (m + 1).toNat [fd f]).flatten, (List.replicate (m.fdiv 4).toNat (F.map fd)).flatten]) ++ F.map (fun g => (List.replicate m.toNat [fd f, fd g]).flatten)).map D.tup := by
    simp only [List.map_append, List.map_map]
    rfl
  have hAll : ∀ its ∈ ((L ++ M) ++ [(List.replicate m.toNat [fd f]).flatten, (List.replicate (m + 1).toNat [fd f]).flatten, (List.replicate (m.fdiv 4).toNat (F.map fd)).flatten]) ++ F.map (fun g => (List.replicate m.toNat [fd f, fd g]).flatten), Chain its := fun its hi => by
    rcases List.mem_append.mp hi with hi | hi
    · rcases List.mem_append.mp hi with hi | hi
      · exact (List.mem_append.mp hi).elim (hLc its) (hM its)
      · simp only [List.mem_cons, List.not_mem_nil, or_false] at hi
        rcases hi with rfl | rfl | rfl
        · exact cR _ (by omega)
        · exact cR _ (by omega)
        · refine chain_rep _ ⟨by omega, fun d hd => ?_⟩ ?_
          · obtain ⟨g, hg, rfl⟩ := List.mem_map.mp hd
            exact item_f (hF g hg)
          · rw [lF, m4]
            have h1 : (m / 4).toNat ≤ 350 := by omega
            exact Nat.le_trans (Nat.mul_le_mul h1 hz) (by decide)
    · obtain ⟨g, hg, rfl⟩ := List.mem_map.mp hi
      exact clP g hg
  have lAll : (((L ++ M) ++ [(List.replicate m.toNat [fd f]).flatten, (List.replicate (m + 1).toNat [fd f]).flatten, (List.replicate (m.fdiv 4).toNat (F.map fd)).flatten]) ++ F.map (fun g => (List.replicate m.toNat [fd f, fd g]).flatten)).length ≤ 600 := by
    rw [List.length_append, List.length_append, List.length_append, List.length_map]
    show L.length + M.length + 3 + F.length ≤ 600
    omega
  generalize ((L ++ M) ++ [(List.replicate m.toNat [fd f]).flatten, (List.replicate (m + 1).toNat [fd f]).flatten, (List.replicate (m.fdiv 4).toNat (F.map fd)).flatten]) ++ F.map (fun g => (List.replicate m.toNat [fd f, fd g]).flatten) = N at eAll hAll lAll
  conv => whnf
  refine ⟨?_, .inr ⟨dk cs2 t (j + 1 + 1), ((L ++ M).map D.tup :: G).map O.lst, _, rfl, by rw [hh]; exact Nat.le_refl _, hcl_dk _ _ _, .same ?_, ?_⟩⟩
  · show (((L ++ M).map D.tup ++ [D.tup (List.replicate m.toNat [fd f]).flatten, .tup (List.replicate (m + 1).toNat [fd f]).flatten, .tup (List.replicate (m.fdiv 4).toNat (F.map fd)).flatten])).length + (F.map (fun g => D.tup (List.replicate m.toNat [fd f, fd g]).flatten)).length ≤ sizeLine
    rw [← List.length_append, eAll, List.length_map, sizeLine_eq]
    omega
  · show ClL 2 ((((L ++ M).map D.tup ++ [D.tup (List.replicate m.toNat [fd f]).flatten, .tup (List.replicate (m + 1).toNat [fd f]).flatten, .tup (List.replicate (m.fdiv 4).toNat (F.map fd)).flatten])) ++ (F.map (fun g => D.tup (List.replicate m.toNat [fd f, fd g]).flatten)))
    rw [eAll]
    exact cl_all fun d hd => by
      obtain ⟨its, hi, rfl⟩ := List.mem_map.mp hd
      exact cl_its (hAll its hi)
  · have z := q N cs2 (j + 1 + 1) hAll (by omega) hcs2 (by omega) (by omega)
    rw [← eAll] at z
    exact z
theorem pl__law_chains : Pl (T__law_chains K) (c__law_chains K) N__law_chains := by
  rintro ds h Q hc hl ⟨cs, t, j, F, rfl, rfl, hF, hcs, ht, h0, h1, q⟩
  have lF : (F.map fd).length = F.length := List.length_map _
  have hz : F.length ≤ 5 := hF.2.1
  have hFD : ∀ d ∈ F.map fd, FD d := fun d hd => by
    obtain ⟨f, hf, rfl⟩ := List.mem_map.mp hd
    exact ⟨f, hF.2.2 f hf, rfl⟩
  conv => whnf
  refine ⟨by decide, ?_⟩
  conv => whnf
  refine ⟨by rw [lF, sizeLine_eq]; omega, ?_⟩
  conv => whnf
  refine ⟨by show 6 ≤ sizeLine; decide, ?_⟩
  conv => whnf
  refine ⟨by decide, by decide, ?_⟩
  refine for_ok (fun k σ h => ∃ cs' j' L G x4 x5 x6 x7 x8 x9 x10 x11 x12, h = chH cs' t j' L G ∧ okC cs' ∧ 0 ≤ j' ∧ j' ≤ j + 20 * (k : Int) ∧ L.length ≤ 6 + 2 * k ∧ (∀ its ∈ L, Chain its) ∧ (∀ l ∈ G, ∀ n, ClL n l) ∧ σ = [some (.ref 0), some (.lst (F.map fd)), some (.tup (F.map fd)), some (.ref 2), x4, x5, x6, x7, x8, x9, x10, x11, x12]) (fun k σ h i => trivial) (fun σ h i => ?_) (fun k d σ h ek i N hN => ?_) ⟨cs, j, [F.map fd, (F.map fd).reverse, [], F.map fd ++ F.map fd, TL.cutD (F.map fd) (some 1) none, TL.cutD (F.map fd) none (some (-1))], [], _, _, _, _, _, _, _, _, _, rfl, hcs, h0, by omega, (by show 6 ≤ 6 + 2 * 0; decide), ?_, (fun l hl => by cases hl), rfl⟩
  · obtain ⟨cs', j', L, G, x4, x5, x6, x7, x8, x9, x10, x11, x12, rfl, i1, i2, i3, i4, i5, i6, rfl⟩ := i
    have l10 : (rangeD 0 (10 : Int).toNat).length = 10 := by simp [rangeD]
    rw [l10] at i3 i4
    conv => whnf
    refine for_ok (fun k σ h => ∃ L' x8 x10, h = chH cs' t j' L' G ∧ L'.length ≤ 26 + 7 * k ∧ (∀ its ∈ L', Chain its) ∧ σ = [some (.ref 0), some (.lst (F.map fd)), some (.tup (F.map fd)), some (.ref 2), x4, x5, x6, x7, x8, x9, x10, x11, x12]) (fun k σ h i => rfl) (fun σ h i => ?_) (fun k d σ h ek i N hN => ?_) ⟨L, x8, x10, rfl, by omega, i5, rfl⟩
    · obtain ⟨L', x8, x10, rfl, k1, k2, rfl⟩ := i
      rw [lF] at k1
      refine ch_last K i1 ht i2 (by omega) hF.2.2 hF.1 hz (by omega) k2 i6 rfl (fun M cs2 j2 q1 q2 q3 q4 q5 => ?_)
      exact q M cs2 j2 q1 q2 q3 (by omega) (by omega)
    · obtain ⟨L', x8, x10, rfl, k1, k2, rfl⟩ := i
      have hk : k < F.length := by
        have := (List.getElem?_eq_some_iff.mp ek).1
        omega
      obtain ⟨f, hf, rfl⟩ := List.mem_map.mp (List.mem_of_getElem? ek)
      dsimp only [cgName]
      refine ch_pairs hF.2.2 (hF.2.2 f hf) hz (by omega) k2 i6 (fun M m1 m2 => ?_)
      exact hN _ _ ⟨L' ++ M, _, _, rfl, by rw [List.length_append]; omega, fun its hi => (List.mem_append.mp hi).elim (k2 its) (m1 its), rfl⟩
  · obtain ⟨cs', j', L, G, x4, x5, x6, x7, x8, x9, x10, x11, x12, rfl, i1, i2, i3, i4, i5, i6, rfl⟩ := i
    have hk : k < 10 := by
      have := (List.getElem?_eq_some_iff.mp ek).1
      simp [rangeD] at this
      omega
    dsimp only [cgName]
    refine ch_turn K i1 ht i2 (by omega) (fun z => hF.1 (List.map_eq_nil_iff.mp z)) (by omega) hFD (by omega) i5 i6 (fun cs2 j2 c1 c2 g y5 y6 y7 y8 y9 y10 y11 q1 q2 q3 q4 q5 q6 => ?_)
    refine hN _ _ ⟨cs2, j2, L ++ [c1] ++ [c2], G ++ [g], _, _, _, _, _, _, _, _, _, rfl, q1, by omega, by omega, ?_, fun its hi => ?_, fun l hl => ?_, rfl⟩
    · rw [List.length_append, List.length_append]
      show L.length + 1 + 1 ≤ _
      omega
    · rcases List.mem_append.mp hi with hi | hi
      · rcases List.mem_append.mp hi with hi | hi
        · exact i5 its hi
        · cases List.mem_singleton.mp hi
          exact q4
      · cases List.mem_singleton.mp hi
        exact q5
    · rcases List.mem_append.mp hl with hl | hl
      · exact i6 l hl
      · cases List.mem_singleton.mp hl
        exact q6
  · intro its hm
    simp only [List.mem_cons, List.not_mem_nil, or_false] at hm
    rcases hm with rfl | rfl | rfl | rfl | rfl | rfl
    · exact chain_FD (by rw [lF]; omega) hFD
    · exact chain_FD (by rw [List.length_reverse, lF]; omega) fun d hd => hFD d (List.mem_reverse.mp hd)
    · exact chain_FD (by decide) fun d hd => by cases hd
    · exact chain_FD (by rw [List.length_append, lF]; omega) fun d hd => (List.mem_append.mp hd).elim (hFD d) (hFD d)
    · rw [cut_tail]
      exact chain_FD (by rw [List.length_drop, lF]; omega) fun d hd => hFD d (List.mem_of_mem_drop hd)
    · rw [cut_init]
      exact chain_FD (by rw [List.length_dropLast, lF]; omega) fun d hd => hFD d (List.dropLast_subset _ hd)
end
end K69

namespace K69
open PySem PySem.Spec PyProof.Rows L2 TL
theorem ok_all {l : List PySem.Str} (h : (l.all fun z => nameS z && (decide (z.length ≤ 1000) && PyData.strOk z)) = true) : ∀ z ∈ l, nameS z = true ∧ okS z := fun z hz => by
  have := List.all_eq_true.mp h z hz
  rw [Bool.and_eq_true, Bool.and_eq_true] at this
  exact ⟨this.1, of_decide_eq_true this.2.1, this.2.2⟩
theorem okTab_t : okTab "t" ["a", "b"] ["p", "q"] [] := ⟨by decide +kernel, by decide, ok_all (by decide +kernel), by decide, by decide, by decide, by decide, by decide, by decide, by decide⟩
theorem okTab_s {ky : List PySem.Str} (h : okKy ky) : okTab "s" ["c", "d"] ["r", "w"] ky := by
  rcases h with rfl | rfl <;> exact ⟨by decide +kernel, by decide, ok_all (by decide +kernel), by decide, by decide, by decide, by decide, by decide, by decide, by decide⟩
theorem agr_rt {a : Col} {b : Rt} (h : okRt a b) : Agr b.t := by
  cases b with
  | nm x => rcases h with rfl | rfl <;> (unfold Agr; decide +kernel)
  | num n => rfl
  | col c => cases c <;> (unfold Agr; decide +kernel)
theorem agr_c (c : Col) : Agr (.s c.s) := by cases c <;> (unfold Agr; decide +kernel)
theorem agr_F {qs : List Cond} (h : ∀ c ∈ qs, c.ok ∧ c.a.one = true) : ∀ g ∈ qs.map Cond.f, Agr g.1 ∧ Agr g.2.2 := fun g hg => by
  obtain ⟨c, hc, rfl⟩ := List.mem_map.mp hg
  unfold Cond.f
  split
  · exact ⟨agr_rt (h c hc).1.1, agr_c _⟩
  · exact ⟨agr_c _, agr_rt (h c hc).1.1⟩
section
variable (K : PySem.W.Frag)
theorem cl_tabF (n : Nat) (nm : PySem.Str) (ns us ky : List PySem.Str) : ClF n (tabF nm ns us ky) := ⟨trivial, cl_strs _, cl_strs _, cl_strs _, trivial⟩
theorem cl_uses (n : Nat) (o : Bool) : Cl n (usesD o) := by cases o <;> simp [usesD, TL.Cl, TL.ClL]
theorem cl_keep (n : Nat) (o : Bool) : Cl n (keepD o) := by cases o <;> simp [keepD, TL.Cl, TL.ClL]
theorem cl_selF (n : Nat) (o : Bool) (cs : List Cond) : ClF n (selF (usesD o) (keepD o) cs) := ⟨cl_uses n o, cl_keep n o, cl_cds n cs, trivial, trivial⟩
theorem sub_last {n : Nat} {l : DS} {x : Option D} (h : ∀ d, some d ∈ l → TL.Cl n d) : Sub n (l ++ [none]) (l ++ [x]) := by
  refine ⟨by rw [List.length_append, List.length_append]; rfl, fun i d e => ?_⟩
  by_cases hi : i < l.length
  · rw [List.getElem?_append_left hi] at e ⊢
    exact ⟨e, h d (List.mem_of_getElem? e)⟩
  · rw [List.getElem?_append_right (by omega)] at e
    cases z : i - l.length with
    | zero => rw [z] at e; cases e
    | succ m => rw [z] at e; cases e
theorem law_rest {ky : List PySem.Str} {qs : List Cond} {its : List D} {b : Bool} {cs : List Int} {t j : Int} {x0 x4 x5 x7 x11 : Option D} {E : DE} (hky : okKy ky) (hq : okSel qs true) (hch : Chain its) (eb : b = (its.all itemB && clashD (qs.map Cond.f) its))
    (hN : ∀ told, E.nx [x0, some (.ref 0), some (tT K), some (tS K ky), x4, x5, some (sel K qs true), x7, some (sel K cond2 false), some (.tup its), some (.bl b), some (.ref 2)] (dk cs t j ++ [.lst told])) :
    (cSeq (cAsg (cLstM (cCons (cCall (starT 3 (T_within_holds K)) [] (cCons (cVar 6) (cCons (cVar 8) (cCons (cTup (cCons (cC (.str ("clash" : PySem.Str))) (cCons (cVar 9) cNil))) (cCons (cVar 2) (cCons (cVar 3) cNil)))))) cNil)) (cgName 11))
  (cSeq (cDrop (cBM "list" dAppend (cVar 11) (cCons (cCall (starT 3 (T_within_holds K)) [] (cCons (cVar 6) (cCons (cVar 8) (cCons (cLst (cCons (cC (.str ("clash" : PySem.Str))) (cCons (cVar 9) cNil))) (cCons (cVar 2) (cCons (cVar 3) cNil)))))) cNil)))
  (cIfS (cTest (cBin jNe (cB dRepr (cCons (cVar 11) cNil)) (cB dRepr (cCons (cLst (cCons (cVar 10) (cCons (cC (.bl false)) cNil))) cNil)))) (cRet (cC (.bl false))) cNext))) E
      [x0, some (.ref 0), some (tT K), some (tS K ky), x4, x5, some (sel K qs true), x7, some (sel K cond2 false), some (.tup its), some (.bl b), x11] (dk cs t j) := by
  have c1 : TL.Cl 0 (sel K qs true) := cl_selF 0 true qs
  have c2 : TL.Cl 0 (sel K cond2 false) := cl_selF 0 false cond2
  have c3 : TL.Cl 0 (tabs K ky) := ⟨cl_tabF 0 _ _ _ _, cl_tabF 0 _ _ _ _, trivial⟩
  conv => whnf
  refine ⟨two, ?_⟩
  refine ⟨[sel K qs true, sel K cond2 false, .tup [.str "clash", .tup its]], tabsL K ky, rfl, rfl, by show 2 ≤ sizeLine; decide, ⟨c1, c2, ⟨trivial, cl_its hch, trivial⟩, c3, trivial⟩, ky, qs, its, hq, hky, hch, .inl ⟨rfl, ?_⟩⟩
  rw [← eb]
  conv => whnf
  refine ⟨one, ?_⟩
  conv => whnf
  refine ⟨⟨rfl, rfl⟩, ?_⟩
  conv => whnf
  refine ⟨two, ?_⟩
  refine ⟨[sel K qs true, sel K cond2 false, .lst [.str "clash", .tup its]], tabsL K ky, rfl, rfl, by show 2 ≤ sizeLine; decide, ⟨c1, c2, ⟨trivial, cl_its hch, trivial⟩, c3, trivial⟩, ky, qs, its, hq, hky, hch, .inr ⟨rfl, ?_⟩⟩
  conv => whnf
  refine ⟨by show 1 < sizeLine; decide, ?_⟩
  refine toH (dk cs t j ++ [.lst [.bl b, .bl false]]) rfl ?_
  conv => whnf
  cases b with
  | true =>
    refine ⟨by decide +kernel, by decide +kernel, by decide +kernel, by decide +kernel, ?_⟩
    conv => whnf
    refine ⟨two, ?_⟩
    refine ⟨by decide +kernel, by decide +kernel, by decide +kernel, by decide +kernel, ?_⟩
    refine ne_s (by decide +kernel) (by decide +kernel) ?_
    rw [decide_eq_true rfl]
    exact hN _
  | false =>
    refine ⟨by decide +kernel, by decide +kernel, by decide +kernel, by decide +kernel, ?_⟩
    conv => whnf
    refine ⟨two, ?_⟩
    refine ⟨by decide +kernel, by decide +kernel, by decide +kernel, by decide +kernel, ?_⟩
    refine ne_s (by decide +kernel) (by decide +kernel) ?_
    rw [decide_eq_true rfl]
    exact hN _
theorem pl_law : Pl (T_law K) (c_lawC K) N_law := by
  rintro ds h Q hc hl ⟨ns, rfl, rfl, hn, q⟩
  conv => whnf
  refine ⟨ns, rfl, rfl, hn, fun cs t hcs ht => ?_⟩
  conv => whnf
  refine ⟨two, ?_⟩
  conv => whnf
  refine ⟨two, ?_⟩
  conv => whnf
  refine ⟨_, _, "t", ["a", "b"], ["p", "q"], [], rfl, rfl, okTab_t, rfl, _, rfl, ?_, ?_⟩
  · exact cl_tabF ..
  conv => whnf
  refine ⟨two, ?_⟩
  conv => whnf
  refine ⟨two, ?_⟩
  conv => whnf
  refine ⟨zero, ?_⟩
  conv => whnf
  refine ⟨one, ?_⟩
  conv => whnf
  refine ⟨two, ?_⟩
  refine ⟨cs, t, 0, _, [_, _], [], rfl, rfl, rfl, (fun z => by cases z), by show 2 ≤ 5000; decide, hcs, ht, ⟨by decide, by decide⟩, fun d cs1 hd hcs1 => ?_⟩
  obtain ⟨ky, hky, rfl⟩ : ∃ ky : List PySem.Str, okKy ky ∧ d = .tup (strsD ky) := by
    simp only [List.mem_cons, List.not_mem_nil, or_false] at hd
    rcases hd with rfl | rfl
    · exact ⟨[], .inl rfl, rfl⟩
    · exact ⟨["c"], .inr rfl, rfl⟩
  conv => whnf
  refine ⟨_, _, "s", ["c", "d"], ["r", "w"], ky, rfl, rfl, okTab_s hky, rfl, _, rfl, ?_, ?_⟩
  · exact cl_tabF ..
  conv => whnf
  refine ⟨by decide, by decide, ?_⟩
  refine for_ok (fun k σ h => ∃ cs' j' x4 x5 x6 x7 x8 x9 x10 x11, h = dk cs' t j' ∧ okC cs' ∧ 0 ≤ j' ∧ j' ≤ 1 + 2000 * (k : Int) ∧ σ = [some (.klst (ns.map D.int)), some (.ref 0), some (tT K), some (tS K ky), x4, x5, x6, x7, x8, x9, x10, x11]) (fun k σ h i => trivial) (fun σ h i => ?_) (fun k d σ h ek i N hN => ?_) ⟨cs1, 1, _, _, _, _, _, _, _, _, rfl, hcs1, by decide, by decide, rfl⟩
  · exact .inl (q _)
  obtain ⟨cs', j', x4, x5, x6, x7, x8, x9, x10, x11, rfl, i1, i2, i3, rfl⟩ := i
  have hk : k < 8 := by
    have := (List.getElem?_eq_some_iff.mp ek).1
    simp [rangeD] at this
    omega
  dsimp only [cgName]
  conv => whnf
  refine ⟨cs', t, j', rfl, rfl, i1, ht, i2, by omega, fun qs cs2 j2 hq hcs2 q2 q3 => ?_⟩
  conv => whnf
  refine ⟨two, ?_⟩
  conv => whnf
  refine ⟨two, ?_⟩
  conv => whnf
  refine ⟨two, ?_⟩
  conv => whnf
  refine ⟨one, ?_⟩
  conv => whnf
  refine ⟨_, _, _, _, _, _, rfl, rfl, rfl, _, rfl, cl_selF _ true qs, ?_⟩
  conv => whnf
  refine ⟨qs, rfl, hq.2.1, fun c hc => (hq.2.2 c hc).1, ?_⟩
  have em : (qs.map fun c => fd c.f) = (qs.map Cond.f).map fd := by rw [List.map_map]; rfl
  have okf := okF_of hq.2.2
  have oF : okF (qs.map Cond.f) := ⟨fun z => hq.1 (List.map_eq_nil_iff.mp z), by rw [List.length_map]; exact hq.2.1, okf⟩
  rw [em]
  conv => whnf
  refine ⟨two, ?_⟩
  conv => whnf
  refine ⟨one, ?_⟩
  conv => whnf
  refine ⟨one, ?_⟩
  conv => whnf
  refine ⟨three, ?_⟩
  conv => whnf
  refine ⟨one, ?_⟩
  conv => whnf
  refine ⟨_, _, _, _, _, _, rfl, rfl, rfl, _, rfl, cl_selF _ false cond2, ?_⟩
  conv => whnf
  refine ⟨cs2, t, j2, qs.map Cond.f, rfl, rfl, oF, hcs2, ht, q2, by omega, fun L cs3 j3 hL lL hcs3 q4 q5 => ?_⟩
  conv => whnf
  refine for_okC (fun k σ h => h = dk cs3 t j3 ∧ ∃ x9 x10 x11, σ = [some (.klst (ns.map D.int)), some (.ref 0), some (tT K), some (tS K ky), some d, some (.tup (qs.map Cond.d)), some (sel K qs true), some (.lst ((qs.map Cond.f).map fd)), some (sel K cond2 false), x9, x10, x11]) (fun k σ h i => rfl) (fun σ h i => ?_) (fun k d2 σ h ek2 i N2 hN2 => ?_) ⟨rfl, x9, x10, x11, rfl⟩
  · obtain ⟨rfl, x9, x10, x11, rfl⟩ := i
    exact hN _ _ ⟨cs3, j3, _, _, _, _, _, _, _, _, rfl, hcs3, q4, by omega, rfl⟩
  obtain ⟨rfl, x9, x10, x11, rfl⟩ := i
  obtain ⟨its, hi, rfl⟩ := List.mem_map.mp (List.mem_of_getElem? ek2)
  have hch := hL its hi
  dsimp only [cgName]
  obtain ⟨b, eb⟩ : ∃ b : Bool, b = (its.all itemB && clashD (qs.map Cond.f) its) := ⟨_, rfl⟩
  have eb2 := eb
  rw [clashD_eq (agr_F hq.2.2)] at eb2
  have fin := fun x11 => law_rest K (x0 := some (.klst (ns.map D.int))) (x4 := some d) (x5 := some (.tup (qs.map Cond.d))) (x7 := some (.lst ((qs.map Cond.f).map fd))) (x11 := x11) (E := { nx := cutN 2 N2, rt := (Er [] Q).rt, bk := N, ct := cutN 2 N2 }) (cs := cs3) (t := t) (j := j3) hky hq.2 hch eb (fun told => by
    refine ⟨dk cs3 t j3, [.lst told], [some (.klst (ns.map D.int)), some (.ref 0), some (tT K), some (tS K ky), some d, some (.tup (qs.map Cond.d)), some (sel K qs true), some (.lst ((qs.map Cond.f).map fd)), some (sel K cond2 false), some (.tup its), some (.bl b), none], rfl, Nat.le_refl _, hcl_dk _ _ _, sub_last (l := [some (.klst (ns.map D.int)), some (.ref 0), some (tT K), some (tS K ky), some d, some (.tup (qs.map Cond.d)), some (sel K qs true), some (.lst ((qs.map Cond.f).map fd)), some (sel K cond2 false), some (.tup its), some (.bl b)]) (fun e he => ?_), hN2 _ _ ⟨rfl, _, _, _, rfl⟩⟩
    simp only [List.mem_cons, List.not_mem_nil, or_false, Option.some.injEq] at he
    rcases he with rfl | rfl | rfl | rfl | rfl | rfl | rfl | rfl | rfl | rfl | rfl
    · exact cl_ints _ ns
    · show 0 < 2; decide
    · exact cl_tabF ..
    · exact cl_tabF ..
    · have := List.mem_of_getElem? ek
      simp [rangeD] at this
      obtain ⟨m, _, rfl⟩ := this
      trivial
    · exact cl_cds _ qs
    · exact cl_selF _ true qs
    · exact cl_all fun x hx => by
        obtain ⟨f, _, rfl⟩ := List.mem_map.mp hx
        exact cl_fd _ f
    · exact cl_selF _ false cond2
    · exact cl_its hch
    · trivial)
  conv => whnf
  refine ⟨its, rfl, hch, ?_⟩
  cases w : its.all itemB with
  | false =>
    have e2 : b = false := by rw [eb, w]; rfl
    subst e2
    exact fin _
  | true =>
    conv => whnf
    refine ⟨qs.map Cond.f, its, rfl, hch, oF, ?_⟩
    rw [show lawClashD (qs.map Cond.f) its = b by rw [eb2, w]; rfl]
    exact fin _
end
end K69

namespace K69
open PySem PySem.Spec PyProof.Rows L2 TL
section
variable {P : Program} {wd : World} {K : PySem.W.Frag} {mg : PySem.Str → Option Value} {base : Heap} {k : Nat} {f : Addr}
theorem lb_is_integer (Z : Kn K mg)  (cdv : Value) (A : Around) (outer : List Env) (s : Shared) (H : Hp) (E : XK) (hr : Room (k + 1) (A.deeper (envOfC ("is_integer" : PySem.Str) (defScope st_is_integer) s.heap.objs.size f cdv))) :
    LB (cxOf CX0 P wd K mg base N_is_integer ("is_integer" : PySem.Str) (defScope st_is_integer) f cdv A outer s H E).nox (defBody st_is_integer) (c_is_integer K) := by
  have nd : (N_is_integer).Nodup := sc_is_integer.nd
  unfold c_is_integer
  exact (lb_one (ls_ret (le_and (le_callB (cj_isi "int") rfl Z.g_isinstance (by first | exact boot_isinstance | rfl) (la_cons (lv 0) (la_cons (le_bty (T := "int") rfl Z.g_int (by rfl)) la_nil))) (le_one (le_not (le_callB (cj_isi "bool") rfl Z.g_isinstance (by first | exact boot_isinstance | rfl) (la_cons (lv 0) (la_cons (le_bty (T := "bool") rfl Z.g_bool (by rfl)) la_nil))))))))
theorem lb_is_name (Z : Kn K mg)  (cdv : Value) (A : Around) (outer : List Env) (s : Shared) (H : Hp) (E : XK) (hr : Room (k + 1) (A.deeper (envOfC ("is_name" : PySem.Str) (defScope st_is_name) s.heap.objs.size f cdv))) :
    LB (cxOf CX0 P wd K mg base N_is_name ("is_name" : PySem.Str) (defScope st_is_name) f cdv A outer s H E).nox (defBody st_is_name) (c_is_name K) := by
  have nd : (N_is_name).Nodup := sc_is_name.nd
  unfold c_is_name
  exact (lb_cons (ls_if (LW.lt (lw_or (lt_not (lt_val (le_callB (cj_isi "str") rfl Z.g_isinstance (by first | exact boot_isinstance | rfl) (la_cons (lv 0) (la_cons (le_bty (T := "str") rfl Z.g_str (by rfl)) la_nil))))) (lw_or1 (lt_not (lt_chain oj_le oj_le le_int (le_callB cd_len rfl Z.g_len (by first | exact boot_len | rfl) (la_cons (lv 0) la_nil)) (le_gint (i := 8) rfl Z.g_MOST_LETTERS) (fun o o2 x y z => pt_chain o o2 x y z)))))) (lb_one (ls_ret le_bl)) lb_nil)
  (lb_one (ls_ret (le_callB (cj_all rfl) rfl Z.g_all (by first | exact boot_all | rfl) (la_cons (lj_lc (own := [(("letter" : PySem.Str), 1)]) rfl nd (li_str (lv 0)) (blkOk_by (N := N_is_name) (sc := defScope st_is_name) (by decide +kernel)) (by decide) (fun _ _ _ _ _ => (lg_name (i := 1) nd rfl (Or.inl rfl))) (fun _ _ _ _ _ => lts_nil) (fun _ _ _ _ _ => (le_cmp (oj_in (u65 hr)) (lv 1) (le_gstr (z := ("abcdefghijklmnopqrstuvwxyz" : PySem.Str)) rfl Z.g_LETTERS) (by rfl)))) la_nil)))))
theorem lb_are_names (Z : Kn K mg) (F_is_name : FnOk P wd K mg base CX0 k (He.ga K ("is_name" : PySem.Str)) (fdOf K (He.ga K ("is_name" : PySem.Str))) [("thing" : PySem.Str)] (lift K (T_is_name K))) (cdv : Value) (A : Around) (outer : List Env) (s : Shared) (H : Hp) (E : XK) (hr : Room (k + 1) (A.deeper (envOfC ("are_names" : PySem.Str) (defScope st_are_names) s.heap.objs.size f cdv))) :
    LB (cxOf CX0 P wd K mg base N_are_names ("are_names" : PySem.Str) (defScope st_are_names) f cdv A outer s H E).nox (defBody st_are_names) (c_are_names K) := by
  have nd : (N_are_names).Nodup := sc_are_names.nd
  unfold c_are_names
  exact (lb_one (ls_ret (le_and (le_callB (cj_isi "tuple") rfl Z.g_isinstance (by first | exact boot_isinstance | rfl) (la_cons (lv 0) (la_cons (le_bty (T := "tuple") rfl Z.g_tuple (by rfl)) la_nil))) (le_and (le_cmp oj_le (le_callB cd_len rfl Z.g_len (by first | exact boot_len | rfl) (la_cons (lv 0) la_nil)) (le_gint (i := 2) rfl Z.g_MOST_COLUMNS) (by rfl)) (le_one (le_callB (cj_all rfl) rfl Z.g_all (by first | exact boot_all | rfl) (la_cons (lj_lc (own := [(("one" : PySem.Str), 1)]) rfl nd (li_seq (lv 0)) (blkOk_by (N := N_are_names) (sc := defScope st_are_names) (by decide +kernel)) (by decide) (fun _ _ _ _ _ => (lg_name (i := 1) nd rfl (Or.inl rfl))) (fun _ _ _ _ _ => lts_nil) (fun _ _ _ _ _ => (le_callN F_is_name (hr.mono (Nat.le_succ _)) rfl Z.g_is_name Z.k_is_name Z.b_is_name (la_cons (lv 1) la_nil)))) la_nil)))))))
theorem lb_is_key_tables (Z : Kn K mg) (F_is_name : FnOk P wd K mg base CX0 k (He.ga K ("is_name" : PySem.Str)) (fdOf K (He.ga K ("is_name" : PySem.Str))) [("thing" : PySem.Str)] (lift K (T_is_name K))) (cdv : Value) (A : Around) (outer : List Env) (s : Shared) (H : Hp) (E : XK) (hr : Room (k + 1) (A.deeper (envOfC ("is_key" : PySem.Str) (defScope st_is_key_tables) s.heap.objs.size f cdv))) :
    LB (cxOf CX0 P wd K mg base N_is_key_tables ("is_key" : PySem.Str) (defScope st_is_key_tables) f cdv A outer s H E).nox (defBody st_is_key_tables) (c_is_key_tables K) := by
  have nd : (N_is_key_tables).Nodup := sc_is_key_tables.nd
  unfold c_is_key_tables
  exact (lb_cons (ls_if (LW.lt (lw_or (lt_not (lt_val (le_callB (cj_isi "tuple") rfl Z.g_isinstance (by first | exact boot_isinstance | rfl) (la_cons (lv 0) (la_cons (le_bty (T := "tuple") rfl Z.g_tuple (by rfl)) la_nil))))) (lw_or1 (lt_not (lt_val (le_callB (cj_all rfl) rfl Z.g_all (by first | exact boot_all | rfl) (la_cons (lj_lc (own := [(("one" : PySem.Str), 2)]) rfl nd (li_seq (lv 0)) (blkOk_by (N := N_is_key_tables) (sc := defScope st_is_key_tables) (by decide +kernel)) (by decide) (fun _ _ _ _ _ => (lg_name (i := 2) nd rfl (Or.inl rfl))) (fun _ _ _ _ _ => lts_nil) (fun _ _ _ _ _ => (le_callN F_is_name (hr.mono (Nat.le_succ _)) rfl Z.g_is_name Z.k_is_name Z.b_is_name (la_cons (lv 2) la_nil)))) la_nil))))))) (lb_one (ls_ret le_bl)) lb_nil)
  (lb_one (ls_ret (le_cmp (oj_eq (u64 hr)) (le_callTy cd_list rfl Z.g_list (by rfl) (la_cons (lv 0) la_nil)) (lj_lc (own := [(("column" : PySem.Str), 3)]) rfl nd (li_seq (lv 1)) (blkOk_by (N := N_is_key_tables) (sc := defScope st_is_key_tables) (by decide +kernel)) (by decide) (fun _ _ _ _ _ => (lg_name (i := 3) nd rfl (Or.inl rfl))) (fun _ _ _ _ _ => (lts_one (lt_cmp (oj_in (u65 hr)) (lv 3) (lv 0) (by rfl)))) (fun _ _ _ _ _ => (lv 3))) (by rfl)))))
theorem lb_Table_init (Z : Kn K mg) (F_are_names : FnOk P wd K mg base CX0 k (He.ga K ("are_names" : PySem.Str)) (fdOf K (He.ga K ("are_names" : PySem.Str))) [("thing" : PySem.Str)] (lift K (T_are_names K))) (F_is_key_tables : FnOk P wd K mg base CX0 k (He.ga K ("is_key_tables" : PySem.Str)) (fdOf K (He.ga K ("is_key_tables" : PySem.Str))) [("thing" : PySem.Str), ("columns" : PySem.Str)] (lift K (T_is_key_tables K))) (F_is_name : FnOk P wd K mg base CX0 k (He.ga K ("is_name" : PySem.Str)) (fdOf K (He.ga K ("is_name" : PySem.Str))) [("thing" : PySem.Str)] (lift K (T_is_name K))) (cdv : Value) (A : Around) (outer : List Env) (s : Shared) (H : Hp) (E : XK) (hr : Room (k + 1) (A.deeper (envOfC ("Table.__init__" : PySem.Str) (defScope st_Table_init) s.heap.objs.size f cdv))) :
    LB (cxOf CX0 P wd K mg base N_Table_init ("Table.__init__" : PySem.Str) (defScope st_Table_init) f cdv A outer s H E).nox (defBody st_Table_init) (c_Table_init K) := by
  have nd : (N_Table_init).Nodup := sc_Table_init.nd
  unfold c_Table_init
  exact (lb_cons (ls_if (LW.lt (lw_or (lt_not (lt_val (le_callN F_is_name (hr.mono (Nat.le_succ _)) rfl Z.g_is_name Z.k_is_name Z.b_is_name (la_cons (lv 1) la_nil)))) (lw_or (lt_not (lt_val (le_callN F_are_names (hr.mono (Nat.le_succ _)) rfl Z.g_are_names Z.k_are_names Z.b_are_names (la_cons (lv 2) la_nil)))) (lw_or1 (lt_not (lt_val (le_callN F_are_names (hr.mono (Nat.le_succ _)) rfl Z.g_are_names Z.k_are_names Z.b_are_names (la_cons (lv 3) la_nil)))))))) (lb_one ls_never) lb_nil)
  (lb_cons (ls_set (i := 5) nd rfl (Or.inl rfl) (le_op od_addX (lv 2) (lv 3)))
  (lb_cons (ls_if (LW.lt (lw_or (lt_cmp (oj_eq (u64 hr)) (lv 5) (le_tup la_nil) (by rfl)) (lw_or (lt_cmp oj_lt (le_lenSet rfl rfl Z.g_len rfl Z.g_set (lv 5)) (le_callB cd_len rfl Z.g_len (by first | exact boot_len | rfl) (la_cons (lv 5) la_nil)) (by rfl)) (lw_or1 (lt_not (lt_val (le_callN F_is_key_tables (hr.mono (Nat.le_succ _)) rfl Z.g_is_key_tables Z.k_is_key_tables Z.b_is_key_tables (la_cons (lv 4) (la_cons (lv 5) la_nil))))))))) (lb_one ls_never) lb_nil)
  (lb_cons (ls_fld Z.c_Table Z.n_Table_name (lv 0) (lv 1))
  (lb_cons (ls_fld Z.c_Table Z.n_Table_names (lv 0) (lv 2))
  (lb_cons (ls_fld Z.c_Table Z.n_Table_numbers (lv 0) (lv 3))
  (lb_one (ls_fld Z.c_Table Z.n_Table_key (lv 0) (lv 4)))))))))
theorem lb_Table_columns (Z : Kn K mg)  (cdv : Value) (A : Around) (outer : List Env) (s : Shared) (H : Hp) (E : XK) (hr : Room (k + 1) (A.deeper (envOfC ("Table.columns" : PySem.Str) (defScope st_Table_columns) s.heap.objs.size f cdv))) :
    LB (cxOf CX0 P wd K mg base N_Table_columns ("Table.columns" : PySem.Str) (defScope st_Table_columns) f cdv A outer s H E).nox (defBody st_Table_columns) (c_Table_columns K) := by
  have nd : (N_Table_columns).Nodup := sc_Table_columns.nd
  unfold c_Table_columns
  exact (lb_one (ls_ret (le_op od_addX (le_fld Z.c_Table Z.n_Table_names (lv 0)) (le_fld Z.c_Table Z.n_Table_numbers (lv 0)))))
theorem lb_fact_of (Z : Kn K mg)  (cdv : Value) (A : Around) (outer : List Env) (s : Shared) (H : Hp) (E : XK) (hr : Room (k + 1) (A.deeper (envOfC ("fact_of" : PySem.Str) (defScope st_fact_of) s.heap.objs.size f cdv))) :
    LB (cxOf CX0 P wd K mg base N_fact_of ("fact_of" : PySem.Str) (defScope st_fact_of) f cdv A outer s H E).nox (defBody st_fact_of) (c_fact_of K) := by
  have nd : (N_fact_of).Nodup := sc_fact_of.nd
  unfold c_fact_of
  exact (lb_cons (ls_if (lt_cmp (oj_eq (u64 hr)) (lv 1) le_str (by rfl)) (lb_one (ls_ret (le_tup (la_cons (lv 2) (la_cons le_str (la_cons (lv 0) la_nil)))))) lb_nil)
  (lb_one (ls_ret (le_tup (la_cons (lv 0) (la_cons (lv 1) (la_cons (lv 2) la_nil)))))))
theorem lb_strict_in (Z : Kn K mg)  (cdv : Value) (A : Around) (outer : List Env) (s : Shared) (H : Hp) (E : XK) (hr : Room (k + 1) (A.deeper (envOfC ("strict_in" : PySem.Str) (defScope st_strict_in) s.heap.objs.size f cdv))) :
    LB (cxOf CX0 P wd K mg base N_strict_in ("strict_in" : PySem.Str) (defScope st_strict_in) f cdv A outer s H E).nox (defBody st_strict_in) (c_strict_in K) := by
  have nd : (N_strict_in).Nodup := sc_strict_in.nd
  unfold c_strict_in
  exact (lb_one (ls_ret (le_callB cd_len rfl Z.g_len (by first | exact boot_len | rfl) (la_cons (lj_lc (own := [(("fact" : PySem.Str), 1)]) rfl nd (li_seq (lv 0)) (blkOk_by (N := N_strict_in) (sc := defScope st_strict_in) (by decide +kernel)) (by decide) (fun _ _ _ _ _ => (lg_name (i := 1) nd rfl (Or.inl rfl))) (fun _ _ _ _ _ => (lts_one (lt_cmp (oj_eq (u64 hr)) (le_ix (lv 1) le_int (by intro _ _; rfl)) le_str (by rfl)))) (fun _ _ _ _ _ => le_int)) la_nil))))
theorem lb_chain_end (Z : Kn K mg)  (cdv : Value) (A : Around) (outer : List Env) (s : Shared) (H : Hp) (E : XK) (hr : Room (k + 1) (A.deeper (envOfC ("chain_end" : PySem.Str) (defScope st_chain_end) s.heap.objs.size f cdv))) :
    LB (cxOf CX0 P wd K mg base N_chain_end ("chain_end" : PySem.Str) (defScope st_chain_end) f cdv A outer s H E).nox (defBody st_chain_end) (c_chain_end K) := by
  have nd : (N_chain_end).Nodup := sc_chain_end.nd
  unfold c_chain_end
  exact (lb_cons (ls_set (i := 2) nd rfl (Or.inl rfl) (lv 1))
  (lb_cons (ls_for PassesOwn.never rfl (li_seq (lv 0)) (lg_tup rfl (lgs_cons (lg_name (i := 3) nd rfl (Or.inl rfl)) (lgs_cons (lg_name (i := 4) nd rfl (Or.inl rfl)) (lgs_cons (lg_name (i := 5) nd rfl (Or.inl rfl)) lgs_nil)))) (lb_one (ls_if (lt_cmp (oj_eq (u64 hr)) (lv 3) (lv 2) (by rfl)) (lb_one (ls_set (i := 2) nd rfl (Or.inl rfl) (lv 5))) (lb_one (ls_if (LW.lt (lw_and (lt_cmp (oj_eq (u64 hr)) (lv 4) le_str (by rfl)) (lw_and1 (lt_cmp (oj_eq (u64 hr)) (lv 5) (lv 2) (by rfl))))) (lb_one (ls_set (i := 2) nd rfl (Or.inl rfl) (lv 3))) (lb_one (ls_ret le_non)))))))
  (lb_one (ls_ret (lv 2)))))
theorem lb_is_chain_clash (Z : Kn K mg) (F_chain_end : FnOk P wd K mg base CX0 k (He.ga K ("chain_end" : PySem.Str)) (fdOf K (He.ga K ("chain_end" : PySem.Str))) [("chain" : PySem.Str), ("start" : PySem.Str)] (lift K (T_chain_end K))) (F_is_integer : FnOk P wd K mg base CX0 k (He.ga K ("is_integer" : PySem.Str)) (fdOf K (He.ga K ("is_integer" : PySem.Str))) [("thing" : PySem.Str)] (lift K (T_is_integer K))) (F_is_name : FnOk P wd K mg base CX0 k (He.ga K ("is_name" : PySem.Str)) (fdOf K (He.ga K ("is_name" : PySem.Str))) [("thing" : PySem.Str)] (lift K (T_is_name K))) (F_strict_in : FnOk P wd K mg base CX0 k (He.ga K ("strict_in" : PySem.Str)) (fdOf K (He.ga K ("strict_in" : PySem.Str))) [("chain" : PySem.Str)] (lift K (T_strict_in K))) (cdv : Value) (A : Around) (outer : List Env) (s : Shared) (H : Hp) (E : XK) (hr : Room (k + 1) (A.deeper (envOfC ("is_chain_clash" : PySem.Str) (defScope st_is_chain_clash) s.heap.objs.size f cdv))) :
    LB (cxOf CX0 P wd K mg base N_is_chain_clash ("is_chain_clash" : PySem.Str) (defScope st_is_chain_clash) f cdv A outer s H E).nox (defBody st_is_chain_clash) (c_is_chain_clash K) := by
  have nd : (N_is_chain_clash).Nodup := sc_is_chain_clash.nd
  unfold c_is_chain_clash
  exact (lb_cons (ls_set (i := 2) nd rfl (Or.inl rfl) (le_callN F_chain_end (hr.mono (Nat.le_succ _)) rfl Z.g_chain_end Z.k_chain_end Z.b_chain_end (la_cons (lv 0) (la_cons (lv 1) la_nil))))
  (lb_cons (ls_if (lt_cmp od_is (lv 2) le_non (by rfl)) (lb_one (ls_ret le_bl)) lb_nil)
  (lb_cons (ls_if (LW.lt (lw_and (lt_val (le_callN F_is_name (hr.mono (Nat.le_succ _)) rfl Z.g_is_name Z.k_is_name Z.b_is_name (la_cons (lv 1) la_nil))) (lw_and1 (lt_val (le_callN F_is_name (hr.mono (Nat.le_succ _)) rfl Z.g_is_name Z.k_is_name Z.b_is_name (la_cons (lv 2) la_nil)))))) (lb_one (ls_ret (le_cmp (oj_ne (u64 hr)) (lv 1) (lv 2) (by rfl)))) lb_nil)
  (lb_cons (ls_set (i := 3) nd rfl (Or.inl rfl) (le_callN F_strict_in (hr.mono (Nat.le_succ _)) rfl Z.g_strict_in Z.k_strict_in Z.b_strict_in (la_cons (lv 0) la_nil)))
  (lb_one (ls_ret (le_or (le_and (le_cmp (oj_eq (u64 hr)) (lv 1) (lv 2) (by rfl)) (le_one (le_cmp oj_gt (lv 3) le_int (by rfl)))) (le_one (le_and (le_callN F_is_integer (hr.mono (Nat.le_succ _)) rfl Z.g_is_integer Z.k_is_integer Z.b_is_integer (la_cons (lv 1) la_nil)) (le_and (le_callN F_is_integer (hr.mono (Nat.le_succ _)) rfl Z.g_is_integer Z.k_is_integer Z.b_is_integer (la_cons (lv 2) la_nil)) (le_one (le_cmp oj_lt (lv 2) (le_op od_add (lv 1) (lv 3)) (by rfl)))))))))))))
theorem lb_is_clash (Z : Kn K mg) (F_chain_end : FnOk P wd K mg base CX0 k (He.ga K ("chain_end" : PySem.Str)) (fdOf K (He.ga K ("chain_end" : PySem.Str))) [("chain" : PySem.Str), ("start" : PySem.Str)] (lift K (T_chain_end K))) (F_is_chain_clash : FnOk P wd K mg base CX0 k (He.ga K ("is_chain_clash" : PySem.Str)) (fdOf K (He.ga K ("is_chain_clash" : PySem.Str))) [("chain" : PySem.Str), ("start" : PySem.Str)] (lift K (T_is_chain_clash K))) (cdv : Value) (A : Around) (outer : List Env) (s : Shared) (H : Hp) (E : XK) (hr : Room (k + 1) (A.deeper (envOfC ("is_clash" : PySem.Str) (defScope st_is_clash) s.heap.objs.size f cdv))) :
    LB (cxOf CX0 P wd K mg base N_is_clash ("is_clash" : PySem.Str) (defScope st_is_clash) f cdv A outer s H E).nox (defBody st_is_clash) (c_is_clash K) := by
  have nd : (N_is_clash).Nodup := sc_is_clash.nd
  unfold c_is_clash
  exact (lb_cons (ls_if (LW.lt (lw_or (lt_not (lt_val (le_callB (cj_isi "tuple") rfl Z.g_isinstance (by first | exact boot_isinstance | rfl) (la_cons (lv 0) (la_cons (le_bty (T := "tuple") rfl Z.g_tuple (by rfl)) la_nil))))) (lw_or (lt_cmp (oj_eq (u64 hr)) (lv 0) (le_tup la_nil) (by rfl)) (lw_or1 (lt_not (lt_val (le_callB (cj_all rfl) rfl Z.g_all (by first | exact boot_all | rfl) (la_cons (lj_lc (own := [(("fact" : PySem.Str), 8)]) rfl nd (li_seq (lv 0)) (blkOk_by (N := N_is_clash) (sc := defScope st_is_clash) (by decide +kernel)) (by decide) (fun _ _ _ _ _ => (lg_name (i := 8) nd rfl (Or.inl rfl))) (fun _ _ _ _ _ => lts_nil) (fun _ _ _ _ _ => (le_cmp (oj_in (u65 hr)) (lv 8) (lv 1) (by rfl)))) la_nil)))))))) (lb_one (ls_ret le_bl)) lb_nil)
  (lb_cons (ls_set (i := 2) nd rfl (Or.inl rfl) (le_tup (la_cons (le_ix (le_ix (lv 0) le_int (by intro _ _; rfl)) le_int (by intro _ _; rfl)) (la_cons (le_ix (le_ix (lv 0) le_int (by intro _ _; rfl)) le_int (by intro _ _; rfl)) la_nil))))
  (lb_cons (lj_setLc (i := 3) (own := [(("fact" : PySem.Str), 8)]) rfl nd rfl rfl (sw_true rfl rfl rfl (by decide +kernel)) (li_seq (lv 0)) (blkOk_by (N := N_is_clash) (sc := defScope st_is_clash) (by decide +kernel)) (by decide) (fun _ _ _ _ _ => (lg_name (i := 8) nd rfl (Or.inl rfl))) (fun _ _ _ _ _ => lts_nil) (fun _ _ _ _ _ => (le_ix (lv 8) le_int (by intro _ _; rfl))))
  (lb_cons (ls_if (lt_cmp (oj_ne (u64 hr)) (lj_ix (lv 3) le_negc (by intro _ _; rfl)) le_str (by rfl)) (lb_one (ls_ret (le_and (le_cmp (oj_notIn (u65 hr)) le_str (lv 3) (by rfl)) (le_one (le_callB (cj_any rfl) rfl Z.g_any (by first | exact boot_any | rfl) (la_cons (lj_lc (own := [(("start" : PySem.Str), 9)]) rfl nd (li_seq (lv 2)) (blkOk_by (N := N_is_clash) (sc := defScope st_is_clash) (by decide +kernel)) (by decide) (fun _ _ _ _ _ => (lg_name (i := 9) nd rfl (Or.inl rfl))) (fun _ _ _ _ _ => lts_nil) (fun _ _ _ _ _ => (le_callN F_is_chain_clash (hr.mono (Nat.le_succ _)) rfl Z.g_is_chain_clash Z.k_is_chain_clash Z.b_is_chain_clash (la_cons (lv 0) (la_cons (lv 9) la_nil))))) la_nil)))))) lb_nil)
  (lb_cons (ls_asg (lj_ix (lv 0) le_negc (by intro _ _; rfl)) (lg_tup rfl (lgs_cons (lg_name (i := 4) nd rfl (Or.inl rfl)) (lgs_cons (lg_name (i := 5) nd rfl (Or.inl rfl)) (lgs_cons (lg_name (i := 6) nd rfl (Or.inl rfl)) lgs_nil)))))
  (lb_cons (ls_if (lt_cmp (oj_eq (u64 hr)) (le_callB cd_len rfl Z.g_len (by first | exact boot_len | rfl) (la_cons (lv 0) la_nil)) le_int (by rfl)) (lb_one (ls_ret (le_cmp (oj_eq (u64 hr)) (lv 4) (lv 6) (by rfl)))) lb_nil)
  (lb_cons (ls_if (lt_cmp (oj_ne (u64 hr)) (le_slice (lv 3) lo_none (lo_some le_negc)) (le_op od_mul (le_lst (la_cons le_str la_nil)) (le_op od_sub (le_callB cd_len rfl Z.g_len (by first | exact boot_len | rfl) (la_cons (lv 3) la_nil)) le_int)) (by rfl)) (lb_one (ls_ret le_bl)) lb_nil)
  (lb_cons (lj_setLc (i := 7) (own := [(("start" : PySem.Str), 9)]) rfl nd rfl rfl (sw_true rfl rfl rfl (by decide +kernel)) (li_seq (lv 2)) (blkOk_by (N := N_is_clash) (sc := defScope st_is_clash) (by decide +kernel)) (by decide) (fun _ _ _ _ _ => (lg_name (i := 9) nd rfl (Or.inl rfl))) (fun _ _ _ _ _ => lts_nil) (fun _ _ _ _ _ => (le_tup (la_cons (lv 9) (la_cons (le_callN F_chain_end (hr.mono (Nat.le_succ _)) rfl Z.g_chain_end Z.k_chain_end Z.b_chain_end (la_cons (le_slice (lv 0) lo_none (lo_some le_negc)) (la_cons (lv 9) la_nil))) la_nil)))))
  (lb_one (ls_ret (le_or (le_cmp (oj_in (u65 hr)) (le_tup (la_cons (lv 4) (la_cons (lv 6) la_nil))) (lv 7) (by rfl)) (le_one (le_cmp (oj_in (u65 hr)) (le_tup (la_cons (lv 6) (la_cons (lv 4) la_nil))) (lv 7) (by rfl))))))))))))))
theorem lb_Scene_init (Z : Kn K mg)  (cdv : Value) (A : Around) (outer : List Env) (s : Shared) (H : Hp) (E : XK) (hr : Room (k + 1) (A.deeper (envOfC ("Scene.__init__" : PySem.Str) (defScope st_Scene_init) s.heap.objs.size f cdv))) :
    LB (cxOf CX0 P wd K mg base N_Scene_init ("Scene.__init__" : PySem.Str) (defScope st_Scene_init) f cdv A outer s H E).nox (defBody st_Scene_init) (c_Scene_init K) := by
  have nd : (N_Scene_init).Nodup := sc_Scene_init.nd
  unfold c_Scene_init
  exact (lb_cons (ls_fld Z.c_Scene Z.n_Scene_by_name (lv 0) (le_dc (own := [(("table" : PySem.Str), 5)]) rfl nd (li_seq (lv 1)) (blkOk_by (N := N_Scene_init) (sc := defScope st_Scene_init) (by decide +kernel)) (by decide) (fun _ _ _ _ _ => (lg_name (i := 5) nd rfl (Or.inl rfl))) (fun _ _ _ _ _ => lts_nil) (fun _ _ _ _ _ => (le_fld Z.c_Table Z.n_Table_name (lv 5))) (fun _ _ _ _ _ => (lv 5))))
  (lb_cons (ls_fld Z.c_Scene Z.n_Scene_plan (lv 0) (lv 2))
  (lb_cons (ls_fld Z.c_Scene Z.n_Scene_called (lv 0) (le_callTy cd_dict rfl Z.g_dict (by rfl) (la_cons (lv 3) la_nil)))
  (lb_cons (ls_fld Z.c_Scene Z.n_Scene_numeric (lv 0) (le_callTy cd_dict rfl Z.g_dict (by rfl) (la_cons (lv 4) la_nil)))
  (lb_cons (ls_fld Z.c_Scene Z.n_Scene_strangers (lv 0) (le_lstM la_nil))
  (lb_cons (ls_fld Z.c_Scene Z.n_Scene_early (lv 0) (le_lst la_nil))
  (lb_cons (ls_fld Z.c_Scene Z.n_Scene_late (lv 0) (le_lst la_nil))
  (lb_cons (ls_fld Z.c_Scene Z.n_Scene_usable (lv 0) (le_lst la_nil))
  (lb_cons (ls_fld Z.c_Scene Z.n_Scene_root (lv 0) (le_lst la_nil))
  (lb_one (ls_fld Z.c_Scene Z.n_Scene_wanted (lv 0) (le_lst la_nil))))))))))))
theorem lb_Scene_entry (Z : Kn K mg)  (cdv : Value) (A : Around) (outer : List Env) (s : Shared) (H : Hp) (E : XK) (hr : Room (k + 1) (A.deeper (envOfC ("Scene.entry" : PySem.Str) (defScope st_Scene_entry) s.heap.objs.size f cdv))) :
    LB (cxOf CX0 P wd K mg base N_Scene_entry ("Scene.entry" : PySem.Str) (defScope st_Scene_entry) f cdv A outer s H E).nox (defBody st_Scene_entry) (c_Scene_entry K) := by
  have nd : (N_Scene_entry).Nodup := sc_Scene_entry.nd
  unfold c_Scene_entry
  exact (lb_one (ls_ret (le_ix (le_ix (le_dget (u1 hr) (le_fld Z.c_Scene Z.n_Scene_called (lv 0)) (lv 1) (by intro _ _; rfl)) le_int (by intro _ _; rfl)) (lv 2) (by intro _ _; rfl))))
theorem lb_Scene_add_stranger (Z : Kn K mg) (F_Table_columns : FnOk P wd K mg base CX0 k (prA K (He.ga K ("Table" : PySem.Str)) "columns") (fdOf K (prA K (He.ga K ("Table" : PySem.Str)) "columns")) [("self" : PySem.Str)] (lift K (T_Table_columns K))) (cdv : Value) (A : Around) (outer : List Env) (s : Shared) (H : Hp) (E : XK) (hr : Room (k + 1) (A.deeper (envOfC ("Scene.add_stranger" : PySem.Str) (defScope st_Scene_add_stranger) s.heap.objs.size f cdv))) :
    LB (cxOf CX0 P wd K mg base N_Scene_add_stranger ("Scene.add_stranger" : PySem.Str) (defScope st_Scene_add_stranger) f cdv A outer s H E).nox (defBody st_Scene_add_stranger) (c_Scene_add_stranger K) := by
  have nd : (N_Scene_add_stranger).Nodup := sc_Scene_add_stranger.nd
  unfold c_Scene_add_stranger
  exact (lb_cons (ls_set (i := 3) nd rfl (Or.inl rfl) (le_dget (u1 hr) (le_fld Z.c_Scene Z.n_Scene_by_name (lv 0)) (lv 2) (by intro _ _; rfl)))
  (lb_cons (ls_dput (u1 hr) (le_fld Z.c_Scene Z.n_Scene_called (lv 0)) (lv 1) (le_tup (la_cons (lv 2) (la_cons (le_callTy cd_tuple rfl Z.g_tuple (by rfl) (la_cons (lj_lc (own := [(("column" : PySem.Str), 6)]) rfl nd (li_seq (le_prop (lv 3) Z.c_Table Z.p_Table_columns F_Table_columns hr Z.b_Table_columns)) (blkOk_by (N := N_Scene_add_stranger) (sc := defScope st_Scene_add_stranger) (by decide +kernel)) (by decide) (fun _ _ _ _ _ => (lg_name (i := 6) nd rfl (Or.inl rfl))) (fun _ _ _ _ _ => lts_nil) (fun _ _ _ _ _ => (le_joined (.cons (le_fmt (lv 1)) (.cons le_str (.cons (le_fmt (lv 6)) .nil)))))) la_nil)) la_nil))))
  (lb_cons (ls_for PassesOwn.never rfl (li_enumT rfl Z.g_enumerate (le_ix (le_dget (u1 hr) (le_fld Z.c_Scene Z.n_Scene_called (lv 0)) (lv 1) (by intro _ _; rfl)) le_int (by intro _ _; rfl))) (lg_tup rfl (lgs_cons (lg_name (i := 4) nd rfl (Or.inl rfl)) (lgs_cons (lg_name (i := 5) nd rfl (Or.inl rfl)) lgs_nil))) (lb_one (ls_dput (u1 hr) (le_fld Z.c_Scene Z.n_Scene_numeric (lv 0)) (lv 5) (le_cmp oj_ge (lv 4) (le_callB cd_len rfl Z.g_len (by first | exact boot_len | rfl) (la_cons (le_fld Z.c_Table Z.n_Table_names (lv 3)) la_nil)) (by rfl)))))
  (lb_one (ls_expr (le_bm PySem.F.plainAttrs_list PySem.F.slot_list_append PySem.F.type_list_append md_append (le_fld Z.c_Scene Z.n_Scene_strangers (lv 0)) (la_cons (lv 1) la_nil)))))))
theorem lb_Scene_facts_at (Z : Kn K mg) (F_Scene_entry : FnOk P wd K mg base CX0 k (He.ma K (He.ga K ("Scene" : PySem.Str)) ("entry" : PySem.Str)) (fdOf K (He.ma K (He.ga K ("Scene" : PySem.Str)) ("entry" : PySem.Str))) [("self" : PySem.Str), ("called" : PySem.Str), ("column" : PySem.Str)] (lift K (T_Scene_entry K))) (F_fact_of : FnOk P wd K mg base CX0 k (He.ga K ("fact_of" : PySem.Str)) (fdOf K (He.ga K ("fact_of" : PySem.Str))) [("left" : PySem.Str), ("operator" : PySem.Str), ("right" : PySem.Str)] (lift K (T_fact_of K))) (cdv : Value) (A : Around) (outer : List Env) (s : Shared) (H : Hp) (E : XK) (hr : Room (k + 1) (A.deeper (envOfC ("Scene.facts_at" : PySem.Str) (defScope st_Scene_facts_at) s.heap.objs.size f cdv))) :
    LB (cxOf CX0 P wd K mg base N_Scene_facts_at ("Scene.facts_at" : PySem.Str) (defScope st_Scene_facts_at) f cdv A outer s H E).nox (defBody st_Scene_facts_at) (c_Scene_facts_at K) := by
  have nd : (N_Scene_facts_at).Nodup := sc_Scene_facts_at.nd
  unfold c_Scene_facts_at
  exact (lb_cons (ls_set (i := 3) nd rfl (Or.inl rfl) (le_lstM la_nil))
  (lb_cons (ls_for PassesOwn.never rfl (li_seq (le_fld Z.c_Plan Z.n_Plan_conditions (lv 1))) (lg_tup rfl (lgs_cons (lg_tup rfl (lgs_cons (lg_name (i := 4) nd rfl (Or.inl rfl)) (lgs_cons (lg_name (i := 5) nd rfl (Or.inl rfl)) lgs_nil))) (lgs_cons (lg_name (i := 6) nd rfl (Or.inl rfl)) (lgs_cons (lg_name (i := 7) nd rfl (Or.inl rfl)) lgs_nil)))) (lb_cons (ls_set (i := 8) nd rfl (Or.inl rfl) (le_if (lt_cmp (oj_eq (u64 hr)) (le_callB cd_len rfl Z.g_len (by first | exact boot_len | rfl) (la_cons (lv 7) la_nil)) le_int (by rfl)) (le_ix (lv 7) le_int (by intro _ _; rfl)) (le_meth (lv 0) Z.c_Scene Z.me_Scene_entry F_Scene_entry (hr.mono (Nat.le_succ _)) Z.b_Scene_entry .nil (fun _ => .nil) (la_cons (le_ix (lv 2) (le_ix (lv 7) le_int (by intro _ _; rfl)) (by intro _ _; rfl)) (la_cons (le_ix (lv 7) le_int (by intro _ _; rfl)) la_nil)))))
  (lb_one (ls_expr (le_bm PySem.F.plainAttrs_list PySem.F.slot_list_append PySem.F.type_list_append md_append (lv 3) (la_cons (le_callN F_fact_of (hr.mono (Nat.le_succ _)) rfl Z.g_fact_of Z.k_fact_of Z.b_fact_of (la_cons (le_meth (lv 0) Z.c_Scene Z.me_Scene_entry F_Scene_entry (hr.mono (Nat.le_succ _)) Z.b_Scene_entry .nil (fun _ => .nil) (la_cons (le_ix (lv 2) (lv 4) (by intro _ _; rfl)) (la_cons (lv 5) la_nil))) (la_cons (lv 6) (la_cons (lv 8) la_nil)))) la_nil))))))
  (lb_one (ls_ret (lv 3)))))
theorem lb_Scene_kept_at (Z : Kn K mg) (F_Scene_entry : FnOk P wd K mg base CX0 k (He.ma K (He.ga K ("Scene" : PySem.Str)) ("entry" : PySem.Str)) (fdOf K (He.ma K (He.ga K ("Scene" : PySem.Str)) ("entry" : PySem.Str))) [("self" : PySem.Str), ("called" : PySem.Str), ("column" : PySem.Str)] (lift K (T_Scene_entry K))) (cdv : Value) (A : Around) (outer : List Env) (s : Shared) (H : Hp) (E : XK) (hr : Room (k + 1) (A.deeper (envOfC ("Scene.kept_at" : PySem.Str) (defScope st_Scene_kept_at) s.heap.objs.size f cdv))) :
    LB (cxOf CX0 P wd K mg base N_Scene_kept_at ("Scene.kept_at" : PySem.Str) (defScope st_Scene_kept_at) f cdv A outer s H E).nox (defBody st_Scene_kept_at) (c_Scene_kept_at K) := by
  have nd : (N_Scene_kept_at).Nodup := sc_Scene_kept_at.nd
  unfold c_Scene_kept_at
  exact (lb_one (ls_ret (lj_lc (own := [(("use" : PySem.Str), 3), (("column" : PySem.Str), 4)]) rfl nd (li_seq (le_fld Z.c_Plan Z.n_Plan_kept (lv 1))) (blkOk_by (N := N_Scene_kept_at) (sc := defScope st_Scene_kept_at) (by decide +kernel)) (by decide) (fun _ _ _ _ _ => (lg_tup rfl (lgs_cons (lg_name (i := 3) nd rfl (Or.inl rfl)) (lgs_cons (lg_name (i := 4) nd rfl (Or.inl rfl)) lgs_nil)))) (fun _ _ _ _ _ => lts_nil) (fun _ _ _ _ _ => (le_meth (lv 0) Z.c_Scene Z.me_Scene_entry F_Scene_entry (hr.mono (Nat.le_succ _)) Z.b_Scene_entry .nil (fun _ => .nil) (la_cons (le_ix (lv 2) (lv 3) (by intro _ _; rfl)) (la_cons (lv 4) la_nil)))))))
theorem lb_is_plain (Z : Kn K mg) (F_is_integer : FnOk P wd K mg base CX0 k (He.ga K ("is_integer" : PySem.Str)) (fdOf K (He.ga K ("is_integer" : PySem.Str))) [("thing" : PySem.Str)] (lift K (T_is_integer K))) (cdv : Value) (A : Around) (outer : List Env) (s : Shared) (H : Hp) (E : XK) (hr : Room (k + 1) (A.deeper (envOfC ("is_plain" : PySem.Str) (defScope st_is_plain) s.heap.objs.size f cdv))) :
    LB (cxOf CX0 P wd K mg base N_is_plain ("is_plain" : PySem.Str) (defScope st_is_plain) f cdv A outer s H E).nox (defBody st_is_plain) (c_is_plain K) := by
  have nd : (N_is_plain).Nodup := sc_is_plain.nd
  unfold c_is_plain
  exact (lb_cons (ls_set (i := 1) nd rfl (Or.inl rfl) (le_lstM (la_cons (lv 0) la_nil)))
  (lb_cons (ls_while PassesOwn.never (lt_cmp (oj_ne (u64 hr)) (lv 1) (le_lst la_nil) (by rfl)) (lb_cons (ls_set (i := 2) nd rfl (Or.inl rfl) (le_bm0 PySem.F.plainAttrs_list PySem.F.slot_list_pop PySem.F.type_list_pop md_pop (lv 1)))
  (lb_one (ls_if (lt_val (le_callB (cj_isi "tuple") rfl Z.g_isinstance (by first | exact boot_isinstance | rfl) (la_cons (lv 2) (la_cons (le_bty (T := "tuple") rfl Z.g_tuple (by rfl)) la_nil)))) (lb_one (ls_expr (le_bm PySem.F.plainAttrs_list PySem.F.slot_list_extend PySem.F.type_list_extend md_extend (lv 1) (la_cons (le_callTy cd_list rfl Z.g_list (by rfl) (la_cons (lv 2) la_nil)) la_nil)))) (lb_one (ls_if (LW.lt (lw_and (lt_not (lt_val (le_callB (cj_isi "str") rfl Z.g_isinstance (by first | exact boot_isinstance | rfl) (la_cons (lv 2) (la_cons (le_bty (T := "str") rfl Z.g_str (by rfl)) la_nil))))) (lw_and1 (lt_not (lt_val (le_callN F_is_integer (hr.mono (Nat.le_succ _)) rfl Z.g_is_integer Z.k_is_integer Z.b_is_integer (la_cons (lv 2) la_nil))))))) (lb_one (ls_ret le_bl)) lb_nil))))))
  (lb_one (ls_ret le_bl))))
theorem lb_is_tree (Z : Kn K mg) (F_is_clash : FnOk P wd K mg base CX0 k (He.ga K ("is_clash" : PySem.Str)) (fdOf K (He.ga K ("is_clash" : PySem.Str))) [("thing" : PySem.Str), ("facts" : PySem.Str)] (lift K (T_is_clash K))) (cdv : Value) (A : Around) (outer : List Env) (s : Shared) (H : Hp) (E : XK) (hr : Room (k + 1) (A.deeper (envOfC ("is_tree" : PySem.Str) (defScope st_is_tree) s.heap.objs.size f cdv))) :
    LB (cxOf CX0 P wd K mg base N_is_tree ("is_tree" : PySem.Str) (defScope st_is_tree) f cdv A outer s H E).nox (defBody st_is_tree) (c_is_tree K) := by
  have nd : (N_is_tree).Nodup := sc_is_tree.nd
  unfold c_is_tree
  exact (lb_cons (ls_if (LW.lt (lw_or (lt_not (lt_val (le_callB (cj_isi "tuple") rfl Z.g_isinstance (by first | exact boot_isinstance | rfl) (la_cons (lv 2) (la_cons (le_bty (T := "tuple") rfl Z.g_tuple (by rfl)) la_nil))))) (lw_or1 (lt_cmp (oj_eq (u64 hr)) (lv 2) (le_tup la_nil) (by rfl))))) (lb_one (ls_ret le_bl)) lb_nil)
  (lb_cons (ls_if (lt_cmp (oj_eq (u64 hr)) (le_ix (lv 2) le_int (by intro _ _; rfl)) le_str (by rfl)) (lb_one (ls_ret (le_and (le_cmp (oj_eq (u64 hr)) (le_callB cd_len rfl Z.g_len (by first | exact boot_len | rfl) (la_cons (lv 2) la_nil)) le_int (by rfl)) (le_one (le_callN F_is_clash (hr.mono (Nat.le_succ _)) rfl Z.g_is_clash Z.k_is_clash Z.b_is_clash (la_cons (le_ix (lv 2) le_int (by intro _ _; rfl)) (la_cons (lv 1) la_nil))))))) lb_nil)
  (lb_cons ls_never
  (lb_cons ls_never
  (lb_cons ls_never
  (lb_cons ls_never
  (lb_one ls_never)))))))
theorem lb_Plan_init (Z : Kn K mg)  (cdv : Value) (A : Around) (outer : List Env) (s : Shared) (H : Hp) (E : XK) (hr : Room (k + 1) (A.deeper (envOfC ("Plan.__init__" : PySem.Str) (defScope st_Plan_init) s.heap.objs.size f cdv))) :
    LB (cxOf CX0 P wd K mg base N_Plan_init ("Plan.__init__" : PySem.Str) (defScope st_Plan_init) f cdv A outer s H E).nox (defBody st_Plan_init) (c_Plan_init K) := by
  have nd : (N_Plan_init).Nodup := sc_Plan_init.nd
  unfold c_Plan_init
  exact (lb_cons (ls_fld Z.c_Plan Z.n_Plan_names (lv 0) (lv 1))
  (lb_cons (ls_fld Z.c_Plan Z.n_Plan_conditions (lv 0) (lv 2))
  (lb_cons (ls_fld Z.c_Plan Z.n_Plan_withouts (lv 0) (lv 3))
  (lb_cons (ls_fld Z.c_Plan Z.n_Plan_kept (lv 0) (lv 4))
  (lb_one (ls_fld Z.c_Plan Z.n_Plan_kinds (lv 0) (lv 5)))))))
theorem lb_require (Z : Kn K mg)  (cdv : Value) (A : Around) (outer : List Env) (s : Shared) (H : Hp) (E : XK) (hr : Room (k + 1) (A.deeper (envOfC ("require" : PySem.Str) (defScope st_require) s.heap.objs.size f cdv))) :
    LB (cxOf CX0 P wd K mg base N_require ("require" : PySem.Str) (defScope st_require) f cdv A outer s H E).nox (defBody st_require) (c_require K) := by
  have nd : (N_require).Nodup := sc_require.nd
  unfold c_require
  exact (lb_one (ls_if (lt_not (lt_val (lv 0))) (lb_one ls_never) lb_nil))
theorem lb_table_with (Z : Kn K mg) (F_require : FnOk P wd K mg base CX0 k (He.ga K ("require" : PySem.Str)) (fdOf K (He.ga K ("require" : PySem.Str))) [("good" : PySem.Str)] (lift K (T_require K))) (cdv : Value) (A : Around) (outer : List Env) (s : Shared) (H : Hp) (E : XK) (hr : Room (k + 1) (A.deeper (envOfC ("table_with" : PySem.Str) (defScope st_table_with) s.heap.objs.size f cdv))) :
    LB (cxOf CX0 P wd K mg base N_table_with ("table_with" : PySem.Str) (defScope st_table_with) f cdv A outer s H E).nox (defBody st_table_with) (c_table_with K) := by
  have nd : (N_table_with).Nodup := sc_table_with.nd
  unfold c_table_with
  exact (lb_cons (lj_setLc (i := 2) (own := [(("table" : PySem.Str), 3)]) rfl nd rfl rfl (sw_true rfl rfl rfl (by decide +kernel)) (li_seq (lv 1)) (blkOk_by (N := N_table_with) (sc := defScope st_table_with) (by decide +kernel)) (by decide) (fun _ _ _ _ _ => (lg_name (i := 3) nd rfl (Or.inl rfl))) (fun _ _ _ _ _ => (lts_one (LW.lt (lw_and (lt_val (le_callB (cj_isi "str") rfl Z.g_isinstance (by first | exact boot_isinstance | rfl) (la_cons (lv 0) (la_cons (le_bty (T := "str") rfl Z.g_str (by rfl)) la_nil)))) (lw_and1 (lt_cmp (oj_eq (u64 hr)) (le_fld Z.c_Table Z.n_Table_name (lv 3)) (lv 0) (by rfl))))))) (fun _ _ _ _ _ => (lv 3)))
  (lb_cons (ls_expr (le_callN F_require (hr.mono (Nat.le_succ _)) rfl Z.g_require Z.k_require Z.b_require (la_cons (le_cmp (oj_ne (u64 hr)) (lv 2) (le_lst la_nil) (by rfl)) la_nil)))
  (lb_one (ls_ret (le_ix (lv 2) le_int (by intro _ _; rfl))))))
theorem lb_scope_of (Z : Kn K mg) (F_is_name : FnOk P wd K mg base CX0 k (He.ga K ("is_name" : PySem.Str)) (fdOf K (He.ga K ("is_name" : PySem.Str))) [("thing" : PySem.Str)] (lift K (T_is_name K))) (F_require : FnOk P wd K mg base CX0 k (He.ga K ("require" : PySem.Str)) (fdOf K (He.ga K ("require" : PySem.Str))) [("good" : PySem.Str)] (lift K (T_require K))) (F_table_with : FnOk P wd K mg base CX0 k (He.ga K ("table_with" : PySem.Str)) (fdOf K (He.ga K ("table_with" : PySem.Str))) [("name" : PySem.Str), ("tables" : PySem.Str)] (lift K (T_table_with K))) (cdv : Value) (A : Around) (outer : List Env) (s : Shared) (H : Hp) (E : XK) (hr : Room (k + 1) (A.deeper (envOfC ("scope_of" : PySem.Str) (defScope st_scope_of) s.heap.objs.size f cdv))) :
    LB (cxOf CX0 P wd K mg base N_scope_of ("scope_of" : PySem.Str) (defScope st_scope_of) f cdv A outer s H E).nox (defBody st_scope_of) (c_scope_of K) := by
  have nd : (N_scope_of).Nodup := sc_scope_of.nd
  unfold c_scope_of
  exact (lb_cons (ls_expr (le_callN F_require (hr.mono (Nat.le_succ _)) rfl Z.g_require Z.k_require Z.b_require (la_cons (le_and (le_callB (cj_isi "tuple") rfl Z.g_isinstance (by first | exact boot_isinstance | rfl) (la_cons (lv 0) (la_cons (le_bty (T := "tuple") rfl Z.g_tuple (by rfl)) la_nil))) (le_one (le_chain oj_le oj_le le_int (le_callB cd_len rfl Z.g_len (by first | exact boot_len | rfl) (la_cons (lv 0) la_nil)) (lv 1) (fun o o2 x y z => pe_chain o o2 x y z)))) la_nil)))
  (lb_cons (ls_set (i := 3) nd rfl (Or.inl rfl) (le_lstM la_nil))
  (lb_cons (ls_for PassesOwn.never rfl (li_seq (lv 0)) (lg_name (i := 4) nd rfl (Or.inl rfl)) (lb_cons (ls_expr (le_callN F_require (hr.mono (Nat.le_succ _)) rfl Z.g_require Z.k_require Z.b_require (la_cons (le_and (le_callB (cj_isi "tuple") rfl Z.g_isinstance (by first | exact boot_isinstance | rfl) (la_cons (lv 4) (la_cons (le_bty (T := "tuple") rfl Z.g_tuple (by rfl)) la_nil))) (le_and (le_cmp (oj_eq (u64 hr)) (le_callB cd_len rfl Z.g_len (by first | exact boot_len | rfl) (la_cons (lv 4) la_nil)) le_int (by rfl)) (le_one (le_callN F_is_name (hr.mono (Nat.le_succ _)) rfl Z.g_is_name Z.k_is_name Z.b_is_name (la_cons (le_ix (lv 4) le_int (by intro _ _; rfl)) la_nil))))) la_nil)))
  (lb_one (ls_expr (le_bm PySem.F.plainAttrs_list PySem.F.slot_list_append PySem.F.type_list_append md_append (lv 3) (la_cons (le_tup (la_cons (le_ix (lv 4) le_int (by intro _ _; rfl)) (la_cons (le_callN F_table_with (hr.mono (Nat.le_succ _)) rfl Z.g_table_with Z.k_table_with Z.b_table_with (la_cons (le_ix (lv 4) le_int (by intro _ _; rfl)) (la_cons (lv 2) la_nil))) la_nil))) la_nil))))))
  (lb_one (ls_ret (lv 3))))))
theorem lb_column_of (Z : Kn K mg) (F_Table_columns : FnOk P wd K mg base CX0 k (prA K (He.ga K ("Table" : PySem.Str)) "columns") (fdOf K (prA K (He.ga K ("Table" : PySem.Str)) "columns")) [("self" : PySem.Str)] (lift K (T_Table_columns K))) (F_require : FnOk P wd K mg base CX0 k (He.ga K ("require" : PySem.Str)) (fdOf K (He.ga K ("require" : PySem.Str))) [("good" : PySem.Str)] (lift K (T_require K))) (cdv : Value) (A : Around) (outer : List Env) (s : Shared) (H : Hp) (E : XK) (hr : Room (k + 1) (A.deeper (envOfC ("column_of" : PySem.Str) (defScope st_column_of) s.heap.objs.size f cdv))) :
    LB (cxOf CX0 P wd K mg base N_column_of ("column_of" : PySem.Str) (defScope st_column_of) f cdv A outer s H E).nox (defBody st_column_of) (c_column_of K) := by
  have nd : (N_column_of).Nodup := sc_column_of.nd
  unfold c_column_of
  exact (lb_cons (ls_expr (le_callN F_require (hr.mono (Nat.le_succ _)) rfl Z.g_require Z.k_require Z.b_require (la_cons (le_callB (cj_isi "str") rfl Z.g_isinstance (by first | exact boot_isinstance | rfl) (la_cons (lv 1) (la_cons (le_bty (T := "str") rfl Z.g_str (by rfl)) la_nil))) la_nil)))
  (lb_cons (ls_asg (le_bm PySem.F.plainAttrs_str PySem.F.slot_str_partition PySem.F.type_str_partition md_partition (lv 1) (la_cons le_str la_nil)) (lg_tup rfl (lgs_cons (lg_name (i := 2) nd rfl (Or.inl rfl)) (lgs_cons (lg_name (i := 3) nd rfl (Or.inl rfl)) (lgs_cons (lg_name (i := 4) nd rfl (Or.inl rfl)) lgs_nil)))))
  (lb_cons (ls_for PassesOwn.never rfl (li_enum rfl Z.g_enumerate (lv 0)) (lg_tup rfl (lgs_cons (lg_name (i := 5) nd rfl (Or.inl rfl)) (lgs_cons (lg_tup rfl (lgs_cons (lg_name (i := 6) nd rfl (Or.inl rfl)) (lgs_cons (lg_name (i := 7) nd rfl (Or.inl rfl)) lgs_nil))) lgs_nil))) (lb_one (ls_if (LW.lt (lw_and (lt_cmp (oj_eq (u64 hr)) (lv 6) (lv 2) (by rfl)) (lw_and (lt_cmp (oj_eq (u64 hr)) (lv 3) le_str (by rfl)) (lw_and1 (lt_cmp (oj_in (u65 hr)) (lv 4) (le_prop (lv 7) Z.c_Table Z.p_Table_columns F_Table_columns hr Z.b_Table_columns) (by rfl)))))) (lb_one (ls_ret (le_tup (la_cons (lv 5) (la_cons (le_tix (le_prop (lv 7) Z.c_Table Z.p_Table_columns F_Table_columns hr Z.b_Table_columns) (lv 4)) la_nil))))) lb_nil)))
  (lb_one ls_never))))
theorem lb_is_name_column (Z : Kn K mg)  (cdv : Value) (A : Around) (outer : List Env) (s : Shared) (H : Hp) (E : XK) (hr : Room (k + 1) (A.deeper (envOfC ("is_name_column" : PySem.Str) (defScope st_is_name_column) s.heap.objs.size f cdv))) :
    LB (cxOf CX0 P wd K mg base N_is_name_column ("is_name_column" : PySem.Str) (defScope st_is_name_column) f cdv A outer s H E).nox (defBody st_is_name_column) (c_is_name_column K) := by
  have nd : (N_is_name_column).Nodup := sc_is_name_column.nd
  unfold c_is_name_column
  exact (lb_cons (ls_asg (lv 1) (lg_tup rfl (lgs_cons (lg_name (i := 2) nd rfl (Or.inl rfl)) (lgs_cons (lg_name (i := 3) nd rfl (Or.inl rfl)) lgs_nil))))
  (lb_one (ls_ret (le_cmp oj_lt (lv 3) (le_callB cd_len rfl Z.g_len (by first | exact boot_len | rfl) (la_cons (le_fld Z.c_Table Z.n_Table_names (le_ix (le_ix (lv 0) (lv 2) (by intro _ _; rfl)) le_int (by intro _ _; rfl))) la_nil)) (by rfl)))))
theorem lb_name_operand (Z : Kn K mg) (F_column_of : FnOk P wd K mg base CX0 k (He.ga K ("column_of" : PySem.Str)) (fdOf K (He.ga K ("column_of" : PySem.Str))) [("scope" : PySem.Str), ("thing" : PySem.Str)] (lift K (T_column_of K))) (F_is_name : FnOk P wd K mg base CX0 k (He.ga K ("is_name" : PySem.Str)) (fdOf K (He.ga K ("is_name" : PySem.Str))) [("thing" : PySem.Str)] (lift K (T_is_name K))) (F_is_name_column : FnOk P wd K mg base CX0 k (He.ga K ("is_name_column" : PySem.Str)) (fdOf K (He.ga K ("is_name_column" : PySem.Str))) [("scope" : PySem.Str), ("column" : PySem.Str)] (lift K (T_is_name_column K))) (F_require : FnOk P wd K mg base CX0 k (He.ga K ("require" : PySem.Str)) (fdOf K (He.ga K ("require" : PySem.Str))) [("good" : PySem.Str)] (lift K (T_require K))) (cdv : Value) (A : Around) (outer : List Env) (s : Shared) (H : Hp) (E : XK) (hr : Room (k + 1) (A.deeper (envOfC ("name_operand" : PySem.Str) (defScope st_name_operand) s.heap.objs.size f cdv))) :
    LB (cxOf CX0 P wd K mg base N_name_operand ("name_operand" : PySem.Str) (defScope st_name_operand) f cdv A outer s H E).nox (defBody st_name_operand) (c_name_operand K) := by
  have nd : (N_name_operand).Nodup := sc_name_operand.nd
  unfold c_name_operand
  exact (lb_cons (ls_if (lt_val (le_callN F_is_name (hr.mono (Nat.le_succ _)) rfl Z.g_is_name Z.k_is_name Z.b_is_name (la_cons (lv 1) la_nil))) (lb_one (ls_ret (le_tup (la_cons (lv 1) la_nil)))) lb_nil)
  (lb_cons (ls_set (i := 2) nd rfl (Or.inl rfl) (le_callN F_column_of (hr.mono (Nat.le_succ _)) rfl Z.g_column_of Z.k_column_of Z.b_column_of (la_cons (lv 0) (la_cons (lv 1) la_nil))))
  (lb_cons (ls_expr (le_callN F_require (hr.mono (Nat.le_succ _)) rfl Z.g_require Z.k_require Z.b_require (la_cons (le_callN F_is_name_column (hr.mono (Nat.le_succ _)) rfl Z.g_is_name_column Z.k_is_name_column Z.b_is_name_column (la_cons (lv 0) (la_cons (lv 2) la_nil))) la_nil)))
  (lb_one (ls_ret (lv 2))))))
theorem lb_number_operand (Z : Kn K mg) (F_column_of : FnOk P wd K mg base CX0 k (He.ga K ("column_of" : PySem.Str)) (fdOf K (He.ga K ("column_of" : PySem.Str))) [("scope" : PySem.Str), ("thing" : PySem.Str)] (lift K (T_column_of K))) (F_is_integer : FnOk P wd K mg base CX0 k (He.ga K ("is_integer" : PySem.Str)) (fdOf K (He.ga K ("is_integer" : PySem.Str))) [("thing" : PySem.Str)] (lift K (T_is_integer K))) (F_is_name_column : FnOk P wd K mg base CX0 k (He.ga K ("is_name_column" : PySem.Str)) (fdOf K (He.ga K ("is_name_column" : PySem.Str))) [("scope" : PySem.Str), ("column" : PySem.Str)] (lift K (T_is_name_column K))) (F_require : FnOk P wd K mg base CX0 k (He.ga K ("require" : PySem.Str)) (fdOf K (He.ga K ("require" : PySem.Str))) [("good" : PySem.Str)] (lift K (T_require K))) (cdv : Value) (A : Around) (outer : List Env) (s : Shared) (H : Hp) (E : XK) (hr : Room (k + 1) (A.deeper (envOfC ("number_operand" : PySem.Str) (defScope st_number_operand) s.heap.objs.size f cdv))) :
    LB (cxOf CX0 P wd K mg base N_number_operand ("number_operand" : PySem.Str) (defScope st_number_operand) f cdv A outer s H E).nox (defBody st_number_operand) (c_number_operand K) := by
  have nd : (N_number_operand).Nodup := sc_number_operand.nd
  unfold c_number_operand
  exact (lb_cons (ls_if (lt_val (le_callN F_is_integer (hr.mono (Nat.le_succ _)) rfl Z.g_is_integer Z.k_is_integer Z.b_is_integer (la_cons (lv 2) la_nil))) (lb_one (ls_ret (le_tup (la_cons (lv 2) la_nil)))) lb_nil)
  (lb_cons (ls_set (i := 3) nd rfl (Or.inl rfl) (le_callN F_column_of (hr.mono (Nat.le_succ _)) rfl Z.g_column_of Z.k_column_of Z.b_column_of (la_cons (lv 0) (la_cons (lv 2) la_nil))))
  (lb_cons (ls_expr (le_callN F_require (hr.mono (Nat.le_succ _)) rfl Z.g_require Z.k_require Z.b_require (la_cons (le_not (le_callN F_is_name_column (hr.mono (Nat.le_succ _)) rfl Z.g_is_name_column Z.k_is_name_column Z.b_is_name_column (la_cons (lv 0) (la_cons (lv 3) la_nil)))) la_nil)))
  (lb_cons (ls_expr (le_callN F_require (hr.mono (Nat.le_succ _)) rfl Z.g_require Z.k_require Z.b_require (la_cons (le_or (le_cmp (oj_ne (u64 hr)) (le_fld Z.c_Table Z.n_Table_name (le_ix (le_ix (lv 0) (le_ix (lv 1) le_int (by intro _ _; rfl)) (by intro _ _; rfl)) le_int (by intro _ _; rfl))) (le_fld Z.c_Table Z.n_Table_name (le_ix (le_ix (lv 0) (le_ix (lv 3) le_int (by intro _ _; rfl)) (by intro _ _; rfl)) le_int (by intro _ _; rfl))) (by rfl)) (le_one (le_cmp (oj_eq (u64 hr)) (le_ix (lv 1) le_int (by intro _ _; rfl)) (le_ix (lv 3) le_int (by intro _ _; rfl)) (by rfl)))) la_nil)))
  (lb_one (ls_ret (lv 3)))))))
theorem lb_condition_of (Z : Kn K mg) (F_column_of : FnOk P wd K mg base CX0 k (He.ga K ("column_of" : PySem.Str)) (fdOf K (He.ga K ("column_of" : PySem.Str))) [("scope" : PySem.Str), ("thing" : PySem.Str)] (lift K (T_column_of K))) (F_is_name_column : FnOk P wd K mg base CX0 k (He.ga K ("is_name_column" : PySem.Str)) (fdOf K (He.ga K ("is_name_column" : PySem.Str))) [("scope" : PySem.Str), ("column" : PySem.Str)] (lift K (T_is_name_column K))) (F_name_operand : FnOk P wd K mg base CX0 k (He.ga K ("name_operand" : PySem.Str)) (fdOf K (He.ga K ("name_operand" : PySem.Str))) [("scope" : PySem.Str), ("thing" : PySem.Str)] (lift K (T_name_operand K))) (F_number_operand : FnOk P wd K mg base CX0 k (He.ga K ("number_operand" : PySem.Str)) (fdOf K (He.ga K ("number_operand" : PySem.Str))) [("scope" : PySem.Str), ("left" : PySem.Str), ("thing" : PySem.Str)] (lift K (T_number_operand K))) (F_require : FnOk P wd K mg base CX0 k (He.ga K ("require" : PySem.Str)) (fdOf K (He.ga K ("require" : PySem.Str))) [("good" : PySem.Str)] (lift K (T_require K))) (cdv : Value) (A : Around) (outer : List Env) (s : Shared) (H : Hp) (E : XK) (hr : Room (k + 1) (A.deeper (envOfC ("condition_of" : PySem.Str) (defScope st_condition_of) s.heap.objs.size f cdv))) :
    LB (cxOf CX0 P wd K mg base N_condition_of ("condition_of" : PySem.Str) (defScope st_condition_of) f cdv A outer s H E).nox (defBody st_condition_of) (c_condition_of K) := by
  have nd : (N_condition_of).Nodup := sc_condition_of.nd
  unfold c_condition_of
  exact (lb_cons (ls_expr (le_callN F_require (hr.mono (Nat.le_succ _)) rfl Z.g_require Z.k_require Z.b_require (la_cons (le_and (le_callB (cj_isi "tuple") rfl Z.g_isinstance (by first | exact boot_isinstance | rfl) (la_cons (lv 1) (la_cons (le_bty (T := "tuple") rfl Z.g_tuple (by rfl)) la_nil))) (le_and (le_cmp (oj_eq (u64 hr)) (le_callB cd_len rfl Z.g_len (by first | exact boot_len | rfl) (la_cons (lv 1) la_nil)) le_int (by rfl)) (le_one (le_callB (cj_isi "str") rfl Z.g_isinstance (by first | exact boot_isinstance | rfl) (la_cons (le_ix (lv 1) le_int (by intro _ _; rfl)) (la_cons (le_bty (T := "str") rfl Z.g_str (by rfl)) la_nil)))))) la_nil)))
  (lb_cons (ls_set (i := 2) nd rfl (Or.inl rfl) (le_callN F_column_of (hr.mono (Nat.le_succ _)) rfl Z.g_column_of Z.k_column_of Z.b_column_of (la_cons (lv 0) (la_cons (le_ix (lv 1) le_int (by intro _ _; rfl)) la_nil))))
  (lb_cons (ls_if (lt_val (le_callN F_is_name_column (hr.mono (Nat.le_succ _)) rfl Z.g_is_name_column Z.k_is_name_column Z.b_is_name_column (la_cons (lv 0) (la_cons (lv 2) la_nil)))) (lb_cons (ls_expr (le_callN F_require (hr.mono (Nat.le_succ _)) rfl Z.g_require Z.k_require Z.b_require (la_cons (le_cmp (oj_in (u65 hr)) (le_ix (lv 1) le_int (by intro _ _; rfl)) (le_gtup (xs := [("=" : PySem.Str), ("!=" : PySem.Str)]) rfl Z.g_NAME_OPERATORS Z.t_NAME_OPERATORS) (by rfl)) la_nil)))
  (lb_one (ls_ret (le_tup (la_cons (lv 2) (la_cons (le_ix (lv 1) le_int (by intro _ _; rfl)) (la_cons (le_callN F_name_operand (hr.mono (Nat.le_succ _)) rfl Z.g_name_operand Z.k_name_operand Z.b_name_operand (la_cons (lv 0) (la_cons (le_ix (lv 1) le_int (by intro _ _; rfl)) la_nil))) la_nil))))))) lb_nil)
  (lb_cons (ls_expr (le_callN F_require (hr.mono (Nat.le_succ _)) rfl Z.g_require Z.k_require Z.b_require (la_cons (le_cmp (oj_in (u65 hr)) (le_ix (lv 1) le_int (by intro _ _; rfl)) (le_gtup (xs := [("=" : PySem.Str), ("!=" : PySem.Str), ("<=" : PySem.Str), (">=" : PySem.Str)]) rfl Z.g_NUMBER_OPERATORS Z.t_NUMBER_OPERATORS) (by rfl)) la_nil)))
  (lb_one (ls_ret (le_tup (la_cons (lv 2) (la_cons (le_ix (lv 1) le_int (by intro _ _; rfl)) (la_cons (le_callN F_number_operand (hr.mono (Nat.le_succ _)) rfl Z.g_number_operand Z.k_number_operand Z.b_number_operand (la_cons (lv 0) (la_cons (lv 2) (la_cons (le_ix (lv 1) le_int (by intro _ _; rfl)) la_nil)))) la_nil))))))))))
theorem lb_conditions_of (Z : Kn K mg) (F_condition_of : FnOk P wd K mg base CX0 k (He.ga K ("condition_of" : PySem.Str)) (fdOf K (He.ga K ("condition_of" : PySem.Str))) [("scope" : PySem.Str), ("thing" : PySem.Str)] (lift K (T_condition_of K))) (F_require : FnOk P wd K mg base CX0 k (He.ga K ("require" : PySem.Str)) (fdOf K (He.ga K ("require" : PySem.Str))) [("good" : PySem.Str)] (lift K (T_require K))) (cdv : Value) (A : Around) (outer : List Env) (s : Shared) (H : Hp) (E : XK) (hr : Room (k + 1) (A.deeper (envOfC ("conditions_of" : PySem.Str) (defScope st_conditions_of) s.heap.objs.size f cdv))) :
    LB (cxOf CX0 P wd K mg base N_conditions_of ("conditions_of" : PySem.Str) (defScope st_conditions_of) f cdv A outer s H E).nox (defBody st_conditions_of) (c_conditions_of K) := by
  have nd : (N_conditions_of).Nodup := sc_conditions_of.nd
  unfold c_conditions_of
  exact (lb_cons (ls_expr (le_callN F_require (hr.mono (Nat.le_succ _)) rfl Z.g_require Z.k_require Z.b_require (la_cons (le_callB (cj_isi "tuple") rfl Z.g_isinstance (by first | exact boot_isinstance | rfl) (la_cons (lv 1) (la_cons (le_bty (T := "tuple") rfl Z.g_tuple (by rfl)) la_nil))) la_nil)))
  (lb_one (ls_ret (le_callTy cd_tuple rfl Z.g_tuple (by rfl) (la_cons (lj_lc (own := [(("thing" : PySem.Str), 2)]) rfl nd (li_seq (lv 1)) (blkOk_by (N := N_conditions_of) (sc := defScope st_conditions_of) (by decide +kernel)) (by decide) (fun _ _ _ _ _ => (lg_name (i := 2) nd rfl (Or.inl rfl))) (fun _ _ _ _ _ => lts_nil) (fun _ _ _ _ _ => (le_callN F_condition_of (hr.mono (Nat.le_succ _)) rfl Z.g_condition_of Z.k_condition_of Z.b_condition_of (la_cons (lv 0) (la_cons (lv 2) la_nil))))) la_nil)))))
theorem lb_plan_of (Z : Kn K mg) (F_Plan_init : FnOk P wd K mg base CX0 k (He.ma K (He.ga K ("Plan" : PySem.Str)) ("__init__" : PySem.Str)) (fdOf K (He.ma K (He.ga K ("Plan" : PySem.Str)) ("__init__" : PySem.Str))) [("self" : PySem.Str), ("names" : PySem.Str), ("conditions" : PySem.Str), ("withouts" : PySem.Str), ("kept" : PySem.Str), ("kinds" : PySem.Str)] (lift K (T_Plan_init K))) (F_Select_kept_columns : FnOk P wd K mg base CX0 k (He.ma K (He.ga K ("Select" : PySem.Str)) ("kept_columns" : PySem.Str)) (fdOf K (He.ma K (He.ga K ("Select" : PySem.Str)) ("kept_columns" : PySem.Str))) [("self" : PySem.Str)] (lift K (T_Select_kept_columns K))) (F_column_of : FnOk P wd K mg base CX0 k (He.ga K ("column_of" : PySem.Str)) (fdOf K (He.ga K ("column_of" : PySem.Str))) [("scope" : PySem.Str), ("thing" : PySem.Str)] (lift K (T_column_of K))) (F_conditions_of : FnOk P wd K mg base CX0 k (He.ga K ("conditions_of" : PySem.Str)) (fdOf K (He.ga K ("conditions_of" : PySem.Str))) [("scope" : PySem.Str), ("things" : PySem.Str)] (lift K (T_conditions_of K))) (F_is_name_column : FnOk P wd K mg base CX0 k (He.ga K ("is_name_column" : PySem.Str)) (fdOf K (He.ga K ("is_name_column" : PySem.Str))) [("scope" : PySem.Str), ("column" : PySem.Str)] (lift K (T_is_name_column K))) (F_require : FnOk P wd K mg base CX0 k (He.ga K ("require" : PySem.Str)) (fdOf K (He.ga K ("require" : PySem.Str))) [("good" : PySem.Str)] (lift K (T_require K))) (F_scope_of : FnOk P wd K mg base CX0 k (He.ga K ("scope_of" : PySem.Str)) (fdOf K (He.ga K ("scope_of" : PySem.Str))) [("uses" : PySem.Str), ("most" : PySem.Str), ("tables" : PySem.Str)] (lift K (T_scope_of K))) (cdv : Value) (A : Around) (outer : List Env) (s : Shared) (H : Hp) (E : XK) (hr : Room (k + 1) (A.deeper (envOfC ("plan_of" : PySem.Str) (defScope st_plan_of) s.heap.objs.size f cdv))) :
    LB (cxOf CX0 P wd K mg base N_plan_of ("plan_of" : PySem.Str) (defScope st_plan_of) f cdv A outer s H E).nox (defBody st_plan_of) (c_plan_of K) := by
  have nd : (N_plan_of).Nodup := sc_plan_of.nd
  unfold c_plan_of
  exact (lb_cons (ls_set (i := 2) nd rfl (Or.inr rfl) (le_callN F_scope_of (hr.mono (Nat.le_succ _)) rfl Z.g_scope_of Z.k_scope_of Z.b_scope_of (la_cons (le_fld Z.c_Select Z.n_Select_uses (lv 0)) (la_cons (le_gint (i := 3) rfl Z.g_MOST_USES_resolving) (la_cons (lv 1) la_nil)))))
  (lb_cons (ls_set (i := 3) nd rfl (Or.inl rfl) (le_callN F_conditions_of (hr.mono (Nat.le_succ _)) rfl Z.g_conditions_of Z.k_conditions_of Z.b_conditions_of (la_cons (lv 2) (la_cons (le_fld Z.c_Select Z.n_Select_where (lv 0)) la_nil))))
  (lb_cons (lj_setLc (i := 4) (own := [(("alias" : PySem.Str), 11), (("table" : PySem.Str), 12)]) rfl nd rfl rfl (sw_true rfl rfl rfl (by decide +kernel)) (li_seq (lv 2)) (blkOk_by (N := N_plan_of) (sc := defScope st_plan_of) (by decide +kernel)) (by decide) (fun _ _ _ _ _ => (lg_tup rfl (lgs_cons (lg_name (i := 11) nd rfl (Or.inl rfl)) (lgs_cons (lg_name (i := 12) nd rfl (Or.inl rfl)) lgs_nil)))) (fun _ _ _ _ _ => lts_nil) (fun _ _ _ _ _ => (lv 11)))
  (lb_cons (ls_expr (le_callN F_require (hr.mono (Nat.le_succ _)) rfl Z.g_require Z.k_require Z.b_require (la_cons (le_and (le_callB (cj_isi "tuple") rfl Z.g_isinstance (by first | exact boot_isinstance | rfl) (la_cons (le_fld Z.c_Select Z.n_Select_without (lv 0)) (la_cons (le_bty (T := "tuple") rfl Z.g_tuple (by rfl)) la_nil))) (le_one (le_cmp oj_le (le_callB cd_len rfl Z.g_len (by first | exact boot_len | rfl) (la_cons (le_fld Z.c_Select Z.n_Select_without (lv 0)) la_nil)) (le_gint (i := 2) rfl Z.g_MOST_WITHOUTS) (by rfl)))) la_nil)))
  (lb_cons (ls_set (i := 5) nd rfl (Or.inl rfl) (le_lst la_nil))
  (lb_cons (ls_for PassesOwn.never rfl (li_seq (le_fld Z.c_Select Z.n_Select_without (lv 0))) (lg_name (i := 6) nd rfl (Or.inl rfl)) lb_never)
  (lb_cons (ls_expr (le_callN F_require (hr.mono (Nat.le_succ _)) rfl Z.g_require Z.k_require Z.b_require (la_cons (le_cmp (oj_eq (u64 hr)) (le_lenSet rfl rfl Z.g_len rfl Z.g_set (lv 4)) (le_callB cd_len rfl Z.g_len (by first | exact boot_len | rfl) (la_cons (lv 4) la_nil)) (by rfl)) la_nil)))
  (lb_cons (ls_set (i := 9) nd rfl (Or.inl rfl) (le_callTy cd_tuple rfl Z.g_tuple (by rfl) (la_cons (lj_lc (own := [(("column" : PySem.Str), 13)]) rfl nd (li_seq (le_meth0 (lv 0) Z.c_Select Z.me_Select_kept_columns F_Select_kept_columns (hr.mono (Nat.le_succ _)) Z.b_Select_kept_columns .nil (fun _ => .nil))) (blkOk_by (N := N_plan_of) (sc := defScope st_plan_of) (by decide +kernel)) (by decide) (fun _ _ _ _ _ => (lg_name (i := 13) nd rfl (Or.inl rfl))) (fun _ _ _ _ _ => lts_nil) (fun _ _ _ _ _ => (le_callN F_column_of (hr.mono (Nat.le_succ _)) rfl Z.g_column_of Z.k_column_of Z.b_column_of (la_cons (lv 2) (la_cons (lv 13) la_nil))))) la_nil)))
  (lb_cons (ls_set (i := 10) nd rfl (Or.inl rfl) (le_callTy cd_tuple rfl Z.g_tuple (by rfl) (la_cons (lj_lc (own := [(("column" : PySem.Str), 13)]) rfl nd (li_seq (lv 9)) (blkOk_by (N := N_plan_of) (sc := defScope st_plan_of) (by decide +kernel)) (by decide) (fun _ _ _ _ _ => (lg_name (i := 13) nd rfl (Or.inl rfl))) (fun _ _ _ _ _ => lts_nil) (fun _ _ _ _ _ => (le_if (lt_val (le_callN F_is_name_column (hr.mono (Nat.le_succ _)) rfl Z.g_is_name_column Z.k_is_name_column Z.b_is_name_column (la_cons (lv 2) (la_cons (lv 13) la_nil)))) le_str le_str))) la_nil)))
  (lb_one (ls_ret (le_newF0 Z.m_Plan F_Plan_init hr rfl Z.g_Plan Z.b_Plan_init (la_cons (le_callTy cd_tuple rfl Z.g_tuple (by rfl) (la_cons (lj_lc (own := [(("alias" : PySem.Str), 11), (("table" : PySem.Str), 12)]) rfl nd (li_seq (lv 2)) (blkOk_by (N := N_plan_of) (sc := defScope st_plan_of) (by decide +kernel)) (by decide) (fun _ _ _ _ _ => (lg_tup rfl (lgs_cons (lg_name (i := 11) nd rfl (Or.inl rfl)) (lgs_cons (lg_name (i := 12) nd rfl (Or.inl rfl)) lgs_nil)))) (fun _ _ _ _ _ => lts_nil) (fun _ _ _ _ _ => (le_fld Z.c_Table Z.n_Table_name (lv 12)))) la_nil)) (la_cons (lv 3) (la_cons (le_callTy cd_tuple rfl Z.g_tuple (by rfl) (la_cons (lv 5) la_nil)) (la_cons (lv 9) (la_cons (lv 10) la_nil)))))))))))))))))
theorem lb_Question_fits (Z : Kn K mg) (F_Select_check : L2.FnR P wd K mg base CX0 k (He.ma K (He.ga K ("Select" : PySem.Str)) ("check" : PySem.Str)) (lift K (starT 1 (T_Select_check K)))) (cdv : Value) (A : Around) (outer : List Env) (s : Shared) (H : Hp) (E : XK) (hr : Room (k + 1) (A.deeper (envOfC ("Question.fits" : PySem.Str) (defScope st_Question_fits) s.heap.objs.size f cdv))) :
    LB (cxOf CX0 P wd K mg base N_Question_fits ("Question.fits" : PySem.Str) (defScope st_Question_fits) f cdv A outer s H E).nox (defBody st_Question_fits) (c_Question_fits K) := by
  have nd : (N_Question_fits).Nodup := sc_Question_fits.nd
  unfold c_Question_fits
  exact (lb_cons (ls_try rfl rfl ⟨rfl, by decide, .inl Z.g_InvalidQuestion⟩ (fun pn xe po => (lb_one (ls_expr (le_methS (lv 0) Z.c_Select Z.bm_Select_check F_Select_check (hr.mono (Nat.le_succ _)) (lv 1))))))
  (lb_one (ls_ret le_bl)))
theorem lb_Select_init (Z : Kn K mg)  (cdv : Value) (A : Around) (outer : List Env) (s : Shared) (H : Hp) (E : XK) (hr : Room (k + 1) (A.deeper (envOfC ("Select.__init__" : PySem.Str) (defScope st_Select_init) s.heap.objs.size f cdv))) :
    LB (cxOf CX0 P wd K mg base N_Select_init ("Select.__init__" : PySem.Str) (defScope st_Select_init) f cdv A outer s H E).nox (defBody st_Select_init) (c_Select_init K) := by
  have nd : (N_Select_init).Nodup := sc_Select_init.nd
  unfold c_Select_init
  exact (lb_cons (ls_fld Z.c_Select Z.n_Select_uses (lv 0) (lv 1))
  (lb_cons (ls_fld Z.c_Select Z.n_Select_keep (lv 0) (lv 2))
  (lb_cons (ls_fld Z.c_Select Z.n_Select_where (lv 0) (lv 3))
  (lb_one (ls_fld Z.c_Select Z.n_Select_without (lv 0) (lv 4))))))
theorem lb_Select_kept_columns (Z : Kn K mg) (F_require : FnOk P wd K mg base CX0 k (He.ga K ("require" : PySem.Str)) (fdOf K (He.ga K ("require" : PySem.Str))) [("good" : PySem.Str)] (lift K (T_require K))) (cdv : Value) (A : Around) (outer : List Env) (s : Shared) (H : Hp) (E : XK) (hr : Room (k + 1) (A.deeper (envOfC ("Select.kept_columns" : PySem.Str) (defScope st_Select_kept_columns) s.heap.objs.size f cdv))) :
    LB (cxOf CX0 P wd K mg base N_Select_kept_columns ("Select.kept_columns" : PySem.Str) (defScope st_Select_kept_columns) f cdv A outer s H E).nox (defBody st_Select_kept_columns) (c_Select_kept_columns K) := by
  have nd : (N_Select_kept_columns).Nodup := sc_Select_kept_columns.nd
  unfold c_Select_kept_columns
  exact (lb_cons (ls_expr (le_callN F_require (hr.mono (Nat.le_succ _)) rfl Z.g_require Z.k_require Z.b_require (la_cons (le_and (le_callB (cj_isi "tuple") rfl Z.g_isinstance (by first | exact boot_isinstance | rfl) (la_cons (le_fld Z.c_Select Z.n_Select_keep (lv 0)) (la_cons (le_bty (T := "tuple") rfl Z.g_tuple (by rfl)) la_nil))) (le_one (le_chain oj_le oj_le le_int (le_callB cd_len rfl Z.g_len (by first | exact boot_len | rfl) (la_cons (le_fld Z.c_Select Z.n_Select_keep (lv 0)) la_nil)) (le_gint (i := 4) rfl Z.g_MOST_KEPT) (fun o o2 x y z => pe_chain o o2 x y z)))) la_nil)))
  (lb_one (ls_ret (le_fld Z.c_Select Z.n_Select_keep (lv 0)))))
theorem lb_Select_check (Z : Kn K mg) (F_plan_of : FnOk P wd K mg base CX0 k (He.ga K ("plan_of" : PySem.Str)) (fdOf K (He.ga K ("plan_of" : PySem.Str))) [("question" : PySem.Str), ("tables" : PySem.Str)] (lift K (T_plan_of K))) (cdv : Value) (A : Around) (outer : List Env) (s : Shared) (H : Hp) (E : XK) (hr : Room (k + 1) (A.deeper (envOfC ("Select.check" : PySem.Str) (defScope st_Select_check) s.heap.objs.size f cdv))) :
    LB (cxOf CX0 P wd K mg base N_Select_check ("Select.check" : PySem.Str) (defScope st_Select_check) f cdv A outer s H E).nox (defBody st_Select_check) (c_Select_check K) := by
  have nd : (N_Select_check).Nodup := sc_Select_check.nd
  unfold c_Select_check
  exact (lb_one (ls_expr (le_callN F_plan_of (hr.mono (Nat.le_succ _)) rfl Z.g_plan_of Z.k_plan_of Z.b_plan_of (la_cons (lv 0) (la_cons (lv 1) la_nil)))))
theorem lb_check_select (Z : Kn K mg) (F_Question_fits : L2.FnR P wd K mg base CX0 k (He.ma K (He.ga K ("Select" : PySem.Str)) "fits") (lift K (starT 1 (T_Question_fits K)))) (cdv : Value) (A : Around) (outer : List Env) (s : Shared) (H : Hp) (E : XK) (hr : Room (k + 1) (A.deeper (envOfC ("check_select" : PySem.Str) (defScope st_check_select) s.heap.objs.size f cdv))) :
    LB (cxOf CX0 P wd K mg base N_check_select ("check_select" : PySem.Str) (defScope st_check_select) f cdv A outer s H E).nox (defBody st_check_select) (c_check_select K) := by
  have nd : (N_check_select).Nodup := sc_check_select.nd
  unfold c_check_select
  exact (lb_cons (ls_if (LW.lt (lw_or (lt_not (lt_val (le_callB (cd_isiC Z.c_Select Z.i1_Select Z.i2 Z.i3 Z.i4_Select Z.i5_Select) rfl Z.g_isinstance (by first | exact boot_isinstance | rfl) (la_cons (lv 0) (la_cons (le_gcls rfl Z.g_Select) la_nil))))) (lw_or1 (lt_not (lt_val (le_methS (lv 0) Z.c_Select Z.bm_Select_fits F_Question_fits (hr.mono (Nat.le_succ _)) (lv 1))))))) (lb_one ls_never) lb_nil)
  (lb_cons (ls_set (i := 2) nd rfl (Or.inl rfl) (le_op od_add (le_callB cd_len rfl Z.g_len (by first | exact boot_len | rfl) (la_cons (le_fld Z.c_Select Z.n_Select_where (lv 0)) la_nil)) (le_callB cd_len rfl Z.g_len (by first | exact boot_len | rfl) (la_cons (le_fld Z.c_Select Z.n_Select_keep (lv 0)) la_nil))))
  (lb_one (ls_if (LW.lt (lw_or (lt_cmp (oj_ne (u64 hr)) (le_fld Z.c_Select Z.n_Select_without (lv 0)) (le_tup la_nil) (by rfl)) (lw_or (lt_cmp oj_gt (le_callB cd_len rfl Z.g_len (by first | exact boot_len | rfl) (la_cons (le_fld Z.c_Select Z.n_Select_uses (lv 0)) la_nil)) (le_gint (i := 2) rfl Z.g_MOST_USES_shapes) (by rfl)) (lw_or1 (lt_cmp oj_gt (lv 2) (le_gint (i := 6) rfl Z.g_MOST_PARTS) (by rfl)))))) (lb_one ls_never) lb_nil))))
theorem lb_check_selects (Z : Kn K mg) (F_check_select : FnOk P wd K mg base CX0 k (He.ga K ("check_select" : PySem.Str)) (fdOf K (He.ga K ("check_select" : PySem.Str))) [("question" : PySem.Str), ("tables" : PySem.Str)] (lift K (T_check_select K))) (F_plan_of : FnOk P wd K mg base CX0 k (He.ga K ("plan_of" : PySem.Str)) (fdOf K (He.ga K ("plan_of" : PySem.Str))) [("question" : PySem.Str), ("tables" : PySem.Str)] (lift K (T_plan_of K))) (cdv : Value) (A : Around) (outer : List Env) (s : Shared) (H : Hp) (E : XK) (hr : Room (k + 1) (A.deeper (envOfC ("check_selects" : PySem.Str) (defScope st_check_selects) s.heap.objs.size f cdv))) :
    LB (cxOf CX0 P wd K mg base N_check_selects ("check_selects" : PySem.Str) (defScope st_check_selects) f cdv A outer s H E).nox (defBody st_check_selects) (c_check_selects K) := by
  have nd : (N_check_selects).Nodup := sc_check_selects.nd
  unfold c_check_selects
  exact (lb_cons (ls_expr (le_callN F_check_select (hr.mono (Nat.le_succ _)) rfl Z.g_check_select Z.k_check_select Z.b_check_select (la_cons (lv 0) (la_cons (lv 2) la_nil))))
  (lb_cons (ls_expr (le_callN F_check_select (hr.mono (Nat.le_succ _)) rfl Z.g_check_select Z.k_check_select Z.b_check_select (la_cons (lv 1) (la_cons (lv 2) la_nil))))
  (lb_one (ls_if (lt_cmp (oj_ne (u64 hr)) (le_fld Z.c_Plan Z.n_Plan_kinds (le_callN F_plan_of (hr.mono (Nat.le_succ _)) rfl Z.g_plan_of Z.k_plan_of Z.b_plan_of (la_cons (lv 0) (la_cons (lv 2) la_nil)))) (le_fld Z.c_Plan Z.n_Plan_kinds (le_callN F_plan_of (hr.mono (Nat.le_succ _)) rfl Z.g_plan_of Z.k_plan_of Z.b_plan_of (la_cons (lv 1) (la_cons (lv 2) la_nil)))) (by rfl)) (lb_one ls_never) lb_nil))))
theorem lb_pair_scene (Z : Kn K mg) (F_Scene_init : FnOk P wd K mg base CX0 k (He.ma K (He.ga K ("Scene" : PySem.Str)) ("__init__" : PySem.Str)) (fdOf K (He.ma K (He.ga K ("Scene" : PySem.Str)) ("__init__" : PySem.Str))) [("self" : PySem.Str), ("tables" : PySem.Str), ("plan" : PySem.Str), ("rows" : PySem.Str), ("kinds" : PySem.Str)] (lift K (T_Scene_init K))) (F_Scene_add_stranger : FnOk P wd K mg base CX0 k (He.ma K (He.ga K ("Scene" : PySem.Str)) ("add_stranger" : PySem.Str)) (fdOf K (He.ma K (He.ga K ("Scene" : PySem.Str)) ("add_stranger" : PySem.Str))) [("self" : PySem.Str), ("alias" : PySem.Str), ("name" : PySem.Str)] (lift K (T_Scene_add_stranger K))) (F_Scene_facts_at : FnOk P wd K mg base CX0 k (He.ma K (He.ga K ("Scene" : PySem.Str)) ("facts_at" : PySem.Str)) (fdOf K (He.ma K (He.ga K ("Scene" : PySem.Str)) ("facts_at" : PySem.Str))) [("self" : PySem.Str), ("plan" : PySem.Str), ("rows" : PySem.Str)] (lift K (T_Scene_facts_at K))) (F_Scene_kept_at : FnOk P wd K mg base CX0 k (He.ma K (He.ga K ("Scene" : PySem.Str)) ("kept_at" : PySem.Str)) (fdOf K (He.ma K (He.ga K ("Scene" : PySem.Str)) ("kept_at" : PySem.Str))) [("self" : PySem.Str), ("plan" : PySem.Str), ("rows" : PySem.Str)] (lift K (T_Scene_kept_at K))) (F_plan_of : FnOk P wd K mg base CX0 k (He.ga K ("plan_of" : PySem.Str)) (fdOf K (He.ga K ("plan_of" : PySem.Str))) [("question" : PySem.Str), ("tables" : PySem.Str)] (lift K (T_plan_of K))) (cdv : Value) (A : Around) (outer : List Env) (s : Shared) (H : Hp) (E : XK) (hr : Room (k + 1) (A.deeper (envOfC ("pair_scene" : PySem.Str) (defScope st_pair_scene) s.heap.objs.size f cdv))) :
    LB (cxOf CX0 P wd K mg base N_pair_scene ("pair_scene" : PySem.Str) (defScope st_pair_scene) f cdv A outer s H E).nox (defBody st_pair_scene) (c_pair_scene K) := by
  have nd : (N_pair_scene).Nodup := sc_pair_scene.nd
  unfold c_pair_scene
  exact (lb_cons (ls_set (i := 3) nd rfl (Or.inl rfl) (le_callN F_plan_of (hr.mono (Nat.le_succ _)) rfl Z.g_plan_of Z.k_plan_of Z.b_plan_of (la_cons (lv 0) (la_cons (lv 2) la_nil))))
  (lb_cons (ls_set (i := 4) nd rfl (Or.inl rfl) (le_newM0 Z.m_Scene F_Scene_init hr rfl Z.g_Scene Z.b_Scene_init (la_cons (lv 2) (la_cons (le_callN F_plan_of (hr.mono (Nat.le_succ _)) rfl Z.g_plan_of Z.k_plan_of Z.b_plan_of (la_cons (lv 1) (la_cons (lv 2) la_nil))) (la_cons le_dnew (la_cons le_dnew la_nil))))))
  (lb_cons (ls_for PassesOwn.never rfl (li_seq (le_fld Z.c_Select Z.n_Select_uses (lv 0))) (lg_tup rfl (lgs_cons (lg_name (i := 5) nd rfl (Or.inl rfl)) (lgs_cons (lg_name (i := 6) nd rfl (Or.inl rfl)) lgs_nil))) (lb_one (ls_expr (le_meth (lv 4) Z.c_Scene Z.me_Scene_add_stranger F_Scene_add_stranger (hr.mono (Nat.le_succ _)) Z.b_Scene_add_stranger .nil (fun _ => .nil) (la_cons (lv 5) (la_cons (lv 6) la_nil))))))
  (lb_cons (ls_set (i := 7) nd rfl (Or.inl rfl) (le_callTy cd_list rfl Z.g_list (by rfl) (la_cons (le_fld Z.c_Scene Z.n_Scene_strangers (lv 4)) la_nil)))
  (lb_cons (ls_fld Z.c_Scene Z.n_Scene_early (lv 4) (lv 7))
  (lb_cons (ls_fld Z.c_Scene Z.n_Scene_usable (lv 4) (lv 7))
  (lb_cons (ls_fld Z.c_Scene Z.n_Scene_root (lv 4) (le_meth (lv 4) Z.c_Scene Z.me_Scene_facts_at F_Scene_facts_at (hr.mono (Nat.le_succ _)) Z.b_Scene_facts_at .nil (fun _ => .nil) (la_cons (lv 3) (la_cons (lv 7) la_nil))))
  (lb_cons (ls_fld Z.c_Scene Z.n_Scene_wanted (lv 4) (le_meth (lv 4) Z.c_Scene Z.me_Scene_kept_at F_Scene_kept_at (hr.mono (Nat.le_succ _)) Z.b_Scene_kept_at .nil (fun _ => .nil) (la_cons (lv 3) (la_cons (lv 7) la_nil))))
  (lb_one (ls_ret (lv 4)))))))))))
theorem lb_within_holds (Z : Kn K mg) (F_check_selects : FnOk P wd K mg base CX0 k (He.ga K ("check_selects" : PySem.Str)) (fdOf K (He.ga K ("check_selects" : PySem.Str))) [("first" : PySem.Str), ("second" : PySem.Str), ("tables" : PySem.Str)] (lift K (T_check_selects K))) (F_is_plain : FnOk P wd K mg base CX0 k (He.ga K ("is_plain" : PySem.Str)) (fdOf K (He.ga K ("is_plain" : PySem.Str))) [("thing" : PySem.Str)] (lift K (T_is_plain K))) (F_is_tree : FnOk P wd K mg base CX0 k (He.ga K ("is_tree" : PySem.Str)) (fdOf K (He.ga K ("is_tree" : PySem.Str))) [("scene" : PySem.Str), ("facts" : PySem.Str), ("tree" : PySem.Str)] (lift K (T_is_tree K))) (F_pair_scene : FnOk P wd K mg base CX0 k (He.ga K ("pair_scene" : PySem.Str)) (fdOf K (He.ga K ("pair_scene" : PySem.Str))) [("first" : PySem.Str), ("second" : PySem.Str), ("tables" : PySem.Str)] (lift K (T_pair_scene K))) (cdv : Value) (A : Around) (outer : List Env) (s : Shared) (H : Hp) (E : XK) (hr : Room (k + 1) (A.deeper (envOfC ("within_holds" : PySem.Str) (defScope st_within_holds) s.heap.objs.size f cdv))) :
    LB (cxOf CX0 P wd K mg base N_within_holds ("within_holds" : PySem.Str) (defScope st_within_holds) f cdv A outer s H E).nox (defBody st_within_holds) (c_within_holds K) := by
  have nd : (N_within_holds).Nodup := sc_within_holds.nd
  unfold c_within_holds
  exact (lb_cons (ls_expr (le_callN F_check_selects (hr.mono (Nat.le_succ _)) rfl Z.g_check_selects Z.k_check_selects Z.b_check_selects (la_cons (lv 0) (la_cons (lv 1) (la_cons (lv 3) la_nil)))))
  (lb_cons (ls_set (i := 4) nd rfl (Or.inl rfl) (le_callN F_pair_scene (hr.mono (Nat.le_succ _)) rfl Z.g_pair_scene Z.k_pair_scene Z.b_pair_scene (la_cons (lv 0) (la_cons (lv 1) (la_cons (lv 3) la_nil)))))
  (lb_one (ls_ret (le_and (le_callN F_is_plain (hr.mono (Nat.le_succ _)) rfl Z.g_is_plain Z.k_is_plain Z.b_is_plain (la_cons (lv 2) la_nil)) (le_one (le_callN F_is_tree (hr.mono (Nat.le_succ _)) rfl Z.g_is_tree Z.k_is_tree Z.b_is_tree (la_cons (lv 4) (la_cons (le_fld Z.c_Scene Z.n_Scene_root (lv 4)) (la_cons (lv 2) la_nil))))))))))
theorem lb__law_deck (Z : Kn K mg)  (cdv : Value) (A : Around) (outer : List Env) (s : Shared) (H : Hp) (E : XK) (hr : Room (k + 1) (A.deeper (envOfC ("_law_deck" : PySem.Str) (defScope st__law_deck) s.heap.objs.size f cdv))) :
    LB (cxOf CX0 P wd K mg base N__law_deck ("_law_deck" : PySem.Str) (defScope st__law_deck) f cdv A outer s H E).nox (defBody st__law_deck) (c__law_deck K) := by
  have nd : (N__law_deck).Nodup := sc__law_deck.nd
  unfold c__law_deck
  exact (lb_cons (ls_par (i := 1) (j := 2) rfl nd rfl rfl (by decide) rfl rfl (le_callTy cd_list rfl Z.g_list (by rfl) (la_cons (le_slice (lv 0) lo_none (lo_some le_int)) la_nil)) le_int (by rfl))
  (lb_cons (ls_for PassesOwn.never rfl (li_seq (lv 1)) (lg_name (i := 3) nd rfl (Or.inl rfl)) (lb_one (ls_set (i := 2) nd rfl (Or.inl rfl) (le_op od_mod (le_op od_add (le_op od_add (le_op od_mul (lv 2) le_int) (le_op od_mod (lv 3) le_int)) le_int) le_int))))
  (lb_one (ls_ret (le_disp (.cons le_str (le_backLM (lv 1)) (.cons le_str (lv 2) (.cons le_str le_int .nil))) (by rfl) (by rfl) (by intro z; cases z) (by decide))))))
theorem lb__law_draw (Z : Kn K mg)  (cdv : Value) (A : Around) (outer : List Env) (s : Shared) (H : Hp) (E : XK) (hr : Room (k + 1) (A.deeper (envOfC ("_law_draw" : PySem.Str) (defScope st__law_draw) s.heap.objs.size f cdv))) :
    LB (cxOf CX0 P wd K mg base N__law_draw ("_law_draw" : PySem.Str) (defScope st__law_draw) f cdv A outer s H E).nox (defBody st__law_draw) (c__law_draw K) := by
  have nd : (N__law_draw).Nodup := sc__law_draw.nd
  unfold c__law_draw
  exact (lb_cons (ls_par (i := 2) (j := 3) rfl nd rfl rfl (by decide) rfl rfl (le_op od_add (le_dget (u1 hr) (lv 0) le_str (by intro _ _; rfl)) le_int) (le_dget (u1 hr) (lv 0) le_str (by intro _ _; rfl)) (by rfl))
  (lb_cons (ls_dput (u1 hr) (lv 0) le_str (lv 2))
  (lb_cons (ls_if (lt_cmp (oj_ne (u64 hr)) (le_dget (u1 hr) (lv 0) le_str (by intro _ _; rfl)) (le_lst la_nil) (by rfl)) (lb_cons (ls_set (i := 3) nd rfl (Or.inl rfl) (le_bm0 PySem.F.plainAttrs_list PySem.F.slot_list_pop PySem.F.type_list_pop md_pop (le_dget (u1 hr) (lv 0) le_str (by intro _ _; rfl))))
  (lb_cons (ls_if (lt_cmp oj_ge (lv 3) (le_op od_pow le_int le_int) (by rfl)) (lb_cons (ls_expr (le_bm PySem.F.plainAttrs_list PySem.F.slot_list_append PySem.F.type_list_append md_append (le_dget (u1 hr) (lv 0) le_str (by intro _ _; rfl)) (la_cons (le_op od_div (lv 3) (lv 1)) la_nil)))
  (lb_one (ls_ret (le_op od_mod (lv 3) (lv 1))))) lb_nil)
  (lb_one (ls_set (i := 3) nd rfl (Or.inl rfl) (le_op od_add (lv 3) (le_dget (u1 hr) (lv 0) le_str (by intro _ _; rfl))))))) lb_nil)
  (lb_cons (ls_set (i := 4) nd rfl (Or.inl rfl) (le_op od_mod (le_op od_mul (le_op od_add (le_op od_add (le_op od_mod (lv 3) le_int) (le_op od_mul (le_op od_mul le_int (lv 2)) (lv 2))) le_int) le_int) le_int))
  (lb_cons (ls_set (i := 4) nd rfl (Or.inl rfl) (le_op od_mod (le_op od_add (le_op od_add (le_op od_mul (lv 4) (lv 4)) (le_op od_mul le_int (lv 2))) le_int) le_int))
  (lb_one (ls_ret (le_op od_mod (le_op od_div (le_op od_mod (le_op od_mul (lv 4) le_int) le_int) le_int) (lv 1)))))))))
theorem lb__law_pick (Z : Kn K mg) (F__law_draw : FnOk P wd K mg base CX0 k (He.ga K ("_law_draw" : PySem.Str)) (fdOf K (He.ga K ("_law_draw" : PySem.Str))) [("_law_deck_here" : PySem.Str), ("_law_many" : PySem.Str)] (lift K (T__law_draw K))) (cdv : Value) (A : Around) (outer : List Env) (s : Shared) (H : Hp) (E : XK) (hr : Room (k + 1) (A.deeper (envOfC ("_law_pick" : PySem.Str) (defScope st__law_pick) s.heap.objs.size f cdv))) :
    LB (cxOf CX0 P wd K mg base N__law_pick ("_law_pick" : PySem.Str) (defScope st__law_pick) f cdv A outer s H E).nox (defBody st__law_pick) (c__law_pick K) := by
  have nd : (N__law_pick).Nodup := sc__law_pick.nd
  unfold c__law_pick
  exact (lb_one (ls_ret (le_ix (lv 1) (le_callN F__law_draw (hr.mono (Nat.le_succ _)) rfl Z.g__law_draw Z.k__law_draw Z.b__law_draw (la_cons (lv 0) (la_cons (le_callB cd_len rfl Z.g_len (by first | exact boot_len | rfl) (la_cons (lv 1) la_nil)) la_nil))) (by intro _ _; rfl))))
theorem lb__law_first (Z : Kn K mg) (F__law_draw : FnOk P wd K mg base CX0 k (He.ga K ("_law_draw" : PySem.Str)) (fdOf K (He.ga K ("_law_draw" : PySem.Str))) [("_law_deck_here" : PySem.Str), ("_law_many" : PySem.Str)] (lift K (T__law_draw K))) (F__law_pick : FnOk P wd K mg base CX0 k (He.ga K ("_law_pick" : PySem.Str)) (fdOf K (He.ga K ("_law_pick" : PySem.Str))) [("_law_deck_here" : PySem.Str), ("_law_some" : PySem.Str)] (lift K (T__law_pick K))) (cdv : Value) (A : Around) (outer : List Env) (s : Shared) (H : Hp) (E : XK) (hr : Room (k + 1) (A.deeper (envOfC ("_law_first" : PySem.Str) (defScope st__law_first) s.heap.objs.size f cdv))) :
    LB (cxOf CX0 P wd K mg base N__law_first ("_law_first" : PySem.Str) (defScope st__law_first) f cdv A outer s H E).nox (defBody st__law_first) (c__law_first K) := by
  have nd : (N__law_first).Nodup := sc__law_first.nd
  unfold c__law_first
  exact (lb_cons (ls_par (i := 1) (j := 2) rfl nd rfl rfl (by decide) rfl rfl (le_lst (la_cons le_str (la_cons le_str (la_cons le_str (la_cons le_str la_nil))))) (le_lst (la_cons le_str (la_cons le_str (la_cons le_str (la_cons le_str la_nil))))) (by rfl))
  (lb_cons (ls_par (i := 3) (j := 4) rfl nd rfl rfl (by decide) rfl rfl (le_cmp oj_gt (le_callN F__law_draw (hr.mono (Nat.le_succ _)) rfl Z.g__law_draw Z.k__law_draw Z.b__law_draw (la_cons (lv 0) (la_cons le_int la_nil))) le_int (by rfl)) (le_lstM la_nil) (by rfl))
  (lb_cons (ls_set (i := 5) nd rfl (Or.inr rfl) (le_callN F__law_pick (hr.mono (Nat.le_succ _)) rfl Z.g__law_pick Z.k__law_pick Z.b__law_pick (la_cons (lv 0) (la_cons (le_if (lt_val (lv 3)) (lv 2) (lv 1)) la_nil))))
  (lb_cons (ls_set (i := 6) nd rfl (Or.inl rfl) (lv 5))
  (lb_cons (ls_set (i := 7) nd rfl (Or.inl rfl) (le_if (lt_val (lv 3)) (lv 2) (lv 1)))
  (lb_cons (ls_for PassesOwn.never rfl (li_range1 rfl Z.g_range (le_op od_add le_int (le_callN F__law_draw (hr.mono (Nat.le_succ _)) rfl Z.g__law_draw Z.k__law_draw Z.b__law_draw (la_cons (lv 0) (la_cons le_int la_nil))))) (lg_name (i := 8) nd rfl (Or.inl rfl)) (lb_cons (ls_par (i := 9) (j := 10) rfl nd rfl rfl (by decide) rfl rfl (le_callN F__law_draw (hr.mono (Nat.le_succ _)) rfl Z.g__law_draw Z.k__law_draw Z.b__law_draw (la_cons (lv 0) (la_cons le_int la_nil))) (lv 1) (by rfl))
  (lb_cons (ls_par (i := 11) (j := 12) rfl nd rfl rfl (by decide) rfl rfl (le_callN F__law_pick (hr.mono (Nat.le_succ _)) rfl Z.g__law_pick Z.k__law_pick Z.b__law_pick (la_cons (lv 0) (la_cons (le_lst (la_cons le_str (la_cons le_str (la_cons le_str (la_cons le_str la_nil))))) la_nil))) (le_callN F__law_pick (hr.mono (Nat.le_succ _)) rfl Z.g__law_pick Z.k__law_pick Z.b__law_pick (la_cons (lv 0) (la_cons (le_lst (la_cons le_str (la_cons le_str la_nil))) la_nil))) (by rfl))
  (lb_cons (ls_if (lt_val (lv 3)) (lb_cons (ls_set (i := 10) nd rfl (Or.inl rfl) (le_op od_add (lj_lc (own := [(("_law_one" : PySem.Str), 13)]) rfl nd (li_seq (lv 2)) (blkOk_by (N := N__law_first) (sc := defScope st__law_first) (by decide +kernel)) (by decide) (fun _ _ _ _ _ => (lg_name (i := 13) nd rfl (Or.inl rfl))) (fun _ _ _ _ _ => (lts_one (lt_cmp (oj_ne (u64 hr)) (le_ix (lv 13) le_int (by intro _ _; rfl)) (le_ix (lv 5) le_int (by intro _ _; rfl)) (by rfl)))) (fun _ _ _ _ _ => (lv 13))) (le_lst (la_cons (lv 5) la_nil))))
  (lb_one (ls_par (i := 11) (j := 12) rfl nd rfl rfl (by decide) rfl rfl (le_callN F__law_pick (hr.mono (Nat.le_succ _)) rfl Z.g__law_pick Z.k__law_pick Z.b__law_pick (la_cons (lv 0) (la_cons (le_lst (la_cons le_str (la_cons le_str (la_cons le_str (la_cons le_str (la_cons le_str la_nil)))))) la_nil))) (le_callN F__law_draw (hr.mono (Nat.le_succ _)) rfl Z.g__law_draw Z.k__law_draw Z.b__law_draw (la_cons (lv 0) (la_cons le_int la_nil))) (by rfl)))) lb_nil)
  (lb_cons (ls_if (lt_cmp oj_gt (lv 9) le_int (by rfl)) (lb_one (ls_set (i := 12) nd rfl (Or.inl rfl) (le_callN F__law_pick (hr.mono (Nat.le_succ _)) rfl Z.g__law_pick Z.k__law_pick Z.b__law_pick (la_cons (lv 0) (la_cons (le_op od_add (lv 10) (le_op od_mul (le_op od_mul (le_lst (la_cons (lv 6) la_nil)) le_int) (le_callTy cd_int rfl Z.g_int (by rfl) (la_cons (le_and (le_cmp (oj_eq (u64 hr)) (lv 9) le_int (by rfl)) (le_one (le_cmp (oj_in (u65 hr)) (lv 6) (lv 10) (by rfl)))) la_nil)))) la_nil))))) lb_nil)
  (lb_cons (ls_expr (le_bm PySem.F.plainAttrs_list PySem.F.slot_list_append PySem.F.type_list_append md_append (lv 4) (la_cons (le_tup (la_cons (lv 5) (la_cons (lv 11) (la_cons (lv 12) la_nil)))) la_nil)))
  (lb_one (ls_set (i := 5) nd rfl (Or.inr rfl) (le_if (lt_cmp (oj_in (u65 hr)) (lv 12) (lv 7) (by rfl)) (lv 12) (le_callN F__law_pick (hr.mono (Nat.le_succ _)) rfl Z.g__law_pick Z.k__law_pick Z.b__law_pick (la_cons (lv 0) (la_cons (lv 7) la_nil))))))))))))
  (lb_one (ls_ret (le_callTy cd_tuple rfl Z.g_tuple (by rfl) (la_cons (lv 4) la_nil))))))))))
theorem lb__law_facts (Z : Kn K mg)  (cdv : Value) (A : Around) (outer : List Env) (s : Shared) (H : Hp) (E : XK) (hr : Room (k + 1) (A.deeper (envOfC ("_law_facts" : PySem.Str) (defScope st__law_facts) s.heap.objs.size f cdv))) :
    LB (cxOf CX0 P wd K mg base N__law_facts ("_law_facts" : PySem.Str) (defScope st__law_facts) f cdv A outer s H E).nox (defBody st__law_facts) (c__law_facts K) := by
  have nd : (N__law_facts).Nodup := sc__law_facts.nd
  unfold c__law_facts
  exact (lb_one (ls_ret (lj_lc (own := [(("_law_one" : PySem.Str), 1), (("_law_sign" : PySem.Str), 2), (("_law_other" : PySem.Str), 3)]) rfl nd (li_seq (lv 0)) (blkOk_by (N := N__law_facts) (sc := defScope st__law_facts) (by decide +kernel)) (by decide) (fun _ _ _ _ _ => (lg_tup rfl (lgs_cons (lg_name (i := 1) nd rfl (Or.inl rfl)) (lgs_cons (lg_name (i := 2) nd rfl (Or.inl rfl)) (lgs_cons (lg_name (i := 3) nd rfl (Or.inl rfl)) lgs_nil))))) (fun _ _ _ _ _ => lts_nil) (fun _ _ _ _ _ => (le_if (lt_cmp (oj_eq (u64 hr)) (lv 2) le_str (by rfl)) (le_tup (la_cons (lv 3) (la_cons le_str (la_cons (lv 1) la_nil)))) (le_tup (la_cons (lv 1) (la_cons (lv 2) (la_cons (lv 3) la_nil)))))))))
theorem lb__law_chains (Z : Kn K mg) (F__law_draw : FnOk P wd K mg base CX0 k (He.ga K ("_law_draw" : PySem.Str)) (fdOf K (He.ga K ("_law_draw" : PySem.Str))) [("_law_deck_here" : PySem.Str), ("_law_many" : PySem.Str)] (lift K (T__law_draw K))) (F__law_pick : FnOk P wd K mg base CX0 k (He.ga K ("_law_pick" : PySem.Str)) (fdOf K (He.ga K ("_law_pick" : PySem.Str))) [("_law_deck_here" : PySem.Str), ("_law_some" : PySem.Str)] (lift K (T__law_pick K))) (cdv : Value) (A : Around) (outer : List Env) (s : Shared) (H : Hp) (E : XK) (hr : Room (k + 1) (A.deeper (envOfC ("_law_chains" : PySem.Str) (defScope st__law_chains) s.heap.objs.size f cdv))) :
    LB (cxOf CX0 P wd K mg base N__law_chains ("_law_chains" : PySem.Str) (defScope st__law_chains) f cdv A outer s H E).nox (defBody st__law_chains) (c__law_chains K) := by
  have nd : (N__law_chains).Nodup := sc__law_chains.nd
  unfold c__law_chains
  exact (lb_cons (ls_set (i := 2) nd rfl (Or.inl rfl) (le_callTy cd_tuple rfl Z.g_tuple (by rfl) (la_cons (lv 1) la_nil)))
  (lb_cons (ls_set (i := 3) nd rfl (Or.inl rfl) (le_lstM (la_cons (lv 2) (la_cons (le_backT (lv 2)) (la_cons (le_tup la_nil) (la_cons (le_op od_add (lv 2) (lv 2)) (la_cons (le_slice (lv 2) (lo_some le_int) lo_none) (la_cons (le_slice (lv 2) lo_none (lo_some le_negc)) la_nil))))))))
  (lb_cons (ls_for PassesOwn.never rfl (li_range1 rfl Z.g_range le_int) (lg_name (i := 4) nd rfl (Or.inl rfl)) (lb_cons (ls_par (i := 5) (j := 6) rfl nd rfl rfl (by decide) rfl rfl (le_callTy cd_listM rfl Z.g_list (by rfl) (la_cons (lv 2) la_nil)) (le_tup la_nil) (by rfl))
  (lb_cons (ls_for PassesOwn.never rfl (li_range1 rfl Z.g_range (le_op od_add le_int (le_callN F__law_draw (hr.mono (Nat.le_succ _)) rfl Z.g__law_draw Z.k__law_draw Z.b__law_draw (la_cons (lv 0) (la_cons (le_callB cd_len rfl Z.g_len (by first | exact boot_len | rfl) (la_cons (lv 2) la_nil)) la_nil))))) (lg_name (i := 7) nd rfl (Or.inl rfl)) (lb_one (ls_set (i := 6) nd rfl (Or.inl rfl) (le_op od_add (lv 6) (le_tup (la_cons (le_bm PySem.F.plainAttrs_list PySem.F.slot_list_pop PySem.F.type_list_pop md_pop (lv 5) (la_cons (le_callN F__law_draw (hr.mono (Nat.le_succ _)) rfl Z.g__law_draw Z.k__law_draw Z.b__law_draw (la_cons (lv 0) (la_cons (le_callB cd_len rfl Z.g_len (by first | exact boot_len | rfl) (la_cons (lv 5) la_nil)) la_nil))) la_nil)) la_nil))))))
  (lb_cons (ls_expr (le_bm PySem.F.plainAttrs_list PySem.F.slot_list_append PySem.F.type_list_append md_append (lv 3) (la_cons (lv 6) la_nil)))
  (lb_cons (ls_asg (le_callN F__law_pick (hr.mono (Nat.le_succ _)) rfl Z.g__law_pick Z.k__law_pick Z.b__law_pick (la_cons (lv 0) (la_cons (lv 6) la_nil))) (lg_tup rfl (lgs_cons (lg_name (i := 8) nd rfl (Or.inr rfl)) (lgs_cons (lg_name (i := 9) nd rfl (Or.inl rfl)) (lgs_cons (lg_name (i := 10) nd rfl (Or.inl rfl)) lgs_nil)))))
  (lb_cons (ls_set (i := 11) nd rfl (Or.inl rfl) (le_lst (la_cons (le_tup (la_cons (lv 10) (la_cons (lv 9) (la_cons (lv 8) la_nil)))) (la_cons (le_tup (la_cons (lv 8) (la_cons le_str (la_cons (lv 10) la_nil)))) (la_cons (le_tup (la_cons (lv 8) (la_cons le_str (la_cons (lv 10) la_nil)))) (la_cons (le_tup (la_cons (lv 8) (la_cons (lv 9) (la_cons le_int la_nil)))) (la_cons (le_tup (la_cons (lv 8) (la_cons (lv 9) la_nil))) la_nil)))))))
  (lb_one (ls_expr (le_bm PySem.F.plainAttrs_list PySem.F.slot_list_append PySem.F.type_list_append md_append (lv 3) (la_cons (le_op od_add (le_slice (lv 6) lo_none (lo_some le_negc)) (le_tup (la_cons (le_callN F__law_pick (hr.mono (Nat.le_succ _)) rfl Z.g__law_pick Z.k__law_pick Z.b__law_pick (la_cons (lv 0) (la_cons (le_op od_add (lv 11) (le_lst (la_cons (le_lst (la_cons (lv 8) (la_cons (lv 9) (la_cons (lv 10) la_nil)))) la_nil))) la_nil))) la_nil))) la_nil))))))))))
  (lb_cons (ls_for PassesOwn.never rfl (li_seq (lv 1)) (lg_name (i := 8) nd rfl (Or.inr rfl)) (lb_one (ls_expr (le_bm PySem.F.plainAttrs_list PySem.F.slot_list_extend PySem.F.type_list_extend md_extend (lv 3) (la_cons (le_op od_add (le_lst (la_cons (le_tup (la_cons (lv 8) la_nil)) (la_cons (le_tup (la_cons (lv 8) (la_cons (lv 8) la_nil))) la_nil))) (lj_lc (own := [(("_law_other" : PySem.Str), 10)]) rfl nd (li_seq (lv 1)) (blkOk_by (N := N__law_chains) (sc := defScope st__law_chains) (by decide +kernel)) (by decide) (fun _ _ _ _ _ => (lg_name (i := 10) nd rfl (Or.inl rfl))) (fun _ _ _ _ _ => lts_nil) (fun _ _ _ _ _ => (le_tup (la_cons (lv 8) (la_cons (lv 10) la_nil)))))) la_nil)))))
  (lb_cons (ls_asg (le_tup (la_cons (le_callN F__law_pick (hr.mono (Nat.le_succ _)) rfl Z.g__law_pick Z.k__law_pick Z.b__law_pick (la_cons (lv 0) (la_cons (lv 1) la_nil))) (la_cons (le_callN F__law_pick (hr.mono (Nat.le_succ _)) rfl Z.g__law_pick Z.k__law_pick Z.b__law_pick (la_cons (lv 0) (la_cons (le_lst (la_cons le_int (la_cons le_int (la_cons le_int (la_cons le_int (la_cons le_int la_nil)))))) la_nil))) la_nil))) (lg_tup rfl (lgs_cons (lg_name (i := 8) nd rfl (Or.inr rfl)) (lgs_cons (lg_name (i := 12) nd rfl (Or.inr rfl)) lgs_nil))))
  (lb_cons (ls_expr (le_bm PySem.F.plainAttrs_list PySem.F.slot_list_extend PySem.F.type_list_extend md_extend (lv 3) (la_cons (le_op od_add (lj_lc (own := [(("_law_other" : PySem.Str), 10)]) rfl nd (li_seq (lv 1)) (blkOk_by (N := N__law_chains) (sc := defScope st__law_chains) (by decide +kernel)) (by decide) (fun _ _ _ _ _ => (lg_name (i := 10) nd rfl (Or.inl rfl))) (fun _ _ _ _ _ => lts_nil) (fun _ _ _ _ _ => (le_op od_add (le_op od_mul (le_tup (la_cons (lv 8) la_nil)) (lv 12)) (le_tup (la_cons (lv 10) la_nil))))) (lj_lc (own := [(("_law_other" : PySem.Str), 10)]) rfl nd (li_seq (lv 1)) (blkOk_by (N := N__law_chains) (sc := defScope st__law_chains) (by decide +kernel)) (by decide) (fun _ _ _ _ _ => (lg_name (i := 10) nd rfl (Or.inl rfl))) (fun _ _ _ _ _ => lts_nil) (fun _ _ _ _ _ => (le_op od_add (le_op od_mul (le_tup (la_cons (lv 8) la_nil)) (le_op od_add (lv 12) le_int)) (le_tup (la_cons (lv 10) la_nil)))))) la_nil)))
  (lb_one (ls_ret (le_op od_add (le_op od_add (lv 3) (le_lst (la_cons (le_op od_mul (le_tup (la_cons (lv 8) la_nil)) (lv 12)) (la_cons (le_op od_mul (le_tup (la_cons (lv 8) la_nil)) (le_op od_add (lv 12) le_int)) (la_cons (le_op od_mul (lv 2) (le_op od_div (lv 12) le_int)) la_nil))))) (lj_lc (own := [(("_law_other" : PySem.Str), 10)]) rfl nd (li_seq (lv 1)) (blkOk_by (N := N__law_chains) (sc := defScope st__law_chains) (by decide +kernel)) (by decide) (fun _ _ _ _ _ => (lg_name (i := 10) nd rfl (Or.inl rfl))) (fun _ _ _ _ _ => lts_nil) (fun _ _ _ _ _ => (le_op od_mul (le_tup (la_cons (lv 8) (la_cons (lv 10) la_nil))) (lv 12)))))))))))))
theorem lb__law_is_plain (Z : Kn K mg) {TR : TSp} (F__law_is_plain : FnOk P wd K mg base CX0 k (He.ga K ("_law_is_plain" : PySem.Str)) (fdOf K (He.ga K ("_law_is_plain" : PySem.Str))) [("_law_it" : PySem.Str)] (lift K TR)) (cdv : Value) (A : Around) (outer : List Env) (s : Shared) (H : Hp) (E : XK) (hr : Room (k + 1) (A.deeper (envOfC ("_law_is_plain" : PySem.Str) (defScope st__law_is_plain) s.heap.objs.size f cdv))) :
    LB (cxOf CX0 P wd K mg base N__law_is_plain ("_law_is_plain" : PySem.Str) (defScope st__law_is_plain) f cdv A outer s H E).nox (defBody st__law_is_plain) (c__law_is_plain K TR) := by
  have nd : (N__law_is_plain).Nodup := sc__law_is_plain.nd
  unfold c__law_is_plain
  exact (lb_cons (ls_if (lt_val (le_callB (cj_isi "tuple") rfl Z.g_isinstance (by first | exact boot_isinstance | rfl) (la_cons (lv 0) (la_cons (le_bty (T := "tuple") rfl Z.g_tuple (by rfl)) la_nil)))) (lb_one (ls_ret (le_cmp (oj_eq (u64 hr)) (lj_lc (own := [(("_law_one" : PySem.Str), 1)]) rfl nd (li_seq (lv 0)) (blkOk_by (N := N__law_is_plain) (sc := defScope st__law_is_plain) (by decide +kernel)) (by decide) (fun _ _ _ _ _ => (lg_name (i := 1) nd rfl (Or.inl rfl))) (fun _ _ _ _ _ => (lts_one (lt_not (lt_val (le_callN F__law_is_plain (hr.mono (Nat.le_succ _)) rfl Z.g__law_is_plain Z.k__law_is_plain Z.b__law_is_plain (la_cons (lv 1) la_nil)))))) (fun _ _ _ _ _ => (lv 1))) (le_lst la_nil) (by rfl)))) lb_nil)
  (lb_one (ls_ret (le_and (le_isiP (T1 := "str") (T2 := "int") rfl Z.g_isinstance rfl Z.g_str (by rfl) rfl Z.g_int (by rfl) (lv 0)) (le_one (le_not (le_callB (cj_isi "bool") rfl Z.g_isinstance (by first | exact boot_isinstance | rfl) (la_cons (lv 0) (la_cons (le_bty (T := "bool") rfl Z.g_bool (by rfl)) la_nil)))))))))
theorem lb__law_ends (Z : Kn K mg)  (cdv : Value) (A : Around) (outer : List Env) (s : Shared) (H : Hp) (E : XK) (hr : Room (k + 1) (A.deeper (envOfC ("_law_ends" : PySem.Str) (defScope st__law_ends) s.heap.objs.size f cdv))) :
    LB (cxOf CX0 P wd K mg base N__law_ends ("_law_ends" : PySem.Str) (defScope st__law_ends) f cdv A outer s H E).nox (defBody st__law_ends) (c__law_ends K) := by
  have nd : (N__law_ends).Nodup := sc__law_ends.nd
  unfold c__law_ends
  exact (lb_cons (ls_asg (le_ix (lv 0) le_int (by intro _ _; rfl)) (lg_tup rfl (lgs_cons (lg_name (i := 1) nd rfl (Or.inr rfl)) (lgs_cons (lg_name (i := 2) nd rfl (Or.inr rfl)) (lgs_cons (lg_name (i := 3) nd rfl (Or.inr rfl)) lgs_nil)))))
  (lb_cons (ls_set (i := 4) nd rfl (Or.inl rfl) (le_op od_add (le_lst (la_cons (le_tup (la_cons (lv 1) (la_cons (lv 3) la_nil))) la_nil)) (le_op od_mul (le_lst (la_cons (le_tup (la_cons (lv 3) (la_cons (lv 1) la_nil))) la_nil)) (le_callTy cd_int rfl Z.g_int (by rfl) (la_cons (le_cmp (oj_eq (u64 hr)) (lv 2) le_str (by rfl)) la_nil)))))
  (lb_cons (ls_for PassesOwn.never rfl (li_seq (le_slice (lv 0) (lo_some le_int) lo_none)) (lg_tup rfl (lgs_cons (lg_name (i := 1) nd rfl (Or.inr rfl)) (lgs_cons (lg_name (i := 2) nd rfl (Or.inr rfl)) (lgs_cons (lg_name (i := 3) nd rfl (Or.inr rfl)) lgs_nil)))) (lb_cons (lj_setLc (i := 5) (own := [(("_law_first_here" : PySem.Str), 7), (("_law_last" : PySem.Str), 8)]) rfl nd rfl rfl (sw_true rfl rfl rfl (by decide +kernel)) (li_seq (lv 4)) (blkOk_by (N := N__law_ends) (sc := defScope st__law_ends) (by decide +kernel)) (by decide) (fun _ _ _ _ _ => (lg_tup rfl (lgs_cons (lg_name (i := 7) nd rfl (Or.inl rfl)) (lgs_cons (lg_name (i := 8) nd rfl (Or.inl rfl)) lgs_nil)))) (fun _ _ _ _ _ => (lts_one (lt_cmp (oj_eq (u64 hr)) (lv 8) (lv 1) (by rfl)))) (fun _ _ _ _ _ => (le_tup (la_cons (lv 7) (la_cons (lv 3) la_nil)))))
  (lb_cons (ls_set (i := 6) nd rfl (Or.inr rfl) (le_op od_add (lv 5) (lj_lc (own := [(("_law_first_here" : PySem.Str), 7), (("_law_last" : PySem.Str), 8)]) rfl nd (li_seq (lv 4)) (blkOk_by (N := N__law_ends) (sc := defScope st__law_ends) (by decide +kernel)) (by decide) (fun _ _ _ _ _ => (lg_tup rfl (lgs_cons (lg_name (i := 7) nd rfl (Or.inl rfl)) (lgs_cons (lg_name (i := 8) nd rfl (Or.inl rfl)) lgs_nil)))) (fun _ _ _ _ _ => (lts_one (LW.lt (lw_and (lt_cmp (oj_eq (u64 hr)) (lv 8) (lv 3) (by rfl)) (lw_and1 (lt_cmp (oj_eq (u64 hr)) (lv 2) le_str (by rfl))))))) (fun _ _ _ _ _ => (le_tup (la_cons (lv 7) (la_cons (lv 1) la_nil)))))))
  (lb_one (lj_setLc (i := 4) (own := [(("_law_k" : PySem.Str), 9), (("_law_one" : PySem.Str), 10)]) rfl nd rfl rfl (sw_true rfl rfl rfl (by decide +kernel)) (li_enum rfl Z.g_enumerate (lv 6)) (blkOk_by (N := N__law_ends) (sc := defScope st__law_ends) (by decide +kernel)) (by decide) (fun _ _ _ _ _ => (lg_tup rfl (lgs_cons (lg_name (i := 9) nd rfl (Or.inl rfl)) (lgs_cons (lg_name (i := 10) nd rfl (Or.inl rfl)) lgs_nil)))) (fun _ _ _ _ _ => (lts_one (lt_cmp (oj_notIn (u65 hr)) (lv 10) (le_slice (lv 6) lo_none (lo_some (lv 9))) (by rfl)))) (fun _ _ _ _ _ => (lv 10)))))))
  (lb_one (ls_ret (lv 4))))))
theorem lb__law_is_constant (Z : Kn K mg)  (cdv : Value) (A : Around) (outer : List Env) (s : Shared) (H : Hp) (E : XK) (hr : Room (k + 1) (A.deeper (envOfC ("_law_is_constant" : PySem.Str) (defScope st__law_is_constant) s.heap.objs.size f cdv))) :
    LB (cxOf CX0 P wd K mg base N__law_is_constant ("_law_is_constant" : PySem.Str) (defScope st__law_is_constant) f cdv A outer s H E).nox (defBody st__law_is_constant) (c__law_is_constant K) := by
  have nd : (N__law_is_constant).Nodup := sc__law_is_constant.nd
  unfold c__law_is_constant
  exact (lb_one (ls_ret (le_and (le_callB (cj_isi "str") rfl Z.g_isinstance (by first | exact boot_isinstance | rfl) (la_cons (lv 0) (la_cons (le_bty (T := "str") rfl Z.g_str (by rfl)) la_nil))) (le_and (le_cmp (oj_ne (u64 hr)) (le_slice (lv 0) lo_none (lo_some le_int)) le_str (by rfl)) (le_one (le_cmp (oj_notIn (u65 hr)) le_str (lv 0) (by rfl)))))))
theorem lb__law_is_clash (Z : Kn K mg) (F__law_ends : FnOk P wd K mg base CX0 k (He.ga K ("_law_ends" : PySem.Str)) (fdOf K (He.ga K ("_law_ends" : PySem.Str))) [("_law_chain" : PySem.Str)] (lift K (T__law_ends K))) (F__law_is_constant : FnOk P wd K mg base CX0 k (He.ga K ("_law_is_constant" : PySem.Str)) (fdOf K (He.ga K ("_law_is_constant" : PySem.Str))) [("_law_term" : PySem.Str)] (lift K (T__law_is_constant K))) (cdv : Value) (A : Around) (outer : List Env) (s : Shared) (H : Hp) (E : XK) (hr : Room (k + 1) (A.deeper (envOfC ("_law_is_clash" : PySem.Str) (defScope st__law_is_clash) s.heap.objs.size f cdv))) :
    LB (cxOf CX0 P wd K mg base N__law_is_clash ("_law_is_clash" : PySem.Str) (defScope st__law_is_clash) f cdv A outer s H E).nox (defBody st__law_is_clash) (c__law_is_clash K) := by
  have nd : (N__law_is_clash).Nodup := sc__law_is_clash.nd
  unfold c__law_is_clash
  exact (lb_cons (ls_if (LW.lt (lw_or (lt_not (lt_val (le_callB (cj_isi "tuple") rfl Z.g_isinstance (by first | exact boot_isinstance | rfl) (la_cons (lv 1) (la_cons (le_bty (T := "tuple") rfl Z.g_tuple (by rfl)) la_nil))))) (lw_or (lt_cmp (oj_eq (u64 hr)) (lv 1) (le_tup la_nil) (by rfl)) (lw_or1 (lt_cmp (oj_ne (u64 hr)) (lj_lc (own := [(("_law_one" : PySem.Str), 3)]) rfl nd (li_seq (lv 1)) (blkOk_by (N := N__law_is_clash) (sc := defScope st__law_is_clash) (by decide +kernel)) (by decide) (fun _ _ _ _ _ => (lg_name (i := 3) nd rfl (Or.inl rfl))) (fun _ _ _ _ _ => (lts_one (lt_cmp (oj_notIn (u65 hr)) (lv 3) (lv 0) (by rfl)))) (fun _ _ _ _ _ => (lv 3))) (le_lst la_nil) (by rfl)))))) (lb_one (ls_ret le_bl)) lb_nil)
  (lb_cons (lj_setLc (i := 2) (own := [(("_law_one" : PySem.Str), 3)]) rfl nd rfl rfl (sw_true rfl rfl rfl (by decide +kernel)) (li_seq (lv 1)) (blkOk_by (N := N__law_is_clash) (sc := defScope st__law_is_clash) (by decide +kernel)) (by decide) (fun _ _ _ _ _ => (lg_name (i := 3) nd rfl (Or.inl rfl))) (fun _ _ _ _ _ => lts_nil) (fun _ _ _ _ _ => (le_ix (lv 3) le_int (by intro _ _; rfl))))
  (lb_cons (ls_if (lt_cmp (oj_eq (u64 hr)) (lj_ix (lv 2) le_negc (by intro _ _; rfl)) le_str (by rfl)) (lb_cons (ls_asg (lj_ix (lv 1) le_negc (by intro _ _; rfl)) (lg_tup rfl (lgs_cons (lg_name (i := 3) nd rfl (Or.inl rfl)) (lgs_cons (lg_name (i := 4) nd rfl (Or.inl rfl)) (lgs_cons (lg_name (i := 5) nd rfl (Or.inl rfl)) lgs_nil)))))
  (lb_cons (ls_if (lt_cmp (oj_eq (u64 hr)) (le_callB cd_len rfl Z.g_len (by first | exact boot_len | rfl) (la_cons (lv 1) la_nil)) le_int (by rfl)) (lb_one (ls_ret (le_cmp (oj_eq (u64 hr)) (lv 3) (lv 5) (by rfl)))) lb_nil)
  (lb_cons (ls_set (i := 6) nd rfl (Or.inl rfl) (le_if (lt_cmp (oj_eq (u64 hr)) (le_bm PySem.F.plainAttrs_list PySem.F.slot_list_count PySem.F.type_list_count md_count (le_slice (lv 2) lo_none (lo_some le_negc)) (la_cons le_str la_nil)) (le_op od_sub (le_callB cd_len rfl Z.g_len (by first | exact boot_len | rfl) (la_cons (lv 1) la_nil)) le_int) (by rfl)) (le_callN F__law_ends (hr.mono (Nat.le_succ _)) rfl Z.g__law_ends Z.k__law_ends Z.b__law_ends (la_cons (le_slice (lv 1) lo_none (lo_some le_negc)) la_nil)) (le_lst la_nil)))
  (lb_one (ls_ret (le_or (le_cmp (oj_in (u65 hr)) (le_tup (la_cons (lv 3) (la_cons (lv 5) la_nil))) (lv 6) (by rfl)) (le_one (le_cmp (oj_in (u65 hr)) (le_tup (la_cons (lv 5) (la_cons (lv 3) la_nil))) (lv 6) (by rfl))))))))) lb_nil)
  (lb_cons (ls_set (i := 7) nd rfl (Or.inl rfl) (le_bm PySem.F.plainAttrs_list PySem.F.slot_list_count PySem.F.type_list_count md_count (lv 2) (la_cons le_str la_nil)))
  (lb_cons (ls_for PassesOwn.never rfl (li_seq (le_op od_mul (le_callN F__law_ends (hr.mono (Nat.le_succ _)) rfl Z.g__law_ends Z.k__law_ends Z.b__law_ends (la_cons (lv 1) la_nil)) (le_callTy cd_int rfl Z.g_int (by rfl) (la_cons (le_cmp (oj_notIn (u65 hr)) le_str (lv 2) (by rfl)) la_nil)))) (lg_tup rfl (lgs_cons (lg_name (i := 8) nd rfl (Or.inl rfl)) (lgs_cons (lg_name (i := 9) nd rfl (Or.inl rfl)) lgs_nil))) (lb_one (ls_if (LW.lt (lw_and (lt_val (le_callN F__law_is_constant (hr.mono (Nat.le_succ _)) rfl Z.g__law_is_constant Z.k__law_is_constant Z.b__law_is_constant (la_cons (lv 8) la_nil))) (lw_and1 (lt_val (le_callN F__law_is_constant (hr.mono (Nat.le_succ _)) rfl Z.g__law_is_constant Z.k__law_is_constant Z.b__law_is_constant (la_cons (lv 9) la_nil)))))) (lb_one (ls_if (lt_cmp (oj_ne (u64 hr)) (lv 8) (lv 9) (by rfl)) (lb_one (ls_ret le_bl)) lb_nil)) (lb_one (ls_if (LW.lt (lw_or (LW.lt (lw_and (lt_cmp (oj_eq (u64 hr)) (lv 8) (lv 9) (by rfl)) (lw_and1 (lt_cmp oj_gt (lv 7) le_int (by rfl))))) (lw_or1 (LW.lt (lw_and (lt_val (le_callB (cj_isi "int") rfl Z.g_isinstance (by first | exact boot_isinstance | rfl) (la_cons (lv 8) (la_cons (le_bty (T := "int") rfl Z.g_int (by rfl)) la_nil)))) (lw_and (lt_val (le_callB (cj_isi "int") rfl Z.g_isinstance (by first | exact boot_isinstance | rfl) (la_cons (lv 9) (la_cons (le_bty (T := "int") rfl Z.g_int (by rfl)) la_nil)))) (lw_and1 (lt_cmp oj_lt (lv 9) (le_op od_add (lv 8) (lv 7)) (by rfl))))))))) (lb_one (ls_ret le_bl)) lb_nil)))))
  (lb_one (ls_ret le_bl)))))))
end
end K69

namespace K69
open PySem PySem.Spec PyProof.Rows L2 TL
section
variable {P : Program} {wd : World} {K : PySem.W.Frag} {mg : PySem.Str → Option Value} {base : Heap} {k : Nat} {f : Addr}
theorem lb_lawC (Z : Kn K mg) (F_Select_init : FnOk P wd K mg base CX0 k (He.ma K (He.ga K ("Select" : PySem.Str)) ("__init__" : PySem.Str)) (fdOf K (He.ma K (He.ga K ("Select" : PySem.Str)) ("__init__" : PySem.Str))) [("self" : PySem.Str), ("uses" : PySem.Str), ("keep" : PySem.Str), ("where" : PySem.Str), ("without" : PySem.Str)] (lift K (T_Select_init K))) (F_Table_init : FnOk P wd K mg base CX0 k (He.ma K (He.ga K ("Table" : PySem.Str)) ("__init__" : PySem.Str)) (fdOf K (He.ma K (He.ga K ("Table" : PySem.Str)) ("__init__" : PySem.Str))) [("self" : PySem.Str), ("name" : PySem.Str), ("names" : PySem.Str), ("numbers" : PySem.Str), ("key" : PySem.Str)] (lift K (T_Table_init K))) (F__law_chains : FnOk P wd K mg base CX0 k (He.ga K ("_law_chains" : PySem.Str)) (fdOf K (He.ga K ("_law_chains" : PySem.Str))) [("_law_deck_here" : PySem.Str), ("_law_facts_here" : PySem.Str)] (lift K (T__law_chains K))) (F__law_deck : FnOk P wd K mg base CX0 k (He.ga K ("_law_deck" : PySem.Str)) (fdOf K (He.ga K ("_law_deck" : PySem.Str))) [("_law_script" : PySem.Str)] (lift K (T__law_deck K))) (F__law_facts : FnOk P wd K mg base CX0 k (He.ga K ("_law_facts" : PySem.Str)) (fdOf K (He.ga K ("_law_facts" : PySem.Str))) [("_law_where" : PySem.Str)] (lift K (T__law_facts K))) (F__law_first : FnOk P wd K mg base CX0 k (He.ga K ("_law_first" : PySem.Str)) (fdOf K (He.ga K ("_law_first" : PySem.Str))) [("_law_deck_here" : PySem.Str)] (lift K (T__law_first K))) (F__law_is_clash : FnOk P wd K mg base CX0 k (He.ga K ("_law_is_clash" : PySem.Str)) (fdOf K (He.ga K ("_law_is_clash" : PySem.Str))) [("_law_facts_here" : PySem.Str), ("_law_chain" : PySem.Str)] (lift K (T__law_is_clash K))) (F__law_is_plain : FnOk P wd K mg base CX0 k (He.ga K ("_law_is_plain" : PySem.Str)) (fdOf K (He.ga K ("_law_is_plain" : PySem.Str))) [("_law_it" : PySem.Str)] (lift K (T__law_is_plain K))) (F__law_pick : FnOk P wd K mg base CX0 k (He.ga K ("_law_pick" : PySem.Str)) (fdOf K (He.ga K ("_law_pick" : PySem.Str))) [("_law_deck_here" : PySem.Str), ("_law_some" : PySem.Str)] (lift K (T__law_pick K))) (F_within_holds : L2.FnR P wd K mg base CX0 k (He.ga K ("within_holds" : PySem.Str)) (lift K (starT 3 (T_within_holds K)))) (cdv : Value) (A : Around) (outer : List Env) (s : Shared) (H : Hp) (E : XK) (hr : Room (k + 1) (A.deeper (envOfC ("law" : PySem.Str) (defScope st_law) s.heap.objs.size f cdv))) (hgd : A.guards = some []) :
    LB (cxOf CX0 P wd K mg base N_law ("law" : PySem.Str) (defScope st_law) f cdv A outer s H E).nox (defBody st_law) (c_lawC K) := by
  have nd : (N_law).Nodup := sc_law.nd
  unfold c_lawC
  exact (lb_cons (ls_set (i := 1) nd rfl (Or.inl rfl) (le_callN F__law_deck (hr.mono (Nat.le_succ _)) rfl Z.g__law_deck Z.k__law_deck Z.b__law_deck (la_cons (lv 0) la_nil)))
  (lb_cons (ls_set (i := 2) nd rfl (Or.inl rfl) (le_newFd Z.m_Table F_Table_init hr rfl Z.g_Table Z.b_Table_init_3 Z.d_Table_3 (la_cons le_str (la_cons (le_tup (la_cons le_str (la_cons le_str la_nil))) (la_cons (le_tup (la_cons le_str (la_cons le_str la_nil))) la_nil)))))
  (lb_cons (ls_set (i := 3) nd rfl (Or.inl rfl) (le_newFd Z.m_Table F_Table_init hr rfl Z.g_Table Z.b_Table_init_4 Z.d_Table_4 (la_cons le_str (la_cons (le_tup (la_cons le_str (la_cons le_str la_nil))) (la_cons (le_tup (la_cons le_str (la_cons le_str la_nil))) (la_cons (le_callN F__law_pick (hr.mono (Nat.le_succ _)) rfl Z.g__law_pick Z.k__law_pick Z.b__law_pick (la_cons (lv 1) (la_cons (le_lst (la_cons (le_tup la_nil) (la_cons (le_tup (la_cons le_str la_nil)) la_nil))) la_nil))) la_nil))))))
  (lb_cons (ls_for PassesOwn.never rfl (li_range1 rfl Z.g_range le_int) (lg_name (i := 4) nd rfl (Or.inl rfl)) (lb_cons (ls_set (i := 5) nd rfl (Or.inl rfl) (le_callN F__law_first (hr.mono (Nat.le_succ _)) rfl Z.g__law_first Z.k__law_first Z.b__law_first (la_cons (lv 1) la_nil)))
  (lb_cons (ls_par (i := 6) (j := 7) rfl nd rfl rfl (by decide) rfl rfl (le_newFd Z.m_Select F_Select_init hr rfl Z.g_Select Z.b_Select_init_3 Z.d_Select_3 (la_cons (le_tup (la_cons (le_tup (la_cons le_str (la_cons le_str la_nil))) (la_cons (le_tup (la_cons le_str (la_cons le_str la_nil))) la_nil))) (la_cons (le_tup (la_cons le_str la_nil)) (la_cons (lv 5) la_nil)))) (le_callN F__law_facts (hr.mono (Nat.le_succ _)) rfl Z.g__law_facts Z.k__law_facts Z.b__law_facts (la_cons (lv 5) la_nil)) (by rfl))
  (lb_cons (ls_set (i := 8) nd rfl (Or.inl rfl) (le_newFd Z.m_Select F_Select_init hr rfl Z.g_Select Z.b_Select_init_3 Z.d_Select_3 (la_cons (le_tup (la_cons (le_tup (la_cons le_str (la_cons le_str la_nil))) la_nil)) (la_cons (le_tup (la_cons le_str la_nil)) (la_cons (le_tup (la_cons (le_tup (la_cons le_str (la_cons le_str (la_cons le_str la_nil)))) la_nil)) la_nil)))))
  (lb_one (ls_forC PassesOwn.never rfl (li_seq (le_callN F__law_chains (hr.mono (Nat.le_succ _)) rfl Z.g__law_chains Z.k__law_chains Z.b__law_chains (la_cons (lv 1) (la_cons (lv 7) la_nil)))) (lg_name (i := 9) nd rfl (Or.inl rfl)) (lb_cons (ls_set (i := 10) nd rfl (Or.inl rfl) (le_and (le_callN F__law_is_plain (hr.mono (Nat.le_succ _)) rfl Z.g__law_is_plain Z.k__law_is_plain Z.b__law_is_plain (la_cons (lv 9) la_nil)) (le_one (le_callN F__law_is_clash (hr.mono (Nat.le_succ _)) rfl Z.g__law_is_clash Z.k__law_is_clash Z.b__law_is_clash (la_cons (lv 7) (la_cons (lv 9) la_nil))))))
  (lb_cons (ls_set (i := 11) nd rfl (Or.inl rfl) (le_lstM (la_cons (le_callR F_within_holds (hr.mono (Nat.le_succ _)) rfl Z.g_within_holds Z.k_within_holds (la_cons (lv 6) (la_cons (lv 8) (la_cons (le_tup (la_cons le_str (la_cons (lv 9) la_nil))) (la_cons (lv 2) (la_cons (lv 3) la_nil)))))) la_nil)))
  (lb_cons (ls_expr (le_bm PySem.F.plainAttrs_list PySem.F.slot_list_append PySem.F.type_list_append md_append (lv 11) (la_cons (le_callR F_within_holds (hr.mono (Nat.le_succ _)) rfl Z.g_within_holds Z.k_within_holds (la_cons (lv 6) (la_cons (lv 8) (la_cons (le_lst (la_cons le_str (la_cons (lv 9) la_nil))) (la_cons (lv 2) (la_cons (lv 3) la_nil)))))) la_nil)))
  (lb_one (ls_if (lt_cmp (oj_ne (u64 hr)) (le_callB (cd_repr hgd (u64 hr)) rfl Z.g_repr (by rfl) (la_cons (lv 11) la_nil)) (le_callB (cd_repr hgd (u64 hr)) rfl Z.g_repr (by rfl) (la_cons (le_lst (la_cons (lv 10) (la_cons le_bl la_nil))) la_nil)) (by rfl)) (lb_one (ls_ret le_bl)) lb_nil)))))))))))
  (lb_one (ls_ret le_bl))))))
end
end K69

namespace K69
open PySem PySem.Spec PyProof.Rows L2 TL
theorem clL_app {n : Nat} : ∀ {a b : List D}, TL.ClL n (a ++ b) ↔ TL.ClL n a ∧ TL.ClL n b
  | [], b => ⟨fun h => ⟨trivial, h⟩, fun h => h.2⟩
  | d :: a, b => ⟨fun h => ⟨⟨h.1, (clL_app.mp h.2).1⟩, (clL_app.mp h.2).2⟩, fun h => ⟨h.1.1, clL_app.mpr ⟨h.1.2, h.2⟩⟩⟩
section
variable {P : Program} {wd : World} {K : PySem.W.Frag} {mg : PySem.Str → Option Value} {base : Heap}
theorem ok_is_integer (Z : Kn K mg) : FnOk P wd K mg base CX0 2 (He.ga K ("is_integer" : PySem.Str)) (fdOf K (He.ga K ("is_integer" : PySem.Str))) [("thing" : PySem.Str)] (lift K (T_is_integer K)) :=
  fn_tree (k := 1) Z.f_is_integer sc_is_integer (fun ds h Q t => by obtain ⟨_, rfl, _⟩ := t <;> rfl) fun cdv A outer s H E hr => ⟨_, lb_is_integer (k := 0) Z  cdv A outer s H E hr, pl_is_integer K⟩
theorem ok_is_name (Z : Kn K mg) : FnOk P wd K mg base CX0 2 (He.ga K ("is_name" : PySem.Str)) (fdOf K (He.ga K ("is_name" : PySem.Str))) [("thing" : PySem.Str)] (lift K (T_is_name K)) :=
  fn_tree (k := 1) Z.f_is_name sc_is_name (fun ds h Q t => by obtain ⟨_, rfl, _⟩ := t <;> rfl) fun cdv A outer s H E hr => ⟨_, lb_is_name (k := 0) Z  cdv A outer s H E hr, pl_is_name K⟩
theorem ok_Table_columns (Z : Kn K mg) : FnOk P wd K mg base CX0 2 (prA K (He.ga K ("Table" : PySem.Str)) "columns") (fdOf K (prA K (He.ga K ("Table" : PySem.Str)) "columns")) [("self" : PySem.Str)] (lift K (T_Table_columns K)) :=
  fn_tree (k := 1) Z.f_Table_columns sc_Table_columns (fun ds h Q t => by obtain ⟨_, _, _, _, rfl, _⟩ := t <;> rfl) fun cdv A outer s H E hr => ⟨_, lb_Table_columns (k := 0) Z  cdv A outer s H E hr, pl_Table_columns K⟩
theorem ok_fact_of (Z : Kn K mg) : FnOk P wd K mg base CX0 2 (He.ga K ("fact_of" : PySem.Str)) (fdOf K (He.ga K ("fact_of" : PySem.Str))) [("left" : PySem.Str), ("operator" : PySem.Str), ("right" : PySem.Str)] (lift K (T_fact_of K)) :=
  fn_tree (k := 1) Z.f_fact_of sc_fact_of (fun ds h Q t => by obtain ⟨_, _, _, rfl, _⟩ := t <;> rfl) fun cdv A outer s H E hr => ⟨_, lb_fact_of (k := 0) Z  cdv A outer s H E hr, pl_fact_of K⟩
theorem ok_strict_in (Z : Kn K mg) : FnOk P wd K mg base CX0 2 (He.ga K ("strict_in" : PySem.Str)) (fdOf K (He.ga K ("strict_in" : PySem.Str))) [("chain" : PySem.Str)] (lift K (T_strict_in K)) :=
  fn_tree (k := 1) Z.f_strict_in sc_strict_in (fun ds h Q t => by obtain ⟨_, rfl, _⟩ := t <;> rfl) fun cdv A outer s H E hr => ⟨_, lb_strict_in (k := 0) Z  cdv A outer s H E hr, pl_strict_in K⟩
theorem ok_chain_end (Z : Kn K mg) : FnOk P wd K mg base CX0 2 (He.ga K ("chain_end" : PySem.Str)) (fdOf K (He.ga K ("chain_end" : PySem.Str))) [("chain" : PySem.Str), ("start" : PySem.Str)] (lift K (T_chain_end K)) :=
  fn_tree (k := 1) Z.f_chain_end sc_chain_end (fun ds h Q t => by obtain ⟨_, _, rfl, _⟩ := t <;> rfl) fun cdv A outer s H E hr => ⟨_, lb_chain_end (k := 0) Z  cdv A outer s H E hr, pl_chain_end K⟩
theorem ok_Scene_init (Z : Kn K mg) : FnOk P wd K mg base CX0 2 (He.ma K (He.ga K ("Scene" : PySem.Str)) ("__init__" : PySem.Str)) (fdOf K (He.ma K (He.ga K ("Scene" : PySem.Str)) ("__init__" : PySem.Str))) [("self" : PySem.Str), ("tables" : PySem.Str), ("plan" : PySem.Str), ("rows" : PySem.Str), ("kinds" : PySem.Str)] (lift K (T_Scene_init K)) :=
  fn_tree (k := 1) Z.f_Scene_init sc_Scene_init (fun ds h Q t => by obtain ⟨_, _, rfl, _⟩ := t <;> rfl) fun cdv A outer s H E hr => ⟨_, lb_Scene_init (k := 0) Z  cdv A outer s H E hr, pl_Scene_init K⟩
theorem ok_Scene_entry (Z : Kn K mg) : FnOk P wd K mg base CX0 2 (He.ma K (He.ga K ("Scene" : PySem.Str)) ("entry" : PySem.Str)) (fdOf K (He.ma K (He.ga K ("Scene" : PySem.Str)) ("entry" : PySem.Str))) [("self" : PySem.Str), ("called" : PySem.Str), ("column" : PySem.Str)] (lift K (T_Scene_entry K)) :=
  fn_tree (k := 1) Z.f_Scene_entry sc_Scene_entry (fun ds h Q t => by obtain ⟨_, _, _, _, _, _, rfl, _⟩ := t <;> rfl) fun cdv A outer s H E hr => ⟨_, lb_Scene_entry (k := 0) Z  cdv A outer s H E hr, pl_Scene_entry K⟩
theorem ok_Plan_init (Z : Kn K mg) : FnOk P wd K mg base CX0 2 (He.ma K (He.ga K ("Plan" : PySem.Str)) ("__init__" : PySem.Str)) (fdOf K (He.ma K (He.ga K ("Plan" : PySem.Str)) ("__init__" : PySem.Str))) [("self" : PySem.Str), ("names" : PySem.Str), ("conditions" : PySem.Str), ("withouts" : PySem.Str), ("kept" : PySem.Str), ("kinds" : PySem.Str)] (lift K (T_Plan_init K)) :=
  fn_tree (k := 1) Z.f_Plan_init sc_Plan_init (fun ds h Q t => by obtain ⟨_, _, _, _, _, _, rfl, _⟩ := t <;> rfl) fun cdv A outer s H E hr => ⟨_, lb_Plan_init (k := 0) Z  cdv A outer s H E hr, pl_Plan_init K⟩
theorem ok_require (Z : Kn K mg) : FnOk P wd K mg base CX0 2 (He.ga K ("require" : PySem.Str)) (fdOf K (He.ga K ("require" : PySem.Str))) [("good" : PySem.Str)] (lift K (T_require K)) :=
  fn_tree (k := 1) Z.f_require sc_require (fun ds h Q t => by obtain ⟨rfl, _⟩ := t <;> rfl) fun cdv A outer s H E hr => ⟨_, lb_require (k := 0) Z  cdv A outer s H E hr, pl_require K⟩
theorem ok_is_name_column (Z : Kn K mg) : FnOk P wd K mg base CX0 2 (He.ga K ("is_name_column" : PySem.Str)) (fdOf K (He.ga K ("is_name_column" : PySem.Str))) [("scope" : PySem.Str), ("column" : PySem.Str)] (lift K (T_is_name_column K)) :=
  fn_tree (k := 1) Z.f_is_name_column sc_is_name_column (fun ds h Q t => by obtain ⟨_, _, rfl, _⟩ := t <;> rfl) fun cdv A outer s H E hr => ⟨_, lb_is_name_column (k := 0) Z  cdv A outer s H E hr, pl_is_name_column K⟩
theorem ok_Select_init (Z : Kn K mg) : FnOk P wd K mg base CX0 2 (He.ma K (He.ga K ("Select" : PySem.Str)) ("__init__" : PySem.Str)) (fdOf K (He.ma K (He.ga K ("Select" : PySem.Str)) ("__init__" : PySem.Str))) [("self" : PySem.Str), ("uses" : PySem.Str), ("keep" : PySem.Str), ("where" : PySem.Str), ("without" : PySem.Str)] (lift K (T_Select_init K)) :=
  fn_tree (k := 1) Z.f_Select_init sc_Select_init (fun ds h Q t => by obtain ⟨_, _, _, _, _, _, _, rfl, _⟩ := t <;> rfl) fun cdv A outer s H E hr => ⟨_, lb_Select_init (k := 0) Z  cdv A outer s H E hr, pl_Select_init K⟩
theorem ok__law_deck (Z : Kn K mg) : FnOk P wd K mg base CX0 2 (He.ga K ("_law_deck" : PySem.Str)) (fdOf K (He.ga K ("_law_deck" : PySem.Str))) [("_law_script" : PySem.Str)] (lift K (T__law_deck K)) :=
  fn_tree (k := 1) Z.f__law_deck sc__law_deck (fun ds h Q t => by obtain ⟨_, _, rfl, _⟩ := t <;> rfl) fun cdv A outer s H E hr => ⟨_, lb__law_deck (k := 0) Z  cdv A outer s H E hr, pl__law_deck K⟩
theorem ok__law_draw (Z : Kn K mg) : FnOk P wd K mg base CX0 2 (He.ga K ("_law_draw" : PySem.Str)) (fdOf K (He.ga K ("_law_draw" : PySem.Str))) [("_law_deck_here" : PySem.Str), ("_law_many" : PySem.Str)] (lift K (T__law_draw K)) :=
  fn_tree (k := 1) Z.f__law_draw sc__law_draw (fun ds h Q t => by obtain ⟨_, _, _, _, _, _, rfl, _⟩ := t <;> rfl) fun cdv A outer s H E hr => ⟨_, lb__law_draw (k := 0) Z  cdv A outer s H E hr, pl__law_draw K⟩
theorem ok__law_facts (Z : Kn K mg) : FnOk P wd K mg base CX0 2 (He.ga K ("_law_facts" : PySem.Str)) (fdOf K (He.ga K ("_law_facts" : PySem.Str))) [("_law_where" : PySem.Str)] (lift K (T__law_facts K)) :=
  fn_tree (k := 1) Z.f__law_facts sc__law_facts (fun ds h Q t => by obtain ⟨_, rfl, _⟩ := t <;> rfl) fun cdv A outer s H E hr => ⟨_, lb__law_facts (k := 0) Z  cdv A outer s H E hr, pl__law_facts K⟩
theorem ok__law_ends (Z : Kn K mg) : FnOk P wd K mg base CX0 2 (He.ga K ("_law_ends" : PySem.Str)) (fdOf K (He.ga K ("_law_ends" : PySem.Str))) [("_law_chain" : PySem.Str)] (lift K (T__law_ends K)) :=
  fn_tree (k := 1) Z.f__law_ends sc__law_ends (fun ds h Q t => by obtain ⟨_, rfl, _⟩ := t <;> rfl) fun cdv A outer s H E hr => ⟨_, lb__law_ends (k := 0) Z  cdv A outer s H E hr, pl__law_ends K⟩
theorem ok__law_is_constant (Z : Kn K mg) : FnOk P wd K mg base CX0 2 (He.ga K ("_law_is_constant" : PySem.Str)) (fdOf K (He.ga K ("_law_is_constant" : PySem.Str))) [("_law_term" : PySem.Str)] (lift K (T__law_is_constant K)) :=
  fn_tree (k := 1) Z.f__law_is_constant sc__law_is_constant (fun ds h Q t => by obtain ⟨_, rfl, _⟩ := t <;> rfl) fun cdv A outer s H E hr => ⟨_, lb__law_is_constant (k := 0) Z  cdv A outer s H E hr, pl__law_is_constant K⟩
theorem ok_are_names (Z : Kn K mg) : FnOk P wd K mg base CX0 4 (He.ga K ("are_names" : PySem.Str)) (fdOf K (He.ga K ("are_names" : PySem.Str))) [("thing" : PySem.Str)] (lift K (T_are_names K)) :=
  fn_tree (k := 3) Z.f_are_names sc_are_names (fun ds h Q t => by obtain ⟨_, rfl, _⟩ := t <;> rfl) fun cdv A outer s H E hr => ⟨_, lb_are_names (k := 2) Z ((ok_is_name Z).mono (by decide)) cdv A outer s H E hr, pl_are_names K⟩
theorem ok_is_key_tables (Z : Kn K mg) : FnOk P wd K mg base CX0 4 (He.ga K ("is_key_tables" : PySem.Str)) (fdOf K (He.ga K ("is_key_tables" : PySem.Str))) [("thing" : PySem.Str), ("columns" : PySem.Str)] (lift K (T_is_key_tables K)) :=
  fn_tree (k := 3) Z.f_is_key_tables sc_is_key_tables (fun ds h Q t => by obtain ⟨_, _, rfl, _⟩ := t <;> rfl) fun cdv A outer s H E hr => ⟨_, lb_is_key_tables (k := 2) Z ((ok_is_name Z).mono (by decide)) cdv A outer s H E hr, pl_is_key_tables K⟩
theorem ok_is_chain_clash (Z : Kn K mg) : FnOk P wd K mg base CX0 4 (He.ga K ("is_chain_clash" : PySem.Str)) (fdOf K (He.ga K ("is_chain_clash" : PySem.Str))) [("chain" : PySem.Str), ("start" : PySem.Str)] (lift K (T_is_chain_clash K)) :=
  fn_tree (k := 3) Z.f_is_chain_clash sc_is_chain_clash (fun ds h Q t => by obtain ⟨_, _, rfl, _⟩ := t <;> rfl) fun cdv A outer s H E hr => ⟨_, lb_is_chain_clash (k := 2) Z ((ok_chain_end Z).mono (by decide)) ((ok_is_integer Z).mono (by decide)) ((ok_is_name Z).mono (by decide)) ((ok_strict_in Z).mono (by decide)) cdv A outer s H E hr, pl_is_chain_clash K⟩
theorem ok_Scene_add_stranger (Z : Kn K mg) : FnOk P wd K mg base CX0 4 (He.ma K (He.ga K ("Scene" : PySem.Str)) ("add_stranger" : PySem.Str)) (fdOf K (He.ma K (He.ga K ("Scene" : PySem.Str)) ("add_stranger" : PySem.Str))) [("self" : PySem.Str), ("alias" : PySem.Str), ("name" : PySem.Str)] (lift K (T_Scene_add_stranger K)) :=
  fn_tree (k := 3) Z.f_Scene_add_stranger sc_Scene_add_stranger (fun ds h Q t => by obtain ⟨_, ⟨_, rfl, _⟩ | ⟨_, rfl, _⟩⟩ := t <;> rfl) fun cdv A outer s H E hr => ⟨_, lb_Scene_add_stranger (k := 2) Z ((ok_Table_columns Z).mono (by decide)) cdv A outer s H E hr, pl_Scene_add_stranger K⟩
theorem ok_Scene_facts_at (Z : Kn K mg) : FnOk P wd K mg base CX0 4 (He.ma K (He.ga K ("Scene" : PySem.Str)) ("facts_at" : PySem.Str)) (fdOf K (He.ma K (He.ga K ("Scene" : PySem.Str)) ("facts_at" : PySem.Str))) [("self" : PySem.Str), ("plan" : PySem.Str), ("rows" : PySem.Str)] (lift K (T_Scene_facts_at K)) :=
  fn_tree (k := 3) Z.f_Scene_facts_at sc_Scene_facts_at (fun ds h Q t => by obtain ⟨_, _, _, rfl, _⟩ := t <;> rfl) fun cdv A outer s H E hr => ⟨_, lb_Scene_facts_at (k := 2) Z ((ok_Scene_entry Z).mono (by decide)) ((ok_fact_of Z).mono (by decide)) cdv A outer s H E hr, pl_Scene_facts_at K⟩
theorem ok_Scene_kept_at (Z : Kn K mg) : FnOk P wd K mg base CX0 4 (He.ma K (He.ga K ("Scene" : PySem.Str)) ("kept_at" : PySem.Str)) (fdOf K (He.ma K (He.ga K ("Scene" : PySem.Str)) ("kept_at" : PySem.Str))) [("self" : PySem.Str), ("plan" : PySem.Str), ("rows" : PySem.Str)] (lift K (T_Scene_kept_at K)) :=
  fn_tree (k := 3) Z.f_Scene_kept_at sc_Scene_kept_at (fun ds h Q t => by obtain ⟨_, _, _, _, rfl, _⟩ := t <;> rfl) fun cdv A outer s H E hr => ⟨_, lb_Scene_kept_at (k := 2) Z ((ok_Scene_entry Z).mono (by decide)) cdv A outer s H E hr, pl_Scene_kept_at K⟩
theorem ok_is_plain (Z : Kn K mg) : FnOk P wd K mg base CX0 4 (He.ga K ("is_plain" : PySem.Str)) (fdOf K (He.ga K ("is_plain" : PySem.Str))) [("thing" : PySem.Str)] (lift K (T_is_plain K)) :=
  FnOk.imp (fn_tree (k := 3) (T := T0_is_plain K) Z.f_is_plain sc_is_plain (fun ds h Q t => by obtain ⟨_, _, _, ⟨rfl, _⟩ | ⟨rfl, _⟩⟩ := t <;> rfl) fun cdv A outer s H E hr => ⟨_, lb_is_plain (k := 2) Z ((ok_is_integer Z).mono (by decide)) cdv A outer s H E hr, pl_is_plain K⟩) fun vs H Q E h => any_heap (fun ds P p => ⟨rfl, let ⟨its, hc, q⟩ := p; ⟨its, hc, q.imp (fun ⟨e, z⟩ => ⟨e, _, rfl, z⟩) (fun ⟨e, z⟩ => ⟨e, _, rfl, z⟩)⟩⟩) h
theorem ok_table_with (Z : Kn K mg) : FnOk P wd K mg base CX0 4 (He.ga K ("table_with" : PySem.Str)) (fdOf K (He.ga K ("table_with" : PySem.Str))) [("name" : PySem.Str), ("tables" : PySem.Str)] (lift K (T_table_with K)) :=
  fn_tree (k := 3) Z.f_table_with sc_table_with (fun ds h Q t => by obtain ⟨_, ⟨rfl, _⟩ | ⟨rfl, _⟩⟩ := t <;> rfl) fun cdv A outer s H E hr => ⟨_, lb_table_with (k := 2) Z ((ok_require Z).mono (by decide)) cdv A outer s H E hr, pl_table_with K⟩
theorem ok_column_of (Z : Kn K mg) : FnOk P wd K mg base CX0 4 (He.ga K ("column_of" : PySem.Str)) (fdOf K (He.ga K ("column_of" : PySem.Str))) [("scope" : PySem.Str), ("thing" : PySem.Str)] (lift K (T_column_of K)) :=
  fn_tree (k := 3) Z.f_column_of sc_column_of (fun ds h Q t => by obtain ⟨_, _, rfl, _⟩ := t <;> rfl) fun cdv A outer s H E hr => ⟨_, lb_column_of (k := 2) Z ((ok_Table_columns Z).mono (by decide)) ((ok_require Z).mono (by decide)) cdv A outer s H E hr, pl_column_of K⟩
theorem ok_Select_kept_columns (Z : Kn K mg) : FnOk P wd K mg base CX0 4 (He.ma K (He.ga K ("Select" : PySem.Str)) ("kept_columns" : PySem.Str)) (fdOf K (He.ma K (He.ga K ("Select" : PySem.Str)) ("kept_columns" : PySem.Str))) [("self" : PySem.Str)] (lift K (T_Select_kept_columns K)) :=
  fn_tree (k := 3) Z.f_Select_kept_columns sc_Select_kept_columns (fun ds h Q t => by obtain ⟨_, _, rfl, _⟩ := t <;> rfl) fun cdv A outer s H E hr => ⟨_, lb_Select_kept_columns (k := 2) Z ((ok_require Z).mono (by decide)) cdv A outer s H E hr, pl_Select_kept_columns K⟩
theorem ok__law_pick (Z : Kn K mg) : FnOk P wd K mg base CX0 4 (He.ga K ("_law_pick" : PySem.Str)) (fdOf K (He.ga K ("_law_pick" : PySem.Str))) [("_law_deck_here" : PySem.Str), ("_law_some" : PySem.Str)] (lift K (T__law_pick K)) :=
  fn_tree (k := 3) Z.f__law_pick sc__law_pick (fun ds h Q t => by obtain ⟨_, _, _, _, _, _, _, rfl, _⟩ := t <;> rfl) fun cdv A outer s H E hr => ⟨_, lb__law_pick (k := 2) Z ((ok__law_draw Z).mono (by decide)) cdv A outer s H E hr, pl__law_pick K⟩
theorem ok__law_is_clash (Z : Kn K mg) : FnOk P wd K mg base CX0 4 (He.ga K ("_law_is_clash" : PySem.Str)) (fdOf K (He.ga K ("_law_is_clash" : PySem.Str))) [("_law_facts_here" : PySem.Str), ("_law_chain" : PySem.Str)] (lift K (T__law_is_clash K)) :=
  fn_tree (k := 3) Z.f__law_is_clash sc__law_is_clash (fun ds h Q t => by obtain ⟨_, _, rfl, _⟩ := t <;> rfl) fun cdv A outer s H E hr => ⟨_, lb__law_is_clash (k := 2) Z ((ok__law_ends Z).mono (by decide)) ((ok__law_is_constant Z).mono (by decide)) cdv A outer s H E hr, pl__law_is_clash K⟩
theorem ok_Table_init (Z : Kn K mg) : FnOk P wd K mg base CX0 6 (He.ma K (He.ga K ("Table" : PySem.Str)) ("__init__" : PySem.Str)) (fdOf K (He.ma K (He.ga K ("Table" : PySem.Str)) ("__init__" : PySem.Str))) [("self" : PySem.Str), ("name" : PySem.Str), ("names" : PySem.Str), ("numbers" : PySem.Str), ("key" : PySem.Str)] (lift K (T_Table_init K)) :=
  fn_tree (k := 5) Z.f_Table_init sc_Table_init (fun ds h Q t => by obtain ⟨_, _, _, _, _, _, _, rfl, _⟩ := t <;> rfl) fun cdv A outer s H E hr => ⟨_, lb_Table_init (k := 4) Z ((ok_are_names Z).mono (by decide)) ((ok_is_key_tables Z).mono (by decide)) ((ok_is_name Z).mono (by decide)) cdv A outer s H E hr, pl_Table_init K⟩
theorem ok_is_clash (Z : Kn K mg) : FnOk P wd K mg base CX0 6 (He.ga K ("is_clash" : PySem.Str)) (fdOf K (He.ga K ("is_clash" : PySem.Str))) [("thing" : PySem.Str), ("facts" : PySem.Str)] (lift K (T_is_clash K)) :=
  fn_tree (k := 5) Z.f_is_clash sc_is_clash (fun ds h Q t => by obtain ⟨_, _, rfl, _⟩ := t <;> rfl) fun cdv A outer s H E hr => ⟨_, lb_is_clash (k := 4) Z ((ok_chain_end Z).mono (by decide)) ((ok_is_chain_clash Z).mono (by decide)) cdv A outer s H E hr, pl_is_clash K⟩
theorem ok_scope_of (Z : Kn K mg) : FnOk P wd K mg base CX0 6 (He.ga K ("scope_of" : PySem.Str)) (fdOf K (He.ga K ("scope_of" : PySem.Str))) [("uses" : PySem.Str), ("most" : PySem.Str), ("tables" : PySem.Str)] (lift K (T_scope_of K)) :=
  fn_tree (k := 5) Z.f_scope_of sc_scope_of (fun ds h Q t => by obtain ⟨_, _, _, rfl, _⟩ := t <;> rfl) fun cdv A outer s H E hr => ⟨_, lb_scope_of (k := 4) Z ((ok_is_name Z).mono (by decide)) ((ok_require Z).mono (by decide)) ((ok_table_with Z).mono (by decide)) cdv A outer s H E hr, pl_scope_of K⟩
theorem ok_name_operand (Z : Kn K mg) : FnOk P wd K mg base CX0 6 (He.ga K ("name_operand" : PySem.Str)) (fdOf K (He.ga K ("name_operand" : PySem.Str))) [("scope" : PySem.Str), ("thing" : PySem.Str)] (lift K (T_name_operand K)) :=
  fn_tree (k := 5) Z.f_name_operand sc_name_operand (fun ds h Q t => by obtain ⟨_, _, _, rfl, _⟩ := t <;> rfl) fun cdv A outer s H E hr => ⟨_, lb_name_operand (k := 4) Z ((ok_column_of Z).mono (by decide)) ((ok_is_name Z).mono (by decide)) ((ok_is_name_column Z).mono (by decide)) ((ok_require Z).mono (by decide)) cdv A outer s H E hr, pl_name_operand K⟩
theorem ok_number_operand (Z : Kn K mg) : FnOk P wd K mg base CX0 6 (He.ga K ("number_operand" : PySem.Str)) (fdOf K (He.ga K ("number_operand" : PySem.Str))) [("scope" : PySem.Str), ("left" : PySem.Str), ("thing" : PySem.Str)] (lift K (T_number_operand K)) :=
  fn_tree (k := 5) Z.f_number_operand sc_number_operand (fun ds h Q t => by obtain ⟨_, _, _, rfl, _⟩ := t <;> rfl) fun cdv A outer s H E hr => ⟨_, lb_number_operand (k := 4) Z ((ok_column_of Z).mono (by decide)) ((ok_is_integer Z).mono (by decide)) ((ok_is_name_column Z).mono (by decide)) ((ok_require Z).mono (by decide)) cdv A outer s H E hr, pl_number_operand K⟩
theorem ok__law_first (Z : Kn K mg) : FnOk P wd K mg base CX0 6 (He.ga K ("_law_first" : PySem.Str)) (fdOf K (He.ga K ("_law_first" : PySem.Str))) [("_law_deck_here" : PySem.Str)] (lift K (T__law_first K)) :=
  fn_tree (k := 5) Z.f__law_first sc__law_first (fun ds h Q t => by obtain ⟨_, _, _, _, rfl, _⟩ := t <;> rfl) fun cdv A outer s H E hr => ⟨_, lb__law_first (k := 4) Z ((ok__law_draw Z).mono (by decide)) ((ok__law_pick Z).mono (by decide)) cdv A outer s H E hr, pl__law_first K⟩
theorem ok__law_chains (Z : Kn K mg) : FnOk P wd K mg base CX0 6 (He.ga K ("_law_chains" : PySem.Str)) (fdOf K (He.ga K ("_law_chains" : PySem.Str))) [("_law_deck_here" : PySem.Str), ("_law_facts_here" : PySem.Str)] (lift K (T__law_chains K)) :=
  fn_tree (k := 5) Z.f__law_chains sc__law_chains (fun ds h Q t => by obtain ⟨_, _, _, _, _, rfl, _⟩ := t <;> rfl) fun cdv A outer s H E hr => ⟨_, lb__law_chains (k := 4) Z ((ok__law_draw Z).mono (by decide)) ((ok__law_pick Z).mono (by decide)) cdv A outer s H E hr, pl__law_chains K⟩
theorem ok_is_tree (Z : Kn K mg) : FnOk P wd K mg base CX0 8 (He.ga K ("is_tree" : PySem.Str)) (fdOf K (He.ga K ("is_tree" : PySem.Str))) [("scene" : PySem.Str), ("facts" : PySem.Str), ("tree" : PySem.Str)] (lift K (T_is_tree K)) :=
  fn_tree (k := 7) Z.f_is_tree sc_is_tree (fun ds h Q t => by obtain ⟨_, _, _, rfl, _⟩ := t <;> rfl) fun cdv A outer s H E hr => ⟨_, lb_is_tree (k := 6) Z ((ok_is_clash Z).mono (by decide)) cdv A outer s H E hr, pl_is_tree K⟩
theorem ok_condition_of (Z : Kn K mg) : FnOk P wd K mg base CX0 8 (He.ga K ("condition_of" : PySem.Str)) (fdOf K (He.ga K ("condition_of" : PySem.Str))) [("scope" : PySem.Str), ("thing" : PySem.Str)] (lift K (T_condition_of K)) :=
  fn_tree (k := 7) Z.f_condition_of sc_condition_of (fun ds h Q t => by obtain ⟨_, _, rfl, _⟩ := t <;> rfl) fun cdv A outer s H E hr => ⟨_, lb_condition_of (k := 6) Z ((ok_column_of Z).mono (by decide)) ((ok_is_name_column Z).mono (by decide)) ((ok_name_operand Z).mono (by decide)) ((ok_number_operand Z).mono (by decide)) ((ok_require Z).mono (by decide)) cdv A outer s H E hr, pl_condition_of K⟩
theorem ok_plainN (f : Addr) (fd : FuncData) (ps : List PySem.Str) : FnOk P wd K mg base CX0 2 f fd ps (lift K fun _ _ _ => False) := ⟨fun vs H Q E h => (let ⟨_, _, _, _, _, _, _, t, _⟩ := h; t.elim), fun A outer s H args us vs Q E hr he hb hv h => (let ⟨_, _, _, _, _, _, _, t, _⟩ := h; t.elim)⟩
theorem ok_plain0 (Z : Kn K mg) : FnOk P wd K mg base CX0 4 (He.ga K ("_law_is_plain" : PySem.Str)) (fdOf K (He.ga K ("_law_is_plain" : PySem.Str))) [("_law_it" : PySem.Str)] (lift K (T_plain 0)) :=
  fn_tree (k := 3) Z.f__law_is_plain sc__law_is_plain (fun ds h Q t => by obtain ⟨_, rfl, _⟩ := t; rfl) fun cdv A outer s H E hr => ⟨c__law_is_plain K (fun _ _ _ => False), lb__law_is_plain (k := 2) (TR := (fun _ _ _ => False)) Z (ok_plainN _ _ _) cdv A outer s H E hr, pl_plain0 K _⟩
theorem ok_plain1 (Z : Kn K mg) : FnOk P wd K mg base CX0 6 (He.ga K ("_law_is_plain" : PySem.Str)) (fdOf K (He.ga K ("_law_is_plain" : PySem.Str))) [("_law_it" : PySem.Str)] (lift K (T_plain 1)) :=
  fn_tree (k := 5) Z.f__law_is_plain sc__law_is_plain (fun ds h Q t => by obtain ⟨_, rfl, _⟩ := t; rfl) fun cdv A outer s H E hr => ⟨c__law_is_plain K (T_plain 0), lb__law_is_plain (k := 4) (TR := (T_plain 0)) Z (ok_plain0 Z) cdv A outer s H E hr, pl_plain1 K⟩
theorem ok__law_is_plain (Z : Kn K mg) : FnOk P wd K mg base CX0 8 (He.ga K ("_law_is_plain" : PySem.Str)) (fdOf K (He.ga K ("_law_is_plain" : PySem.Str))) [("_law_it" : PySem.Str)] (lift K (T_plain 2)) :=
  fn_tree (k := 7) Z.f__law_is_plain sc__law_is_plain (fun ds h Q t => by obtain ⟨_, rfl, _⟩ := t; rfl) fun cdv A outer s H E hr => ⟨c__law_is_plain K (T_plain 1), lb__law_is_plain (k := 6) (TR := (T_plain 1)) Z (ok_plain1 Z) cdv A outer s H E hr, pl_plain2 K⟩
theorem ok_conditions_of (Z : Kn K mg) : FnOk P wd K mg base CX0 10 (He.ga K ("conditions_of" : PySem.Str)) (fdOf K (He.ga K ("conditions_of" : PySem.Str))) [("scope" : PySem.Str), ("things" : PySem.Str)] (lift K (T_conditions_of K)) :=
  fn_tree (k := 9) Z.f_conditions_of sc_conditions_of (fun ds h Q t => by obtain ⟨_, _, _, rfl, _⟩ := t <;> rfl) fun cdv A outer s H E hr => ⟨_, lb_conditions_of (k := 8) Z ((ok_condition_of Z).mono (by decide)) ((ok_require Z).mono (by decide)) cdv A outer s H E hr, pl_conditions_of K⟩
theorem ok_plan_of (Z : Kn K mg) : FnOk P wd K mg base CX0 12 (He.ga K ("plan_of" : PySem.Str)) (fdOf K (He.ga K ("plan_of" : PySem.Str))) [("question" : PySem.Str), ("tables" : PySem.Str)] (lift K (T_plan_of K)) :=
  fn_tree (k := 11) Z.f_plan_of sc_plan_of (fun ds h Q t => by obtain ⟨_, _, _, _, rfl, _⟩ := t <;> rfl) fun cdv A outer s H E hr => ⟨_, lb_plan_of (k := 10) Z ((ok_Plan_init Z).mono (by decide)) ((ok_Select_kept_columns Z).mono (by decide)) ((ok_column_of Z).mono (by decide)) ((ok_conditions_of Z).mono (by decide)) ((ok_is_name_column Z).mono (by decide)) ((ok_require Z).mono (by decide)) ((ok_scope_of Z).mono (by decide)) cdv A outer s H E hr, pl_plan_of K⟩
theorem ok_Select_check (Z : Kn K mg) : L2.FnR P wd K mg base CX0 14 (He.ma K (He.ga K ("Select" : PySem.Str)) ("check" : PySem.Str)) (lift K (starT 1 (T_Select_check K))) :=
  fn_treeS (k := 13) (ps := [("self" : PySem.Str)]) Z.f_Select_check sc_Select_check (fun _ _ _ _ _ _ us rest hl => match us, rest, hl with | [a], [], _ => rfl | [a], r :: rs, _ => rfl) fun cdv A outer s H E hr => ⟨_, lb_Select_check (k := 12) Z ((ok_plan_of Z).mono (by decide)) cdv A outer s H E hr, pl_Select_check K⟩
theorem ok_pair_scene (Z : Kn K mg) : FnOk P wd K mg base CX0 14 (He.ga K ("pair_scene" : PySem.Str)) (fdOf K (He.ga K ("pair_scene" : PySem.Str))) [("first" : PySem.Str), ("second" : PySem.Str), ("tables" : PySem.Str)] (lift K (T_pair_scene K)) :=
  fn_tree (k := 13) Z.f_pair_scene sc_pair_scene (fun ds h Q t => by obtain ⟨_, _, _, rfl, _⟩ := t <;> rfl) fun cdv A outer s H E hr => ⟨_, lb_pair_scene (k := 12) Z ((ok_Scene_init Z).mono (by decide)) ((ok_Scene_add_stranger Z).mono (by decide)) ((ok_Scene_facts_at Z).mono (by decide)) ((ok_Scene_kept_at Z).mono (by decide)) ((ok_plan_of Z).mono (by decide)) cdv A outer s H E hr, pl_pair_scene K⟩
theorem ok_Question_fits (Z : Kn K mg) : L2.FnR P wd K mg base CX0 16 (He.ma K (He.ga K ("Select" : PySem.Str)) "fits") (lift K (starT 1 (T_Question_fits K))) :=
  fn_treeS (k := 15) (ps := [("self" : PySem.Str)]) Z.f_Question_fits sc_Question_fits (fun _ _ _ _ _ _ us rest hl => match us, rest, hl with | [a], [], _ => rfl | [a], r :: rs, _ => rfl) fun cdv A outer s H E hr => ⟨_, lb_Question_fits (k := 14) Z ((ok_Select_check Z).mono (by decide)) cdv A outer s H E hr, pl_Question_fits K⟩
theorem ok_check_select (Z : Kn K mg) : FnOk P wd K mg base CX0 18 (He.ga K ("check_select" : PySem.Str)) (fdOf K (He.ga K ("check_select" : PySem.Str))) [("question" : PySem.Str), ("tables" : PySem.Str)] (lift K (T_check_select K)) :=
  fn_tree (k := 17) Z.f_check_select sc_check_select (fun ds h Q t => by obtain ⟨_, _, _, _, rfl, _⟩ := t <;> rfl) fun cdv A outer s H E hr => ⟨_, lb_check_select (k := 16) Z ((ok_Question_fits Z).mono (by decide)) cdv A outer s H E hr, pl_check_select K⟩
theorem ok_check_selects (Z : Kn K mg) : FnOk P wd K mg base CX0 20 (He.ga K ("check_selects" : PySem.Str)) (fdOf K (He.ga K ("check_selects" : PySem.Str))) [("first" : PySem.Str), ("second" : PySem.Str), ("tables" : PySem.Str)] (lift K (T_check_selects K)) :=
  fn_tree (k := 19) Z.f_check_selects sc_check_selects (fun ds h Q t => by obtain ⟨_, _, _, rfl, _⟩ := t <;> rfl) fun cdv A outer s H E hr => ⟨_, lb_check_selects (k := 18) Z ((ok_check_select Z).mono (by decide)) ((ok_plan_of Z).mono (by decide)) cdv A outer s H E hr, pl_check_selects K⟩
theorem ok_within_holds (Z : Kn K mg) : L2.FnR P wd K mg base CX0 22 (He.ga K ("within_holds" : PySem.Str)) (lift K (starT 3 (T_within_holds K))) := by
  have F := fn_treeS (P := P) (wd := wd) (base := base) (k := 21) (ps := [("first" : PySem.Str), ("second" : PySem.Str), ("thing" : PySem.Str)]) (T := T0_within_holds K) Z.f_within_holds sc_within_holds (fun _ _ _ _ _ _ us rest hl => match us, rest, hl with | [a, b, c], [], _ => rfl | [a, b, c], r :: rs, _ => rfl) (fun cdv A outer s H E hr => ⟨_, lb_within_holds (k := 20) Z ((ok_check_selects Z).mono (by decide)) ((ok_is_plain Z).mono (by decide)) ((ok_is_tree Z).mono (by decide)) ((ok_pair_scene Z).mono (by decide)) cdv A outer s H E hr, pl_within_holds K⟩)
  refine L2.FnR.imp F fun vs H Q E h => ?_
  have h : lift K (anyH fun ds P => ∃ ws rest, ds = ws ++ rest ∧ ws.length = 3 ∧ rest.length ≤ sizeLine ∧ P_within_holds K (ws ++ [.tup rest]) P) vs H Q E := by
    obtain ⟨w, h, ds, Qd, e, R, r, ⟨ws, rest, e2, hl, hz, c, t⟩, B⟩ := h
    obtain ⟨c1, c2, _⟩ := clL_app.mp c
    exact ⟨w, h, ds, Qd, e, R, r, ⟨by rw [e2]; exact clL_app.mpr ⟨c1, c2⟩, ws, rest, e2, hl, hz, t⟩, B⟩
  exact any_heap (fun ds P ⟨ws, rest, e2, hl, hz, p⟩ => ⟨ws, rest, e2, hl, hz, rfl, let ⟨ky, cs, its, h1, h2, h3, q⟩ := p; ⟨ky, cs, its, h1, h2, h3, q.imp (fun ⟨e, z⟩ => ⟨e, _, rfl, z⟩) (fun ⟨e, z⟩ => ⟨e, _, rfl, z⟩)⟩⟩) h
end
end K69

namespace K69
open PySem PySem.Spec PyProof.Rows L2 TL
section
variable {P : Program} {wd : World} {K : PySem.W.Frag} {mg : PySem.Str → Option Value} {base : Heap}
/-- the script as a tree: what is tracked is frozen -/
theorem script_rep {H : Hp} {a : Addr} {ns : List Int} (hS : SqL K H a (ns.map V.int)) : Rep K ⟨[], fun b => H b ≠ none, H⟩ (.klst (ns.map D.int)) (.ref a) := by
  refine .klst (vs := ns.map V.int) (fun H' q => ?_) ?_
  · rcases hS with (e | ⟨o, e⟩) | e
    · exact .inl (.inl ((q a (by show H a ≠ none; rw [e]; simp)).trans e))
    · exact .inl (.inr ⟨o, (q a (by show H a ≠ none; rw [e]; simp)).trans e⟩)
    · exact .inr e
  · clear hS
    induction ns with
    | nil => exact .nil
    | cons n r ih => exact .cons (.int n) ih
theorem law_run (Z : Kn K mg) {s : Shared} {H : Hp} {a : Addr} {ns : List Int} (hn : ns.length ≤ 63) (e0 : Env0 P wd K mg base callerA [] s H) (hS : SqL K H a (ns.map V.int)) (hb : BindsTo s (fdOf K (He.ga K ("law" : PySem.Str))) ⟨[.ref a], []⟩ [(("_law_script" : PySem.Str), .ref a)]) (hr : Room 24 callerA) :
    codeAny (model P wd) callerA (.call (.ref (He.ga K ("law" : PySem.Str))) ⟨[.ref a], []⟩) (CR CX0 [] P wd H s (fun v _ => v = .bl true) fun _ _ _ => False) s := by
  obtain ⟨oc, od, dV, kV, doc, pm, an, cdv, ct, osl, ef, lk, hcd, _, _⟩ := Z.f_law.ex
  rw [ef] at lk hb
  refine StX.run_bnd (k := 23) (N := N_law) (G := fun vs H2 => vs = [V.ref a] ∧ H2 = H) lk hcd sc_law hr e0 (fun A' Ex Q' h => hb _ _ _ _ (h s H [.ref a] [.ref a] e0 .refl rfl (fun _ _ z => z) (.cons rfl .nil) rfl ⟨rfl, rfl⟩)) fun s2 H2 vs g hr' => ?_
  obtain ⟨e1, e2⟩ := g
  subst e1 e2
  refine ⟨tWB _ _, pb_w.nox, ?_⟩
  have R : HRel K ⟨[], fun b => H2 b ≠ none, H2⟩ ([] : DH) := ⟨rfl, .nil, (fun b hb => by cases hb), (fun b hb => Option.ne_none_iff_exists'.mp hb), (fun i o b hi => by cases hi)⟩
  have B : Bears K ⟨[], fun b => H2 b ≠ none, H2⟩ (fun d _ => d = .bl true) (fun v _ => v = V.bl true) := fun w' h' d v _ _ r e => by
    subst e
    cases r
    rfl
  refine (lb_lawC (k := 22) Z ((ok_Select_init Z).mono (by decide)) ((ok_Table_init Z).mono (by decide)) ((ok__law_chains Z).mono (by decide)) ((ok__law_deck Z).mono (by decide)) ((ok__law_facts Z).mono (by decide)) ((ok__law_first Z).mono (by decide)) ((ok__law_is_clash Z).mono (by decide)) ((ok__law_is_plain Z).mono (by decide)) ((ok__law_pick Z).mono (by decide)) ((ok_within_holds Z).mono (by decide)) cdv callerA [] s2 H2 _ hr' rfl).run ⟨[], fun b => H2 b ≠ none, H2⟩ [] _ _ (Er [] fun d _ => d = .bl true) _ (srel_start (.cons (script_rep hS) .nil)) R (pl_law K _ [] (fun d _ => d = .bl true) hcl_nil ⟨cl_ints _ ns, trivial⟩ ⟨ns, rfl, rfl, hn, fun _ => rfl⟩) ⟨?_, B.ret R, fun _ _ _ _ _ _ _ q => q.elim, fun _ _ _ _ _ _ _ q => q.elim⟩
  intro w' h' σd σv l R' S' q
  exact B.ret R w' h' .non .non l R' .non q
end
end K69

namespace K69
open PySem PySem.Spec PyProof.Rows L2 TL
/-- the list object of the script -/
def scr (us : List Value) : Obj := { cls := .type "list", data := .seq us.toArray }
/-- what is tracked: the script, if it is none of the module's objects -/
def hS (K : PySem.W.Frag) (a : Addr) (us : List Value) (ns : List Int) : Hp := fun b => if b = a ∧ K.lookup a = none then some (.frz (scr us) (.lst (ns.map V.int))) else none
section
variable {K : PySem.W.Frag} {a b : Addr} {us : List Value} {ns : List Int}
theorem hS_at {u : HO} (e : hS K a us ns b = some u) : b = a ∧ K.lookup a = none ∧ u = .frz (scr us) (.lst (ns.map V.int)) := by
  unfold hS at e
  split at e
  · rename_i z
    exact ⟨z.1, z.2, (Option.some.inj e).symm⟩
  · cases e
theorem hS_no (h : b = a → K.lookup a ≠ none) : hS K a us ns b = none := by
  cases z : hS K a us ns b with
  | none => rfl
  | some u => exact absurd (hS_at z).2.1 (h (hS_at z).1)
variable {P : Program} {wd : World} {mg mb : PySem.Str → Option Value} {s : Shared}
theorem hS_seq (KX : K.In s.heap) (ea : s.heap.get? a = some (scr us)) (hi : IntsAre us ns) (hl : ns.length ≤ 63) : SqL K (hS K a us ns) a (ns.map V.int) := by
  cases z : K.lookup a with
  | none => exact .inl (.inr ⟨scr us, if_pos ⟨rfl, z⟩⟩)
  | some o =>
    have e := (KX a o z).symm.trans ea
    cases e
    exact .inr ⟨_, us.toArray, _, z, rfl, rfl, rfl, by rw [List.size_toArray, hi.length, sizeLine_eq]; omega, by simpa using vals_ints hi⟩
theorem hS_env (KX : K.In s.heap) (gl : s.heap.Ns mainGlobals mg) (bn : s.heap.Ns builtinsNs mb) (bb : ∀ x : PySem.Str, x ≠ "__name__" → mb x = bootBuiltins x) (nl : s.heap.NoLimit) (ng : s.gens = #[])
    (ea : s.heap.get? a = some (scr us)) (hi : IntsAre us ns) (hl : ns.length ≤ 63) : Env0 P wd K mg (hidT s.heap (hS K a us ns)) callerA [] s (hS K a us ns) := by
  have notDict : ∀ {d : Addr} {o : Obj} {es : Array DictEntry} {n : Nat}, s.heap.get? d = some o → o.data = .dict es n → hS K a us ns d = none := fun {d o es n} e1 e2 => hS_no fun e3 _ => by
    rw [e3, ea] at e1
    cases e1
    cases (e2 : Data.seq us.toArray _ = Data.dict es n)
  have names : ∀ {d : Addr} {m : PySem.Str → Option Value}, s.heap.Ns d m → (hidT s.heap (hS K a us ns)).Ns d m := fun {d m} q => by
    obtain ⟨o, es, n, e1, e2, q⟩ := q
    exact ⟨o, es, n, hidT_get e1 (notDict e1 e2), e2, q⟩
  obtain ⟨mc, l1, l2⟩ := nl
  have own : K.In (hidT s.heap (hS K a us ns)) := fun d o e => hidT_get (KX d o e) (hS_no fun q z => by rw [q] at e; rw [z] at e; cases e)
  refine ⟨rfl, ⟨own, names gl, ⟨mb, names bn, bb⟩, ⟨mc, names l1, l2⟩⟩, fun d o e => of_hidT e, Nat.le_of_eq (hidT_size _ _), trivial, (fun d hd => by cases hd), fun d u e => ?_, .of_eq ng⟩
  obtain ⟨rfl, _, rfl⟩ := hS_at e
  exact ⟨ea, by rw [List.length_map, sizeLine_eq]; omega, us, _, vals_ints hi, ea⟩
theorem law_end (Z : Kn K mg) (KX : K.In s.heap) (gl : s.heap.Ns mainGlobals mg) (bn : s.heap.Ns builtinsNs mb) (bb : ∀ x : PySem.Str, x ≠ "__name__" → mb x = bootBuiltins x) (nl : s.heap.NoLimit) (ng : s.gens = #[])
    (ea : s.heap.get? a = some (scr us)) (hi : IntsAre us ns) (hl : ns.length ≤ 63) (hb : BindsTo s (fdOf K (He.ga K ("law" : PySem.Str))) ⟨[.ref a], []⟩ [(("_law_script" : PySem.Str), .ref a)]) (hr : Room 24 callerA) :
    codeAny (model P wd) callerA (.call (.ref (He.ga K ("law" : PySem.Str))) ⟨[.ref a], []⟩) (fun r s' => r = .ok (.ret (.bool true)) ∧ OldK s.heap s'.heap ∧ s'.os = s.os ∧ AllBare s'.gens) s := by
  refine codeAny_mono (law_run (base := hidT s.heap (hS K a us ns)) Z hl (hS_env KX gl bn bb nl ng ea hi hl) (hS_seq KX ea hi hl) hb hr) fun r s' end_ => ?_
  match r, end_ with
  | .ok (.ret u), ⟨v, H', eo, eb, un, ok', rv, ev⟩ =>
    have ev : v = .bl true := ev
    subst ev
    cases (rv : u = Value.bool true)
    refine ⟨rfl, OldK.of_keep fun d o e => ?_, eo, eb⟩
    cases z : hS K a us ns d with
    | none => exact un.keep d o e z (fun q => by cases q) (fun q => by cases q)
    | some x =>
      obtain ⟨rfl, _, rfl⟩ := hS_at z
      rw [ea] at e
      cases e
      exact (ok' _ _ (un.frzs _ _ _ z)).1
end
end K69

namespace K69
open PySem PySem.Spec PyProof.Rows L2 TL
theorem hex_at {K : PySem.W.Frag} (h : hex K = true) (i : Nat) {b : Bool} (e : (hex_ K)[i]? = some b) : b = true := List.all_eq_true.mp h b (List.mem_of_getElem? e)
theorem law_at {w : World} {K : PySem.W.Frag} {h h2 : Heap} {mg : PySem.Str → Option Value} (X : K.In h2) (G : h2.Ns mainGlobals mg) (c : SaysP w h K) : mg "law" = some (.ref (He.ga K ("law" : PySem.Str))) := He.glo_ok X G (c.1.t.d.fact 102 (f := .glo "law") rfl)
theorem kn_of {w : World} {K : PySem.W.Frag} {h h2 : Heap} {mg : PySem.Str → Option Value} (X : K.In h2) (G : h2.Ns mainGlobals mg) (c : SaysP w h K) : Kn K mg := by
  obtain ⟨cx, cp⟩ := c
  have D := cx.t.d
  have M := cx.more
  exact {
    bm_Select_check := ⟨He.meth_ok (D.fact 0 (f := .meth ("Select" : PySem.Str) ("check" : PySem.Str)) rfl), He.eqO_ok (hex_at M 0 rfl), of_decide_eq_true (hex_at M 1 rfl), by decide +kernel, (hex_at M 2 rfl)⟩
    bm_Select_fits := ⟨He.meth_ok (D.fact 1 (f := .meth ("Select" : PySem.Str) ("fits" : PySem.Str)) rfl), He.eqO_ok (hex_at M 3 rfl), of_decide_eq_true (hex_at M 4 rfl), by decide +kernel, (hex_at M 5 rfl)⟩
    c_Plan := He.cls_ok (D.fact 2 (f := .cls ("Plan" : PySem.Str)) rfl)
    c_Scene := He.cls_ok (D.fact 3 (f := .cls ("Scene" : PySem.Str)) rfl)
    c_Select := He.cls_ok (D.fact 4 (f := .cls ("Select" : PySem.Str)) rfl)
    c_Table := He.cls_ok (D.fact 5 (f := .cls ("Table" : PySem.Str)) rfl)
    g_InvalidQuestion := He.glo_ok X G (D.fact 6 (f := .glo ("InvalidQuestion" : PySem.Str)) rfl)
    g_LETTERS := He.str_ok X G (D.fact 7 (f := .str ("LETTERS" : PySem.Str) ("abcdefghijklmnopqrstuvwxyz" : PySem.Str)) rfl)
    g_MOST_COLUMNS := He.int_ok X G (D.fact 8 (f := .int ("MOST_COLUMNS" : PySem.Str) 2) rfl)
    g_MOST_KEPT := He.int_ok X G (D.fact 9 (f := .int ("MOST_KEPT" : PySem.Str) 4) rfl)
    g_MOST_LETTERS := He.int_ok X G (D.fact 10 (f := .int ("MOST_LETTERS" : PySem.Str) 8) rfl)
    g_MOST_PARTS := He.int_ok X G (D.fact 11 (f := .int ("MOST_PARTS" : PySem.Str) 6) rfl)
    g_MOST_USES_resolving := He.int_ok X G (D.fact 12 (f := .int ("MOST_USES_resolving" : PySem.Str) 3) rfl)
    g_MOST_USES_shapes := He.int_ok X G (D.fact 13 (f := .int ("MOST_USES_shapes" : PySem.Str) 2) rfl)
    g_MOST_WITHOUTS := He.int_ok X G (D.fact 14 (f := .int ("MOST_WITHOUTS" : PySem.Str) 2) rfl)
    g_NAME_OPERATORS := He.glo_ok X G (D.fact 15 (f := .glo ("NAME_OPERATORS" : PySem.Str)) rfl)
    g_NUMBER_OPERATORS := He.glo_ok X G (D.fact 16 (f := .glo ("NUMBER_OPERATORS" : PySem.Str)) rfl)
    g_Plan := He.glo_ok X G (D.fact 17 (f := .glo ("Plan" : PySem.Str)) rfl)
    g_Scene := He.glo_ok X G (D.fact 18 (f := .glo ("Scene" : PySem.Str)) rfl)
    g_Select := He.glo_ok X G (D.fact 19 (f := .glo ("Select" : PySem.Str)) rfl)
    g_Table := He.glo_ok X G (D.fact 20 (f := .glo ("Table" : PySem.Str)) rfl)
    g__law_chains := He.glo_ok X G (D.fact 21 (f := .glo ("_law_chains" : PySem.Str)) rfl)
    g__law_deck := He.glo_ok X G (D.fact 22 (f := .glo ("_law_deck" : PySem.Str)) rfl)
    g__law_draw := He.glo_ok X G (D.fact 23 (f := .glo ("_law_draw" : PySem.Str)) rfl)
    g__law_ends := He.glo_ok X G (D.fact 24 (f := .glo ("_law_ends" : PySem.Str)) rfl)
    g__law_facts := He.glo_ok X G (D.fact 25 (f := .glo ("_law_facts" : PySem.Str)) rfl)
    g__law_first := He.glo_ok X G (D.fact 26 (f := .glo ("_law_first" : PySem.Str)) rfl)
    g__law_is_clash := He.glo_ok X G (D.fact 27 (f := .glo ("_law_is_clash" : PySem.Str)) rfl)
    g__law_is_constant := He.glo_ok X G (D.fact 28 (f := .glo ("_law_is_constant" : PySem.Str)) rfl)
    g__law_is_plain := He.glo_ok X G (D.fact 29 (f := .glo ("_law_is_plain" : PySem.Str)) rfl)
    g__law_pick := He.glo_ok X G (D.fact 30 (f := .glo ("_law_pick" : PySem.Str)) rfl)
    g_all := He.free_ok X G (D.fact 31 (f := .free ("all" : PySem.Str)) rfl)
    g_any := He.free_ok X G (D.fact 32 (f := .free ("any" : PySem.Str)) rfl)
    g_are_names := He.glo_ok X G (D.fact 33 (f := .glo ("are_names" : PySem.Str)) rfl)
    g_bool := He.free_ok X G (D.fact 34 (f := .free ("bool" : PySem.Str)) rfl)
    g_chain_end := He.glo_ok X G (D.fact 35 (f := .glo ("chain_end" : PySem.Str)) rfl)
    g_check_select := He.glo_ok X G (D.fact 36 (f := .glo ("check_select" : PySem.Str)) rfl)
    g_check_selects := He.glo_ok X G (D.fact 37 (f := .glo ("check_selects" : PySem.Str)) rfl)
    g_column_of := He.glo_ok X G (D.fact 38 (f := .glo ("column_of" : PySem.Str)) rfl)
    g_condition_of := He.glo_ok X G (D.fact 39 (f := .glo ("condition_of" : PySem.Str)) rfl)
    g_conditions_of := He.glo_ok X G (D.fact 40 (f := .glo ("conditions_of" : PySem.Str)) rfl)
    g_dict := He.free_ok X G (D.fact 41 (f := .free ("dict" : PySem.Str)) rfl)
    g_enumerate := He.free_ok X G (D.fact 42 (f := .free ("enumerate" : PySem.Str)) rfl)
    g_fact_of := He.glo_ok X G (D.fact 43 (f := .glo ("fact_of" : PySem.Str)) rfl)
    g_int := He.free_ok X G (D.fact 44 (f := .free ("int" : PySem.Str)) rfl)
    g_is_chain_clash := He.glo_ok X G (D.fact 45 (f := .glo ("is_chain_clash" : PySem.Str)) rfl)
    g_is_clash := He.glo_ok X G (D.fact 46 (f := .glo ("is_clash" : PySem.Str)) rfl)
    g_is_integer := He.glo_ok X G (D.fact 47 (f := .glo ("is_integer" : PySem.Str)) rfl)
    g_is_key_tables := He.glo_ok X G (D.fact 48 (f := .glo ("is_key_tables" : PySem.Str)) rfl)
    g_is_name := He.glo_ok X G (D.fact 49 (f := .glo ("is_name" : PySem.Str)) rfl)
    g_is_name_column := He.glo_ok X G (D.fact 50 (f := .glo ("is_name_column" : PySem.Str)) rfl)
    g_is_plain := He.glo_ok X G (D.fact 51 (f := .glo ("is_plain" : PySem.Str)) rfl)
    g_is_tree := He.glo_ok X G (D.fact 52 (f := .glo ("is_tree" : PySem.Str)) rfl)
    g_isinstance := He.free_ok X G (D.fact 53 (f := .free ("isinstance" : PySem.Str)) rfl)
    g_len := He.free_ok X G (D.fact 54 (f := .free ("len" : PySem.Str)) rfl)
    g_list := He.free_ok X G (D.fact 55 (f := .free ("list" : PySem.Str)) rfl)
    g_name_operand := He.glo_ok X G (D.fact 56 (f := .glo ("name_operand" : PySem.Str)) rfl)
    g_number_operand := He.glo_ok X G (D.fact 57 (f := .glo ("number_operand" : PySem.Str)) rfl)
    g_pair_scene := He.glo_ok X G (D.fact 58 (f := .glo ("pair_scene" : PySem.Str)) rfl)
    g_plan_of := He.glo_ok X G (D.fact 59 (f := .glo ("plan_of" : PySem.Str)) rfl)
    g_range := He.free_ok X G (D.fact 60 (f := .free ("range" : PySem.Str)) rfl)
    g_repr := He.free_ok X G (D.fact 61 (f := .free ("repr" : PySem.Str)) rfl)
    g_require := He.glo_ok X G (D.fact 62 (f := .glo ("require" : PySem.Str)) rfl)
    g_scope_of := He.glo_ok X G (D.fact 63 (f := .glo ("scope_of" : PySem.Str)) rfl)
    g_set := He.free_ok X G (D.fact 64 (f := .free ("set" : PySem.Str)) rfl)
    g_str := He.free_ok X G (D.fact 65 (f := .free ("str" : PySem.Str)) rfl)
    g_strict_in := He.glo_ok X G (D.fact 66 (f := .glo ("strict_in" : PySem.Str)) rfl)
    g_table_with := He.glo_ok X G (D.fact 67 (f := .glo ("table_with" : PySem.Str)) rfl)
    g_tuple := He.free_ok X G (D.fact 68 (f := .free ("tuple" : PySem.Str)) rfl)
    g_within_holds := He.glo_ok X G (D.fact 69 (f := .glo ("within_holds" : PySem.Str)) rfl)
    i1_Select := He.eqO_ok (hex_at M 6 rfl)
    i2 := He.eqO_ok (hex_at M 7 rfl)
    i3 := of_decide_eq_true (hex_at M 8 rfl)
    i4_Select := of_decide_eq_true (hex_at M 9 rfl)
    i5_Select := of_decide_eq_true (hex_at M 10 rfl)
    m_Plan := He.mkr_ok (D.fact 70 (f := .mkr ("Plan" : PySem.Str)) rfl)
    m_Scene := He.mkr_ok (D.fact 71 (f := .mkr ("Scene" : PySem.Str)) rfl)
    m_Select := He.mkr_ok (D.fact 72 (f := .mkr ("Select" : PySem.Str)) rfl)
    m_Table := He.mkr_ok (D.fact 73 (f := .mkr ("Table" : PySem.Str)) rfl)
    me_Scene_add_stranger := He.meth_ok (D.fact 74 (f := .meth ("Scene" : PySem.Str) ("add_stranger" : PySem.Str)) rfl)
    me_Scene_entry := He.meth_ok (D.fact 75 (f := .meth ("Scene" : PySem.Str) ("entry" : PySem.Str)) rfl)
    me_Scene_facts_at := He.meth_ok (D.fact 76 (f := .meth ("Scene" : PySem.Str) ("facts_at" : PySem.Str)) rfl)
    me_Scene_kept_at := He.meth_ok (D.fact 77 (f := .meth ("Scene" : PySem.Str) ("kept_at" : PySem.Str)) rfl)
    me_Select_kept_columns := He.meth_ok (D.fact 78 (f := .meth ("Select" : PySem.Str) ("kept_columns" : PySem.Str)) rfl)
    n_Plan_conditions := He.noat_ok (D.fact 79 (f := .noat ("Plan" : PySem.Str) ("conditions" : PySem.Str)) rfl)
    n_Plan_kept := He.noat_ok (D.fact 80 (f := .noat ("Plan" : PySem.Str) ("kept" : PySem.Str)) rfl)
    n_Plan_kinds := He.noat_ok (D.fact 81 (f := .noat ("Plan" : PySem.Str) ("kinds" : PySem.Str)) rfl)
    n_Plan_names := He.noat_ok (D.fact 82 (f := .noat ("Plan" : PySem.Str) ("names" : PySem.Str)) rfl)
    n_Plan_withouts := He.noat_ok (D.fact 83 (f := .noat ("Plan" : PySem.Str) ("withouts" : PySem.Str)) rfl)
    n_Scene_by_name := He.noat_ok (D.fact 84 (f := .noat ("Scene" : PySem.Str) ("by_name" : PySem.Str)) rfl)
    n_Scene_called := He.noat_ok (D.fact 85 (f := .noat ("Scene" : PySem.Str) ("called" : PySem.Str)) rfl)
    n_Scene_early := He.noat_ok (D.fact 86 (f := .noat ("Scene" : PySem.Str) ("early" : PySem.Str)) rfl)
    n_Scene_late := He.noat_ok (D.fact 87 (f := .noat ("Scene" : PySem.Str) ("late" : PySem.Str)) rfl)
    n_Scene_numeric := He.noat_ok (D.fact 88 (f := .noat ("Scene" : PySem.Str) ("numeric" : PySem.Str)) rfl)
    n_Scene_plan := He.noat_ok (D.fact 89 (f := .noat ("Scene" : PySem.Str) ("plan" : PySem.Str)) rfl)
    n_Scene_root := He.noat_ok (D.fact 90 (f := .noat ("Scene" : PySem.Str) ("root" : PySem.Str)) rfl)
    n_Scene_strangers := He.noat_ok (D.fact 91 (f := .noat ("Scene" : PySem.Str) ("strangers" : PySem.Str)) rfl)
    n_Scene_usable := He.noat_ok (D.fact 92 (f := .noat ("Scene" : PySem.Str) ("usable" : PySem.Str)) rfl)
    n_Scene_wanted := He.noat_ok (D.fact 93 (f := .noat ("Scene" : PySem.Str) ("wanted" : PySem.Str)) rfl)
    n_Select_keep := He.noat_ok (D.fact 94 (f := .noat ("Select" : PySem.Str) ("keep" : PySem.Str)) rfl)
    n_Select_uses := He.noat_ok (D.fact 95 (f := .noat ("Select" : PySem.Str) ("uses" : PySem.Str)) rfl)
    n_Select_where := He.noat_ok (D.fact 96 (f := .noat ("Select" : PySem.Str) ("where" : PySem.Str)) rfl)
    n_Select_without := He.noat_ok (D.fact 97 (f := .noat ("Select" : PySem.Str) ("without" : PySem.Str)) rfl)
    n_Table_key := He.noat_ok (D.fact 98 (f := .noat ("Table" : PySem.Str) ("key" : PySem.Str)) rfl)
    n_Table_name := He.noat_ok (D.fact 99 (f := .noat ("Table" : PySem.Str) ("name" : PySem.Str)) rfl)
    n_Table_names := He.noat_ok (D.fact 100 (f := .noat ("Table" : PySem.Str) ("names" : PySem.Str)) rfl)
    n_Table_numbers := He.noat_ok (D.fact 101 (f := .noat ("Table" : PySem.Str) ("numbers" : PySem.Str)) rfl)
    p_Table_columns := ⟨He.eqO_ok (hex_at M 11 rfl), He.eqO_ok (hex_at M 12 rfl), of_decide_eq_true (hex_at M 13 rfl), hasG_ok (hex_at M 14 rfl)⟩
    t_NAME_OPERATORS := He.tupB_ok (hex_at M 15 rfl)
    t_NUMBER_OPERATORS := He.tupB_ok (hex_at M 16 rfl)
    f_is_integer := fdOf_of (D.def_ 0 rfl)
    f_is_name := fdOf_of (D.def_ 1 rfl)
    f_are_names := fdOf_of (D.def_ 2 rfl)
    f_is_key_tables := fdOf_of (D.def_ 3 rfl)
    f_Table_init := fdOf_of (D.def_ 4 rfl)
    f_Table_columns := funD_at cp (hex_at M 21 rfl)
    f_fact_of := fdOf_of (D.def_ 5 rfl)
    f_strict_in := fdOf_of (D.def_ 6 rfl)
    f_chain_end := fdOf_of (D.def_ 7 rfl)
    f_is_chain_clash := fdOf_of (D.def_ 8 rfl)
    f_is_clash := fdOf_of (D.def_ 9 rfl)
    f_Scene_init := fdOf_of (D.def_ 10 rfl)
    f_Scene_entry := fdOf_of (D.def_ 11 rfl)
    f_Scene_add_stranger := fdOf_of (D.def_ 12 rfl)
    f_Scene_facts_at := fdOf_of (D.def_ 13 rfl)
    f_Scene_kept_at := fdOf_of (D.def_ 14 rfl)
    f_is_plain := fdOf_of (D.def_ 15 rfl)
    f_is_tree := fdOf_of (D.def_ 16 rfl)
    f_Plan_init := fdOf_of (D.def_ 17 rfl)
    f_require := fdOf_of (D.def_ 18 rfl)
    f_table_with := fdOf_of (D.def_ 19 rfl)
    f_scope_of := fdOf_of (D.def_ 20 rfl)
    f_column_of := fdOf_of (D.def_ 21 rfl)
    f_is_name_column := fdOf_of (D.def_ 22 rfl)
    f_name_operand := fdOf_of (D.def_ 23 rfl)
    f_number_operand := fdOf_of (D.def_ 24 rfl)
    f_condition_of := fdOf_of (D.def_ 25 rfl)
    f_conditions_of := fdOf_of (D.def_ 26 rfl)
    f_plan_of := fdOf_of (D.def_ 27 rfl)
    f_Question_fits := fdOf_of (D.def_ 28 rfl)
    f_Select_init := fdOf_of (D.def_ 29 rfl)
    f_Select_kept_columns := fdOf_of (D.def_ 30 rfl)
    f_Select_check := fdOf_of (D.def_ 31 rfl)
    f_check_select := fdOf_of (D.def_ 32 rfl)
    f_check_selects := fdOf_of (D.def_ 33 rfl)
    f_pair_scene := fdOf_of (D.def_ 34 rfl)
    f_within_holds := fdOf_of (D.def_ 35 rfl)
    f__law_deck := fdOf_of (D.def_ 36 rfl)
    f__law_draw := fdOf_of (D.def_ 37 rfl)
    f__law_pick := fdOf_of (D.def_ 38 rfl)
    f__law_first := fdOf_of (D.def_ 39 rfl)
    f__law_facts := fdOf_of (D.def_ 40 rfl)
    f__law_chains := fdOf_of (D.def_ 41 rfl)
    f__law_is_plain := fdOf_of (D.def_ 42 rfl)
    f__law_ends := fdOf_of (D.def_ 43 rfl)
    f__law_is_constant := fdOf_of (D.def_ 44 rfl)
    f__law_is_clash := fdOf_of (D.def_ 45 rfl)
    f_law := fdOf_of (D.def_ 46 rfl)
    e_Table_0 := tup0_ok (hex_at M 17 rfl)
    e_Table_1 := tup0_ok (hex_at M 18 rfl)
    e_Select_0 := tup0_ok (hex_at M 19 rfl)
    e_Select_1 := tup0_ok (hex_at M 20 rfl)
  }
end K69

namespace K69
open PySem PySem.Spec PyProof.Rows L2 TL
theorem bind_law {K : PySem.W.Frag} {mg : PySem.Str → Option Value} (Z : Kn K mg) (s : Shared) (v : Value) (X : K.In s.heap) : BindsTo s (fdOf K (He.ga K ("law" : PySem.Str))) ⟨[v], []⟩ [(("_law_script" : PySem.Str), v)] := by
  have b := Z.b_law s [v] X rfl
  exact b
theorem the_call : PySem.W.WalkO qv hnames (PySem.W.XL qv []) hookP.says R69.toRowW (HandSHeadRun.topDef R69.prog 77) [] fun f vs => PySem.call f vs := by
  refine Att.attach_call (l := PySem.Challenge.rw_whatturns_k69_chains_of_facts) (n := 63) rfl (by kernel_rfl) fun w s0 s1 mg mb fa o pm cd doc a us ns G Y ho hd hcd hmg ea hi hl ng => ?_
  obtain ⟨K, KX, c⟩ := Y
  have Z := kn_of KX G.T.g c
  have en : (HandSHeadRun.topDef R69.prog 77).name = ("law" : PySem.Str) := by kernel_rfl
  rw [en] at hmg
  have ef := hmg.symm.trans (law_at KX G.T.g c)
  cases ef
  exact law_end Z KX G.T.g G.T.b G.T.builtins G.T.nolimit ng ea hi hl (bind_law Z s1 _ KX) ⟨rfl, by decide, by decide⟩
end K69
open PySem PySem.W PySem.Calls PyProof.Rows
theorem PySem.Challenge.cw_whatturns_k69_chains_of_facts_holds : PySem.Challenge.rw_whatturns_k69_chains_of_facts.Holds := by
  w_on; o_law
  refine HandSHeadRun.head_any (r := K69.R69) (q := K69.qv) (H := K69.hookP) (ob := K69.obP) (M := 100000) (loose := K69.hnames) (d := HandSHeadRun.topDef K69.R69.prog 77) (kwd := []) K69.obP_eq
    (by kernel_rfl) (fun s => by kernel_rfl) K69.run (by kernel_rfl) (by kernel_rfl) (by kernel_rfl) (by rfl) (by first | assumption | decide +kernel) (by decide +kernel) ⟨rfl, rfl, rfl, rfl, rfl, by decide +kernel⟩ ?hw ?hc
  case hw => w_witness2
  case hc => exact K69.the_call

