import PyProof.Rows.All
import Wide.All
import OpenK.AllK
import Wide.FinOn
import HandS.ForMost
import HandS.Wide
import HandS.TupAny
import HandS.Deep
import HandS.Conv
import HandS.IsInst
import KE.SortData
import KE.DataEq
import KE.DataCmp
import KE.DataMinMax
import HandS.More
import HandS.TupMul
import HandS.Style
import KE.GoesEnum
import HandS.Iter
import HandS.Zip
import HandS.TupLe
import PySem.Challenge.RW_hinthunt_k08_lengths
set_option Elab.async false
set_option linter.all false
set_option maxRecDepth 100000
namespace Fx
open PySem L2
abbrev D := PyData
abbrev Fg := PySem.W.Frag

def kD : Key → D
  | .inl i => .int i
  | .inr x => .str x

mutual
inductive Rp (K : Fg) (F : Hp) : V → D → Prop
  | non : Rp K F .non .none
  | bl (b : Bool) : Rp K F (.bl b) (.bool b)
  | int (i : Int) : Rp K F (.int i) (.int i)
  | str (x : Str) : Rp K F (.str x) (.str x)
  | lst {a : Addr} {xs : List V} {ds : List D} : F a = some (.lst xs) → RpL K F xs ds → Rp K F (.ref a) (.list ds)
  | tup {a : Addr} {xs : List V} {ds : List D} : SqT K F a xs → RpL K F xs ds → Rp K F (.ref a) (.tuple ds)
  | dK {a : Addr} {xs : List (Key × V)} {ds : List (Key × D)} : Rd F a (.dK xs) → RpK K F xs ds → Rp K F (.ref a) (.dict (ds.map fun p => (kD p.1, p.2)))
inductive RpL (K : Fg) (F : Hp) : List V → List D → Prop
  | nil : RpL K F [] []
  | cons {v : V} {vs : List V} {d : D} {ds : List D} : Rp K F v d → RpL K F vs ds → RpL K F (v :: vs) (d :: ds)
inductive RpK (K : Fg) (F : Hp) : List (Key × V) → List (Key × D) → Prop
  | nil : RpK K F [] []
  | cons {k : Key} {v : V} {vs : List (Key × V)} {d : D} {ds : List (Key × D)} : Rp K F v d → RpK K F vs ds → RpK K F ((k, v) :: vs) ((k, d) :: ds)
end
/-- a dict with tuple keys -/
inductive RpT (K : Fg) (F : Hp) : List (List Key × V) → List (List Key × D) → Prop
  | nil : RpT K F [] []
  | cons {k : List Key} {v : V} {vs : List (List Key × V)} {d : D} {ds : List (List Key × D)} : Rp K F v d → RpT K F vs ds → RpT K F ((k, v) :: vs) ((k, d) :: ds)

theorem Same.rd {F F' : Hp} {a : Addr} {u : HO} (e : Same F F') (h : Rd F a u) : Rd F' a u := by
  rcases h with h | ⟨o, h⟩
  · exact .inl (e _ _ h)
  · exact .inr ⟨o, e _ _ h⟩
theorem Same.sqt {K : Fg} {F F' : Hp} {a : Addr} {xs : List V} (e : Same F F') (h : SqT K F a xs) : SqT K F' a xs := by
  rcases h with h | h
  · exact .inl (Same.rd e h)
  · exact .inr h
section
variable {K : Fg} {F F' : Hp}
mutual
theorem Rp.mono (e : Same F F') : ∀ {v : V} {d : D}, Rp K F v d → Rp K F' v d
  | _, _, .non => .non
  | _, _, .bl b => .bl b
  | _, _, .int i => .int i
  | _, _, .str x => .str x
  | _, _, .lst h t => .lst (e _ _ h) (RpL.mono e t)
  | _, _, .tup h t => .tup (Same.sqt e h) (RpL.mono e t)
  | _, _, .dK h t => .dK (Same.rd e h) (RpK.mono e t)
theorem RpL.mono (e : Same F F') : ∀ {vs : List V} {ds : List D}, RpL K F vs ds → RpL K F' vs ds
  | _, _, .nil => .nil
  | _, _, .cons h t => .cons (Rp.mono e h) (RpL.mono e t)
theorem RpK.mono (e : Same F F') : ∀ {vs : List (Key × V)} {ds : List (Key × D)}, RpK K F vs ds → RpK K F' vs ds
  | _, _, .nil => .nil
  | _, _, .cons h t => .cons (Rp.mono e h) (RpK.mono e t)
end
theorem RpT.mono (e : Same F F') : ∀ {vs : List (List Key × V)} {ds : List (List Key × D)}, RpT K F vs ds → RpT K F' vs ds
  | _, _, .nil => .nil
  | _, _, .cons h t => .cons (h.mono e) (RpT.mono e t)
theorem RpL.length : ∀ {vs : List V} {ds : List D}, RpL K F vs ds → vs.length = ds.length
  | _, _, .nil => rfl
  | _, _, .cons _ t => congrArg (· + 1) (RpL.length t)
theorem RpL.get : ∀ {vs : List V} {ds : List D} {i : Nat} {d : D}, RpL K F vs ds → ds[i]? = some d → ∃ v, vs[i]? = some v ∧ Rp K F v d
  | _, _, _, _, .nil, e => by simp at e
  | _, _, 0, _, .cons h _, e => by simp at e; subst e; exact ⟨_, rfl, h⟩
  | _, _, i + 1, d, .cons _ t, e => by
    obtain ⟨v, a, b⟩ := RpL.get (i := i) (d := d) t (by simpa using e)
    exact ⟨v, by simpa using a, b⟩
theorem RpL.app : ∀ {vs ws : List V} {ds es : List D}, RpL K F vs ds → RpL K F ws es → RpL K F (vs ++ ws) (ds ++ es)
  | _, _, _, _, .nil, s => s
  | _, _, _, _, .cons h t, s => .cons h (RpL.app t s)
theorem RpL.set {v : V} {d : D} (h : Rp K F v d) : ∀ {vs : List V} {ds : List D} (i : Nat), RpL K F vs ds → RpL K F (vs.set i v) (ds.set i d)
  | _, _, _, .nil => .nil
  | _, _, 0, .cons _ t => .cons h t
  | _, _, i + 1, .cons q t => .cons q (RpL.set h i t)
theorem RpL.take : ∀ {vs : List V} {ds : List D} (n : Nat), RpL K F vs ds → RpL K F (vs.take n) (ds.take n)
  | _, _, 0, _ => .nil
  | _, _, _ + 1, .nil => .nil
  | _, _, n + 1, .cons h t => .cons h (RpL.take n t)
theorem RpL.drop : ∀ {vs : List V} {ds : List D} (n : Nat), RpL K F vs ds → RpL K F (vs.drop n) (ds.drop n)
  | _, _, 0, h => h
  | _, _, _ + 1, .nil => .nil
  | _, _, n + 1, .cons _ t => RpL.drop n t
theorem RpL.reverse : ∀ {vs : List V} {ds : List D}, RpL K F vs ds → RpL K F vs.reverse ds.reverse
  | _, _, .nil => .nil
  | _, _, .cons h t => by
    rw [List.reverse_cons, List.reverse_cons]
    exact RpL.app (RpL.reverse t) (.cons h .nil)
/-! data without dicts, in the layer's own words -/
mutual
theorem Rp.dp (e : Same F F') : ∀ {d : D} {v : V}, d.canLay0 = true → Rp K F v d → Dp K F' v d
  | .none, _, _, h => by cases h; exact .non
  | .bool _, _, _, h => by cases h; exact .bl _
  | .int _, _, _, h => by cases h; exact .int _
  | .str _, _, _, h => by cases h; exact .str _
  | .list ds, _, c, h => by
    cases h with
    | lst h t => exact .lst (SqL.of (e _ _ h)) (RpL.dp e (by simpa [PyData.canLay0] using c) t)
  | .tuple ds, _, c, h => by
    cases h with
    | tup h t => exact .tup (Same.sqt e h) (RpL.dp e (by simpa [PyData.canLay0] using c) t)
  | .dict _, _, c, _ => by simp [PyData.canLay0] at c
theorem RpL.dp (e : Same F F') : ∀ {ds : List D} {vs : List V}, PyData.canLayAll0 ds = true → RpL K F vs ds → DpAll K F' vs ds
  | [], _, _, h => by cases h; exact .nil
  | d :: ds, _, c, h => by
    have c' : d.canLay0 = true ∧ PyData.canLayAll0 ds = true := by simpa [PyData.canLayAll0] using c
    cases h with
    | cons h t => exact .cons (Rp.dp e c'.1 h) (RpL.dp e c'.2 t)
end
end

/-! ### slots -/
inductive Sl where
  | und
  | val (d : D)
  | lst (ds : List D)
  | dK (es : List (Key × D))
  | dT (es : List (List Key × D))
  | scr (ns : List Int)
  | obj (c : Str) (fs : List (Str × Sl))
abbrev Env := List Sl
abbrev Sv := Option V × Sl

mutual
inductive SlR (K : Fg) (mg : Str → Option Value) (F H : Hp) : Option V → Sl → List Addr → Prop
  | und {o : Option V} : SlR K mg F H o .und []
  | val {v : V} {d : D} : Rp K F v d → SlR K mg F H (some v) (.val d) []
  | lst {p : Addr} {vs : List V} {ds : List D} : H p = some (.lst vs) → RpL K F vs ds → SlR K mg F H (some (.ref p)) (.lst ds) [p]
  | dK {p : Addr} {vs : List (Key × V)} {ds : List (Key × D)} : H p = some (.dK vs) → RpK K F vs ds → SlR K mg F H (some (.ref p)) (.dK ds) [p]
  | dT {p : Addr} {vs : List (List Key × V)} {ds : List (List Key × D)} : H p = some (.dT vs) → RpT K F vs ds → SlR K mg F H (some (.ref p)) (.dT ds) [p]
  | scr {a : Addr} {ns : List Int} : SqL K F a (ns.map V.int) → SlR K mg F H (some (.ref a)) (.scr ns) []
  | obj {a C dx : Addr} {c : Str} {fvs : List (Str × V)} {fs : List (Str × Sl)} {fps : List Addr} : H a = some (.ins C dx fvs) → mg c = some (.ref C) → SlRF K mg F H fvs fs fps → SlR K mg F H (some (.ref a)) (.obj c fs) (a :: fps)
inductive SlRF (K : Fg) (mg : Str → Option Value) (F H : Hp) : List (Str × V) → List (Str × Sl) → List Addr → Prop
  | nil : SlRF K mg F H [] [] []
  | cons {f : Str} {v : V} {s : Sl} {r : List (Str × V)} {rs : List (Str × Sl)} {fp fps : List Addr} : SlR K mg F H (some v) s fp → SlRF K mg F H r rs fps → SlRF K mg F H ((f, v) :: r) ((f, s) :: rs) (fp ++ fps)
end
inductive SlRs (K : Fg) (mg : Str → Option Value) (F H : Hp) : List Sv → List Addr → Prop
  | nil : SlRs K mg F H [] []
  | cons {o : Option V} {s : Sl} {l : List Sv} {fp fps : List Addr} : SlR K mg F H o s fp → SlRs K mg F H l fps → SlRs K mg F H ((o, s) :: l) (fp ++ fps)

section
variable {K : Fg} {mg : Str → Option Value} {F F' H H' : Hp}
mutual
theorem SlR.keep (e : Same F F') : ∀ {o : Option V} {s : Sl} {fp : List Addr}, SlR K mg F H o s fp → (∀ a ∈ fp, ∀ x, H a = some x → H' a = some x) → SlR K mg F' H' o s fp
  | _, _, _, .und, _ => .und
  | _, _, _, .val h, _ => .val (h.mono e)
  | _, _, _, .lst h t, k => .lst (k _ (by simp) _ h) (t.mono e)
  | _, _, _, .dK h t, k => .dK (k _ (by simp) _ h) (t.mono e)
  | _, _, _, .dT h t, k => .dT (k _ (by simp) _ h) (t.mono e)
  | _, _, _, .scr h, _ => .scr (Same.seq e h)
  | _, _, _, .obj h c t, k => .obj (k _ (by simp) _ h) c (SlRF.keep e t fun a ha => k a (List.mem_cons_of_mem _ ha))
theorem SlRF.keep (e : Same F F') : ∀ {vs : List (Str × V)} {ss : List (Str × Sl)} {fp : List Addr}, SlRF K mg F H vs ss fp → (∀ a ∈ fp, ∀ x, H a = some x → H' a = some x) → SlRF K mg F' H' vs ss fp
  | _, _, _, .nil, _ => .nil
  | _, _, _, .cons h t, k => .cons (SlR.keep e h fun a ha => k a (List.mem_append_left _ ha)) (SlRF.keep e t fun a ha => k a (List.mem_append_right _ ha))
end
theorem SlRs.keep (e : Same F F') : ∀ {l : List Sv} {fp : List Addr}, SlRs K mg F H l fp → (∀ a ∈ fp, ∀ x, H a = some x → H' a = some x) → SlRs K mg F' H' l fp
  | _, _, .nil, _ => .nil
  | _, _, .cons h t, k => .cons (h.keep e fun a ha => k a (List.mem_append_left _ ha)) (SlRs.keep e t fun a ha => k a (List.mem_append_right _ ha))
theorem SlRs.app : ∀ {l m : List Sv} {fp fq : List Addr}, SlRs K mg F H l fp → SlRs K mg F H m fq → SlRs K mg F H (l ++ m) (fp ++ fq)
  | _, _, _, _, .nil, t => t
  | _, _, _, _, .cons h s, t => by
    rw [List.append_assoc]
    exact .cons h (SlRs.app s t)
theorem SlRs.split : ∀ {l m : List Sv} {fp : List Addr}, SlRs K mg F H (l ++ m) fp → ∃ f1 f2, fp = f1 ++ f2 ∧ SlRs K mg F H l f1 ∧ SlRs K mg F H m f2
  | [], _, fp, h => ⟨[], fp, rfl, .nil, h⟩
  | (o, s) :: l, m, _, h => by
    cases h with
    | cons h t =>
      obtain ⟨f1, f2, rfl, a, b⟩ := SlRs.split (l := l) t
      exact ⟨_, f2, (List.append_assoc _ _ _).symm, .cons h a, b⟩
theorem SlRs.perm {l m : List Sv} (p : List.Perm l m) : ∀ {fp : List Addr}, SlRs K mg F H l fp → ∃ fq, SlRs K mg F H m fq ∧ List.Perm fp fq := by
  induction p with
  | nil => intro fp h; exact ⟨fp, h, .refl _⟩
  | cons x _ ih =>
    intro fp h
    cases h with
    | cons h t =>
      obtain ⟨fq, a, b⟩ := ih t
      exact ⟨_, .cons h a, b.append_left _⟩
  | swap x y l =>
    intro fp h
    cases h with
    | cons h t =>
      cases t with
      | cons h2 t2 =>
        refine ⟨_, .cons h2 (.cons h t2), ?_⟩
        rw [← List.append_assoc, ← List.append_assoc]
        exact List.perm_append_comm.append_right _
  | trans _ _ ih1 ih2 =>
    intro fp h
    obtain ⟨f1, a1, b1⟩ := ih1 h
    obtain ⟨f2, a2, b2⟩ := ih2 a1
    exact ⟨f2, a2, b1.trans b2⟩
end

section
variable {K : Fg} {mg : Str → Option Value} {F H : Hp}
mutual
theorem SlR.det : ∀ {o : Option V} {s : Sl} {fp fq : List Addr}, SlR K mg F H o s fp → SlR K mg F H o s fq → fp = fq
  | _, _, _, _, .und, .und => rfl
  | _, _, _, _, .val _, .val _ => rfl
  | _, _, _, _, .lst _ _, .lst _ _ => rfl
  | _, _, _, _, .dK _ _, .dK _ _ => rfl
  | _, _, _, _, .dT _ _, .dT _ _ => rfl
  | _, _, _, _, .scr _, .scr _ => rfl
  | _, _, _, _, .obj h _ t, .obj h' _ t' => by
    rw [h] at h'
    injection h' with h'
    injection h' with _ _ e
    subst e
    rw [SlRF.det t t']
theorem SlRF.det : ∀ {vs : List (Str × V)} {ss : List (Str × Sl)} {fp fq : List Addr}, SlRF K mg F H vs ss fp → SlRF K mg F H vs ss fq → fp = fq
  | _, _, _, _, .nil, .nil => rfl
  | _, _, _, _, .cons a b, .cons c d => by rw [SlR.det a c, SlRF.det b d]
end
end

/-! ### the world -/
structure Bs where
  F0 : Hp
  H0 : Hp
  fp0 : List Addr
structure W (K : Fg) (mg : Str → Option Value) (B : Bs) (l : List Sv) (F H : Hp) : Prop where
  fh : Same F H
  f0 : Same B.F0 F
  nw : ∀ a, B.H0 a ≠ none → B.F0 a = none → a ∉ B.fp0 → F a = none
  fr : ∀ a x, B.H0 a = some x → a ∉ B.fp0 → H a = some x
  gr : ∀ a, B.H0 a ≠ none → H a ≠ none
  sl : ∃ fp, SlRs K mg F H l fp ∧ fp.Nodup ∧ ∀ a ∈ fp, F a = none ∧ H a ≠ none ∧ (a ∈ B.fp0 ∨ B.H0 a = none)
section
variable {K : Fg} {mg : Str → Option Value} {B : Bs} {l m : List Sv} {F F' H H' : Hp}
theorem W.perm (w : W K mg B l F H) (p : List.Perm l m) : W K mg B m F H := by
  obtain ⟨fp, a, b, c⟩ := w.sl
  obtain ⟨fq, a', q⟩ := a.perm p
  exact ⟨w.fh, w.f0, w.nw, w.fr, w.gr, fq, a', q.nodup_iff.mp b, fun x hx => c x (q.mem_iff.mpr hx)⟩
/-- what is known of some slots, and what they may become -/
theorem W.frame (w : W K mg B (l ++ m) F H) : ∃ fp, SlRs K mg F H l fp ∧ fp.Nodup ∧ (∀ a ∈ fp, F a = none ∧ H a ≠ none) ∧
    ∀ {l' : List Sv} {F' H' : Hp}, W K mg ⟨F, H, fp⟩ l' F' H' → W K mg B (l' ++ m) F' H' := by
  obtain ⟨fp, a, b, c⟩ := w.sl
  obtain ⟨f1, f2, rfl, h1, h2⟩ := a.split
  have nd := List.nodup_append.mp b
  refine ⟨f1, h1, nd.1, fun x hx => ⟨(c x (List.mem_append_left _ hx)).1, (c x (List.mem_append_left _ hx)).2.1⟩, fun {l' F' H'} w' => ?_⟩
  obtain ⟨fq, a', b', c'⟩ := w'.sl
  have out : ∀ x ∈ f2, x ∉ f1 := fun x h2 h1 => nd.2.2 x h1 x h2 rfl
  have k2 : ∀ x ∈ f2, ∀ o, H x = some o → H' x = some o := fun x hx o e => w'.fr x o e (out x hx)
  refine ⟨w'.fh, w.f0.trans w'.f0, fun x hx hf hn => ?_, fun x o e hn => ?_, fun x hx => w'.gr x (w.gr x hx), fq ++ f2, a'.app (h2.keep w'.f0 k2), ?_, fun x hx => ?_⟩
  · refine w'.nw x (w.gr x hx) (w.nw x hx hf hn) fun z => ?_
    rcases (c x (List.mem_append_left _ z)).2.2 with q | q
    · exact hn q
    · exact hx q
  · refine w'.fr x o (w.fr x o e hn) fun z => ?_
    rcases (c x (List.mem_append_left _ z)).2.2 with q | q
    · exact hn q
    · rw [q] at e; cases e
  · refine List.nodup_append.mpr ⟨b', nd.2.1, fun x h1 y h2 => ?_⟩
    rintro rfl
    rcases (c' x h1).2.2 with q | q
    · exact out x h2 q
    · exact (c x (List.mem_append_right _ h2)).2.1 q
  · rcases List.mem_append.mp hx with h | h
    · obtain ⟨q1, q2, q3⟩ := c' x h
      refine ⟨q1, q2, ?_⟩
      rcases q3 with q | q
      · exact (c x (List.mem_append_left _ q)).2.2
      · right
        cases e : B.H0 x with
        | none => rfl
        | some o => exact absurd q (w.gr x (by rw [e]; simp))
    · obtain ⟨q1, q2, q3⟩ := c x (List.mem_append_right _ h)
      exact ⟨w'.nw x q2 q1 (out x h), w'.gr x q2, q3⟩
theorem W.drop (w : W K mg B (l ++ m) F H) : W K mg B m F H := by
  obtain ⟨fp, _, _, _, k⟩ := w.frame
  exact k (l' := []) ⟨w.fh, Same.refl _, fun _ _ h _ => h, fun _ _ h _ => h, fun _ h => h, [], .nil, .nil, fun _ h => by simp at h⟩
theorem W.tail {o : Sv} (w : W K mg B (o :: m) F H) : W K mg B m F H := W.drop (l := [o]) w
/-- the start -/
theorem W.start {fp : List Addr} (fh : Same F H) (h : SlRs K mg F H l fp) (nd : fp.Nodup) (hn : ∀ a ∈ fp, F a = none ∧ H a ≠ none) : W K mg ⟨F, H, fp⟩ l F H :=
  ⟨fh, Same.refl _, fun _ _ h _ => h, fun _ _ h _ => h, fun _ h => h, fp, h, nd, fun a ha => ⟨(hn a ha).1, (hn a ha).2, .inl ha⟩⟩
theorem W.val {v : V} {d : D} (w : W K mg B ((some v, .val d) :: m) F H) : Rp K F v d := by
  obtain ⟨fp, a, _⟩ := w.sl
  cases a with
  | cons h _ => cases h with | val h => exact h
theorem W.valO {o : Option V} {d : D} (w : W K mg B ((o, .val d) :: m) F H) : ∃ v, o = some v ∧ Rp K F v d := by
  obtain ⟨fp, a, _⟩ := w.sl
  cases a with
  | cons h _ => cases h with | val h => exact ⟨_, rfl, h⟩
/-- one more slot that holds data -/
theorem W.more {v : V} {d : D} (w : W K mg B m F H) (r : Rp K F v d) : W K mg B ((some v, .val d) :: m) F H := by
  obtain ⟨fp, a, b, c⟩ := w.sl
  exact ⟨w.fh, w.f0, w.nw, w.fr, w.gr, fp, .cons (fp := []) (.val r) a, b, c⟩
theorem W.und {o : Option V} (w : W K mg B m F H) : W K mg B ((o, .und) :: m) F H := by
  obtain ⟨fp, a, b, c⟩ := w.sl
  exact ⟨w.fh, w.f0, w.nw, w.fr, w.gr, fp, .cons (fp := []) .und a, b, c⟩
/-- an object is laid and frozen -/
theorem W.lay {p : Addr} {o : HO} (w : W K mg B m F H) (hp : H p = none) : W K mg B m (upd F p o) (upd H p o) := by
  have fp : F p = none := Same.free w.fh hp
  obtain ⟨fps, _, _, _, k⟩ := W.frame (l := []) w
  obtain ⟨fq, a, b, c⟩ := w.sl
  have ne : ∀ x, H x ≠ none → x ≠ p := fun x hx e => hx (e ▸ hp)
  have sf : Same F (upd F p o) := fun x u e => by rw [upd_ne (ne x (by rw [w.fh _ _ e]; simp))]; exact e
  have sh : Same H (upd H p o) := fun x u e => by rw [upd_ne (ne x (by rw [e]; simp))]; exact e
  refine ⟨fun x u e => ?_, w.f0.trans sf, fun x hx h0 hn => ?_, fun x u e hn => sh _ _ (w.fr x u e hn), fun x hx => ?_, fq, a.keep sf fun x _ u e => sh _ _ e, b, fun x hx => ?_⟩
  · by_cases q : x = p
    · subst q; rw [upd_same] at e ⊢; exact e
    · rw [upd_ne q] at e ⊢; exact w.fh _ _ e
  · rw [upd_ne (ne x (w.gr x hx))]; exact w.nw x hx h0 hn
  · rw [upd_ne (ne x (w.gr x hx))]; exact w.gr x hx
  · obtain ⟨q1, q2, q3⟩ := c x hx
    exact ⟨by rw [upd_ne (ne x q2)]; exact q1, by rw [upd_ne (ne x q2)]; exact q2, q3⟩
/-- an object is laid, and a new slot owns it -/
theorem W.own {p : Addr} {o : HO} {s : Sl} (w : W K mg B m F H) (hp : H p = none) (h : SlR K mg F (upd H p o) (some (.ref p)) s [p]) : W K mg B ((some (.ref p), s) :: m) F (upd H p o) := by
  obtain ⟨fq, a, b, c⟩ := w.sl
  have fp : F p = none := Same.free w.fh hp
  have ne : ∀ x, H x ≠ none → x ≠ p := fun x hx e => hx (e ▸ hp)
  have sh : Same H (upd H p o) := fun x u e => by rw [upd_ne (ne x (by rw [e]; simp))]; exact e
  refine ⟨w.fh.trans sh, w.f0, w.nw, fun x u e hn => sh _ _ (w.fr x u e hn), fun x hx => ?_, [p] ++ fq, .cons h (a.keep (Same.refl _) fun x _ u e => sh _ _ e), ?_, fun x hx => ?_⟩
  · rw [upd_ne (ne x (w.gr x hx))]; exact w.gr x hx
  · refine List.nodup_append.mpr ⟨List.nodup_cons.mpr ⟨by simp, .nil⟩, b, fun x h1 y h2 => ?_⟩
    rintro rfl
    have : x = p := by simpa using h1
    exact (c x h2).2.1 (this ▸ hp)
  · rcases List.mem_append.mp hx with h | h
    · have : x = p := by simpa using h
      subst this
      refine ⟨fp, by rw [upd_same]; simp, .inr ?_⟩
      cases e : B.H0 x with
      | none => rfl
      | some o => exact absurd hp (w.gr x (by rw [e]; simp))
    · obtain ⟨q1, q2, q3⟩ := c x h
      exact ⟨q1, by rw [upd_ne (ne x q2)]; exact q2, q3⟩
/-- an owned object is written -/
theorem W.put {p : Addr} {o : HO} {s s' : Sl} {ov : Option V} (w : W K mg B ((ov, s) :: m) F H) (h : SlR K mg F H ov s [p]) (h' : SlR K mg F (upd H p o) ov s' [p]) : W K mg B ((ov, s') :: m) F (upd H p o) := by
  obtain ⟨fp, a, b, c⟩ := w.sl
  cases a with
  | cons q t =>
    rename_i f1 f2
    have hf : f1 = [p] := SlR.det q h
    subst hf
    have nd := List.nodup_append.mp b
    have out : ∀ x ∈ f2, x ≠ p := fun x hx e => nd.2.2 p (by simp) x hx e.symm
    have cp := c p (by simp)
    have gr : ∀ x, H x ≠ none → upd H p o x ≠ none := fun x hx => by
      by_cases q : x = p
      · subst q; rw [upd_same]; simp
      · rw [upd_ne q]; exact hx
    refine ⟨fun x u e => ?_, w.f0, w.nw, fun x u e hn => ?_, fun x hx => gr x (w.gr x hx), [p] ++ f2, .cons h' (t.keep (Same.refl _) fun x hx u e => by rw [upd_ne (out x hx)]; exact e), b, fun x hx => ?_⟩
    · have : x ≠ p := fun z => by rw [z, cp.1] at e; cases e
      rw [upd_ne this]; exact w.fh _ _ e
    · have : x ≠ p := fun z => by
        subst z
        rcases cp.2.2 with q | q
        · exact hn q
        · rw [q] at e; cases e
      rw [upd_ne this]; exact w.fr x u e hn
    · obtain ⟨q1, q2, q3⟩ := c x hx
      exact ⟨q1, gr x q2, q3⟩
theorem W.lst {o : Option V} {ds : List D} (w : W K mg B ((o, .lst ds) :: m) F H) : ∃ p vs, o = some (.ref p) ∧ H p = some (.lst vs) ∧ RpL K F vs ds ∧ F p = none := by
  obtain ⟨fp, a, b, c⟩ := w.sl
  cases a with
  | cons h _ => cases h with | lst h t => exact ⟨_, _, rfl, h, t, (c _ (by simp)).1⟩
theorem W.dK {o : Option V} {ds : List (Key × D)} (w : W K mg B ((o, .dK ds) :: m) F H) : ∃ p vs, o = some (.ref p) ∧ H p = some (.dK vs) ∧ RpK K F vs ds ∧ F p = none := by
  obtain ⟨fp, a, b, c⟩ := w.sl
  cases a with
  | cons h _ => cases h with | dK h t => exact ⟨_, _, rfl, h, t, (c _ (by simp)).1⟩
theorem W.dT {o : Option V} {ds : List (List Key × D)} (w : W K mg B ((o, .dT ds) :: m) F H) : ∃ p vs, o = some (.ref p) ∧ H p = some (.dT vs) ∧ RpT K F vs ds ∧ F p = none := by
  obtain ⟨fp, a, b, c⟩ := w.sl
  cases a with
  | cons h _ => cases h with | dT h t => exact ⟨_, _, rfl, h, t, (c _ (by simp)).1⟩
theorem W.scr {o : Option V} {ns : List Int} (w : W K mg B ((o, .scr ns) :: m) F H) : ∃ p, o = some (.ref p) ∧ SqL K F p (ns.map V.int) := by
  obtain ⟨fp, a, b, c⟩ := w.sl
  cases a with
  | cons h _ => cases h with | scr h => exact ⟨_, rfl, h⟩
/-- an owned object is frozen as it stands -/
theorem W.frz {p : Addr} {o : HO} {s : Sl} {d : D} {ov : Option V} (w : W K mg B ((ov, s) :: m) F H) (h : SlR K mg F H ov s [p]) (hp : H p = some o) (h' : Rp K (upd F p o) (.ref p) d) (hv : ov = some (.ref p)) : W K mg B ((ov, .val d) :: m) (upd F p o) H := by
  obtain ⟨fp, a, b, c⟩ := w.sl
  cases a with
  | cons q t =>
    rename_i f1 f2
    have hf : f1 = [p] := SlR.det q h
    subst hf
    subst hv
    have nd := List.nodup_append.mp b
    have out : ∀ x ∈ f2, x ≠ p := fun x hx e => nd.2.2 p (by simp) x hx e.symm
    have cp := c p (by simp)
    have sf : Same F (upd F p o) := fun x u e => by rw [upd_ne (fun z => by rw [z, cp.1] at e; cases e)]; exact e
    refine ⟨fun x u e => ?_, w.f0.trans sf, fun x hx h0 hn => ?_, w.fr, w.gr, [] ++ f2, .cons (.val h') (t.keep sf fun _ _ _ e => e), nd.2.1, fun x hx => ?_⟩
    · by_cases q : x = p
      · subst q; rw [upd_same] at e; cases e; exact hp
      · rw [upd_ne q] at e; exact w.fh _ _ e
    · have : x ≠ p := fun z => by
        subst z
        rcases cp.2.2 with q | q
        · exact hn q
        · exact hx q
      rw [upd_ne this]; exact w.nw x hx h0 hn
    · obtain ⟨q1, q2, q3⟩ := c x (List.mem_append_right _ hx)
      exact ⟨by rw [upd_ne (out x hx)]; exact q1, q2, q3⟩
end

/-- a slot's data, once it is frozen -/
def Sl.d? : Sl → Option D
  | .val d => some d
  | .lst ds => some (.list ds)
  | .dK es => some (.dict (es.map fun p => (kD p.1, p.2)))
  | _ => none
theorem W.freeze {K : Fg} {mg : Str → Option Value} {B : Bs} {m : List Sv} {F H : Hp} {o : Option V} {s : Sl} {d : D} (w : W K mg B ((o, s) :: m) F H) (h : s.d? = some d) : ∃ F', W K mg B ((o, .val d) :: m) F' H ∧ Same F F' := by
  have go : ∀ {p : Addr} {u : HO}, F p = none → Same F (upd F p u) := fun {p u} hp x y e => by rw [upd_ne (fun z => by rw [z, hp] at e; cases e)]; exact e
  cases s with
  | val d' => cases h; exact ⟨F, w, Same.refl _⟩
  | lst ds =>
    cases h
    obtain ⟨p, vs, rfl, e, r, n⟩ := w.lst
    exact ⟨_, w.frz (.lst e r) e (.lst upd_same (r.mono (go n))) rfl, go n⟩
  | dK ds =>
    cases h
    obtain ⟨p, vs, rfl, e, r, n⟩ := w.dK
    exact ⟨_, w.frz (.dK e r) e (.dK (.inl upd_same) (r.mono (go n))) rfl, go n⟩
  | und => cases h
  | dT _ => cases h
  | scr _ => cases h
  | obj _ _ => cases h
end Fx

set_option Elab.async false
set_option linter.all false
set_option maxRecDepth 100000
namespace Fx
open PySem L2
noncomputable section
/-- a statement's truth, never reckoned -/
def tru (p : Prop) : Bool := @decide p (Classical.propDecidable p)
theorem tru_iff {p : Prop} : tru p = true ↔ p := by unfold tru; exact @decide_eq_true_iff p (Classical.propDecidable p)

/-! ### what the mirrors are made of -/
structure Exn where
  cls : Str
  fs : List (Str × D)
inductive Rs (α : Type) where
  | ok (a : α) (ρ : Env)
  | ex (e : Exn) (ρ : Env)
  | bad
abbrev M (α : Type) := Env → Rs α
inductive So where
  | nx (ρ : Env)
  | bk (ρ : Env)
  | ct (ρ : Env)
  | rt (r : Sl) (ρ : Env)
  | ex (e : Exn) (ρ : Env)
  | bad
abbrev Ms := Env → So
inductive Fo where
  | rt (r : Sl) (ps : List Sl)
  | ex (e : Exn) (ps : List Sl)
  | bad
def Rs.bd {α β : Type} (m : Rs α) (k : α → M β) : Rs β := match m with
  | .ok a ρ => k a ρ
  | .ex e ρ => .ex e ρ
  | .bad => .bad
def Rs.st {α : Type} (m : Rs α) (k : α → Ms) : So := match m with
  | .ok a ρ => k a ρ
  | .ex e ρ => .ex e ρ
  | .bad => .bad
def So.bd (m : So) (k : Ms) : So := match m with
  | .nx ρ => k ρ
  | s => s

abbrev zp (σ : L2.St) (ρ : Env) : List Sv := σ.zip ρ

/-- an exception, as it leaves -/
def ExR (K : Fg) (mg : Str → Option Value) (F H : Hp) (e : Exn) (c : Value) (dx : Option Addr) : Prop :=
  ∃ C, c = .ref C ∧ mg e.cls = some (.ref C) ∧ (e.fs = [] ∨ ∃ d fvs, dx = some d ∧ H d = some (.xd fvs) ∧ SlRF K mg F H fvs (e.fs.map fun p => (p.1, .val p.2)) [])

section
variable (X : Cx) (E : XK)
abbrev WX (B : Bs) (l : List Sv) (F H : Hp) : Prop := W X.K X.mg B l F H
def EPost (B : Bs) (ts : List Sv) (σ : L2.St) (m : Rs Sl) (Q : VK) : Prop := match m with
  | .ok r ρ => σ.length = ρ.length → ∀ v F H, WX X B ((some v, r) :: (ts ++ zp σ ρ)) F H → Q v H
  | .ex e ρ => σ.length = ρ.length → ∀ c dx F H, WX X B (ts ++ zp σ ρ) F H → ExR X.K X.mg F H e c dx → E c dx H
  | .bad => False
def TPost (B : Bs) (ts : List Sv) (σ : L2.St) (m : Rs Bool) (Q : Bool → Hp → Prop) : Prop := match m with
  | .ok b ρ => σ.length = ρ.length → ∀ F H, WX X B (ts ++ zp σ ρ) F H → Q b H
  | .ex e ρ => σ.length = ρ.length → ∀ c dx F H, WX X B (ts ++ zp σ ρ) F H → ExR X.K X.mg F H e c dx → E c dx H
  | .bad => False
abbrev mk (vs : List V) (rs : List Sl) : List Sv := (vs.map some).zip rs
def APost (B : Bs) (ts : List Sv) (σ : L2.St) (mv : List (Option Nat)) (m : Rs (List Sl)) (Q : List V → Hp → Prop) : Prop := match m with
  | .ok rs ρ => σ.length = ρ.length → ∀ vs F H, vs.length = rs.length → mv.length = rs.length → (∀ (a i : Nat), mv[a]? = some (some i) → ∃ v : V, vs[a]? = some v ∧ σ[i]? = some (some v)) → WX X B (mk vs rs ++ (ts ++ zp σ ρ)) F H → Q vs H
  | .ex e ρ => σ.length = ρ.length → ∀ c dx F H, WX X B (ts ++ zp σ ρ) F H → ExR X.K X.mg F H e c dx → E c dx H
  | .bad => False
def Ev (e : Expr) (f : M Sl) : Prop := ∃ t, PE X e t ∧ ∀ (B : Bs) (ts : List Sv) (σ : L2.St) (ρ : Env) (F H : Hp) (Q : VK), σ.length = ρ.length → WX X B (ts ++ zp σ ρ) F H → EPost X E B ts σ (f ρ) Q → t σ H Q
def EvT (e : Expr) (f : M Bool) : Prop := ∃ t, PT X e t ∧ ∀ (B : Bs) (ts : List Sv) (σ : L2.St) (ρ : Env) (F H : Hp) (Q : Bool → Hp → Prop), σ.length = ρ.length → WX X B (ts ++ zp σ ρ) F H → TPost X E B ts σ (f ρ) Q → t σ H Q
def EvW (e : Expr) (f : M Bool) : Prop := ∃ t, PW X e t ∧ ∀ (B : Bs) (ts : List Sv) (σ : L2.St) (ρ : Env) (F H : Hp) (Q : Bool → Hp → Prop), σ.length = ρ.length → WX X B (ts ++ zp σ ρ) F H → TPost X E B ts σ (f ρ) Q → t σ H Q
def EvA (es : List Expr) (mv : List (Option Nat)) (f : M (List Sl)) : Prop := ∃ t, PA X es t ∧ ∀ (B : Bs) (ts : List Sv) (σ : L2.St) (ρ : Env) (F H : Hp) (Q : List V → Hp → Prop), σ.length = ρ.length → WX X B (ts ++ zp σ ρ) F H → APost X E B ts σ mv (f ρ) Q → t σ H Q
def Pins (pn : List Nat) (σ σ' : L2.St) : Prop := ∀ i ∈ pn, σ'[i]? = σ[i]?
def SPost (B : Bs) (ts : List Sv) (pn : List Nat) (σ : L2.St) (D : Ends) : So → Prop
  | .nx ρ => ∀ σ' F H, σ'.length = σ.length → σ'.length = ρ.length → Pins pn σ σ' → WX X B (ts ++ zp σ' ρ) F H → D.nx σ' H
  | .bk ρ => ∀ σ' F H, σ'.length = σ.length → σ'.length = ρ.length → Pins pn σ σ' → WX X B (ts ++ zp σ' ρ) F H → D.bk σ' H
  | .ct ρ => ∀ σ' F H, σ'.length = σ.length → σ'.length = ρ.length → Pins pn σ σ' → WX X B (ts ++ zp σ' ρ) F H → D.ct σ' H
  | .rt r ρ => ∀ v σ' F H, σ'.length = σ.length → σ'.length = ρ.length → Pins pn σ σ' → WX X B ((some v, r) :: (ts ++ zp σ' ρ)) F H → D.rt v H
  | .ex e ρ => ∀ c dx σ' F H, σ'.length = σ.length → σ'.length = ρ.length → Pins pn σ σ' → WX X B (ts ++ zp σ' ρ) F H → ExR X.K X.mg F H e c dx → E c dx H
  | .bad => False
def Ss (pn : List Nat) (st : Stmt) (g : Ms) : Prop := ∃ t, PS X st t ∧ ∀ (B : Bs) (ts : List Sv) (σ : L2.St) (ρ : Env) (F H : Hp) (D : Ends), σ.length = ρ.length → WX X B (ts ++ zp σ ρ) F H → SPost X E B ts pn σ D (g ρ) → t D σ H
def SsB (pn : List Nat) (st : List Stmt) (g : Ms) : Prop := ∃ t, PSs X st t ∧ ∀ (B : Bs) (ts : List Sv) (σ : L2.St) (ρ : Env) (F H : Hp) (D : Ends), σ.length = ρ.length → WX X B (ts ++ zp σ ρ) F H → SPost X E B ts pn σ D (g ρ) → t D σ H
end

theorem Pins.refl (pn : List Nat) (σ : L2.St) : Pins pn σ σ := fun _ _ => rfl
theorem Pins.trans {pn : List Nat} {σ σ1 σ2 : L2.St} (a : Pins pn σ σ1) (b : Pins pn σ1 σ2) : Pins pn σ σ2 := fun i h => (b i h).trans (a i h)
theorem Pins.set {pn : List Nat} {σ : L2.St} {i : Nat} {v : Option V} (h : i ∉ pn) : Pins pn σ (σ.set i v) := fun j hj => List.getElem?_set_ne (by rintro rfl; exact h hj)

section
variable {X : Cx} {E : XK}
/-! ### lists of slots -/
theorem zp_at : ∀ {σ : L2.St} {ρ : Env} {i : Nat} {s : Sl}, σ.length = ρ.length → ρ[i]? = some s → ∃ o l, σ[i]? = some o ∧ List.Perm (zp σ ρ) ((o, s) :: l) ∧ ∀ s', List.Perm (zp σ (ρ.set i s')) ((o, s') :: l)
  | [], [], _, _, _, h => by simp at h
  | o :: σ, r :: ρ, 0, s, _, h => by
    have : r = s := by simpa using h
    subst this
    exact ⟨o, σ.zip ρ, rfl, .refl _, fun s' => .refl _⟩
  | o :: σ, r :: ρ, i + 1, s, hl, h => by
    obtain ⟨o', l, h1, h2, h3⟩ := zp_at (σ := σ) (ρ := ρ) (i := i) (by simpa using hl) (by simpa using h)
    exact ⟨o', (o, r) :: l, by simpa using h1, (h2.cons _).trans (.swap _ _ _), fun s' => ((h3 s').cons _).trans (.swap _ _ _)⟩
  | [], _ :: _, _, _, hl, _ => by simp at hl
  | _ :: _, [], _, _, hl, _ => by simp at hl
theorem zp_set : ∀ {σ : L2.St} {ρ : Env} {i : Nat}, σ.length = ρ.length → i < σ.length → ∃ x l, List.Perm (zp σ ρ) (x :: l) ∧ ∀ o s, List.Perm (zp (σ.set i o) (ρ.set i s)) ((o, s) :: l)
  | [], [], _, _, h => by simp at h
  | o :: σ, r :: ρ, 0, _, _ => ⟨(o, r), σ.zip ρ, .refl _, fun _ _ => .refl _⟩
  | o :: σ, r :: ρ, i + 1, hl, h => by
    obtain ⟨x, l, h1, h2⟩ := zp_set (σ := σ) (ρ := ρ) (i := i) (by simpa using hl) (by simpa using h)
    exact ⟨x, (o, r) :: l, (h1.cons _).trans (.swap _ _ _), fun a b => ((h2 a b).cons _).trans (.swap _ _ _)⟩
  | [], _ :: _, _, hl, _ => by simp at hl
  | _ :: _, [], _, hl, _ => by simp at hl
theorem pull {α : Type} {ts a l : List α} {x : α} (p : List.Perm a (x :: l)) : List.Perm (ts ++ a) (x :: (ts ++ l)) := (p.append_left ts).trans List.perm_middle
/-- slot i, at the front -/
theorem W.at {K : Fg} {mg : Str → Option Value} {B : Bs} {ts : List Sv} {σ : L2.St} {ρ : Env} {F H : Hp} {i : Nat} {s : Sl} (w : W K mg B (ts ++ zp σ ρ) F H) (hl : σ.length = ρ.length) (h : ρ[i]? = some s) :
    ∃ o l, σ[i]? = some o ∧ W K mg B ((o, s) :: (ts ++ l)) F H ∧ ∀ {ts' : List Sv} {s' : Sl} {F' H' : Hp}, W K mg B ((o, s') :: (ts' ++ l)) F' H' → W K mg B (ts' ++ zp σ (ρ.set i s')) F' H' := by
  obtain ⟨o, l, h1, h2, h3⟩ := zp_at hl h
  exact ⟨o, l, h1, w.perm (pull h2), fun w' => w'.perm (pull (h3 _)).symm⟩
/-- slot i is put -/
theorem W.back {K : Fg} {mg : Str → Option Value} {B : Bs} {ts : List Sv} {σ : L2.St} {ρ : Env} {F H : Hp} {i : Nat} {s : Sl} {o : Option V} (hl : σ.length = ρ.length) (hi : σ[i]? = some o) (w : W K mg B ((o, s) :: (ts ++ zp σ ρ)) F H) : W K mg B (ts ++ zp σ (ρ.set i s)) F H := by
  have hi' : i < ρ.length := by rw [← hl]; exact (List.getElem?_eq_some_iff.mp hi).1
  obtain ⟨o', l, h1, h2, h3⟩ := zp_at (s := ρ[i]) hl (List.getElem?_eq_getElem hi')
  rw [hi] at h1
  cases h1
  have w2 : W K mg B ((o, ρ[i]) :: (o, s) :: (ts ++ l)) F H := w.perm (((pull h2).cons _).trans (.swap _ _ _))
  exact w2.tail.perm (pull (h3 s)).symm
theorem W.store {K : Fg} {mg : Str → Option Value} {B : Bs} {ts : List Sv} {σ : L2.St} {ρ : Env} {F H : Hp} {i : Nat} {s : Sl} {o : Option V} (hl : σ.length = ρ.length) (w : W K mg B ((o, s) :: (ts ++ zp σ ρ)) F H) : W K mg B (ts ++ zp (σ.set i o) (ρ.set i s)) F H := by
  by_cases hi : i < σ.length
  · obtain ⟨x, l, h1, h2⟩ := zp_set (i := i) hl hi
    have w2 : W K mg B (x :: (o, s) :: (ts ++ l)) F H := w.perm (((pull h1).cons _).trans (.swap _ _ _))
    exact w2.tail.perm (pull (h2 o s)).symm
  · rw [List.set_eq_of_length_le (by omega), List.set_eq_of_length_le (by omega)]
    exact w.tail
theorem set_len {α : Type} {σ : L2.St} {ρ : List α} {i : Nat} {s : α} (h : σ.length = ρ.length) : σ.length = (ρ.set i s).length := by rw [List.length_set]; exact h

/-! ### expressions: names, constants -/
/-- a name: what it owns is frozen -/
def mVar (i : Nat) : M Sl := fun ρ => match ρ[i]? with
  | some s => match s.d? with
    | some d => .ok (.val d) (ρ.set i (.val d))
    | none => .bad
  | none => .bad
theorem set_self {ρ : Env} {i : Nat} {s : Sl} (h : ρ[i]? = some s) : ρ.set i s = ρ := by
  obtain ⟨h1, h2⟩ := List.getElem?_eq_some_iff.mp h
  rw [← h2]; exact List.set_getElem_self h1
theorem ev_var (i : Nat) {x : Str} {pos : Pos} (hN : X.N[i]? = some x := by rfl) (hv : Vis X.env.scope x := by first | exact Or.inl rfl | exact Or.inr (Or.inl rfl) | exact Or.inr (Or.inr rfl)) (hd : (x == ("__debug__" : Str)) = false := by decide)
    (hcd : (x == ("__classdict__" : Str)) = false := by decide) : Ev X E (.Name x pos) (mVar i) := by
  refine ⟨_, pe_var hN hv hd hcd, fun B ts σ ρ F H Q hl w h => ?_⟩
  unfold mVar at h
  cases e : ρ[i]? with
  | none => rw [e] at h; exact h.elim
  | some s =>
    rw [e] at h
    obtain ⟨o, l, h1, w1, k⟩ := w.at hl e
    simp only at h
    cases e2 : s.d? with
    | none => rw [e2] at h; exact h.elim
    | some d =>
      rw [e2] at h
      obtain ⟨F', w2, sf⟩ := w1.freeze e2
      obtain ⟨v, rfl, r⟩ := w2.valO
      refine ⟨v, h1, h (set_len hl) v F' H ?_⟩
      exact (k w2).more r
def mC (d : D) : M Sl := fun ρ => .ok (.val d) ρ
theorem ev_c {e : Expr} {v : V} {d : D} (h : PE X e (tC v)) (r : ∀ K F, Rp K F v d) : Ev X E e (mC d) :=
  ⟨_, h, fun _ _ _ _ _ _ _ hl w h => h hl v _ _ (w.more (r _ _))⟩
theorem ev_int {i j pos} : Ev X E (.Constant (.int i) j pos) (mC (.int i)) := ev_c pe_int fun _ _ => .int _
theorem ev_bl {b j pos} : Ev X E (.Constant (.bool b) j pos) (mC (.bool b)) := ev_c pe_bl fun _ _ => .bl _
theorem ev_non {j pos} : Ev X E (.Constant .none j pos) (mC .none) := ev_c pe_non fun _ _ => .non
theorem ev_str {x j pos} : Ev X E (.Constant (.str x) j pos) (mC (.str x)) := ev_c pe_str fun _ _ => .str _
/-- a constant of the module -/
theorem ev_glob {x : Str} {v : V} {d : D} {u : Value} {pos : Pos} (hg : Gl X x) (hm : X.mg x = some u) (r : RelV v u) (rp : ∀ F, Rp X.K F v d) (hd : (x == ("__debug__" : Str)) = false := by decide) : Ev X E (.Name x pos) (mC d) :=
  ⟨_, pe_glob hg hm r hd, fun _ _ _ _ _ _ _ hl w h => h hl v _ _ (w.more (rp _))⟩

/-! ### two operands -/
/-- an operation on data -/
def OpL (X : Cx) (r : R2) (g : D → D → Option Sl) : Prop := ∀ (B : Bs) (l : List Sv) (F H : Hp) (v u : V) (a b : D) (rc : Sl) (Q : VK), W X.K X.mg B l F H → Rp X.K F v a → Rp X.K F u b → g a b = some rc →
  (∀ x F' H', W X.K X.mg B ((some x, rc) :: l) F' H' → Q x H') → r v u H Q
def mBin (g : D → D → Option Sl) (fa fb : M Sl) : M Sl := fun ρ => (fa ρ).bd fun ra ρ1 => (fb ρ1).bd fun rb ρ2 => match ra.d?, rb.d? with
  | some a, some b => match g a b with
    | some r => .ok r ρ2
    | none => .bad
  | _, _ => .bad
/-- how an expression's reading is run -/
def Run (X : Cx) (E : XK) (t : TE) (f : M Sl) : Prop := ∀ (B : Bs) (ts : List Sv) (σ : L2.St) (ρ : Env) (F H : Hp) (Q : VK), σ.length = ρ.length → WX X B (ts ++ zp σ ρ) F H → EPost X E B ts σ (f ρ) Q → t σ H Q
/-- the sequence of two, for any rule over tOp -/
theorem two_run {ta tb : TE} {r : R2} {g : D → D → Option Sl} {fa fb : M Sl} (hr : OpL X r g) (qa : Run X E ta fa) (qb : Run X E tb fb) : Run X E (tOp r ta tb) (mBin g fa fb) := by
  intro B ts σ ρ F H Q hl w h
  refine qa B ts σ ρ F H _ hl w ?_
  unfold mBin Rs.bd at h
  cases e1 : fa ρ with
  | bad => rw [e1] at h; exact h.elim
  | ex x ρ1 => rw [e1] at h; exact h
  | ok ra ρ1 =>
    rw [e1] at h
    intro hl1 v F1 H1 w1
    refine qb B ((some v, ra) :: ts) σ ρ1 F1 H1 _ hl1 w1 ?_
    simp only at h
    cases e2 : fb ρ1 with
    | bad => rw [e2] at h; exact h.elim
    | ex x ρ2 =>
      rw [e2] at h
      exact fun hl2 c dx F2 H2 w2 q => h hl2 c dx F2 H2 w2.tail q
    | ok rb ρ2 =>
      rw [e2] at h
      simp only at h
      intro hl2 u F2 H2 w2
      cases da : ra.d? with
      | none => rw [da] at h; exact h.elim
      | some a =>
        cases db : rb.d? with
        | none => rw [da, db] at h; exact h.elim
        | some b =>
          rw [da, db] at h
          simp only at h
          cases eg : g a b with
          | none => rw [eg] at h; exact h.elim
          | some rc =>
            rw [eg] at h
            obtain ⟨F3, w3, s3⟩ := w2.freeze db
            have w4 : W X.K X.mg B ((some v, ra) :: (some u, .val b) :: (ts ++ zp σ ρ2)) F3 H2 := w3.perm (.swap _ _ _)
            obtain ⟨F5, w5, s5⟩ := w4.freeze da
            exact hr B _ F5 H2 v u a b rc Q w5.tail.tail w5.val (w5.tail).val eg fun x F' H' w' => h hl2 x F' H' w'
theorem ev_two {a b : Expr} {e : Expr} {r : R2} {g : D → D → Option Sl} {fa fb : M Sl} (hr : OpL X r g) (ha : Ev X E a fa) (hb : Ev X E b fb) (k : ∀ {ta tb : TE}, PE X a ta → PE X b tb → PE X e (tOp r ta tb)) : Ev X E e (mBin g fa fb) := by
  obtain ⟨ta, pa, qa⟩ := ha
  obtain ⟨tb, pb, qb⟩ := hb
  exact ⟨_, k pa pb, two_run hr qa qb⟩
theorem ev_op {op : Operator} {a b : Expr} {r : R2} {g : D → D → Option Sl} {fa fb : M Sl} {pos : Pos} (ho : OpR X (binaryOp op) r) (hr : OpL X r g) (ha : Ev X E a fa) (hb : Ev X E b fb) : Ev X E (.BinOp a op b pos) (mBin g fa fb) :=
  ev_two hr ha hb fun pa pb => pe_op ho pa pb
theorem ev_cmp {op : CmpOp} {a b : Expr} {r : R2} {g : D → D → Option Sl} {fa fb : M Sl} {pos : Pos} (ho : OpR X (compareOp op) r) (hr : OpL X r g) (ha : Ev X E a fa) (hb : Ev X E b fb) (hm : behindInMarks op b = false) : Ev X E (.Compare a [op] [b] pos) (mBin g fa fb) :=
  ev_two hr ha hb fun pa pb => pe_cmpR ho pa pb hm
theorem ev_ix {a b : Expr} {r : R2} {g : D → D → Option Sl} {fa fb : M Sl} {pos : Pos} (ho : IxR X r) (hr : OpL X r g) (ha : Ev X E a fa) (hb : Ev X E b fb) (hs : PlainIx b := by exact fun _ _ => rfl) : Ev X E (.Subscript a b pos) (mBin g fa fb) :=
  ev_two hr ha hb fun pa pb => pe_ix ho pa pb hs
def mUn (g : D → Option Sl) (fa : M Sl) : M Sl := fun ρ => (fa ρ).bd fun ra ρ1 => match ra.d? with
  | some a => match g a with
    | some r => .ok r ρ1
    | none => .bad
  | _ => .bad
def UnL (X : Cx) (r : V → Hp → VK → Prop) (g : D → Option Sl) : Prop := ∀ (B : Bs) (l : List Sv) (F H : Hp) (v : V) (a : D) (rc : Sl) (Q : VK), W X.K X.mg B l F H → Rp X.K F v a → g a = some rc →
  (∀ x F' H', W X.K X.mg B ((some x, rc) :: l) F' H' → Q x H') → r v H Q
theorem ev_one {a : Expr} {e : Expr} {r : V → Hp → VK → Prop} {g : D → Option Sl} {fa : M Sl} (hr : UnL X r g) (ha : Ev X E a fa) (k : ∀ {ta : TE}, PE X a ta → PE X e (tUn r ta)) : Ev X E e (mUn g fa) := by
  obtain ⟨ta, pa, qa⟩ := ha
  refine ⟨_, k pa, fun B ts σ ρ F H Q hl w h => ?_⟩
  refine qa B ts σ ρ F H _ hl w ?_
  unfold mUn Rs.bd at h
  cases e1 : fa ρ with
  | bad => rw [e1] at h; exact h.elim
  | ex x ρ1 => rw [e1] at h; exact h
  | ok ra ρ1 =>
    rw [e1] at h
    simp only at h
    intro hl1 v F1 H1 w1
    cases da : ra.d? with
    | none => rw [da] at h; exact h.elim
    | some a =>
      rw [da] at h
      simp only at h
      cases eg : g a with
      | none => rw [eg] at h; exact h.elim
      | some rc =>
        rw [eg] at h
        obtain ⟨F3, w3, s3⟩ := w1.freeze da
        exact hr B _ F3 H1 v a rc Q w3.tail w3.val eg fun x F' H' w' => h hl1 x F' H' w'
theorem ev_un {op : UnaryOp} {a : Expr} {r : V → Hp → VK → Prop} {g : D → Option Sl} {fa : M Sl} {pos : Pos} (ho : UnR X (unaryOp op) r) (hr : UnL X r g) (ha : Ev X E a fa) : Ev X E (.UnaryOp op a pos) (mUn g fa) :=
  ev_one hr ha fun pa => pe_un ho pa

/-! ### argument lists -/
theorem ea_nil : EvA X E [] [] (fun ρ => .ok [] ρ) := ⟨_, pa_nil, fun B ts σ ρ F H Q hl w h => h hl [] F H rfl rfl (fun a i h => by simp at h) w⟩
/-- data: what is fresh is frozen -/
def mArg (fa : M Sl) (fr : M (List Sl)) : M (List Sl) := fun ρ => (fa ρ).bd fun ra ρ1 => (fr ρ1).bd fun rs ρ2 => match ra.d? with
  | some a => .ok (.val a :: rs) ρ2
  | none => .bad
theorem ea_cons {e : Expr} {es : List Expr} {mv : List (Option Nat)} {fa : M Sl} {fr : M (List Sl)} (ha : Ev X E e fa) (hr : EvA X E es mv fr) (hs : starEach (e :: es) X.env = (false, eval e X.env) :: starEach es X.env := by rfl) : EvA X E (e :: es) (none :: mv) (mArg fa fr) := by
  obtain ⟨ta, pa, qa⟩ := ha
  obtain ⟨tb, pb, qb⟩ := hr
  refine ⟨_, pa_cons pa pb hs, fun B ts σ ρ F H Q hl w h => ?_⟩
  refine qa B ts σ ρ F H _ hl w ?_
  unfold mArg Rs.bd at h
  cases e1 : fa ρ with
  | bad => rw [e1] at h; exact h.elim
  | ex x ρ1 => rw [e1] at h; exact h
  | ok ra ρ1 =>
    rw [e1] at h
    intro hl1 v F1 H1 w1
    refine qb B ((some v, ra) :: ts) σ ρ1 F1 H1 _ hl1 w1 ?_
    simp only at h
    cases e2 : fr ρ1 with
    | bad => rw [e2] at h; exact h.elim
    | ex x ρ2 =>
      rw [e2] at h
      exact fun hl2 c dx F2 H2 w2 q => h hl2 c dx F2 H2 w2.tail q
    | ok rs ρ2 =>
      rw [e2] at h
      simp only at h
      intro hl2 vs F2 H2 hvs hmv hp w2
      cases da : ra.d? with
      | none => rw [da] at h; exact h.elim
      | some a =>
        rw [da] at h
        have w3 : W X.K X.mg B ((some v, ra) :: (mk vs rs ++ (ts ++ zp σ ρ2))) F2 H2 := w2.perm List.perm_middle
        obtain ⟨F4, w4, s4⟩ := w3.freeze da
        refine h hl2 (v :: vs) F4 H2 (congrArg (· + 1) hvs) (congrArg (· + 1) hmv) (fun j i hj => ?_) w4
        cases j with
        | zero => simp at hj
        | succ j => exact hp j i (by simpa using hj)
/-- what a name owns is handed on -/
def Sl.there : Sl → Bool
  | .und => false
  | _ => true
def mArgO (i : Nat) (fr : M (List Sl)) : M (List Sl) := fun ρ => match ρ[i]? with
  | some s => match s.there with
    | true => (fr ρ).bd fun rs ρ2 => match ρ2[i]? with
      | some s2 => match s2.there with
        | true => .ok (s2 :: rs) (ρ2.set i .und)
        | false => .bad
      | none => .bad
    | false => .bad
  | none => .bad
theorem W.there {K : Fg} {mg : Str → Option Value} {B : Bs} {m : List Sv} {F H : Hp} {o : Option V} {s : Sl} (w : W K mg B ((o, s) :: m) F H) (h : s.there = true) : ∃ v, o = some v := by
  obtain ⟨fp, a, _⟩ := w.sl
  cases a with
  | cons q _ => cases q <;> first | exact ⟨_, rfl⟩ | cases h
theorem ea_own (i : Nat) {x : Str} {pos : Pos} {es : List Expr} {mv : List (Option Nat)} {fr : M (List Sl)} (hr : EvA X E es mv fr) (hN : X.N[i]? = some x := by rfl) (hv : Vis X.env.scope x := by first | exact Or.inl rfl | exact Or.inr (Or.inl rfl) | exact Or.inr (Or.inr rfl))
    (hd : (x == ("__debug__" : Str)) = false := by decide) (hcd : (x == ("__classdict__" : Str)) = false := by decide) (hs : starEach (.Name x pos :: es) X.env = (false, eval (.Name x pos) X.env) :: starEach es X.env := by rfl) :
    EvA X E (.Name x pos :: es) (some i :: mv) (mArgO i fr) := by
  obtain ⟨tb, pb, qb⟩ := hr
  refine ⟨_, pa_cons (pe_var hN hv hd hcd) pb hs, fun B ts σ ρ F H Q hl w h => ?_⟩
  unfold mArgO Rs.bd at h
  cases e : ρ[i]? with
  | none => rw [e] at h; exact h.elim
  | some s =>
    rw [e] at h
    simp only at h
    cases e2 : s.there with
    | false => rw [e2] at h; exact h.elim
    | true =>
      rw [e2] at h
      simp only at h
      obtain ⟨o, l, h1, w1, k⟩ := w.at hl e
      obtain ⟨v, rfl⟩ := w1.there e2
      refine ⟨v, h1, qb B ts σ ρ F H _ hl w ?_⟩
      cases e3 : fr ρ with
      | bad => rw [e3] at h; exact h.elim
      | ex x ρ2 => rw [e3] at h; exact h
      | ok rs ρ2 =>
        rw [e3] at h
        simp only at h
        intro hl2 vs F2 H2 hvs hmv hp w3
        cases e4 : ρ2[i]? with
        | none => rw [e4] at h; exact h.elim
        | some s2 =>
          rw [e4] at h
          simp only at h
          cases e5 : s2.there with
          | false => rw [e5] at h; exact h.elim
          | true =>
            rw [e5] at h
            simp only at h
            rw [← List.append_assoc] at w3
            obtain ⟨o2, l2, h2, w4, k2⟩ := W.at w3 hl2 e4
            rw [h1] at h2
            cases h2
            have w5 := k2 (ts' := (some v, s2) :: (mk vs rs ++ ts)) (w4.und (o := some v))
            rw [List.cons_append, List.append_assoc] at w5
            refine h (set_len hl2) (v :: vs) F2 H2 (congrArg (· + 1) hvs) (congrArg (· + 1) hmv) (fun j k hj => ?_) w5
            cases j with
            | zero =>
              have : k = i := by simpa using hj.symm
              subst this
              exact ⟨v, rfl, h1⟩
            | succ j => exact hp j k (by simpa using hj)
/-! ### displays -/
def dAll : List Sl → Option (List D)
  | [] => some []
  | s :: r => match s.d?, dAll r with
    | some d, some ds => some (d :: ds)
    | _, _ => none
/-- values that are data: their slots are dropped -/
theorem W.datas {K : Fg} {mg : Str → Option Value} {B : Bs} {m : List Sv} {H : Hp} : ∀ {vs : List V} {rs : List Sl} {ds : List D} {F : Hp}, vs.length = rs.length → W K mg B (Fx.mk vs rs ++ m) F H → dAll rs = some ds → ∃ F', W K mg B m F' H ∧ Same F F' ∧ RpL K F' vs ds
  | [], [], ds, F, _, w, h => by cases h; exact ⟨F, w, Same.refl _, .nil⟩
  | v :: vs, r :: rs, ds, F, hl, w, h => by
    unfold dAll at h
    cases h1 : r.d? with
    | none => rw [h1] at h; cases h
    | some d =>
      cases h2 : dAll rs with
      | none => rw [h1, h2] at h; cases h
      | some es =>
        rw [h1, h2] at h
        cases h
        obtain ⟨F1, w1, s1⟩ := W.freeze (o := some v) w h1
        obtain ⟨F2, w2, s2, r2⟩ := W.datas (vs := vs) (rs := rs) (m := m) (by simpa using hl) w1.tail h2
        exact ⟨F2, w2, s1.trans s2, .cons (w1.val.mono s2) r2⟩
  | [], _ :: _, _, _, hl, _, _ => by simp at hl
  | _ :: _, [], _, _, hl, _, _ => by simp at hl
theorem W.new_tup {K : Fg} {mg : Str → Option Value} {B : Bs} {m : List Sv} {F H : Hp} {p : Addr} {vs : List V} {ds : List D} (w : W K mg B m F H) (r : RpL K F vs ds) (hp : H p = none) : W K mg B ((some (.ref p), .val (.tuple ds)) :: m) (upd F p (.tup vs)) (upd H p (.tup vs)) := by
  have fp : F p = none := Same.free w.fh hp
  have sf : Same F (upd F p (.tup vs)) := fun x u e => by rw [upd_ne (fun z => by rw [z, fp] at e; cases e)]; exact e
  exact (w.lay hp).more (.tup (SqT.of upd_same) (r.mono sf))
theorem W.new_lst {K : Fg} {mg : Str → Option Value} {B : Bs} {m : List Sv} {F H : Hp} {p : Addr} {vs : List V} {ds : List D} (w : W K mg B m F H) (r : RpL K F vs ds) (hp : H p = none) : W K mg B ((some (.ref p), .lst ds) :: m) F (upd H p (.lst vs)) :=
  w.own hp (.lst upd_same r)
def szOk (n : Nat) : Bool := tru (n ≤ 16777216)
theorem szOk_le {n : Nat} (h : szOk n = true) : n ≤ sizeLine := by rw [sizeLine_eq]; exact tru_iff.mp h
def mTup (fs : M (List Sl)) : M Sl := fun ρ => (fs ρ).bd fun rs ρ1 => match dAll rs with
  | some ds => match szOk ds.length with
    | true => .ok (.val (.tuple ds)) ρ1
    | false => .bad
  | none => .bad
def mLst (fs : M (List Sl)) : M Sl := fun ρ => (fs ρ).bd fun rs ρ1 => match dAll rs with
  | some ds => match szOk ds.length with
    | true => .ok (.lst ds) ρ1
    | false => .bad
  | none => .bad
theorem ev_tup {es : List Expr} {mv : List (Option Nat)} {fs : M (List Sl)} {pos : Pos} {x1} (ha : EvA X E es mv fs) : Ev X E (.Tuple es x1 pos) (mTup fs) := by
  obtain ⟨t, pt, qt⟩ := ha
  refine ⟨_, pe_tup pt, fun B ts σ ρ F H Q hl w h => qt B ts σ ρ F H _ hl w ?_⟩
  unfold mTup Rs.bd at h
  cases e1 : fs ρ with
  | bad => rw [e1] at h; exact h.elim
  | ex x ρ1 => rw [e1] at h; exact h
  | ok rs ρ1 =>
    rw [e1] at h
    simp only at h
    intro hl1 vs F1 H1 hvs _ _ w1
    cases e2 : dAll rs with
    | none => rw [e2] at h; exact h.elim
    | some ds =>
      rw [e2] at h
      simp only at h
      cases e3 : szOk ds.length with
      | false => rw [e3] at h; exact h.elim
      | true =>
        rw [e3] at h
        obtain ⟨F2, w2, s2, r2⟩ := w1.datas hvs e2
        exact ⟨by rw [r2.length]; exact szOk_le e3, fun p hp => h hl1 _ _ _ (w2.new_tup r2 hp)⟩
theorem ev_lst {es : List Expr} {mv : List (Option Nat)} {fs : M (List Sl)} {pos : Pos} (ha : EvA X E es mv fs) : Ev X E (.List es pos) (mLst fs) := by
  obtain ⟨t, pt, qt⟩ := ha
  refine ⟨_, pe_lst pt, fun B ts σ ρ F H Q hl w h => qt B ts σ ρ F H _ hl w ?_⟩
  unfold mLst Rs.bd at h
  cases e1 : fs ρ with
  | bad => rw [e1] at h; exact h.elim
  | ex x ρ1 => rw [e1] at h; exact h
  | ok rs ρ1 =>
    rw [e1] at h
    simp only at h
    intro hl1 vs F1 H1 hvs _ _ w1
    cases e2 : dAll rs with
    | none => rw [e2] at h; exact h.elim
    | some ds =>
      rw [e2] at h
      simp only at h
      cases e3 : szOk ds.length with
      | false => rw [e3] at h; exact h.elim
      | true =>
        rw [e3] at h
        obtain ⟨F2, w2, s2, r2⟩ := w1.datas hvs e2
        exact ⟨by rw [r2.length]; exact szOk_le e3, fun p hp => h hl1 _ _ _ (w2.new_lst r2 hp)⟩

/-! ### tests -/
def tst (m : Rs Sl) : Rs Bool := match m with
  | .ok (.val (.bool b)) ρ => .ok b ρ
  | .ok _ _ => .bad
  | .ex e ρ => .ex e ρ
  | .bad => .bad
def mTst (f : M Sl) : M Bool := fun ρ => tst (f ρ)
theorem post_tst {B : Bs} {ts : List Sv} {σ : L2.St} {m : Rs Sl} {Q : Bool → Hp → Prop} (h : TPost X E B ts σ (tst m) Q) : EPost X E B ts σ m (fun x H' => ∃ k, x = .bl k ∧ Q k H') := by
  cases m with
  | bad => exact h.elim
  | ex e ρ => exact h
  | ok r ρ =>
    cases r with
    | val d =>
      cases d with
      | bool b =>
        intro hl v F H w
        cases w.val
        exact ⟨b, rfl, h hl F H w.tail⟩
      | _ => exact h.elim
    | _ => exact h.elim
theorem et_val {e : Expr} {f : M Sl} (h : Ev X E e f) (he : ∀ whole, isTrue e X.env whole = (do let v ← whole; standAt e.pos; holding [v] (truthy v)) := by intro _; rfl) : EvT X E e (mTst f) := by
  obtain ⟨t, pt, qt⟩ := h
  exact ⟨_, pt_val pt he, fun B ts σ ρ F H Q hl w h => qt B ts σ ρ F H _ hl w (post_tst h)⟩
theorem et_cmp {op : CmpOp} {a b : Expr} {r : R2} {g : D → D → Option Sl} {fa fb : M Sl} {pos : Pos} (ho : OpR X (compareOp op) r) (hr : OpL X r g) (ha : Ev X E a fa) (hb : Ev X E b fb) (hm : behindInMarks op b = false) : EvT X E (.Compare a [op] [b] pos) (mTst (mBin g fa fb)) := by
  obtain ⟨ta, pa, qa⟩ := ha
  obtain ⟨tb, pb, qb⟩ := hb
  exact ⟨_, pt_cmpR ho pa pb hm, fun B ts σ ρ F H Q hl w h => two_run hr qa qb B ts σ ρ F H _ hl w (post_tst h)⟩
def mNot (f : M Bool) : M Bool := fun ρ => (f ρ).bd fun b ρ1 => .ok (!b) ρ1
theorem et_not {a : Expr} {f : M Bool} {pos : Pos} (h : EvT X E a f) : EvT X E (.UnaryOp .Not a pos) (mNot f) := by
  obtain ⟨t, pt, qt⟩ := h
  refine ⟨_, pt_not pt, fun B ts σ ρ F H Q hl w h => qt B ts σ ρ F H _ hl w ?_⟩
  unfold mNot Rs.bd at h
  cases e : f ρ with
  | bad => rw [e] at h; exact h.elim
  | ex x ρ1 => rw [e] at h; exact h
  | ok b ρ1 => rw [e] at h; exact h
theorem ew_one_and {a : Expr} {f : M Bool} {pos : Pos} (h : EvT X E a f) : EvW X E (.BoolOp .And [a] pos) f := by
  obtain ⟨t, pt, qt⟩ := h
  exact ⟨_, pw_and1 pt, qt⟩
theorem ew_one_or {a : Expr} {f : M Bool} {pos : Pos} (h : EvT X E a f) : EvW X E (.BoolOp .Or [a] pos) f := by
  obtain ⟨t, pt, qt⟩ := h
  exact ⟨_, pw_or1 pt, qt⟩
def mAnd (f g : M Bool) : M Bool := fun ρ => (f ρ).bd fun b ρ1 => if b = true then g ρ1 else .ok false ρ1
def mOr (f g : M Bool) : M Bool := fun ρ => (f ρ).bd fun b ρ1 => if b = true then .ok true ρ1 else g ρ1
theorem ew_and {a b : Expr} {r : List Expr} {f g : M Bool} {pos : Pos} (h : EvT X E a f) (h2 : EvW X E (.BoolOp .And (b :: r) pos) g) : EvW X E (.BoolOp .And (a :: b :: r) pos) (mAnd f g) := by
  obtain ⟨t, pt, qt⟩ := h
  obtain ⟨u, pu, qu⟩ := h2
  refine ⟨_, pw_and pt pu, fun B ts σ ρ F H Q hl w h => qt B ts σ ρ F H _ hl w ?_⟩
  unfold mAnd Rs.bd at h
  cases e : f ρ with
  | bad => rw [e] at h; exact h.elim
  | ex x ρ1 => rw [e] at h; exact h
  | ok b ρ1 =>
    rw [e] at h
    simp only at h
    intro hl1 F1 H1 w1
    cases b with
    | true => exact qu B ts σ ρ1 F1 H1 _ hl1 w1 h
    | false => exact h hl1 F1 H1 w1
theorem ew_or {a b : Expr} {r : List Expr} {f g : M Bool} {pos : Pos} (h : EvT X E a f) (h2 : EvW X E (.BoolOp .Or (b :: r) pos) g) : EvW X E (.BoolOp .Or (a :: b :: r) pos) (mOr f g) := by
  obtain ⟨t, pt, qt⟩ := h
  obtain ⟨u, pu, qu⟩ := h2
  refine ⟨_, pw_or pt pu, fun B ts σ ρ F H Q hl w h => qt B ts σ ρ F H _ hl w ?_⟩
  unfold mOr Rs.bd at h
  cases e : f ρ with
  | bad => rw [e] at h; exact h.elim
  | ex x ρ1 => rw [e] at h; exact h
  | ok b ρ1 =>
    rw [e] at h
    simp only at h
    intro hl1 F1 H1 w1
    cases b with
    | true => exact h hl1 F1 H1 w1
    | false => exact qu B ts σ ρ1 F1 H1 _ hl1 w1 h
theorem et_bool {e : Expr} {f : M Bool} (h : EvW X E e f) : EvT X E e f := by
  obtain ⟨t, pt, qt⟩ := h
  exact ⟨_, pt.pt, qt⟩
/-! .. as values: all operands truths -/
def mVal (f : M Bool) : M Sl := fun ρ => (f ρ).bd fun b ρ1 => .ok (.val (.bool b)) ρ1
theorem ev_one_bool {op} {a : Expr} {f : M Sl} {pos : Pos} (h : Ev X E a f) : Ev X E (.BoolOp op [a] pos) f := by
  obtain ⟨t, pt, qt⟩ := h
  exact ⟨_, pe_one pt, qt⟩
def mAndV (f g : M Sl) : M Sl := fun ρ => (tst (f ρ)).bd fun b ρ1 => if b = true then g ρ1 else .ok (.val (.bool false)) ρ1
def mOrV (f g : M Sl) : M Sl := fun ρ => (tst (f ρ)).bd fun b ρ1 => if b = true then .ok (.val (.bool true)) ρ1 else g ρ1
theorem ev_and {a b : Expr} {r : List Expr} {f g : M Sl} {pos : Pos} (h : Ev X E a f) (h2 : Ev X E (.BoolOp .And (b :: r) pos) g) : Ev X E (.BoolOp .And (a :: b :: r) pos) (mAndV f g) := by
  obtain ⟨t, pt, qt⟩ := h
  obtain ⟨u, pu, qu⟩ := h2
  refine ⟨_, pe_and pt pu, fun B ts σ ρ F H Q hl w h => qt B ts σ ρ F H _ hl w (post_tst ?_)⟩
  unfold mAndV Rs.bd at h
  cases e : tst (f ρ) with
  | bad => rw [e] at h; exact h.elim
  | ex x ρ1 => rw [e] at h; exact h
  | ok b ρ1 =>
    rw [e] at h
    simp only at h
    intro hl1 F1 H1 w1
    cases b with
    | true => exact qu B ts σ ρ1 F1 H1 _ hl1 w1 h
    | false => exact h hl1 _ F1 H1 (w1.more (.bl _))
theorem ev_or {a b : Expr} {r : List Expr} {f g : M Sl} {pos : Pos} (h : Ev X E a f) (h2 : Ev X E (.BoolOp .Or (b :: r) pos) g) : Ev X E (.BoolOp .Or (a :: b :: r) pos) (mOrV f g) := by
  obtain ⟨t, pt, qt⟩ := h
  obtain ⟨u, pu, qu⟩ := h2
  refine ⟨_, pe_or pt pu, fun B ts σ ρ F H Q hl w h => qt B ts σ ρ F H _ hl w (post_tst ?_)⟩
  unfold mOrV Rs.bd at h
  cases e : tst (f ρ) with
  | bad => rw [e] at h; exact h.elim
  | ex x ρ1 => rw [e] at h; exact h
  | ok b ρ1 =>
    rw [e] at h
    simp only at h
    intro hl1 F1 H1 w1
    cases b with
    | true => exact h hl1 _ F1 H1 (w1.more (.bl _))
    | false => exact qu B ts σ ρ1 F1 H1 _ hl1 w1 h
def mNotV (f : M Sl) : M Sl := fun ρ => (tst (f ρ)).bd fun b ρ1 => .ok (.val (.bool (!b))) ρ1
theorem ev_not {a : Expr} {f : M Sl} {pos : Pos} (h : Ev X E a f) : Ev X E (.UnaryOp .Not a pos) (mNotV f) := by
  obtain ⟨t, pt, qt⟩ := h
  refine ⟨_, pe_not pt, fun B ts σ ρ F H Q hl w h => qt B ts σ ρ F H _ hl w (post_tst ?_)⟩
  unfold mNotV Rs.bd at h
  cases e : tst (f ρ) with
  | bad => rw [e] at h; exact h.elim
  | ex x ρ1 => rw [e] at h; exact h
  | ok b ρ1 =>
    rw [e] at h
    intro hl1 F1 H1 w1
    exact h hl1 _ F1 H1 (w1.more (.bl _))
def mIf {α : Type} (c : M Bool) (f g : M α) : M α := fun ρ => (c ρ).bd fun b ρ1 => if b = true then f ρ1 else g ρ1
theorem ev_if {c a b : Expr} {fc : M Bool} {f g : M Sl} {pos : Pos} (hc : EvT X E c fc) (h : Ev X E a f) (h2 : Ev X E b g) : Ev X E (.IfExp c a b pos) (mIf fc f g) := by
  obtain ⟨t0, p0, q0⟩ := hc
  obtain ⟨t, pt, qt⟩ := h
  obtain ⟨u, pu, qu⟩ := h2
  refine ⟨_, pe_ifExp p0 pt pu, fun B ts σ ρ F H Q hl w h => q0 B ts σ ρ F H _ hl w ?_⟩
  unfold mIf Rs.bd at h
  cases e : fc ρ with
  | bad => rw [e] at h; exact h.elim
  | ex x ρ1 => rw [e] at h; exact h
  | ok b ρ1 =>
    rw [e] at h
    simp only at h
    intro hl1 F1 H1 w1
    cases b with
    | true => exact qt B ts σ ρ1 F1 H1 _ hl1 w1 h
    | false => exact qu B ts σ ρ1 F1 H1 _ hl1 w1 h

/-! ### statements -/
theorem sb_nil {pn : List Nat} : SsB X E pn [] (fun ρ => .nx ρ) := ⟨_, pss_nil, fun B ts σ ρ F H D hl w h => h σ F H rfl hl (Pins.refl _ _) w⟩
/-- a statement's end, taken on -/
theorem SPost.bd {B : Bs} {ts : List Sv} {pn : List Nat} {σ σ1 : L2.St} {D D' : Ends} {m : So} (hp : Pins pn σ σ1) (hl : σ1.length = σ.length) (h : SPost X E B ts pn σ D m) (e1 : D'.rt = D.rt) (e2 : D'.bk = D.bk) (e3 : D'.ct = D.ct) (e4 : D'.nx = D.nx) : SPost X E B ts pn σ1 D' m := by
  cases m with
  | nx ρ => exact fun σ' F H a b p w => e4 ▸ h σ' F H (a.trans hl) b (hp.trans p) w
  | bk ρ => exact fun σ' F H a b p w => e2 ▸ h σ' F H (a.trans hl) b (hp.trans p) w
  | ct ρ => exact fun σ' F H a b p w => e3 ▸ h σ' F H (a.trans hl) b (hp.trans p) w
  | rt r ρ => exact fun v σ' F H a b p w => e1 ▸ h v σ' F H (a.trans hl) b (hp.trans p) w
  | ex e ρ => exact fun c dx σ' F H a b p w => h c dx σ' F H (a.trans hl) b (hp.trans p) w
  | bad => exact h
def mSeq (f g : Ms) : Ms := fun ρ => (f ρ).bd g
theorem sb_cons {pn : List Nat} {st : Stmt} {rest : List Stmt} {f g : Ms} (h1 : Ss X E pn st f) (h2 : SsB X E pn rest g) : SsB X E pn (st :: rest) (mSeq f g) := by
  obtain ⟨t, pt, qt⟩ := h1
  obtain ⟨u, pu, qu⟩ := h2
  refine ⟨_, pss_cons pt pu, fun B ts σ ρ F H D hl w h => qt B ts σ ρ F H _ hl w ?_⟩
  unfold mSeq So.bd at h
  cases e : f ρ with
  | nx ρ1 =>
    rw [e] at h
    intro σ1 F1 H1 a b p w1
    exact qu B ts σ1 ρ1 F1 H1 D b w1 (SPost.bd p a h rfl rfl rfl rfl)
  | bk ρ1 => rw [e] at h; exact h
  | ct ρ1 => rw [e] at h; exact h
  | rt r ρ1 => rw [e] at h; exact h
  | ex x ρ1 => rw [e] at h; exact h
  | bad => rw [e] at h; exact h
theorem sb_one {pn : List Nat} {st : Stmt} {f : Ms} (h1 : Ss X E pn st f) : SsB X E pn [st] f := by
  obtain ⟨t, pt, qt⟩ := h1
  exact ⟨_, pss_one pt, qt⟩
theorem ss_pass {pn : List Nat} {pos : Pos} : Ss X E pn (.Pass pos) (fun ρ => .nx ρ) := ⟨_, ps_pass, fun B ts σ ρ F H D hl w h => h σ F H rfl hl (Pins.refl _ _) w⟩
theorem ss_break {pn : List Nat} {pos : Pos} : Ss X E pn (.Break pos) (fun ρ => .bk ρ) := ⟨_, ps_break, fun B ts σ ρ F H D hl w h => h σ F H rfl hl (Pins.refl _ _) w⟩
theorem ss_continue {pn : List Nat} {pos : Pos} : Ss X E pn (.Continue pos) (fun ρ => .ct ρ) := ⟨_, ps_continue, fun B ts σ ρ F H D hl w h => h σ F H rfl hl (Pins.refl _ _) w⟩
def mSet (i : Nat) (f : M Sl) : Ms := fun ρ => (f ρ).st fun r ρ1 => .nx (ρ1.set i r)
def AsgEnds (D : Ends) (i : Nat) (σ : L2.St) : VK := fun x H1 => D.nx (σ.set i (some x)) H1
theorem post_set {B : Bs} {ts : List Sv} {pn : List Nat} {σ : L2.St} {i : Nat} {D : Ends} {m : Rs Sl} (hi : i ∉ pn) (h : SPost X E B ts pn σ D (m.st fun r ρ1 => .nx (ρ1.set i r))) : EPost X E B ts σ m (fun x H1 => D.nx (σ.set i (some x)) H1) := by
  cases m with
  | bad => exact h.elim
  | ex e ρ => exact fun hl c dx F H w q => h c dx σ F H rfl hl (Pins.refl _ _) w q
  | ok r ρ =>
    intro hl v F H w
    exact h _ F H (List.length_set) (by rw [List.length_set, List.length_set]; exact hl) (Pins.set hi) (W.store hl w)
theorem ss_set (i : Nat) {pn : List Nat} {x : Str} {e : Expr} {f : M Sl} {pos pos' : Pos} (h : Ev X E e f) (hN : X.N.Nodup) (hpn : i ∉ pn := by decide) (hi : X.N[i]? = some x := by rfl) (hx : Loc X.env.scope x := by first | exact .inl rfl | exact .inr rfl)
    (hs : swapsWith e (some (.Name x pos')) pos.line X.env = pure false := by rfl) (hf : X.fn x = true ∨ X.env.scope.names.lookup x = some .local := by first | exact .inl rfl | exact .inr rfl) : Ss X E pn (.Assign [.Name x pos'] e pos) (mSet i f) := by
  obtain ⟨t, pt, qt⟩ := h
  exact ⟨_, ps_set hN hi hx pt hs hf, fun B ts σ ρ F H D hl w h => qt B ts σ ρ F H _ hl w (post_set hpn h)⟩
def mRet (f : M Sl) : Ms := fun ρ => (f ρ).st fun r ρ1 => .rt r ρ1
theorem ss_ret {pn : List Nat} {e : Expr} {f : M Sl} {pos : Pos} (h : Ev X E e f) : Ss X E pn (.Return (some e) pos) (mRet f) := by
  obtain ⟨t, pt, qt⟩ := h
  refine ⟨_, ps_ret pt, fun B ts σ ρ F H D hl w h => qt B ts σ ρ F H _ hl w ?_⟩
  unfold mRet Rs.st at h
  cases e : f ρ with
  | bad => rw [e] at h; exact h.elim
  | ex x ρ1 => rw [e] at h; exact fun hl c dx F H w q => h c dx σ F H rfl hl (Pins.refl _ _) w q
  | ok r ρ1 => rw [e] at h; exact fun hl v F H w => h v σ F H rfl hl (Pins.refl _ _) w
theorem ss_retN {pn : List Nat} {pos : Pos} : Ss X E pn (.Return none pos) (fun ρ => .rt (.val .none) ρ) := ⟨_, ps_retN, fun B ts σ ρ F H D hl w h => h .non σ F H rfl hl (Pins.refl _ _) (w.more .non)⟩
def mDrop (f : M Sl) : Ms := fun ρ => (f ρ).st fun _ ρ1 => .nx ρ1
theorem ss_expr {pn : List Nat} {e : Expr} {f : M Sl} {pos : Pos} (h : Ev X E e f) (hs : swapsWith e none pos.line X.env = pure false := by rfl) : Ss X E pn (.Expr e pos) (mDrop f) := by
  obtain ⟨t, pt, qt⟩ := h
  refine ⟨_, ps_expr pt hs, fun B ts σ ρ F H D hl w h => qt B ts σ ρ F H _ hl w ?_⟩
  unfold mDrop Rs.st at h
  cases e : f ρ with
  | bad => rw [e] at h; exact h.elim
  | ex x ρ1 => rw [e] at h; exact fun hl c dx F H w q => h c dx σ F H rfl hl (Pins.refl _ _) w q
  | ok r ρ1 => rw [e] at h; exact fun hl v F H w => h σ F H rfl hl (Pins.refl _ _) w.tail
def mIfS (c : M Bool) (f g : Ms) : Ms := fun ρ => (c ρ).st fun b ρ1 => if b = true then f ρ1 else g ρ1
theorem ss_if {pn : List Nat} {c : Expr} {a b : List Stmt} {fc : M Bool} {f g : Ms} {pos : Pos} (hc : EvT X E c fc) (h : SsB X E pn a f) (h2 : SsB X E pn b g) : Ss X E pn (.If c a b pos) (mIfS fc f g) := by
  obtain ⟨t0, p0, q0⟩ := hc
  obtain ⟨t, pt, qt⟩ := h
  obtain ⟨u, pu, qu⟩ := h2
  refine ⟨_, ps_if p0 pt pu, fun B ts σ ρ F H D hl w h => q0 B ts σ ρ F H _ hl w ?_⟩
  unfold mIfS Rs.st at h
  cases e : fc ρ with
  | bad => rw [e] at h; exact h.elim
  | ex x ρ1 => rw [e] at h; exact fun hl c dx F H w q => h c dx σ F H rfl hl (Pins.refl _ _) w q
  | ok b ρ1 =>
    rw [e] at h
    simp only at h
    intro hl1 F1 H1 w1
    cases b with
    | true => exact qt B ts σ ρ1 F1 H1 D hl1 w1 h
    | false => exact qu B ts σ ρ1 F1 H1 D hl1 w1 h
/-- a text alone -/
theorem ss_doc {pn : List Nat} {x j pos pos'} : Ss X E pn (.Expr (.Constant (.str x) j pos) pos') (fun ρ => .nx ρ) := ⟨_, ps_doc, fun B ts σ ρ F H D hl w h => h σ F H rfl hl (Pins.refl _ _) w⟩

/-! ### targets -/
/-- tv: the slots that are stored -/
def Tg (X : Cx) (tv : List Nat) (tg : Expr) (k : Sl → Env → Option Env) : Prop := ∃ g, PG X tg g ∧ ∀ (B : Bs) (ts : List Sv) (σ : L2.St) (ρ ρ' : Env) (F H : Hp) (v : V) (r : Sl) (Q : L2.St → Hp → Prop), σ.length = ρ.length → W X.K X.mg B ((some v, r) :: (ts ++ zp σ ρ)) F H → k r ρ = some ρ' →
  (∀ σ' F' H', σ'.length = σ.length → σ'.length = ρ'.length → (∀ j, j ∉ tv → σ'[j]? = σ[j]?) → W X.K X.mg B (ts ++ zp σ' ρ') F' H' → Q σ' H') → g v σ H Q
def kName (i : Nat) : Sl → Env → Option Env := fun r ρ => some (ρ.set i r)
theorem tg_name (i : Nat) {x : Str} {pos : Pos} (hN : X.N.Nodup) (hi : X.N[i]? = some x := by rfl) (hx : Loc X.env.scope x := by first | exact .inl rfl | exact .inr rfl) (hf : X.fn x = true ∨ X.env.scope.names.lookup x = some .local := by first | exact .inl rfl | exact .inr rfl) : Tg X [i] (.Name x pos) (kName i) := by
  refine ⟨_, pg_name hN hi hx hf, fun B ts σ ρ ρ' F H v r Q hl w e q => ?_⟩
  cases e
  exact q _ F H (List.length_set) (by rw [List.length_set, List.length_set]; exact hl) (fun j hj => List.getElem?_set_ne (by rintro rfl; exact hj (by simp))) (W.store hl w)
def TgL (X : Cx) (tv : List Nat) (es : List Expr) (k : List D → Env → Option Env) : Prop := ∃ g, PGs X es g ∧ ∀ (B : Bs) (ts : List Sv) (σ : L2.St) (ρ ρ' : Env) (F H : Hp) (vs : List V) (ds : List D) (Q : L2.St → Hp → Prop), σ.length = ρ.length → vs.length = ds.length → W X.K X.mg B (mk vs (ds.map .val) ++ (ts ++ zp σ ρ)) F H → k ds ρ = some ρ' →
  (∀ σ' F' H', σ'.length = σ.length → σ'.length = ρ'.length → (∀ j, j ∉ tv → σ'[j]? = σ[j]?) → W X.K X.mg B (ts ++ zp σ' ρ') F' H' → Q σ' H') → g vs σ H Q
def kNil : List D → Env → Option Env
  | [], ρ => some ρ
  | _ :: _, _ => none
def kCons (k : Sl → Env → Option Env) (kr : List D → Env → Option Env) : List D → Env → Option Env
  | d :: ds, ρ => match k (.val d) ρ with
    | some ρ1 => kr ds ρ1
    | none => none
  | [], _ => none
theorem tgl_nil : TgL X [] [] kNil := by
  refine ⟨_, pgs_nil, fun B ts σ ρ ρ' F H vs ds Q hl hv w e q => ?_⟩
  cases ds with
  | cons _ _ => cases e
  | nil =>
    cases e
    have : vs = [] := List.length_eq_zero_iff.mp hv
    subst this
    exact ⟨rfl, q σ F H rfl hl (fun _ _ => rfl) w⟩
theorem tgl_cons {tv tw : List Nat} {e : Expr} {es : List Expr} {k : Sl → Env → Option Env} {kr : List D → Env → Option Env} (h1 : Tg X tv e k) (h2 : TgL X tw es kr) (hs : (assignEach (e :: es) X.env).map (·.2) = assign e X.env :: (assignEach es X.env).map (·.2) := by rfl) : TgL X (tv ++ tw) (e :: es) (kCons k kr) := by
  obtain ⟨g, pg, qg⟩ := h1
  obtain ⟨g', pg', qg'⟩ := h2
  refine ⟨_, pgs_cons pg pg' hs, fun B ts σ ρ ρ' F H vs ds Q hl hv w e q => ?_⟩
  match vs, ds, hv with
  | [], [], _ => cases e
  | v :: vs, d :: ds, hv =>
    simp only [kCons] at e
    cases e1 : k (.val d) ρ with
    | none => rw [e1] at e; cases e
    | some ρ1 =>
      rw [e1] at e
      simp only at e
      have w' : W X.K X.mg B ((some v, .val d) :: ((mk vs (ds.map .val) ++ ts) ++ zp σ ρ)) F H := by rw [List.append_assoc]; exact w
      refine ⟨v, vs, rfl, qg B (mk vs (ds.map .val) ++ ts) σ ρ ρ1 F H v (.val d) _ hl w' e1 fun σ1 F1 H1 a1 a2 a3 w1 => ?_⟩
      rw [List.append_assoc] at w1
      refine qg' B ts σ1 ρ1 ρ' F1 H1 vs ds Q a2 (by simpa using hv) w1 e fun σ2 F2 H2 b1 b2 b3 w2 => ?_
      exact q σ2 F2 H2 (b1.trans a1) b2 (fun j hj => (b3 j fun z => hj (List.mem_append_right _ z)).trans (a3 j fun z => hj (List.mem_append_left _ z))) w2
def kTup (n : Nat) (kr : List D → Env → Option Env) : Sl → Env → Option Env
  | .val (.tuple ds), ρ => if ds.length = n then kr ds ρ else none
  | _, _ => none
theorem tg_tup {tv : List Nat} {es : List Expr} {kk : Nat} {kr : List D → Env → Option Env} {n : Nat} {pos : Pos} (h : TgL X tv es kr) (hc : X.calm = true := by rfl) (hn : (assignEach es X.env).length = n := by rfl) (hst : (assignEach es X.env).findIdx? (·.1) = none := by rfl) : Tg X tv (.Tuple es kk pos) (kTup n kr) := by
  obtain ⟨g, pg, qg⟩ := h
  refine ⟨_, pg_tup hc pg hn hst, fun B ts σ ρ ρ' F H v r Q hl w e q => ?_⟩
  cases r with
  | val d =>
    cases d with
    | tuple ds =>
      simp only [kTup] at e
      by_cases hds : ds.length = n
      · rw [if_pos hds] at e
        cases W.val w with
        | tup h1 h2 =>
          rename_i a xs
          refine ⟨a, xs, rfl, Same.sqt w.fh h1, h2.length.trans hds, ?_⟩
          refine qg B ts σ ρ ρ' F H xs ds Q hl h2.length ?_ e q
          have go : ∀ {xs : List V} {ds : List D} {l : List Sv}, RpL X.K F xs ds → W X.K X.mg B l F H → W X.K X.mg B (mk xs (ds.map .val) ++ l) F H := by
            intro xs
            induction xs with
            | nil => intro ds l h w; cases h; exact w
            | cons x xs ih => intro ds l h w; cases h with | cons a b => exact (ih b w).more a
          exact go h2 w.tail
      · rw [if_neg hds] at e; cases e
    | _ => cases e
  | _ => cases e

/-! ### calls of own defs -/
def SpF (K : Fg) (mg : Str → Option Value) (n : Nat) (m : List Sl → Fo) : Sp := fun vs H Q E => vs.length = n ∧ ∃ F rs fp, rs.length = n ∧ Same F H ∧ SlRs K mg F H (mk vs rs) fp ∧ fp.Nodup ∧ (∀ a ∈ fp, F a = none ∧ H a ≠ none) ∧
  match m rs with
  | .rt r ps => ∀ v F' H', ps.length = n → W K mg ⟨F, H, fp⟩ ((some v, r) :: mk vs ps) F' H' → Q v H'
  | .ex e ps => ∀ c dx F' H', ps.length = n → W K mg ⟨F, H, fp⟩ (mk vs ps) F' H' → ExR K mg F' H' e c dx → E c dx H'
  | .bad => False
def putBack : List (Option Nat) → List Sl → Env → Env
  | some i :: mv, s :: ps, ρ => putBack mv ps (ρ.set i s)
  | none :: mv, _ :: ps, ρ => putBack mv ps ρ
  | _, _, ρ => ρ
def mCall (m : List Sl → Fo) (mv : List (Option Nat)) (fs : M (List Sl)) : M Sl := fun ρ => (fs ρ).bd fun rs ρ1 => match m rs with
  | .rt r ps => .ok r (putBack mv ps ρ1)
  | .ex e ps => .ex e (putBack mv ps ρ1)
  | .bad => .bad
theorem putBack_len : ∀ (mv : List (Option Nat)) (ps : List Sl) (ρ : Env), (putBack mv ps ρ).length = ρ.length
  | some i :: mv, s :: ps, ρ => by unfold putBack; rw [putBack_len mv ps]; exact List.length_set
  | none :: mv, _ :: ps, ρ => by unfold putBack; exact putBack_len mv ps ρ
  | [], _, ρ => by unfold putBack; rfl
  | some _ :: _, [], ρ => by unfold putBack; rfl
  | none :: _, [], ρ => by unfold putBack; rfl
theorem W.putBack {K : Fg} {mg : Str → Option Value} {B : Bs} {ts : List Sv} {σ : L2.St} {F H : Hp} : ∀ {mv : List (Option Nat)} {vs : List V} {ps : List Sl} {ρ : Env}, σ.length = ρ.length → vs.length = ps.length → mv.length = ps.length → (∀ (a i : Nat), mv[a]? = some (some i) → ∃ v : V, vs[a]? = some v ∧ σ[i]? = some (some v)) →
    W K mg B (Fx.mk vs ps ++ (ts ++ zp σ ρ)) F H → W K mg B (ts ++ zp σ (Fx.putBack mv ps ρ)) F H
  | [], [], [], ρ, _, _, _, _, w => by unfold Fx.putBack; exact w
  | none :: mv, v :: vs, s :: ps, ρ, hl, h1, h2, hp, w => by
    unfold Fx.putBack
    exact W.putBack (mv := mv) (vs := vs) (ps := ps) hl (by simpa using h1) (by simpa using h2) (fun a i e => hp (a + 1) i (by simpa using e)) w.tail
  | some i :: mv, v :: vs, s :: ps, ρ, hl, h1, h2, hp, w => by
    unfold Fx.putBack
    obtain ⟨v', e1, e2⟩ := hp 0 i rfl
    have : v = v' := by simpa using e1
    subst this
    refine W.putBack (mv := mv) (vs := vs) (ps := ps) (set_len hl) (by simpa using h1) (by simpa using h2) (fun a i e => hp (a + 1) i (by simpa using e)) ?_
    have w2 : W K mg B ((some v, s) :: ((Fx.mk vs ps ++ ts) ++ zp σ ρ)) F H := by rw [List.append_assoc]; exact w
    have w3 := W.back hl e2 w2
    rw [List.append_assoc] at w3
    exact w3
  | [], _ :: _, [], _, _, h, _, _, _ => by simp at h
  | [], [], _ :: _, _, _, h, _, _, _ => by simp at h
  | [], _ :: _, _ :: _, _, _, _, h, _, _ => by simp at h
  | _ :: _, [], _ :: _, _, _, h, _, _, _ => by simp at h
  | _ :: _, _, [], _, _, _, h, _, _ => by simp at h
theorem call_run {m : List Sl → Fo} {n : Nat} {t : TA} {mv : List (Option Nat)} {fs : M (List Sl)} (hm : ∀ rs, rs.length = n → match m rs with | .rt _ ps => ps.length = n | .ex _ ps => ps.length = n | .bad => True) (hn : mv.length = n)
    (qt : ∀ (B : Bs) (ts : List Sv) (σ : L2.St) (ρ : Env) (F H : Hp) (Q : List V → Hp → Prop), σ.length = ρ.length → WX X B (ts ++ zp σ ρ) F H → APost X E B ts σ mv (fs ρ) Q → t σ H Q) : Run X E (tCall (SpF X.K X.mg n m) [] E t) (mCall m mv fs) := by
  intro B ts σ ρ F H Q hl w h
  refine qt B ts σ ρ F H _ hl w ?_
  unfold mCall Rs.bd at h
  cases e1 : fs ρ with
  | bad => rw [e1] at h; exact h.elim
  | ex x ρ1 => rw [e1] at h; exact h
  | ok rs ρ1 =>
    rw [e1] at h
    simp only at h
    intro hl1 vs F1 H1 hvs hmv hp w1
    have hrs : rs.length = n := hmv.symm.trans hn
    have hvn : vs.length = n := hvs.trans hrs
    obtain ⟨fp, a, nd, hn', kk⟩ := W.frame w1
    have q := hm rs hrs
    rw [List.append_nil]
    refine ⟨hvn, F1, rs, fp, hrs, w1.fh, a, nd, hn', ?_⟩
    cases e2 : m rs with
    | bad => rw [e2] at h; exact h.elim
    | rt r ps =>
      rw [e2] at h q
      simp only at h q
      intro v F2 H2 _ w2
      have w3 := kk w2
      refine h (by rw [putBack_len]; exact hl1) v F2 H2 ?_
      have w4 : W X.K X.mg B (mk vs ps ++ ((some v, r) :: ts ++ zp σ ρ1)) F2 H2 := by
        refine w3.perm ?_
        show List.Perm ((some v, r) :: (mk vs ps ++ (ts ++ zp σ ρ1))) _
        exact List.perm_middle.symm
      exact W.putBack hl1 (hvn.trans q.symm) (hn.trans q.symm) hp w4
    | ex e ps =>
      rw [e2] at h q
      simp only at h q
      intro c dx F2 H2 _ w2 ee
      exact h (by rw [putBack_len]; exact hl1) c dx F2 H2 (W.putBack hl1 (hvn.trans q.symm) (hn.trans q.symm) hp (kk w2)) ee
end
end
end Fx

set_option Elab.async false
set_option linter.all false
set_option maxRecDepth 100000
namespace Fx
open PySem PySem.Spec PyProof.Rows L2
noncomputable section

section
variable {X : Cx} {E : XK}
theorem passN {E : XK} : Passes CX0 X E := fun _ _ _ _ _ _ _ h => h.elim
/-! ### a call of an own def -/
theorem ev_call {CX : CXT} {k n : Nat} {f : Addr} {fd : FuncData} {ps : List Str} {m : List Sl → Fo} {x : Str} {p pos : Pos} {e : Expr} {es : List Expr} {mv : List (Option Nat)} {fs : M (List Sl)}
    (F : FnOk X.prog X.w X.K X.mg X.base CX k f fd ps (SpF X.K X.mg n m)) (hr : Room k X.A) (hmm : ∀ rs, rs.length = n → match m rs with | .rt _ ps => ps.length = n | .ex _ ps => ps.length = n | .bad => True)
    (hm : X.mg x = some (.ref f)) (hk : PySem.W.keepIn X.K (.ref f) = true) (hb : Binds X.K fd ps []) (hx : Passes CX X E) (ha : EvA X E (e :: es) mv fs) (hn : mv.length = n := by rfl) (hg : Gl X x := by rfl)
    (hdb : (x == ("__debug__" : Str)) = false := by decide) (he : starEach (e :: es) X.env = (false, eval e X.env) :: starEach es X.env := by rfl) (hpl : (backTo pos (starEach es X.env)).any (·.1) = false := by rfl) :
    Ev X E (.Call (.Name x p) (e :: es) [] pos) (mCall m mv fs) := by
  obtain ⟨t, pt, qt⟩ := ha
  exact ⟨_, pe_call F hr hg hm hk hb .nil hx pt hdb he hpl, call_run hmm hn qt⟩

/-! ### a def's body -/
/-- some slots forgotten -/
inductive Wk : List Sv → List Sv → Prop
  | nil : Wk [] []
  | same {x : Sv} {l m : List Sv} : Wk l m → Wk (x :: l) (x :: m)
  | und {x : Sv} {o : Option V} {l m : List Sv} : Wk l m → Wk (x :: l) ((o, .und) :: m)
theorem Wk.refl : ∀ l : List Sv, Wk l l
  | [] => .nil
  | _ :: l => .same (Wk.refl l)
theorem Wk.app : ∀ {a b c d : List Sv}, Wk a b → Wk c d → Wk (a ++ c) (b ++ d)
  | _, _, _, _, .nil, h => h
  | _, _, _, _, .same a, h => .same (Wk.app a h)
  | _, _, _, _, .und a, h => .und (Wk.app a h)
theorem Wk.sl {K : Fg} {mg : Str → Option Value} {F H : Hp} : ∀ {l m : List Sv} {fp : List Addr}, Wk l m → SlRs K mg F H l fp → ∃ fq, SlRs K mg F H m fq ∧ fq.Sublist fp
  | _, _, _, .nil, h => ⟨_, h, .refl _⟩
  | _, _, _, .same a, .cons h t => by
    obtain ⟨fq, b, c⟩ := a.sl t
    exact ⟨_, .cons h b, List.Sublist.append (.refl _) c⟩
  | _, _, _, .und a, .cons h t => by
    obtain ⟨fq, b, c⟩ := a.sl t
    exact ⟨_, .cons (fp := []) .und b, c.trans (List.sublist_append_right _ _)⟩
theorem W.wk {K : Fg} {mg : Str → Option Value} {B : Bs} {l m : List Sv} {F H : Hp} (w : W K mg B l F H) (k : Wk l m) : W K mg B m F H := by
  obtain ⟨fp, a, b, c⟩ := w.sl
  obtain ⟨fq, a', q⟩ := k.sl a
  exact ⟨w.fh, w.f0, w.nw, w.fr, w.gr, fq, a', b.sublist q, fun x hx => c x (q.subset hx)⟩
/-- by places -/
theorem Wk.zip : ∀ {σ σ' : L2.St} {ρ ρ' : Env}, σ.length = ρ.length → σ'.length = σ.length → ρ'.length = ρ.length → (∀ i : Nat, ρ'[i]? = some .und ∨ (σ'[i]? = σ[i]? ∧ ρ'[i]? = ρ[i]?)) → Wk (zp σ ρ) (zp σ' ρ')
  | [], [], [], [], _, _, _, _ => .nil
  | o :: σ, o' :: σ', r :: ρ, r' :: ρ', h1, h2, h3, h => by
    have t := Wk.zip (σ := σ) (σ' := σ') (ρ := ρ) (ρ' := ρ') (by simpa using h1) (by simpa using h2) (by simpa using h3) fun i => by simpa using h (i + 1)
    rcases h 0 with e | ⟨e1, e2⟩
    · have : r' = .und := by simpa using e
      subst this
      exact .und t
    · have e1' : o' = o := by simpa using e1
      have e2' : r' = r := by simpa using e2
      subst e1' e2'
      exact .same t
  | [], _ :: _, _, _, _, h, _, _ => by simp at h
  | _ :: _, [], _, _, _, h, _, _ => by simp at h
  | [], _, _ :: _, _, h, _, _, _ => by simp at h
  | _ :: _, _, [], _, h, _, _, _ => by simp at h
  | _, _, [], _ :: _, _, _, h, _ => by simp at h
  | _, _, _ :: _, [], _, _, h, _ => by simp at h
/-- what the parameters' objects hold at the end -/
def backP (pn : List Nat) : Nat → Nat → Env → List Sl
  | _, 0, _ => []
  | i, n + 1, s :: ρ => (if i ∈ pn then s else .und) :: backP pn (i + 1) n ρ
  | i, n + 1, [] => .und :: backP pn (i + 1) n []
theorem backP_len (pn : List Nat) : ∀ (n i : Nat) (ρ : Env), (backP pn i n ρ).length = n
  | 0, _, _ => rfl
  | n + 1, i, s :: ρ => congrArg (· + 1) (backP_len pn n (i + 1) ρ)
  | n + 1, i, [] => congrArg (· + 1) (backP_len pn n (i + 1) [])
theorem wk_back {pn : List Nat} : ∀ {vs : List V} {σ : L2.St} {ρ : Env} {i : Nat}, vs.length ≤ σ.length → σ.length = ρ.length → (∀ (j : Nat) (v : V), vs[j]? = some v → i + j ∈ pn → σ[j]? = some (some v)) → ∃ l, Wk (zp σ ρ) (mk vs (backP pn i vs.length ρ) ++ l)
  | [], σ, ρ, i, _, _, _ => ⟨zp σ ρ, Wk.refl _⟩
  | v :: vs, o :: σ, r :: ρ, i, h1, h2, h => by
    obtain ⟨l, t⟩ := wk_back (vs := vs) (σ := σ) (ρ := ρ) (i := i + 1) (by simpa using h1) (by simpa using h2) fun j u e q => by
      have := h (j + 1) u (by simpa using e) (by rw [show i + (j + 1) = i + 1 + j by omega]; exact q)
      simpa using this
    refine ⟨l, ?_⟩
    show Wk ((o, r) :: zp σ ρ) ((some v, if i ∈ pn then r else .und) :: (mk vs (backP pn (i + 1) vs.length ρ) ++ l))
    by_cases hi : i ∈ pn
    · rw [if_pos hi]
      have : o = some v := by simpa using h 0 v rfl (by simpa using hi)
      subst this
      exact .same t
    · rw [if_neg hi]; exact .und t
  | v :: vs, [], _, _, h, _, _ => by simp at h
  | v :: vs, _ :: _, [], _, _, h, _ => by simp at h
def mFn (nN n : Nat) (pn : List Nat) (g : Ms) : List Sl → Fo := fun rs => match g (rs ++ List.replicate (nN - n) .und) with
  | .nx ρ => .rt (.val .none) (backP pn 0 n ρ)
  | .rt r ρ => .rt r (backP pn 0 n ρ)
  | .ex e ρ => .ex e (backP pn 0 n ρ)
  | .bk _ => .bad
  | .ct _ => .bad
  | .bad => .bad
theorem mFn_len {nN n : Nat} {pn : List Nat} {g : Ms} (rs : List Sl) (_ : rs.length = n) : match mFn nN n pn g rs with | .rt _ ps => ps.length = n | .ex _ ps => ps.length = n | .bad => True := by
  unfold mFn
  cases g (rs ++ List.replicate (nN - n) .und) <;> simp only [backP_len]
theorem start_back {K : Fg} {mg : Str → Option Value} {N : List Str} {vs : List V} {n : Nat} {pn : List Nat} {σ' : L2.St} {ρ : Env} {B : Bs} {F H : Hp} {ts : List Sv} (hn : vs.length = n) (hpn : ∀ i ∈ pn, i < n) (hN : n ≤ N.length) (hl : σ'.length = (L2.start N vs).length) (hl2 : σ'.length = ρ.length)
    (p : Pins pn (L2.start N vs) σ') (w : W K mg B (ts ++ zp σ' ρ) F H) : W K mg B (ts ++ mk vs (backP pn 0 n ρ)) F H := by
  have e : (L2.start N vs).length = N.length := by unfold L2.start; rw [List.length_append, List.length_map, List.length_replicate]; omega
  obtain ⟨l, k⟩ := wk_back (pn := pn) (vs := vs) (σ := σ') (ρ := ρ) (i := 0) (by omega) hl2 fun j v e1 e2 => by
    have e2' : j ∈ pn := by simpa using e2
    rw [p j e2']
    unfold L2.start
    rw [List.getElem?_append_left (by rw [List.length_map]; exact (List.getElem?_eq_some_iff.mp e1).1), List.getElem?_map, e1]
    rfl
  have w2 := w.wk (Wk.app (Wk.refl ts) k)
  rw [← List.append_assoc, hn] at w2
  have w3 : W K mg B (l ++ (ts ++ mk vs (backP pn 0 n ρ))) F H := w2.perm List.perm_append_comm
  exact w3.drop
theorem start_zp {N : List Str} {vs : List V} {rs : List Sl} {n : Nat} (hv : vs.length = n) (hr : rs.length = n) : zp (L2.start N vs) (rs ++ List.replicate (N.length - n) Sl.und) = mk vs rs ++ List.replicate (N.length - n) (none, Sl.und) := by
  unfold L2.start
  rw [hv]
  show (vs.map some ++ List.replicate (N.length - n) none).zip (rs ++ List.replicate (N.length - n) Sl.und) = _
  rw [List.zip_append (by rw [List.length_map]; omega), List.zip_replicate, Nat.min_self]
theorem slRs_und {K : Fg} {mg : Str → Option Value} {F H : Hp} {o : Option V} : ∀ k : Nat, SlRs K mg F H (List.replicate k (o, .und)) []
  | 0 => .nil
  | k + 1 => .cons (fp := []) .und (slRs_und k)
section
variable {P : Program} {w : World} {K : Fg} {mg : Str → Option Value} {base : Heap}
theorem fn_ok {x qual : Str} {st : Stmt} {f : Addr} {fd : FuncData} {N ps : List Str} {k : Nat} {pn : List Nat} {g : Ms} (F : Fun K x qual st f fd) (S : FnScope N ps (defScope st)) (hpn : ∀ i ∈ pn, i < ps.length := by decide) (hN : ps.length ≤ N.length := by decide)
    (hb : ∀ (cdv : Value) (A : Around) (outer : List PySem.Env) (s : Shared) (H : Hp) (E : XK), Room k (A.deeper (envOfC qual (defScope st) s.heap.objs.size f cdv)) →
      SsB (cxOf CX0 P w K mg base N qual (defScope st) f cdv A outer s H E).nox E pn (defBody st) g) : FnOk P w K mg base CX0 (k + 1) f fd ps (SpF K mg ps.length (mFn N.length ps.length pn g)) := by
  refine F.ok S (fun vs H Q E h => h.1) fun cdv A outer s H vs Q E hr h => ?_
  obtain ⟨t, pt, qt⟩ := hb cdv A outer s H E hr
  refine ⟨t, pt, ?_⟩
  obtain ⟨hv, F0, rs, fp, hrs, fh, a, nd, hn, h⟩ := h
  have ew := start_zp (N := N) hv hrs
  have w0 : W K mg ⟨F0, H, fp⟩ (zp (L2.start N vs) (rs ++ List.replicate (N.length - ps.length) .und)) F0 H := by
    rw [ew]
    refine W.start fh ?_ nd hn
    have := a.app (slRs_und (K := K) (mg := mg) (F := F0) (H := H) (o := none) (N.length - ps.length))
    rw [List.append_nil] at this
    exact this
  have hl : (L2.start N vs).length = (rs ++ List.replicate (N.length - ps.length) Sl.und).length := by
    unfold L2.start
    rw [List.length_append, List.length_append, List.length_map, List.length_replicate, List.length_replicate]; omega
  refine qt ⟨F0, H, fp⟩ [] (L2.start N vs) _ F0 H _ hl w0 ?_
  unfold mFn at h
  cases e : g (rs ++ List.replicate (N.length - ps.length) .und) with
  | nx ρ =>
    rw [e] at h
    intro σ' F' H' h1 h2 p w1
    exact h .non F' H' (backP_len ..) (W.more (start_back hv hpn hN h1 h2 p w1) .non)
  | rt r ρ =>
    rw [e] at h
    intro v σ' F' H' h1 h2 p w1
    exact h v F' H' (backP_len ..) (start_back (ts := [(some v, r)]) hv hpn hN h1 h2 p w1)
  | ex x ρ =>
    rw [e] at h
    intro c dx σ' F' H' h1 h2 p w1 q
    exact h c dx F' H' (backP_len ..) (start_back (ts := []) hv hpn hN h1 h2 p w1) q
  | bk ρ => rw [e] at h; exact h.elim
  | ct ρ => rw [e] at h; exact h.elim
  | bad => rw [e] at h; exact h.elim
theorem fn_mk {x qual : Str} {st : Stmt} {f : Addr} {fd : FuncData} {N ps : List Str} {k nN n : Nat} {pn : List Nat} {g : Ms} (F : Fun K x qual st f fd) (S : FnScope N ps (defScope st)) (hN' : N.length = nN) (hn' : ps.length = n) (hpn : ∀ i ∈ pn, i < n) (hN : n ≤ nN)
    (hb : ∀ (cdv : Value) (A : Around) (outer : List PySem.Env) (s : Shared) (H : Hp) (E : XK), Room k (A.deeper (envOfC qual (defScope st) s.heap.objs.size f cdv)) →
      SsB (cxOf CX0 P w K mg base N qual (defScope st) f cdv A outer s H E).nox E pn (defBody st) g) : FnOk P w K mg base CX0 (k + 1) f fd ps (SpF K mg n (mFn nN n pn g)) := by
  subst hN' hn'
  exact fn_ok F S hpn hN hb
end

/-! ### what is walked -/
/-- J yields the data ds, one after another, while the slots at tmp stand -/
def Feed (X : Cx) (J : It) (ds : List D) (tmp : List Sv) : Prop := ∀ (i : Nat) (B : Bs) (l : List Sv) (F H : Hp), W X.K X.mg B (tmp ++ l) F H →
  (∀ d, ds[i]? = some d → J.go i H ∧ ∀ x H', J.yld i H x H' → ∃ F', W X.K X.mg B ((some x, .val d) :: (tmp ++ l)) F' H') ∧ (ds.length ≤ i → J.stop i H)
def IPost (X : Cx) (E : XK) (B : Bs) (ts : List Sv) (σ : L2.St) (m : Rs (List D)) (R : It → Hp → Prop) : Prop := match m with
  | .ok ds ρ => σ.length = ρ.length → ∀ J tmp F H, WX X B (tmp ++ (ts ++ zp σ ρ)) F H → Feed X J ds tmp → R J H
  | .ex e ρ => σ.length = ρ.length → ∀ c dx F H, WX X B (ts ++ zp σ ρ) F H → ExR X.K X.mg F H e c dx → E c dx H
  | .bad => False
def EvI (X : Cx) (E : XK) (tg iter : Expr) (f : M (List D)) : Prop := ∃ wi, PI X tg iter wi ∧ ∀ (B : Bs) (ts : List Sv) (σ : L2.St) (ρ : Env) (F H : Hp) (R : It → Hp → Prop), σ.length = ρ.length → WX X B (ts ++ zp σ ρ) F H → IPost X E B ts σ (f ρ) R → wi σ H R
/-- a list or a tuple -/
def iSeq (K : Fg) (tl : TE) : TI := fun σ H R => tl σ H fun x H1 => ∃ a, x = .ref a ∧ (((∃ xs, SqL K H1 a xs) ∧ R (Itl K a) H1) ∨ ((∃ xs, SqT K H1 a xs) ∧ R (Itt K a) H1))
theorem pi_seq {tg l : Expr} {tl : TE} (hl : PE X l tl) : PI X tg l (iSeq X.K tl) := by
  refine ⟨fun pins s σ H R I h => ?_⟩
  refine thn (hl.run pins s σ H _ I h) fun v s1 ⟨x, H1, I1, r1, q1⟩ => ?_
  obtain ⟨a, e, q⟩ := q1
  subst e
  cases r1
  rcases q with ⟨⟨xs, hq⟩, q⟩ | ⟨⟨xs, hq⟩, q⟩
  · obtain ⟨its, rv, p, hz⟩ := I1.list hq
    refine wpAny_pyIter_list p.isList ?_
    refine ⟨s1.heap.objs.size, [s1.heap.objs.size], _, _, H1, rfl, I1.kept (t' := s1.toks) fun b o e => Heap.get?_push_of_some _ e, turn_list a _, ⟨_, Heap.get?_push_size _ rfl, rfl, rfl⟩, fun b hb => ?_, q⟩
    have e : b = s1.heap.objs.size := by simpa using hb
    subst e
    exact I1.fpOk (Nat.le_refl _) (I1.hok.fresh (Nat.le_refl _))
  · obtain ⟨its, rv, p, hz⟩ := I1.tuple hq
    refine wpAny_pyIter_tuple (show s1.heap.IsTuple a its.toArray from p) ?_
    refine ⟨s1.heap.objs.size, [s1.heap.objs.size], _, _, H1, rfl, I1.kept (t' := s1.toks) fun b o e => Heap.get?_push_of_some _ e, turn_tuple a _, ⟨_, Heap.get?_push_size _ rfl, rfl, rfl⟩, fun b hb => ?_, q⟩
    have e : b = s1.heap.objs.size := by simpa using hb
    subst e
    exact I1.fpOk (Nat.le_refl _) (I1.hok.fresh (Nat.le_refl _))
def D.seq? : D → Option (List D)
  | .list ds => some ds
  | .tuple ds => some ds
  | _ => none
def mSeqI (f : M Sl) : M (List D) := fun ρ => (f ρ).bd fun r ρ1 => match r.d? with
  | some d => match D.seq? d with
    | some ds => .ok ds ρ1
    | none => .bad
  | none => .bad
theorem W.rp {K : Fg} {mg : Str → Option Value} {B : Bs} {m : List Sv} {F H : Hp} {v : V} {d : D} (w : W K mg B ((some v, .val d) :: m) F H) : Rp K F v d := w.val
theorem feed_list {a : Addr} {ds : List D} : Feed X (Itl X.K a) ds [(some (.ref a), .val (.list ds))] := by
  intro i B l F H w
  cases W.val w with
  | lst h r =>
    rename_i xs
    have q : SqL X.K H a xs := SqL.of (w.fh _ _ h)
    refine ⟨fun d hd => ?_, fun hi => ⟨xs, q, by rw [r.length]; exact hi⟩⟩
    obtain ⟨v, e1, e2⟩ := r.get hd
    refine ⟨⟨xs, v, q, e1⟩, fun x H' hy => ?_⟩
    obtain ⟨rfl, hy⟩ := hy
    have : v = x := Option.some.inj (e1.symm.trans (hy xs q))
    subst this
    exact ⟨F, w.more e2⟩
theorem feed_tup {a : Addr} {ds : List D} : Feed X (Itt X.K a) ds [(some (.ref a), .val (.tuple ds))] := by
  intro i B l F H w
  cases W.val w with
  | tup h r =>
    rename_i xs
    have q : SqT X.K H a xs := Same.sqt w.fh h
    refine ⟨fun d hd => ?_, fun hi => ⟨xs, q, by rw [r.length]; exact hi⟩⟩
    obtain ⟨v, e1, e2⟩ := r.get hd
    refine ⟨⟨xs, v, q, e1⟩, fun x H' hy => ?_⟩
    obtain ⟨rfl, hy⟩ := hy
    have : v = x := Option.some.inj (e1.symm.trans (hy xs q))
    subst this
    exact ⟨F, w.more e2⟩
theorem ei_seq {tg e : Expr} {f : M Sl} (h : Ev X E e f) : EvI X E tg e (mSeqI f) := by
  obtain ⟨t, pt, qt⟩ := h
  refine ⟨_, pi_seq pt, fun B ts σ ρ F H R hl w h => qt B ts σ ρ F H _ hl w ?_⟩
  unfold mSeqI Rs.bd at h
  cases e1 : f ρ with
  | bad => rw [e1] at h; exact h.elim
  | ex x ρ1 => rw [e1] at h; exact h
  | ok r ρ1 =>
    rw [e1] at h
    simp only at h
    intro hl1 v F1 H1 w1
    cases e2 : r.d? with
    | none => rw [e2] at h; exact h.elim
    | some d =>
      rw [e2] at h
      simp only at h
      obtain ⟨F2, w2, s2⟩ := w1.freeze e2
      have rp := w2.val
      cases d with
      | list ds =>
        cases rp with
        | lst h1 h2 =>
          exact ⟨_, rfl, .inl ⟨⟨_, SqL.of (w2.fh _ _ h1)⟩, h hl1 _ [_] F2 H1 w2 feed_list⟩⟩
      | tuple ds =>
        cases rp with
        | tup h1 h2 =>
          exact ⟨_, rfl, .inr ⟨⟨_, Same.sqt w2.fh h1⟩, h hl1 _ [_] F2 H1 w2 feed_tup⟩⟩
      | _ => exact h.elim
/-- range -/
def rgOk (n : Int) : Bool := tru (-(2 ^ 62) ≤ n ∧ n < 2 ^ 62)
theorem rgOk_iff {n : Int} (h : rgOk n = true) : -(2 ^ 62) ≤ n ∧ n < 2 ^ 62 := tru_iff.mp h
def rgD (a b : Int) : List D := (List.range (b - a).toNat).map fun i => .int (a + (i : Nat))
theorem feed_range {lo : Int} {n : Nat} : Feed X (Itr lo n) ((List.range n).map fun i => .int (lo + (i : Nat))) [] := by
  intro i B l F H w
  refine ⟨fun d hd => ?_, fun hi => by rw [List.length_map, List.length_range] at hi; exact hi⟩
  have hi : i < n := by
    have := (List.getElem?_eq_some_iff.mp hd).1
    rw [List.length_map, List.length_range] at this
    exact this
  rw [List.getElem?_map, List.getElem?_range hi] at hd
  have hd' : PyData.int (lo + (i : Nat)) = d := Option.some.inj hd
  subst hd'
  refine ⟨hi, fun x H' hy => ?_⟩
  obtain ⟨rfl, rfl⟩ := hy
  exact ⟨F, w.more (.int _)⟩
def mRg1 (fs : M (List Sl)) : M (List D) := fun ρ => (fs ρ).bd fun rs ρ1 => match rs with
  | [.val (.int j)] => match rgOk j with
    | true => .ok ((List.range j.toNat).map fun i => .int (0 + (i : Nat))) ρ1
    | false => .bad
  | _ => .bad
def mRg2 (fs : M (List Sl)) : M (List D) := fun ρ => (fs ρ).bd fun rs ρ1 => match rs with
  | [.val (.int i), .val (.int j)] => match rgOk i, rgOk j with
    | true, true => .ok (rgD i j) ρ1
    | _, _ => .bad
  | _ => .bad
theorem ei_range1 {tg a : Expr} {mv : List (Option Nat)} {fs : M (List Sl)} {p pos : Pos} (hm : X.mg "range" = none) (ha : EvA X E [a] mv fs) (hg : Gl X "range" := by rfl) (hs : starEach [a] X.env = [(false, eval a X.env)] := by rfl) : EvI X E tg (.Call (.Name "range" p) [a] [] pos) (mRg1 fs) := by
  obtain ⟨t, pt, qt⟩ := ha
  refine ⟨_, pi_range1 hg hm pt hs, fun B ts σ ρ F H R hl w h => qt B ts σ ρ F H _ hl w ?_⟩
  unfold mRg1 Rs.bd at h
  cases e1 : fs ρ with
  | bad => rw [e1] at h; exact h.elim
  | ex x ρ1 => rw [e1] at h; exact h
  | ok rs ρ1 =>
    rw [e1] at h
    simp only at h
    intro hl1 vs F1 H1 hvs hmv hp w1
    split at h
    · rename_i j
      cases e3 : rgOk j with
      | false => rw [e3] at h; exact h.elim
      | true =>
        rw [e3] at h
        match vs, hvs with
        | [v], _ =>
          have hv := W.val w1
          cases hv
          obtain ⟨q1, q2⟩ := rgOk_iff e3
          exact ⟨j, rfl, q1, q2, h hl1 _ [] F1 H1 (W.tail w1) feed_range⟩
    · exact h.elim
theorem ei_range2 {tg a b : Expr} {mv : List (Option Nat)} {fs : M (List Sl)} {p pos : Pos} (hm : X.mg "range" = none) (ha : EvA X E [a, b] mv fs) (hg : Gl X "range" := by rfl) (hs : starEach [a, b] X.env = [(false, eval a X.env), (false, eval b X.env)] := by rfl) (hs2 : starEach [b] X.env = [(false, eval b X.env)] := by rfl) :
    EvI X E tg (.Call (.Name "range" p) [a, b] [] pos) (mRg2 fs) := by
  obtain ⟨t, pt, qt⟩ := ha
  refine ⟨_, pi_range2 hg hm pt hs hs2, fun B ts σ ρ F H R hl w h => qt B ts σ ρ F H _ hl w ?_⟩
  unfold mRg2 Rs.bd at h
  cases e1 : fs ρ with
  | bad => rw [e1] at h; exact h.elim
  | ex x ρ1 => rw [e1] at h; exact h
  | ok rs ρ1 =>
    rw [e1] at h
    simp only at h
    intro hl1 vs F1 H1 hvs hmv hp w1
    split at h
    · rename_i i j
      split at h
      · rename_i e3 e4
        match vs, hvs with
        | [v, u], _ =>
          have hv := W.val w1
          have w2 := W.tail w1
          have hu := W.val w2
          cases hv
          cases hu
          obtain ⟨q1, q2⟩ := rgOk_iff e3
          obtain ⟨q3, q4⟩ := rgOk_iff e4
          exact ⟨i, j, rfl, ⟨q1, q2, q3, q4⟩, h hl1 _ [] F1 H1 (W.tail w2) feed_range⟩
      · exact h.elim
    · exact h.elim

/-! ### for -/
def loopM (k : Sl → Env → Option Env) (body : Ms) : List D → Ms
  | [], ρ => .nx ρ
  | d :: ds, ρ => match k (.val d) ρ with
    | none => .bad
    | some ρ1 => match body ρ1 with
      | .nx ρ2 => loopM k body ds ρ2
      | .ct ρ2 => loopM k body ds ρ2
      | .bk ρ2 => .nx ρ2
      | .rt r ρ2 => .rt r ρ2
      | .ex e ρ2 => .ex e ρ2
      | .bad => .bad
def mFor (fi : M (List D)) (k : Sl → Env → Option Env) (body : Ms) : Ms := fun ρ => (fi ρ).st (loopM k body)
theorem ss_for {pn tv : List Nat} {tg iter : Expr} {body : List Stmt} {fi : M (List D)} {k : Sl → Env → Option Env} {g : Ms} {pos : Pos} (hp : PassesOwn (model X.prog X.w) X.A X.env X.xe) (hi : EvI X E tg iter fi) (hg : Tg X tv tg k) (hb : SsB X E pn body g) (htv : ∀ i ∈ pn, i ∉ tv := by decide) (hc : X.calm = true := by rfl)
    (hs : ∀ x, foldedSetIterable iter X.env x = pure x := by intro _; rfl) : Ss X E pn (.For tg iter body [] pos) (mFor fi k g) := by
  obtain ⟨wi, pi, qi⟩ := hi
  obtain ⟨tg', pg, qg⟩ := hg
  obtain ⟨tb, pb, qb⟩ := hb
  refine ⟨_, ps_for hp hc pi pg pb hs, fun B ts σ ρ F H D hl w h => qi B ts σ ρ F H _ hl w ?_⟩
  unfold mFor Rs.st at h
  cases e1 : fi ρ with
  | bad => rw [e1] at h; exact h.elim
  | ex x ρ1 => rw [e1] at h; exact fun hl c dx F H w q => h c dx σ F H rfl hl (Pins.refl _ _) w q
  | ok ds ρ1 =>
    rw [e1] at h
    simp only at h
    intro hl1 J tmp F1 H1 w1 fd
    refine ⟨fun i m σ' H' => ∃ ρ' F', m = ds.length - i ∧ i ≤ ds.length ∧ σ'.length = σ.length ∧ σ'.length = ρ'.length ∧ Pins pn σ σ' ∧ WX X B (tmp ++ (ts ++ zp σ' ρ')) F' H' ∧ SPost X E B ts pn σ D (loopM k g (ds.drop i) ρ'),
      ⟨ds.length, ρ1, F1, rfl, Nat.zero_le _, rfl, hl1, Pins.refl _ _, w1, h⟩, ?_⟩
    rintro i m σ' H' ⟨ρ', F', rfl, hi, hl2, hl3, hp', w', h'⟩
    obtain ⟨f1, f2⟩ := fd i B _ F' H' w'
    by_cases hlt : i < ds.length
    · have ed : ds.drop i = ds[i] :: ds.drop (i + 1) := List.drop_eq_getElem_cons hlt
      rw [ed] at h'
      unfold loopM at h'
      obtain ⟨g1, g2⟩ := f1 ds[i] (List.getElem?_eq_getElem hlt)
      refine .inr ⟨g1, fun σ'' H'' => ∃ ρ'' F'', σ''.length = σ.length ∧ σ''.length = ρ''.length ∧ Pins pn σ σ'' ∧ WX X B (tmp ++ (ts ++ zp σ'' ρ'')) F'' H'' ∧ SPost X E B ts pn σ D (loopM k g (ds.drop (i + 1)) ρ''),
        fun σ'' H'' ⟨ρ'', F'', a1, a2, a3, a4, a6⟩ => ⟨ds.length - (i + 1), by omega, ρ'', F'', rfl, hlt, a1, a2, a3, a4, a6⟩, fun x H2 hy => ?_⟩
      obtain ⟨F2, w2⟩ := g2 x H2 hy
      cases ek : k (.val ds[i]) ρ' with
      | none => rw [ek] at h'; exact h'.elim
      | some ρ2 =>
        rw [ek] at h'
        simp only at h'
        rw [← List.append_assoc] at w2
        refine qg B (tmp ++ ts) σ' ρ' ρ2 F2 H2 x _ _ hl3 w2 ek fun σ3 F3 H3 b1 b2 b3' w3 => ?_
        have b3 : Pins pn σ' σ3 := fun j hj => b3' j (htv j hj)
        refine qb B (tmp ++ ts) σ3 ρ2 F3 H3 _ b2 w3 ?_
        have drp : ∀ {σ4 : L2.St} {ρ4 : Env} {F4 H4 : Hp}, WX X B ((tmp ++ ts) ++ zp σ4 ρ4) F4 H4 → WX X B (ts ++ zp σ4 ρ4) F4 H4 := fun {σ4 ρ4 F4 H4} w => by
          rw [List.append_assoc] at w
          exact w.drop
        cases eb : g ρ2 with
        | bad => rw [eb] at h'; exact h'.elim
        | nx ρ3 =>
          rw [eb] at h'
          exact fun σ4 F4 H4 c1 c2 c3 w4 => ⟨ρ3, F4, c1.trans (b1.trans hl2), c2, (hp'.trans b3).trans c3, by rw [← List.append_assoc]; exact w4, h'⟩
        | ct ρ3 =>
          rw [eb] at h'
          exact fun σ4 F4 H4 c1 c2 c3 w4 => ⟨ρ3, F4, c1.trans (b1.trans hl2), c2, (hp'.trans b3).trans c3, by rw [← List.append_assoc]; exact w4, h'⟩
        | bk ρ3 =>
          rw [eb] at h'
          exact fun σ4 F4 H4 c1 c2 c3 w4 => h' σ4 F4 H4 (c1.trans (b1.trans hl2)) c2 ((hp'.trans b3).trans c3) (drp w4)
        | rt r ρ3 =>
          rw [eb] at h'
          refine fun v σ4 F4 H4 c1 c2 c3 w4 => h' v σ4 F4 H4 (c1.trans (b1.trans hl2)) c2 ((hp'.trans b3).trans c3) ?_
          have w5 : WX X B (tmp ++ ((some v, r) :: (ts ++ zp σ4 ρ3))) F4 H4 := by
            refine w4.perm ?_
            rw [List.append_assoc]
            exact List.perm_middle.symm
          exact w5.drop
        | ex e ρ3 =>
          rw [eb] at h'
          exact fun c dx σ4 F4 H4 c1 c2 c3 w4 q => h' c dx σ4 F4 H4 (c1.trans (b1.trans hl2)) c2 ((hp'.trans b3).trans c3) (drp w4) q
    · have : i = ds.length := by omega
      subst this
      rw [List.drop_length] at h'
      unfold loopM at h'
      exact .inl ⟨f2 (Nat.le_refl _), h' σ' F' H' hl2 hl3 hp' w'.drop⟩

/-! ### comprehensions -/
def wipeS (ρ : Env) : List Nat → Env
  | [] => ρ
  | v :: vs => (wipeS ρ vs).set v .und
theorem wipeS_length (ρ : Env) : ∀ vs : List Nat, (wipeS ρ vs).length = ρ.length
  | [] => rfl
  | v :: vs => by unfold wipeS; rw [List.length_set, wipeS_length ρ vs]
theorem wipeS_at {ρ : Env} {i : Nat} : ∀ {vs : List Nat}, (i ∉ vs → (wipeS ρ vs)[i]? = ρ[i]?) ∧ (i ∈ vs → i < ρ.length → (wipeS ρ vs)[i]? = some .und)
  | [] => ⟨fun _ => rfl, fun h => by simp at h⟩
  | v :: vs => by
    obtain ⟨a, b⟩ := wipeS_at (ρ := ρ) (i := i) (vs := vs)
    unfold wipeS
    refine ⟨fun h => ?_, fun h hi => ?_⟩
    · rw [List.mem_cons, not_or] at h
      rw [List.getElem?_set_ne (fun e => h.1 e.symm)]
      exact a h.2
    · by_cases e : v = i
      · subst e; rw [List.getElem?_set_self (by rw [wipeS_length]; exact hi)]
      · rw [List.getElem?_set_ne e]
        exact b ((List.mem_cons.mp h).resolve_left fun z => e z.symm) hi
theorem wk_wipe {σ σ' : L2.St} {ρ : Env} {vs : List Nat} (hl : σ.length = ρ.length) (hl' : σ'.length = σ.length) (h : ∀ j, j ∉ vs → σ'[j]? = σ[j]?) : Wk (zp σ ρ) (zp σ' (wipeS ρ vs)) := by
  refine Wk.zip hl hl' (wipeS_length _ _) fun i => ?_
  by_cases hi : i ∈ vs
  · by_cases hlt : i < ρ.length
    · exact .inl (wipeS_at.2 hi hlt)
    · refine .inr ⟨?_, ?_⟩
      · rw [List.getElem?_eq_none (by omega), List.getElem?_eq_none (by omega)]
      · rw [List.getElem?_eq_none (by rw [wipeS_length]; omega), List.getElem?_eq_none (by omega)]
  · exact .inr ⟨h i hi, wipeS_at.1 hi⟩
theorem wipe_at {σ : L2.St} {i : Nat} : ∀ {vs : List Nat}, i ∈ vs → i < σ.length → (wipe σ vs)[i]? = some none
  | [], h, _ => by simp at h
  | v :: vs, h, hi => by
    unfold wipe
    by_cases e : v = i
    · subst e; rw [List.getElem?_set_self (by rw [wipe_length]; exact hi)]
    · rw [List.getElem?_set_ne e]
      exact wipe_at ((List.mem_cons.mp h).resolve_left fun z => e z.symm) hi
theorem wipe_eq {σ σ' : L2.St} {vs : List Nat} (hl : σ'.length = σ.length) (h : ∀ j, j ∉ vs → σ'[j]? = σ[j]?) : wipe σ' vs = wipe σ vs := by
  apply List.ext_getElem?
  intro i
  by_cases hi : i ∈ vs
  · by_cases hlt : i < σ.length
    · rw [wipe_at hi hlt, wipe_at hi (by omega)]
    · rw [List.getElem?_eq_none (by rw [wipe_length]; omega), List.getElem?_eq_none (by rw [wipe_length]; omega)]
  · rw [wipe_out hi, wipe_out hi, h i hi]
/-- the tests -/
def EvTs (X : Cx) (E : XK) (ifs : List Expr) (f : M Bool) : Prop := ∃ t, PTs X ifs t ∧ ∀ (B : Bs) (ts : List Sv) (σ : L2.St) (ρ : Env) (F H : Hp) (Q : Bool → Hp → Prop), σ.length = ρ.length → WX X B (ts ++ zp σ ρ) F H → TPost X E B ts σ (f ρ) Q → t σ H Q
def mYes : M Bool := fun ρ => .ok true ρ
theorem ets_nil : EvTs X E [] mYes := ⟨_, pts_nil, fun B ts σ ρ F H Q hl w h => h hl F H w⟩
theorem ets_one {c : Expr} {f : M Bool} (h : EvT X E c f) : EvTs X E [c] f := by
  obtain ⟨t, pt, qt⟩ := h
  exact ⟨_, pts_one pt, qt⟩
def compM (vs : List Nat) (k : Sl → Env → Option Env) (tt : M Bool) (fe : M Sl) : List D → List D → Env → Rs Sl
  | [], acc, ρ => .ok (.lst acc) ρ
  | d :: ds, acc, ρ => match k (.val d) ρ with
    | none => .bad
    | some ρ1 => match tt ρ1 with
      | .ok true ρ2 => match fe ρ2 with
        | .ok r ρ3 => match r.d? with
          | some y => match szOk (acc.length + 1) with
            | true => compM vs k tt fe ds (acc ++ [y]) (wipeS ρ3 vs)
            | false => .bad
          | none => .bad
        | _ => .bad
      | .ok false ρ2 => compM vs k tt fe ds acc (wipeS ρ2 vs)
      | _ => .bad
def mComp (vs : List Nat) (fi : M (List D)) (k : Sl → Env → Option Env) (tt : M Bool) (fe : M Sl) : M Sl := fun ρ => (fi ρ).bd fun ds ρ1 => compM vs k tt fe ds [] (wipeS ρ1 vs)
theorem W.app1 {K : Fg} {mg : Str → Option Value} {B : Bs} {m : List Sv} {F H : Hp} {p : Addr} {y : V} {d : D} {acc : List D} (w : W K mg B ((some y, .val d) :: (some (.ref p), .lst acc) :: m) F H) : ∃ vs, H p = some (.lst vs) ∧ vs.length = acc.length ∧ W K mg B ((some (.ref p), .lst (acc ++ [d])) :: m) F (upd H p (.lst (vs ++ [y]))) := by
  have r := w.val
  obtain ⟨q, vs, e, h, rp, n⟩ := w.tail.lst
  cases e
  refine ⟨vs, h, rp.length, ?_⟩
  exact w.tail.put (.lst h rp) (.lst upd_same (rp.app (.cons r .nil)))
abbrev Blk (X : Cx) (scope : Scope) (P : Cx → Prop) : Prop := ∀ (s : Shared) (H : Hp) (C : Addr) (cl : List (Str × Addr)) (fp : List Addr), P (X.blk s H scope (compEnvC scope cl C X.env) fp)
/-- a comprehension's reading, for pe_lc and ps_setLc alike -/
theorem comp_run {iter elt tg : Expr} {ifs : List Expr} {scope : Scope} {vs tv : List Nat} {fi : M (List D)} {k : Sl → Env → Option Env} {ft : M Bool} {fe : M Sl} (hi : EvI X E tg iter fi)
    (hg : Blk X scope fun Y => Tg Y tv tg k) (ht : Blk X scope fun Y => EvTs Y E0 ifs ft) (he : Blk X scope fun Y => Ev Y E0 elt fe) (htv : ∀ i ∈ tv, i ∈ vs) :
    ∃ wi g tt te, PI X tg iter wi ∧ (Blk X scope fun Y => PG Y tg g) ∧ (Blk X scope fun Y => PTs Y ifs tt) ∧ (Blk X scope fun Y => PE Y elt te) ∧ Run X E (tLc wi g tt te vs) (mComp vs fi k ft fe) := by
  obtain ⟨wi, pi, qi⟩ := hi
  refine ⟨wi, fun v σ H Q => ∀ s H' C cl fp, Classical.choose (hg s H' C cl fp) v σ H Q, fun σ H Q => ∀ s H' C cl fp, Classical.choose (ht s H' C cl fp) σ H Q, fun σ H Q => ∀ s H' C cl fp, Classical.choose (he s H' C cl fp) σ H Q, pi,
    fun s H' C cl fp => ⟨fun pins s1 σ H v u Q I r h => (Classical.choose_spec (hg s H' C cl fp)).1.run pins s1 σ H v u Q I r (h s H' C cl fp)⟩,
    fun s H' C cl fp => ⟨fun pins s1 σ H Q I h => (Classical.choose_spec (ht s H' C cl fp)).1.run pins s1 σ H Q I (h s H' C cl fp)⟩,
    fun s H' C cl fp => ⟨fun pins s1 σ H Q I h => (Classical.choose_spec (he s H' C cl fp)).1.run pins s1 σ H Q I (h s H' C cl fp)⟩, ?_⟩
  intro B ts σ ρ F H Q hl w h
  refine qi B ts σ ρ F H _ hl w ?_
  unfold mComp Rs.bd at h
  cases e1 : fi ρ with
  | bad => rw [e1] at h; exact h.elim
  | ex x ρ1 => rw [e1] at h; exact h
  | ok ds ρ1 =>
    rw [e1] at h
    simp only at h
    intro hl1 J tmp F1 H1 w1 fd N hN
    have back : ∀ {σ' : L2.St} {ρ' : Env} {acc : List D} {F' H' : Hp}, σ'.length = ρ'.length → σ'.length = σ.length → (∀ j, j ∉ vs → σ'[j]? = (wipe σ vs)[j]?) → WX X B ((some (.ref N), .lst acc) :: (tmp ++ (ts ++ zp σ' ρ'))) F' H' → WX X B ((some (.ref N), .lst acc) :: (tmp ++ (ts ++ zp (wipe σ vs) (wipeS ρ' vs)))) F' H' := fun h1 h2 h3 w => by
      refine w.wk (.same (Wk.app (Wk.refl _) (Wk.app (Wk.refl _) (wk_wipe h1 ?_ fun j hj => (h3 j hj).symm))))
      rw [wipe_length]; exact h2.symm
    have w0 : WX X B ((some (.ref N), .lst []) :: (tmp ++ (ts ++ zp σ ρ1))) F1 (upd H1 N (.lst [])) := W.new_lst w1 (ds := []) .nil hN
    refine ⟨fun i m H' => ∃ ρ' F' acc, m = ds.length - i ∧ i ≤ ds.length ∧ σ.length = ρ'.length ∧ (∀ j ∈ vs, j < ρ'.length → ρ'[j]? = some .und) ∧ WX X B ((some (.ref N), .lst acc) :: (tmp ++ (ts ++ zp (wipe σ vs) ρ'))) F' H' ∧ EPost X E B ts σ (compM vs k ft fe (ds.drop i) acc ρ') Q,
      ⟨ds.length, wipeS ρ1 vs, F1, [], rfl, Nat.zero_le _, by rw [wipeS_length]; exact hl1, fun j hj hlt => wipeS_at.2 hj (by rw [wipeS_length] at hlt; exact hlt), back hl1 rfl (fun j hj => (wipe_out hj).symm) w0, h⟩, ?_⟩
    rintro i m H' ⟨ρ', F', acc, rfl, hi, hl2, hu, w', h'⟩
    have w'' : WX X B (tmp ++ ((some (.ref N), .lst acc) :: (ts ++ zp (wipe σ vs) ρ'))) F' H' := w'.perm List.perm_middle.symm
    obtain ⟨f1, f2⟩ := fd i B _ F' H' w''
    by_cases hlt : i < ds.length
    · have ed : ds.drop i = ds[i] :: ds.drop (i + 1) := List.drop_eq_getElem_cons hlt
      rw [ed] at h'
      unfold compM at h'
      obtain ⟨g1, g2⟩ := f1 ds[i] (List.getElem?_eq_getElem hlt)
      refine .inr ⟨g1, fun H'' => ∃ ρ'' F'' acc', σ.length = ρ''.length ∧ (∀ j ∈ vs, j < ρ''.length → ρ''[j]? = some .und) ∧ WX X B ((some (.ref N), .lst acc') :: (tmp ++ (ts ++ zp (wipe σ vs) ρ''))) F'' H'' ∧ EPost X E B ts σ (compM vs k ft fe (ds.drop (i + 1)) acc' ρ'') Q,
        fun H'' ⟨ρ'', F'', acc', a2, a3, a4, a6⟩ => ⟨ds.length - (i + 1), by omega, ρ'', F'', acc', rfl, hlt, a2, a3, a4, a6⟩, fun x H2 hy => ?_⟩
      obtain ⟨F2, w2⟩ := g2 x H2 hy
      cases ek : k (.val ds[i]) ρ' with
      | none => rw [ek] at h'; exact h'.elim
      | some ρ2 =>
        rw [ek] at h'
        simp only at h'
        have w3 : WX X B ((some x, .val ds[i]) :: ((((some (.ref N), .lst acc) :: (tmp ++ ts))) ++ zp (wipe σ vs) ρ')) F2 H2 := by
          refine w2.perm (.cons _ ?_)
          rw [List.cons_append, List.append_assoc]
          exact List.perm_middle
        intro s H0 C cl fp
        refine (Classical.choose_spec (hg s H0 C cl fp)).2 B _ (wipe σ vs) ρ' ρ2 F2 H2 x _ _ (by rw [wipe_length]; exact hl2) w3 ek fun σ3 F3 H3 b1 b2 b3 w4 => ?_
        rw [wipe_length] at b1
        have b4 : ∀ j, j ∉ vs → σ3[j]? = (wipe σ vs)[j]? := fun j hj => b3 j fun z => hj (htv j z)
        have b5 : ∀ j, j ∉ vs → σ3[j]? = σ[j]? := fun j hj => (b4 j hj).trans (wipe_out hj)
        refine ⟨wipe_eq b1 b5, fun s H0 C cl fp => ?_⟩
        refine (Classical.choose_spec (ht s H0 C cl fp)).2 B _ σ3 ρ2 F3 H3 _ b2 w4 ?_
        cases et : ft ρ2 with
        | bad => rw [et] at h'; exact h'.elim
        | ex _ _ => rw [et] at h'; exact h'.elim
        | ok b ρ3 =>
          rw [et] at h'
          intro hl3 F4 H4 w5
          cases b with
          | false =>
            simp only at h'
            refine iteF ⟨wipeS ρ3 vs, F4, acc, by rw [wipeS_length]; exact b1.symm.trans hl3, fun j hj hlt => wipeS_at.2 hj (by rw [wipeS_length] at hlt; exact hlt), back hl3 b1 b4 ?_, h'⟩
            rw [← List.append_assoc]; exact w5
          | true =>
            simp only at h'
            refine iteT fun s H0 C cl fp => (Classical.choose_spec (he s H0 C cl fp)).2 B _ σ3 ρ3 F4 H4 _ hl3 w5 ?_
            cases ee : fe ρ3 with
            | bad => rw [ee] at h'; exact h'.elim
            | ex _ _ => rw [ee] at h'; exact h'.elim
            | ok r ρ4 =>
              rw [ee] at h'
              simp only at h'
              intro hl4 y F5 H5 w6
              cases er : r.d? with
              | none => rw [er] at h'; exact h'.elim
              | some yd =>
                rw [er] at h'
                simp only at h'
                cases es : szOk (acc.length + 1) with
                | false => rw [es] at h'; exact h'.elim
                | true =>
                  rw [es] at h'
                  simp only at h'
                  obtain ⟨F6, w7, _⟩ := w6.freeze er
                  obtain ⟨us, q1, q2, q3⟩ := W.app1 w7
                  refine ⟨us, q1, by rw [q2]; exact szOk_le es, wipeS ρ4 vs, F6, acc ++ [yd], by rw [wipeS_length]; exact b1.symm.trans hl4, fun j hj hlt => wipeS_at.2 hj (by rw [wipeS_length] at hlt; exact hlt), back hl4 b1 b4 ?_, h'⟩
                  rw [← List.append_assoc]; exact q3
    · have : i = ds.length := by omega
      subst this
      rw [List.drop_length] at h'
      unfold compM at h'
      refine .inl ⟨f2 (Nat.le_refl _), h' hl2 _ F' H' ?_⟩
      have w5 : WX X B (tmp ++ ((some (.ref N), .lst acc) :: (ts ++ zp (wipe σ vs) ρ'))) F' H' := w''
      refine w5.drop.wk (.same (Wk.app (Wk.refl _) ?_))
      refine Wk.zip (by rw [wipe_length]; exact hl2) (wipe_length _ _).symm rfl fun j => ?_
      by_cases hj : j ∈ vs
      · by_cases hlt : j < ρ'.length
        · exact .inl (hu j hj hlt)
        · exact .inr ⟨by rw [List.getElem?_eq_none (by omega), List.getElem?_eq_none (by rw [wipe_length]; omega)], rfl⟩
      · exact .inr ⟨(wipe_out hj).symm, rfl⟩
theorem ev_comp {iter elt tg : Expr} {ifs : List Expr} {scope : Scope} {own : List (Str × Nat)} {tv : List Nat} {fi : M (List D)} {k : Sl → Env → Option Env} {ft : M Bool} {fe : M Sl} {pos : Pos} (hN : X.N.Nodup) (hi : EvI X E tg iter fi) (ok : BlkOk X.N X.env.scope scope own)
    (hg : Blk X scope fun Y => Tg Y tv tg k) (ht : Blk X scope fun Y => EvTs Y E0 ifs ft) (he : Blk X scope fun Y => Ev Y E0 elt fe) (htv : ∀ i ∈ tv, i ∈ own.map (·.2) := by decide) (hc : X.calm = true := by rfl) (hs : ∀ x, foldedSetIterable iter X.env x = pure x := by intro _; rfl) :
    Ev X E (.ListComp elt [⟨tg, iter, ifs, 0⟩] scope pos) (mComp (own.map (·.2)) fi k ft fe) := by
  obtain ⟨wi, g, tt, te, a, b, c, d, r⟩ := comp_run hi hg ht he htv
  exact ⟨_, pe_lc hc hN a ok b c d hs, r⟩
theorem ss_setComp (i : Nat) {pn : List Nat} {y : Str} {py : Pos} {iter elt tg : Expr} {ifs : List Expr} {scope : Scope} {own : List (Str × Nat)} {tv : List Nat} {fi : M (List D)} {k : Sl → Env → Option Env} {ft : M Bool} {fe : M Sl} {pos spos : Pos} (hN : X.N.Nodup) (hi : EvI X E tg iter fi)
    (ok : BlkOk X.N X.env.scope scope own) (hg : Blk X scope fun Y => Tg Y tv tg k) (ht : Blk X scope fun Y => EvTs Y E0 ifs ft) (he : Blk X scope fun Y => Ev Y E0 elt fe) (hsw : swapsWith (.ListComp elt [⟨tg, iter, ifs, 0⟩] scope pos) (some (.Name y py)) spos.line X.env = pure true) (hpn : i ∉ pn := by decide)
    (htv : ∀ i ∈ tv, i ∈ own.map (·.2) := by decide) (hy : X.N[i]? = some y := by rfl) (hyl : X.env.scope.names.lookup y = some .local := by rfl) (hc : X.calm = true := by rfl) (hs : ∀ x, foldedSetIterable iter X.env x = pure x := by intro _; rfl) :
    Ss X E pn (.Assign [.Name y py] (.ListComp elt [⟨tg, iter, ifs, 0⟩] scope pos) spos) (mSet i (mComp (own.map (·.2)) fi k ft fe)) := by
  obtain ⟨wi, g, tt, te, a, b, c, d, r⟩ := comp_run hi hg ht he htv
  exact ⟨_, ps_setLc hc hN hy hyl hsw a ok b c d hs, fun B ts σ ρ F H D hl w h => r B ts σ ρ F H _ hl w (post_set hpn h)⟩
end
end
end Fx

set_option Elab.async false
set_option linter.all false
set_option maxRecDepth 100000
namespace Fx
open PySem PySem.Spec PyProof.Rows L2
noncomputable section

section
variable {X : Cx} {pins : List (Addr × Obj)} {σ : L2.St} {F H : Hp} {s : Shared}
/-! data without dicts, in the library's words -/
mutual
theorem Rp.reads (I : Inv X pins σ H s) (e : Same F H) : ∀ {d : D} {v : V} {u : Value}, d.plain = true → Rp X.K F v d → RelV v u → ∃ as, Reads s.heap u d as
  | .none, _, _, _, h, r => by
    cases h
    cases r
    exact ⟨_, Reads.none⟩
  | .bool b, _, _, _, h, r => by
    cases h
    cases r
    exact ⟨_, Reads.bool b⟩
  | .int i, _, _, _, h, r => by
    cases h
    obtain ⟨t, rfl⟩ := r
    exact ⟨_, Reads.int i t⟩
  | .str x, _, _, _, h, r => by
    cases h
    obtain ⟨t, rfl⟩ := r
    exact ⟨_, Reads.str x t⟩
  | .list ds, _, _, c, h, r => by
    cases h with
    | lst hs ha =>
      cases r
      obtain ⟨its, rv, ⟨o, n, ho, hc, _, hd⟩, _⟩ := I.list (SqL.of (e _ _ hs))
      obtain ⟨as, hr⟩ := RpL.reads I e (by simpa [PyData.plain] using c) ha rv
      exact ⟨_, Reads.list ho hc hd hr⟩
  | .tuple ds, _, _, c, h, r => by
    cases h with
    | tup hs ha =>
      cases r
      obtain ⟨its, rv, ⟨o, ho, hc, n, hd⟩, _⟩ := I.tuple (Same.sqt e hs)
      obtain ⟨as, hr⟩ := RpL.reads I e (by simpa [PyData.plain] using c) ha rv
      exact ⟨_, Reads.tuple ho hc hd hr⟩
  | .dict _, _, _, c, _, _ => by simp [PyData.plain] at c
theorem RpL.reads (I : Inv X pins σ H s) (e : Same F H) : ∀ {ds : List D} {vs : List V} {us : List Value}, PyData.plainAll ds = true → RpL X.K F vs ds → Vals vs us → ∃ as, ReadsAll s.heap us ds as
  | [], _, _, _, h, r => by
    cases h
    cases r
    exact ⟨_, ReadsAll.nil⟩
  | d :: ds, _, _, c, h, r => by
    have c' : d.plain = true ∧ PyData.plainAll ds = true := by simpa [PyData.plainAll] using c
    cases h with
    | cons h1 h2 =>
      cases r with
      | cons r1 r2 =>
        obtain ⟨as, q1⟩ := Rp.reads I e c'.1 h1 r1
        obtain ⟨bs, q2⟩ := RpL.reads I e c'.2 h2 r2
        exact ⟨_, ReadsAll.cons q1 q2⟩
end
end
/-- data that the comparisons take -/
def pl (d : D) : Bool := d.plain && decide (d.depth ≤ 40)
theorem pl_p {d : D} (h : pl d = true) : d.plain = true := by unfold pl at h; rw [Bool.and_eq_true] at h; exact h.1
theorem pl_d {d : D} (h : pl d = true) : d.depth ≤ 40 := by unfold pl at h; rw [Bool.and_eq_true] at h; exact of_decide_eq_true h.2

section
variable {X : Cx} {E : XK}
def rD2 (K : Fg) (ok : D → D → Bool) (g : D → D → Bool) : R2 := fun x y H Q => ∃ F d e, Same F H ∧ Rp K F x d ∧ Rp K F y e ∧ ok d e = true ∧ Q (.bl (g d e)) H
def okEq (a b : D) : Bool := pl a && pl b
theorem op_eqP (hu : X.A.units + 64 < cLine) : OpR X (compareOp .Eq) (rD2 X.K okEq PyData.eqv) := by
  intro pins s σ H x y v u Q I rx ry ⟨F, d, e, sf, hd, he, ok, q⟩
  unfold okEq at ok
  rw [Bool.and_eq_true] at ok
  obtain ⟨as, r1⟩ := Rp.reads I sf (pl_p ok.1) hd rx
  obtain ⟨bs, r2⟩ := Rp.reads I sf (pl_p ok.2) he ry
  have := pl_d ok.1
  exact PySem.SeqAt.eq_plain r1 r2 (pl_p ok.1) (pl_p ok.2) (by have := Nat.min_le_left d.depth e.depth; omega) ⟨.bl _, H, I, rfl, q⟩
theorem op_neP (hu : X.A.units + 64 < cLine) : OpR X (compareOp .NotEq) (rD2 X.K okEq fun a b => !PyData.eqv a b) := by
  intro pins s σ H x y v u Q I rx ry ⟨F, d, e, sf, hd, he, ok, q⟩
  unfold okEq at ok
  rw [Bool.and_eq_true] at ok
  obtain ⟨as, r1⟩ := Rp.reads I sf (pl_p ok.1) hd rx
  obtain ⟨bs, r2⟩ := Rp.reads I sf (pl_p ok.2) he ry
  have := pl_d ok.1
  exact PySem.SeqAt.ne_plain r1 r2 (pl_p ok.1) (pl_p ok.2) (by have := Nat.min_le_left d.depth e.depth; omega) ⟨.bl _, H, I, rfl, q⟩
theorem opl_D2 {ok : D → D → Bool} {g : D → D → Bool} : OpL X (rD2 X.K ok g) (fun a b => if ok a b = true then some (.val (.bool (g a b))) else none) := by
  intro B l F H v u a b rc Q w ra rb hg q
  by_cases h : ok a b = true
  · simp only [h, if_true] at hg
    cases hg
    exact ⟨F, a, b, w.fh, ra, rb, h, q _ F H (w.more (.bl _))⟩
  · simp only [h] at hg; cases hg
/-- in, not in: a list or a tuple -/
def seqD : D → List D
  | .list ds => ds
  | .tuple ds => ds
  | _ => []
def okIn (a b : D) : Bool := pl a && pl b && (match b with | .list _ => true | .tuple _ => true | _ => false)
theorem op_inP (hu : X.A.units + 64 < cLine) : OpR X (compareOp .In) (rD2 X.K okIn fun a b => (seqD b).any fun z => PyData.eqv z a) := by
  intro pins s σ H x y v u Q I rx ry ⟨F, d, e, sf, hd, he, ok, q⟩
  unfold okIn at ok
  rw [Bool.and_eq_true, Bool.and_eq_true] at ok
  obtain ⟨as, r1⟩ := Rp.reads I sf (pl_p ok.1.1) hd rx
  obtain ⟨bs, r2⟩ := Rp.reads I sf (pl_p ok.1.2) he ry
  have h1 := pl_d ok.1.1
  have h2 := pl_p ok.1.2
  cases e with
  | list ds => exact PySem.SeqAt.in_list_data r2 r1 (by simpa [PyData.plain] using h2) (pl_p ok.1.1) (by have := Nat.min_le_right (PyData.depthAll ds) d.depth; omega) ⟨.bl _, H, I, rfl, q⟩
  | tuple ds => exact PySem.SeqAt.in_tuple_data r2 r1 (by simpa [PyData.plain] using h2) (pl_p ok.1.1) (by have := Nat.min_le_right (PyData.depthAll ds) d.depth; omega) ⟨.bl _, H, I, rfl, q⟩
  | _ => simp at ok
theorem op_ninP (hu : X.A.units + 64 < cLine) : OpR X (compareOp .NotIn) (rD2 X.K okIn fun a b => !(seqD b).any fun z => PyData.eqv z a) := by
  intro pins s σ H x y v u Q I rx ry ⟨F, d, e, sf, hd, he, ok, q⟩
  unfold okIn at ok
  rw [Bool.and_eq_true, Bool.and_eq_true] at ok
  obtain ⟨as, r1⟩ := Rp.reads I sf (pl_p ok.1.1) hd rx
  obtain ⟨bs, r2⟩ := Rp.reads I sf (pl_p ok.1.2) he ry
  have h1 := pl_d ok.1.1
  have h2 := pl_p ok.1.2
  cases e with
  | list ds => exact PySem.SeqAt.notIn_list_data r2 r1 (by simpa [PyData.plain] using h2) (pl_p ok.1.1) (by have := Nat.min_le_right (PyData.depthAll ds) d.depth; omega) ⟨.bl _, H, I, rfl, q⟩
  | tuple ds => exact PySem.SeqAt.notIn_tuple_data r2 r1 (by simpa [PyData.plain] using h2) (pl_p ok.1.1) (by have := Nat.min_le_right (PyData.depthAll ds) d.depth; omega) ⟨.bl _, H, I, rfl, q⟩
  | _ => simp at ok
/-- the order -/
def okLt (a b : D) : Bool := match a, b with
  | .int _, .int _ => true
  | a, b => pl a && pl b && PySem.W.alike a b && !(match a with | .none => true | _ => false)
def ltD (a b : D) : Bool := match a, b with
  | .int i, .int j => decide (i < j)
  | a, b => PySem.W.dataLt a b
def leD (a b : D) : Bool := match a, b with
  | .int i, .int j => decide (i ≤ j)
  | a, b => !PySem.W.dataLt b a
theorem op_cmpP {op : CmpOp} {g : D → D → Bool} (hu : X.A.units + 64 < cLine)
    (hi : ∀ (i j : Int) (t u : Tok) (Q : Value → Shared → Prop) (s : Shared), Q (.bool (g (.int i) (.int j))) s → wpAny (model X.prog X.w) X.A (compareOp op (.int i t) (.int j u)) Q X.xe s)
    (hd : ∀ (s : Shared) (a b : Value) (da db : PyData) (as bs : List Addr) (Q : Value → Shared → Prop), Reads s.heap a da as → Reads s.heap b db bs → PySem.W.alike da db = true → da ≠ .none → X.A.units + min da.depth db.depth < cLine → (∀ i j, ¬ (da = .int i ∧ db = .int j)) → Q (.bool (g da db)) s → wpAny (model X.prog X.w) X.A (compareOp op a b) Q X.xe s) :
    OpR X (compareOp op) (rD2 X.K okLt g) := by
  intro pins s σ H x y v u Q I rx ry ⟨F, d, e, sf, hd', he, ok, q⟩
  by_cases hb : ∃ i j, d = .int i ∧ e = .int j
  · obtain ⟨i, j, rfl, rfl⟩ := hb
    cases hd'
    cases he
    obtain ⟨t, rfl⟩ := rx
    obtain ⟨t', rfl⟩ := ry
    exact hi i j t t' _ s ⟨.bl _, H, I, rfl, q⟩
  · have ok' : (pl d && pl e && PySem.W.alike d e && !(match d with | .none => true | _ => false)) = true := by
      cases d with
      | int i => cases e with
        | int j => exact absurd ⟨i, j, rfl, rfl⟩ hb
        | _ => exact ok
      | _ => exact ok
    rw [Bool.and_eq_true, Bool.and_eq_true, Bool.and_eq_true] at ok'
    obtain ⟨⟨⟨o1, o2⟩, o3⟩, o4⟩ := ok'
    obtain ⟨as, r1⟩ := Rp.reads I sf (pl_p o1) hd' rx
    obtain ⟨bs, r2⟩ := Rp.reads I sf (pl_p o2) he ry
    have := pl_d o1
    refine hd s v u d e as bs _ r1 r2 o3 (fun z => by subst z; simp at o4) (by have := Nat.min_le_left d.depth e.depth; omega) (fun i j z => hb ⟨i, j, z.1, z.2⟩) ⟨.bl _, H, I, rfl, q⟩
theorem lt_not {d e : D} (h : ∀ i j, ¬ (d = .int i ∧ e = .int j)) : ltD d e = PySem.W.dataLt d e := by
  unfold ltD
  split
  · rename_i i j; exact absurd ⟨rfl, rfl⟩ (h i j)
  · rfl
theorem le_not {d e : D} (h : ∀ i j, ¬ (d = .int i ∧ e = .int j)) : leD d e = !PySem.W.dataLt e d := by
  unfold leD
  split
  · rename_i i j; exact absurd ⟨rfl, rfl⟩ (h i j)
  · rfl
theorem op_ltP (hu : X.A.units + 64 < cLine) : OpR X (compareOp .Lt) (rD2 X.K okLt ltD) :=
  op_cmpP hu (fun _ _ _ _ _ _ q => lt_int q) fun s a b da db as bs Q r1 r2 h1 h2 h3 h4 q => PySem.W.lt_data r1 r2 h1 h2 h3 (by rw [← lt_not h4]; exact q)
theorem op_leP (hu : X.A.units + 64 < cLine) : OpR X (compareOp .LtE) (rD2 X.K okLt leD) :=
  op_cmpP hu (fun _ _ _ _ _ _ q => le_int q) fun s a b da db as bs Q r1 r2 h1 h2 h3 h4 q => PySem.W.le_data r1 r2 h1 h2 h3 (by rw [← le_not h4]; exact q)
theorem op_gtP (hu : X.A.units + 64 < cLine) : OpR X (compareOp .Gt) (rD2 X.K okLt fun a b => ltD b a) :=
  op_cmpP hu (fun _ _ _ _ _ _ q => gt_int q) fun s a b da db as bs Q r1 r2 h1 h2 h3 h4 q => PySem.W.gt_data r1 r2 h1 h2 h3 (by rw [← lt_not fun i j z => h4 j i ⟨z.2, z.1⟩]; exact q)
theorem op_geP (hu : X.A.units + 64 < cLine) : OpR X (compareOp .GtE) (rD2 X.K okLt fun a b => leD b a) :=
  op_cmpP hu (fun _ _ _ _ _ _ q => ge_int q) fun s a b da db as bs Q r1 r2 h1 h2 h3 h4 q => PySem.W.ge_data r1 r2 h1 h2 h3 (by rw [← le_not fun i j z => h4 j i ⟨z.2, z.1⟩]; exact q)
/-! is None -/
def isNoneD : D → Bool
  | .none => true
  | _ => false
theorem isNoneD_of {K : Fg} {F : Hp} {v : V} {a : D} (r : Rp K F v a) : decide (v = V.non) = isNoneD a := by cases r <;> rfl
theorem opl_isN : OpL X (fun x y H Q => y = .non ∧ Q (.bl (decide (x = .non))) H) (fun a b => match b with | .none => some (.val (.bool (isNoneD a))) | _ => none) := by
  intro B l F H v u a b rc Q w ra rb hg q
  cases b with
  | none =>
    cases rb
    refine ⟨rfl, ?_⟩
    simp only [Option.some.injEq] at hg
    subst hg
    rw [isNoneD_of ra]
    exact q _ F H (w.more (.bl _))
  | _ => cases hg
theorem opl_notN : OpL X (fun x y H Q => y = .non ∧ Q (.bl (!decide (x = .non))) H) (fun a b => match b with | .none => some (.val (.bool (!isNoneD a))) | _ => none) := by
  intro B l F H v u a b rc Q w ra rb hg q
  cases b with
  | none =>
    cases rb
    refine ⟨rfl, ?_⟩
    simp only [Option.some.injEq] at hg
    subst hg
    rw [isNoneD_of ra]
    exact q _ F H (w.more (.bl _))
  | _ => cases hg
/-! ints -/
theorem opl_I {C : Int → Int → Prop} {g : Int → Int → Int} : OpL X (rI C fun i j => .int (g i j)) (fun a b => match a, b with | .int i, .int j => if tru (C i j) = true then some (.val (.int (g i j))) else none | _, _ => none) := by
  intro B l F H v u a b rc Q w ra rb hg q
  dsimp only at hg
  split at hg
  · rename_i i j
    by_cases h : tru (C i j) = true
    · rw [if_pos h] at hg
      cases hg
      cases ra
      cases rb
      exact ⟨i, j, rfl, rfl, tru_iff.mp h, q _ F H (w.more (.int _))⟩
    · rw [if_neg h] at hg; cases hg
  · cases hg
theorem opl_I0 {g : Int → Int → Int} : OpL X (rI0 fun i j => .int (g i j)) (fun a b => match a, b with | .int i, .int j => some (.val (.int (g i j))) | _, _ => none) := by
  intro B l F H v u a b rc Q w ra rb hg q
  dsimp only at hg
  split at hg
  · rename_i i j
    cases hg
    cases ra
    cases rb
    exact ⟨i, j, rfl, rfl, q _ F H (w.more (.int _))⟩
  · cases hg
def CMulA (i j : Int) : Prop := CMul i j ∨ CMulW i j
theorem op_mulA : OpR X (binaryOp .Mult) (rI CMulA fun i j => .int (i * j)) := by
  intro pins s σ H x y v u Q I rx ry h
  obtain ⟨i, j, e1, e2, hc, q⟩ := h
  rcases hc with hc | hc
  · exact op_mul pins s σ H x y v u Q I rx ry ⟨i, j, e1, e2, hc, q⟩
  · exact op_mulW pins s σ H x y v u Q I rx ry ⟨i, j, e1, e2, hc, q⟩
def gMul (a b : D) : Option Sl := match a, b with | .int i, .int j => if tru (CMulA i j) = true then some (.val (.int (i * j))) else none | _, _ => none
def gMod (a b : D) : Option Sl := match a, b with | .int i, .int j => if tru (0 < j) = true then some (.val (.int (i % j))) else none | _, _ => none
def gDiv (a b : D) : Option Sl := match a, b with | .int i, .int j => if tru (CDivW i j) = true then some (.val (.int (i / j))) else none | _, _ => none
def gPow (a b : D) : Option Sl := match a, b with | .int i, .int j => if tru (CPow i j) = true then some (.val (.int (i ^ j.toNat))) else none | _, _ => none
def gShl (a b : D) : Option Sl := match a, b with | .int i, .int j => if tru (CPow i j) = true then some (.val (.int (i * 2 ^ j.toNat))) else none | _, _ => none
def gShr (a b : D) : Option Sl := match a, b with | .int i, .int j => if tru (0 ≤ j) = true then some (.val (.int (i / 2 ^ j.toNat))) else none | _, _ => none
def gAnd (a b : D) : Option Sl := match a, b with | .int i, .int j => some (.val (.int (Builtin.bitAnd i j))) | _, _ => none
def gSub (a b : D) : Option Sl := match a, b with | .int i, .int j => some (.val (.int (i - j))) | _, _ => none
def gEq (a b : D) : Option Sl := if okEq a b = true then some (.val (.bool (PyData.eqv a b))) else none
def gNe (a b : D) : Option Sl := if okEq a b = true then some (.val (.bool (!PyData.eqv a b))) else none
def gIn (a b : D) : Option Sl := if okIn a b = true then some (.val (.bool ((seqD b).any fun z => PyData.eqv z a))) else none
def gNin (a b : D) : Option Sl := if okIn a b = true then some (.val (.bool (!(seqD b).any fun z => PyData.eqv z a))) else none
def gLt (a b : D) : Option Sl := if okLt a b = true then some (.val (.bool (ltD a b))) else none
def gLe (a b : D) : Option Sl := if okLt a b = true then some (.val (.bool (leD a b))) else none
def gGt (a b : D) : Option Sl := if okLt a b = true then some (.val (.bool (ltD b a))) else none
def gGe (a b : D) : Option Sl := if okLt a b = true then some (.val (.bool (leD b a))) else none
def gIsN (a b : D) : Option Sl := match b with | .none => some (.val (.bool (isNoneD a))) | _ => none
def gNotN (a b : D) : Option Sl := match b with | .none => some (.val (.bool (!isNoneD a))) | _ => none
/-! + -/
def rAddP (K : Fg) : R2 := fun x y H Q => rI0 (fun i j => .int (i + j)) x y H Q ∨ ((∃ i j, x = .str i ∧ y = .str j ∧ i.length + j.length ≤ sizeLine ∧ Q (.str (i ++ j)) H) ∨ (rCatA K x y H Q ∨ rCat x y H Q))
theorem op_addP : OpR X (binaryOp .Add) (rAddP X.K) := op_add.or (op_add_str.or (op_catA.or op_cat))
def gAdd (a b : D) : Option Sl := match a, b with
  | .int i, .int j => some (.val (.int (i + j)))
  | .str i, .str j => if szOk (i.length + j.length) = true then some (.val (.str (i ++ j))) else none
  | .tuple xs, .tuple ys => if szOk (xs.length + ys.length) = true then some (.val (.tuple (xs ++ ys))) else none
  | .list xs, .list ys => if szOk (xs.length + ys.length) = true then some (.lst (xs ++ ys)) else none
  | _, _ => none
theorem opl_add : OpL X (rAddP X.K) gAdd := by
  intro B l F H v u a b rc Q w ra rb hg q
  unfold gAdd at hg
  split at hg
  · cases hg
    cases ra
    cases rb
    exact .inl ⟨_, _, rfl, rfl, q _ F H (w.more (.int _))⟩
  · rename_i i j
    by_cases h : szOk (i.length + j.length) = true
    · rw [if_pos h] at hg
      cases hg
      cases ra
      cases rb
      exact .inr (.inl ⟨_, _, rfl, rfl, szOk_le h, q _ F H (w.more (.str _))⟩)
    · rw [if_neg h] at hg; cases hg
  · rename_i xs ys
    by_cases h : szOk (xs.length + ys.length) = true
    · rw [if_pos h] at hg
      cases hg
      cases ra with
      | tup h1 r1 =>
        cases rb with
        | tup h2 r2 =>
          rename_i a vs b us
          refine .inr (.inr (.inl ⟨a, b, vs, us, rfl, rfl, Same.sqt w.fh h1, Same.sqt w.fh h2, by rw [r1.length, r2.length]; exact szOk_le h, fun e => ?_, fun _ e => ?_, fun _ _ p hp => ?_⟩))
          · subst e
            cases r1
            exact q _ F H (w.more (.tup h2 r2))
          · subst e
            cases r2
            rw [List.append_nil] at q
            exact q _ F H (w.more (.tup h1 r1))
          · exact q _ _ _ (w.new_tup (r1.app r2) hp)
    · rw [if_neg h] at hg; cases hg
  · rename_i xs ys
    by_cases h : szOk (xs.length + ys.length) = true
    · rw [if_pos h] at hg
      cases hg
      cases ra with
      | lst h1 r1 =>
        cases rb with
        | lst h2 r2 =>
          refine .inr (.inr (.inr ⟨_, _, _, _, rfl, rfl, w.fh _ _ h1, w.fh _ _ h2, by rw [r1.length, r2.length]; exact szOk_le h, fun p hp => ?_⟩))
          exact q _ _ _ (w.new_lst (r1.app r2) hp)
    · rw [if_neg h] at hg; cases hg
  · cases hg

/-! subscripts -/
theorem RpL.atI {K : Fg} {F : Hp} {vs : List V} {ds : List D} {i : Int} {d : D} (h : RpL K F vs ds) (e : L2.atI ds i = some d) : ∃ v, L2.atI vs i = some v ∧ Rp K F v d := by
  unfold L2.atI at e ⊢
  rw [h.length]
  cases q : ixN ds.length i with
  | none => rw [q] at e; cases e
  | some j =>
    rw [q] at e
    obtain ⟨v, a, b⟩ := h.get (i := j) (d := d) e
    exact ⟨v, a, b⟩
def gIx (a b : D) : Option Sl := match a, b with
  | .list xs, .int i => (L2.atI xs i).map .val
  | .tuple xs, .int i => (L2.atI xs i).map .val
  | .str z, .int i => if szOk z.length = true then (L2.atI z.cps.toList i).map fun c => .val (.str ⟨#[c]⟩) else none
  | _, _ => none
theorem opl_ix : OpL X (rIx X.K) gIx := by
  intro B l F H v u a b rc Q w ra rb hg q
  unfold gIx at hg
  split at hg
  · rename_i xs i
    cases e : L2.atI xs i with
    | none => rw [e] at hg; cases hg
    | some d =>
      rw [e] at hg
      cases hg
      cases rb
      cases ra with
      | lst h1 r1 =>
        obtain ⟨v, e1, r⟩ := r1.atI e
        exact .inl ⟨_, _, i, v, rfl, rfl, SqL.of (w.fh _ _ h1), e1, q _ F H (w.more r)⟩
  · rename_i xs i
    cases e : L2.atI xs i with
    | none => rw [e] at hg; cases hg
    | some d =>
      rw [e] at hg
      cases hg
      cases rb
      cases ra with
      | tup h1 r1 =>
        obtain ⟨v, e1, r⟩ := r1.atI e
        exact .inr (.inl ⟨_, _, i, v, rfl, rfl, Same.sqt w.fh h1, e1, q _ F H (w.more r)⟩)
  · rename_i z i
    by_cases h : szOk z.length = true
    · rw [if_pos h] at hg
      cases e : L2.atI z.cps.toList i with
      | none => rw [e] at hg; cases hg
      | some c =>
        rw [e] at hg
        cases hg
        cases ra
        cases rb
        exact .inr (.inr ⟨z, i, c, rfl, rfl, szOk_le h, e, q _ F H (w.more (.str _))⟩)
    · rw [if_neg h] at hg; cases hg
  · cases hg
end
end
end Fx

set_option Elab.async false
set_option linter.all false
set_option maxRecDepth 100000
namespace Fx
open PySem PySem.Spec PyProof.Rows L2
noncomputable section

section
variable {X : Cx} {E : XK}
/-! ### calls of built-ins -/
def CallL (X : Cx) (r : List V → Hp → VK → Prop) (g : List D → Option Sl) : Prop := ∀ (B : Bs) (l : List Sv) (F H : Hp) (vs : List V) (ds : List D) (rc : Sl) (Q : VK), W X.K X.mg B l F H → RpL X.K F vs ds → g ds = some rc →
  (∀ x F' H', W X.K X.mg B ((some x, rc) :: l) F' H' → Q x H') → r vs H Q
def mCB (g : List D → Option Sl) (fs : M (List Sl)) : M Sl := fun ρ => (fs ρ).bd fun rs ρ1 => match dAll rs with
  | some ds => match g ds with
    | some r => .ok r ρ1
    | none => .bad
  | none => .bad
def RunA (X : Cx) (E : XK) (t : TA) (mv : List (Option Nat)) (fs : M (List Sl)) : Prop := ∀ (B : Bs) (ts : List Sv) (σ : L2.St) (ρ : Env) (F H : Hp) (Q : List V → Hp → Prop), σ.length = ρ.length → WX X B (ts ++ zp σ ρ) F H → APost X E B ts σ mv (fs ρ) Q → t σ H Q
theorem cb_run {r : List V → Hp → VK → Prop} {g : List D → Option Sl} {t : TA} {mv : List (Option Nat)} {fs : M (List Sl)} (hr : CallL X r g) (qt : RunA X E t mv fs) : Run X E (tCB r t) (mCB g fs) := by
  intro B ts σ ρ F H Q hl w h
  refine qt B ts σ ρ F H _ hl w ?_
  unfold mCB Rs.bd at h
  cases e1 : fs ρ with
  | bad => rw [e1] at h; exact h.elim
  | ex x ρ1 => rw [e1] at h; exact h
  | ok rs ρ1 =>
    rw [e1] at h
    simp only at h
    intro hl1 vs F1 H1 hvs _ _ w1
    cases e2 : dAll rs with
    | none => rw [e2] at h; exact h.elim
    | some ds =>
      rw [e2] at h
      simp only at h
      cases e3 : g ds with
      | none => rw [e3] at h; exact h.elim
      | some rc =>
        rw [e3] at h
        obtain ⟨F2, w2, s2, r2⟩ := w1.datas hvs e2
        exact hr B _ F2 H1 vs ds rc Q w2 r2 e3 fun x F' H' w' => h hl1 x F' H' w'
theorem ev_callB {r : List V → Hp → VK → Prop} {g : List D → Option Sl} {x : Str} {id : String} {p pos : Pos} {e : Expr} {es : List Expr} {mv : List (Option Nat)} {fs : M (List Sl)} (hc : CallR X (.builtin id) r) (hr : CallL X r g) (hm : X.mg x = none) (hv : bootBuiltins x = some (.builtin id)) (ha : EvA X E (e :: es) mv fs)
    (hg : Gl X x := by rfl) (hn : x ≠ "__name__" := by decide) (hdb : (x == ("__debug__" : Str)) = false := by decide) (he : starEach (e :: es) X.env = (false, eval e X.env) :: starEach es X.env := by rfl) (hpl : (backTo pos (starEach es X.env)).any (·.1) = false := by rfl) :
    Ev X E (.Call (.Name x p) (e :: es) [] pos) (mCB g fs) := by
  obtain ⟨t, pt, qt⟩ := ha
  exact ⟨_, pe_callB hc hg hm hv pt hn hdb he hpl, cb_run hr qt⟩
theorem ev_callTy {r : List V → Hp → VK → Prop} {g : List D → Option Sl} {x : Str} {T : String} {p pos : Pos} {e : Expr} {es : List Expr} {mv : List (Option Nat)} {fs : M (List Sl)} (hc : CallR X (.type T) r) (hr : CallL X r g) (hm : X.mg x = none) (hv : bootBuiltins x = some (.type T)) (ha : EvA X E (e :: es) mv fs)
    (hg : Gl X x := by rfl) (hn : x ≠ "__name__" := by decide) (hdb : (x == ("__debug__" : Str)) = false := by decide) (he : starEach (e :: es) X.env = (false, eval e X.env) :: starEach es X.env := by rfl) (hpl : (backTo pos (starEach es X.env)).any (·.1) = false := by rfl) :
    Ev X E (.Call (.Name x p) (e :: es) [] pos) (mCB g fs) := by
  obtain ⟨t, pt, qt⟩ := ha
  exact ⟨_, pe_callTy hc hg hm hv pt hn hdb he hpl, cb_run hr qt⟩
def rLen2 (K : Fg) : List V → Hp → VK → Prop := fun xs H Q => ∃ x n, xs = [x] ∧ LenV K x H n ∧ Q (.int n) H
def gLen : List D → Option Sl
  | [.list ds] => some (.val (.int ds.length))
  | [.tuple ds] => some (.val (.int ds.length))
  | [.str z] => if szOk z.length = true then some (.val (.int z.length)) else none
  | _ => none
theorem cl_len : CallL X (rLen2 X.K) gLen := by
  intro B l F H vs ds rc Q w r hg q
  unfold gLen at hg
  split at hg
  · cases hg
    cases r with
    | cons r0 t =>
      cases t
      cases r0 with
      | lst h1 r1 => exact ⟨_, _, rfl, .inl ⟨_, SqL.of (w.fh _ _ h1), r1.length.symm⟩, q _ F H (w.more (.int _))⟩
  · cases hg
    cases r with
    | cons r0 t =>
      cases t
      cases r0 with
      | tup h1 r1 => exact ⟨_, _, rfl, .inr ⟨_, Same.sqt w.fh h1, r1.length.symm⟩, q _ F H (w.more (.int _))⟩
  · rename_i z
    by_cases h : szOk z.length = true
    · rw [if_pos h] at hg
      cases hg
      cases r with
      | cons r0 t =>
        cases t
        cases r0
        exact ⟨_, _, rfl, ⟨szOk_le h, rfl⟩, q _ F H (w.more (.int _))⟩
    · rw [if_neg h] at hg; cases hg
  · cases hg
/-- list(x) of a list, a tuple -/
def rListOf (K : Fg) : List V → Hp → VK → Prop := fun xs H Q => ∃ p ys, xs = [.ref p] ∧ (SqL K H p ys ∨ SqT K H p ys) ∧ ∀ l, H l = none → Q (.ref l) (upd H l (.lst ys))
def gListC : List D → Option Sl
  | [.list ds] => some (.lst ds)
  | [.tuple ds] => some (.lst ds)
  | _ => none
theorem cl_list : CallL X (rListOf X.K) gListC := by
  intro B l F H vs ds rc Q w r hg q
  unfold gListC at hg
  split at hg
  · cases hg
    cases r with
    | cons r0 t =>
      cases t
      cases r0 with
      | lst h1 r1 => exact ⟨_, _, rfl, .inl (SqL.of (w.fh _ _ h1)), fun p hp => q _ _ _ (w.new_lst r1 hp)⟩
  · cases hg
    cases r with
    | cons r0 t =>
      cases t
      cases r0 with
      | tup h1 r1 => exact ⟨_, _, rfl, .inr (Same.sqt w.fh h1), fun p hp => q _ _ _ (w.new_lst r1 hp)⟩
  · cases hg
/-- tuple(x) -/
def gTupC : D → Option Sl
  | .list ds => some (.val (.tuple ds))
  | .tuple ds => some (.val (.tuple ds))
  | _ => none
theorem ul_tup : UnL X (L2.kTup X.K) gTupC := by
  intro B l F H v a rc Q w r hg q
  unfold gTupC at hg
  split at hg
  · cases hg
    cases r with
    | lst h1 r1 => exact .inl ⟨_, _, rfl, SqL.of (w.fh _ _ h1), fun p hp => q _ _ _ (w.new_tup r1 hp)⟩
  · cases hg
    cases r with
    | tup h1 r1 => exact .inr ⟨_, _, rfl, Same.sqt w.fh h1, q _ F H (w.more (.tup h1 r1))⟩
  · cases hg
theorem ev_tuple {a : Expr} {fa : M Sl} {p pos : Pos} (hm : X.mg "tuple" = none) (ha : Ev X E a fa) (hg : Gl X "tuple" := by rfl) (na : starEach [a] X.env = (false, eval a X.env) :: starEach [] X.env := by rfl) : Ev X E (.Call (.Name "tuple" p) [a] [] pos) (mUn gTupC fa) :=
  ev_one (r := L2.kTup X.K) ul_tup ha fun pa => pe_tupleOf hg hm pa na
/-- list(script) -/
def mListScr (i : Nat) : M Sl := fun ρ => match ρ[i]? with
  | some (.scr ns) => .ok (.lst (ns.map .int)) ρ
  | _ => .bad
theorem rpl_ints {K : Fg} {F : Hp} : ∀ ns : List Int, RpL K F (ns.map V.int) (ns.map .int)
  | [] => .nil
  | n :: ns => .cons (.int n) (rpl_ints ns)
theorem ev_listScr (i : Nat) {x : Str} {p pos p2 : Pos} (hm : X.mg "list" = none) (hg : Gl X "list" := by rfl) (hN : X.N[i]? = some x := by rfl) (hv : Vis X.env.scope x := by first | exact Or.inl rfl | exact Or.inr (Or.inl rfl) | exact Or.inr (Or.inr rfl))
    (hd : (x == ("__debug__" : Str)) = false := by decide) (hcd : (x == ("__classdict__" : Str)) = false := by decide) (he : starEach [.Name x p2] X.env = (false, eval (.Name x p2) X.env) :: starEach [] X.env := by rfl) : Ev X E (.Call (.Name "list" p) [.Name x p2] [] pos) (mListScr i) := by
  refine ⟨_, pe_callTy call_list_of hg hm boot_list (pa_cons (pe_var hN hv hd hcd) pa_nil he) (by decide) (by decide) he rfl, fun B ts σ ρ F H Q hl w h => ?_⟩
  unfold mListScr at h
  split at h
  · rename_i ns e
    obtain ⟨o, l, h1, w1, k⟩ := w.at hl e
    obtain ⟨a, rfl, hs⟩ := w1.scr
    exact ⟨_, h1, a, ns.map V.int, rfl, .inl (Same.seq w.fh hs), fun p hp => h hl _ _ _ (w.new_lst (rpl_ints ns) hp)⟩
  · exact h.elim
/-- isinstance(x, T) -/
def tyD : D → String
  | .none => "NoneType"
  | .bool _ => "bool"
  | .int _ => "int"
  | .str _ => "str"
  | .list _ => "list"
  | .tuple _ => "tuple"
  | .dict _ => "dict"
theorem Rp.ty {K : Fg} {F H : Hp} (e : Same F H) {v : V} {d : D} (r : Rp K F v d) : TyX K H v (.type (tyD d)) := by
  cases r with
  | non => exact .base .non
  | bl b => exact .base (.bl b)
  | int i => exact .base (.int i)
  | str x => exact .base (.str x)
  | lst h _ => exact .base (.lst (e _ _ h))
  | tup h _ =>
    rcases Same.sqt e h with (h | ⟨o, h⟩) | ⟨o, its, n, h, c, _⟩
    · exact .base (.tup h)
    · exact .fTuple h
    · exact .kTuple h c
  | dK h _ =>
    rcases Same.rd e h with h | ⟨o, h⟩
    · exact .base (.dK h)
    · exact .fDict h
def isiD (T : String) (d : D) : Option Bool := kitB (tyD d) T
def gIsi (T : String) (d : D) : Option Sl := (isiD T d).map fun b => .val (.bool b)
def mIsi (T : String) (fa : M Sl) : M Sl := mUn (gIsi T) fa
theorem ev_isi {T : String} {x : Str} {a : Expr} {fa : M Sl} {p pos p2 : Pos} (ha : Ev X E a fa) (hm : X.mg "isinstance" = none) (hm2 : X.mg x = none) (hv : bootBuiltins x = some (.type T)) (hg : Gl X "isinstance" := by rfl) (hg2 : Gl X x := by rfl) (hn2 : x ≠ "__name__" := by decide) (hdb2 : (x == ("__debug__" : Str)) = false := by decide)
    (he : starEach [a, .Name x p2] X.env = (false, eval a X.env) :: starEach [.Name x p2] X.env := by rfl) (he2 : starEach [.Name x p2] X.env = (false, eval (.Name x p2) X.env) :: starEach [] X.env := by rfl) (hpl : (backTo pos (starEach [.Name x p2] X.env)).any (·.1) = false := by rfl) :
    Ev X E (.Call (.Name "isinstance" p) [a, .Name x p2] [] pos) (mIsi T fa) := by
  obtain ⟨ta, pa, qa⟩ := ha
  refine ⟨_, pe_callB call_isi hg hm (by decide +kernel) (pa_cons pa (pa_cons (pe_bltn (v := .ty T) hg2 hm2 hv rfl hn2 hdb2) pa_nil he2) he) (by decide) (by decide) he hpl, fun B ts σ ρ F H Q hl w h => qa B ts σ ρ F H _ hl w ?_⟩
  unfold mIsi mUn Rs.bd at h
  cases e1 : fa ρ with
  | bad => rw [e1] at h; exact h.elim
  | ex x ρ1 => rw [e1] at h; exact h
  | ok ra ρ1 =>
    rw [e1] at h
    simp only at h
    intro hl1 v F1 H1 w1
    cases da : ra.d? with
    | none => rw [da] at h; exact h.elim
    | some d =>
      rw [da] at h
      simp only at h
      obtain ⟨F3, w3, s3⟩ := w1.freeze da
      unfold gIsi at h
      cases e2 : isiD T d with
      | none => rw [e2] at h; exact h.elim
      | some b =>
        rw [e2] at h
        exact ⟨v, .ty T, _, _, b, rfl, .ty T, Rp.ty w3.fh w3.val, kit_ty e2, h hl1 _ F3 H1 (w3.tail.more (.bl b))⟩
/-- min, max of a list of data -/
def okMin (ds : List D) : Bool := match ds with
  | [] => false
  | _ => PyData.plainAll ds && decide (PyData.depthAll ds ≤ 40) && ds.all (fun x => ds.all fun y => PySem.W.alike x y) && ds.all fun x => !isNoneD x
def rMinD (K : Fg) : List V → Hp → VK → Prop := fun vs H Q => ∃ F a d ds xs, vs = [V.ref a] ∧ Same F H ∧ H a = some (.lst xs) ∧ RpL K F xs (d :: ds) ∧ okMin (d :: ds) = true ∧ ∀ x, Rp K F x (PySem.W.minD d ds) → Q x H
def rMaxD (K : Fg) : List V → Hp → VK → Prop := fun vs H Q => ∃ F a d ds xs, vs = [V.ref a] ∧ Same F H ∧ H a = some (.lst xs) ∧ RpL K F xs (d :: ds) ∧ okMin (d :: ds) = true ∧ ∀ x, Rp K F x (PySem.W.maxD d ds) → Q x H

theorem Vals.get2 : ∀ {xs : List V} {us : List Value} {i : Nat} {u : Value}, Vals xs us → us[i]? = some u → ∃ x, xs[i]? = some x ∧ RelV x u
  | _, _, _, _, .nil, e => by simp at e
  | _, _, 0, _, .cons r _, e => by simp at e; subst e; exact ⟨_, rfl, r⟩
  | _, _, i + 1, u, .cons _ t, e => by
    obtain ⟨x, a, b⟩ := Vals.get2 (i := i) (u := u) t (by simpa using e)
    exact ⟨x, by simpa using a, b⟩
theorem RpL.get2 {K : Fg} {F : Hp} : ∀ {vs : List V} {ds : List D} {i : Nat} {v : V}, RpL K F vs ds → vs[i]? = some v → ∃ d, ds[i]? = some d ∧ Rp K F v d
  | _, _, _, _, .nil, e => by simp at e
  | _, _, 0, _, .cons h _, e => by simp at e; subst e; exact ⟨_, rfl, h⟩
  | _, _, i + 1, v, .cons _ t, e => by
    obtain ⟨d, a, b⟩ := RpL.get2 (i := i) (v := v) t (by simpa using e)
    exact ⟨d, by simpa using a, b⟩
theorem plainAll_get : ∀ {ds : List D} {i : Nat} {d : D}, PyData.plainAll ds = true → ds[i]? = some d → d.plain = true
  | [], _, _, _, e => by simp at e
  | x :: xs, 0, d, h, e => by
    have h' : x.plain = true ∧ PyData.plainAll xs = true := by simpa [PyData.plainAll] using h
    simp at e; subst e; exact h'.1
  | x :: xs, i + 1, d, h, e => by
    have h' : x.plain = true ∧ PyData.plainAll xs = true := by simpa [PyData.plainAll] using h
    exact plainAll_get (i := i) h'.2 (by simpa using e)
theorem okMin_of {d : D} {ds : List D} (h : okMin (d :: ds) = true) : PyData.plainAll (d :: ds) = true ∧ PyData.depthAll (d :: ds) ≤ 40 ∧ PySem.W.AlikeAll (d :: ds) := by
  unfold okMin at h
  simp only [Bool.and_eq_true, decide_eq_true_eq, List.all_eq_true] at h
  obtain ⟨⟨⟨h1, h2⟩, h3⟩, h4⟩ := h
  refine ⟨h1, h2, h3, fun x hx e => ?_⟩
  subst e
  have := h4 _ hx
  simp [isNoneD] at this
theorem cr_minD (hc : X.calm = true) (hu : X.A.units + 64 < cLine) : CallR X (.builtin "min") (rMinD X.K) := by
  intro pins s σ H vs us Q I r ⟨F, a, d, ds, xs, e, sf, hs, rp, ok, q⟩
  subst e
  obtain ⟨its, rv, hl, _⟩ := I.list (SqL.of hs)
  rw [Vals.ref1 r]
  obtain ⟨h1, h2, h3⟩ := okMin_of ok
  obtain ⟨as, rs⟩ := RpL.reads I sf h1 rp rv
  refine PySem.W.min_list_data (I.ok.hd hc) hl.isList (by simpa using rs) h3 (by omega) fun i v h' tk bs hi rm hk => ?_
  obtain ⟨x, ex, rx⟩ := Vals.get2 rv (by simpa using hi)
  obtain ⟨di, ed, rd⟩ := rp.get2 ex
  have I' : Inv X pins σ H { s with heap := h', toks := tk } := I.kept hk
  obtain ⟨cs, rc⟩ := Rp.reads I' sf (plainAll_get h1 ed) rd rx
  have : di = PySem.W.minD d ds := PySem.SeqAt.plain_unique _ _ _ _ _ (plainAll_get h1 ed) rc rm
  subst this
  exact ⟨x, H, I', rx, q x rd⟩
theorem cr_maxD (hc : X.calm = true) (hu : X.A.units + 64 < cLine) : CallR X (.builtin "max") (rMaxD X.K) := by
  intro pins s σ H vs us Q I r ⟨F, a, d, ds, xs, e, sf, hs, rp, ok, q⟩
  subst e
  obtain ⟨its, rv, hl, _⟩ := I.list (SqL.of hs)
  rw [Vals.ref1 r]
  obtain ⟨h1, h2, h3⟩ := okMin_of ok
  obtain ⟨as, rs⟩ := RpL.reads I sf h1 rp rv
  refine PySem.W.max_list_data (I.ok.hd hc) hl.isList (by simpa using rs) h3 (by omega) fun i v h' tk bs hi rm hk => ?_
  obtain ⟨x, ex, rx⟩ := Vals.get2 rv (by simpa using hi)
  obtain ⟨di, ed, rd⟩ := rp.get2 ex
  have I' : Inv X pins σ H { s with heap := h', toks := tk } := I.kept hk
  obtain ⟨cs, rc⟩ := Rp.reads I' sf (plainAll_get h1 ed) rd rx
  have : di = PySem.W.maxD d ds := PySem.SeqAt.plain_unique _ _ _ _ _ (plainAll_get h1 ed) rc rm
  subst this
  exact ⟨x, H, I', rx, q x rd⟩
def gMin : List D → Option Sl
  | [.list (d :: ds)] => if okMin (d :: ds) = true then some (.val (PySem.W.minD d ds)) else none
  | _ => none
def gMax : List D → Option Sl
  | [.list (d :: ds)] => if okMin (d :: ds) = true then some (.val (PySem.W.maxD d ds)) else none
  | _ => none
theorem cl_min : CallL X (rMinD X.K) gMin := by
  intro B l F H vs ds rc Q w r hg q
  unfold gMin at hg
  split at hg
  · rename_i d es
    by_cases h : okMin (d :: es) = true
    · rw [if_pos h] at hg
      cases hg
      cases r with
      | cons r0 t =>
        cases t
        cases r0 with
        | lst h1 r1 => exact ⟨F, _, d, es, _, rfl, w.fh, w.fh _ _ h1, r1, h, fun x rx => q x F H (w.more rx)⟩
    · rw [if_neg h] at hg; cases hg
  · cases hg
theorem cl_max : CallL X (rMaxD X.K) gMax := by
  intro B l F H vs ds rc Q w r hg q
  unfold gMax at hg
  split at hg
  · rename_i d es
    by_cases h : okMin (d :: es) = true
    · rw [if_pos h] at hg
      cases hg
      cases r with
      | cons r0 t =>
        cases t
        cases r0 with
        | lst h1 r1 => exact ⟨F, _, d, es, _, rfl, w.fh, w.fh _ _ h1, r1, h, fun x rx => q x F H (w.more rx)⟩
    · rw [if_neg h] at hg; cases hg
  · cases hg

/-! ### slices -/
def EvO (X : Cx) (E : XK) (o : Option Expr) (f : M (Option Int)) : Prop := ∃ t, PO X o t ∧ ∀ (B : Bs) (ts : List Sv) (σ : L2.St) (ρ : Env) (F H : Hp) (Q : Option Int → Hp → Prop), σ.length = ρ.length → WX X B (ts ++ zp σ ρ) F H →
  (match f ρ with
   | .ok n ρ' => σ.length = ρ'.length → ∀ F' H', WX X B (ts ++ zp σ ρ') F' H' → Q n H'
   | .ex e ρ' => σ.length = ρ'.length → ∀ c dx F' H', WX X B (ts ++ zp σ ρ') F' H' → ExR X.K X.mg F' H' e c dx → E c dx H'
   | .bad => False) → t σ H Q
def mNoPart : M (Option Int) := fun ρ => .ok none ρ
theorem eo_none : EvO X E none mNoPart := ⟨_, po_none, fun B ts σ ρ F H Q hl w h => h hl F H w⟩
def mPart (f : M Sl) : M (Option Int) := fun ρ => (f ρ).bd fun r ρ1 => match r with
  | .val (.int i) => .ok (some i) ρ1
  | _ => .bad
theorem eo_some {e : Expr} {f : M Sl} (h : Ev X E e f) : EvO X E (some e) (mPart f) := by
  obtain ⟨t, pt, qt⟩ := h
  refine ⟨_, po_some pt, fun B ts σ ρ F H Q hl w h => qt B ts σ ρ F H _ hl w ?_⟩
  unfold mPart Rs.bd at h
  cases e1 : f ρ with
  | bad => rw [e1] at h; exact h.elim
  | ex x ρ1 => rw [e1] at h; exact h
  | ok r ρ1 =>
    rw [e1] at h
    intro hl1 v F1 H1 w1
    cases r with
    | val d =>
      cases d with
      | int i =>
        cases w1.val
        exact ⟨i, rfl, h hl1 F1 H1 w1.tail⟩
      | _ => exact h.elim
    | _ => exact h.elim
def rSlP (K : Fg) : V → Option Int → Option Int → Hp → VK → Prop := fun x lo hi H Q => rSlL K x lo hi H Q ∨ (rSlA K x lo hi H Q ∨ rSlS x lo hi H Q)
theorem sl_P : L2.SlR X (rSlP X.K) := sl_list.or (sl_tupA.or sl_str)
def cutL (xs : List D) (lo hi : Option Int) : List D := (xs.drop (HT.sIx xs.length 0 lo)).take (HT.sIx xs.length xs.length hi - HT.sIx xs.length 0 lo)
theorem RpL.cut {K : Fg} {F : Hp} {vs : List V} {ds : List D} (h : RpL K F vs ds) (lo hi : Option Int) : RpL K F (cutV vs lo hi) (cutL ds lo hi) := by
  unfold cutV cutL
  rw [h.length]
  exact (h.drop _).take _
def gSl (a : D) (lo hi : Option Int) : Option Sl := match a with
  | .list xs => some (.lst (cutL xs lo hi))
  | .tuple xs => some (.val (.tuple (cutL xs lo hi)))
  | .str z => if szOk z.length = true then some (.val (.str (cutS z lo hi))) else none
  | _ => none
def mSlice (fa : M Sl) (fl fh : M (Option Int)) : M Sl := fun ρ => (fa ρ).bd fun ra ρ1 => (fl ρ1).bd fun lo ρ2 => (fh ρ2).bd fun hi ρ3 => match ra.d? with
  | some a => match gSl a lo hi with
    | some r => .ok r ρ3
    | none => .bad
  | none => .bad
theorem cut_whole {xs : List D} {lo hi : Option Int} (h : HT.sIx xs.length 0 lo = 0 ∧ HT.sIx xs.length xs.length hi = xs.length) : cutL xs lo hi = xs := by
  unfold cutL
  rw [h.1, h.2, List.drop_zero, Nat.sub_zero, List.take_length]
theorem sl_L {B : Bs} {l : List Sv} {F H : Hp} {v : V} {a : D} {lo hi : Option Int} {rc : Sl} {Q : VK} (w : W X.K X.mg B l F H) (r : Rp X.K F v a) (hg : gSl a lo hi = some rc) (q : ∀ x F' H', W X.K X.mg B ((some x, rc) :: l) F' H' → Q x H') : rSlP X.K v lo hi H Q := by
  unfold gSl at hg
  split at hg
  · cases hg
    cases r with
    | lst h1 r1 => exact .inl ⟨_, _, rfl, SqL.of (w.fh _ _ h1), fun p hp => q _ _ _ (w.new_lst (r1.cut lo hi) hp)⟩
  · rename_i xs
    cases hg
    cases r with
    | tup h1 r1 =>
      refine .inr (.inl ⟨_, _, rfl, Same.sqt w.fh h1, fun e => ?_, fun _ p hp => q _ _ _ (w.new_tup (r1.cut lo hi) hp)⟩)
      rw [r1.length] at e
      have ec := cut_whole e
      exact q _ F H (w.more (by rw [ec]; exact .tup h1 r1))
  · rename_i z
    by_cases h : szOk z.length = true
    · rw [if_pos h] at hg
      cases hg
      cases r
      exact .inr (.inr ⟨z, rfl, szOk_le h, q _ F H (w.more (.str _))⟩)
    · rw [if_neg h] at hg; cases hg
  · cases hg
theorem ev_slice {e : Expr} {lo hi : Option Expr} {fa : M Sl} {fl fh : M (Option Int)} {p2 pos : Pos} (ha : Ev X E e fa) (hl : EvO X E lo fl) (hh : EvO X E hi fh) : Ev X E (.Subscript e (.Slice lo hi none p2) pos) (mSlice fa fl fh) := by
  obtain ⟨t, pt, qt⟩ := ha
  obtain ⟨tl, ptl, qtl⟩ := hl
  obtain ⟨th, pth, qth⟩ := hh
  refine ⟨_, pe_slice sl_P pt ptl pth, fun B ts σ ρ F H Q hl w h => qt B ts σ ρ F H _ hl w ?_⟩
  unfold mSlice Rs.bd at h
  cases e1 : fa ρ with
  | bad => rw [e1] at h; exact h.elim
  | ex x ρ1 => rw [e1] at h; exact h
  | ok ra ρ1 =>
    rw [e1] at h
    simp only at h
    intro hl1 v F1 H1 w1
    refine qtl B ((some v, ra) :: ts) σ ρ1 F1 H1 _ hl1 w1 ?_
    cases e2 : fl ρ1 with
    | bad => rw [e2] at h; exact h.elim
    | ex x ρ2 => rw [e2] at h; exact fun hl2 c dx F2 H2 w2 q => h hl2 c dx F2 H2 w2.tail q
    | ok lo' ρ2 =>
      rw [e2] at h
      simp only at h
      intro hl2 F2 H2 w2
      refine qth B ((some v, ra) :: ts) σ ρ2 F2 H2 _ hl2 w2 ?_
      cases e3 : fh ρ2 with
      | bad => rw [e3] at h; exact h.elim
      | ex x ρ3 => rw [e3] at h; exact fun hl3 c dx F3 H3 w3 q => h hl3 c dx F3 H3 w3.tail q
      | ok hi' ρ3 =>
        rw [e3] at h
        simp only at h
        intro hl3 F3 H3 w3
        cases da : ra.d? with
        | none => rw [da] at h; exact h.elim
        | some a =>
          rw [da] at h
          simp only at h
          cases eg : gSl a lo' hi' with
          | none => rw [eg] at h; exact h.elim
          | some rc =>
            rw [eg] at h
            obtain ⟨F4, w4, _⟩ := W.freeze w3 da
            exact sl_L w4.tail w4.val eg fun x F' H' w' => h hl3 x F' H' w'

/-! ### what a name owns -/
/-- x[i], x's own list read as it stands -/
def mIxO (i : Nat) (fb : M Sl) : M Sl := fun ρ => match ρ[i]? with
  | some (.lst _) => (fb ρ).bd fun rb ρ1 => match ρ1[i]? with
    | some (.lst ds) => match rb with
      | .val (.int k) => match L2.atI ds k with
        | some d => .ok (.val d) ρ1
        | none => .bad
      | _ => .bad
    | _ => .bad
  | _ => .bad
theorem ev_ixO (i : Nat) {x : Str} {px pos : Pos} {b : Expr} {fb : M Sl} (hb : Ev X E b fb) (hN : X.N[i]? = some x := by rfl) (hv : Vis X.env.scope x := by first | exact Or.inl rfl | exact Or.inr (Or.inl rfl) | exact Or.inr (Or.inr rfl))
    (hd : (x == ("__debug__" : Str)) = false := by decide) (hcd : (x == ("__classdict__" : Str)) = false := by decide) (hs : PlainIx b := by exact fun _ _ => rfl) : Ev X E (.Subscript (.Name x px) b pos) (mIxO i fb) := by
  obtain ⟨tb, pb, qb⟩ := hb
  refine ⟨_, pe_ix ix_list (pe_var hN hv hd hcd) pb hs, fun B ts σ ρ F H Q hl w h => ?_⟩
  unfold mIxO Rs.bd at h
  cases e0 : ρ[i]? with
  | none => rw [e0] at h; exact h.elim
  | some s =>
    rw [e0] at h
    cases s with
    | lst ds0 =>
      simp only at h
      obtain ⟨o, l, h1, w1, _⟩ := w.at hl e0
      obtain ⟨p, vs0, rfl, _⟩ := w1.lst
      refine ⟨_, h1, qb B ts σ ρ F H _ hl w ?_⟩
      cases e1 : fb ρ with
      | bad => rw [e1] at h; exact h.elim
      | ex x ρ1 => rw [e1] at h; exact h
      | ok rb ρ1 =>
        rw [e1] at h
        simp only at h
        intro hl1 u F1 H1 w1
        cases e2 : ρ1[i]? with
        | none => rw [e2] at h; exact h.elim
        | some s1 =>
          rw [e2] at h
          cases s1 with
          | lst ds =>
            simp only at h
            cases rb with
            | val d0 =>
              cases d0 with
              | int k =>
                simp only at h
                cases e3 : L2.atI ds k with
                | none => rw [e3] at h; exact h.elim
                | some d =>
                  rw [e3] at h
                  cases w1.val
                  have w2 := w1.tail
                  obtain ⟨o2, l2, h2, w3, _⟩ := W.at w2 hl1 e2
                  rw [h1] at h2
                  cases h2
                  obtain ⟨p', vs, e4, hp, rp, _⟩ := w3.lst
                  cases e4
                  obtain ⟨v, ev, rv⟩ := rp.atI e3
                  exact ⟨_, vs, k, v, rfl, rfl, SqL.of hp, ev, h hl1 v F1 H1 (w2.more rv)⟩
              | _ => exact h.elim
            | _ => exact h.elim
          | _ => exact h.elim
    | _ => exact h.elim
/-- len(x) -/
def mLenO (i : Nat) : M Sl := fun ρ => match ρ[i]? with
  | some (.lst ds) => .ok (.val (.int ds.length)) ρ
  | _ => .bad
theorem ev_lenO (i : Nat) {x : Str} {p pos p2 : Pos} (hm : X.mg "len" = none) (hg : Gl X "len" := by rfl) (hN : X.N[i]? = some x := by rfl) (hv : Vis X.env.scope x := by first | exact Or.inl rfl | exact Or.inr (Or.inl rfl) | exact Or.inr (Or.inr rfl))
    (hd : (x == ("__debug__" : Str)) = false := by decide) (hcd : (x == ("__classdict__" : Str)) = false := by decide) (he : starEach [.Name x p2] X.env = (false, eval (.Name x p2) X.env) :: starEach [] X.env := by rfl) : Ev X E (.Call (.Name "len" p) [.Name x p2] [] pos) (mLenO i) := by
  refine ⟨_, pe_callB call_len hg hm boot_len (pa_cons (pe_var hN hv hd hcd) pa_nil he) (by decide) (by decide) he rfl, fun B ts σ ρ F H Q hl w h => ?_⟩
  unfold mLenO at h
  split at h
  · rename_i ds e
    obtain ⟨o, l, h1, w1, k⟩ := w.at hl e
    obtain ⟨a, vs, rfl, hp, rp, _⟩ := w1.lst
    exact ⟨_, h1, _, _, rfl, .inl ⟨_, SqL.of hp, rp.length.symm⟩, h hl _ F H (w.more (.int _))⟩
  · exact h.elim
/-- x[i] = e -/
def mSetIx (i : Nat) (fi fe : M Sl) : Ms := fun ρ => (fe ρ).st fun r ρ1 => match r.d? with
  | some d => match ρ1[i]? with
    | some (.lst _) => (fi ρ1).st fun ri ρ2 => match ri with
      | .val (.int k) => match ρ2[i]? with
        | some (.lst ds) => match ixN ds.length k with
          | some j => .nx (ρ2.set i (.lst (ds.set j d)))
          | none => .bad
        | _ => .bad
      | _ => .bad
    | _ => .bad
  | none => .bad
theorem ss_setIx (i : Nat) {pn : List Nat} {x : Str} {px pt pos : Pos} {b e : Expr} {fi fe : M Sl} (he : Ev X E e fe) (hb : Ev X E b fi) (hN : X.N[i]? = some x := by rfl) (hv : Vis X.env.scope x := by first | exact Or.inl rfl | exact Or.inr (Or.inl rfl) | exact Or.inr (Or.inr rfl))
    (hd : (x == ("__debug__" : Str)) = false := by decide) (hcd : (x == ("__classdict__" : Str)) = false := by decide)
    (ha : ∀ v, assign (.Subscript (.Name x px) b pt) X.env v = (do
      let ov ← holding [v] (eval (.Name x px) X.env)
      let iv ← holding [v, ov] (eval b X.env)
      standAt pt
      holding [v, ov, iv] (setItem ov iv v)
      release [v, ov, iv] []) := by intro _; rfl)
    (hs : swapsWithSole [.Subscript (.Name x px) b pt] e pos.line X.env = pure false := by rfl) (hw : swappedStores [.Subscript (.Name x px) b pt] e X.env = pure none := by rfl)
    (h1 : (assignEach [.Subscript (.Name x px) b pt] X.env).map (·.2) = [assign (.Subscript (.Name x px) b pt) X.env] := by rfl) : Ss X E pn (.Assign [.Subscript (.Name x px) b pt] e pos) (mSetIx i fi fe) := by
  obtain ⟨te, pe, qe⟩ := he
  obtain ⟨tb, pb, qb⟩ := hb
  refine ⟨_, ps_asg pe (pg_sub (pe_var hN hv hd hcd) pb set_list ha) hs hw h1, fun B ts σ ρ F H D hl w h => qe B ts σ ρ F H _ hl w ?_⟩
  unfold mSetIx Rs.st at h
  cases e1 : fe ρ with
  | bad => rw [e1] at h; exact h.elim
  | ex x ρ1 => rw [e1] at h; exact fun hl c dx F H w q => h c dx σ F H rfl hl (Pins.refl _ _) w q
  | ok r ρ1 =>
    rw [e1] at h
    simp only at h
    intro hl1 v F1 H1 w1
    cases da : r.d? with
    | none => rw [da] at h; exact h.elim
    | some d =>
      rw [da] at h
      simp only at h
      obtain ⟨F2, w2, _⟩ := w1.freeze da
      cases e0 : ρ1[i]? with
      | none => rw [e0] at h; exact h.elim
      | some s =>
        rw [e0] at h
        cases s with
        | lst ds0 =>
          simp only at h
          obtain ⟨o, l, g1, w3, _⟩ := W.at (ts := (some v, .val d) :: ts) w2 hl1 e0
          obtain ⟨p, vs0, rfl, _⟩ := w3.lst
          refine ⟨_, g1, qb B ((some v, .val d) :: ts) σ ρ1 F2 H1 _ hl1 w2 ?_⟩
          cases e2 : fi ρ1 with
          | bad => rw [e2] at h; exact h.elim
          | ex x ρ2 => rw [e2] at h; exact fun hl c dx F H w q => h c dx σ F H rfl hl (Pins.refl _ _) w.tail q
          | ok ri ρ2 =>
            rw [e2] at h
            simp only at h
            intro hl2 u F3 H3 w4
            cases ri with
            | val d0 =>
              cases d0 with
              | int k =>
                simp only at h
                cases e3 : ρ2[i]? with
                | none => rw [e3] at h; exact h.elim
                | some s2 =>
                  rw [e3] at h
                  cases s2 with
                  | lst ds =>
                    simp only at h
                    cases e4 : ixN ds.length k with
                    | none => rw [e4] at h; exact h.elim
                    | some j =>
                      rw [e4] at h
                      cases w4.val
                      have w5 := w4.tail
                      have rv : Rp X.K F3 v d := W.val w5
                      obtain ⟨o2, l2, g2, w6, kk⟩ := W.at (ts := ts) w5.tail hl2 e3
                      rw [g1] at g2
                      cases g2
                      obtain ⟨p', vs, e5, hp, rp, _⟩ := w6.lst
                      cases e5
                      refine ⟨_, vs, k, j, rfl, rfl, hp, by rw [rp.length]; exact e4, ?_⟩
                      refine h σ F3 _ rfl (set_len hl2) (Pins.refl _ _) (kk ?_)
                      exact w6.put (.lst hp rp) (.lst upd_same (rp.set rv j))
                  | _ => exact h.elim
              | _ => exact h.elim
            | _ => exact h.elim
        | _ => exact h.elim
/-- a method of what a name owns -/
def MtL (X : Cx) (r : V → List V → Hp → VK → Prop) (g : Sl → List D → Option (Sl × Sl)) : Prop := ∀ (B : Bs) (l : List Sv) (F H : Hp) (v : V) (vs : List V) (s s' : Sl) (ds : List D) (rc : Sl) (Q : VK), W X.K X.mg B ((some v, s) :: l) F H → RpL X.K F vs ds → g s ds = some (s', rc) →
  (∀ x F' H', W X.K X.mg B ((some x, rc) :: (some v, s') :: l) F' H' → Q x H') → r v vs H Q
def Sl.ty : Sl → String
  | .lst _ => "list"
  | .dK _ => "dict"
  | .dT _ => "dict"
  | _ => ""
def mMeth (i : Nat) (T : String) (g : Sl → List D → Option (Sl × Sl)) (fs : M (List Sl)) : M Sl := fun ρ => match ρ[i]? with
  | some s => match s.ty == T with
    | true => (fs ρ).bd fun rs ρ1 => match dAll rs with
      | some ds => match ρ1[i]? with
        | some s1 => match g s1 ds with
          | some (s', rc) => .ok rc (ρ1.set i s')
          | none => .bad
        | none => .bad
      | none => .bad
    | false => .bad
  | none => .bad
theorem W.tyv {K : Fg} {mg : Str → Option Value} {B : Bs} {m : List Sv} {F H : Hp} {o : Option V} {s : Sl} {T : String} (w : W K mg B ((o, s) :: m) F H) (hT : T ≠ "") (h : (s.ty == T) = true) : ∃ v, o = some v ∧ tyV K T v H := by
  have h' : s.ty = T := by simpa using h
  subst h'
  cases s with
  | lst ds =>
    obtain ⟨p, vs, rfl, hp, _⟩ := w.lst
    exact ⟨_, rfl, .inl ⟨rfl, _, SqL.of hp⟩⟩
  | dK ds =>
    obtain ⟨p, vs, rfl, hp, _⟩ := w.dK
    exact ⟨_, rfl, .inr (.inr (.inl ⟨rfl, .inl ⟨_, hp⟩⟩))⟩
  | dT ds =>
    obtain ⟨p, vs, rfl, hp, _⟩ := w.dT
    exact ⟨_, rfl, .inr (.inr (.inl ⟨rfl, .inr ⟨_, hp⟩⟩))⟩
  | _ => exact absurd rfl hT
theorem ev_meth (i : Nat) {T id : String} {name : Str} {r : V → List V → Hp → VK → Prop} {g : Sl → List D → Option (Sl × Sl)} {x : Str} {px apos cpos : Pos} {e : Expr} {es : List Expr} {mv : List (Option Nat)} {fs : M (List Sl)} (pa : PlainAttrs T) (slot : Slot T name id) (hty : typeOf (.builtin id) = pure (.type "method_descriptor"))
    (hm : MtR X id r) (hr : MtL X r g) (ha : EvA X E (e :: es) mv fs) (hT : T ≠ "" := by decide) (hN : X.N[i]? = some x := by rfl) (hv : Vis X.env.scope x := by first | exact Or.inl rfl | exact Or.inr (Or.inl rfl) | exact Or.inr (Or.inr rfl))
    (hd : (x == ("__debug__" : Str)) = false := by decide) (hcd : (x == ("__classdict__" : Str)) = false := by decide)
    (hbase : attributeBase (.Name x px) name X.env (eval (.Name x px) X.env) = eval (.Name x px) X.env := by rfl)
    (hfew : ((backTo cpos (starEach (e :: es) X.env)).all (fun x => !x.1) && (backToKw cpos (keywordEach [] X.env)).all (fun x => x.1.isSome)
      && decide ((e :: es).length + ([] : List Keyword).length + (if ([] : List Keyword).isEmpty then 0 else 1) < 30)) = true := by rfl)
    (hline : (apos.endLine == cpos.line) = true := by rfl) (hs : starEach (e :: es) X.env = (false, eval e X.env) :: starEach es X.env := by rfl) (hplain : (backTo cpos (starEach es X.env)).any (·.1) = false := by rfl) :
    Ev X E (.Call (.Attribute (.Name x px) name apos) (e :: es) [] cpos) (mMeth i T g fs) := by
  obtain ⟨t, pt, qt⟩ := ha
  refine ⟨_, pe_bm pa slot hty hm (pe_var hN hv hd hcd) pt hbase hfew hline hs hplain, fun B ts σ ρ F H Q hl w h => ?_⟩
  unfold mMeth Rs.bd at h
  cases e0 : ρ[i]? with
  | none => rw [e0] at h; exact h.elim
  | some s =>
    rw [e0] at h
    simp only at h
    cases et : (s.ty == T) with
    | false => rw [et] at h; exact h.elim
    | true =>
      rw [et] at h
      simp only at h
      obtain ⟨o, l, g1, w1, _⟩ := w.at hl e0
      obtain ⟨v, rfl, tv⟩ := w1.tyv hT et
      refine ⟨v, g1, tv, qt B ts σ ρ F H _ hl w ?_⟩
      cases e1 : fs ρ with
      | bad => rw [e1] at h; exact h.elim
      | ex x ρ1 => rw [e1] at h; exact h
      | ok rs ρ1 =>
        rw [e1] at h
        simp only at h
        intro hl1 vs F1 H1 hvs _ _ w2
        cases e2 : dAll rs with
        | none => rw [e2] at h; exact h.elim
        | some ds =>
          rw [e2] at h
          simp only at h
          obtain ⟨F2, w3, s2, r2⟩ := w2.datas hvs e2
          cases e3 : ρ1[i]? with
          | none => rw [e3] at h; exact h.elim
          | some s1 =>
            rw [e3] at h
            simp only at h
            obtain ⟨o2, l2, g2, w4, kk⟩ := W.at w3 hl1 e3
            rw [g1] at g2
            cases g2
            cases eg : g s1 ds with
            | none => rw [eg] at h; exact h.elim
            | some pr =>
              obtain ⟨s', rc⟩ := pr
              rw [eg] at h
              refine hr B _ F2 H1 v vs s1 s' ds rc Q w4 r2 eg fun x F' H' w' => h (set_len hl1) x F' H' ?_
              exact kk (ts' := (some x, rc) :: ts) (w'.perm (.swap _ _ _))
def gAppend : Sl → List D → Option (Sl × Sl)
  | .lst ds, [d] => if szOk (ds.length + 1) = true then some (.lst (ds ++ [d]), .val .none) else none
  | _, _ => none
theorem ml_append : MtL X rAppend gAppend := by
  intro B l F H v vs s s' ds rc Q w r hg q
  unfold gAppend at hg
  split at hg
  · rename_i es d
    by_cases h : szOk (es.length + 1) = true
    · rw [if_pos h] at hg
      cases hg
      cases r with
      | cons r0 t =>
        cases t
        obtain ⟨p, us, e, hp, rp, _⟩ := w.lst
        cases e
        refine ⟨_, us, _, rfl, rfl, hp, by rw [rp.length]; exact szOk_le h, q _ F _ (W.more ?_ .non)⟩
        exact w.put (.lst hp rp) (.lst upd_same (rp.app (.cons r0 .nil)))
    · rw [if_neg h] at hg; cases hg
  · cases hg
def gInsert : Sl → List D → Option (Sl × Sl)
  | .lst ds, [.int i, d] => if szOk (ds.length + 1) = true ∧ tru (0 ≤ i ∧ i < 2 ^ 63) = true then some (.lst (ds.take i.toNat ++ [d] ++ ds.drop i.toNat), .val .none) else none
  | _, _ => none
def rInsert : V → List V → Hp → VK → Prop := fun x vs H Q => ∃ (l : Addr) (xs : List V) (i : Int) (y : V), x = .ref l ∧ vs = [.int i, y] ∧ H l = some (.lst xs) ∧ xs.length < sizeLine ∧ 0 ≤ i ∧ i < 2 ^ 63 ∧
    Q .non (upd H l (.lst (xs.take i.toNat ++ [y] ++ xs.drop i.toNat)))
theorem ml_insert : MtL X rInsert gInsert := by
  intro B l F H v vs s s' ds rc Q w r hg q
  unfold gInsert at hg
  split at hg
  · rename_i es i d
    by_cases h : szOk (es.length + 1) = true ∧ tru (0 ≤ i ∧ i < 2 ^ 63) = true
    · rw [if_pos h] at hg
      cases hg
      cases r with
      | cons r0 t =>
        cases t with
        | cons r1 t =>
          cases t
          cases r0
          obtain ⟨p, us, e, hp, rp, _⟩ := w.lst
          cases e
          refine ⟨_, us, i, _, rfl, rfl, hp, by rw [rp.length]; exact szOk_le h.1, (tru_iff.mp h.2).1, (tru_iff.mp h.2).2, q _ F _ (W.more ?_ .non)⟩
          exact w.put (.lst hp rp) (.lst upd_same (((rp.take _).app (.cons r1 .nil)).app (rp.drop _)))
    · rw [if_neg h] at hg; cases hg
  · cases hg
def gExtend : Sl → List D → Option (Sl × Sl)
  | .lst ds, [.list es] => if szOk (ds.length + es.length) = true then some (.lst (ds ++ es), .val .none) else none
  | _, _ => none
theorem ml_extend : MtL X rExtend gExtend := by
  intro B l F H v vs s s' ds rc Q w r hg q
  unfold gExtend at hg
  split at hg
  · rename_i es zs
    by_cases h : szOk (es.length + zs.length) = true
    · rw [if_pos h] at hg
      cases hg
      cases r with
      | cons r0 t =>
        cases t
        cases r0 with
        | lst h1 r1 =>
          obtain ⟨p, us, e, hp, rp, _⟩ := w.lst
          cases e
          refine ⟨_, _, us, _, rfl, rfl, hp, w.fh _ _ h1, by rw [rp.length, r1.length]; exact szOk_le h, q _ F _ (W.more ?_ .non)⟩
          exact w.put (.lst hp rp) (.lst upd_same (rp.app r1))
    · rw [if_neg h] at hg; cases hg
  · cases hg
end
end
end Fx

set_option Elab.async false
set_option linter.all false
set_option maxRecDepth 100000
namespace Fx
open PySem PySem.Spec PyProof.Rows L2
noncomputable section
/-! ### enumerate(tuple) -/
set_option maxHeartbeats 1000000 in
theorem meets_enum1 {v : Value} {o : Obj} {H : Heap → Prop} (B : Begins v o H) :
    Meets (Builtin.«enumerate.__new__» ⟨[.type "enumerate", v], []⟩) (fun _ R s => H s.heap ∧
      R (.ok (.ret (.ref (s.heap.push o).objs.size))) { s with heap := (s.heap.push o).push { cls := .type "enumerate", data := .fields #[.none, .bool false, .ref s.heap.objs.size, rawInt 0, .none, .none] } }) :=
  .of_wp fun prog w A R s h => by
    obtain ⟨hp, g, d, tk, os⟩ := s; obtain ⟨h1, h⟩ := h
    have hsub := sub_enumerate
    have q1 : ∀ {A' : Around} {E : Value → Shared → Prop} {Q : Value → Shared → Prop}, Q (.ref hp.objs.size) ⟨hp.push o, g, d, tk, os⟩ → wpAny (model prog w) A' (pyIter v) Q E ⟨hp, g, d, tk, os⟩ :=
      fun q => B.iter prog w _ _ ⟨hp, g, d, tk, os⟩ _ h1 q
    wp_walk using q1
    refine wpAny_stack_any fun st => wpAny_pure ?_
    split
    · rename_i c _ _ _ _ _
      cases (c == Value.type "enumerate")
      · wp_walk using q1
        exact ⟨_, rfl, h⟩
      · wp_walk using q1
        exact ⟨_, rfl, h⟩
    · wp_walk using q1
      exact ⟨_, rfl, h⟩
theorem call_enum1 {prog : Program} {w : World} {A : Around} {E : Value → Shared → Prop} {s : Shared} {v : Value} {o : Obj} {H : Heap → Prop} {Q : Value → Shared → Prop} (B : Begins v o H) (h1 : H s.heap)
    (h : ∀ h', IsEnum h' (s.heap.objs.size + 1) s.heap.objs.size 0 .none → h'.get? s.heap.objs.size = some o → h'.objs.size = s.heap.objs.size + 2 →
      (∀ b o, s.heap.get? b = some o → h'.get? b = some o) → Q (.ref (s.heap.objs.size + 1)) { s with heap := h' }) :
    wpAny (model prog w) A (call (.type "enumerate") [v]) Q E s := by
  refine callType_new F.called_enumerate (by decide) (F.typeCall_enumerate_1 _) (F.newCall_enumerate_1 _) (fun obj => F.args_object_init_2 obj _) F.entry_enumerate_new
    (meets_enum1 B) ⟨h1, ?_⟩
  have hz : (s.heap.push o).objs.size = s.heap.objs.size + 1 := Heap.size_push ..
  show _ ∧ _
  rw [hz]
  have he : IsEnum ((s.heap.push o).push { cls := .type "enumerate", data := .fields #[.none, .bool false, .ref s.heap.objs.size, rawInt 0, .none, .none] }) (s.heap.objs.size + 1) s.heap.objs.size 0 .none := by
    have := Heap.get?_push_size (s.heap.push o) (o := { cls := .type "enumerate", data := .fields #[.none, .bool false, .ref s.heap.objs.size, rawInt 0, .none, .none] }) rfl
    rw [hz] at this; exact this
  refine ⟨⟨_, he, rfl⟩, h _ he (Heap.get?_push_of_some _ (Heap.get?_push_size _ B.free)) (by rw [Heap.size_push, hz]) fun b o x => Heap.get?_push_of_some _ (Heap.get?_push_of_some _ x)⟩
/-- the tuple at a as it stands at each turn, each item in a new pair -/
def IteT (K : Fg) (a : Addr) : It :=
  ⟨fun i H => ∃ (xs : List V) (x : V), SqT K H a xs ∧ xs[i]? = some x, fun i H v H' => ∃ T x, v = .ref T ∧ H T = none ∧ H' = upd H T (.tup [.int (i : Nat), x]) ∧ ∀ xs, SqT K H a xs → xs[i]? = some x, fun i H => ∃ xs : List V, SqT K H a xs ∧ xs.length ≤ i⟩
theorem turn_enumT {P : Program} {w : World} {K : Fg} {elts : List Expr} {kk : Nat} {tpos : Pos} (a e it : Addr) :
    Turn P w K (.Tuple elts kk tpos) (IteT K a) [e, it] e (fun i h => (∃ old, IsEnum h e it ((i : Nat) : Int) old) ∧ h.IsTupleIter it a i ∧ e ≠ it ∧ a ≠ it ∧ e ≠ a) where
  mem := by simp
  obj := fun i h st b hb => by
    obtain ⟨⟨old, he⟩, ⟨o, ho, hc, hd⟩, _⟩ := st
    have e' : b = e ∨ b = it := by simpa using hb
    rcases e' with z | z
    · rw [z]; exact ⟨_, he, fun v q => nomatch q⟩
    · rw [z]; exact ⟨o, ho, fun v q => by rw [hd] at q; cases q⟩
  keep := fun i h h' st k => let ⟨⟨old, he⟩, hi, hne⟩ := st; ⟨⟨old, k e (by simp) _ he⟩, hi.at fun o q => k it (by simp) o q, hne⟩
  item := by
    intro X hP hw hK hc i pins s σ H E I hf st hg
    subst hP hw hK
    obtain ⟨⟨old, he⟩, hit, hne, ha, hea⟩ := st
    obtain ⟨xs, x, hq, hx⟩ := hg
    obtain ⟨its, rv, p, hz⟩ := I.tuple hq
    obtain ⟨u, hu, ru⟩ := rv.get hx
    have hel : e < s.heap.objs.size := Heap.lt_size he
    have hil : it < s.heap.objs.size := by obtain ⟨_, q, _⟩ := hit; exact Heap.lt_size q
    have p' : s.heap.IsTuple a its.toArray := p
    have hlt : i < its.toArray.size := by
      have := (List.getElem?_eq_some_iff.mp hu).1
      simpa using this
    refine wpAny_pyNext_enum_itemD (Draws.tuple (prog := X.prog) (w := X.w) (A := X.A.in1) (I.ok.hd hc) it a ha its.toArray) he ⟨hit, p'⟩ hlt hne (by simp [hne, hea]) fun u' h' tk hu' ho hit' hT hsz hk => ?_
    have : u' = u := by
      have h1 : its.toArray[i]? = some u := by simpa using hu
      exact Option.some.inj (hu'.symm.trans h1)
    subst this
    refine ⟨_, rfl, wpAny_letOwnedTupleGo_enum (s := { s with heap := h', toks := tk + 1 }) ho fun h'' he' sb => ?_⟩
    have hT2 : h''.get? s.heap.objs.size = some { cls := .type "tuple", data := .seq #[.int i tk, u'] } := (sb.2 _ (Nat.ne_of_gt hel)).trans hT
    have new : ObjOk X.prog X.w (upd H s.heap.objs.size (.tup [.int (i : Nat), x])) h'' s.heap.objs.size (.tup [.int (i : Nat), x]) :=
      ⟨by show 2 ≤ sizeLine; decide, [.int i tk, u'], .cons ⟨_, rfl⟩ (.cons ru .nil), ⟨_, hT2, rfl, _, rfl⟩⟩
    have I1 : Inv X pins σ (upd H s.heap.objs.size (.tup [.int (i : Nat), x])) { s with heap := h'', toks := tk + 1 } :=
      I.turnedNew (ch := [e, it]) (fun b ob hb q => (sb.2 b (fun z => hb (by simp [z]))).trans (hk b ob (fun z => hb (by simp [z])) (fun z => hb (by simp [z])) q)) hf (Nat.le_refl _) new
    refine ⟨.ref s.heap.objs.size, _, I1, rfl, ⟨_, x, rfl, I.hok.fresh (Nat.le_refl _), rfl, fun ys hy => by rw [I.tuple_inj hy hq]; exact hx⟩, ⟨⟨u', ?_⟩, hit'.1.at fun o q => (sb.2 it (Ne.symm hne)).trans q, hne, ha, hea⟩, fun b hb => ?_⟩
    · have e1 : ((i + 1 : Nat) : Int) = (i : Int) + 1 := by omega
      rw [e1]; exact he'
    · have hb' : b < s.heap.objs.size := by
        have e' : b = e ∨ b = it := by simpa using hb
        rcases e' with z | z
        · rw [z]; exact hel
        · rw [z]; exact hil
      rw [upd_ne (Nat.ne_of_lt hb')]
      exact (hf b hb).1
  done := by
    intro X hP hw hK hc i pins s σ H E I hf st hg
    subst hP hw hK
    obtain ⟨⟨old, he⟩, hit, hne, ha, hea⟩ := st
    obtain ⟨xs, hq, hx⟩ := hg
    obtain ⟨its, rv, p, hz⟩ := I.tuple hq
    obtain ⟨f0, f1, f2, f3, f4, f5⟩ := hf it (by simp)
    have hl := rv.length
    have p' : s.heap.IsTuple a its.toArray := p
    have hT : s.TypeIs (.ref e) "enumerate" := ⟨_, he, rfl⟩
    unfold pyNext
    refine wpAny_bind (wpAny_attempt (wpAny_callSpecial?_slot (name := Str.ofString "__next__") hT F.slot_enumerate_next
      (wpAny_call_entry F.slot_enumerate_next hT F.entry_enumerate_next ?_ (F.args_enumerate_next_1 _))))
    show wpAny _ _ (field (.ref e) 2 >>= _) _ _ _
    refine wpAny_bind (wpAny_field he rfl (x := .ref it) rfl ?_)
    refine wpAny_bind (wpAny_nextOf_tuple_end (I.ok.hd hc) hit p' (by simp; omega) fun h' x he' hx' => ?_)
    obtain ⟨o, ho, hc⟩ := hx'
    refine wpAny_bind (wpAny_isInstance (T := "StopIteration") (b := true) ⟨o, ho, hc⟩ isSubtype_stop ?_)
    exact wpAny_pure ⟨rfl, I.turned (t' := s.toks) (fun b o hb q => he' b o hb q) f0 f1 f3 f4 f5⟩
  self := fun A i s Q E st h => let ⟨⟨_, he⟩, _⟩ := st; wpAny_pyIter_enum he h
def iEnumA (K : Fg) (ta : TA) : TI := fun σ H R => ta σ H fun vs H1 => ∃ a, vs = [.ref a] ∧ (((∃ xs, SqL K H1 a xs) ∧ R (Ite K a) H1) ∨ ((∃ xs, SqT K H1 a xs) ∧ R (IteT K a) H1))
theorem pi_enumA {X : Cx} {e : Expr} {ta : TA} {p pos tpos : Pos} {elts : List Expr} {kk : Nat} (hg : Gl X "enumerate") (hm : X.mg "enumerate" = none) (ha : PA X [e] ta) (hs : starEach [e] X.env = [(false, eval e X.env)] := by rfl) :
    PI X (.Tuple elts kk tpos) (.Call (.Name "enumerate" p) [e] [] pos) (iEnumA X.K ta) := by
  refine ⟨fun pins s σ H R I h => ?_⟩
  refine Call_ (ld_blt I hg hm boot_enumerate (PyProof.Rows.callWith_type1 (thn (ha.run pos pins s σ H _ I h) fun us s1 ⟨vs, H1, I1, r1, q1⟩ => ?_) hs rfl))
  obtain ⟨a, ex, q⟩ := q1
  subst ex
  cases r1 with
  | cons r rr =>
    cases rr
    cases r
    have fr : ∀ b, b ∈ [s1.heap.objs.size + 1, s1.heap.objs.size] → FpOk X pins H1 b := fun b hb => by
      have e' : b = s1.heap.objs.size + 1 ∨ b = s1.heap.objs.size := by simpa using hb
      have hle : s1.heap.objs.size ≤ b := by
        rcases e' with z | z
        · rw [z]; exact Nat.le_add_right _ _
        · rw [z]; exact Nat.le_refl _
      exact I1.fpOk hle (I1.hok.fresh hle)
    rcases q with ⟨⟨xs, hq⟩, q⟩ | ⟨⟨xs, hq⟩, q⟩
    · obtain ⟨its, rv, p', hz⟩ := I1.list hq
      refine call_enumerate_list p'.isList fun h' he hit hsz hk => wpAny_pyIter_enum he ?_
      have I2 : Inv X pins σ H1 { s1 with heap := h' } := I1.kept (t' := s1.toks) hk
      exact ⟨s1.heap.objs.size + 1, [s1.heap.objs.size + 1, s1.heap.objs.size], _, _, H1, rfl, I2, turn_enum a (s1.heap.objs.size + 1) s1.heap.objs.size, ⟨⟨.none, he⟩, hit, Nat.succ_ne_self _⟩, fr, q⟩
    · obtain ⟨its, rv, p', hz⟩ := I1.tuple hq
      have p2 : s1.heap.IsTuple a its.toArray := p'
      have hal : a < s1.heap.objs.size := by obtain ⟨_, q, _⟩ := id p2; exact Heap.lt_size q
      refine call_enum1 (begins_tuple a its.toArray) p2 fun h' he hit hsz hk => wpAny_pyIter_enum he ?_
      have I2 : Inv X pins σ H1 { s1 with heap := h' } := I1.kept (t' := s1.toks) hk
      exact ⟨s1.heap.objs.size + 1, [s1.heap.objs.size + 1, s1.heap.objs.size], _, _, H1, rfl, I2, turn_enumT a (s1.heap.objs.size + 1) s1.heap.objs.size, ⟨⟨.none, he⟩, ⟨_, hit, rfl, rfl⟩, Nat.succ_ne_self _, Nat.ne_of_lt hal, Nat.ne_of_gt (Nat.lt_succ_of_lt hal)⟩, fr, q⟩

section
variable {X : Cx} {E : XK}
theorem feed_enum {a : Addr} {ds : List D} : Feed X (Ite X.K a) ((List.range ds.length).zipWith (fun i d => .tuple [.int (i : Nat), d]) ds) [(some (.ref a), .val (.list ds))] := by
  intro i B l F H w
  cases W.val w with
  | lst h r =>
    rename_i xs
    have q : SqL X.K H a xs := SqL.of (w.fh _ _ h)
    refine ⟨fun d hd => ?_, fun hi => ⟨xs, q, by rw [r.length]; simpa using hi⟩⟩
    rw [List.getElem?_zipWith] at hd
    have hi : i < ds.length := by
      by_cases z : i < ds.length
      · exact z
      · rw [List.getElem?_eq_none (l := ds) (by omega)] at hd
        cases hr : (List.range ds.length)[i]? <;> rw [hr] at hd <;> cases hd
    rw [List.getElem?_range hi, List.getElem?_eq_getElem hi] at hd
    have hd' : PyData.tuple [.int (i : Nat), ds[i]] = d := Option.some.inj hd
    subst hd'
    obtain ⟨v, e1, e2⟩ := r.get (List.getElem?_eq_getElem hi)
    refine ⟨⟨xs, v, q, e1⟩, fun x H' hy => ?_⟩
    obtain ⟨T, y, rfl, hT, rfl, hy⟩ := hy
    have : v = y := Option.some.inj (e1.symm.trans (hy xs q))
    subst this
    exact ⟨_, W.new_tup w (.cons (.int _) (.cons e2 .nil)) hT⟩
theorem feed_enumT {a : Addr} {ds : List D} : Feed X (IteT X.K a) ((List.range ds.length).zipWith (fun i d => .tuple [.int (i : Nat), d]) ds) [(some (.ref a), .val (.tuple ds))] := by
  intro i B l F H w
  cases W.val w with
  | tup h r =>
    rename_i xs
    have q : SqT X.K H a xs := Same.sqt w.fh h
    refine ⟨fun d hd => ?_, fun hi => ⟨xs, q, by rw [r.length]; simpa using hi⟩⟩
    rw [List.getElem?_zipWith] at hd
    have hi : i < ds.length := by
      by_cases z : i < ds.length
      · exact z
      · rw [List.getElem?_eq_none (l := ds) (by omega)] at hd
        cases hr : (List.range ds.length)[i]? <;> rw [hr] at hd <;> cases hd
    rw [List.getElem?_range hi, List.getElem?_eq_getElem hi] at hd
    have hd' : PyData.tuple [.int (i : Nat), ds[i]] = d := Option.some.inj hd
    subst hd'
    obtain ⟨v, e1, e2⟩ := r.get (List.getElem?_eq_getElem hi)
    refine ⟨⟨xs, v, q, e1⟩, fun x H' hy => ?_⟩
    obtain ⟨T, y, rfl, hT, rfl, hy⟩ := hy
    have : v = y := Option.some.inj (e1.symm.trans (hy xs q))
    subst this
    exact ⟨_, W.new_tup w (.cons (.int _) (.cons e2 .nil)) hT⟩
def enumD (ds : List D) : List D := (List.range ds.length).zipWith (fun i d => .tuple [.int (i : Nat), d]) ds
def mEnum (fs : M (List Sl)) : M (List D) := fun ρ => (fs ρ).bd fun rs ρ1 => match dAll rs with
  | some [d] => match D.seq? d with
    | some ds => .ok (enumD ds) ρ1
    | none => .bad
  | _ => .bad
theorem ei_enum {e : Expr} {elts : List Expr} {kk : Nat} {tpos p pos : Pos} {mv : List (Option Nat)} {fs : M (List Sl)} (hm : X.mg "enumerate" = none) (ha : EvA X E [e] mv fs) (hg : Gl X "enumerate" := by rfl) (hs : starEach [e] X.env = [(false, eval e X.env)] := by rfl) :
    EvI X E (.Tuple elts kk tpos) (.Call (.Name "enumerate" p) [e] [] pos) (mEnum fs) := by
  obtain ⟨t, pt, qt⟩ := ha
  refine ⟨_, pi_enumA hg hm pt hs, fun B ts σ ρ F H R hl w h => qt B ts σ ρ F H _ hl w ?_⟩
  unfold mEnum Rs.bd at h
  cases e1 : fs ρ with
  | bad => rw [e1] at h; exact h.elim
  | ex x ρ1 => rw [e1] at h; exact h
  | ok rs ρ1 =>
    rw [e1] at h
    simp only at h
    intro hl1 vs F1 H1 hvs _ _ w1
    split at h
    · rename_i d e2
      obtain ⟨F2, w2, s2, r2⟩ := w1.datas hvs e2
      cases r2 with
      | cons rp rt =>
        cases rt
        cases d with
        | list ds =>
          cases rp with
          | lst h1 h2 => exact ⟨_, rfl, .inl ⟨⟨_, SqL.of (w2.fh _ _ h1)⟩, h hl1 _ [_] F2 H1 (w2.more (.lst h1 h2)) feed_enum⟩⟩
        | tuple ds =>
          cases rp with
          | tup h1 h2 => exact ⟨_, rfl, .inr ⟨⟨_, Same.sqt w2.fh h1⟩, h hl1 _ [_] F2 H1 (w2.more (.tup h1 h2)) feed_enumT⟩⟩
        | _ => exact h.elim
    · exact h.elim
/-! ### zip -/
def zipD (xs ys : List D) : List D := xs.zipWith (fun x y => .tuple [x, y]) ys
theorem feed_zip {a b : Addr} {ds es : List D} : Feed X (Itz X.K a b) (zipD ds es) [(some (.ref a), .val (.list ds)), (some (.ref b), .val (.list es))] := by
  intro i B l F H w
  cases W.val w with
  | lst h r =>
    rename_i xs
    cases W.val (W.tail w) with
    | lst h' r' =>
      rename_i ys
      have q : SqL X.K H a xs := SqL.of (w.fh _ _ h)
      have q' : SqL X.K H b ys := SqL.of (w.fh _ _ h')
      refine ⟨fun d hd => ?_, fun hi => ⟨xs, ys, q, q', ?_⟩⟩
      · unfold zipD at hd
        rw [List.getElem?_zipWith] at hd
        cases hx : ds[i]? with
        | none => rw [hx] at hd; cases hd
        | some x =>
          cases hy : es[i]? with
          | none => rw [hx, hy] at hd; cases hd
          | some y =>
            rw [hx, hy] at hd
            have hd' : PyData.tuple [x, y] = d := Option.some.inj hd
            subst hd'
            obtain ⟨v, e1, e2⟩ := r.get hx
            obtain ⟨u, e3, e4⟩ := r'.get hy
            refine ⟨⟨xs, ys, v, u, q, q', e1, e3⟩, fun z H' hz => ?_⟩
            obtain ⟨T, v', u', rfl, hT, rfl, h1, h2⟩ := hz
            have a1 : v = v' := Option.some.inj (e1.symm.trans (h1 xs q))
            have a2 : u = u' := Option.some.inj (e3.symm.trans (h2 ys q'))
            subst a1 a2
            exact ⟨_, W.new_tup w (.cons e2 (.cons e4 .nil)) hT⟩
      · unfold zipD at hi
        rw [List.length_zipWith] at hi
        rw [r.length, r'.length]
        omega
theorem feed_zipT {a b : Addr} {ds es : List D} : Feed X (RZ.ItzT X.K a b) (zipD ds es) [(some (.ref a), .val (.tuple ds)), (some (.ref b), .val (.tuple es))] := by
  intro i B l F H w
  cases W.val w with
  | tup h r =>
    rename_i xs
    cases W.val (W.tail w) with
    | tup h' r' =>
      rename_i ys
      have q : SqT X.K H a xs := Same.sqt w.fh h
      have q' : SqT X.K H b ys := Same.sqt w.fh h'
      refine ⟨fun d hd => ?_, fun hi => ⟨xs, ys, q, q', ?_⟩⟩
      · unfold zipD at hd
        rw [List.getElem?_zipWith] at hd
        cases hx : ds[i]? with
        | none => rw [hx] at hd; cases hd
        | some x =>
          cases hy : es[i]? with
          | none => rw [hx, hy] at hd; cases hd
          | some y =>
            rw [hx, hy] at hd
            have hd' : PyData.tuple [x, y] = d := Option.some.inj hd
            subst hd'
            obtain ⟨v, e1, e2⟩ := r.get hx
            obtain ⟨u, e3, e4⟩ := r'.get hy
            refine ⟨⟨xs, ys, v, u, q, q', e1, e3⟩, fun z H' hz => ?_⟩
            obtain ⟨T, v', u', rfl, hT, rfl, h1, h2⟩ := hz
            have a1 : v = v' := Option.some.inj (e1.symm.trans (h1 xs q))
            have a2 : u = u' := Option.some.inj (e3.symm.trans (h2 ys q'))
            subst a1 a2
            exact ⟨_, W.new_tup w (.cons e2 (.cons e4 .nil)) hT⟩
      · unfold zipD at hi
        rw [List.length_zipWith] at hi
        rw [r.length, r'.length]
        omega
def mZip (fs : M (List Sl)) : M (List D) := fun ρ => (fs ρ).bd fun rs ρ1 => match dAll rs with
  | some [.list xs, .list ys] => .ok (zipD xs ys) ρ1
  | some [.tuple xs, .tuple ys] => .ok (zipD xs ys) ρ1
  | _ => .bad
theorem ei_zip {e e2 : Expr} {elts : List Expr} {kk : Nat} {tpos p pos : Pos} {mv : List (Option Nat)} {fs : M (List Sl)} (hm : X.mg "zip" = none) (ha : EvA X E [e, e2] mv fs) (hg : Gl X "zip" := by rfl)
    (hs : starEach [e, e2] X.env = (false, eval e X.env) :: starEach [e2] X.env := by rfl) (hpl : (backTo pos (starEach [e2] X.env)).any (·.1) = false := by rfl) :
    EvI X E (.Tuple elts kk tpos) (.Call (.Name "zip" p) [e, e2] [] pos) (mZip fs) := by
  obtain ⟨t, pt, qt⟩ := ha
  refine ⟨_, RZ.pi_zipA hg hm pt hs hpl, fun B ts σ ρ F H R hl w h => qt B ts σ ρ F H _ hl w ?_⟩
  unfold mZip Rs.bd at h
  cases e1 : fs ρ with
  | bad => rw [e1] at h; exact h.elim
  | ex x ρ1 => rw [e1] at h; exact h
  | ok rs ρ1 =>
    rw [e1] at h
    simp only at h
    intro hl1 vs F1 H1 hvs _ _ w1
    split at h
    · rename_i xs ys e2
      obtain ⟨F2, w2, s2, r2⟩ := w1.datas hvs e2
      cases r2 with
      | cons rp rt =>
        cases rt with
        | cons rq rt =>
          cases rt
          cases rp with
          | lst h1 h2 =>
            cases rq with
            | lst h3 h4 => exact ⟨_, _, _, _, rfl, .inl ⟨SqL.of (w2.fh _ _ h1), SqL.of (w2.fh _ _ h3), h hl1 _ [_, _] F2 H1 ((w2.more (.lst h3 h4)).more (.lst h1 h2)) feed_zip⟩⟩
    · rename_i xs ys e2
      obtain ⟨F2, w2, s2, r2⟩ := w1.datas hvs e2
      cases r2 with
      | cons rp rt =>
        cases rt with
        | cons rq rt =>
          cases rt
          cases rp with
          | tup h1 h2 =>
            cases rq with
            | tup h3 h4 => exact ⟨_, _, _, _, rfl, .inr ⟨Same.sqt w2.fh h1, Same.sqt w2.fh h3, h hl1 _ [_, _] F2 H1 ((w2.more (.tup h3 h4)).more (.tup h1 h2)) feed_zipT⟩⟩
    · exact h.elim
/-! ### a, b = e -/
def mAsgT (f : M Sl) (k : Sl → Env → Option Env) : Ms := fun ρ => (f ρ).st fun r ρ1 => match r.d? with
  | some d => match k (.val d) ρ1 with
    | some ρ2 => .nx ρ2
    | none => .bad
  | none => .bad
theorem ss_asgT {pn tv : List Nat} {tg e : Expr} {f : M Sl} {k : Sl → Env → Option Env} {pos : Pos} (he : Ev X E e f) (hg : Tg X tv tg k) (htv : ∀ i ∈ pn, i ∉ tv := by decide) (hs : swapsWithSole [tg] e pos.line X.env = pure false := by rfl) (hw : swappedStores [tg] e X.env = pure none := by rfl)
    (h1 : (assignEach [tg] X.env).map (·.2) = [assign tg X.env] := by rfl) : Ss X E pn (.Assign [tg] e pos) (mAsgT f k) := by
  obtain ⟨t, pt, qt⟩ := he
  obtain ⟨g, pg, qg⟩ := hg
  refine ⟨_, ps_asg pt pg hs hw h1, fun B ts σ ρ F H D hl w h => qt B ts σ ρ F H _ hl w ?_⟩
  unfold mAsgT Rs.st at h
  cases e1 : f ρ with
  | bad => rw [e1] at h; exact h.elim
  | ex x ρ1 => rw [e1] at h; exact fun hl c dx F H w q => h c dx σ F H rfl hl (Pins.refl _ _) w q
  | ok r ρ1 =>
    rw [e1] at h
    simp only at h
    intro hl1 v F1 H1 w1
    cases da : r.d? with
    | none => rw [da] at h; exact h.elim
    | some d =>
      rw [da] at h
      simp only at h
      cases ek : k (.val d) ρ1 with
      | none => rw [ek] at h; exact h.elim
      | some ρ2 =>
        rw [ek] at h
        obtain ⟨F2, w2, _⟩ := w1.freeze da
        exact qg B ts σ ρ1 ρ2 F2 H1 v _ _ hl1 w2 ek fun σ' F' H' a1 a2 a3 w' => h σ' F' H' a1 a2 (fun i hi => a3 i (htv i hi)) w'
end
end
end Fx

set_option Elab.async false
set_option linter.all false
set_option maxRecDepth 100000
namespace Fx
open PySem PySem.Spec PyProof.Rows L2
noncomputable section
section
variable {X : Cx} {E : XK}
/-! ### more operations -/
def gIsB (a b : D) : Option Sl := match a, b with | .bool i, .bool j => some (.val (.bool (decide (i = j)))) | _, _ => none
def gNotB (a b : D) : Option Sl := match a, b with | .bool i, .bool j => some (.val (.bool (!decide (i = j)))) | _, _ => none
theorem opl_isB : OpL X rIsB gIsB := by
  intro B l F H v u a b rc Q w ra rb hg q
  unfold gIsB at hg
  split at hg
  · cases hg
    cases ra
    cases rb
    exact ⟨_, _, rfl, rfl, q _ F H (w.more (.bl _))⟩
  · cases hg
theorem opl_notB : OpL X rNotB gNotB := by
  intro B l F H v u a b rc Q w ra rb hg q
  unfold gNotB at hg
  split at hg
  · cases hg
    cases ra
    cases rb
    exact ⟨_, _, rfl, rfl, q _ F H (w.more (.bl _))⟩
  · cases hg
def gNeg (a : D) : Option Sl := match a with | .int i => some (.val (.int (-i))) | _ => none
theorem ul_neg : UnL X (rU fun i => .int (-i)) gNeg := by
  intro B l F H v a rc Q w r hg q
  unfold gNeg at hg
  split at hg
  · cases hg
    cases r
    exact ⟨_, rfl, q _ F H (w.more (.int _))⟩
  · cases hg
/-- ints, or a tuple some times, or a list -/
def rMulS (K : Fg) : R2 := fun x y H Q => rI CMulA (fun i j => .int (i * j)) x y H Q ∨ (rRepT K x y H Q ∨ rRep x y H Q)
theorem op_mulS : OpR X (binaryOp .Mult) (rMulS X.K) := op_mulA.or (op_repT.or op_rep)
def gMulS (a b : D) : Option Sl := match a, b with
  | .int i, .int j => if tru (CMulA i j) = true then some (.val (.int (i * j))) else none
  | .tuple xs, .int k => if tru (xs ≠ [] ∧ 2 ≤ k ∧ k ≤ 1000 ∧ xs.length ≤ 1000) = true then some (.val (.tuple (List.replicate k.toNat xs).flatten)) else none
  | .list xs, .int k => if tru (-(2 ^ 63) ≤ k ∧ k < 2 ^ 63) = true ∧ szOk (xs.length * k.toNat) = true then some (.lst (List.replicate k.toNat xs).flatten) else none
  | _, _ => none
theorem RpL.rep {K : Fg} {F : Hp} {vs : List V} {ds : List D} (h : RpL K F vs ds) : ∀ n : Nat, RpL K F (List.replicate n vs).flatten (List.replicate n ds).flatten
  | 0 => .nil
  | n + 1 => by
    rw [List.replicate_succ, List.replicate_succ, List.flatten_cons, List.flatten_cons]
    exact h.app (h.rep n)
theorem opl_mulS : OpL X (rMulS X.K) gMulS := by
  intro B l F H v u a b rc Q w ra rb hg q
  unfold gMulS at hg
  split at hg
  · rename_i i j
    by_cases h : tru (CMulA i j) = true
    · rw [if_pos h] at hg
      cases hg
      cases ra
      cases rb
      exact .inl ⟨_, _, rfl, rfl, tru_iff.mp h, q _ F H (w.more (.int _))⟩
    · rw [if_neg h] at hg; cases hg
  · rename_i xs k
    by_cases h : tru (xs ≠ [] ∧ 2 ≤ k ∧ k ≤ 1000 ∧ xs.length ≤ 1000) = true
    · rw [if_pos h] at hg
      cases hg
      cases rb
      cases ra with
      | tup h1 r1 =>
        obtain ⟨a1, a2, a3, a4⟩ := tru_iff.mp h
        refine .inr (.inl ⟨_, k, _, rfl, rfl, Same.sqt w.fh h1, ?_, a2, a3, by rw [r1.length]; exact a4, fun p hp => q _ _ _ (w.new_tup (r1.rep _) hp)⟩)
        intro e
        subst e
        cases r1
        exact a1 rfl
    · rw [if_neg h] at hg; cases hg
  · rename_i xs k
    by_cases h : tru (-(2 ^ 63) ≤ k ∧ k < 2 ^ 63) = true ∧ szOk (xs.length * k.toNat) = true
    · rw [if_pos h] at hg
      cases hg
      cases rb
      cases ra with
      | lst h1 r1 =>
        obtain ⟨a1, a2⟩ := tru_iff.mp h.1
        exact .inr (.inr ⟨_, k, _, rfl, rfl, w.fh _ _ h1, a1, a2, by rw [r1.length]; exact szOk_le h.2, fun p hp => q _ _ _ (w.new_lst (r1.rep _) hp)⟩)
    · rw [if_neg h] at hg; cases hg
  · cases hg
/-! ### more calls -/
def gMax2 (ds : List D) : Option Sl := match ds with | [.int i, .int j] => some (.val (.int (if j > i then j else i))) | _ => none
def gMin2 (ds : List D) : Option Sl := match ds with | [.int i, .int j] => some (.val (.int (if j < i then j else i))) | _ => none
theorem cl_max2 : CallL X (fun xs H Q => ∃ i j, xs = [.int i, .int j] ∧ Q (.int (if j > i then j else i)) H) gMax2 := by
  intro B l F H vs ds rc Q w r hg q
  unfold gMax2 at hg
  split at hg
  · cases hg
    cases r with
    | cons r0 t =>
      cases t with
      | cons r1 t =>
        cases t
        cases r0
        cases r1
        exact ⟨_, _, rfl, q _ F H (w.more (.int _))⟩
  · cases hg
theorem cl_min2 : CallL X (fun xs H Q => ∃ i j, xs = [.int i, .int j] ∧ Q (.int (if j < i then j else i)) H) gMin2 := by
  intro B l F H vs ds rc Q w r hg q
  unfold gMin2 at hg
  split at hg
  · cases hg
    cases r with
    | cons r0 t =>
      cases t with
      | cons r1 t =>
        cases t
        cases r0
        cases r1
        exact ⟨_, _, rfl, q _ F H (w.more (.int _))⟩
  · cases hg
def gInt1 (ds : List D) : Option Sl := match ds with | [.int i] => some (.val (.int i)) | [.bool k] => some (.val (.int (if k then 1 else 0))) | _ => none
theorem cl_int1 : CallL X (fun xs H Q => (∃ i, xs = [.int i] ∧ Q (.int i) H) ∨ ∃ k, xs = [.bl k] ∧ Q (.int (if k then 1 else 0)) H) gInt1 := by
  intro B l F H vs ds rc Q w r hg q
  unfold gInt1 at hg
  split at hg
  · cases hg
    cases r with
    | cons r0 t =>
      cases t
      cases r0
      exact .inl ⟨_, rfl, q _ F H (w.more (.int _))⟩
  · cases hg
    cases r with
    | cons r0 t =>
      cases t
      cases r0
      exact .inr ⟨_, rfl, q _ F H (w.more (.int _))⟩
  · cases hg
def intL? : List D → Option (List Int)
  | [] => some []
  | .int i :: r => match intL? r with
    | some ns => some (i :: ns)
    | none => none
  | _ :: _ => none
def boolL? : List D → Option (List Bool)
  | [] => some []
  | .bool i :: r => match boolL? r with
    | some ns => some (i :: ns)
    | none => none
  | _ :: _ => none
theorem intL_of {K : Fg} {F : Hp} : ∀ {ds : List D} {ns : List Int} {vs : List V}, intL? ds = some ns → RpL K F vs ds → vs = ns.map V.int ∧ ds = ns.map .int
  | [], _, _, h, r => by cases h; cases r; exact ⟨rfl, rfl⟩
  | d :: ds, ns, vs, h, r => by
    cases d with
    | int i =>
      unfold intL? at h
      cases e : intL? ds with
      | none => rw [e] at h; cases h
      | some ms =>
        rw [e] at h
        cases h
        cases r with
        | cons r0 t =>
          cases r0
          obtain ⟨a, b⟩ := intL_of e t
          subst a b
          exact ⟨rfl, rfl⟩
    | _ => cases h
theorem boolL_of {K : Fg} {F : Hp} : ∀ {ds : List D} {ns : List Bool} {vs : List V}, boolL? ds = some ns → RpL K F vs ds → vs = ns.map V.bl ∧ ds = ns.map .bool
  | [], _, _, h, r => by cases h; cases r; exact ⟨rfl, rfl⟩
  | d :: ds, ns, vs, h, r => by
    cases d with
    | bool i =>
      unfold boolL? at h
      cases e : boolL? ds with
      | none => rw [e] at h; cases h
      | some ms =>
        rw [e] at h
        cases h
        cases r with
        | cons r0 t =>
          cases r0
          obtain ⟨a, b⟩ := boolL_of e t
          subst a b
          exact ⟨rfl, rfl⟩
    | _ => cases h
def gSum (ds : List D) : Option Sl := match ds with
  | [.list es] => match intL? es with
    | some ns => some (.val (.int ns.sum))
    | none => none
  | _ => none
theorem cl_sum : CallL X (rSum X.K) gSum := by
  intro B l F H vs ds rc Q w r hg q
  unfold gSum at hg
  split at hg
  · rename_i es
    cases e : intL? es with
    | none => rw [e] at hg; cases hg
    | some ns =>
      rw [e] at hg
      cases hg
      cases r with
      | cons r0 t =>
        cases t
        cases r0 with
        | lst h1 r1 =>
          obtain ⟨a, _⟩ := intL_of e r1
          subst a
          exact ⟨_, ns, rfl, SqL.of (w.fh _ _ h1), q _ F H (w.more (.int _))⟩
  · cases hg
def gAll (ds : List D) : Option Sl := match ds with
  | [.list es] => match boolL? es with
    | some bs => some (.val (.bool (bs.all id)))
    | none => none
  | _ => none
theorem cl_all : CallL X (rAll X.K) gAll := by
  intro B l F H vs ds rc Q w r hg q
  unfold gAll at hg
  split at hg
  · rename_i es
    cases e : boolL? es with
    | none => rw [e] at hg; cases hg
    | some ns =>
      rw [e] at hg
      cases hg
      cases r with
      | cons r0 t =>
        cases t
        cases r0 with
        | lst h1 r1 =>
          obtain ⟨a, _⟩ := boolL_of e r1
          subst a
          exact ⟨_, ns, rfl, SqL.of (w.fh _ _ h1), q _ F H (w.more (.bl _))⟩
  · cases hg
/-! ### len(set(ints)) -/
def setLen (ns : List Int) : Nat := (PyProof.Rows.firstMet (fun i => ns.getD i 0) ns.length).length
def tLenSetA (K : Fg) : V → Hp → VK → Prop := fun x H1 Q => ∃ (l : Addr) (ns : List Int), x = .ref l ∧ SqL K H1 l (ns.map V.int) ∧ ns.length ≤ 4000 ∧ Q (.int (setLen ns : Nat)) H1
theorem firstMet_len (f : Nat → Int) : ∀ n, (PyProof.Rows.firstMet f n).length ≤ n
  | 0 => Nat.le_refl _
  | n + 1 => by
    rw [PyProof.Rows.firstMet_succ]
    have := firstMet_len f n
    unfold step_dedup
    split
    · omega
    · rw [List.length_append]; simp; omega
theorem pe_lenSetA {a : Expr} {ta : TE} {p p2 q pos : Pos} (hg : Gl X "len") (hm : X.mg "len" = none) (hg2 : Gl X "set") (hm2 : X.mg "set" = none) (ha : PE X a ta) (hc : X.calm = true := by rfl)
    (na : starEach [a] X.env = (false, eval a X.env) :: starEach [] X.env := by rfl) : PE X (.Call (.Name "len" p) [.Call (.Name "set" p2) [a] [] q] [] pos) (tUn (tLenSetA X.K) ta) := by
  refine ⟨fun pins s σ H Q I h => ?_⟩
  refine Call_ (ld_blt I hg hm boot_len ?_)
  refine PyProof.Rows.callWith_builtin1 (PyProof.Rows.args_cons ?_ rfl) rfl rfl
  refine Call_ (ld_blt I hg2 hm2 boot_set ?_)
  refine PyProof.Rows.callWith_type1 (PyProof.Rows.args_cons (thn (ha.run pins s σ H _ I h) fun v s1 ⟨x, H1, I1, r1, q1⟩ => PyProof.Rows.args_nil ?_) na) na rfl
  obtain ⟨l, ns, rfl, hq, hl, q1⟩ := q1
  cases r1
  obtain ⟨its, r, pl, hz⟩ := I1.list hq
  have hlen : its.toArray.size = ns.length := by rw [List.size_toArray, ← r.length, List.length_map]
  refine call_set_list (I1.ok.hd hc) pl.isList (by simpa using RZ.intsAre_vals r) (by rw [hlen]; unfold scanBound; omega) fun h' tk hS hk => ?_
  refine PyProof.Rows.args_nil ?_
  rw [hlen] at hS
  obtain ⟨o, es, ep, t, ho, hex, hd, _, _, _, hf, hn⟩ := hS
  have I2 : Inv X pins σ H1 { s1 with heap := h', toks := tk } := I1.kept fun b o e => hk b o (Heap.lt_size e) e
  have hle := firstMet_len (fun i => ns.getD i 0) ns.length
  exact call_len_set ho hex hd hf (by rw [hn] <;> omega) ⟨.int (setLen ns), H1, I2.tok _, ⟨_, by rw [hn]; rfl⟩, q1⟩
def gLenSet (a : D) : Option Sl := match a with
  | .list es => match intL? es with
    | some ns => if tru (ns.length ≤ 4000) = true then some (.val (.int (setLen ns : Nat))) else none
    | none => none
  | _ => none
theorem ul_lenSet : UnL X (tLenSetA X.K) gLenSet := by
  intro B l F H v a rc Q w r hg q
  unfold gLenSet at hg
  split at hg
  · rename_i es
    cases e : intL? es with
    | none => rw [e] at hg; cases hg
    | some ns =>
      rw [e] at hg
      simp only at hg
      by_cases h : tru (ns.length ≤ 4000) = true
      · rw [if_pos h] at hg
        cases hg
        cases r with
        | lst h1 r1 =>
          obtain ⟨a, _⟩ := intL_of e r1
          subst a
          exact ⟨_, ns, rfl, SqL.of (w.fh _ _ h1), tru_iff.mp h, q _ F H (w.more (.int _))⟩
      · rw [if_neg h] at hg; cases hg
  · cases hg
theorem ev_lenSet {a : Expr} {fa : M Sl} {p p2 q pos : Pos} (hm : X.mg "len" = none) (hm2 : X.mg "set" = none) (ha : Ev X E a fa) (hg : Gl X "len" := by rfl) (hg2 : Gl X "set" := by rfl) (hc : X.calm = true := by rfl)
    (na : starEach [a] X.env = (false, eval a X.env) :: starEach [] X.env := by rfl) : Ev X E (.Call (.Name "len" p) [.Call (.Name "set" p2) [a] [] q] [] pos) (mUn gLenSet fa) :=
  ev_one (r := tLenSetA X.K) ul_lenSet ha fun pa => pe_lenSetA hg hm hg2 hm2 pa hc na
/-! ### sorted(list) -/
def isTup1 : D → Bool
  | .tuple (_ :: _) => true
  | _ => false
def noTN : D → Bool
  | .tuple _ => false
  | .none => false
  | _ => true
def okSort (ds : List D) : Bool := PyData.plainAll ds && decide (PyData.depthAll ds ≤ 40) && ds.all (fun x => ds.all fun y => PySem.W.alike x y) && (ds.all isTup1 || ds.all noTN) && szOk ds.length
def sortD (ds : List D) : List D := ds.mergeSort (PySem.W.dataLe false id)
theorem okSort_of {ds : List D} (h : okSort ds = true) : PyData.plainAll ds = true ∧ PyData.depthAll ds ≤ 40 ∧ PySem.W.AllAlike ds ∧ PySem.W.Sortable ds ∧ ds.length ≤ sizeLine := by
  unfold okSort at h
  simp only [Bool.and_eq_true, decide_eq_true_eq, List.all_eq_true, Bool.or_eq_true] at h
  obtain ⟨⟨⟨⟨h1, h2⟩, h3⟩, h4⟩, h5⟩ := h
  refine ⟨h1, h2, h3, ?_, szOk_le h5⟩
  rcases h4 with h4 | h4
  · refine .inl fun d hd => ?_
    have := h4 d hd
    unfold isTup1 at this
    split at this
    · exact ⟨_, _, rfl⟩
    · cases this
  · refine .inr fun d hd => ?_
    have := h4 d hd
    refine ⟨fun e => by subst e; simp [noTN] at this, fun xs e => by subst e; simp [noTN] at this⟩
def rSortD (K : Fg) : List V → Hp → VK → Prop := fun vs H Q => ∃ F a ds xs, vs = [V.ref a] ∧ Same F H ∧ SqL K H a xs ∧ RpL K F xs ds ∧ okSort ds = true ∧ ∀ ys p, RpL K F ys (sortD ds) → H p = none → Q (.ref p) (upd H p (.lst ys))
theorem depth_get : ∀ {ds : List D} {d : D}, d ∈ ds → d.depth ≤ PyData.depthAll ds
  | x :: xs, d, h => by
    rw [PyData.depthAll]
    rcases List.mem_cons.mp h with e | h
    · subst e; exact Nat.le_max_left _ _
    · exact Nat.le_trans (depth_get h) (Nat.le_max_right _ _)
  | [], _, h => by simp at h
theorem each_rp {K : Fg} {F : Hp} : ∀ {out : List Value} {ds : List D}, PySem.W.EachIs (fun v d => ∃ x, Rp K F x d ∧ RelV x v) out ds → ∃ ys, Vals ys out ∧ RpL K F ys ds
  | _, _, .nil => ⟨[], .nil, .nil⟩
  | _, _, .cons ⟨x, a, b⟩ t => by
    obtain ⟨ys, c, d⟩ := each_rp t
    exact ⟨x :: ys, .cons b c, .cons a d⟩
theorem rp_each {K : Fg} {F : Hp} : ∀ {us : List Value} {vs : List V} {ds : List D}, Vals vs us → RpL K F vs ds → PySem.W.EachIs (fun v d => ∃ x, Rp K F x d ∧ RelV x v) us ds
  | _, _, _, .nil, .nil => .nil
  | _, _, _, .cons a b, .cons c d => .cons ⟨_, c, a⟩ (rp_each b d)
theorem cr_sortD (hu : X.A.units + 64 < cLine) : CallR X (.builtin "sorted") (rSortD X.K) := by
  intro pins s σ H vs us Q I r ⟨F, a, ds, xs, e, sf, hs, rp, ok, q⟩
  subst e
  obtain ⟨its, rv, hl, _⟩ := I.list hs
  rw [Vals.ref1 r]
  obtain ⟨h1, h2, h3, h4, h5⟩ := okSort_of ok
  obtain ⟨as, rs⟩ := RpL.reads I sf h1 rp rv
  have er : PySem.W.EachIs (fun v d => ∃ as, Reads s.heap v (id d) as) its ds := PySem.W.readsAll_each id (by simpa using rs)
  refine PySem.W.sorted_data (enc := id) (R := fun v d => ∃ x, Rp X.K F x d ∧ RelV x v) hl.isList (rp_each rv rp) er (by simpa using h3) (by simpa using h4) h5 (fun d hd => ?_) fun out hlen ho => ?_
  · have := depth_get hd
    show X.A.units + 2 + d.depth < cLine
    omega
  · obtain ⟨ep, he'⟩ := PyProof.Rows.sortedAll_at s.heap its out.toArray
    obtain ⟨ys, hv, hy⟩ := each_rp ho
    have hle : ys.length ≤ sizeLine := by rw [hv.length, hlen]; exact h5
    exact ⟨.ref _, upd H (s.heap.objs.size + 1) (.lst ys), I.laid (t' := s.toks) (fun _ _ => PyProof.Rows.sortedAll_old) (Nat.le_succ _) ⟨hle, out, ep, hv, he'⟩, rfl, q ys _ hy (I.hok.fresh (Nat.le_succ _))⟩
def gSorted (ds : List D) : Option Sl := match ds with
  | [.list es] => if okSort es = true then some (.lst (sortD es)) else none
  | _ => none
theorem cl_sorted : CallL X (rSortD X.K) gSorted := by
  intro B l F H vs ds rc Q w r hg q
  unfold gSorted at hg
  split at hg
  · rename_i es
    by_cases h : okSort es = true
    · rw [if_pos h] at hg
      cases hg
      cases r with
      | cons r0 t =>
        cases t
        cases r0 with
        | lst h1 r1 => exact ⟨F, _, _, _, rfl, w.fh, SqL.of (w.fh _ _ h1), r1, h, fun ys p hy hp => q _ _ _ (w.new_lst hy hp)⟩
    · rw [if_neg h] at hg; cases hg
  · cases hg
/-! ### a op b op c -/
def mChain (g g' : D → D → Option Sl) (fa fb fc : M Sl) : M Sl := fun ρ => (fa ρ).bd fun ra ρ1 => (fb ρ1).bd fun rb ρ2 => match ra.d?, rb.d? with
  | some a, some b => match g a b with
    | some (.val (.bool true)) => (fc ρ2).bd fun rc ρ3 => match rc.d? with
      | some c => match g' b c with
        | some r => .ok r ρ3
        | none => .bad
      | none => .bad
    | some (.val (.bool false)) => .ok (.val (.bool false)) ρ2
    | _ => .bad
  | _, _ => .bad
def OpP (X : Cx) (r : R2) (g : D → D → Option Sl) : Prop := ∀ (F H : Hp) (v u : V) (a b : D) (rc : Sl) (Q : VK), Same F H → Rp X.K F v a → Rp X.K F u b → g a b = some rc → ∃ k, rc = .val (.bool k) ∧ (Q (.bl k) H → r v u H Q)
theorem opp_D2 {ok : D → D → Bool} {g : D → D → Bool} : OpP X (rD2 X.K ok g) (fun a b => if ok a b = true then some (.val (.bool (g a b))) else none) := by
  intro F H v u a b rc Q sf ra rb hg
  by_cases h : ok a b = true
  · simp only [h, if_true] at hg
    cases hg
    exact ⟨_, rfl, fun q => ⟨F, a, b, sf, ra, rb, h, q⟩⟩
  · simp only [h] at hg; cases hg
theorem chain_run {ta tb tc : TE} {r r' : R2} {g g' : D → D → Option Sl} {fa fb fc : M Sl} (hr : OpP X r g) (hr' : OpP X r' g') (qa : Run X E ta fa) (qb : Run X E tb fb) (qc : Run X E tc fc) : Run X E (tChain r r' ta tb tc) (mChain g g' fa fb fc) := by
  intro B ts σ ρ F H Q hl w h
  refine qa B ts σ ρ F H _ hl w ?_
  unfold mChain Rs.bd at h
  cases e1 : fa ρ with
  | bad => rw [e1] at h; exact h.elim
  | ex x ρ1 => rw [e1] at h; exact h
  | ok ra ρ1 =>
    rw [e1] at h
    intro hl1 v F1 H1 w1
    refine qb B ((some v, ra) :: ts) σ ρ1 F1 H1 _ hl1 w1 ?_
    simp only at h
    cases e2 : fb ρ1 with
    | bad => rw [e2] at h; exact h.elim
    | ex x ρ2 =>
      rw [e2] at h
      exact fun hl2 c dx F2 H2 w2 q => h hl2 c dx F2 H2 w2.tail q
    | ok rb ρ2 =>
      rw [e2] at h
      simp only at h
      intro hl2 u F2 H2 w2
      cases da : ra.d? with
      | none => rw [da] at h; exact h.elim
      | some a =>
        cases db : rb.d? with
        | none => rw [da, db] at h; exact h.elim
        | some b =>
          rw [da, db] at h
          simp only at h
          obtain ⟨F3, w3, s3⟩ := w2.freeze db
          have w4 : W X.K X.mg B ((some v, ra) :: (some u, .val b) :: (ts ++ zp σ ρ2)) F3 H2 := w3.perm (.swap _ _ _)
          obtain ⟨F5, w5, s5⟩ := w4.freeze da
          have w6 : W X.K X.mg B ((some u, .val b) :: (ts ++ zp σ ρ2)) F5 H2 := w5.tail
          cases eg : g a b with
          | none => rw [eg] at h; exact h.elim
          | some rc =>
            obtain ⟨k, ek, kk⟩ := hr F5 H2 v u a b rc _ w5.fh w5.val w6.val eg
            subst ek
            rw [eg] at h
            refine kk ⟨k, rfl, ?_⟩
            cases k with
            | false =>
              simp only at h
              rw [if_neg Bool.false_ne_true]
              exact h hl2 _ F5 H2 (w6.tail.more (.bl _))
            | true =>
              simp only at h
              rw [if_pos rfl]
              refine qc B ((some u, .val b) :: ts) σ ρ2 F5 H2 _ hl2 w6 ?_
              cases e3 : fc ρ2 with
              | bad => rw [e3] at h; exact h.elim
              | ex x ρ3 =>
                rw [e3] at h
                exact fun hl3 c dx F3 H3 w3 q => h hl3 c dx F3 H3 w3.tail q
              | ok rc ρ3 =>
                rw [e3] at h
                simp only at h
                intro hl3 u3 F6 H6 w7
                cases dc : rc.d? with
                | none => rw [dc] at h; exact h.elim
                | some c =>
                  rw [dc] at h
                  simp only at h
                  obtain ⟨F7, w8, _⟩ := w7.freeze dc
                  cases eg' : g' b c with
                  | none => rw [eg'] at h; exact h.elim
                  | some rr =>
                    have w9 : W X.K X.mg B ((some u, .val b) :: (ts ++ zp σ ρ3)) F7 H6 := w8.tail
                    obtain ⟨k, ek, kk⟩ := hr' F7 H6 u u3 b c rr Q w8.fh w9.val w8.val eg'
                    subst ek
                    rw [eg'] at h
                    exact kk (h hl3 _ F7 H6 (w9.tail.more (.bl _)))
theorem ev_chain {op op' : CmpOp} {a b c : Expr} {r r' : R2} {g g' : D → D → Option Sl} {fa fb fc : M Sl} {pos : Pos} (ho : OpR X (compareOp op) r) (hr : OpP X r g) (ho' : OpR X (compareOp op') r') (hr' : OpP X r' g') (ha : Ev X E a fa) (hb : Ev X E b fb) (hc : Ev X E c fc)
    (hm : lastMarks [op, op'] [b, c] = false := by with_unfolding_all rfl) : Ev X E (.Compare a [op, op'] [b, c] pos) (mChain g g' fa fb fc) := by
  obtain ⟨ta, pa, qa⟩ := ha
  obtain ⟨tb, pb, qb⟩ := hb
  obtain ⟨tc, pc, qc⟩ := hc
  exact ⟨_, pe_chain ho ho' pa pb pc hm, chain_run hr hr' qa qb qc⟩
theorem et_chain {op op' : CmpOp} {a b c : Expr} {r r' : R2} {g g' : D → D → Option Sl} {fa fb fc : M Sl} {pos : Pos} (ho : OpR X (compareOp op) r) (hr : OpP X r g) (ho' : OpR X (compareOp op') r') (hr' : OpP X r' g') (ha : Ev X E a fa) (hb : Ev X E b fb) (hc : Ev X E c fc)
    (hm : lastMarks [op, op'] [b, c] = false := by with_unfolding_all rfl) : EvT X E (.Compare a [op, op'] [b, c] pos) (mTst (mChain g g' fa fb fc)) := by
  obtain ⟨ta, pa, qa⟩ := ha
  obtain ⟨tb, pb, qb⟩ := hb
  obtain ⟨tc, pc, qc⟩ := hc
  exact ⟨_, pt_chain ho ho' pa pb pc hm, fun B ts σ ρ F H Q hl w h => chain_run hr hr' qa qb qc B ts σ ρ F H _ hl w (post_tst h)⟩
end
end
end Fx

set_option Elab.async false
set_option linter.all false
set_option maxRecDepth 100000
namespace Fx
open PySem PySem.Spec PyProof.Rows L2
noncomputable section
section
variable {X : Cx} {E : XK}
/-! ### what a name owns, looked at as data -/
def pk (i : Nat) (ρ : Env) : Option D := match ρ[i]? with
  | some s => s.d?
  | none => none
theorem W.peek {K : Fg} {mg : Str → Option Value} {B : Bs} {ts : List Sv} {σ : L2.St} {ρ : Env} {F H : Hp} {i : Nat} {d : D} (w : W K mg B (ts ++ zp σ ρ) F H) (hl : σ.length = ρ.length) (h : pk i ρ = some d) :
    ∃ v F', σ[i]? = some (some v) ∧ Same F F' ∧ Same F' H ∧ Rp K F' v d := by
  unfold pk at h
  cases e : ρ[i]? with
  | none => rw [e] at h; cases h
  | some s =>
    rw [e] at h
    obtain ⟨o, l, h1, w1, _⟩ := w.at hl e
    obtain ⟨F', w2, sf⟩ := w1.freeze h
    obtain ⟨v, rfl, r⟩ := w2.valO
    exact ⟨v, F', h1, sf, w2.fh, r⟩
/-- both operands of a comparison -/
def Ev2 (X : Cx) (E : XK) (a b : Expr) (r : R2) (f : M Sl) : Prop := ∃ ta tb, PE X a ta ∧ PE X b tb ∧ Run X E (tOp r ta tb) f
theorem ev_cmp2 {op : CmpOp} {a b : Expr} {r : R2} {f : M Sl} {pos : Pos} (ho : OpR X (compareOp op) r) (h : Ev2 X E a b r f) (hm : behindInMarks op b = false) : Ev X E (.Compare a [op] [b] pos) f := by
  obtain ⟨ta, tb, pa, pb, q⟩ := h
  exact ⟨_, pe_cmpR ho pa pb hm, q⟩
theorem et_cmp2 {op : CmpOp} {a b : Expr} {r : R2} {f : M Sl} {pos : Pos} (ho : OpR X (compareOp op) r) (h : Ev2 X E a b r f) (hm : behindInMarks op b = false) : EvT X E (.Compare a [op] [b] pos) (mTst f) := by
  obtain ⟨ta, tb, pa, pb, q⟩ := h
  exact ⟨_, pt_cmpR ho pa pb hm, fun B ts σ ρ F H Q hl w h => q B ts σ ρ F H _ hl w (post_tst h)⟩
def mBinOL (g : D → D → Option Sl) (i : Nat) (fb : M Sl) : M Sl := fun ρ => match pk i ρ with
  | some _ => (fb ρ).bd fun rb ρ1 => match pk i ρ1, rb.d? with
    | some a, some b => match g a b with
      | some r => .ok r ρ1
      | none => .bad
    | _, _ => .bad
  | none => .bad
def mBinOR (g : D → D → Option Sl) (fa : M Sl) (i : Nat) : M Sl := fun ρ => (fa ρ).bd fun ra ρ1 => match ra.d?, pk i ρ1 with
  | some a, some b => match g a b with
    | some r => .ok r ρ1
    | none => .bad
  | _, _ => .bad
def mBinOO (g : D → D → Option Sl) (i j : Nat) : M Sl := fun ρ => match pk i ρ, pk j ρ with
  | some a, some b => match g a b with
    | some r => .ok r ρ
    | none => .bad
  | _, _ => .bad
theorem e2_ol {r : R2} {g : D → D → Option Sl} {b : Expr} {fb : M Sl} (i : Nat) {x : Str} {pos : Pos} (hr : OpP X r g) (hb : Ev X E b fb) (hN : X.N[i]? = some x := by rfl) (hv : Vis X.env.scope x := by first | exact Or.inl rfl | exact Or.inr (Or.inl rfl) | exact Or.inr (Or.inr rfl)) (hd : (x == ("__debug__" : Str)) = false := by decide)
    (hcd : (x == ("__classdict__" : Str)) = false := by decide) : Ev2 X E (.Name x pos) b r (mBinOL g i fb) := by
  obtain ⟨tb, pb, qb⟩ := hb
  refine ⟨_, _, pe_var hN hv hd hcd, pb, fun B ts σ ρ F H Q hl w h => ?_⟩
  unfold mBinOL Rs.bd at h
  cases e0 : pk i ρ with
  | none => rw [e0] at h; exact h.elim
  | some d0 =>
    rw [e0] at h
    simp only at h
    obtain ⟨v, _, h1, _⟩ := w.peek hl e0
    refine ⟨v, h1, qb B ts σ ρ F H _ hl w ?_⟩
    cases e1 : fb ρ with
    | bad => rw [e1] at h; exact h.elim
    | ex x ρ1 => rw [e1] at h; exact h
    | ok rb ρ1 =>
      rw [e1] at h
      simp only at h
      intro hl1 u F1 H1 w1
      cases ea : pk i ρ1 with
      | none => rw [ea] at h; exact h.elim
      | some a =>
        cases db : rb.d? with
        | none => rw [ea, db] at h; exact h.elim
        | some b =>
          rw [ea, db] at h
          simp only at h
          cases eg : g a b with
          | none => rw [eg] at h; exact h.elim
          | some rc =>
            rw [eg] at h
            obtain ⟨F2, w2, _⟩ := w1.freeze db
            obtain ⟨v', F3, h2, s3, t3, r3⟩ := W.peek (ts := (some u, .val b) :: ts) w2 hl1 ea
            have : v = v' := by rw [h1] at h2; injection h2 with h2; injection h2
            subst this
            obtain ⟨k, ek, kk⟩ := hr F3 H1 v u a b rc Q t3 r3 (w2.val.mono s3) eg
            subst ek
            exact kk (h hl1 _ F2 H1 (w2.tail.more (.bl _)))
theorem e2_or {r : R2} {g : D → D → Option Sl} {a : Expr} {fa : M Sl} (i : Nat) {x : Str} {pos : Pos} (hr : OpP X r g) (ha : Ev X E a fa) (hN : X.N[i]? = some x := by rfl) (hv : Vis X.env.scope x := by first | exact Or.inl rfl | exact Or.inr (Or.inl rfl) | exact Or.inr (Or.inr rfl)) (hd : (x == ("__debug__" : Str)) = false := by decide)
    (hcd : (x == ("__classdict__" : Str)) = false := by decide) : Ev2 X E a (.Name x pos) r (mBinOR g fa i) := by
  obtain ⟨ta, pa, qa⟩ := ha
  refine ⟨_, _, pa, pe_var hN hv hd hcd, fun B ts σ ρ F H Q hl w h => qa B ts σ ρ F H _ hl w ?_⟩
  unfold mBinOR Rs.bd at h
  cases e1 : fa ρ with
  | bad => rw [e1] at h; exact h.elim
  | ex x ρ1 => rw [e1] at h; exact h
  | ok ra ρ1 =>
    rw [e1] at h
    simp only at h
    intro hl1 v F1 H1 w1
    cases da : ra.d? with
    | none => rw [da] at h; exact h.elim
    | some a =>
      cases eb : pk i ρ1 with
      | none => rw [da, eb] at h; exact h.elim
      | some b =>
        rw [da, eb] at h
        simp only at h
        cases eg : g a b with
        | none => rw [eg] at h; exact h.elim
        | some rc =>
          rw [eg] at h
          obtain ⟨F2, w2, _⟩ := w1.freeze da
          obtain ⟨u, F3, h2, s3, t3, r3⟩ := W.peek (ts := (some v, .val a) :: ts) w2 hl1 eb
          refine ⟨u, h2, ?_⟩
          obtain ⟨k, ek, kk⟩ := hr F3 H1 v u a b rc Q t3 (w2.val.mono s3) r3 eg
          subst ek
          exact kk (h hl1 _ F2 H1 (w2.tail.more (.bl _)))
theorem e2_oo {r : R2} {g : D → D → Option Sl} (i j : Nat) {x y : Str} {pos pos' : Pos} (hr : OpP X r g) (hN : X.N[i]? = some x := by rfl) (hv : Vis X.env.scope x := by first | exact Or.inl rfl | exact Or.inr (Or.inl rfl) | exact Or.inr (Or.inr rfl)) (hd : (x == ("__debug__" : Str)) = false := by decide)
    (hcd : (x == ("__classdict__" : Str)) = false := by decide) (hN2 : X.N[j]? = some y := by rfl) (hv2 : Vis X.env.scope y := by first | exact Or.inl rfl | exact Or.inr (Or.inl rfl) | exact Or.inr (Or.inr rfl)) (hd2 : (y == ("__debug__" : Str)) = false := by decide)
    (hcd2 : (y == ("__classdict__" : Str)) = false := by decide) : Ev2 X E (.Name x pos) (.Name y pos') r (mBinOO g i j) := by
  refine ⟨_, _, pe_var hN hv hd hcd, pe_var hN2 hv2 hd2 hcd2, fun B ts σ ρ F H Q hl w h => ?_⟩
  unfold mBinOO at h
  cases ea : pk i ρ with
  | none => rw [ea] at h; exact h.elim
  | some a =>
    cases eb : pk j ρ with
    | none => rw [ea, eb] at h; exact h.elim
    | some b =>
      rw [ea, eb] at h
      simp only at h
      cases eg : g a b with
      | none => rw [eg] at h; exact h.elim
      | some rc =>
        rw [eg] at h
        have both : ∃ v u F', σ[i]? = some (some v) ∧ σ[j]? = some (some u) ∧ Same F' H ∧ Rp X.K F' v a ∧ Rp X.K F' u b := by
          unfold pk at ea
          cases e : ρ[i]? with
          | none => rw [e] at ea; cases ea
          | some s =>
            rw [e] at ea
            obtain ⟨o, l, h1, w1, k1⟩ := w.at hl e
            obtain ⟨F1, w2, sf⟩ := w1.freeze ea
            obtain ⟨v, rfl, rv⟩ := w2.valO
            have w3 := k1 w2
            have eb' : pk j (ρ.set i (.val a)) = some b := by
              unfold pk at eb ⊢
              by_cases z : i = j
              · subst z
                rw [e] at eb
                rw [List.getElem?_set_self (List.getElem?_eq_some_iff.mp e).1]
                have : a = b := Option.some.inj (ea.symm.trans eb)
                subst this
                rfl
              · rw [List.getElem?_set_ne z]; exact eb
            obtain ⟨u, F2, h2, s2, t2, r2⟩ := W.peek w3 (set_len hl) eb'
            exact ⟨v, u, F2, h1, h2, t2, rv.mono s2, r2⟩
        obtain ⟨v, u, F', h1, h2, t, r1, r2⟩ := both
        refine ⟨v, h1, u, h2, ?_⟩
        obtain ⟨k, ek, kk⟩ := hr F' H v u a b rc Q t r1 r2 eg
        subst ek
        exact kk (h hl _ F H (w.more (.bl _)))
/-- isinstance(x, T) -/
def mIsiO (T : String) (i : Nat) : M Sl := fun ρ => match pk i ρ with
  | some d => match isiD T d with
    | some b => .ok (.val (.bool b)) ρ
    | none => .bad
  | none => .bad
theorem ev_isiO (i : Nat) {T : String} {x y : Str} {p pos p2 p3 : Pos} (hm : X.mg "isinstance" = none) (hm2 : X.mg x = none) (hv : bootBuiltins x = some (.type T)) (hg : Gl X "isinstance" := by rfl) (hg2 : Gl X x := by rfl) (hn2 : x ≠ "__name__" := by decide) (hdb2 : (x == ("__debug__" : Str)) = false := by decide)
    (hN : X.N[i]? = some y := by rfl) (hvy : Vis X.env.scope y := by first | exact Or.inl rfl | exact Or.inr (Or.inl rfl) | exact Or.inr (Or.inr rfl)) (hd : (y == ("__debug__" : Str)) = false := by decide)
    (hcd : (y == ("__classdict__" : Str)) = false := by decide)
    (he : starEach [.Name y p3, .Name x p2] X.env = (false, eval (.Name y p3) X.env) :: starEach [.Name x p2] X.env := by rfl) (he2 : starEach [.Name x p2] X.env = (false, eval (.Name x p2) X.env) :: starEach [] X.env := by rfl) (hpl : (backTo pos (starEach [.Name x p2] X.env)).any (·.1) = false := by rfl) :
    Ev X E (.Call (.Name "isinstance" p) [.Name y p3, .Name x p2] [] pos) (mIsiO T i) := by
  refine ⟨_, pe_callB call_isi hg hm (by decide +kernel) (pa_cons (pe_var hN hvy hd hcd) (pa_cons (pe_bltn (v := .ty T) hg2 hm2 hv rfl hn2 hdb2) pa_nil he2) he) (by decide) (by decide) he hpl, fun B ts σ ρ F H Q hl w h => ?_⟩
  unfold mIsiO at h
  cases e1 : pk i ρ with
  | none => rw [e1] at h; exact h.elim
  | some d =>
    rw [e1] at h
    simp only at h
    cases e2 : isiD T d with
    | none => rw [e2] at h; exact h.elim
    | some b =>
      rw [e2] at h
      obtain ⟨v, F', h1, s1, t1, r1⟩ := w.peek hl e1
      exact ⟨v, h1, v, .ty T, _, _, b, rfl, .ty T, Rp.ty t1 r1, kit_ty e2, h hl _ F H (w.more (.bl b))⟩
/-! ### what a name owns, walked -/
def lk (i : Nat) (ρ : Env) : Option (List D) := match ρ[i]? with
  | some (.lst es) => some es
  | some (.val (.list es)) => some es
  | _ => none
theorem W.look {K : Fg} {mg : Str → Option Value} {B : Bs} {ts : List Sv} {σ : L2.St} {ρ : Env} {F H : Hp} {i : Nat} {es : List D} (w : W K mg B (ts ++ zp σ ρ) F H) (hl : σ.length = ρ.length) (h : lk i ρ = some es) :
    ∃ a xs, σ[i]? = some (some (.ref a)) ∧ H a = some (.lst xs) ∧ RpL K F xs es := by
  unfold lk at h
  cases e : ρ[i]? with
  | none => rw [e] at h; cases h
  | some s =>
    rw [e] at h
    obtain ⟨o, l, h1, w1, _⟩ := w.at hl e
    split at h
    · rename_i q
      cases q
      cases h
      obtain ⟨p, vs, rfl, hp, rp, _⟩ := w1.lst
      exact ⟨p, vs, h1, hp, rp⟩
    · rename_i q
      cases q
      cases h
      obtain ⟨v, rfl, rv⟩ := w1.valO
      cases rv with
      | lst h2 r2 => exact ⟨_, _, h1, w1.fh _ _ h2, r2⟩
    · cases h
def FeedO (X : Cx) (J : It) (ds : List D) (i : Nat) (a : Addr) (es : List D) : Prop := ∀ (n : Nat) (B : Bs) (l : List Sv) (xs : List V) (F H : Hp), W X.K X.mg B l F H → H a = some (.lst xs) → RpL X.K F xs es →
  (∀ d, ds[n]? = some d → J.go n H ∧ ∀ x H', J.yld n H x H' → ∃ F', W X.K X.mg B ((some x, .val d) :: l) F' H') ∧ (ds.length ≤ n → J.stop n H)
def EvIO (X : Cx) (tg iter : Expr) (i : Nat) (φ : List D → List D) : Prop := ∃ wi, PI X tg iter wi ∧ ∀ (B : Bs) (ts : List Sv) (σ : L2.St) (ρ : Env) (F H : Hp) (R : It → Hp → Prop) (es : List D), σ.length = ρ.length → WX X B (ts ++ zp σ ρ) F H → lk i ρ = some es →
  (∀ J a, σ[i]? = some (some (.ref a)) → FeedO X J (φ es) i a es → R J H) → wi σ H R
theorem feedO_list {i : Nat} {a : Addr} {es : List D} : FeedO X (Itl X.K a) es i a es := by
  intro n B l xs F H w h r
  have q : SqL X.K H a xs := SqL.of h
  refine ⟨fun d hd => ?_, fun hi => ⟨xs, q, by rw [r.length]; exact hi⟩⟩
  obtain ⟨v, e1, e2⟩ := r.get hd
  refine ⟨⟨xs, v, q, e1⟩, fun x H' hy => ?_⟩
  obtain ⟨rfl, hy⟩ := hy
  have : v = x := Option.some.inj (e1.symm.trans (hy xs q))
  subst this
  exact ⟨F, w.more e2⟩
theorem feedO_enum {i : Nat} {a : Addr} {es : List D} : FeedO X (Ite X.K a) (enumD es) i a es := by
  intro n B l xs F H w h r
  have q : SqL X.K H a xs := SqL.of h
  refine ⟨fun d hd => ?_, fun hi => ⟨xs, q, by rw [r.length]; simpa [enumD] using hi⟩⟩
  unfold enumD at hd
  rw [List.getElem?_zipWith] at hd
  have hi : n < es.length := by
    by_cases z : n < es.length
    · exact z
    · rw [List.getElem?_eq_none (l := es) (by omega)] at hd
      cases hr : (List.range es.length)[n]? <;> rw [hr] at hd <;> cases hd
  rw [List.getElem?_range hi, List.getElem?_eq_getElem hi] at hd
  have hd' : PyData.tuple [.int (n : Nat), es[n]] = d := Option.some.inj hd
  subst hd'
  obtain ⟨v, e1, e2⟩ := r.get (List.getElem?_eq_getElem hi)
  refine ⟨⟨xs, v, q, e1⟩, fun x H' hy => ?_⟩
  obtain ⟨T, y, rfl, hT, rfl, hy⟩ := hy
  have : v = y := Option.some.inj (e1.symm.trans (hy xs q))
  subst this
  exact ⟨_, w.new_tup (.cons (.int _) (.cons e2 .nil)) hT⟩
theorem eio_seq (i : Nat) {tg : Expr} {x : Str} {pos : Pos} (hN : X.N[i]? = some x := by rfl) (hv : Vis X.env.scope x := by first | exact Or.inl rfl | exact Or.inr (Or.inl rfl) | exact Or.inr (Or.inr rfl)) (hd : (x == ("__debug__" : Str)) = false := by decide)
    (hcd : (x == ("__classdict__" : Str)) = false := by decide) : EvIO X tg (.Name x pos) i id := by
  refine ⟨_, pi_seq (pe_var hN hv hd hcd), fun B ts σ ρ F H R es hl w he h => ?_⟩
  obtain ⟨a, xs, h1, h2, h3⟩ := w.look hl he
  exact ⟨_, h1, a, rfl, .inl ⟨⟨xs, SqL.of h2⟩, h _ a h1 feedO_list⟩⟩
theorem eio_enum (i : Nat) {elts : List Expr} {kk : Nat} {tpos p pos p2 : Pos} {x : Str} (hm : X.mg "enumerate" = none) (hg : Gl X "enumerate" := by rfl) (hN : X.N[i]? = some x := by rfl) (hv : Vis X.env.scope x := by first | exact Or.inl rfl | exact Or.inr (Or.inl rfl) | exact Or.inr (Or.inr rfl)) (hd : (x == ("__debug__" : Str)) = false := by decide)
    (hcd : (x == ("__classdict__" : Str)) = false := by decide) (hs : starEach [.Name x p2] X.env = [(false, eval (.Name x p2) X.env)] := by rfl) : EvIO X (.Tuple elts kk tpos) (.Call (.Name "enumerate" p) [.Name x p2] [] pos) i enumD := by
  refine ⟨_, pi_enumA hg hm (pa_cons (pe_var hN hv hd hcd) pa_nil hs) hs, fun B ts σ ρ F H R es hl w he h => ?_⟩
  obtain ⟨a, xs, h1, h2, h3⟩ := w.look hl he
  exact ⟨_, h1, a, rfl, .inl ⟨⟨xs, SqL.of h2⟩, h _ a h1 feedO_enum⟩⟩
def stay (i : Nat) (es : List D) (ρ : Env) : Bool := tru (lk i ρ = some es)
def loopO (i : Nat) (es : List D) (k : Sl → Env → Option Env) (body : Ms) : List D → Ms
  | [], ρ => match stay i es ρ with
    | true => .nx ρ
    | false => .bad
  | d :: ds, ρ => match stay i es ρ with
    | false => .bad
    | true => match k (.val d) ρ with
      | none => .bad
      | some ρ1 => match body ρ1 with
        | .nx ρ2 => loopO i es k body ds ρ2
        | .ct ρ2 => loopO i es k body ds ρ2
        | .bk ρ2 => .nx ρ2
        | .rt r ρ2 => .rt r ρ2
        | .ex e ρ2 => .ex e ρ2
        | .bad => .bad
def mForO (i : Nat) (φ : List D → List D) (k : Sl → Env → Option Env) (body : Ms) : Ms := fun ρ => match lk i ρ with
  | some es => loopO i es k body (φ es) ρ
  | none => .bad
theorem Pins.sub {pn pn' : List Nat} {σ σ' : L2.St} (h : Pins pn' σ σ') (s : ∀ i ∈ pn, i ∈ pn') : Pins pn σ σ' := fun i hi => h i (s i hi)
theorem ss_forO (i : Nat) {pn tv : List Nat} {tg iter : Expr} {body : List Stmt} {φ : List D → List D} {k : Sl → Env → Option Env} {g : Ms} {pos : Pos} (hp : PassesOwn (model X.prog X.w) X.A X.env X.xe) (hi : EvIO X tg iter i φ) (hg : Tg X tv tg k) (hb : SsB X E (i :: pn) body g) (htv : ∀ j ∈ i :: pn, j ∉ tv := by decide) (hc : X.calm = true := by rfl)
    (hs : ∀ x, foldedSetIterable iter X.env x = pure x := by intro _; rfl) : Ss X E pn (.For tg iter body [] pos) (mForO i φ k g) := by
  obtain ⟨wi, pi, qi⟩ := hi
  obtain ⟨tg', pg, qg⟩ := hg
  obtain ⟨tb, pb, qb⟩ := hb
  refine ⟨_, ps_for hp hc pi pg pb hs, fun B ts σ ρ F H D hl w h => ?_⟩
  unfold mForO at h
  cases e1 : lk i ρ with
  | none => rw [e1] at h; exact h.elim
  | some es =>
    rw [e1] at h
    simp only at h
    refine qi B ts σ ρ F H _ es hl w e1 fun J a ha fd => ?_
    generalize φ es = ds at h fd
    refine ⟨fun n m σ' H' => ∃ ρ' F', m = ds.length - n ∧ n ≤ ds.length ∧ σ'.length = σ.length ∧ σ'.length = ρ'.length ∧ Pins (i :: pn) σ σ' ∧ WX X B (ts ++ zp σ' ρ') F' H' ∧ SPost X E B ts pn σ D (loopO i es k g (ds.drop n) ρ'),
      ⟨ds.length, ρ, F, rfl, Nat.zero_le _, rfl, hl, Pins.refl _ _, w, h⟩, ?_⟩
    rintro n m σ' H' ⟨ρ', F', rfl, hn, hl2, hl3, hp', w', h'⟩
    have st : ∀ {A : Prop}, (stay i es ρ' = true → A) → A := fun {A} q => by
      apply q
      cases ed : ds.drop n with
      | nil =>
        rw [ed] at h'
        unfold loopO at h'
        cases es : stay i es ρ' with
        | true => rfl
        | false => rw [es] at h'; exact h'.elim
      | cons x r =>
        rw [ed] at h'
        unfold loopO at h'
        cases es : stay i es ρ' with
        | true => rfl
        | false => rw [es] at h'; exact h'.elim
    refine st fun st => ?_
    have st' : lk i ρ' = some es := tru_iff.mp st
    obtain ⟨a', xs, h1, h2, h3⟩ := w'.look hl3 st'
    have ea : a' = a := by
      have q := hp' i (by simp)
      rw [h1, ha] at q
      injection q with q
      injection q with q
      injection q
    subst ea
    obtain ⟨f1, f2⟩ := fd n B _ xs F' H' w' h2 h3
    by_cases hlt : n < ds.length
    · have ed : ds.drop n = ds[n] :: ds.drop (n + 1) := List.drop_eq_getElem_cons hlt
      rw [ed] at h'
      unfold loopO at h'
      rw [st] at h'
      simp only at h'
      obtain ⟨g1, g2⟩ := f1 ds[n] (List.getElem?_eq_getElem hlt)
      refine .inr ⟨g1, fun σ'' H'' => ∃ ρ'' F'', σ''.length = σ.length ∧ σ''.length = ρ''.length ∧ Pins (i :: pn) σ σ'' ∧ WX X B (ts ++ zp σ'' ρ'') F'' H'' ∧ SPost X E B ts pn σ D (loopO i es k g (ds.drop (n + 1)) ρ''),
        fun σ'' H'' ⟨ρ'', F'', a1, a2, a3, a4, a6⟩ => ⟨ds.length - (n + 1), by omega, ρ'', F'', rfl, hlt, a1, a2, a3, a4, a6⟩, fun x H2 hy => ?_⟩
      obtain ⟨F2, w2⟩ := g2 x H2 hy
      cases ek : k (.val ds[n]) ρ' with
      | none => rw [ek] at h'; exact h'.elim
      | some ρ2 =>
        rw [ek] at h'
        simp only at h'
        refine qg B ts σ' ρ' ρ2 F2 H2 x _ _ hl3 w2 ek fun σ3 F3 H3 b1 b2 b3' w3 => ?_
        have b3 : Pins (i :: pn) σ' σ3 := fun j hj => b3' j (htv j hj)
        have sub : ∀ j ∈ pn, j ∈ i :: pn := fun j hj => List.mem_cons_of_mem _ hj
        refine qb B ts σ3 ρ2 F3 H3 _ b2 w3 ?_
        cases eb : g ρ2 with
        | bad => rw [eb] at h'; exact h'.elim
        | nx ρ3 =>
          rw [eb] at h'
          exact fun σ4 F4 H4 c1 c2 c3 w4 => ⟨ρ3, F4, c1.trans (b1.trans hl2), c2, (hp'.trans b3).trans c3, w4, h'⟩
        | ct ρ3 =>
          rw [eb] at h'
          exact fun σ4 F4 H4 c1 c2 c3 w4 => ⟨ρ3, F4, c1.trans (b1.trans hl2), c2, (hp'.trans b3).trans c3, w4, h'⟩
        | bk ρ3 =>
          rw [eb] at h'
          exact fun σ4 F4 H4 c1 c2 c3 w4 => h' σ4 F4 H4 (c1.trans (b1.trans hl2)) c2 (((hp'.trans b3).trans c3).sub sub) w4
        | rt r ρ3 =>
          rw [eb] at h'
          exact fun v σ4 F4 H4 c1 c2 c3 w4 => h' v σ4 F4 H4 (c1.trans (b1.trans hl2)) c2 (((hp'.trans b3).trans c3).sub sub) w4
        | ex e ρ3 =>
          rw [eb] at h'
          exact fun c dx σ4 F4 H4 c1 c2 c3 w4 q => h' c dx σ4 F4 H4 (c1.trans (b1.trans hl2)) c2 (((hp'.trans b3).trans c3).sub sub) w4 q
    · have : n = ds.length := by omega
      subst this
      rw [List.drop_length] at h'
      unfold loopO at h'
      rw [st] at h'
      exact .inl ⟨f2 (Nat.le_refl _), h' σ' F' H' hl2 hl3 (hp'.sub fun j hj => List.mem_cons_of_mem _ hj) w'⟩
/-! in a comprehension -/
def compO (i : Nat) (es : List D) (vs : List Nat) (k : Sl → Env → Option Env) (tt : M Bool) (fe : M Sl) : List D → List D → Env → Rs Sl
  | [], acc, ρ => match stay i es ρ with
    | true => .ok (.lst acc) ρ
    | false => .bad
  | d :: ds, acc, ρ => match stay i es ρ with
    | false => .bad
    | true => match k (.val d) ρ with
      | none => .bad
      | some ρ1 => match tt ρ1 with
        | .ok true ρ2 => match fe ρ2 with
          | .ok r ρ3 => match r.d? with
            | some y => match szOk (acc.length + 1) with
              | true => compO i es vs k tt fe ds (acc ++ [y]) (wipeS ρ3 vs)
              | false => .bad
            | none => .bad
          | _ => .bad
        | .ok false ρ2 => compO i es vs k tt fe ds acc (wipeS ρ2 vs)
        | _ => .bad
def mCompO (i : Nat) (φ : List D → List D) (vs : List Nat) (k : Sl → Env → Option Env) (tt : M Bool) (fe : M Sl) : M Sl := fun ρ => match lk i ρ with
  | some es => compO i es vs k tt fe (φ es) [] (wipeS ρ vs)
  | none => .bad
theorem compO_run (i : Nat) {iter elt tg : Expr} {ifs : List Expr} {scope : Scope} {vs tv : List Nat} {φ : List D → List D} {k : Sl → Env → Option Env} {ft : M Bool} {fe : M Sl} (hi : EvIO X tg iter i φ)
    (hg : Blk X scope fun Y => Tg Y tv tg k) (ht : Blk X scope fun Y => EvTs Y E0 ifs ft) (he : Blk X scope fun Y => Ev Y E0 elt fe) (htv : ∀ i ∈ tv, i ∈ vs) (hiv : i ∉ vs) :
    ∃ wi g tt te, PI X tg iter wi ∧ (Blk X scope fun Y => PG Y tg g) ∧ (Blk X scope fun Y => PTs Y ifs tt) ∧ (Blk X scope fun Y => PE Y elt te) ∧ Run X E (tLc wi g tt te vs) (mCompO i φ vs k ft fe) := by
  obtain ⟨wi, pi, qi⟩ := hi
  refine ⟨wi, fun v σ H Q => ∀ s H' C cl fp, Classical.choose (hg s H' C cl fp) v σ H Q, fun σ H Q => ∀ s H' C cl fp, Classical.choose (ht s H' C cl fp) σ H Q, fun σ H Q => ∀ s H' C cl fp, Classical.choose (he s H' C cl fp) σ H Q, pi,
    fun s H' C cl fp => ⟨fun pins s1 σ H v u Q I r h => (Classical.choose_spec (hg s H' C cl fp)).1.run pins s1 σ H v u Q I r (h s H' C cl fp)⟩,
    fun s H' C cl fp => ⟨fun pins s1 σ H Q I h => (Classical.choose_spec (ht s H' C cl fp)).1.run pins s1 σ H Q I (h s H' C cl fp)⟩,
    fun s H' C cl fp => ⟨fun pins s1 σ H Q I h => (Classical.choose_spec (he s H' C cl fp)).1.run pins s1 σ H Q I (h s H' C cl fp)⟩, ?_⟩
  intro B ts σ ρ F H Q hl w h
  unfold mCompO at h
  cases e1 : lk i ρ with
  | none => rw [e1] at h; exact h.elim
  | some es =>
    rw [e1] at h
    simp only at h
    refine qi B ts σ ρ F H _ es hl w e1 fun J a ha fd => ?_
    generalize φ es = ds at h fd
    intro N hN
    have back : ∀ {σ' : L2.St} {ρ' : Env} {acc : List D} {F' H' : Hp}, σ'.length = ρ'.length → σ'.length = σ.length → (∀ j, j ∉ vs → σ'[j]? = (wipe σ vs)[j]?) → WX X B ((some (.ref N), .lst acc) :: (ts ++ zp σ' ρ')) F' H' → WX X B ((some (.ref N), .lst acc) :: (ts ++ zp (wipe σ vs) (wipeS ρ' vs))) F' H' := fun h1 h2 h3 w => by
      refine w.wk (.same (Wk.app (Wk.refl _) (wk_wipe h1 ?_ fun j hj => (h3 j hj).symm)))
      rw [wipe_length]; exact h2.symm
    have w0 : WX X B ((some (.ref N), .lst []) :: (ts ++ zp σ ρ)) F (upd H N (.lst [])) := W.new_lst w (ds := []) .nil hN
    refine ⟨fun n m H' => ∃ ρ' F' acc, m = ds.length - n ∧ n ≤ ds.length ∧ σ.length = ρ'.length ∧ (∀ j ∈ vs, j < ρ'.length → ρ'[j]? = some .und) ∧ WX X B ((some (.ref N), .lst acc) :: (ts ++ zp (wipe σ vs) ρ')) F' H' ∧ EPost X E B ts σ (compO i es vs k ft fe (ds.drop n) acc ρ') Q,
      ⟨ds.length, wipeS ρ vs, F, [], rfl, Nat.zero_le _, by rw [wipeS_length]; exact hl, fun j hj hlt => wipeS_at.2 hj (by rw [wipeS_length] at hlt; exact hlt), back hl rfl (fun j hj => (wipe_out hj).symm) w0, h⟩, ?_⟩
    rintro n m H' ⟨ρ', F', acc, rfl, hn, hl2, hu, w', h'⟩
    have hl2' : (wipe σ vs).length = ρ'.length := by rw [wipe_length]; exact hl2
    have st : stay i es ρ' = true := by
      cases ed : ds.drop n with
      | nil =>
        rw [ed] at h'
        unfold compO at h'
        cases es : stay i es ρ' with
        | true => rfl
        | false => rw [es] at h'; exact h'.elim
      | cons x r =>
        rw [ed] at h'
        unfold compO at h'
        cases es : stay i es ρ' with
        | true => rfl
        | false => rw [es] at h'; exact h'.elim
    have st' : lk i ρ' = some es := tru_iff.mp st
    obtain ⟨a', xs, h1, h2, h3⟩ := W.look (ts := (some (.ref N), .lst acc) :: ts) w' hl2' st'
    have ea : a' = a := by
      rw [wipe_out hiv, ha] at h1
      injection h1 with q
      injection q with q
      injection q with q
      exact q.symm
    subst ea
    obtain ⟨f1, f2⟩ := fd n B _ xs F' H' w' h2 h3
    by_cases hlt : n < ds.length
    · have ed : ds.drop n = ds[n] :: ds.drop (n + 1) := List.drop_eq_getElem_cons hlt
      rw [ed] at h'
      unfold compO at h'
      rw [st] at h'
      simp only at h'
      obtain ⟨g1, g2⟩ := f1 ds[n] (List.getElem?_eq_getElem hlt)
      refine .inr ⟨g1, fun H'' => ∃ ρ'' F'' acc', σ.length = ρ''.length ∧ (∀ j ∈ vs, j < ρ''.length → ρ''[j]? = some .und) ∧ WX X B ((some (.ref N), .lst acc') :: (ts ++ zp (wipe σ vs) ρ'')) F'' H'' ∧ EPost X E B ts σ (compO i es vs k ft fe (ds.drop (n + 1)) acc' ρ'') Q,
        fun H'' ⟨ρ'', F'', acc', a2, a3, a4, a6⟩ => ⟨ds.length - (n + 1), by omega, ρ'', F'', acc', rfl, hlt, a2, a3, a4, a6⟩, fun x H2 hy => ?_⟩
      obtain ⟨F2, w2⟩ := g2 x H2 hy
      cases ek : k (.val ds[n]) ρ' with
      | none => rw [ek] at h'; exact h'.elim
      | some ρ2 =>
        rw [ek] at h'
        simp only at h'
        have w3 : WX X B ((some x, .val ds[n]) :: (((some (.ref N), .lst acc) :: ts) ++ zp (wipe σ vs) ρ')) F2 H2 := w2
        intro s H0 C cl fp
        refine (Classical.choose_spec (hg s H0 C cl fp)).2 B _ (wipe σ vs) ρ' ρ2 F2 H2 x _ _ hl2' w3 ek fun σ3 F3 H3 b1 b2 b3 w4 => ?_
        rw [wipe_length] at b1
        have b4 : ∀ j, j ∉ vs → σ3[j]? = (wipe σ vs)[j]? := fun j hj => b3 j fun z => hj (htv j z)
        have b5 : ∀ j, j ∉ vs → σ3[j]? = σ[j]? := fun j hj => (b4 j hj).trans (wipe_out hj)
        refine ⟨wipe_eq b1 b5, fun s H0 C cl fp => ?_⟩
        refine (Classical.choose_spec (ht s H0 C cl fp)).2 B _ σ3 ρ2 F3 H3 _ b2 w4 ?_
        cases et : ft ρ2 with
        | bad => rw [et] at h'; exact h'.elim
        | ex _ _ => rw [et] at h'; exact h'.elim
        | ok b ρ3 =>
          rw [et] at h'
          intro hl3 F4 H4 w5
          cases b with
          | false =>
            simp only at h'
            exact iteF ⟨wipeS ρ3 vs, F4, acc, by rw [wipeS_length]; exact b1.symm.trans hl3, fun j hj hlt => wipeS_at.2 hj (by rw [wipeS_length] at hlt; exact hlt), back hl3 b1 b4 w5, h'⟩
          | true =>
            simp only at h'
            refine iteT fun s H0 C cl fp => (Classical.choose_spec (he s H0 C cl fp)).2 B _ σ3 ρ3 F4 H4 _ hl3 w5 ?_
            cases ee : fe ρ3 with
            | bad => rw [ee] at h'; exact h'.elim
            | ex _ _ => rw [ee] at h'; exact h'.elim
            | ok r ρ4 =>
              rw [ee] at h'
              simp only at h'
              intro hl4 y F5 H5 w6
              cases er : r.d? with
              | none => rw [er] at h'; exact h'.elim
              | some yd =>
                rw [er] at h'
                simp only at h'
                cases es : szOk (acc.length + 1) with
                | false => rw [es] at h'; exact h'.elim
                | true =>
                  rw [es] at h'
                  simp only at h'
                  obtain ⟨F6, w7, _⟩ := w6.freeze er
                  obtain ⟨us, q1, q2, q3⟩ := W.app1 w7
                  exact ⟨us, q1, by rw [q2]; exact szOk_le es, wipeS ρ4 vs, F6, acc ++ [yd], by rw [wipeS_length]; exact b1.symm.trans hl4, fun j hj hlt => wipeS_at.2 hj (by rw [wipeS_length] at hlt; exact hlt), back hl4 b1 b4 q3, h'⟩
    · have : n = ds.length := by omega
      subst this
      rw [List.drop_length] at h'
      unfold compO at h'
      rw [st] at h'
      refine .inl ⟨f2 (Nat.le_refl _), h' hl2 _ F' H' ?_⟩
      refine w'.wk (.same (Wk.app (Wk.refl _) ?_))
      refine Wk.zip (by rw [wipe_length]; exact hl2) (wipe_length _ _).symm rfl fun j => ?_
      by_cases hj : j ∈ vs
      · by_cases hlt : j < ρ'.length
        · exact .inl (hu j hj hlt)
        · exact .inr ⟨by rw [List.getElem?_eq_none (by omega), List.getElem?_eq_none (by rw [wipe_length]; omega)], rfl⟩
      · exact .inr ⟨(wipe_out hj).symm, rfl⟩
theorem ev_compO (i : Nat) {iter elt tg : Expr} {ifs : List Expr} {scope : Scope} {own : List (Str × Nat)} {tv : List Nat} {φ : List D → List D} {k : Sl → Env → Option Env} {ft : M Bool} {fe : M Sl} {pos : Pos} (hN : X.N.Nodup) (hi : EvIO X tg iter i φ) (ok : BlkOk X.N X.env.scope scope own)
    (hg : Blk X scope fun Y => Tg Y tv tg k) (ht : Blk X scope fun Y => EvTs Y E0 ifs ft) (he : Blk X scope fun Y => Ev Y E0 elt fe) (htv : ∀ i ∈ tv, i ∈ own.map (·.2) := by decide) (hiv : i ∉ own.map (·.2) := by decide) (hc : X.calm = true := by rfl) (hs : ∀ x, foldedSetIterable iter X.env x = pure x := by intro _; rfl) :
    Ev X E (.ListComp elt [⟨tg, iter, ifs, 0⟩] scope pos) (mCompO i φ (own.map (·.2)) k ft fe) := by
  obtain ⟨wi, g, tt, te, a, b, c, d, r⟩ := compO_run i hi hg ht he htv hiv
  exact ⟨_, pe_lc hc hN a ok b c d hs, r⟩
theorem ss_setCompO (l : Nat) (i : Nat) {pn : List Nat} {y : Str} {py : Pos} {iter elt tg : Expr} {ifs : List Expr} {scope : Scope} {own : List (Str × Nat)} {tv : List Nat} {φ : List D → List D} {k : Sl → Env → Option Env} {ft : M Bool} {fe : M Sl} {pos spos : Pos} (hN : X.N.Nodup) (hi : EvIO X tg iter i φ)
    (ok : BlkOk X.N X.env.scope scope own) (hg : Blk X scope fun Y => Tg Y tv tg k) (ht : Blk X scope fun Y => EvTs Y E0 ifs ft) (he : Blk X scope fun Y => Ev Y E0 elt fe) (hsw : swapsWith (.ListComp elt [⟨tg, iter, ifs, 0⟩] scope pos) (some (.Name y py)) spos.line X.env = pure true) (hpn : l ∉ pn := by decide)
    (htv : ∀ i ∈ tv, i ∈ own.map (·.2) := by decide) (hiv : i ∉ own.map (·.2) := by decide) (hy : X.N[l]? = some y := by rfl) (hyl : X.env.scope.names.lookup y = some .local := by rfl) (hc : X.calm = true := by rfl) (hs : ∀ x, foldedSetIterable iter X.env x = pure x := by intro _; rfl) :
    Ss X E pn (.Assign [.Name y py] (.ListComp elt [⟨tg, iter, ifs, 0⟩] scope pos) spos) (mSet l (mCompO i φ (own.map (·.2)) k ft fe)) := by
  obtain ⟨wi, g, tt, te, a, b, c, d, r⟩ := compO_run i hi hg ht he htv hiv
  exact ⟨_, ps_setLc hc hN hy hyl hsw a ok b c d hs, fun B ts σ ρ F H D hl w h => r B ts σ ρ F H _ hl w (post_set hpn h)⟩
/-! ### return of what a name owns -/
def mRetO (i : Nat) : Ms := fun ρ => match ρ[i]? with
  | some s => match s.there with
    | true => .rt s (ρ.set i .und)
    | false => .bad
  | none => .bad
theorem ss_retO (i : Nat) {pn : List Nat} {x : Str} {p pos : Pos} (hN : X.N[i]? = some x := by rfl) (hv : Vis X.env.scope x := by first | exact Or.inl rfl | exact Or.inr (Or.inl rfl) | exact Or.inr (Or.inr rfl)) (hd : (x == ("__debug__" : Str)) = false := by decide)
    (hcd : (x == ("__classdict__" : Str)) = false := by decide) : Ss X E pn (.Return (some (.Name x p)) pos) (mRetO i) := by
  refine ⟨_, ps_ret (pe_var hN hv hd hcd), fun B ts σ ρ F H D hl w h => ?_⟩
  unfold mRetO at h
  cases e : ρ[i]? with
  | none => rw [e] at h; exact h.elim
  | some s =>
    rw [e] at h
    simp only at h
    cases e2 : s.there with
    | false => rw [e2] at h; exact h.elim
    | true =>
      rw [e2] at h
      obtain ⟨o, l, h1, w1, k⟩ := w.at hl e
      obtain ⟨v, rfl⟩ := w1.there e2
      refine ⟨v, h1, h v σ F H rfl (set_len hl) (Pins.refl _ _) ?_⟩
      exact k (ts' := (some v, s) :: ts) ((w1.und (o := some v)).perm (.refl _))
end
end
end Fx

set_option Elab.async false
set_option linter.all false
set_option maxRecDepth 100000
namespace Fx
open PySem PySem.Spec PyProof.Rows L2
noncomputable section
/-! plain evaluation of mirrors -/
@[simp] theorem bd_ok {α β : Type} (a : α) (ρ : Env) (k : α → M β) : (Rs.ok a ρ).bd k = k a ρ := rfl
@[simp] theorem st_ok {α : Type} (a : α) (ρ : Env) (k : α → Ms) : (Rs.ok a ρ).st k = k a ρ := rfl
@[simp] theorem so_nx (ρ : Env) (k : Ms) : (So.nx ρ).bd k = k ρ := rfl
@[simp] theorem so_rt (r : Sl) (ρ : Env) (k : Ms) : (So.rt r ρ).bd k = So.rt r ρ := rfl
@[simp] theorem so_bk (ρ : Env) (k : Ms) : (So.bk ρ).bd k = So.bk ρ := rfl
@[simp] theorem so_ct (ρ : Env) (k : Ms) : (So.ct ρ).bd k = So.ct ρ := rfl
@[simp] theorem so_bad (k : Ms) : So.bad.bd k = So.bad := rfl
@[simp] theorem d_val (d : D) : (Sl.val d).d? = some d := rfl
@[simp] theorem d_lst (ds : List D) : (Sl.lst ds).d? = some (.list ds) := rfl
@[simp] theorem tst_b (b : Bool) (ρ : Env) : tst (.ok (.val (.bool b)) ρ) = .ok b ρ := rfl
theorem mC_e (d : D) (ρ : Env) : mC d ρ = .ok (.val d) ρ := rfl
theorem mVar_val {i : Nat} {d : D} {ρ : Env} (h : ρ[i]? = some (.val d)) : mVar i ρ = .ok (.val d) ρ := by
  unfold mVar; rw [h]; simp [set_self h]
theorem mVar_lst {i : Nat} {ds : List D} {ρ : Env} (h : ρ[i]? = some (.lst ds)) : mVar i ρ = .ok (.val (.list ds)) (ρ.set i (.val (.list ds))) := by
  unfold mVar; rw [h]; simp
@[simp] theorem okLt_int (a b : Int) : okLt (.int a) (.int b) = true := rfl
@[simp] theorem ltD_int (a b : Int) : ltD (.int a) (.int b) = decide (a < b) := rfl
@[simp] theorem leD_int (a b : Int) : leD (.int a) (.int b) = decide (a ≤ b) := rfl
@[simp] theorem pl_int (a : Int) : pl (.int a) = true := by simp [pl, PyData.plain, PyData.depth]
@[simp] theorem pl_bool (a : Bool) : pl (.bool a) = true := by simp [pl, PyData.plain, PyData.depth]
@[simp] theorem pl_none : pl .none = true := by simp [pl, PyData.plain, PyData.depth]
@[simp] theorem pl_str (s : Str) : pl (.str s) = true := by simp [pl, PyData.plain, PyData.depth]
@[simp] theorem eqv_int (a b : Int) : PyData.eqv (.int a) (.int b) = decide (a = b) := by
  have e : PyData.eqv (.int a) (.int b) = (a == b) := by simp [PyData.eqv]
  rw [e, Bool.eq_iff_iff]; simp
theorem atI_0 {α : Type} (x : α) (l : List α) : atI (x :: l) 0 = some x := by simp [atI, ixN]
theorem atI_1 {α : Type} (x y : α) (l : List α) : atI (x :: y :: l) 1 = some y := by
  have : (1 : Int) < (l.length : Int) + 1 + 1 := by omega
  simp [atI, ixN, this]
theorem atI_2 {α : Type} (x y z : α) (l : List α) : atI (x :: y :: z :: l) 2 = some z := by
  have : (2 : Int) < (l.length : Int) + 1 + 1 + 1 := by omega
  simp [atI, ixN, this]
theorem atI_nn {α : Type} {xs : List α} {i : Int} (h0 : 0 ≤ i) (h1 : i < xs.length) : atI xs i = xs[i.toNat]? := by
  simp [atI, ixN, h0, h1]

/-! one step, where the environment is written out -/
section
variable {s : Sl} {ρ : Env}
def bin2 (g : D → D → Option Sl) (ra rb : Sl) : M Sl := fun ρ2 => match ra.d?, rb.d? with
  | some a, some b => match g a b with
    | some r => .ok r ρ2
    | none => .bad
  | _, _ => .bad
def un1 (g : D → Option Sl) (ra : Sl) : M Sl := fun ρ1 => match ra.d? with
  | some a => match g a with
    | some r => .ok r ρ1
    | none => .bad
  | _ => .bad
def opR (o : Option Sl) (ρ : Env) : Rs Sl := match o with | some r => .ok r ρ | none => .bad
@[simp] theorem opR_some (r : Sl) (ρ : Env) : opR (some r) ρ = .ok r ρ := rfl
@[simp] theorem bin2_vv (g : D → D → Option Sl) (a b : D) (ρ : Env) : bin2 g (.val a) (.val b) ρ = opR (g a b) ρ := by simp only [bin2, d_val]; unfold opR; rfl
@[simp] theorem bin2_vl (g : D → D → Option Sl) (a : D) (b : List D) (ρ : Env) : bin2 g (.val a) (.lst b) ρ = opR (g a (.list b)) ρ := by simp only [bin2, d_val, d_lst]; unfold opR; rfl
@[simp] theorem bin2_lv (g : D → D → Option Sl) (a : List D) (b : D) (ρ : Env) : bin2 g (.lst a) (.val b) ρ = opR (g (.list a) b) ρ := by simp only [bin2, d_val, d_lst]; unfold opR; rfl
@[simp] theorem bin2_ll (g : D → D → Option Sl) (a b : List D) (ρ : Env) : bin2 g (.lst a) (.lst b) ρ = opR (g (.list a) (.list b)) ρ := by simp only [bin2, d_lst]; unfold opR; rfl
@[simp] theorem un1_v (g : D → Option Sl) (a : D) (ρ : Env) : un1 g (.val a) ρ = opR (g a) ρ := by simp only [un1, d_val]; unfold opR; rfl
@[simp] theorem un1_l (g : D → Option Sl) (a : List D) (ρ : Env) : un1 g (.lst a) ρ = opR (g (.list a)) ρ := by simp only [un1, d_lst]; unfold opR; rfl
theorem e_C (d : D) : mC d (s :: ρ) = .ok (.val d) (s :: ρ) := rfl
theorem e_Seq (f g : Ms) : mSeq f g (s :: ρ) = (f (s :: ρ)).bd g := rfl
theorem e_Set (i : Nat) (f : M Sl) : mSet i f (s :: ρ) = (f (s :: ρ)).st fun r ρ1 => .nx (ρ1.set i r) := rfl
theorem e_Ret (f : M Sl) : mRet f (s :: ρ) = (f (s :: ρ)).st fun r ρ1 => .rt r ρ1 := rfl
theorem e_Drop (f : M Sl) : mDrop f (s :: ρ) = (f (s :: ρ)).st fun _ ρ1 => .nx ρ1 := rfl
theorem e_IfS (c : M Bool) (f g : Ms) : mIfS c f g (s :: ρ) = (c (s :: ρ)).st fun b ρ1 => if b = true then f ρ1 else g ρ1 := rfl
theorem e_If {α : Type} (c : M Bool) (f g : M α) : mIf c f g (s :: ρ) = (c (s :: ρ)).bd fun b ρ1 => if b = true then f ρ1 else g ρ1 := rfl
theorem e_Tst (f : M Sl) : mTst f (s :: ρ) = tst (f (s :: ρ)) := rfl
theorem e_Not (f : M Bool) : mNot f (s :: ρ) = (f (s :: ρ)).bd fun b ρ1 => .ok (!b) ρ1 := rfl
theorem e_And (f g : M Bool) : mAnd f g (s :: ρ) = (f (s :: ρ)).bd fun b ρ1 => if b = true then g ρ1 else .ok false ρ1 := rfl
theorem e_Or (f g : M Bool) : mOr f g (s :: ρ) = (f (s :: ρ)).bd fun b ρ1 => if b = true then .ok true ρ1 else g ρ1 := rfl
theorem e_AndV (f g : M Sl) : mAndV f g (s :: ρ) = (tst (f (s :: ρ))).bd fun b ρ1 => if b = true then g ρ1 else .ok (.val (.bool false)) ρ1 := rfl
theorem e_OrV (f g : M Sl) : mOrV f g (s :: ρ) = (tst (f (s :: ρ))).bd fun b ρ1 => if b = true then .ok (.val (.bool true)) ρ1 else g ρ1 := rfl
theorem e_NotV (f : M Sl) : mNotV f (s :: ρ) = (tst (f (s :: ρ))).bd fun b ρ1 => .ok (.val (.bool (!b))) ρ1 := rfl
theorem e_Bin (g : D → D → Option Sl) (fa fb : M Sl) : mBin g fa fb (s :: ρ) = (fa (s :: ρ)).bd fun ra ρ1 => (fb ρ1).bd fun rb ρ2 => bin2 g ra rb ρ2 := rfl
theorem e_Un (g : D → Option Sl) (fa : M Sl) : mUn g fa (s :: ρ) = (fa (s :: ρ)).bd fun ra ρ1 => un1 g ra ρ1 := rfl
theorem e_Isi (T : String) (fa : M Sl) : mIsi T fa (s :: ρ) = (fa (s :: ρ)).bd fun ra ρ1 => un1 (gIsi T) ra ρ1 := rfl
def varR (i : Nat) (o : Option Sl) (ρ : Env) : Rs Sl := match o with
  | some s => match s.d? with
    | some d => .ok (.val d) (ρ.set i (.val d))
    | none => .bad
  | none => .bad
@[simp] theorem varR_val (i : Nat) (d : D) (ρ : Env) : varR i (some (.val d)) ρ = .ok (.val d) (ρ.set i (.val d)) := rfl
@[simp] theorem varR_lst (i : Nat) (ds : List D) (ρ : Env) : varR i (some (.lst ds)) ρ = .ok (.val (.list ds)) (ρ.set i (.val (.list ds))) := rfl
theorem e_Var (i : Nat) : mVar i (s :: ρ) = varR i ((s :: ρ)[i]?) (s :: ρ) := rfl
def arg1 (ra : Sl) (rs : List Sl) : M (List Sl) := fun ρ2 => match ra.d? with
  | some a => .ok (.val a :: rs) ρ2
  | none => .bad
@[simp] theorem arg1_v (a : D) (rs : List Sl) (ρ : Env) : arg1 (.val a) rs ρ = .ok (.val a :: rs) ρ := rfl
@[simp] theorem arg1_l (a : List D) (rs : List Sl) (ρ : Env) : arg1 (.lst a) rs ρ = .ok (.val (.list a) :: rs) ρ := rfl
theorem e_Arg (fa : M Sl) (fr : M (List Sl)) : mArg fa fr (s :: ρ) = (fa (s :: ρ)).bd fun ra ρ1 => (fr ρ1).bd fun rs ρ2 => arg1 ra rs ρ2 := rfl
def argO2 (i : Nat) (rs : List Sl) (o : Option Sl) (ρ2 : Env) : Rs (List Sl) := match o with
  | some s2 => match s2.there with
    | true => .ok (s2 :: rs) (ρ2.set i .und)
    | false => .bad
  | none => .bad
def argO1 (i : Nat) (fr : M (List Sl)) (o : Option Sl) (ρ : Env) : Rs (List Sl) := match o with
  | some s => match s.there with
    | true => (fr ρ).bd fun rs ρ2 => argO2 i rs (ρ2[i]?) ρ2
    | false => .bad
  | none => .bad
theorem argO1_t {i : Nat} {fr : M (List Sl)} {t : Sl} {ρ : Env} (h : t.there = true) : argO1 i fr (some t) ρ = (fr ρ).bd fun rs ρ2 => argO2 i rs (ρ2[i]?) ρ2 := by unfold argO1; simp only [h]
theorem argO2_t {i : Nat} {rs : List Sl} {t : Sl} {ρ : Env} (h : t.there = true) : argO2 i rs (some t) ρ = .ok (t :: rs) (ρ.set i .und) := by unfold argO2; simp only [h]
theorem e_ArgO (i : Nat) (fr : M (List Sl)) : mArgO i fr (s :: ρ) = argO1 i fr ((s :: ρ)[i]?) (s :: ρ) := rfl
@[simp] theorem dAll_nil : dAll [] = some [] := rfl
@[simp] theorem dAll_v (d : D) (r : List Sl) : dAll (.val d :: r) = (dAll r).map (d :: ·) := by
  show (match (Sl.val d).d?, dAll r with | some d, some ds => some (d :: ds) | _, _ => none) = _
  cases dAll r <;> rfl
def tup1 (rs : List Sl) (ρ1 : Env) : Rs Sl := match dAll rs with
  | some ds => match szOk ds.length with
    | true => .ok (.val (.tuple ds)) ρ1
    | false => .bad
  | none => .bad
def lst1 (rs : List Sl) (ρ1 : Env) : Rs Sl := match dAll rs with
  | some ds => match szOk ds.length with
    | true => .ok (.lst ds) ρ1
    | false => .bad
  | none => .bad
theorem e_Tup (fs : M (List Sl)) : mTup fs (s :: ρ) = (fs (s :: ρ)).bd fun rs ρ1 => tup1 rs ρ1 := rfl
theorem e_Lst (fs : M (List Sl)) : mLst fs (s :: ρ) = (fs (s :: ρ)).bd fun rs ρ1 => lst1 rs ρ1 := rfl
theorem tup1_ok {rs : List Sl} {ds : List D} {ρ1 : Env} (h : dAll rs = some ds) (h2 : szOk ds.length = true) : tup1 rs ρ1 = .ok (.val (.tuple ds)) ρ1 := by simp only [tup1, h, h2]
theorem lst1_ok {rs : List Sl} {ds : List D} {ρ1 : Env} (h : dAll rs = some ds) (h2 : szOk ds.length = true) : lst1 rs ρ1 = .ok (.lst ds) ρ1 := by simp only [lst1, h, h2]
def cb1 (g : List D → Option Sl) (rs : List Sl) (ρ1 : Env) : Rs Sl := match dAll rs with
  | some ds => opR (g ds) ρ1
  | none => .bad
theorem e_CB (g : List D → Option Sl) (fs : M (List Sl)) : mCB g fs (s :: ρ) = (fs (s :: ρ)).bd fun rs ρ1 => cb1 g rs ρ1 := by
  unfold mCB cb1 opR; rfl
@[simp] theorem cb1_1 (g : List D → Option Sl) (a : D) (ρ : Env) : cb1 g [.val a] ρ = opR (g [a]) ρ := rfl
@[simp] theorem cb1_2 (g : List D → Option Sl) (a b : D) (ρ : Env) : cb1 g [.val a, .val b] ρ = opR (g [a, b]) ρ := rfl
def foR (mv : List (Option Nat)) (ρ1 : Env) : Fo → Rs Sl
  | .rt r ps => .ok r (putBack mv ps ρ1)
  | .ex e ps => .ex e (putBack mv ps ρ1)
  | .bad => .bad
@[simp] theorem foR_rt (mv : List (Option Nat)) (ρ1 : Env) (r : Sl) (ps : List Sl) : foR mv ρ1 (.rt r ps) = .ok r (putBack mv ps ρ1) := rfl
theorem e_Call (m : List Sl → Fo) (mv : List (Option Nat)) (fs : M (List Sl)) : mCall m mv fs (s :: ρ) = (fs (s :: ρ)).bd fun rs ρ1 => foR mv ρ1 (m rs) := by
  unfold mCall foR; rfl
@[simp] theorem pb_nil (ps : List Sl) (ρ : Env) : putBack [] ps ρ = ρ := by cases ps <;> rfl
@[simp] theorem pb_some (i : Nat) (mv : List (Option Nat)) (p : Sl) (ps : List Sl) (ρ : Env) : putBack (some i :: mv) (p :: ps) ρ = putBack mv ps (ρ.set i p) := rfl
@[simp] theorem pb_none (mv : List (Option Nat)) (p : Sl) (ps : List Sl) (ρ : Env) : putBack (none :: mv) (p :: ps) ρ = putBack mv ps ρ := rfl
def ixO1 (i : Nat) (fb : M Sl) (o : Option Sl) (ρ : Env) : Rs Sl := match o with
  | some (.lst _) => (fb ρ).bd fun rb ρ1 => match ρ1[i]? with
    | some (.lst ds) => match rb with
      | .val (.int k) => match L2.atI ds k with
        | some d => .ok (.val d) ρ1
        | none => .bad
      | _ => .bad
    | _ => .bad
  | _ => .bad
def ixO2 (o : Option Sl) (rb : Sl) (ρ1 : Env) : Rs Sl := match o with
    | some (.lst ds) => match rb with
      | .val (.int k) => opR ((L2.atI ds k).map .val) ρ1
      | _ => .bad
    | _ => .bad
@[simp] theorem ixO2_e (ds : List D) (k : Int) (ρ : Env) : ixO2 (some (.lst ds)) (.val (.int k)) ρ = opR ((L2.atI ds k).map .val) ρ := rfl
theorem e_IxO (i : Nat) (fb : M Sl) : mIxO i fb (s :: ρ) = ixO1 i fb ((s :: ρ)[i]?) (s :: ρ) := rfl
@[simp] theorem ixO1_l (i : Nat) (fb : M Sl) (ds : List D) (ρ : Env) : ixO1 i fb (some (.lst ds)) ρ = (fb ρ).bd fun rb ρ1 => ixO2 (ρ1[i]?) rb ρ1 := by
  simp only [ixO1]
  congr 1
  funext rb ρ1
  generalize ρ1[i]? = o
  cases o with
  | none => rfl
  | some t =>
    cases t with
    | lst es =>
      cases rb with
      | val d => cases d with
        | int k => simp only [ixO2]; cases L2.atI es k <;> rfl
        | _ => rfl
      | _ => rfl
    | _ => rfl
theorem e_LenO (i : Nat) : mLenO i (s :: ρ) = (match (s :: ρ)[i]? with | some (.lst ds) => .ok (.val (.int ds.length)) (s :: ρ) | _ => .bad) := rfl
def setIx1 (i : Nat) (fi : M Sl) (d : D) (o : Option Sl) (ρ1 : Env) : So := match o with
    | some (.lst _) => (fi ρ1).st fun ri ρ2 => match ri with
      | .val (.int k) => match ρ2[i]? with
        | some (.lst ds) => match ixN ds.length k with
          | some j => .nx (ρ2.set i (.lst (ds.set j d)))
          | none => .bad
        | _ => .bad
      | _ => .bad
    | _ => .bad
theorem e_SetIx (i : Nat) (fi fe : M Sl) : mSetIx i fi fe (s :: ρ) = (fe (s :: ρ)).st fun r ρ1 => match r.d? with | some d => setIx1 i fi d (ρ1[i]?) ρ1 | none => .bad := by
  unfold mSetIx setIx1; rfl
theorem setIx1_c {i : Nat} {n : Int} {d : D} {ds : List D} {s : Sl} {ρ : Env} {j : Nat} (h : (s :: ρ)[i]? = some (.lst ds)) (hj : ixN ds.length n = some j) : setIx1 i (mC (.int n)) d (some (.lst ds)) (s :: ρ) = .nx ((s :: ρ).set i (.lst (ds.set j d))) := by
  simp only [setIx1, e_C, st_ok, h, hj]
def meth1 (i : Nat) (T : String) (g : Sl → List D → Option (Sl × Sl)) (fs : M (List Sl)) (o : Option Sl) (ρ : Env) : Rs Sl := match o with
  | some s => match s.ty == T with
    | true => (fs ρ).bd fun rs ρ1 => match dAll rs with
      | some ds => match ρ1[i]? with
        | some s1 => match g s1 ds with
          | some (s', rc) => .ok rc (ρ1.set i s')
          | none => .bad
        | none => .bad
      | none => .bad
    | false => .bad
  | none => .bad
def meth2 (i : Nat) (g : Sl → List D → Option (Sl × Sl)) (rs : List Sl) (ρ1 : Env) : Rs Sl := match dAll rs with
  | some ds => match ρ1[i]? with
    | some s1 => match g s1 ds with
      | some (s', rc) => .ok rc (ρ1.set i s')
      | none => .bad
    | none => .bad
  | none => .bad
theorem e_Meth (i : Nat) (T : String) (g : Sl → List D → Option (Sl × Sl)) (fs : M (List Sl)) : mMeth i T g fs (s :: ρ) = meth1 i T g fs ((s :: ρ)[i]?) (s :: ρ) := rfl
theorem meth1_l {i : Nat} {g : Sl → List D → Option (Sl × Sl)} {fs : M (List Sl)} {ds : List D} {ρ : Env} : meth1 i "list" g fs (some (.lst ds)) ρ = (fs ρ).bd fun rs ρ1 => meth2 i g rs ρ1 := rfl
theorem meth2_ok {i : Nat} {g : Sl → List D → Option (Sl × Sl)} {rs : List Sl} {ds : List D} {ρ1 : Env} {s1 s' rc : Sl} (h1 : dAll rs = some ds) (h2 : ρ1[i]? = some s1) (h3 : g s1 ds = some (s', rc)) : meth2 i g rs ρ1 = .ok rc (ρ1.set i s') := by
  unfold meth2; simp only [h1, h2, h3]
theorem e_For (fi : M (List D)) (k : Sl → Env → Option Env) (body : Ms) : mFor fi k body (s :: ρ) = (fi (s :: ρ)).st (loopM k body) := rfl
def seq1 (r : Sl) (ρ1 : Env) : Rs (List D) := match r.d? with
  | some d => match D.seq? d with
    | some ds => .ok ds ρ1
    | none => .bad
  | none => .bad
@[simp] theorem seq1_l (ds : List D) (ρ : Env) : seq1 (.val (.list ds)) ρ = .ok ds ρ := rfl
@[simp] theorem seq1_t (ds : List D) (ρ : Env) : seq1 (.val (.tuple ds)) ρ = .ok ds ρ := rfl
@[simp] theorem seq1_o (ds : List D) (ρ : Env) : seq1 (.lst ds) ρ = .ok ds ρ := rfl
theorem e_SeqI (f : M Sl) : mSeqI f (s :: ρ) = (f (s :: ρ)).bd fun r ρ1 => seq1 r ρ1 := rfl
def rg1 (rs : List Sl) (ρ1 : Env) : Rs (List D) := match rs with
  | [.val (.int j)] => match rgOk j with
    | true => .ok ((List.range j.toNat).map fun i => .int (0 + (i : Nat))) ρ1
    | false => .bad
  | _ => .bad
def rg2 (rs : List Sl) (ρ1 : Env) : Rs (List D) := match rs with
  | [.val (.int i), .val (.int j)] => match rgOk i, rgOk j with
    | true, true => .ok (rgD i j) ρ1
    | _, _ => .bad
  | _ => .bad
theorem e_Rg1 (fs : M (List Sl)) : mRg1 fs (s :: ρ) = (fs (s :: ρ)).bd fun rs ρ1 => rg1 rs ρ1 := by
  unfold mRg1 rg1; rfl
theorem e_Rg2 (fs : M (List Sl)) : mRg2 fs (s :: ρ) = (fs (s :: ρ)).bd fun rs ρ1 => rg2 rs ρ1 := by
  unfold mRg2 rg2; rfl
/-- 0, 1, .., n - 1 -/
def upto (n : Nat) : List D := (List.range n).map fun i => .int (i : Nat)
theorem rg1_e {j : Int} {ρ : Env} (h : rgOk j = true) : rg1 [.val (.int j)] ρ = .ok (upto j.toNat) ρ := by
  simp only [rg1, h, upto, Int.zero_add]
theorem rg2_e {i j : Int} {ρ : Env} (h : rgOk i = true) (h2 : rgOk j = true) : rg2 [.val (.int i), .val (.int j)] ρ = .ok (rgD i j) ρ := by
  simp only [rg2, h, h2]
theorem rgOk_of {j : Int} (h : -1000 ≤ j) (h2 : j ≤ 1000000000) : rgOk j = true := by
  unfold rgOk
  exact tru_iff.mpr ⟨by omega, by omega⟩
theorem e_Comp (vs : List Nat) (fi : M (List D)) (k : Sl → Env → Option Env) (tt : M Bool) (fe : M Sl) : mComp vs fi k tt fe (s :: ρ) = (fi (s :: ρ)).bd fun ds ρ1 => compM vs k tt fe ds [] (wipeS ρ1 vs) := rfl
def part1 (r : Sl) (ρ1 : Env) : Rs (Option Int) := match r with
  | .val (.int i) => .ok (some i) ρ1
  | _ => .bad
@[simp] theorem part1_e (i : Int) (ρ : Env) : part1 (.val (.int i)) ρ = .ok (some i) ρ := rfl
theorem e_Part (f : M Sl) : mPart f (s :: ρ) = (f (s :: ρ)).bd fun r ρ1 => part1 r ρ1 := rfl
theorem e_NoPart : mNoPart (s :: ρ) = .ok none (s :: ρ) := rfl
def slice1 (ra : Sl) (lo hi : Option Int) (ρ3 : Env) : Rs Sl := match ra.d? with
  | some a => opR (gSl a lo hi) ρ3
  | none => .bad
@[simp] theorem slice1_v (a : D) (lo hi : Option Int) (ρ : Env) : slice1 (.val a) lo hi ρ = opR (gSl a lo hi) ρ := rfl
@[simp] theorem slice1_l (a : List D) (lo hi : Option Int) (ρ : Env) : slice1 (.lst a) lo hi ρ = opR (gSl (.list a) lo hi) ρ := rfl
theorem e_Slice (fa : M Sl) (fl fh : M (Option Int)) : mSlice fa fl fh (s :: ρ) = (fa (s :: ρ)).bd fun ra ρ1 => (fl ρ1).bd fun lo ρ2 => (fh ρ2).bd fun hi ρ3 => slice1 ra lo hi ρ3 := by
  unfold mSlice slice1 opR; rfl
theorem e_ListScr (i : Nat) : mListScr i (s :: ρ) = (match (s :: ρ)[i]? with | some (.scr ns) => .ok (.lst (ns.map .int)) (s :: ρ) | _ => .bad) := rfl
end
theorem szOk_of {n : Nat} (h : n ≤ 1000000) : szOk n = true := by unfold szOk; exact tru_iff.mpr (by omega)
theorem CMulA_of {i j : Int} (h : -(2 ^ 64) < i ∧ i < 2 ^ 64) : CMulA i j := .inl (.inl h)
theorem gMul_e {i j : Int} (h : -(2 ^ 64) < i ∧ i < 2 ^ 64) : gMul (.int i) (.int j) = some (.val (.int (i * j))) := by simp only [gMul]; rw [if_pos (tru_iff.mpr (CMulA_of h))]
theorem gMod_e {i j : Int} (h : 0 < j) : gMod (.int i) (.int j) = some (.val (.int (i % j))) := by simp only [gMod]; rw [if_pos (tru_iff.mpr h)]
theorem gDiv_e {i j : Int} (h : 0 < j) (h2 : j.natAbs.log2 < 9000) : gDiv (.int i) (.int j) = some (.val (.int (i / j))) := by simp only [gDiv]; rw [if_pos (tru_iff.mpr ⟨h, h2⟩)]
theorem gPow_e {i j : Int} (h : CPow i j) : gPow (.int i) (.int j) = some (.val (.int (i ^ j.toNat))) := by simp only [gPow]; rw [if_pos (tru_iff.mpr h)]
theorem gAdd_i (i j : Int) : gAdd (.int i) (.int j) = some (.val (.int (i + j))) := rfl
theorem gLt_i (i j : Int) : gLt (.int i) (.int j) = some (.val (.bool (decide (i < j)))) := rfl
theorem gLe_i (i j : Int) : gLe (.int i) (.int j) = some (.val (.bool (decide (i ≤ j)))) := rfl
theorem gGt_i (i j : Int) : gGt (.int i) (.int j) = some (.val (.bool (decide (j < i)))) := rfl
theorem gGe_i (i j : Int) : gGe (.int i) (.int j) = some (.val (.bool (decide (j ≤ i)))) := rfl
theorem gEq_i (i j : Int) : gEq (.int i) (.int j) = some (.val (.bool (decide (i = j)))) := by
  unfold gEq okEq; simp
theorem gLen_l (ds : List D) : gLen [.list ds] = some (.val (.int ds.length)) := rfl
theorem gLen_t (ds : List D) : gLen [.tuple ds] = some (.val (.int ds.length)) := rfl
theorem gIx_l (ds : List D) (i : Int) : gIx (.list ds) (.int i) = (L2.atI ds i).map .val := rfl
theorem gIx_t (ds : List D) (i : Int) : gIx (.tuple ds) (.int i) = (L2.atI ds i).map .val := rfl
end
end Fx

set_option Elab.async false
set_option linter.all false
set_option maxRecDepth 100000
namespace Fx
open PySem PySem.Spec PyProof.Rows L2
noncomputable section
/-! loops and comprehensions of mirrors, by an invariant -/
theorem loop_inv {k : Sl → Env → Option Env} {body : Ms} (P : Nat → Env → Prop) : ∀ (ds : List D) (i : Nat) (ρ : Env), P i ρ →
    (∀ (j : Nat) (d : D) (ρ : Env), ds[j]? = some d → P (i + j) ρ → ∃ ρ1 ρ2, k (.val d) ρ = some ρ1 ∧ (body ρ1 = .nx ρ2 ∨ body ρ1 = .ct ρ2) ∧ P (i + j + 1) ρ2) → ∃ ρ', loopM k body ds ρ = .nx ρ' ∧ P (i + ds.length) ρ'
  | [], i, ρ, h, _ => ⟨ρ, rfl, h⟩
  | d :: ds, i, ρ, h, hs => by
    obtain ⟨ρ1, ρ2, h1, h2, h3⟩ := hs 0 d ρ rfl h
    obtain ⟨ρ', e, p⟩ := loop_inv (k := k) (body := body) P ds (i + 1) ρ2 h3 fun j d' ρ3 e p => by
      have := hs (j + 1) d' ρ3 (by simpa using e) (by rw [show i + (j + 1) = i + 1 + j by omega]; exact p)
      rw [show i + (j + 1) = i + 1 + j by omega] at this
      exact this
    refine ⟨ρ', ?_, by rw [List.length_cons, show i + (ds.length + 1) = i + 1 + ds.length by omega]; exact p⟩
    simp only [loopM, h1]
    rcases h2 with h2 | h2 <;> (rw [h2]; exact e)
/-- .. that may return -/
theorem loop_ret {k : Sl → Env → Option Env} {body : Ms} (P : Nat → Env → Prop) (R : Sl → Env → Prop) : ∀ (ds : List D) (i : Nat) (ρ : Env), P i ρ →
    (∀ (j : Nat) (d : D) (ρ : Env), ds[j]? = some d → P (i + j) ρ → ∃ ρ1, k (.val d) ρ = some ρ1 ∧ ((∃ ρ2, (body ρ1 = .nx ρ2 ∨ body ρ1 = .ct ρ2) ∧ P (i + j + 1) ρ2) ∨ ∃ r ρ2, body ρ1 = .rt r ρ2 ∧ R r ρ2)) →
    (∃ ρ', loopM k body ds ρ = .nx ρ' ∧ P (i + ds.length) ρ') ∨ ∃ r ρ', loopM k body ds ρ = .rt r ρ' ∧ R r ρ'
  | [], i, ρ, h, _ => .inl ⟨ρ, rfl, h⟩
  | d :: ds, i, ρ, h, hs => by
    obtain ⟨ρ1, h1, h2⟩ := hs 0 d ρ rfl h
    rcases h2 with ⟨ρ2, h2, h3⟩ | ⟨r, ρ2, h2, h3⟩
    · have := loop_ret (k := k) (body := body) P R ds (i + 1) ρ2 h3 fun j d' ρ3 e p => by
        have := hs (j + 1) d' ρ3 (by simpa using e) (by rw [show i + (j + 1) = i + 1 + j by omega]; exact p)
        rw [show i + (j + 1) = i + 1 + j by omega] at this
        exact this
      have e0 : loopM k body (d :: ds) ρ = loopM k body ds ρ2 := by
        simp only [loopM, h1]
        rcases h2 with h2 | h2 <;> rw [h2]
      rw [e0, List.length_cons, show i + (ds.length + 1) = i + 1 + ds.length by omega]
      exact this
    · refine .inr ⟨r, ρ2, ?_, h3⟩
      simp only [loopM, h1, h2]
theorem comp_inv {vs : List Nat} {k : Sl → Env → Option Env} {tt : M Bool} {fe : M Sl} (P : Nat → List D → Env → Prop) : ∀ (ds : List D) (i : Nat) (acc : List D) (ρ : Env), P i acc ρ → (∀ i acc ρ, P i acc ρ → acc.length ≤ i) → i + ds.length ≤ 1000000 →
    (∀ (j : Nat) (d : D) (acc : List D) (ρ : Env), ds[j]? = some d → P (i + j) acc ρ → ∃ ρ1 b ρ2, k (.val d) ρ = some ρ1 ∧ tt ρ1 = .ok b ρ2 ∧ ((b = false ∧ P (i + j + 1) acc (wipeS ρ2 vs)) ∨ (b = true ∧ ∃ r ρ3 y, fe ρ2 = .ok r ρ3 ∧ r.d? = some y ∧ P (i + j + 1) (acc ++ [y]) (wipeS ρ3 vs)))) →
    ∃ acc' ρ', compM vs k tt fe ds acc ρ = .ok (.lst acc') ρ' ∧ P (i + ds.length) acc' ρ'
  | [], i, acc, ρ, h, _, _, _ => ⟨acc, ρ, rfl, h⟩
  | d :: ds, i, acc, ρ, h, hsz, hn, hs => by
    obtain ⟨ρ1, b, ρ2, h1, h2, h3⟩ := hs 0 d acc ρ rfl h
    have hn' : i + (ds.length + 1) ≤ 1000000 := hn
    have next : ∀ acc2 ρ', P (i + 1) acc2 ρ' → ∃ acc' ρ'', compM vs k tt fe ds acc2 ρ' = .ok (.lst acc') ρ'' ∧ P (i + (d :: ds).length) acc' ρ'' := fun acc2 ρ' hp => by
      obtain ⟨a, r, e, p⟩ := comp_inv (vs := vs) (k := k) (tt := tt) (fe := fe) P ds (i + 1) acc2 ρ' hp hsz (by omega) fun j d' acc3 ρ3 e p => by
        have := hs (j + 1) d' acc3 ρ3 (by simpa using e) (by rw [show i + (j + 1) = i + 1 + j by omega]; exact p)
        rw [show i + (j + 1) = i + 1 + j by omega] at this
        exact this
      exact ⟨a, r, e, by rw [List.length_cons, show i + (ds.length + 1) = i + 1 + ds.length by omega]; exact p⟩
    rcases h3 with ⟨rfl, h3⟩ | ⟨rfl, r, ρ3, y, h4, h5, h6⟩
    · obtain ⟨a, r, e, p⟩ := next _ _ h3
      exact ⟨a, r, by simp only [compM, h1, h2]; exact e, p⟩
    · obtain ⟨a, r', e, p⟩ := next _ _ h6
      have := hsz _ _ _ h
      refine ⟨a, r', ?_, p⟩
      simp only [compM, h1, h2, h4, h5, szOk_of (show acc.length + 1 ≤ 1000000 by omega)]
      exact e
/-- where nothing is stored -/
theorem comp_map {vs : List Nat} {k : Sl → Env → Option Env} {tt : M Bool} {fe : M Sl} {ρ : Env} (ρ1 : D → Env) (p : D → Bool) (f : D → D) : ∀ (ds acc : List D), acc.length + ds.length ≤ 1000000 →
    (∀ d ∈ ds, k (.val d) ρ = some (ρ1 d) ∧ tt (ρ1 d) = .ok (p d) (ρ1 d) ∧ (p d = true → ∃ r, fe (ρ1 d) = .ok r (ρ1 d) ∧ r.d? = some (f d)) ∧ wipeS (ρ1 d) vs = ρ) → compM vs k tt fe ds acc ρ = .ok (.lst (acc ++ (ds.filter p).map f)) ρ
  | [], acc, _, _ => by simp [compM]
  | d :: ds, acc, hn, h => by
    obtain ⟨h1, h2, h3, h4⟩ := h d (List.mem_cons_self ..)
    rw [List.length_cons] at hn
    cases hp : p d with
    | false =>
      simp only [compM, h1, h2, hp, h4]
      rw [comp_map ρ1 p f ds acc (by omega) fun d hd => h d (List.mem_cons_of_mem _ hd)]
      simp [List.filter_cons, hp]
    | true =>
      obtain ⟨r, h5, h6⟩ := h3 hp
      simp only [compM, h1, h2, hp, h5, h6, h4, szOk_of (show acc.length + 1 ≤ 1000000 by omega)]
      rw [comp_map ρ1 p f ds (acc ++ [f d]) (by rw [List.length_append, List.length_singleton]; omega) fun d hd => h d (List.mem_cons_of_mem _ hd)]
      simp [List.filter_cons, hp]
theorem comp_enc {α : Type} {vs : List Nat} {k : Sl → Env → Option Env} {tt : M Bool} {fe : M Sl} {ρ : Env} (enc : α → D) (ρ1 : α → Env) (p : α → Bool) (f : α → D) : ∀ (l : List α) (acc : List D), acc.length + l.length ≤ 1000000 →
    (∀ a ∈ l, k (.val (enc a)) ρ = some (ρ1 a) ∧ tt (ρ1 a) = .ok (p a) (ρ1 a) ∧ (p a = true → ∃ r, fe (ρ1 a) = .ok r (ρ1 a) ∧ r.d? = some (f a)) ∧ wipeS (ρ1 a) vs = ρ) → compM vs k tt fe (l.map enc) acc ρ = .ok (.lst (acc ++ (l.filter p).map f)) ρ
  | [], acc, _, _ => by simp [compM]
  | d :: ds, acc, hn, h => by
    obtain ⟨h1, h2, h3, h4⟩ := h d (List.mem_cons_self ..)
    rw [List.length_cons] at hn
    rw [List.map_cons]
    cases hp : p d with
    | false =>
      simp only [compM, h1, h2, hp, h4]
      rw [comp_enc enc ρ1 p f ds acc (by omega) fun d hd => h d (List.mem_cons_of_mem _ hd)]
      simp [List.filter_cons, hp]
    | true =>
      obtain ⟨r, h5, h6⟩ := h3 hp
      simp only [compM, h1, h2, hp, h5, h6, h4, szOk_of (show acc.length + 1 ≤ 1000000 by omega)]
      rw [comp_enc enc ρ1 p f ds (acc ++ [f d]) (by rw [List.length_append, List.length_singleton]; omega) fun d hd => h d (List.mem_cons_of_mem _ hd)]
      simp [List.filter_cons, hp]
/-- without tests -/
theorem comp_all {α : Type} {vs : List Nat} {k : Sl → Env → Option Env} {fe : M Sl} {ρ : Env} (enc : α → D) (ρ1 : α → Env) (f : α → D) (l : List α) (hn : l.length ≤ 1000000)
    (h : ∀ a ∈ l, k (.val (enc a)) ρ = some (ρ1 a) ∧ (∃ r, fe (ρ1 a) = .ok r (ρ1 a) ∧ r.d? = some (f a)) ∧ wipeS (ρ1 a) vs = ρ) : compM vs k mYes fe (l.map enc) [] ρ = .ok (.lst (l.map f)) ρ := by
  have := comp_enc (vs := vs) (k := k) (tt := mYes) (fe := fe) (ρ := ρ) enc ρ1 (fun _ => true) f l [] (by rw [List.length_nil]; omega) fun a ha => ⟨(h a ha).1, rfl, fun _ => (h a ha).2.1, (h a ha).2.2⟩
  rw [this, List.filter_eq_self.mpr (fun _ _ => rfl)]
  rfl
theorem upto_len (n : Nat) : (upto n).length = n := by unfold upto; rw [List.length_map, List.length_range]
theorem upto_get {n j : Nat} {d : D} (h : (upto n)[j]? = some d) : j < n ∧ d = .int (j : Nat) := by
  have h1 := (List.getElem?_eq_some_iff.mp h).1
  rw [upto_len] at h1
  refine ⟨h1, ?_⟩
  unfold upto at h
  rw [List.getElem?_map, List.getElem?_range h1] at h
  exact (Option.some.inj h).symm
@[simp] theorem kName_e (i : Nat) (r : Sl) (ρ : Env) : kName i r ρ = some (ρ.set i r) := rfl
theorem mYes_e (ρ : Env) : mYes ρ = .ok true ρ := rfl

/-! lists -/
theorem getD_at {α : Type} {l : List α} {i : Nat} {d : α} (h : i < l.length) : l.getD i d = l[i] := by
  rw [List.getD_eq_getElem?_getD, List.getElem?_eq_getElem h]; rfl
theorem nodup_map_on {α β : Type} {f : α → β} {l : List α} (hf : ∀ x ∈ l, ∀ y ∈ l, f x = f y → x = y) (h : l.Nodup) : (l.map f).Nodup := by
  unfold List.Nodup
  rw [List.pairwise_map]
  exact List.Pairwise.imp_of_mem (fun {a b} ha hb hne e => hne (hf a ha b hb e)) h
theorem perm_of_nodup {α : Type} [DecidableEq α] : ∀ {l m : List α}, l.Nodup → m.Nodup → (∀ x ∈ l, x ∈ m) → m.length ≤ l.length → l.Perm m
  | [], m, _, _, _, h => by
    have : m = [] := List.length_eq_zero_iff.mp (by simpa using h)
    subst this; exact .refl _
  | x :: l, m, hl, hm, hs, h => by
    have hx : x ∈ m := hs x (List.mem_cons_self ..)
    have hl' := List.nodup_cons.mp hl
    have p := List.perm_cons_erase hx
    have := perm_of_nodup (l := l) (m := m.erase x) hl'.2 (hm.erase x) (fun y hy => by
      refine (List.Nodup.mem_erase_iff hm).mpr ⟨?_, hs y (List.mem_cons_of_mem _ hy)⟩
      rintro rfl; exact hl'.1 hy) (by rw [List.length_erase_of_mem hx]; rw [List.length_cons] at h; omega)
    exact (this.cons x).trans p.symm

/-! orders, tables -/
def nats (l : List Nat) : List D := l.map fun x => .int (x : Nat)
def ordD (o : List Nat) : D := .tuple (nats o)
def tabD (t : List (List Nat)) : D := .tuple (t.map ordD)
theorem nats_len (l : List Nat) : (nats l).length = l.length := by unfold nats; rw [List.length_map]
theorem atI_nats {l : List Nat} {i : Nat} (h : i < l.length) : atI (nats l) ((i : Nat) : Int) = some (.int (l[i] : Nat)) := by
  rw [atI_nn (by omega) (by rw [nats_len]; omega)]
  unfold nats
  rw [List.getElem?_map, Int.toNat_natCast, List.getElem?_eq_getElem h]
  rfl
theorem atI_ords {t : List (List Nat)} {i : Nat} (h : i < t.length) : atI (t.map ordD) ((i : Nat) : Int) = some (ordD t[i]) := by
  rw [atI_nn (by omega) (by rw [List.length_map]; omega), List.getElem?_map, Int.toNat_natCast, List.getElem?_eq_getElem h]
  rfl
theorem fn_rt {nN n : Nat} {pn : List Nat} {g : Ms} {rs ps : List Sl} {r : Sl} {ρ0 ρ : Fx.Env} (h0 : rs ++ List.replicate (nN - n) .und = ρ0) (h : g ρ0 = .rt r ρ) (hb : backP pn 0 n ρ = ps) : mFn nN n pn g rs = .rt r ps := by
  unfold mFn; rw [h0, h]; simp only [hb]
theorem fn_nx {nN n : Nat} {pn : List Nat} {g : Ms} {rs ps : List Sl} {ρ0 ρ : Fx.Env} (h0 : rs ++ List.replicate (nN - n) .und = ρ0) (h : g ρ0 = .nx ρ) (hb : backP pn 0 n ρ = ps) : mFn nN n pn g rs = .rt (.val .none) ps := by
  unfold mFn; rw [h0, h]; simp only [hb]
theorem lst1_nil (ρ : Fx.Env) : lst1 [] ρ = .ok (.lst []) ρ := lst1_ok rfl (szOk_of (by decide))
/-! tuples of ints, their order -/
def tupI (l : List Int) : D := .tuple (l.map .int)
theorem alikeAll_ints : ∀ l m : List Int, PySem.W.alikeAll (l.map .int) (m.map .int) = true
  | [], _ => by simp [PySem.W.alikeAll]
  | _ :: _, [] => by simp [PySem.W.alikeAll]
  | x :: l, y :: m => by
    rw [List.map_cons, List.map_cons, PySem.W.alikeAll, alikeAll_ints l m]
    simp [PySem.W.alike]
theorem alike_tupI (l m : List Int) : PySem.W.alike (tupI l) (tupI m) = true := by
  unfold tupI; rw [PySem.W.alike]; exact alikeAll_ints l m
theorem plainAll_ints : ∀ l : List Int, PyData.plainAll (l.map .int) = true
  | [] => by simp [PyData.plainAll]
  | x :: l => by rw [List.map_cons, PyData.plainAll, plainAll_ints l]; simp [PyData.plain]
theorem plain_tupI (l : List Int) : (tupI l).plain = true := by unfold tupI; rw [PyData.plain]; exact plainAll_ints l
theorem depthAll_ints : ∀ l : List Int, PyData.depthAll (l.map .int) = 0
  | [] => by simp [PyData.depthAll]
  | x :: l => by rw [List.map_cons, PyData.depthAll, depthAll_ints l]; simp [PyData.depth]
theorem depth_tupI (l : List Int) : (tupI l).depth = 1 := by unfold tupI; rw [PyData.depth, depthAll_ints]
theorem pl_tupI (l : List Int) : pl (tupI l) = true := by unfold pl; rw [plain_tupI, depth_tupI]; rfl
theorem lt_tupI (l m : List Int) : PySem.W.dataLt (tupI l) (tupI m) = decide (l < m) := by
  unfold tupI; rw [PySem.W.dataLt_tuple]; exact PySem.W.dataLt_ints l m
theorem plainAll_tupI : ∀ L : List (List Int), PyData.plainAll (L.map tupI) = true
  | [] => by simp [PyData.plainAll]
  | x :: l => by rw [List.map_cons, PyData.plainAll, plainAll_tupI l, plain_tupI]; rfl
theorem depthAll_tupI : ∀ L : List (List Int), PyData.depthAll (L.map tupI) ≤ 1
  | [] => by simp [PyData.depthAll]
  | x :: l => by
    have := depthAll_tupI l
    rw [List.map_cons, PyData.depthAll, depth_tupI]
    exact Nat.max_le.mpr ⟨Nat.le_refl _, this⟩
theorem okMin_tupI (x : List Int) (L : List (List Int)) : okMin (tupI x :: L.map tupI) = true := by
  have h1 := plainAll_tupI (x :: L)
  have h2 := depthAll_tupI (x :: L)
  rw [List.map_cons] at h1 h2
  unfold okMin
  simp only [h1, Bool.true_and, Bool.and_eq_true, decide_eq_true_eq, List.all_eq_true]
  refine ⟨⟨by omega, fun a ha b hb => ?_⟩, fun a ha => ?_⟩
  · rw [← List.map_cons] at ha hb
    obtain ⟨a, _, rfl⟩ := List.mem_map.mp ha
    obtain ⟨b, _, rfl⟩ := List.mem_map.mp hb
    exact alike_tupI a b
  · rw [← List.map_cons] at ha
    obtain ⟨a, _, rfl⟩ := List.mem_map.mp ha
    rfl
theorem minD_tupI : ∀ (L : List (List Int)) (x : List Int), ∃ m ∈ x :: L, PySem.W.minD (tupI x) (L.map tupI) = tupI m ∧ ∀ y ∈ x :: L, ¬ y < m
  | [], x => ⟨x, List.mem_cons_self .., rfl, fun y hy => by
    have : y = x := by simpa using hy
    subst this; exact List.lt_irrefl y⟩
  | y :: L, x => by
    have step : PySem.W.minD (tupI x) ((y :: L).map tupI) = PySem.W.minD (if y < x then tupI y else tupI x) (L.map tupI) := by
      unfold PySem.W.minD
      rw [List.map_cons, List.foldl_cons, lt_tupI]
      by_cases h : y < x <;> simp [h]
    by_cases h : y < x
    · obtain ⟨m, h1, h2, h3⟩ := minD_tupI L y
      refine ⟨m, List.mem_cons_of_mem _ h1, by rw [step, if_pos h]; exact h2, fun z hz => ?_⟩
      rcases List.mem_cons.mp hz with rfl | hz
      · intro q; exact h3 y (List.mem_cons_self ..) (List.lt_trans h q)
      · exact h3 z hz
    · obtain ⟨m, h1, h2, h3⟩ := minD_tupI L x
      refine ⟨m, ?_, by rw [step, if_neg h]; exact h2, fun z hz => ?_⟩
      · rcases List.mem_cons.mp h1 with rfl | h1
        · exact List.mem_cons_self ..
        · exact List.mem_cons_of_mem _ (List.mem_cons_of_mem _ h1)
      · rcases List.mem_cons.mp hz with rfl | hz
        · exact h3 z (List.mem_cons_self ..)
        · rcases List.mem_cons.mp hz with rfl | hz
          · intro q
            exact List.le_trans (List.not_lt.mp (h3 x (List.mem_cons_self ..))) (List.not_lt.mp h) q
          · exact h3 z (List.mem_cons_of_mem _ hz)
end
end Fx

set_option Elab.async false
set_option linter.all false
set_option maxRecDepth 100000
namespace Fx
open PySem PySem.Spec PyProof.Rows L2
noncomputable section
section
variable {s : Sl} {ρ : Fx.Env}
def asg1 (k : Sl → Fx.Env → Option Fx.Env) (r : Sl) (ρ1 : Fx.Env) : So := match r.d? with
  | some d => match k (.val d) ρ1 with
    | some ρ2 => .nx ρ2
    | none => .bad
  | none => .bad
theorem e_AsgT (f : M Sl) (k : Sl → Fx.Env → Option Fx.Env) : mAsgT f k (s :: ρ) = (f (s :: ρ)).st fun r ρ1 => asg1 k r ρ1 := rfl
def onx (o : Option Fx.Env) : So := match o with
  | some ρ => .nx ρ
  | none => .bad
theorem onx_some (ρ : Fx.Env) : onx (some ρ) = .nx ρ := rfl
theorem asg1_v (k : Sl → Fx.Env → Option Fx.Env) (d : D) (ρ1 : Fx.Env) : asg1 k (.val d) ρ1 = onx (k (.val d) ρ1) := by
  simp only [asg1, d_val]
  cases k (.val d) ρ1 <;> rfl
theorem asg1_l (k : Sl → Fx.Env → Option Fx.Env) (d : List D) (ρ1 : Fx.Env) : asg1 k (.lst d) ρ1 = onx (k (.val (.list d)) ρ1) := by
  simp only [asg1, d_lst]
  cases k (.val (.list d)) ρ1 <;> rfl
theorem kTup_e (n : Nat) (kr : List D → Fx.Env → Option Fx.Env) (ds : List D) (ρ : Fx.Env) : kTup n kr (.val (.tuple ds)) ρ = if ds.length = n then kr ds ρ else none := rfl
theorem kTup_2 (kr : List D → Fx.Env → Option Fx.Env) (a b : D) (ρ : Fx.Env) : kTup 2 kr (.val (.tuple [a, b])) ρ = kr [a, b] ρ := rfl
theorem kTup_3 (kr : List D → Fx.Env → Option Fx.Env) (a b c : D) (ρ : Fx.Env) : kTup 3 kr (.val (.tuple [a, b, c])) ρ = kr [a, b, c] ρ := rfl
theorem kTup_4 (kr : List D → Fx.Env → Option Fx.Env) (a b c d : D) (ρ : Fx.Env) : kTup 4 kr (.val (.tuple [a, b, c, d])) ρ = kr [a, b, c, d] ρ := rfl
theorem kCons_e (i : Nat) (kr : List D → Fx.Env → Option Fx.Env) (d : D) (ds : List D) (ρ : Fx.Env) : kCons (kName i) kr (d :: ds) ρ = kr ds (ρ.set i (.val d)) := rfl
theorem kNil_e (ρ : Fx.Env) : kNil [] ρ = some ρ := rfl
def enum1 (rs : List Sl) (ρ1 : Fx.Env) : Rs (List D) := match dAll rs with
  | some [d] => match D.seq? d with
    | some ds => .ok (enumD ds) ρ1
    | none => .bad
  | _ => .bad
theorem e_Enum (fs : M (List Sl)) : mEnum fs (s :: ρ) = (fs (s :: ρ)).bd fun rs ρ1 => enum1 rs ρ1 := rfl
theorem enum1_l (ds : List D) (ρ : Fx.Env) : enum1 [.val (.list ds)] ρ = .ok (enumD ds) ρ := rfl
theorem enum1_t (ds : List D) (ρ : Fx.Env) : enum1 [.val (.tuple ds)] ρ = .ok (enumD ds) ρ := rfl
def zip1 (rs : List Sl) (ρ1 : Fx.Env) : Rs (List D) := match dAll rs with
  | some [.list xs, .list ys] => .ok (zipD xs ys) ρ1
  | some [.tuple xs, .tuple ys] => .ok (zipD xs ys) ρ1
  | _ => .bad
theorem e_Zip (fs : M (List Sl)) : mZip fs (s :: ρ) = (fs (s :: ρ)).bd fun rs ρ1 => zip1 rs ρ1 := rfl
theorem zip1_l (xs ys : List D) (ρ : Fx.Env) : zip1 [.val (.list xs), .val (.list ys)] ρ = .ok (zipD xs ys) ρ := rfl
theorem zip1_t (xs ys : List D) (ρ : Fx.Env) : zip1 [.val (.tuple xs), .val (.tuple ys)] ρ = .ok (zipD xs ys) ρ := rfl
def pk1 (o : Option Sl) : Option D := match o with
  | some s => s.d?
  | none => none
theorem pk_e (i : Nat) (ρ : Fx.Env) : pk i ρ = pk1 (ρ[i]?) := rfl
theorem pk1_v (d : D) : pk1 (some (.val d)) = some d := rfl
theorem pk1_l (d : List D) : pk1 (some (.lst d)) = some (.list d) := rfl
def bo (g : D → D → Option Sl) (a b : Option D) (ρ : Fx.Env) : Rs Sl := match a, b with
  | some a, some b => opR (g a b) ρ
  | _, _ => .bad
theorem bo_e (g : D → D → Option Sl) (a b : D) (ρ : Fx.Env) : bo g (some a) (some b) ρ = opR (g a b) ρ := rfl
def ol1 (g : D → D → Option Sl) (i : Nat) (fb : M Sl) (o : Option D) (ρ : Fx.Env) : Rs Sl := match o with
  | some _ => (fb ρ).bd fun rb ρ1 => bo g (pk i ρ1) rb.d? ρ1
  | none => .bad
theorem e_BinOL (g : D → D → Option Sl) (i : Nat) (fb : M Sl) : mBinOL g i fb (s :: ρ) = ol1 g i fb (pk i (s :: ρ)) (s :: ρ) := by
  unfold mBinOL ol1 bo opR
  cases pk i (s :: ρ) <;> rfl
theorem ol1_e (g : D → D → Option Sl) (i : Nat) (fb : M Sl) (d : D) (ρ : Fx.Env) : ol1 g i fb (some d) ρ = (fb ρ).bd fun rb ρ1 => bo g (pk i ρ1) rb.d? ρ1 := rfl
theorem e_BinOR (g : D → D → Option Sl) (fa : M Sl) (i : Nat) : mBinOR g fa i (s :: ρ) = (fa (s :: ρ)).bd fun ra ρ1 => bo g ra.d? (pk i ρ1) ρ1 := by
  unfold mBinOR bo opR; rfl
theorem e_BinOO (g : D → D → Option Sl) (i j : Nat) : mBinOO g i j (s :: ρ) = bo g (pk i (s :: ρ)) (pk j (s :: ρ)) (s :: ρ) := by
  unfold mBinOO bo opR; rfl
def isiO1 (T : String) (o : Option D) (ρ : Fx.Env) : Rs Sl := match o with
  | some d => opR (gIsi T d) ρ
  | none => .bad
theorem e_IsiO (T : String) (i : Nat) : mIsiO T i (s :: ρ) = isiO1 T (pk i (s :: ρ)) (s :: ρ) := by
  unfold mIsiO isiO1 gIsi opR
  cases pk i (s :: ρ) with
  | none => rfl
  | some d => simp only; cases isiD T d <;> rfl
theorem isiO1_e (T : String) (d : D) (ρ : Fx.Env) : isiO1 T (some d) ρ = opR (gIsi T d) ρ := rfl
theorem gIsi_ll (ds : List D) : gIsi "list" (.list ds) = some (.val (.bool true)) := by
  have : isiD "list" (.list ds) = some true := show kitB "list" "list" = some true by decide +kernel
  unfold gIsi; rw [this]; rfl
theorem gIsi_tt (ds : List D) : gIsi "tuple" (.tuple ds) = some (.val (.bool true)) := by
  have : isiD "tuple" (.tuple ds) = some true := show kitB "tuple" "tuple" = some true by decide +kernel
  unfold gIsi; rw [this]; rfl
theorem gIsi_ii (i : Int) : gIsi "int" (.int i) = some (.val (.bool true)) := by
  have : isiD "int" (.int i) = some true := show kitB "int" "int" = some true by decide +kernel
  unfold gIsi; rw [this]; rfl
theorem gIsi_ib (i : Int) : gIsi "bool" (.int i) = some (.val (.bool false)) := by
  have : isiD "bool" (.int i) = some false := show kitB "int" "bool" = some false by decide +kernel
  unfold gIsi; rw [this]; rfl
theorem gIsi_bb (i : Bool) : gIsi "bool" (.bool i) = some (.val (.bool true)) := by
  have : isiD "bool" (.bool i) = some true := show kitB "bool" "bool" = some true by decide +kernel
  unfold gIsi; rw [this]; rfl
def lk1 (o : Option Sl) : Option (List D) := match o with
  | some (.lst es) => some es
  | some (.val (.list es)) => some es
  | _ => none
theorem lk_e (i : Nat) (ρ : Fx.Env) : lk i ρ = lk1 (ρ[i]?) := rfl
theorem lk1_v (d : List D) : lk1 (some (.val (.list d))) = some d := rfl
theorem lk1_l (d : List D) : lk1 (some (.lst d)) = some d := rfl
def forO1 (i : Nat) (φ : List D → List D) (k : Sl → Fx.Env → Option Fx.Env) (body : Ms) (o : Option (List D)) : Ms := fun ρ => match o with
  | some es => loopO i es k body (φ es) ρ
  | none => .bad
theorem e_ForO (i : Nat) (φ : List D → List D) (k : Sl → Fx.Env → Option Fx.Env) (body : Ms) : mForO i φ k body (s :: ρ) = forO1 i φ k body (lk i (s :: ρ)) (s :: ρ) := rfl
theorem forO1_e (i : Nat) (φ : List D → List D) (k : Sl → Fx.Env → Option Fx.Env) (body : Ms) (es : List D) (ρ : Fx.Env) : forO1 i φ k body (some es) ρ = loopO i es k body (φ es) ρ := rfl
def compO1 (i : Nat) (φ : List D → List D) (vs : List Nat) (k : Sl → Fx.Env → Option Fx.Env) (tt : M Bool) (fe : M Sl) (o : Option (List D)) : M Sl := fun ρ => match o with
  | some es => compO i es vs k tt fe (φ es) [] (wipeS ρ vs)
  | none => .bad
theorem e_CompO (i : Nat) (φ : List D → List D) (vs : List Nat) (k : Sl → Fx.Env → Option Fx.Env) (tt : M Bool) (fe : M Sl) : mCompO i φ vs k tt fe (s :: ρ) = compO1 i φ vs k tt fe (lk i (s :: ρ)) (s :: ρ) := rfl
theorem compO1_e (i : Nat) (φ : List D → List D) (vs : List Nat) (k : Sl → Fx.Env → Option Fx.Env) (tt : M Bool) (fe : M Sl) (es : List D) (ρ : Fx.Env) : compO1 i φ vs k tt fe (some es) ρ = compO i es vs k tt fe (φ es) [] (wipeS ρ vs) := rfl
theorem e_Chain (g g' : D → D → Option Sl) (fa fb fc : M Sl) : mChain g g' fa fb fc (s :: ρ) = (fa (s :: ρ)).bd fun ra ρ1 => (fb ρ1).bd fun rb ρ2 => match ra.d?, rb.d? with
  | some a, some b => match g a b with
    | some (.val (.bool true)) => (fc ρ2).bd fun rc ρ3 => match rc.d? with
      | some c => opR (g' b c) ρ3
      | none => .bad
    | some (.val (.bool false)) => .ok (.val (.bool false)) ρ2
    | _ => .bad
  | _, _ => .bad := by unfold mChain opR; rfl
def retO1 (i : Nat) (o : Option Sl) (ρ : Fx.Env) : So := match o with
  | some s => match s.there with
    | true => .rt s (ρ.set i .und)
    | false => .bad
  | none => .bad
theorem e_RetO (i : Nat) : mRetO i (s :: ρ) = retO1 i ((s :: ρ)[i]?) (s :: ρ) := rfl
theorem retO1_v (i : Nat) (d : D) (ρ : Fx.Env) : retO1 i (some (.val d)) ρ = .rt (.val d) (ρ.set i .und) := rfl
theorem retO1_l (i : Nat) (d : List D) (ρ : Fx.Env) : retO1 i (some (.lst d)) ρ = .rt (.lst d) (ρ.set i .und) := rfl
theorem retO1_K (i : Nat) (d : List (Key × D)) (ρ : Fx.Env) : retO1 i (some (.dK d)) ρ = .rt (.dK d) (ρ.set i .und) := rfl
theorem cb1_0 (g : List D → Option Sl) (a : List D) (ρ : Fx.Env) : cb1 g [.lst a] ρ = opR (g [.list a]) ρ := rfl
theorem gMax2_e (i j : Int) : gMax2 [.int i, .int j] = some (.val (.int (if j > i then j else i))) := rfl
theorem gMin2_e (i j : Int) : gMin2 [.int i, .int j] = some (.val (.int (if j < i then j else i))) := rfl
theorem gInt1_b (k : Bool) : gInt1 [.bool k] = some (.val (.int (if k then 1 else 0))) := rfl
theorem gInt1_i (k : Int) : gInt1 [.int k] = some (.val (.int k)) := rfl
theorem gSub_i (i j : Int) : gSub (.int i) (.int j) = some (.val (.int (i - j))) := rfl
theorem gIsB_e (i j : Bool) : gIsB (.bool i) (.bool j) = some (.val (.bool (decide (i = j)))) := rfl
theorem gNotB_e (i j : Bool) : gNotB (.bool i) (.bool j) = some (.val (.bool (!decide (i = j)))) := rfl
theorem gNeg_e (i : Int) : gNeg (.int i) = some (.val (.int (-i))) := rfl
end
theorem stay_t {i : Nat} {es : List D} {ρ : Fx.Env} (h : lk i ρ = some es) : stay i es ρ = true := tru_iff.mpr h
theorem loopO_eq {i : Nat} {es : List D} {k : Sl → Fx.Env → Option Fx.Env} {body : Ms} : ∀ (ds : List D) (ρ ρ' : Fx.Env), loopO i es k body ds ρ = .nx ρ' → loopM k body ds ρ = .nx ρ' := by
  intro ds
  induction ds with
  | nil =>
    intro ρ ρ' h
    unfold loopO at h
    cases e : stay i es ρ with
    | true => rw [e] at h; exact h
    | false => rw [e] at h; cases h
  | cons d ds ih =>
    intro ρ ρ' h
    unfold loopO at h
    unfold loopM
    cases e : stay i es ρ with
    | false => rw [e] at h; cases h
    | true =>
      rw [e] at h
      simp only at h
      cases ek : k (.val d) ρ with
      | none => rw [ek] at h; cases h
      | some ρ1 =>
        rw [ek] at h
        simp only at h ⊢
        cases eb : body ρ1 with
        | nx ρ2 => rw [eb] at h; exact ih _ _ h
        | ct ρ2 => rw [eb] at h; exact ih _ _ h
        | bk ρ2 => rw [eb] at h; exact h
        | rt r ρ2 => rw [eb] at h; exact h
        | ex e ρ2 => rw [eb] at h; exact h
        | bad => rw [eb] at h; exact h
/-- the list stays: as over any list -/
theorem loopO_M {i : Nat} {es : List D} {k : Sl → Fx.Env → Option Fx.Env} {body : Ms} (P : Nat → Fx.Env → Prop) (hP : ∀ i' ρ, P i' ρ → lk i ρ = some es) : ∀ (ds : List D) (n : Nat) (ρ : Fx.Env), P n ρ →
    (∀ (j : Nat) (d : D) (ρ ρ1 : Fx.Env), ds[j]? = some d → P (n + j) ρ → k (.val d) ρ = some ρ1 → ∀ ρ2, (body ρ1 = .nx ρ2 ∨ body ρ1 = .ct ρ2) → P (n + j + 1) ρ2) → loopO i es k body ds ρ = loopM k body ds ρ
  | [], n, ρ, h, _ => by unfold loopO loopM; rw [stay_t (hP _ _ h)]
  | d :: ds, n, ρ, h, hs => by
    unfold loopO loopM
    rw [stay_t (hP _ _ h)]
    simp only
    cases ek : k (.val d) ρ with
    | none => rfl
    | some ρ1 =>
      simp only
      have next : ∀ ρ2, (body ρ1 = .nx ρ2 ∨ body ρ1 = .ct ρ2) → loopO i es k body ds ρ2 = loopM k body ds ρ2 := fun ρ2 hb =>
        loopO_M P hP ds (n + 1) ρ2 (hs 0 d ρ ρ1 rfl h ek ρ2 hb) fun j d' ρ3 ρ4 e p q ρ5 hb' => by
          have := hs (j + 1) d' ρ3 ρ4 (by simpa using e) (by rw [show n + (j + 1) = n + 1 + j by omega]; exact p) q ρ5 hb'
          rw [show n + (j + 1) = n + 1 + j by omega] at this
          exact this
      cases eb : body ρ1 with
      | nx ρ2 => exact next ρ2 (.inl eb)
      | ct ρ2 => exact next ρ2 (.inr eb)
      | bk ρ2 => rfl
      | rt r ρ2 => rfl
      | ex e ρ2 => rfl
      | bad => rfl
theorem loopO_inv {i : Nat} {es : List D} {k : Sl → Fx.Env → Option Fx.Env} {body : Ms} (P : Nat → Fx.Env → Prop) (hP : ∀ i' ρ, P i' ρ → lk i ρ = some es) : ∀ (ds : List D) (n : Nat) (ρ : Fx.Env), P n ρ →
    (∀ (j : Nat) (d : D) (ρ : Fx.Env), ds[j]? = some d → P (n + j) ρ → ∃ ρ1 ρ2, k (.val d) ρ = some ρ1 ∧ (body ρ1 = .nx ρ2 ∨ body ρ1 = .ct ρ2) ∧ P (n + j + 1) ρ2) → ∃ ρ', loopO i es k body ds ρ = .nx ρ' ∧ P (n + ds.length) ρ'
  | [], n, ρ, h, _ => ⟨ρ, by unfold loopO; rw [stay_t (hP _ _ h)], h⟩
  | d :: ds, n, ρ, h, hs => by
    obtain ⟨ρ1, ρ2, h1, h2, h3⟩ := hs 0 d ρ rfl h
    obtain ⟨ρ', e, p⟩ := loopO_inv (k := k) (body := body) P hP ds (n + 1) ρ2 h3 fun j d' ρ3 e p => by
      have := hs (j + 1) d' ρ3 (by simpa using e) (by rw [show n + (j + 1) = n + 1 + j by omega]; exact p)
      rw [show n + (j + 1) = n + 1 + j by omega] at this
      exact this
    refine ⟨ρ', ?_, by rw [List.length_cons, show n + (ds.length + 1) = n + 1 + ds.length by omega]; exact p⟩
    simp only [loopO, stay_t (hP _ _ h), h1]
    rcases h2 with h2 | h2 <;> (rw [h2]; exact e)
theorem compO_enc {α : Type} {i : Nat} {es : List D} {vs : List Nat} {k : Sl → Fx.Env → Option Fx.Env} {tt : M Bool} {fe : M Sl} {ρ : Fx.Env} (enc : α → D) (ρ1 : α → Fx.Env) (p : α → Bool) (f : α → D) (hs : lk i ρ = some es) : ∀ (l : List α) (acc : List D), acc.length + l.length ≤ 1000000 →
    (∀ a ∈ l, k (.val (enc a)) ρ = some (ρ1 a) ∧ tt (ρ1 a) = .ok (p a) (ρ1 a) ∧ (p a = true → ∃ r, fe (ρ1 a) = .ok r (ρ1 a) ∧ r.d? = some (f a)) ∧ wipeS (ρ1 a) vs = ρ) → compO i es vs k tt fe (l.map enc) acc ρ = .ok (.lst (acc ++ (l.filter p).map f)) ρ
  | [], acc, _, _ => by simp [compO, stay_t hs]
  | d :: ds, acc, hn, h => by
    obtain ⟨h1, h2, h3, h4⟩ := h d (List.mem_cons_self ..)
    rw [List.length_cons] at hn
    rw [List.map_cons]
    cases hp : p d with
    | false =>
      simp only [compO, stay_t hs, h1, h2, hp, h4]
      rw [compO_enc enc ρ1 p f hs ds acc (by omega) fun d hd => h d (List.mem_cons_of_mem _ hd)]
      simp [List.filter_cons, hp]
    | true =>
      obtain ⟨r, h5, h6⟩ := h3 hp
      simp only [compO, stay_t hs, h1, h2, hp, h5, h6, h4, szOk_of (show acc.length + 1 ≤ 1000000 by omega)]
      rw [compO_enc enc ρ1 p f hs ds (acc ++ [f d]) (by rw [List.length_append, List.length_singleton]; omega) fun d hd => h d (List.mem_cons_of_mem _ hd)]
      simp [List.filter_cons, hp]
theorem enumD_len (ds : List D) : (enumD ds).length = ds.length := by unfold enumD; simp
theorem enumD_get {ds : List D} {j : Nat} {d : D} (h : (enumD ds)[j]? = some d) : ∃ x, ds[j]? = some x ∧ d = .tuple [.int (j : Nat), x] := by
  unfold enumD at h
  rw [List.getElem?_zipWith] at h
  by_cases hj : j < ds.length
  · rw [List.getElem?_range hj, List.getElem?_eq_getElem hj] at h
    exact ⟨_, List.getElem?_eq_getElem hj, (Option.some.inj h).symm⟩
  · rw [List.getElem?_eq_none (l := ds) (by omega)] at h
    cases hr : (List.range ds.length)[j]? <;> rw [hr] at h <;> cases h
/-! equality of data -/
theorem gNe_self {d : D} (h : pl d = true) : gNe d d = some (.val (.bool false)) := by
  unfold gNe okEq
  rw [h, PySem.SeqAt.eqv_refl_plain _ (pl_p h)]
  rfl
theorem gEq_self {d : D} (h : pl d = true) : gEq d d = some (.val (.bool true)) := by
  unfold gEq okEq
  rw [h, PySem.SeqAt.eqv_refl_plain _ (pl_p h)]
  rfl
theorem gNe_i (i j : Int) : gNe (.int i) (.int j) = some (.val (.bool (!decide (i = j)))) := by
  unfold gNe okEq; simp
end
end Fx

set_option Elab.async false
set_option linter.all false
set_option maxRecDepth 100000
namespace Law
open PySem PySem.Spec PyProof.Rows L2 Fx
def topS (i : Nat) : Stmt := PySem.Challenge.pw_hinthunt_k08_lengths.main.body.getD i (.Pass ⟨0, 0, 0, 0⟩)
abbrev s_length : Stmt := topS 1
theorem sc_length : FnScope ["ground", "order", "firsts", "ways", "k"] ["ground", "order"] (defScope s_length) := ⟨rfl, rfl, rfl, by decide +kernel, rfl, by decide +kernel, by decide +kernel⟩
abbrev s_is_fair : Stmt := topS 2
theorem sc_is_fair : FnScope ["ground", "table", "own", "order"] ["ground", "table"] (defScope s_is_fair) := ⟨rfl, rfl, rfl, by decide +kernel, rfl, by decide +kernel, by decide +kernel⟩
abbrev s_l_draw : Stmt := topS 4
theorem sc_l_draw : FnScope ["tape", "many", "prime", "cell", "found"] ["tape", "many"] (defScope s_l_draw) := ⟨rfl, rfl, rfl, by decide +kernel, rfl, by decide +kernel, by decide +kernel⟩
abbrev s_l_whole : Stmt := topS 5
theorem sc_l_whole : FnScope ["item"] ["item"] (defScope s_l_whole) := ⟨rfl, rfl, rfl, by decide +kernel, rfl, by decide +kernel, by decide +kernel⟩
abbrev s_l_any_order : Stmt := topS 6
theorem sc_l_any_order : FnScope ["tape", "many", "found", "k"] ["tape", "many"] (defScope s_l_any_order) := ⟨rfl, rfl, rfl, by decide +kernel, rfl, by decide +kernel, by decide +kernel⟩
abbrev s_l_small : Stmt := topS 7
theorem sc_l_small : FnScope ["tape"] ["tape"] (defScope s_l_small) := ⟨rfl, rfl, rfl, by decide +kernel, rfl, by decide +kernel, by decide +kernel⟩
abbrev s_l_a_ground : Stmt := topS 8
theorem sc_l_a_ground : FnScope ["tape", "spots", "rows", "here", "row", "there", "spot"] ["tape", "spots"] (defScope s_l_a_ground) := ⟨rfl, rfl, rfl, by decide +kernel, rfl, by decide +kernel, by decide +kernel⟩
abbrev s_l_apart : Stmt := topS 9
theorem sc_l_apart : FnScope ["tape", "spots", "teams", "own", "steps", "k", "step"] ["tape", "spots", "teams"] (defScope s_l_apart) := ⟨rfl, rfl, rfl, by decide +kernel, rfl, by decide +kernel, by decide +kernel⟩
abbrev s_l_a_table : Stmt := topS 10
theorem sc_l_a_table : FnScope ["tape", "spots", "teams", "way", "team", "table", "k"] ["tape", "spots", "teams"] (defScope s_l_a_table) := ⟨rfl, rfl, rfl, by decide +kernel, rfl, by decide +kernel, by decide +kernel⟩
abbrev s_l_length : Stmt := topS 11
theorem sc_l_length : FnScope ["ground", "order", "far", "here", "there"] ["ground", "order"] (defScope s_l_length) := ⟨rfl, rfl, rfl, by decide +kernel, rfl, by decide +kernel, by decide +kernel⟩
abbrev s_law : Stmt := topS 12
theorem sc_law : FnScope ["script", "tape", "turn", "spots", "ground", "far", "rows", "j", "k", "table", "due", "own", "found"] ["script"] (defScope s_law) := ⟨rfl, rfl, rfl, by decide +kernel, rfl, by decide +kernel, by decide +kernel⟩
/-! ### the mirrors -/
noncomputable def e_length1 : M Sl :=
 (mBin gIx (mBin gIx (mVar 3) (mBin gIx (mVar 1) (mBin gSub (mVar 4) (mC (.int 1))))) (mBin gIx (mVar 1) (mVar 4)))
noncomputable def g_length : Ms :=
 (mSeq (mAsgT (mVar 0) (kTup 2 (kCons (kName 2) (kCons (kName 3) kNil)))) (mRet (mBin gAdd (mBin gIx (mVar 2) (mBin gIx (mVar 1) (mC (.int 0)))) (mCB gSum (mArg (mComp [4] (mRg2 (mArg (mC (.int 1)) (mArg (mCB gLen (mArg (mVar 1) (fun ρ => .ok [] ρ))) (fun ρ => .ok [] ρ)))) (kName 4) mYes e_length1) (fun ρ => .ok [] ρ))))))
noncomputable def m_length : List Sl → Fo := mFn 5 2 [] g_length
noncomputable def e_is_fair1 : M Sl :=
 (mBin gEq (mCall m_length [none, none] (mArg (mVar 0) (mArg (mVar 3) (fun ρ => .ok [] ρ)))) (mVar 2))
noncomputable def g_is_fair : Ms :=
 (mSeq (mSet 2 (mCall m_length [none, none] (mArg (mVar 0) (mArg (mBin gIx (mVar 1) (mC (.int 0))) (fun ρ => .ok [] ρ))))) (mRet (mCB gAll (mArg (mComp [3] (mSeqI (mVar 1)) (kName 3) mYes e_is_fair1) (fun ρ => .ok [] ρ)))))
noncomputable def m_is_fair : List Sl → Fo := mFn 4 2 [] g_is_fair
noncomputable def g_l_draw : Ms :=
 (mSeq (mSet 2 (mC (.int 2305843009213693951))) (mSeq (mIfS (mTst (mBin gLt (mIxO 0 (mC (.int 2))) (mVar 1)))
 (mSeq (mSet 3 (mC (.int 0))) (mSeq (mIfS (mTst (mBin gGt (mCB gLen (mArg (mIxO 0 (mC (.int 0))) (fun ρ => .ok [] ρ))) (mC (.int 0))))
 (mSet 3 (mBin gIx (mIxO 0 (mC (.int 0))) (mBin gMod (mIxO 0 (mC (.int 1))) (mCB gLen (mArg (mIxO 0 (mC (.int 0))) (fun ρ => .ok [] ρ))))))
 (fun ρ => .nx ρ)) (mSeq (mIfS (mOr (mTst (mBin gGe (mIxO 0 (mC (.int 1))) (mCB gLen (mArg (mIxO 0 (mC (.int 0))) (fun ρ => .ok [] ρ))))) (mTst (mBin gLt (mVar 3) (mBin gPow (mC (.int 10)) (mC (.int 18))))))
 (mSeq (mSet 3 (mBin gMod (mBin gAdd (mVar 3) (mBin gMul (mC (.int 1000003)) (mIxO 0 (mC (.int 1))))) (mVar 2))) (mSeq (mSet 3 (mBin gMod (mBin gAdd (mBin gAdd (mBin gMul (mVar 3) (mVar 3)) (mBin gMul (mC (.int 1181783497276652981)) (mVar 3))) (mC (.int 2049848353892358983))) (mVar 2))) (mSet 3 (mBin gMod (mBin gAdd (mBin gMul (mVar 3) (mVar 3)) (mC (.int 1442695040888963407))) (mVar 2)))))
 (fun ρ => .nx ρ)) (mSeq (mSetIx 0 (mC (.int 1)) (mBin gAdd (mIxO 0 (mC (.int 1))) (mC (.int 1)))) (mSetIx 0 (mC (.int 2)) (mVar 3))))))
 (fun ρ => .nx ρ)) (mSeq (mSet 4 (mBin gMod (mIxO 0 (mC (.int 2))) (mVar 1))) (mSeq (mSetIx 0 (mC (.int 2)) (mBin gDiv (mIxO 0 (mC (.int 2))) (mVar 1))) (mRet (mVar 4))))))
noncomputable def m_l_draw : List Sl → Fo := mFn 5 2 [0] g_l_draw
noncomputable def g_l_whole : Ms :=
 (mRet (mAndV (mIsi "int" (mVar 0)) (mNotV (mIsi "bool" (mVar 0)))))
noncomputable def m_l_whole : List Sl → Fo := mFn 1 1 [] g_l_whole
noncomputable def b_l_any_order1 : Ms :=
 (mDrop (mMeth 2 "list" gInsert (mArg (mCall m_l_draw [some 0, none] (mArgO 0 (mArg (mBin gAdd (mVar 3) (mC (.int 1))) (fun ρ => .ok [] ρ)))) (mArg (mVar 3) (fun ρ => .ok [] ρ)))))
noncomputable def g_l_any_order : Ms :=
 (mSeq (mSet 2 (mLst (fun ρ => .ok [] ρ))) (mSeq (mFor (mRg1 (mArg (mVar 1) (fun ρ => .ok [] ρ))) (kName 3)
 b_l_any_order1) (mRet (mUn gTupC (mVar 2)))))
noncomputable def m_l_any_order : List Sl → Fo := mFn 4 2 [0] g_l_any_order
noncomputable def g_l_small : Ms :=
 (mRet (mBin gIx (mLst (mArg (mCall m_l_draw [some 0, none] (mArgO 0 (mArg (mC (.int 4)) (fun ρ => .ok [] ρ)))) (mArg (mCall m_l_draw [some 0, none] (mArgO 0 (mArg (mC (.int 10)) (fun ρ => .ok [] ρ)))) (mArg (mCall m_l_draw [some 0, none] (mArgO 0 (mArg (mC (.int 1001)) (fun ρ => .ok [] ρ)))) (fun ρ => .ok [] ρ))))) (mBin gMod (mBin gDiv (mCall m_l_draw [some 0, none] (mArgO 0 (mArg (mC (.int 6)) (fun ρ => .ok [] ρ)))) (mC (.int 2))) (mC (.int 3)))))
noncomputable def m_l_small : List Sl → Fo := mFn 1 1 [0] g_l_small
noncomputable def e_l_a_ground1 : M Sl :=
 (mCB gMax2 (mArg (mC (.int 1)) (mArg (mCall m_l_small [some 0] (mArgO 0 (fun ρ => .ok [] ρ))) (fun ρ => .ok [] ρ))))
noncomputable def b_l_a_ground1 : Ms :=
 (mSeq (mSet 4 (mComp [5] (mRg1 (mArg (mVar 1) (fun ρ => .ok [] ρ))) (kName 5) mYes e_l_a_ground1)) (mSeq (mSetIx 4 (mVar 3) (mC (.int 0))) (mDrop (mMeth 2 "list" gAppend (mArg (mUn gTupC (mVar 4)) (fun ρ => .ok [] ρ))))))
noncomputable def e_l_a_ground2 : M Sl :=
 (mCall m_l_small [some 0] (mArgO 0 (fun ρ => .ok [] ρ)))
noncomputable def g_l_a_ground : Ms :=
 (mSeq (mSet 2 (mLst (fun ρ => .ok [] ρ))) (mSeq (mFor (mRg1 (mArg (mVar 1) (fun ρ => .ok [] ρ))) (kName 3)
 b_l_a_ground1) (mRet (mTup (mArg (mUn gTupC (mComp [6] (mRg1 (mArg (mVar 1) (fun ρ => .ok [] ρ))) (kName 6) mYes e_l_a_ground2)) (mArg (mUn gTupC (mVar 2)) (fun ρ => .ok [] ρ)))))))
noncomputable def m_l_a_ground : List Sl → Fo := mFn 7 2 [0] g_l_a_ground
noncomputable def e_l_apart1 : M Sl :=
 (mBin gIx (mVar 3) (mBin gMod (mBin gAdd (mVar 5) (mVar 6)) (mVar 1)))
noncomputable def e_l_apart2 : M Sl :=
 (mUn gTupC (mComp [5] (mRg1 (mArg (mVar 1) (fun ρ => .ok [] ρ))) (kName 5) mYes e_l_apart1))
noncomputable def g_l_apart : Ms :=
 (mSeq (mSet 3 (mCall m_l_any_order [some 0, none] (mArgO 0 (mArg (mVar 1) (fun ρ => .ok [] ρ))))) (mSeq (mSet 4 (mSlice (mCall m_l_any_order [some 0, none] (mArgO 0 (mArg (mVar 1) (fun ρ => .ok [] ρ)))) mNoPart (mPart (mVar 2)))) (mRet (mUn gTupC (mComp [6] (mSeqI (mVar 4)) (kName 6) mYes e_l_apart2)))))
noncomputable def m_l_apart : List Sl → Fo := mFn 7 3 [0] g_l_apart
noncomputable def e_l_a_table1 : M Sl :=
 (mCall m_l_any_order [some 0, none] (mArgO 0 (mArg (mVar 1) (fun ρ => .ok [] ρ))))
noncomputable def g_l_a_table : Ms :=
 (mSeq (mSet 3 (mCall m_l_draw [some 0, none] (mArgO 0 (mArg (mC (.int 3)) (fun ρ => .ok [] ρ))))) (mSeq (mIfS (mOr (mTst (mBin gEq (mVar 3) (mC (.int 0)))) (mTst (mBin gGt (mVar 2) (mVar 1))))
 (mRet (mUn gTupC (mComp [4] (mRg1 (mArg (mVar 2) (fun ρ => .ok [] ρ))) (kName 4) mYes e_l_a_table1)))
 (fun ρ => .nx ρ)) (mSeq (mSet 5 (mCall m_l_apart [some 0, none, none] (mArgO 0 (mArg (mVar 1) (mArg (mVar 2) (fun ρ => .ok [] ρ)))))) (mSeq (mIfS (mTst (mBin gEq (mVar 3) (mC (.int 2))))
 (mSeq (mSet 6 (mCall m_l_draw [some 0, none] (mArgO 0 (mArg (mVar 2) (fun ρ => .ok [] ρ))))) (mSet 5 (mBin gAdd (mBin gAdd (mSlice (mVar 5) mNoPart (mPart (mVar 6))) (mTup (mArg (mCall m_l_any_order [some 0, none] (mArgO 0 (mArg (mVar 1) (fun ρ => .ok [] ρ)))) (fun ρ => .ok [] ρ)))) (mSlice (mVar 5) (mPart (mBin gAdd (mVar 6) (mC (.int 1)))) mNoPart))))
 (fun ρ => .nx ρ)) (mRet (mVar 5))))))
noncomputable def m_l_a_table : List Sl → Fo := mFn 7 3 [0] g_l_a_table
noncomputable def b_l_length1 : Ms :=
 (mSet 2 (mBin gAdd (mVar 2) (mBin gIx (mBin gIx (mBin gIx (mVar 0) (mC (.int 1))) (mVar 3)) (mVar 4))))
noncomputable def g_l_length : Ms :=
 (mSeq (mSet 2 (mBin gIx (mBin gIx (mVar 0) (mC (.int 0))) (mBin gIx (mVar 1) (mC (.int 0))))) (mSeq (mFor (mZip (mArg (mVar 1) (mArg (mSlice (mVar 1) (mPart (mC (.int 1))) mNoPart) (fun ρ => .ok [] ρ)))) (kTup 2 (kCons (kName 3) (kCons (kName 4) kNil)))
 b_l_length1) (mRet (mVar 2))))
noncomputable def m_l_length : List Sl → Fo := mFn 5 2 [] g_l_length
noncomputable def e_law1 : M Sl :=
 (mBin gMul (mVar 5) (mCB gInt1 (mArg (mBin gNe (mVar 8) (mVar 7)) (fun ρ => .ok [] ρ))))
noncomputable def e_law2 : M Sl :=
 (mUn gTupC (mComp [7] (mRg1 (mArg (mVar 3) (fun ρ => .ok [] ρ))) (kName 7) mYes e_law1))
noncomputable def e_law3 : M Sl :=
 (mCall m_l_length [none, none] (mArg (mVar 4) (mArg (mVar 11) (fun ρ => .ok [] ρ))))
noncomputable def e_law4 : M Sl :=
 (mCall m_length [none, none] (mArg (mVar 4) (mArg (mVar 11) (fun ρ => .ok [] ρ))))
noncomputable def b_law1 : Ms :=
 (mSeq (mSet 3 (mBin gAdd (mC (.int 2)) (mCall m_l_draw [some 1, none] (mArgO 1 (mArg (mC (.int 7)) (fun ρ => .ok [] ρ)))))) (mSeq (mSet 4 (mCall m_l_a_ground [some 1, none] (mArgO 1 (mArg (mVar 3) (fun ρ => .ok [] ρ))))) (mSeq (mIfS (mTst (mBin gEq (mCall m_l_draw [some 1, none] (mArgO 1 (mArg (mC (.int 2)) (fun ρ => .ok [] ρ)))) (mC (.int 0))))
 (mSeq (mSet 5 (mBin gAdd (mC (.int 1)) (mCall m_l_draw [some 1, none] (mArgO 1 (mArg (mC (.int 1000)) (fun ρ => .ok [] ρ)))))) (mSeq (mSet 6 (mUn gTupC (mComp [8] (mRg1 (mArg (mVar 3) (fun ρ => .ok [] ρ))) (kName 8) mYes e_law2))) (mSet 4 (mTup (mArg (mBin gMulS (mTup (mArg (mBin gIx (mBin gIx (mVar 4) (mC (.int 0))) (mC (.int 0))) (fun ρ => .ok [] ρ))) (mVar 3)) (mArg (mVar 6) (fun ρ => .ok [] ρ)))))))
 (fun ρ => .nx ρ)) (mSeq (mSet 9 (mCall m_l_a_table [some 1, none, none] (mArgO 1 (mArg (mVar 3) (mArg (mBin gAdd (mC (.int 1)) (mCall m_l_draw [some 1, none] (mArgO 1 (mArg (mC (.int 8)) (fun ρ => .ok [] ρ))))) (fun ρ => .ok [] ρ)))))) (mSeq (mSet 10 (mComp [11] (mSeqI (mVar 9)) (kName 11) mYes e_law3)) (mSeq (mIfS (mOr (mTst (mBin gNe (mComp [11] (mSeqI (mVar 9)) (kName 11) mYes e_law4) (mVar 10))) (mNot (mTst (mCall m_l_whole [none] (mArg (mCall m_length [none, none] (mArg (mVar 4) (mArg (mBin gIx (mVar 9) (mC (.int 0))) (fun ρ => .ok [] ρ)))) (fun ρ => .ok [] ρ))))))
 (mRet (mC (.bool false)))
 (fun ρ => .nx ρ)) (mSeq (mSet 12 (mCall m_is_fair [none, none] (mArg (mVar 4) (mArg (mVar 9) (fun ρ => .ok [] ρ))))) (mSeq (mIfS (mOr (mNot (mTst (mIsi "bool" (mVar 12)))) (mTst (mBin gNe (mVar 12) (mBin gEq (mUn gLenSet (mVar 10)) (mC (.int 1))))))
 (mRet (mC (.bool false)))
 (fun ρ => .nx ρ)) (mIfS (mTst (mBin gNotB (mCall m_is_fair [none, none] (mArg (mVar 4) (mArg (mSlice (mVar 9) mNoPart (mPart (mC (.int 1)))) (fun ρ => .ok [] ρ)))) (mC (.bool true))))
 (mRet (mC (.bool false)))
 (fun ρ => .nx ρ))))))))))
noncomputable def g_law : Ms :=
 (mSeq (mSet 1 (mLst (mArg (mListScr 0) (mArg (mC (.int 0)) (mArg (mC (.int 0)) (fun ρ => .ok [] ρ)))))) (mSeq (mFor (mRg1 (mArg (mC (.int 10)) (fun ρ => .ok [] ρ))) (kName 2)
 b_law1) (mRet (mC (.bool true)))))
noncomputable def m_law : List Sl → Fo := mFn 13 1 [] g_law
end Law


set_option Elab.async false
set_option linter.all false
set_option maxRecDepth 100000
namespace Law
open PySem PySem.Spec PyProof.Rows L2 Fx
def IsTape (t : Sl) : Prop := ∃ (cs : List Int) (i c : Int), 0 ≤ i ∧ 0 ≤ c ∧ t = .lst [.list (cs.map .int), .int i, .int c]
theorem there_tape {t : Sl} (h : IsTape t) : t.there = true := by obtain ⟨_, _, _, _, _, rfl⟩ := h; rfl
theorem draw_tail {cs : List Int} {i c many : Int} {x : Sl} (hi : 0 ≤ i) (hc : 0 ≤ c) (h0 : 0 < many) (h1 : many.natAbs.log2 < 9000) :
    ∃ r t' ρ, IsTape t' ∧ 0 ≤ r ∧ r < many ∧ (mSeq (mSet 4 (mBin gMod (mIxO 0 (mC (.int 2))) (mVar 1))) (mSeq (mSetIx 0 (mC (.int 2)) (mBin gDiv (mIxO 0 (mC (.int 2))) (mVar 1))) (mRet (mVar 4)))) [.lst [.list (cs.map .int), .int i, .int c], .val (.int many), .val (.int 2305843009213693951), x, .und] = .rt (.val (.int r)) [t', .val (.int many), .val (.int 2305843009213693951), x, ρ] := by
  refine ⟨c % many, .lst [.list (cs.map .int), .int i, .int (c / many)], .val (.int (c % many)), ⟨cs, i, c / many, hi, Int.ediv_nonneg hc (Int.le_of_lt h0), rfl⟩, Int.emod_nonneg _ (by omega), Int.emod_lt_of_pos _ h0, ?_⟩
  simp [e_Seq, e_Set, e_C, e_Bin, e_IxO, atI_2, e_Var, gMod_e h0, gDiv_e h0 h1, e_SetIx, e_Ret, setIx1, ixN]
theorem atI_cell {cs : List Int} {i : Int} (h0 : 0 < cs.length) : ∃ v, atI (cs.map PyData.int) (i % (cs.length : Int)) = some (.int v) := by
  have h1 := Int.emod_nonneg i (show (cs.length : Int) ≠ 0 by omega)
  have h2 := Int.emod_lt_of_pos i (show (0 : Int) < (cs.length : Int) by omega)
  rw [atI_nn h1 (by rw [List.length_map]; exact h2), List.getElem?_map]
  have : (i % (cs.length : Int)).toNat < cs.length := by omega
  rw [List.getElem?_eq_getElem this]
  exact ⟨_, rfl⟩
/-- the middle: a cell, mixed or as it is -/
theorem draw_mid {cs : List Int} {i c many cell : Int} (hi : 0 ≤ i) :
    ∃ i' c', 0 ≤ i' ∧ 0 ≤ c' ∧ (mSeq (mIfS (mOr (mTst (mBin gGe (mIxO 0 (mC (.int 1))) (mCB gLen (mArg (mIxO 0 (mC (.int 0))) (fun ρ => .ok [] ρ))))) (mTst (mBin gLt (mVar 3) (mBin gPow (mC (.int 10)) (mC (.int 18))))))
 (mSeq (mSet 3 (mBin gMod (mBin gAdd (mVar 3) (mBin gMul (mC (.int 1000003)) (mIxO 0 (mC (.int 1))))) (mVar 2))) (mSeq (mSet 3 (mBin gMod (mBin gAdd (mBin gAdd (mBin gMul (mVar 3) (mVar 3)) (mBin gMul (mC (.int 1181783497276652981)) (mVar 3))) (mC (.int 2049848353892358983))) (mVar 2))) (mSet 3 (mBin gMod (mBin gAdd (mBin gMul (mVar 3) (mVar 3)) (mC (.int 1442695040888963407))) (mVar 2)))))
 (fun ρ => .nx ρ)) (mSeq (mSetIx 0 (mC (.int 1)) (mBin gAdd (mIxO 0 (mC (.int 1))) (mC (.int 1)))) (mSetIx 0 (mC (.int 2)) (mVar 3)))) [.lst [.list (cs.map .int), .int i, .int c], .val (.int many), .val (.int 2305843009213693951), .val (.int cell), .und] = .nx [.lst [.list (cs.map .int), .int i', .int c'], .val (.int many), .val (.int 2305843009213693951), .val (.int c'), .und] := by
  have hp : (0 : Int) < 2305843009213693951 := by decide
  have b1 : ∀ x : Int, 0 ≤ x % 2305843009213693951 ∧ x % 2305843009213693951 < 2305843009213693951 := fun x => ⟨Int.emod_nonneg _ (by decide), Int.emod_lt_of_pos _ hp⟩
  have m1 : gMul (.int 1000003) (.int i) = some (.val (.int (1000003 * i))) := gMul_e (by decide)
  have m2 : ∀ x : Int, gMul (.int 1181783497276652981) (.int x) = some (.val (.int (1181783497276652981 * x))) := fun x => gMul_e (by decide)
  have m3 : ∀ x : Int, gMul (.int (x % 2305843009213693951)) (.int (x % 2305843009213693951)) = some (.val (.int ((x % 2305843009213693951) * (x % 2305843009213693951)))) := fun x => gMul_e (by have := b1 x; omega)
  have m4 : gPow (.int 10) (.int 18) = some (.val (.int (10 ^ (18 : Int).toNat))) := gPow_e ⟨by decide, by decide, by decide⟩
  have big : ((10 : Int) ^ (18 : Int).toNat) = 1000000000000000000 := by decide
  by_cases h : (cs.length : Int) ≤ i ∨ cell < 1000000000000000000
  · refine ⟨i + 1, _, by omega, (b1 (((cell + 1000003 * i) % 2305843009213693951 * ((cell + 1000003 * i) % 2305843009213693951) + 1181783497276652981 * ((cell + 1000003 * i) % 2305843009213693951) + 2049848353892358983) % 2305843009213693951 * (((cell + 1000003 * i) % 2305843009213693951 * ((cell + 1000003 * i) % 2305843009213693951) + 1181783497276652981 * ((cell + 1000003 * i) % 2305843009213693951) + 2049848353892358983) % 2305843009213693951) + 1442695040888963407)).1, ?_⟩
    by_cases h2 : (cs.length : Int) ≤ i
    · simp [e_Seq, e_Set, e_C, e_Bin, e_IxO, atI_0, atI_1, atI_2, e_Var, gMod_e hp, e_SetIx, setIx1, ixN, e_IfS, e_Or, e_Tst, e_CB, e_Arg, gLen_l, gGe_i, gLt_i, m1, m2, m3, m4, big, gAdd_i, h2]
    · have h3 : cell < 1000000000000000000 := by omega
      simp [e_Seq, e_Set, e_C, e_Bin, e_IxO, atI_0, atI_1, atI_2, e_Var, gMod_e hp, e_SetIx, setIx1, ixN, e_IfS, e_Or, e_Tst, e_CB, e_Arg, gLen_l, gGe_i, gLt_i, m1, m2, m3, m4, big, gAdd_i, h2, h3]
  · have h2 : ¬ (cs.length : Int) ≤ i := by omega
    have h3 : ¬ cell < 1000000000000000000 := by omega
    refine ⟨i + 1, cell, by omega, by omega, ?_⟩
    simp [e_Seq, e_Set, e_C, e_Bin, e_IxO, atI_0, atI_1, atI_2, e_Var, gMod_e hp, e_SetIx, setIx1, ixN, e_IfS, e_Or, e_Tst, e_CB, e_Arg, gLen_l, gGe_i, gLt_i, m1, m2, m3, m4, big, gAdd_i, h2, h3]
theorem draw_ok {t : Sl} {many : Int} (ht : IsTape t) (h0 : 0 < many) (h1 : many.natAbs.log2 < 9000) : ∃ r t', IsTape t' ∧ 0 ≤ r ∧ r < many ∧ m_l_draw [t, .val (.int many)] = .rt (.val (.int r)) [t', .und] := by
  obtain ⟨cs, i, c, hi, hc, rfl⟩ := ht
  have key : ∃ r t' x ρ, IsTape t' ∧ 0 ≤ r ∧ r < many ∧ g_l_draw [.lst [.list (cs.map .int), .int i, .int c], .val (.int many), .und, .und, .und] = .rt (.val (.int r)) [t', .val (.int many), .val (.int 2305843009213693951), x, ρ] := by
    unfold g_l_draw
    by_cases h : c < many
    · obtain ⟨cell, hcell⟩ : ∃ cell, (mIfS (mTst (mBin gGt (mCB gLen (mArg (mIxO 0 (mC (.int 0))) (fun ρ => .ok [] ρ))) (mC (.int 0))))
 (mSet 3 (mBin gIx (mIxO 0 (mC (.int 0))) (mBin gMod (mIxO 0 (mC (.int 1))) (mCB gLen (mArg (mIxO 0 (mC (.int 0))) (fun ρ => .ok [] ρ))))))
 (fun ρ => .nx ρ)) [.lst [.list (cs.map .int), .int i, .int c], .val (.int many), .val (.int 2305843009213693951), .val (.int 0), .und] = .nx [.lst [.list (cs.map .int), .int i, .int c], .val (.int many), .val (.int 2305843009213693951), .val (.int cell), .und] := by
        by_cases hl : 0 < cs.length
        · obtain ⟨v, hv⟩ := atI_cell (i := i) hl
          have hm : gMod (.int i) (.int (cs.length : Int)) = some (.val (.int (i % (cs.length : Int)))) := gMod_e (by omega)
          have hl' : (0 : Int) < (cs.length : Int) := by omega
          exact ⟨v, by simp [e_Set, e_C, e_Bin, e_IxO, atI_0, atI_1, e_IfS, e_Tst, e_CB, e_Arg, gLen_l, gGt_i, hl, hm, gIx_l, hv]⟩
        · exact ⟨0, by simp [e_Set, e_C, e_Bin, e_IxO, atI_0, atI_1, e_IfS, e_Tst, e_CB, e_Arg, gLen_l, gGt_i, hl]⟩
      obtain ⟨i', c', hi', hc', hmid⟩ := draw_mid (cs := cs) (c := c) (many := many) (cell := cell) hi
      obtain ⟨r, t', ρ, a1, a2, a3, a4⟩ := draw_tail (cs := cs) (x := .val (.int c')) hi' hc' h0 h1
      refine ⟨r, t', .val (.int c'), ρ, a1, a2, a3, ?_⟩
      rw [e_Seq]
      simp only [e_Set, e_C, st_ok, so_nx, List.set_cons_succ, List.set_cons_zero]
      rw [e_Seq, e_IfS]
      have hc1 : (mTst (mBin gLt (mIxO 0 (mC (.int 2))) (mVar 1))) [.lst [.list (cs.map .int), .int i, .int c], .val (.int many), .val (.int 2305843009213693951), .und, .und] = .ok true [.lst [.list (cs.map .int), .int i, .int c], .val (.int many), .val (.int 2305843009213693951), .und, .und] := by
        simp [e_Tst, e_Bin, e_IxO, e_C, atI_2, e_Var, gLt_i, h]
      rw [hc1]
      simp only [st_ok, if_true]
      rw [e_Seq]
      simp only [e_Set, e_C, st_ok, so_nx, List.set_cons_succ, List.set_cons_zero]
      rw [e_Seq, hcell]
      simp only [so_nx]
      rw [hmid]
      simp only [so_nx]
      exact a4
    · obtain ⟨r, t', ρ, a1, a2, a3, a4⟩ := draw_tail (cs := cs) (x := .und) hi hc h0 h1
      refine ⟨r, t', .und, ρ, a1, a2, a3, ?_⟩
      rw [e_Seq]
      simp only [e_Set, e_C, st_ok, so_nx, List.set_cons_succ, List.set_cons_zero]
      rw [e_Seq, e_IfS]
      have hc1 : (mTst (mBin gLt (mIxO 0 (mC (.int 2))) (mVar 1))) [.lst [.list (cs.map .int), .int i, .int c], .val (.int many), .val (.int 2305843009213693951), .und, .und] = .ok false [.lst [.list (cs.map .int), .int i, .int c], .val (.int many), .val (.int 2305843009213693951), .und, .und] := by
        simp [e_Tst, e_Bin, e_IxO, e_C, atI_2, e_Var, gLt_i, h]
      rw [hc1]
      simp only [st_ok, so_nx, Bool.false_eq_true, if_false]
      exact a4
  obtain ⟨r, t', x, ρ, a1, a2, a3, a4⟩ := key
  refine ⟨r, t', a1, a2, a3, ?_⟩
  unfold m_l_draw mFn
  simp only [List.replicate, List.cons_append, List.nil_append]
  rw [a4]
  rfl
end Law

set_option Elab.async false
set_option linter.all false
set_option maxRecDepth 100000
namespace Law
open PySem PySem.Spec PyProof.Rows L2 Fx
theorem log2_small {n : Nat} (h : n ≤ 1000000000) : ((n : Int)).natAbs.log2 < 9000 := by
  rw [Int.natAbs_natCast]
  by_cases hz : n = 0
  · subst hz; decide
  · have h1 : n.log2 < 30 := (Nat.log2_lt hz).mpr (Nat.lt_of_le_of_lt h (by decide))
    omega
theorem insert_perm {l : List Nat} {i r : Nat} (h : l.Perm (List.range i)) : (l.take r ++ [i] ++ l.drop r).Perm (List.range (i + 1)) := by
  rw [List.range_succ]
  have e : (l.take r ++ [i] ++ l.drop r).Perm (i :: l) := by
    have e2 : (l.take r ++ [i] ++ l.drop r).Perm (i :: (l.take r ++ l.drop r)) := by
      rw [List.append_assoc]
      exact List.perm_middle
    rw [List.take_append_drop] at e2
    exact e2
  exact e.trans ((List.Perm.cons i h).trans (List.perm_append_comm (l₁ := [i]) (l₂ := List.range i)))
theorem any_order_ok {t : Sl} {n : Nat} (ht : IsTape t) (hn : n ≤ 1000) : ∃ l t', IsTape t' ∧ l.Perm (List.range n) ∧ m_l_any_order [t, .val (.int (n : Nat))] = .rt (.val (ordD l)) [t', .und] := by
  obtain ⟨ρ', e, t', l, x, h1, h2, h3⟩ := loop_inv (k := kName 3) (body := b_l_any_order1)
    (fun i ρ => ∃ t l x, IsTape t ∧ l.Perm (List.range i) ∧ ρ = [t, .val (.int (n : Nat)), .lst (nats l), x]) (upto n) 0 [t, .val (.int (n : Nat)), .lst [], .und] ⟨t, [], .und, ht, by simp, rfl⟩ (by
      rintro j d ρ hd ⟨t, l, x, h1, h2, rfl⟩
      obtain ⟨hj, rfl⟩ := upto_get hd
      rw [Nat.zero_add] at h2 ⊢
      obtain ⟨r, t', a1, a2, a3, a4⟩ := draw_ok (many := ((j + 1 : Nat) : Int)) h1 (by omega) (log2_small (by omega))
      obtain ⟨r, rfl⟩ := Int.eq_ofNat_of_zero_le a2
      refine ⟨[t, .val (.int (n : Nat)), .lst (nats l), .val (.int (j : Nat))], [t', .val (.int (n : Nat)), .lst (nats (l.take r ++ [j] ++ l.drop r)), .val (.int (j : Nat))], rfl, .inl ?_, t', _, _, a1, insert_perm h2, rfl⟩
      have hl : l.length = j := by rw [h2.length_eq, List.length_range]
      have a4' : m_l_draw [t, .val (.int ((j : Int) + 1))] = .rt (.val (.int (r : Nat))) [t', .und] := by
        have : ((j : Int) + 1) = ((j + 1 : Nat) : Int) := by omega
        rw [this]; exact a4
      have hg : gInsert (.lst (nats l)) [.int (r : Nat), .int (j : Nat)] = some (.lst (nats (l.take r ++ [j] ++ l.drop r)), .val .none) := by
        simp only [gInsert]
        rw [if_pos ⟨szOk_of (by rw [nats_len]; omega), tru_iff.mpr ⟨by omega, by omega⟩⟩]
        simp [nats, List.map_take, List.map_drop]
      unfold b_l_any_order1
      simp only [e_Drop, e_Meth, List.getElem?_cons_succ, List.getElem?_cons_zero, meth1_l, e_Arg, e_Call, e_ArgO]
      rw [argO1_t (there_tape h1)]
      simp only [argO2_t (there_tape h1), List.set_cons_zero, List.set_cons_succ, e_Arg, e_Bin, e_Var, List.getElem?_cons_succ, List.getElem?_cons_zero, varR_val, bd_ok, e_C, bin2_vv, gAdd_i, opR_some, arg1_v]
      rw [a4']
      simp only [foR_rt, bd_ok, pb_some, pb_none, pb_nil, List.set_cons_zero, List.set_cons_succ, e_Arg, e_Var, List.getElem?_cons_succ, List.getElem?_cons_zero, varR_val, arg1_v]
      rw [meth2_ok (ds := [.int (r : Nat), .int (j : Nat)]) rfl (by simp only [List.getElem?_cons_succ, List.getElem?_cons_zero]) hg]
      simp only [List.set_cons_zero, List.set_cons_succ, st_ok])
  rw [upto_len, Nat.zero_add] at h2
  refine ⟨l, t', h1, h2, ?_⟩
  subst h3
  refine fn_rt (ρ0 := [t, .val (.int (n : Nat)), .und, .und]) (ρ := [t', .val (.int (n : Nat)), .val (.list (nats l)), x]) rfl ?_ rfl
  unfold g_l_any_order
  rw [e_Seq, e_Set, e_Lst]
  simp only [bd_ok, lst1_nil, st_ok, so_nx, List.set_cons_zero, List.set_cons_succ]
  rw [e_Seq, e_For, e_Rg1, e_Arg]
  simp only [e_Var, List.getElem?_cons_succ, List.getElem?_cons_zero, varR_val, List.set_cons_zero, List.set_cons_succ, bd_ok, arg1_v]
  rw [rg1_e (rgOk_of (by omega) (by omega)), Int.toNat_natCast]
  simp only [st_ok]
  rw [e]
  simp only [so_nx, e_Ret, e_Un, e_Var, List.getElem?_cons_succ, List.getElem?_cons_zero, varR_lst, bd_ok, un1_v, gTupC, opR_some, st_ok, List.set_cons_zero, List.set_cons_succ]
  rfl
end Law

set_option Elab.async false
set_option linter.all false
set_option maxRecDepth 100000
namespace Law
open PySem PySem.Spec PyProof.Rows L2 Fx
/-- one order, its spots moved on -/
def rot (own : List Nat) (s : Nat) : List Nat := (List.range own.length).map fun k => own.getD ((k + s) % own.length) 0
theorem rot_len (own : List Nat) (s : Nat) : (rot own s).length = own.length := by unfold rot; rw [List.length_map, List.length_range]
theorem rot_nodup {own : List Nat} {s : Nat} (h : own.Nodup) : (rot own s).Nodup := by
  unfold rot
  refine Fx.nodup_map_on (l := List.range own.length) ?_ List.nodup_range
  intro x hx y hy e
  rw [List.mem_range] at hx hy
  have hn : 0 < own.length := by omega
  have h1 := Nat.mod_lt (x + s) hn
  have h2 := Nat.mod_lt (y + s) hn
  rw [getD_at h1, getD_at h2] at e
  have e2 := (List.getElem_inj h).mp e
  have a1 := Nat.div_add_mod (x + s) own.length
  have a2 := Nat.div_add_mod (y + s) own.length
  rw [e2] at a1
  by_cases hq : (x + s) / own.length = (y + s) / own.length
  · rw [hq] at a1; omega
  · rcases Nat.lt_or_gt_of_ne hq with hq | hq
    · have : own.length * ((x + s) / own.length + 1) ≤ own.length * ((y + s) / own.length) := Nat.mul_le_mul_left _ hq
      rw [Nat.mul_add] at this; omega
    · have : own.length * ((y + s) / own.length + 1) ≤ own.length * ((x + s) / own.length) := Nat.mul_le_mul_left _ hq
      rw [Nat.mul_add] at this; omega
theorem rot_perm {own : List Nat} {n s : Nat} (h : own.Perm (List.range n)) : (rot own s).Perm (List.range n) := by
  have hn : own.length = n := by rw [h.length_eq, List.length_range]
  have nd : own.Nodup := h.nodup_iff.mpr List.nodup_range
  have sub : ∀ x ∈ rot own s, x ∈ List.range n := by
    intro x hx
    unfold rot at hx
    obtain ⟨k, hk, rfl⟩ := List.mem_map.mp hx
    rw [List.mem_range] at hk
    have : (k + s) % own.length < own.length := Nat.mod_lt _ (by omega)
    rw [getD_at this]
    exact h.mem_iff.mp (List.getElem_mem _)
  exact perm_of_nodup (rot_nodup (s := s) nd) List.nodup_range sub (by rw [rot_len, List.length_range, hn]; exact Nat.le_refl _)
theorem cutL_to {l : List D} {m : Nat} (h : m ≤ l.length) : cutL l none (some (m : Nat)) = l.take m := by
  unfold cutL
  rw [HT.sIx_none, HT.sIx_nat]
  simp [Nat.min_eq_left h]
theorem nats_take (l : List Nat) (m : Nat) : (nats l).take m = nats (l.take m) := by unfold nats; rw [List.map_take]
theorem apart_row {t : Sl} {own : List Nat} {n m s : Nat} {x : Sl} (hn : own.length = n) (h0 : 0 < n) (h1 : n ≤ 1000) : ∃ r, e_l_apart2 [t, .val (.int (n : Nat)), .val (.int (m : Nat)), .val (ordD own), x, .und, .val (.int (s : Nat))] = .ok r [t, .val (.int (n : Nat)), .val (.int (m : Nat)), .val (ordD own), x, .und, .val (.int (s : Nat))] ∧ r.d? = some (ordD (rot own s)) := by
  refine ⟨.val (ordD (rot own s)), ?_, rfl⟩
  unfold e_l_apart2
  rw [e_Un, e_Comp, e_Rg1, e_Arg]
  simp only [e_Var, List.getElem?_cons_succ, List.getElem?_cons_zero, varR_val, List.set_cons_zero, List.set_cons_succ, bd_ok, arg1_v]
  rw [rg1_e (rgOk_of (by omega) (by omega)), Int.toNat_natCast]
  simp only [bd_ok, wipeS, List.set_cons_zero, List.set_cons_succ]
  rw [show upto n = (List.range n).map (fun i => PyData.int (i : Nat)) from rfl]
  rw [comp_all (fun i : Nat => PyData.int (i : Nat)) (fun k => [t, .val (.int (n : Nat)), .val (.int (m : Nat)), .val (ordD own), x, .val (.int (k : Nat)), .val (.int (s : Nat))]) (fun k => .int ((own.getD ((k + s) % own.length) 0 : Nat))) (List.range n) (by rw [List.length_range]; omega) (fun k hk => ⟨rfl, ⟨.val (.int ((own.getD ((k + s) % own.length) 0 : Nat))), ?_, rfl⟩, rfl⟩)]
  · simp only [bd_ok, un1_l, gTupC, opR_some, ordD, nats, rot, List.map_map, hn]
    rfl
  · have hm : (k + s) % own.length < own.length := Nat.mod_lt _ (by omega)
    have hg : gMod (.int ((k : Int) + (s : Int))) (.int (n : Nat)) = some (.val (.int (((k + s) % own.length : Nat) : Int))) := by
      rw [gMod_e (by omega), hn, Int.natCast_emod, Int.natCast_add]
    unfold e_l_apart1
    simp only [e_Bin, e_Var, List.getElem?_cons_succ, List.getElem?_cons_zero, varR_val, List.set_cons_zero, List.set_cons_succ, bd_ok, bin2_vv, gAdd_i, opR_some, hg, ordD, gIx_t]
    rw [atI_nats hm, getD_at hm]
    rfl
theorem apart_ok {t : Sl} {n m : Nat} (ht : IsTape t) (h0 : 0 < n) (h1 : n ≤ 1000) (hm : m ≤ n) : ∃ (own st : List Nat) (t' : Sl), IsTape t' ∧ own.Perm (List.range n) ∧ st.Perm (List.range n) ∧ m_l_apart [t, .val (.int (n : Nat)), .val (.int (m : Nat))] = .rt (.val (tabD ((st.take m).map (rot own)))) [t', .und, .und] := by
  obtain ⟨own, t1, ht1, p1, e1⟩ := any_order_ok ht h1
  obtain ⟨st, t2, ht2, p2, e2⟩ := any_order_ok ht1 h1
  have ho : own.length = n := by rw [p1.length_eq, List.length_range]
  have hs : st.length = n := by rw [p2.length_eq, List.length_range]
  refine ⟨own, st, t2, ht2, p1, p2, ?_⟩
  refine fn_rt (ρ0 := [t, .val (.int (n : Nat)), .val (.int (m : Nat)), .und, .und, .und, .und]) (ρ := [t2, .val (.int (n : Nat)), .val (.int (m : Nat)), .val (ordD own), .val (.tuple (nats (st.take m))), .und, .und]) rfl ?_ rfl
  unfold g_l_apart
  simp only [e_Seq, e_Set, e_Call, e_ArgO, List.getElem?_cons_zero]
  rw [argO1_t (there_tape ht)]
  simp only [argO2_t (there_tape ht), List.set_cons_zero, List.set_cons_succ, e_Arg, e_Var, List.getElem?_cons_succ, List.getElem?_cons_zero, varR_val, bd_ok, arg1_v]
  rw [e1]
  simp only [foR_rt, bd_ok, pb_some, pb_none, pb_nil, List.set_cons_zero, List.set_cons_succ, st_ok, so_nx, e_Seq, e_Set, e_Slice, e_Call, e_ArgO, List.getElem?_cons_zero]
  rw [argO1_t (there_tape ht1)]
  simp only [argO2_t (there_tape ht1), List.set_cons_zero, List.set_cons_succ, e_Arg, e_Var, List.getElem?_cons_succ, List.getElem?_cons_zero, varR_val, bd_ok, arg1_v]
  rw [e2]
  simp only [foR_rt, bd_ok, pb_some, pb_none, pb_nil, List.set_cons_zero, List.set_cons_succ, st_ok, so_nx, e_NoPart, e_Part, e_Var, List.getElem?_cons_succ, List.getElem?_cons_zero, varR_val, part1_e, slice1_v]
  have hc : gSl (ordD st) none (some (m : Nat)) = some (.val (.tuple (nats (st.take m)))) := by
    simp only [ordD, gSl]
    rw [cutL_to (by rw [nats_len]; omega), nats_take]
  rw [hc]
  simp only [opR_some, st_ok, so_nx, List.set_cons_zero, List.set_cons_succ, e_Ret, e_Un, e_Comp, e_SeqI, e_Var, List.getElem?_cons_succ, List.getElem?_cons_zero, varR_val, bd_ok, seq1_t, wipeS]
  rw [show nats (st.take m) = (st.take m).map (fun i => PyData.int (i : Nat)) from rfl]
  rw [comp_all (fun i : Nat => PyData.int (i : Nat)) (fun s => [t2, .val (.int (n : Nat)), .val (.int (m : Nat)), .val (ordD own), .val (.tuple ((st.take m).map (fun i => PyData.int (i : Nat)))), .und, .val (.int (s : Nat))]) (fun s => ordD (rot own s)) (st.take m) (by rw [List.length_take]; omega) (fun s _ => ⟨rfl, apart_row ho h0 h1, rfl⟩)]
  simp only [bd_ok, un1_l, gTupC, opR_some, tabD, st_ok, List.map_map]
  rfl
end Law

set_option Elab.async false
set_option linter.all false
set_option maxRecDepth 100000
namespace Law
open PySem PySem.Spec PyProof.Rows L2 Fx
def Rows (n : Nat) (T : List (List Nat)) : Prop := ∀ o ∈ T, o.Perm (List.range n)
theorem Rows.len {n : Nat} {T : List (List Nat)} (h : Rows n T) {o : List Nat} (ho : o ∈ T) : o.length = n := by rw [(h o ho).length_eq, List.length_range]
theorem cutL_from {l : List D} {m : Nat} : cutL l (some (m : Nat)) none = l.drop m := by
  unfold cutL
  rw [HT.sIx_none, HT.sIx_nat]
  rcases Nat.le_total m l.length with h | h
  · rw [Nat.min_eq_left h, List.take_of_length_le]
    rw [List.length_drop]; exact Nat.le_refl _
  · rw [Nat.min_eq_right h, List.drop_length, List.drop_eq_nil_of_le h, List.take_nil]
theorem any_table {t w : Sl} {n m : Nat} (ht : IsTape t) (hn : n ≤ 1000) (hm : m ≤ 1000) : ∃ (T : List (List Nat)) (t' : Sl), IsTape t' ∧ T.length = m ∧ Rows n T ∧
    (mUn gTupC (mComp [4] (mRg1 (mArg (mVar 2) (fun ρ => .ok [] ρ))) (kName 4) mYes e_l_a_table1)) [t, .val (.int (n : Nat)), .val (.int (m : Nat)), w, .und, .und, .und] = .ok (.val (tabD T)) [t', .val (.int (n : Nat)), .val (.int (m : Nat)), w, .und, .und, .und] := by
  obtain ⟨acc, ρ', e, t', T, h1, h2, h3, h4, h5⟩ := comp_inv (vs := [4]) (k := kName 4) (tt := mYes) (fe := e_l_a_table1)
    (fun i acc ρ => ∃ (t : Sl) (T : List (List Nat)), IsTape t ∧ T.length = i ∧ Rows n T ∧ acc = T.map ordD ∧ ρ = [t, .val (.int (n : Nat)), .val (.int (m : Nat)), w, .und, .und, .und]) (upto m) 0 [] [t, .val (.int (n : Nat)), .val (.int (m : Nat)), w, .und, .und, .und]
    ⟨t, [], ht, rfl, fun _ h => by simp at h, rfl, rfl⟩ (fun i acc ρ ⟨t, T, _, h2, _, h4, _⟩ => by rw [h4, List.length_map]; omega) (by rw [upto_len]; omega) (by
      rintro j d acc ρ hd ⟨t, T, h1, h2, h3, h4, rfl⟩
      obtain ⟨hj, rfl⟩ := upto_get hd
      obtain ⟨o, t', a1, a2, a3⟩ := any_order_ok h1 hn
      refine ⟨_, true, _, rfl, rfl, .inr ⟨rfl, .val (ordD o), [t', .val (.int (n : Nat)), .val (.int (m : Nat)), w, .val (.int (j : Nat)), .und, .und], ordD o, ?_, rfl, t', T ++ [o], a1, by rw [List.length_append, h2]; rfl, ?_, by rw [h4, List.map_append]; rfl, rfl⟩⟩
      · unfold e_l_a_table1
        simp only [List.set_cons_zero, List.set_cons_succ, e_Call, e_ArgO, List.getElem?_cons_zero]
        rw [argO1_t (there_tape h1)]
        simp only [argO2_t (there_tape h1), List.set_cons_zero, List.set_cons_succ, e_Arg, e_Var, List.getElem?_cons_succ, List.getElem?_cons_zero, varR_val, bd_ok, arg1_v]
        rw [a3]
        simp only [foR_rt, bd_ok, pb_some, pb_none, pb_nil, List.set_cons_zero, List.set_cons_succ]
      · intro x hx
        rcases List.mem_append.mp hx with hx | hx
        · exact h3 x hx
        · have : x = o := by simpa using hx
          rw [this]; exact a2)
  rw [Nat.zero_add, upto_len] at h2
  refine ⟨T, t', h1, h2, h3, ?_⟩
  subst h4 h5
  rw [e_Un, e_Comp, e_Rg1, e_Arg]
  simp only [e_Var, List.getElem?_cons_succ, List.getElem?_cons_zero, varR_val, List.set_cons_zero, List.set_cons_succ, bd_ok, arg1_v]
  rw [rg1_e (rgOk_of (by omega) (by omega)), Int.toNat_natCast]
  simp only [bd_ok, wipeS, List.set_cons_zero, List.set_cons_succ]
  rw [e]
  simp only [bd_ok, un1_l, gTupC, opR_some, tabD]
theorem rows_sub {n : Nat} {T T' : List (List Nat)} (h : Rows n T) (hs : ∀ x ∈ T', x ∈ T) : Rows n T' := fun o ho => h o (hs o ho)
theorem a_table_ok {t : Sl} {n m : Nat} (ht : IsTape t) (h0 : 0 < n) (hn : n ≤ 1000) (m0 : 0 < m) (hm : m ≤ 1000) : ∃ (T : List (List Nat)) (t' : Sl), IsTape t' ∧ T.length = m ∧ Rows n T ∧ m_l_a_table [t, .val (.int (n : Nat)), .val (.int (m : Nat))] = .rt (.val (tabD T)) [t', .und, .und] := by
  obtain ⟨r, t1, ht1, r0, r1, e1⟩ := draw_ok (many := 3) ht (by decide) (by decide)
  by_cases hc : r = 0 ∨ (n : Int) < (m : Int)
  · obtain ⟨T, t2, ht2, hl, hr, e2⟩ := any_table (w := .val (.int r)) ht1 hn hm
    refine ⟨T, t2, ht2, hl, hr, ?_⟩
    refine fn_rt (ρ0 := [t, .val (.int (n : Nat)), .val (.int (m : Nat)), .und, .und, .und, .und]) (ρ := [t2, .val (.int (n : Nat)), .val (.int (m : Nat)), .val (.int r), .und, .und, .und]) rfl ?_ rfl
    unfold g_l_a_table
    simp only [e_Seq, e_Set, e_Call, e_ArgO, List.getElem?_cons_zero]
    rw [argO1_t (there_tape ht)]
    simp only [argO2_t (there_tape ht), List.set_cons_zero, List.set_cons_succ, List.getElem?_cons_succ, List.getElem?_cons_zero, e_Arg, e_C, bd_ok, arg1_v]
    rw [e1]
    simp only [foR_rt, bd_ok, pb_some, pb_none, pb_nil, List.set_cons_zero, List.set_cons_succ, st_ok, so_nx, e_Seq, e_IfS, e_Or, e_Tst, e_Bin, e_Var, List.getElem?_cons_succ, List.getElem?_cons_zero, varR_val, e_C, bin2_vv, gEq_i, gGt_i, opR_some, tst_b]
    rcases hc with hc | hc
    · simp only [hc, decide_true, if_true, st_ok]
      rw [hc] at e2
      rw [e_Ret, e2]
      simp only [st_ok, so_rt]
    · simp only [hc, decide_true, if_true, st_ok]
      by_cases h : r = 0
      · simp only [h, decide_true, if_true, st_ok]
        rw [h] at e2
        rw [e_Ret, e2]
        simp only [st_ok, so_rt]
      · simp only [h, decide_false, Bool.false_eq_true, if_false, st_ok, if_true]
        rw [e_Ret, e2]
        simp only [st_ok, so_rt]
  · have hc1 : ¬ r = 0 := fun h => hc (.inl h)
    have hc2 : ¬ (n : Int) < (m : Int) := fun h => hc (.inr h)
    obtain ⟨own, st, t2, ht2, p1, p2, e2⟩ := apart_ok (m := m) ht1 h0 hn (by omega)
    have hs : st.length = n := by rw [p2.length_eq, List.length_range]
    have hT : Rows n ((st.take m).map (rot own)) := fun o ho => by
      obtain ⟨s, _, rfl⟩ := List.mem_map.mp ho
      exact rot_perm p1
    have hTl : ((st.take m).map (rot own)).length = m := by rw [List.length_map, List.length_take]; omega
    generalize (st.take m).map (rot own) = T at e2 hT hTl
    have pre : ∀ R, (mSeq (mIfS (mTst (mBin gEq (mVar 3) (mC (.int 2))))
 (mSeq (mSet 6 (mCall m_l_draw [some 0, none] (mArgO 0 (mArg (mVar 2) (fun ρ => .ok [] ρ))))) (mSet 5 (mBin gAdd (mBin gAdd (mSlice (mVar 5) mNoPart (mPart (mVar 6))) (mTup (mArg (mCall m_l_any_order [some 0, none] (mArgO 0 (mArg (mVar 1) (fun ρ => .ok [] ρ)))) (fun ρ => .ok [] ρ)))) (mSlice (mVar 5) (mPart (mBin gAdd (mVar 6) (mC (.int 1)))) mNoPart))))
 (fun ρ => .nx ρ)) (mRet (mVar 5))) [t2, .val (.int (n : Nat)), .val (.int (m : Nat)), .val (.int r), .und, .val (tabD T), .und] = R → g_l_a_table [t, .val (.int (n : Nat)), .val (.int (m : Nat)), .und, .und, .und, .und] = R := by
      intro R hR
      unfold g_l_a_table
      simp only [e_Seq, e_Set, e_Call, e_ArgO, List.getElem?_cons_zero]
      rw [argO1_t (there_tape ht)]
      simp only [argO2_t (there_tape ht), List.set_cons_zero, List.set_cons_succ, List.getElem?_cons_succ, List.getElem?_cons_zero, e_Arg, e_C, bd_ok, arg1_v]
      rw [e1]
      simp only [foR_rt, bd_ok, pb_some, pb_none, pb_nil, List.set_cons_zero, List.set_cons_succ, st_ok, so_nx, e_Seq, e_IfS, e_Or, e_Tst, e_Bin, e_Var, List.getElem?_cons_succ, List.getElem?_cons_zero, varR_val, e_C, bin2_vv, gEq_i, gGt_i, opR_some, tst_b, hc1, hc2, decide_false, Bool.false_eq_true, if_false, e_Set, e_Call, e_ArgO]
      rw [argO1_t (there_tape ht1)]
      simp only [argO2_t (there_tape ht1), List.set_cons_zero, List.set_cons_succ, e_Arg, e_Var, List.getElem?_cons_succ, List.getElem?_cons_zero, varR_val, bd_ok, arg1_v]
      rw [e2]
      simp only [foR_rt, bd_ok, pb_some, pb_none, pb_nil, List.set_cons_zero, List.set_cons_succ, st_ok, so_nx]
      exact hR
    by_cases h2 : r = 2
    · obtain ⟨k, t3, ht3, k0, k1, e3⟩ := draw_ok (many := (m : Nat)) ht2 (by omega) (log2_small (by omega))
      obtain ⟨k, rfl⟩ := Int.eq_ofNat_of_zero_le k0
      obtain ⟨o, t4, ht4, p4, e4⟩ := any_order_ok ht3 hn
      have hk : k < m := by omega
      refine ⟨T.take k ++ [o] ++ T.drop (k + 1), t4, ht4, ?_, ?_, ?_⟩
      · rw [List.length_append, List.length_append, List.length_take, List.length_drop, List.length_singleton]; omega
      · intro x hx
        rcases List.mem_append.mp hx with hx | hx
        · rcases List.mem_append.mp hx with hx | hx
          · exact hT x (List.mem_of_mem_take hx)
          · have : x = o := by simpa using hx
            rw [this]; exact p4
        · exact hT x (List.mem_of_mem_drop hx)
      · refine fn_rt (ρ0 := [t, .val (.int (n : Nat)), .val (.int (m : Nat)), .und, .und, .und, .und]) (ρ := [t4, .val (.int (n : Nat)), .val (.int (m : Nat)), .val (.int r), .und, .val (tabD (T.take k ++ [o] ++ T.drop (k + 1))), .val (.int (k : Nat))]) rfl (pre _ ?_) rfl
        simp only [e_Seq, e_IfS, e_Tst, e_Bin, e_Var, List.getElem?_cons_succ, List.getElem?_cons_zero, varR_val, List.set_cons_zero, List.set_cons_succ, bd_ok, e_C, bin2_vv, gEq_i, opR_some, tst_b, st_ok, h2, decide_true, if_true, e_Set, e_Call, e_ArgO]
        rw [argO1_t (there_tape ht2)]
        simp only [argO2_t (there_tape ht2), List.set_cons_zero, List.set_cons_succ, e_Arg, e_Var, List.getElem?_cons_succ, List.getElem?_cons_zero, varR_val, bd_ok, arg1_v]
        rw [e3]
        simp only [foR_rt, bd_ok, pb_some, pb_none, pb_nil, List.set_cons_zero, List.set_cons_succ, st_ok, so_nx, e_Slice, e_NoPart, e_Part, e_Var, List.getElem?_cons_succ, List.getElem?_cons_zero, varR_val, part1_e, slice1_v, e_Set, e_Bin]
        have hc : gSl (tabD T) none (some (k : Nat)) = some (.val (tabD (T.take k))) := by
          simp only [tabD, gSl]
          rw [cutL_to (by rw [List.length_map]; omega), List.map_take]
        rw [hc]
        simp only [opR_some, bd_ok, e_Tup, e_Arg, e_Call, e_ArgO, List.getElem?_cons_zero]
        rw [argO1_t (there_tape ht3)]
        simp only [argO2_t (there_tape ht3), List.set_cons_zero, List.set_cons_succ, e_Arg, e_Var, List.getElem?_cons_succ, List.getElem?_cons_zero, varR_val, bd_ok, arg1_v]
        rw [e4]
        simp only [foR_rt, bd_ok, pb_some, pb_none, pb_nil, List.set_cons_zero, List.set_cons_succ, arg1_v]
        rw [tup1_ok (ds := [ordD o]) rfl (szOk_of (by rw [List.length_singleton]; decide))]
        have ga : gAdd (tabD (T.take k)) (.tuple [ordD o]) = some (.val (tabD (T.take k ++ [o]))) := by
          simp only [tabD, gAdd]
          rw [if_pos (szOk_of (by rw [List.length_map, List.length_take, List.length_singleton]; omega)), List.map_append]
          rfl
        have hc' : gSl (tabD T) (some ((k : Int) + 1)) none = some (.val (tabD (T.drop (k + 1)))) := by
          simp only [tabD, gSl]
          rw [show ((k : Int) + 1) = ((k + 1 : Nat) : Int) by omega, cutL_from, List.map_drop]
        have ga' : gAdd (tabD (T.take k ++ [o])) (tabD (T.drop (k + 1))) = some (.val (tabD (T.take k ++ [o] ++ T.drop (k + 1)))) := by
          simp only [tabD, gAdd]
          rw [if_pos (szOk_of (by rw [List.length_map, List.length_map, List.length_append, List.length_take, List.length_drop, List.length_singleton]; omega)), ← List.map_append]
        simp only [bd_ok, bin2_vv, ga, opR_some, e_Slice, e_Var, List.getElem?_cons_succ, List.getElem?_cons_zero, varR_val, List.set_cons_zero, List.set_cons_succ, e_Part, e_Bin, e_C, gAdd_i, part1_e, e_NoPart, slice1_v, hc', ga', st_ok, so_nx, e_Ret]
    · refine ⟨T, t2, ht2, hTl, hT, ?_⟩
      refine fn_rt (ρ0 := [t, .val (.int (n : Nat)), .val (.int (m : Nat)), .und, .und, .und, .und]) (ρ := [t2, .val (.int (n : Nat)), .val (.int (m : Nat)), .val (.int r), .und, .val (tabD T), .und]) rfl (pre _ ?_) rfl
      simp only [e_Seq, e_IfS, e_Tst, e_Bin, e_Var, List.getElem?_cons_succ, List.getElem?_cons_zero, varR_val, List.set_cons_zero, List.set_cons_succ, bd_ok, e_C, bin2_vv, gEq_i, opR_some, tst_b, st_ok, h2, decide_false, Bool.false_eq_true, if_false, so_nx, e_Ret]
end Law

set_option Elab.async false
set_option linter.all false
set_option maxRecDepth 100000
namespace Law
open PySem PySem.Spec PyProof.Rows L2 Fx
local macro_rules | `(tactic| walk_at "ev") => `(tactic| simp only [*, List.set_cons_zero, List.set_cons_succ, List.getElem?_cons_succ, List.getElem?_cons_zero, bd_ok, st_ok, so_nx, so_rt, so_bk, so_ct, so_bad, tst_b, opR_some, bin2_vv, bin2_vl, bin2_lv, bin2_ll, un1_v, un1_l, varR_val, varR_lst, arg1_v, arg1_l, cb1_1, cb1_2, foR_rt, pb_nil, pb_some, pb_none, ixO1_l, ixO2_e, seq1_l, seq1_t, seq1_o, part1_e, slice1_v, slice1_l, e_C, e_Seq, e_Set, e_Ret, e_Drop, e_IfS, e_If, e_Tst, e_Not, e_And, e_Or, e_AndV, e_OrV, e_NotV, e_Bin, e_Un, e_Isi, e_Var, e_Arg, e_ArgO, argO1_t, argO2_t, e_Tup, e_Lst, e_CB, e_Call, e_IxO, e_LenO, e_SetIx, e_Meth, meth1_l, e_For, e_SeqI, e_Rg1, e_Rg2, e_Comp, e_Part, e_NoPart, e_Slice, e_ListScr, wipeS, lst1_nil, gAdd_i, gLt_i, gLe_i, gGt_i, gGe_i, gEq_i, gLen_l, gLen_t, decide_true, decide_false, if_true, if_false, Bool.false_eq_true, Bool.not_true, Bool.not_false, kName_e, mYes_e, asg1_v, asg1_l, onx_some, kTup_2, kTup_3, kTup_4, kCons_e, kNil_e, e_AsgT, e_Enum, enum1_l, enum1_t, e_Zip, zip1_l, zip1_t, pk_e, pk1_v, pk1_l, bo_e, ol1_e, e_BinOL, e_BinOR, e_BinOO, d_val, d_lst, e_IsiO, isiO1_e, gIsi_ll, gIsi_tt, gIsi_ii, gIsi_ib, gIsi_bb, lk_e, lk1_v, lk1_l, e_ForO, forO1_e, e_CompO, compO1_e, id_eq, e_Chain, cb1_0, gMax2_e, gMin2_e, gInt1_b, gInt1_i, gSub_i, gIsB_e, gNotB_e, gNeg_e, gTupC, e_RetO, retO1_v, retO1_l, retO1_K])

theorem drawN {t : Sl} {k : Int} (m : Nat) (hk : k = (m : Nat)) (ht : IsTape t) (h0 : 0 < m) (h1 : m ≤ 1000000000) : ∃ (r : Nat) (t' : Sl), IsTape t' ∧ r < m ∧ m_l_draw [t, .val (.int k)] = .rt (.val (.int (r : Nat))) [t', .und] := by
  obtain ⟨r, t', a1, a2, a3, a4⟩ := draw_ok (many := k) ht (by omega) (by rw [hk]; exact log2_small h1)
  obtain ⟨r, rfl⟩ := Int.eq_ofNat_of_zero_le a2
  exact ⟨r, t', a1, by omega, a4⟩
theorem lstN {rs : List Sl} {ds : List D} (h : dAll rs = some ds) (hl : ds.length ≤ 1000) (ρ : Fx.Env) : lst1 rs ρ = .ok (.lst ds) ρ := lst1_ok h (szOk_of (by omega))
theorem tupN {rs : List Sl} {ds : List D} (h : dAll rs = some ds) (hl : ds.length ≤ 1000) (ρ : Fx.Env) : Fx.tup1 rs ρ = .ok (.val (.tuple ds)) ρ := tup1_ok h (szOk_of (by omega))
theorem small_ok {t : Sl} (ht : IsTape t) : ∃ (v : Nat) (t' : Sl), IsTape t' ∧ v ≤ 1000 ∧ m_l_small [t] = .rt (.val (.int (v : Nat))) [t'] := by
  obtain ⟨a, t1, h1, b1, e1⟩ := drawN (k := 4) 4 rfl ht (by decide) (by decide)
  obtain ⟨b, t2, h2, b2, e2⟩ := drawN (k := 10) 10 rfl h1 (by decide) (by decide)
  obtain ⟨c, t3, h3, b3, e3⟩ := drawN (k := 1001) 1001 rfl h2 (by decide) (by decide)
  obtain ⟨d, t4, h4, b4, e4⟩ := drawN (k := 6) 6 rfl h3 (by decide) (by decide)
  have k0 := there_tape ht
  have k1 := there_tape h1
  have k2 := there_tape h2
  have k3 := there_tape h3
  have hl := lstN (rs := [.val (.int (a : Nat)), .val (.int (b : Nat)), .val (.int (c : Nat))]) rfl (by simp)
  have g1 : gDiv (.int (d : Nat)) (.int 2) = some (.val (.int ((d : Nat) / 2))) := gDiv_e (by decide) (by decide)
  have g2 : gMod (.int ((d : Nat) / 2)) (.int 3) = some (.val (.int ((d : Nat) / 2 % 3))) := gMod_e (by decide)
  have g3 : ∃ v : Nat, v ≤ 1000 ∧ gIx (.list [.int (a : Nat), .int (b : Nat), .int (c : Nat)]) (.int ((d : Nat) / 2 % 3)) = some (.val (.int (v : Nat))) := by
    have : ((d : Nat) : Int) / 2 % 3 = 0 ∨ ((d : Nat) : Int) / 2 % 3 = 1 ∨ ((d : Nat) : Int) / 2 % 3 = 2 := by omega
    rcases this with q | q | q
    · rw [q, gIx_l, atI_0]; exact ⟨a, by omega, rfl⟩
    · rw [q, gIx_l, atI_1]; exact ⟨b, by omega, rfl⟩
    · rw [q, gIx_l, atI_2]; exact ⟨c, by omega, rfl⟩
  obtain ⟨v, hv, g3⟩ := g3
  refine ⟨v, t4, h4, hv, ?_⟩
  refine fn_rt (ρ0 := [t]) (ρ := [t4]) rfl ?_ rfl
  clear b1 b2 b3 b4 hv
  unfold g_l_small
  walk_at "ev"
/-- a row of so many drawn numbers -/
theorem smalls_ok {t : Sl} {n i : Nat} {fe : M Sl} {env : Sl → Sl → Fx.Env} (hn : n ≤ 1000) (ht : IsTape t) (P : Nat → Prop)
    (hk : ∀ t x j, kName i (.val (.int (j : Nat))) (env t x) = some (env t (.val (.int (j : Nat))))) (hw : ∀ t x, wipeS (env t x) [i] = env t .und)
    (he : ∀ t (j : Nat), IsTape t → ∃ (v : Nat) (t' : Sl), IsTape t' ∧ P v ∧ fe (env t (.val (.int (j : Nat)))) = .ok (.val (.int (v : Nat))) (env t' (.val (.int (j : Nat))))) :
    ∃ (l : List Nat) (t' : Sl), IsTape t' ∧ l.length = n ∧ (∀ v ∈ l, P v) ∧ compM [i] (kName i) mYes fe (upto n) [] (env t .und) = .ok (.lst (nats l)) (env t' .und) := by
  obtain ⟨acc, ρ', e, t', l, h1, h2, h3, h4, h5⟩ := comp_inv (vs := [i]) (k := kName i) (tt := mYes) (fe := fe)
    (fun j acc ρ => ∃ (t : Sl) (l : List Nat), IsTape t ∧ l.length = j ∧ (∀ v ∈ l, P v) ∧ acc = nats l ∧ ρ = env t .und) (upto n) 0 [] (env t .und)
    ⟨t, [], ht, rfl, fun _ h => by simp at h, rfl, rfl⟩ (fun j acc ρ ⟨t, l, _, h2, _, h4, _⟩ => by rw [h4, nats_len]; omega) (by rw [upto_len]; omega) (by
      rintro j d acc ρ hd ⟨t, l, h1, h2, h3, h4, rfl⟩
      obtain ⟨hj, rfl⟩ := upto_get hd
      obtain ⟨v, t', a1, a2, a3⟩ := he t j h1
      refine ⟨_, true, _, hk _ _ _, rfl, .inr ⟨rfl, _, _, .int (v : Nat), a3, rfl, t', l ++ [v], a1, by rw [List.length_append, h2]; rfl, ?_, by rw [h4]; simp [nats], hw _ _⟩⟩
      intro x hx
      rcases List.mem_append.mp hx with hx | hx
      · exact h3 x hx
      · have : x = v := by simpa using hx
        rw [this]; exact a2)
  rw [Nat.zero_add, upto_len] at h2
  subst h4 h5
  exact ⟨l, t', h1, h2, h3, e⟩
/-- a ground: firsts, ways -/
structure Grd (n : Nat) (f : List Nat) (w : List (List Nat)) : Prop where
  fl : f.length = n
  fb : ∀ v ∈ f, v ≤ 1000
  wl : w.length = n
  rl : ∀ r ∈ w, r.length = n
  rb : ∀ r ∈ w, ∀ v ∈ r, v ≤ 1000
  dg : ∀ k j, k < n → j < n → ((w.getD k []).getD j 0 = 0 ↔ k = j)
def grdD (f : List Nat) (w : List (List Nat)) : D := .tuple [ordD f, tabD w]
theorem ground_row {t : Sl} {n j : Nat} {w : List (List Nat)} {x4 x5 x6 : Sl} (hn : n ≤ 8) (hj : j < n) (hw : w.length = j) (ht : IsTape t) : ∃ (r : List Nat) (t' : Sl) (y4 : Sl), IsTape t' ∧ r.length = n ∧ (∀ v ∈ r, v ≤ 1000) ∧ (∀ i, i < n → (r.getD i 0 = 0 ↔ j = i)) ∧
    b_l_a_ground1 [t, .val (.int (n : Nat)), .lst (w.map ordD), .val (.int (j : Nat)), x4, x5, x6] = .nx [t', .val (.int (n : Nat)), .lst ((w ++ [r]).map ordD), .val (.int (j : Nat)), y4, .und, x6] := by
  obtain ⟨l, t', h1, h2, h3, h4⟩ := smalls_ok (n := n) (i := 5) (fe := e_l_a_ground1) (t := t) (env := fun t x => [t, .val (.int (n : Nat)), .lst (w.map ordD), .val (.int (j : Nat)), x4, x, x6]) (by omega) ht (fun v => 1 ≤ v ∧ v ≤ 1000) (fun _ _ _ => rfl) (fun _ _ => rfl) (fun t i ht => by
    obtain ⟨v, t', a1, a2, a3⟩ := small_ok ht
    have k0 := there_tape ht
    refine ⟨max 1 v, t', a1, by omega, ?_⟩
    have hm : ((if ((v : Nat) : Int) > 1 then ((v : Nat) : Int) else 1) : Int) = ((max 1 v : Nat) : Int) := by split <;> omega
    have hm2 : gMax2 [.int 1, .int (v : Nat)] = some (.val (.int ((max 1 v : Nat) : Int))) := by rw [gMax2_e, hm]
    clear hm a2
    unfold e_l_a_ground1
    walk_at "ev")
  refine ⟨l.set j 0, t', .val (.list (nats (l.set j 0))), h1, by rw [List.length_set, h2], fun v hv => ?_, fun i hi => ?_, ?_⟩
  · rcases List.mem_or_eq_of_mem_set hv with h | h
    · exact (h3 v h).2
    · omega
  · have hi' : i < (l.set j 0).length := by rw [List.length_set]; omega
    rw [getD_at hi', List.getElem_set]
    by_cases q : j = i
    · simp [q]
    · simp only [q, if_false, iff_false]
      have := (h3 _ (List.getElem_mem (show i < l.length by omega))).1
      omega
  · have hr : ∀ ρ : Fx.Env, rg1 [.val (.int (n : Nat))] ρ = .ok (upto n) ρ := fun ρ => by rw [rg1_e (rgOk_of (by omega) (by omega)), Int.toNat_natCast]
    have hsx : setIx1 4 (mVar 3) (.int 0) (some (.lst (nats l))) [t', .val (.int (n : Nat)), .lst (w.map ordD), .val (.int (j : Nat)), .lst (nats l), .und, x6] = .nx [t', .val (.int (n : Nat)), .lst (w.map ordD), .val (.int (j : Nat)), .lst (nats (l.set j 0)), .und, x6] := by
      have hx : ixN (nats l).length ((j : Nat) : Int) = some j := by
        unfold ixN; rw [nats_len, h2]; simp [hj]
      simp only [setIx1, e_Var, List.getElem?_cons_succ, List.getElem?_cons_zero, varR_val, List.set_cons_succ, List.set_cons_zero, st_ok, hx]
      rw [show (nats l).set j (.int 0) = nats (l.set j 0) by unfold nats; rw [List.map_set]; rfl]
    have hga : gAppend (.lst (w.map ordD)) [ordD (l.set j 0)] = some (.lst ((w ++ [l.set j 0]).map ordD), .val .none) := by
      simp only [gAppend]
      rw [if_pos (szOk_of (by rw [List.length_map]; omega)), List.map_append]
      rfl
    have hm2 : meth2 2 gAppend [.val (ordD (l.set j 0))] [t', .val (.int (n : Nat)), .lst (w.map ordD), .val (.int (j : Nat)), .val (.list (nats (l.set j 0))), .und, x6] = .ok (.val .none) [t', .val (.int (n : Nat)), .lst ((w ++ [l.set j 0]).map ordD), .val (.int (j : Nat)), .val (.list (nats (l.set j 0))), .und, x6] := by
      rw [meth2_ok (ds := [ordD (l.set j 0)]) rfl (by simp only [List.getElem?_cons_succ, List.getElem?_cons_zero]) hga]
      rfl
    have ho : PyData.tuple (nats (l.set j 0)) = ordD (l.set j 0) := rfl
    clear h2 h3 hga hj hw
    unfold b_l_a_ground1
    walk_at "ev"
theorem ground_ok {t : Sl} {n : Nat} (hn : n ≤ 8) (ht : IsTape t) : ∃ (f : List Nat) (w : List (List Nat)) (t' : Sl), IsTape t' ∧ Grd n f w ∧ m_l_a_ground [t, .val (.int (n : Nat))] = .rt (.val (grdD f w)) [t', .und] := by
  obtain ⟨ρ', e, t1, w, x3, x4, x5, h1, h2, h3, h4⟩ := loop_inv (k := kName 3) (body := b_l_a_ground1)
    (fun i ρ => ∃ (t : Sl) (w : List (List Nat)) (x3 x4 x5 : Sl), IsTape t ∧ w.length = i ∧ (∀ k, k < i → ∃ r, w[k]? = some r ∧ r.length = n ∧ (∀ v ∈ r, v ≤ 1000) ∧ ∀ j, j < n → (r.getD j 0 = 0 ↔ k = j)) ∧ ρ = [t, .val (.int (n : Nat)), .lst (w.map ordD), x3, x4, x5, .und]) (upto n) 0
    [t, .val (.int (n : Nat)), .lst [], .und, .und, .und, .und] ⟨t, [], .und, .und, .und, ht, rfl, fun k hk => by omega, rfl⟩ (by
      rintro j d ρ hd ⟨t, w, x3, x4, x5, h1, h2, h3, rfl⟩
      obtain ⟨hj, rfl⟩ := upto_get hd
      rw [Nat.zero_add] at h2 h3 ⊢
      obtain ⟨r, t', y4, a1, a2, a3, a4, a5⟩ := ground_row (x4 := x4) (x5 := x5) (x6 := .und) hn hj h2 h1
      refine ⟨_, _, rfl, .inl a5, t', w ++ [r], _, _, _, a1, by rw [List.length_append, h2]; rfl, fun k hk => ?_, rfl⟩
      by_cases q : k < j
      · obtain ⟨r', b1, b2⟩ := h3 k q
        exact ⟨r', by rw [List.getElem?_append_left (by omega)]; exact b1, b2⟩
      · have : k = j := by omega
        subst this
        refine ⟨r, ?_, a2, a3, a4⟩
        rw [List.getElem?_append_right (by omega), h2, Nat.sub_self]; rfl)
  rw [upto_len, Nat.zero_add] at h2 h3
  obtain ⟨f, t2, g1, g2, g3, g4⟩ := smalls_ok (n := n) (i := 6) (fe := e_l_a_ground2) (t := t1) (env := fun t x => [t, .val (.int (n : Nat)), .lst (w.map ordD), x3, x4, x5, x]) (by omega) h1 (fun v => v ≤ 1000) (fun _ _ _ => rfl) (fun _ _ => rfl) (fun t i ht => by
    obtain ⟨v, t', a1, a2, a3⟩ := small_ok ht
    have k0 := there_tape ht
    refine ⟨v, t', a1, a2, ?_⟩
    clear a2
    unfold e_l_a_ground2
    walk_at "ev")
  have hrow : ∀ r ∈ w, r.length = n ∧ ∀ v ∈ r, v ≤ 1000 := fun r hr => by
    obtain ⟨k, hk⟩ := List.mem_iff_getElem?.mp hr
    have hkl := (List.getElem?_eq_some_iff.mp hk).1
    obtain ⟨r', b1, b2, b3, _⟩ := h3 k (by omega)
    rw [hk] at b1
    cases b1
    exact ⟨b2, b3⟩
  refine ⟨f, w, t2, g1, ⟨g2, g3, h2, fun r hr => (hrow r hr).1, fun r hr => (hrow r hr).2, fun k j hk hj => ?_⟩, ?_⟩
  · obtain ⟨r', b1, b2, b3, b4⟩ := h3 k hk
    have hg : w.getD k [] = r' := by rw [List.getD_eq_getElem?_getD, b1]; rfl
    rw [hg]
    exact b4 j hj
  · refine fn_rt (ρ0 := [t, .val (.int (n : Nat)), .und, .und, .und, .und, .und]) (ρ := [t2, .val (.int (n : Nat)), .val (.list (w.map ordD)), x3, x4, x5, .und]) rfl ?_ rfl
    have hr : ∀ ρ : Fx.Env, rg1 [.val (.int (n : Nat))] ρ = .ok (upto n) ρ := fun ρ => by rw [rg1_e (rgOk_of (by omega) (by omega)), Int.toNat_natCast]
    have ht := tupN (rs := [.val (ordD f), .val (tabD w)]) rfl (by simp)
    have ho : PyData.tuple (nats f) = ordD f := rfl
    have ho' : PyData.tuple (w.map ordD) = tabD w := rfl
    have hg : PyData.tuple [ordD f, tabD w] = grdD f w := rfl
    subst h4
    clear h2 h3 g2 g3 hrow
    unfold g_l_a_ground
    walk_at "ev"
end Law

set_option Elab.async false
set_option linter.all false
set_option maxRecDepth 100000
namespace Law
open PySem PySem.Spec PyProof.Rows L2 Fx
local macro_rules | `(tactic| walk_at "ev") => `(tactic| simp only [*, List.set_cons_zero, List.set_cons_succ, List.getElem?_cons_succ, List.getElem?_cons_zero, bd_ok, st_ok, so_nx, so_rt, so_bk, so_ct, so_bad, tst_b, opR_some, bin2_vv, bin2_vl, bin2_lv, bin2_ll, un1_v, un1_l, varR_val, varR_lst, arg1_v, arg1_l, cb1_1, cb1_2, foR_rt, pb_nil, pb_some, pb_none, ixO1_l, ixO2_e, seq1_l, seq1_t, seq1_o, part1_e, slice1_v, slice1_l, e_C, e_Seq, e_Set, e_Ret, e_Drop, e_IfS, e_If, e_Tst, e_Not, e_And, e_Or, e_AndV, e_OrV, e_NotV, e_Bin, e_Un, e_Isi, e_Var, e_Arg, e_ArgO, argO1_t, argO2_t, e_Tup, e_Lst, e_CB, e_Call, e_IxO, e_LenO, e_SetIx, e_Meth, meth1_l, e_For, e_SeqI, e_Rg1, e_Rg2, e_Comp, e_Part, e_NoPart, e_Slice, e_ListScr, wipeS, lst1_nil, gAdd_i, gLt_i, gLe_i, gGt_i, gGe_i, gEq_i, gLen_l, gLen_t, decide_true, decide_false, if_true, if_false, Bool.false_eq_true, Bool.not_true, Bool.not_false, kName_e, mYes_e, asg1_v, asg1_l, onx_some, kTup_2, kTup_3, kTup_4, kCons_e, kNil_e, e_AsgT, e_Enum, enum1_l, enum1_t, e_Zip, zip1_l, zip1_t, pk_e, pk1_v, pk1_l, bo_e, ol1_e, e_BinOL, e_BinOR, e_BinOO, d_val, d_lst, e_IsiO, isiO1_e, gIsi_ll, gIsi_tt, gIsi_ii, gIsi_ib, gIsi_bb, lk_e, lk1_v, lk1_l, e_ForO, forO1_e, e_CompO, compO1_e, id_eq, e_Chain, cb1_0, gMax2_e, gMin2_e, gInt1_b, gInt1_i, gSub_i, gIsB_e, gNotB_e, gNeg_e, gTupC, e_RetO, retO1_v, retO1_l, retO1_K])

theorem gxo {o : List Nat} {k : Nat} (h : k < o.length) : gIx (ordD o) (.int (k : Nat)) = some (.val (.int (o.getD k 0 : Nat))) := by
  rw [ordD, gIx_t, atI_nats h, getD_at h]; rfl
theorem gxt {T : List (List Nat)} {a : Nat} (h : a < T.length) : gIx (tabD T) (.int (a : Nat)) = some (.val (ordD (T.getD a []))) := by
  rw [tabD, gIx_t, atI_ords h, getD_at h]; rfl
theorem gx0 {a b : D} : gIx (.tuple [a, b]) (.int 0) = some (.val a) := by rw [gIx_t, atI_0]; rfl
theorem gx1 {a b : D} : gIx (.tuple [a, b]) (.int 1) = some (.val b) := by rw [gIx_t, atI_1]; rfl
theorem getD_le {l : List Nat} {b k : Nat} (h : ∀ v ∈ l, v ≤ b) : l.getD k 0 ≤ b := by
  by_cases hk : k < l.length
  · rw [getD_at hk]; exact h _ (List.getElem_mem _)
  · rw [List.getD_eq_getElem?_getD, List.getElem?_eq_none (by omega)]; exact Nat.zero_le _
theorem perm_lt {o : List Nat} {n k : Nat} (h : o.Perm (List.range n)) (hk : k < n) : o.getD k 0 < n := by
  have hl : o.length = n := by rw [h.length_eq, List.length_range]
  rw [getD_at (l := o) (i := k) (by omega)]
  exact List.mem_range.mp (h.mem_iff.mp (List.getElem_mem _))
/-- a walk -/
structure Wlk (n : Nat) (o : List Nat) (pace : Nat) (st : List Nat) : Prop where
  op : o.Perm (List.range n)
  pb : pace ≤ 1000
  sl : st.length = n
  sb : ∀ v ∈ st, v ≤ 1000
def wlkD (o : List Nat) (start : Int) (pace : Nat) (st : List Nat) : D := .tuple [ordD o, .int start, .int (pace : Nat), ordD st]
def way (f : List Nat) (w : List (List Nat)) (o : List Nat) (k : Nat) : Nat := if k = 0 then f.getD (o.getD k 0) 0 else (w.getD (o.getD (k - 1) 0) []).getD (o.getD k 0) 0
def mom (f : List Nat) (w : List (List Nat)) (o : List Nat) (start : Int) (pace : Nat) (st : List Nat) : Nat → Int
  | 0 => start
  | k + 1 => mom f w o start pace st k + (way f w o k : Nat) * (pace : Nat) + (st.getD (o.getD k 0) 0 : Nat)
def com (f : List Nat) (w : List (List Nat)) (o : List Nat) (start : Int) (pace : Nat) (st : List Nat) (k : Nat) : Int := mom f w o start pace st k + (way f w o k : Nat) * (pace : Nat)
def stn (f : List Nat) (w : List (List Nat)) (o : List Nat) (start : Int) (pace : Nat) (st : List Nat) (k : Nat) : List Int := [(o.getD k 0 : Nat), com f w o start pace st k, mom f w o start pace st (k + 1)]
def stns (n : Nat) (f : List Nat) (w : List (List Nat)) (o : List Nat) (start : Int) (pace : Nat) (st : List Nat) : List (List Int) := (List.range n).map (stn f w o start pace st)
theorem row_at {n : Nat} {f : List Nat} {w : List (List Nat)} (g : Grd n f w) {k : Nat} (hk : k < n) : (w.getD k []).length = n ∧ ∀ v ∈ w.getD k [], v ≤ 1000 := by
  have hk' : k < w.length := by rw [g.wl]; exact hk
  rw [getD_at hk']
  exact ⟨g.rl _ (List.getElem_mem _), g.rb _ (List.getElem_mem _)⟩
theorem way_le {n : Nat} {f : List Nat} {w : List (List Nat)} (g : Grd n f w) {o : List Nat} (ho : o.Perm (List.range n)) {k : Nat} (hk : k < n) : way f w o k ≤ 1000 := by
  unfold way
  split
  · exact getD_le g.fb
  · exact getD_le (row_at g (perm_lt ho (by omega))).2
theorem nats_get {l : List Nat} {j : Nat} {x : D} (h : (nats l)[j]? = some x) : j < l.length ∧ x = .int (l.getD j 0 : Nat) := by
  have hj := (List.getElem?_eq_some_iff.mp h).1
  rw [nats_len] at hj
  refine ⟨hj, ?_⟩
  unfold nats at h
  rw [List.getElem?_map, List.getElem?_eq_getElem hj] at h
  rw [getD_at hj]
  exact (Option.some.inj h).symm
theorem stepD {l : List Int} {x : Int} : PyProof.Rows.step_dedup l x = if l.any (· == x) then l else l ++ [x] := rfl
theorem met_mem (f : Nat → Int) : ∀ n i, i < n → f i ∈ PyProof.Rows.firstMet f n
  | 0, _, h => by omega
  | n + 1, i, h => by
    rw [PyProof.Rows.firstMet_succ, stepD]
    by_cases q : i < n
    · have := met_mem f n i q
      split
      · exact this
      · exact List.mem_append_left _ this
    · have e : i = n := by omega
      subst e
      split
      · rename_i hb
        obtain ⟨y, hy, ey⟩ := List.any_eq_true.mp hb
        have ey2 : y = f i := eq_of_beq ey
        rw [← ey2]; exact hy
      · exact List.mem_append_right _ (by simp)
theorem met_one (f : Nat → Int) (h : ∀ i, f i = f 0) : ∀ n, PyProof.Rows.firstMet f (n + 1) = [f 0]
  | 0 => by rw [PyProof.Rows.firstMet_succ, stepD]; rfl
  | n + 1 => by
    rw [PyProof.Rows.firstMet_succ, met_one f h n, stepD, h (n + 1)]
    simp
theorem met_one' (f : Nat → Int) : ∀ n, (∀ i, i < n + 1 → f i = f 0) → PyProof.Rows.firstMet f (n + 1) = [f 0]
  | 0, _ => by rw [PyProof.Rows.firstMet_succ, stepD]; rfl
  | n + 1, h => by
    rw [PyProof.Rows.firstMet_succ, met_one' f n (fun i hi => h i (by omega)), stepD, h (n + 1) (by omega)]
    simp
theorem setLen_one {x : Int} {l : List Int} : (setLen (x :: l) = 1) ↔ ∀ y ∈ l, y = x := by
  unfold setLen
  constructor
  · intro h y hy
    obtain ⟨z, hz⟩ := List.length_eq_one_iff.mp h
    have h0 := met_mem (fun i => (x :: l).getD i 0) (x :: l).length 0 (by simp)
    obtain ⟨i, hi⟩ := List.mem_iff_getElem?.mp hy
    have hil := (List.getElem?_eq_some_iff.mp hi).1
    have h1 := met_mem (fun i => (x :: l).getD i 0) (x :: l).length (i + 1) (by simp; omega)
    rw [hz] at h0 h1
    have e0 : x = z := by simpa using h0
    have e1 : (x :: l).getD (i + 1) 0 = y := by rw [List.getD_eq_getElem?_getD, List.getElem?_cons_succ, hi]; rfl
    rw [e1] at h1
    have e2 : y = z := by simpa using h1
    rw [e0, e2]
  · intro h
    rw [List.length_cons, met_one']
    · rfl
    · intro i hi
      cases i with
      | zero => rfl
      | succ i =>
        have hil : i < l.length := by omega
        show (x :: l).getD (i + 1) 0 = x
        rw [List.getD_eq_getElem?_getD, List.getElem?_cons_succ, List.getElem?_eq_getElem hil]
        exact h _ (List.getElem_mem _)
theorem intL_ints : ∀ ns : List Int, intL? (ns.map .int) = some ns
  | [] => rfl
  | n :: ns => by
    show (match intL? (ns.map .int) with | some m => some (n :: m) | none => none) = _
    rw [intL_ints ns]
theorem boolL_bools : ∀ ns : List Bool, boolL? (ns.map .bool) = some ns
  | [] => rfl
  | n :: ns => by
    show (match boolL? (ns.map .bool) with | some m => some (n :: m) | none => none) = _
    rw [boolL_bools ns]
theorem gSum_e (ns : List Int) : gSum [.list (ns.map .int)] = some (.val (.int ns.sum)) := by
  simp only [gSum, intL_ints]
theorem gAll_e (ns : List Bool) : gAll [.list (ns.map .bool)] = some (.val (.bool (ns.all id))) := by
  simp only [gAll, boolL_bools]
theorem gLenSet_e {ns : List Int} (h : ns.length ≤ 4000) : gLenSet (.list (ns.map .int)) = some (.val (.int (setLen ns : Nat))) := by
  simp only [gLenSet, intL_ints]
  rw [if_pos (tru_iff.mpr h)]
theorem pl_ints (ns : List Int) : pl (.list (ns.map .int)) = true := by
  unfold pl
  rw [PyData.plain, PyData.depth, plainAll_ints, Fx.depthAll_ints]; rfl
end Law

set_option Elab.async false
set_option linter.all false
set_option maxRecDepth 100000
namespace Law
open PySem PySem.Spec PyProof.Rows L2 Fx
local macro_rules | `(tactic| walk_at "ev") => `(tactic| simp only [*, List.set_cons_zero, List.set_cons_succ, List.getElem?_cons_succ, List.getElem?_cons_zero, bd_ok, st_ok, so_nx, so_rt, so_bk, so_ct, so_bad, tst_b, opR_some, bin2_vv, bin2_vl, bin2_lv, bin2_ll, un1_v, un1_l, varR_val, varR_lst, arg1_v, arg1_l, cb1_1, cb1_2, foR_rt, pb_nil, pb_some, pb_none, ixO1_l, ixO2_e, seq1_l, seq1_t, seq1_o, part1_e, slice1_v, slice1_l, e_C, e_Seq, e_Set, e_Ret, e_Drop, e_IfS, e_If, e_Tst, e_Not, e_And, e_Or, e_AndV, e_OrV, e_NotV, e_Bin, e_Un, e_Isi, e_Var, e_Arg, e_ArgO, argO1_t, argO2_t, e_Tup, e_Lst, e_CB, e_Call, e_IxO, e_LenO, e_SetIx, e_Meth, meth1_l, e_For, e_SeqI, e_Rg1, e_Rg2, e_Comp, e_Part, e_NoPart, e_Slice, e_ListScr, wipeS, lst1_nil, gAdd_i, gLt_i, gLe_i, gGt_i, gGe_i, gEq_i, gLen_l, gLen_t, decide_true, decide_false, if_true, if_false, Bool.false_eq_true, Bool.not_true, Bool.not_false, kName_e, mYes_e, asg1_v, asg1_l, onx_some, kTup_2, kTup_3, kTup_4, kCons_e, kNil_e, e_AsgT, e_Enum, enum1_l, enum1_t, e_Zip, zip1_l, zip1_t, pk_e, pk1_v, pk1_l, bo_e, ol1_e, e_BinOL, e_BinOR, e_BinOO, d_val, d_lst, e_IsiO, isiO1_e, gIsi_ll, gIsi_tt, gIsi_ii, gIsi_ib, gIsi_bb, lk_e, lk1_v, lk1_l, e_ForO, forO1_e, e_CompO, compO1_e, id_eq, e_Chain, cb1_0, gMax2_e, gMin2_e, gInt1_b, gInt1_i, gSub_i, gIsB_e, gNotB_e, gNeg_e, gTupC, e_RetO, retO1_v, retO1_l, retO1_K])

def lenI (f : List Nat) (w : List (List Nat)) (o : List Nat) : Nat → Int
  | 0 => (way f w o 0 : Nat)
  | k + 1 => lenI f w o k + (way f w o (k + 1) : Nat)
theorem lenI_sum (f : List Nat) (w : List (List Nat)) (o : List Nat) : ∀ m, ((way f w o 0 : Nat) : Int) + ((List.range m).map fun i => ((way f w o (i + 1) : Nat) : Int)).sum = lenI f w o m
  | 0 => by simp [lenI]
  | m + 1 => by
    rw [List.range_succ, List.map_append, List.sum_append, ← Int.add_assoc, lenI_sum f w o m]
    simp [lenI]
theorem rgD_1 {n : Nat} (h : 0 < n) : rgD 1 (n : Nat) = (List.range (n - 1)).map fun i : Nat => PyData.int ((i + 1 : Nat) : Int) := by
  unfold rgD
  rw [show ((n : Int) - 1).toNat = n - 1 by omega]
  refine List.map_congr_left fun i _ => ?_
  rw [Int.add_comm]; rfl
section
variable {n : Nat} {f : List Nat} {w : List (List Nat)} {o : List Nat}
theorem way_ix (g : Grd n f w) (ho : o.Perm (List.range n)) {i : Nat} (hi : i + 1 < n) :
    gIx (ordD o) (.int (i : Nat)) = some (.val (.int (o.getD i 0 : Nat))) ∧ gIx (tabD w) (.int (o.getD i 0 : Nat)) = some (.val (ordD (w.getD (o.getD i 0) []))) ∧ gIx (ordD o) (.int ((i + 1 : Nat) : Int)) = some (.val (.int (o.getD (i + 1) 0 : Nat))) ∧
    gIx (ordD (w.getD (o.getD i 0) [])) (.int (o.getD (i + 1) 0 : Nat)) = some (.val (.int (way f w o (i + 1) : Nat))) := by
  have hol : o.length = n := by rw [ho.length_eq, List.length_range]
  have hp := perm_lt ho (show i < n by omega)
  have hs := perm_lt ho hi
  refine ⟨gxo (by omega), gxt (by rw [g.wl]; exact hp), gxo (by omega), ?_⟩
  rw [gxo (by rw [(row_at g hp).1]; exact hs)]; unfold way; rw [if_neg (by omega)]; rfl
theorem way_0 (g : Grd n f w) (ho : o.Perm (List.range n)) (h0 : 0 < n) : gIx (ordD o) (.int 0) = some (.val (.int (o.getD 0 0 : Nat))) ∧ gIx (ordD f) (.int (o.getD 0 0 : Nat)) = some (.val (.int (way f w o 0 : Nat))) := by
  have hol : o.length = n := by rw [ho.length_eq, List.length_range]
  refine ⟨gxo (k := 0) (by omega), ?_⟩
  rw [gxo (by rw [g.fl]; exact perm_lt ho h0)]; unfold way; rw [if_pos rfl]
theorem length_ok (g : Grd n f w) (ho : o.Perm (List.range n)) (h0 : 0 < n) (hn : n ≤ 8) : m_length [.val (grdD f w), .val (ordD o)] = .rt (.val (.int (lenI f w o (n - 1)))) [.und, .und] := by
  have hol : o.length = n := by rw [ho.length_eq, List.length_range]
  have hc := comp_all (vs := [4]) (k := kName 4) (fe := e_length1) (ρ := [.val (grdD f w), .val (ordD o), .val (ordD f), .val (tabD w), .und]) (fun i : Nat => PyData.int ((i + 1 : Nat) : Int)) (fun i => [.val (grdD f w), .val (ordD o), .val (ordD f), .val (tabD w), .val (.int ((i + 1 : Nat) : Int))]) (fun i => .int (way f w o (i + 1) : Nat)) (List.range (n - 1)) (by rw [List.length_range]; omega) (fun i hi => by
    rw [List.mem_range] at hi
    obtain ⟨g1, g2, g3, g4⟩ := way_ix g ho (show i + 1 < n by omega)
    have i1 : ((i + 1 : Nat) : Int) - 1 = ((i : Nat) : Int) := by omega
    refine ⟨rfl, ⟨.val (.int (way f w o (i + 1) : Nat)), ?_, rfl⟩, rfl⟩
    unfold e_length1
    clear hi hol hn
    walk_at "ev")
  obtain ⟨a1, a2⟩ := way_0 g ho h0
  have hg : grdD f w = .tuple [ordD f, tabD w] := rfl
  have hl : gLen [ordD o] = some (.val (.int (n : Nat))) := by rw [ordD, gLen_t, nats_len, hol]
  have hr : ∀ ρ : Fx.Env, rg2 [.val (.int 1), .val (.int (n : Nat))] ρ = .ok ((List.range (n - 1)).map fun i : Nat => PyData.int ((i + 1 : Nat) : Int)) ρ := fun ρ => by
    rw [rg2_e (rgOk_of (by decide) (by decide)) (rgOk_of (by omega) (by omega)), rgD_1 h0]
  have hs : gSum [.list ((List.range (n - 1)).map fun i => PyData.int (way f w o (i + 1) : Nat))] = some (.val (.int ((List.range (n - 1)).map fun i => ((way f w o (i + 1) : Nat) : Int)).sum)) := by
    rw [← gSum_e, List.map_map]; rfl
  have hz := lenI_sum f w o (n - 1)
  refine fn_rt (ρ0 := [.val (grdD f w), .val (ordD o), .und, .und, .und]) (ρ := [.val (grdD f w), .val (ordD o), .val (ordD f), .val (tabD w), .und]) rfl ?_ rfl
  rw [hg] at hc ⊢
  clear g ho h0 hn hol hg
  unfold g_length
  walk_at "ev"
theorem llength_ok (g : Grd n f w) (ho : o.Perm (List.range n)) (h0 : 0 < n) (hn : n ≤ 8) : m_l_length [.val (grdD f w), .val (ordD o)] = .rt (.val (.int (lenI f w o (n - 1)))) [.und, .und] := by
  have hol : o.length = n := by rw [ho.length_eq, List.length_range]
  have x0 : gIx (grdD f w) (.int 0) = some (.val (ordD f)) := gx0
  have x1 : gIx (grdD f w) (.int 1) = some (.val (tabD w)) := gx1
  obtain ⟨ρ', e, x3, x4, h1⟩ := loop_inv (k := kTup 2 (kCons (kName 3) (kCons (kName 4) kNil))) (body := b_l_length1)
    (fun i ρ => ∃ (x3 x4 : Sl), ρ = [.val (grdD f w), .val (ordD o), .val (.int (lenI f w o i)), x3, x4]) (zipD (nats o) ((nats o).drop 1)) 0
    [.val (grdD f w), .val (ordD o), .val (.int (way f w o 0 : Nat)), .und, .und] ⟨_, _, rfl⟩ (by
      rintro j d ρ hd ⟨x3, x4, rfl⟩
      rw [Nat.zero_add]
      unfold zipD at hd
      rw [List.getElem?_zipWith, List.getElem?_drop] at hd
      cases h1 : (nats o)[1 + j]? with
      | none => rw [h1] at hd; cases h2 : (nats o)[j]? <;> rw [h2] at hd <;> cases hd
      | some y =>
        cases h2 : (nats o)[j]? with
        | none => rw [h2] at hd; cases hd
        | some x =>
          rw [h1, h2] at hd
          have hd' : PyData.tuple [x, y] = d := Option.some.inj hd
          subst hd'
          obtain ⟨q1, rfl⟩ := nats_get h2
          obtain ⟨q2, rfl⟩ := nats_get h1
          obtain ⟨g1, g2, g3, g4⟩ := way_ix g ho (show j + 1 < n by omega)
          rw [Nat.add_comm 1 j]
          refine ⟨_, _, rfl, .inl ?_, .val (.int (o.getD j 0 : Nat)), .val (.int (o.getD (j + 1) 0 : Nat)), rfl⟩
          have hz : lenI f w o j + ((way f w o (j + 1) : Nat) : Int) = lenI f w o (j + 1) := rfl
          clear g ho h1 h2 hd q1 q2 hn h0 hol
          unfold b_l_length1
          walk_at "ev")
  have hlz : (zipD (nats o) ((nats o).drop 1)).length = n - 1 := by
    unfold zipD; rw [List.length_zipWith, List.length_drop, nats_len, hol]; omega
  rw [hlz, Nat.zero_add] at h1
  subst h1
  obtain ⟨a1, a2⟩ := way_0 g ho h0
  have hc : gSl (ordD o) (some 1) none = some (.val (.tuple ((nats o).drop 1))) := by
    simp only [ordD, gSl]
    rw [show (1 : Int) = ((1 : Nat) : Int) from rfl, cutL_from]
  have ho' : ordD o = .tuple (nats o) := rfl
  have hz : ∀ ρ, zip1 [.val (ordD o), .val (.tuple ((nats o).drop 1))] ρ = .ok (zipD (nats o) ((nats o).drop 1)) ρ := fun ρ => rfl
  refine fn_rt (ρ0 := [.val (grdD f w), .val (ordD o), .und, .und, .und]) (ρ := [.val (grdD f w), .val (ordD o), .val (.int (lenI f w o (n - 1))), x3, x4]) rfl ?_ rfl
  clear g ho h0 hn hol hlz ho'
  unfold g_l_length
  walk_at "ev"
/-- all as long as the first -/
def fairB (n : Nat) (f : List Nat) (w T : List (List Nat)) : Bool := (T.map fun o => decide (lenI f w o (n - 1) = lenI f w (T.getD 0 []) (n - 1))).all id
theorem fair_ok {T : List (List Nat)} (g : Grd n f w) (hT : Rows n T) (h0 : 0 < n) (hn : n ≤ 8) (t0 : 0 < T.length) (tn : T.length ≤ 1000) : m_is_fair [.val (grdD f w), .val (tabD T)] = .rt (.val (.bool (fairB n f w T))) [.und, .und] := by
  have x0 := gxt (T := T) (a := 0) t0
  have hr0 : (T.getD 0 []).Perm (List.range n) := by rw [getD_at t0]; exact hT _ (List.getElem_mem _)
  have e0 := length_ok g hr0 h0 hn
  have hc := comp_all (vs := [3]) (k := kName 3) (fe := e_is_fair1) (ρ := [.val (grdD f w), .val (tabD T), .val (.int (lenI f w (T.getD 0 []) (n - 1))), .und]) ordD (fun o => [.val (grdD f w), .val (tabD T), .val (.int (lenI f w (T.getD 0 []) (n - 1))), .val (ordD o)]) (fun o => .bool (decide (lenI f w o (n - 1) = lenI f w (T.getD 0 []) (n - 1)))) T (by omega) (fun o ho => by
    have e1 := length_ok g (hT o ho) h0 hn
    refine ⟨rfl, ⟨.val (.bool (decide (lenI f w o (n - 1) = lenI f w (T.getD 0 []) (n - 1)))), ?_, rfl⟩, rfl⟩
    clear ho g hT h0 hn t0 tn x0 hr0 e0
    unfold e_is_fair1
    walk_at "ev")
  have ha : gAll [.list (T.map fun o => PyData.bool (decide (lenI f w o (n - 1) = lenI f w (T.getD 0 []) (n - 1))))] = some (.val (.bool (fairB n f w T))) := by
    have := gAll_e (T.map fun o => decide (lenI f w o (n - 1) = lenI f w (T.getD 0 []) (n - 1)))
    rw [List.map_map] at this
    exact this
  have hs : ∀ ρ, seq1 (.val (tabD T)) ρ = .ok (T.map ordD) ρ := fun ρ => rfl
  have x0' : gIx (tabD T) (.int 0) = some (.val (ordD (T.getD 0 []))) := x0
  refine fn_rt (ρ0 := [.val (grdD f w), .val (tabD T), .und, .und]) (ρ := [.val (grdD f w), .val (tabD T), .val (.int (lenI f w (T.getD 0 []) (n - 1))), .und]) rfl ?_ rfl
  clear g hT h0 hn t0 tn x0 hr0
  unfold g_is_fair
  walk_at "ev"
end
end Law

set_option Elab.async false
set_option linter.all false
set_option maxRecDepth 100000
namespace Law
open PySem PySem.Spec PyProof.Rows L2 Fx
local macro_rules | `(tactic| walk_at "ev") => `(tactic| simp only [*, List.set_cons_zero, List.set_cons_succ, List.getElem?_cons_succ, List.getElem?_cons_zero, bd_ok, st_ok, so_nx, so_rt, so_bk, so_ct, so_bad, tst_b, opR_some, bin2_vv, bin2_vl, bin2_lv, bin2_ll, un1_v, un1_l, varR_val, varR_lst, arg1_v, arg1_l, cb1_1, cb1_2, foR_rt, pb_nil, pb_some, pb_none, ixO1_l, ixO2_e, seq1_l, seq1_t, seq1_o, part1_e, slice1_v, slice1_l, e_C, e_Seq, e_Set, e_Ret, e_Drop, e_IfS, e_If, e_Tst, e_Not, e_And, e_Or, e_AndV, e_OrV, e_NotV, e_Bin, e_Un, e_Isi, e_Var, e_Arg, e_ArgO, argO1_t, argO2_t, e_Tup, e_Lst, e_CB, e_Call, e_IxO, e_LenO, e_SetIx, e_Meth, meth1_l, e_For, e_SeqI, e_Rg1, e_Rg2, e_Comp, e_Part, e_NoPart, e_Slice, e_ListScr, wipeS, lst1_nil, gAdd_i, gLt_i, gLe_i, gGt_i, gGe_i, gEq_i, gLen_l, gLen_t, decide_true, decide_false, if_true, if_false, Bool.false_eq_true, Bool.not_true, Bool.not_false, kName_e, mYes_e, asg1_v, asg1_l, onx_some, kTup_2, kTup_3, kTup_4, kCons_e, kNil_e, e_AsgT, e_Enum, enum1_l, enum1_t, e_Zip, zip1_l, zip1_t, pk_e, pk1_v, pk1_l, bo_e, ol1_e, e_BinOL, e_BinOR, e_BinOO, d_val, d_lst, e_IsiO, isiO1_e, gIsi_ll, gIsi_tt, gIsi_ii, gIsi_ib, gIsi_bb, lk_e, lk1_v, lk1_l, e_ForO, forO1_e, e_CompO, compO1_e, id_eq, e_Chain, cb1_0, gMax2_e, gMin2_e, gInt1_b, gInt1_i, gSub_i, gIsB_e, gNotB_e, gNeg_e, gTupC, e_RetO, retO1_v, retO1_l, retO1_K])
local macro_rules | `(tactic| walk_at "evn") => `(tactic| simp only [*, List.set_cons_zero, List.set_cons_succ, List.getElem?_cons_succ, List.getElem?_cons_zero, bd_ok, st_ok, so_nx, so_rt, so_bk, so_ct, so_bad, tst_b, opR_some, bin2_vv, bin2_vl, bin2_lv, bin2_ll, un1_v, un1_l, varR_val, varR_lst, arg1_v, arg1_l, cb1_1, cb1_2, foR_rt, pb_nil, pb_some, pb_none, ixO1_l, ixO2_e, seq1_l, seq1_t, seq1_o, part1_e, slice1_v, slice1_l, e_C, e_Seq, e_Set, e_Ret, e_Drop, e_If, e_Tst, e_Not, e_And, e_Or, e_AndV, e_OrV, e_NotV, e_Bin, e_Un, e_Isi, e_Var, e_Arg, e_ArgO, argO1_t, argO2_t, e_Tup, e_Lst, e_CB, e_Call, e_IxO, e_LenO, e_SetIx, e_Meth, meth1_l, e_For, e_SeqI, e_Rg1, e_Rg2, e_Comp, e_Part, e_NoPart, e_Slice, e_ListScr, wipeS, lst1_nil, gAdd_i, gLt_i, gLe_i, gGt_i, gGe_i, gEq_i, gLen_l, gLen_t, decide_true, decide_false, if_true, if_false, Bool.false_eq_true, Bool.not_true, Bool.not_false, kName_e, mYes_e, asg1_v, asg1_l, onx_some, kTup_2, kTup_3, kTup_4, kCons_e, kNil_e, e_AsgT, e_Enum, enum1_l, enum1_t, e_Zip, zip1_l, zip1_t, pk_e, pk1_v, pk1_l, bo_e, ol1_e, e_BinOL, e_BinOR, e_BinOO, d_val, d_lst, e_IsiO, isiO1_e, gIsi_ll, gIsi_tt, gIsi_ii, gIsi_ib, gIsi_bb, lk_e, lk1_v, lk1_l, e_ForO, forO1_e, e_CompO, compO1_e, id_eq, e_Chain, cb1_0, gMax2_e, gMin2_e, gInt1_b, gInt1_i, gSub_i, gIsB_e, gNotB_e, gNeg_e, gTupC, e_RetO, retO1_v, retO1_l, retO1_K])

def flatW (n far : Nat) : List (List Nat) := (List.range n).map fun k => (List.range n).map fun j => if k = j then 0 else far
theorem flat_grd {n far a : Nat} (h0 : 1 ≤ far) (h1 : far ≤ 1000) (ha : a ≤ 1000) : Grd n (List.replicate n a) (flatW n far) where
  fl := List.length_replicate
  fb := fun v hv => by rw [(List.mem_replicate.mp hv).2]; exact ha
  wl := by unfold flatW; simp
  rl := fun r hr => by
    unfold flatW at hr
    obtain ⟨k, _, rfl⟩ := List.mem_map.mp hr
    simp
  rb := fun r hr v hv => by
    unfold flatW at hr
    obtain ⟨k, _, rfl⟩ := List.mem_map.mp hr
    obtain ⟨j, _, rfl⟩ := List.mem_map.mp hv
    split <;> omega
  dg := fun k j hk hj => by
    unfold flatW
    rw [getD_at (l := (List.range n).map _) (i := k) (by simp; exact hk)]
    simp only [List.getElem_map, List.getElem_range]
    rw [getD_at (l := (List.range n).map _) (i := j) (by simp; exact hj)]
    simp only [List.getElem_map, List.getElem_range]
    split
    · simp_all
    · constructor
      · intro h; omega
      · intro h; exact absurd h (by assumption)
theorem if_ground {t : Sl} {n : Nat} {f : List Nat} {w : List (List Nat)} (hn : n ≤ 8) (h2 : 2 ≤ n) (g : Grd n f w) (ht : IsTape t) {s x2 x5 x6 x9 x10 x11 x12 : Sl} : ∃ f' w' t' y5 y6, IsTape t' ∧ Grd n f' w' ∧
  (mIfS (mTst (mBin gEq (mCall m_l_draw [some 1, none] (mArgO 1 (mArg (mC (.int 2)) (fun ρ => .ok [] ρ)))) (mC (.int 0))))
 (mSeq (mSet 5 (mBin gAdd (mC (.int 1)) (mCall m_l_draw [some 1, none] (mArgO 1 (mArg (mC (.int 1000)) (fun ρ => .ok [] ρ)))))) (mSeq (mSet 6 (mUn gTupC (mComp [8] (mRg1 (mArg (mVar 3) (fun ρ => .ok [] ρ))) (kName 8) mYes e_law2))) (mSet 4 (mTup (mArg (mBin gMulS (mTup (mArg (mBin gIx (mBin gIx (mVar 4) (mC (.int 0))) (mC (.int 0))) (fun ρ => .ok [] ρ))) (mVar 3)) (mArg (mVar 6) (fun ρ => .ok [] ρ)))))))
 (fun ρ => .nx ρ)) [s, t, x2, .val (.int (n : Nat)), .val (grdD f w), x5, x6, .und, .und, x9, x10, x11, x12] = .nx [s, t', x2, .val (.int (n : Nat)), .val (grdD f' w'), y5, y6, .und, .und, x9, x10, x11, x12] := by
  obtain ⟨q, t1, h1, b1, e1⟩ := drawN (k := 2) 2 rfl ht (by decide) (by decide)
  have k0 := there_tape ht
  by_cases hq : q = 0
  · subst hq
    obtain ⟨p, t3, h3, b3, e3⟩ := drawN (k := 1000) 1000 rfl h1 (by decide) (by decide)
    have k1 := there_tape h1
    have i1 : (1 : Int) + ((p : Nat) : Int) = ((1 + p : Nat) : Int) := by omega
    have d1 : decide (((0 : Nat) : Int) = 0) = true := rfl
    have x0 : gIx (grdD f w) (.int 0) = some (.val (ordD f)) := gx0
    have x1 : gIx (ordD f) (.int 0) = some (.val (.int (f.getD 0 0 : Nat))) := gxo (k := 0) (by rw [g.fl]; omega)
    have hr : ∀ ρ : Fx.Env, rg1 [.val (.int (n : Nat))] ρ = .ok (upto n) ρ := fun ρ => by rw [rg1_e (rgOk_of (by omega) (by omega)), Int.toNat_natCast]
    have hc := comp_all (vs := [8]) (k := kName 8) (fe := e_law2) (ρ := [s, t3, x2, .val (.int (n : Nat)), .val (grdD f w), .val (.int ((1 + p : Nat) : Int)), x6, .und, .und, x9, x10, x11, x12]) (fun k : Nat => PyData.int (k : Nat)) (fun k => [s, t3, x2, .val (.int (n : Nat)), .val (grdD f w), .val (.int ((1 + p : Nat) : Int)), x6, .und, .val (.int (k : Nat)), x9, x10, x11, x12]) (fun k => ordD ((List.range n).map fun j => if k = j then 0 else 1 + p)) (List.range n) (by rw [List.length_range]; omega) (fun k hk => by
      refine ⟨rfl, ⟨.val (ordD ((List.range n).map fun j => if k = j then 0 else 1 + p)), ?_, rfl⟩, rfl⟩
      have hc2 := comp_all (vs := [7]) (k := kName 7) (fe := e_law1) (ρ := [s, t3, x2, .val (.int (n : Nat)), .val (grdD f w), .val (.int ((1 + p : Nat) : Int)), x6, .und, .val (.int (k : Nat)), x9, x10, x11, x12]) (fun k : Nat => PyData.int (k : Nat)) (fun j => [s, t3, x2, .val (.int (n : Nat)), .val (grdD f w), .val (.int ((1 + p : Nat) : Int)), x6, .val (.int (j : Nat)), .val (.int (k : Nat)), x9, x10, x11, x12]) (fun j => .int ((if k = j then 0 else 1 + p : Nat) : Int)) (List.range n) (by rw [List.length_range]; omega) (fun j hj => by
        refine ⟨rfl, ⟨.val (.int ((if k = j then 0 else 1 + p : Nat) : Int)), ?_, rfl⟩, rfl⟩
        have gm : gMul (.int ((1 + p : Nat) : Int)) (.int (if (!decide (((k : Nat) : Int) = ((j : Nat) : Int))) then 1 else 0)) = some (.val (.int ((if k = j then 0 else 1 + p : Nat) : Int))) := by
          rw [gMul_e (by omega)]
          by_cases z : k = j
          · simp [z]
          · have z' : ¬ ((k : Nat) : Int) = ((j : Nat) : Int) := by omega
            simp [z, z']
        unfold e_law1
        simp only [e_Bin, e_CB, e_Arg, e_Var, List.getElem?_cons_succ, List.getElem?_cons_zero, varR_val, List.set_cons_zero, List.set_cons_succ, bd_ok, bin2_vv, gNe_i, opR_some, arg1_v, cb1_1, gInt1_b, gm])
      have hs : PyData.tuple ((List.range n).map fun j => PyData.int ((if k = j then 0 else 1 + p : Nat) : Int)) = ordD ((List.range n).map fun j => if k = j then 0 else 1 + p) := by
        unfold ordD nats; rw [List.map_map]; rfl
      have hu : upto n = (List.range n).map fun k : Nat => PyData.int (k : Nat) := rfl
      rw [← hu] at hc2
      clear hu hk b1 b3 hn h2 g i1
      unfold e_law2
      walk_at "ev")
    have hu : upto n = (List.range n).map fun k : Nat => PyData.int (k : Nat) := rfl
    rw [← hu] at hc
    have hs : PyData.tuple ((List.range n).map fun k => ordD ((List.range n).map fun j => if k = j then 0 else 1 + p)) = tabD (flatW n (1 + p)) := by
      unfold tabD flatW; rw [List.map_map]; rfl
    have ht1 := tupN (rs := [.val (.int (f.getD 0 0 : Nat))]) rfl (by simp)
    have gm : gMulS (.tuple [.int (f.getD 0 0 : Nat)]) (.int (n : Nat)) = some (.val (ordD (List.replicate n (f.getD 0 0)))) := by
      simp only [gMulS]
      rw [if_pos (tru_iff.mpr ⟨by simp, by omega, by omega, by simp⟩), Int.toNat_natCast]
      congr 3
      unfold nats
      rw [List.map_replicate]
      have : ∀ m (x : D), (List.replicate m [x]).flatten = List.replicate m x := fun m x => by
        induction m with
        | zero => rfl
        | succ m ih => rw [List.replicate_succ, List.flatten_cons, ih]; rfl
      rw [this]
    have ht2 := tupN (rs := [.val (ordD (List.replicate n (f.getD 0 0))), .val (tabD (flatW n (1 + p)))]) rfl (by simp)
    have hg : PyData.tuple [ordD (List.replicate n (f.getD 0 0)), tabD (flatW n (1 + p))] = grdD (List.replicate n (f.getD 0 0)) (flatW n (1 + p)) := rfl
    refine ⟨List.replicate n (f.getD 0 0), flatW n (1 + p), t3, .val (.int ((1 + p : Nat) : Int)), .val (tabD (flatW n (1 + p))), h3, flat_grd (by omega) (by omega) (getD_le g.fb), ?_⟩
    clear b1 b3 hn h2 g hu ht h1 h3
    walk_at "ev"
  · have d1 : decide (((q : Nat) : Int) = 0) = false := by simp [hq]
    refine ⟨f, w, t1, x5, x6, h1, g, ?_⟩
    clear b1 hn h2 g hq
    walk_at "ev"
theorem turn_ok {s t : Sl} (ht : IsTape t) {x2 x3 x4 x5 x6 x9 x10 x11 x12 : Sl} : ∃ t' y3 y4 y5 y6 y9 y10 y11 y12, IsTape t' ∧ b_law1 [s, t, x2, x3, x4, x5, x6, .und, .und, x9, x10, x11, x12] = .nx [s, t', x2, y3, y4, y5, y6, .und, .und, y9, y10, y11, y12] := by
  obtain ⟨r, t1, h1, b1, e1⟩ := drawN (k := 7) 7 rfl ht (by decide) (by decide)
  obtain ⟨f0, w0, t2, h2, g0, e2⟩ := ground_ok (n := 2 + r) (by omega) h1
  obtain ⟨f, w, t3, y5, y6, h3, g, e3⟩ := if_ground (n := 2 + r) (by omega) (by omega) g0 h2 (s := s) (x2 := x2) (x5 := x5) (x6 := x6) (x9 := x9) (x10 := x10) (x11 := x11) (x12 := x12)
  obtain ⟨q, t4, h4, b4, e4⟩ := drawN (k := 8) 8 rfl h3 (by decide) (by decide)
  obtain ⟨T, t5, h5, hTl, hT, e5⟩ := a_table_ok (n := 2 + r) (m := 1 + q) h4 (by omega) (by omega) (by omega) (by omega)
  have k0 := there_tape ht
  have k1 := there_tape h1
  have k3 := there_tape h3
  have k4 := there_tape h4
  have i1 : (2 : Int) + ((r : Nat) : Int) = ((2 + r : Nat) : Int) := by omega
  have i2 : (1 : Int) + ((q : Nat) : Int) = ((1 + q : Nat) : Int) := by omega
  have t0 : 0 < T.length := by omega
  have x0 : gIx (tabD T) (.int 0) = some (.val (ordD (T.getD 0 []))) := gxt (T := T) (a := 0) t0
  have hr0 : (T.getD 0 []).Perm (List.range (2 + r)) := by rw [getD_at t0]; exact hT _ (List.getElem_mem _)
  have e6 := length_ok g hr0 (by omega) (by omega)
  have e7 := fair_ok g hT (by omega) (by omega) t0 (by omega)
  have hT1 : Rows (2 + r) (T.take 1) := rows_sub hT fun x hx => List.mem_of_mem_take hx
  have e8 := fair_ok g hT1 (by omega) (by omega) (by rw [List.length_take]; omega) (by rw [List.length_take]; omega)
  have hf1 : fairB (2 + r) f w (T.take 1) = true := by
    cases T with
    | nil => simp at t0
    | cons o T => simp [fairB]
  rw [hf1] at e8
  have hcut : gSl (tabD T) none (some 1) = some (.val (tabD (T.take 1))) := by
    simp only [tabD, gSl]
    rw [show (1 : Int) = ((1 : Nat) : Int) from rfl, cutL_to (by rw [List.length_map]; omega), List.map_take]
  have hs : ∀ ρ, seq1 (.val (tabD T)) ρ = .ok (T.map ordD) ρ := fun ρ => rfl
  have hdue : ∀ z, compM [11] (kName 11) mYes e_law3 (T.map ordD) [] [s, t5, x2, .val (.int ((2 + r : Nat) : Int)), .val (grdD f w), y5, y6, .und, .und, .val (tabD T), z, .und, x12] = .ok (.lst ((T.map fun o => lenI f w o (2 + r - 1)).map .int)) [s, t5, x2, .val (.int ((2 + r : Nat) : Int)), .val (grdD f w), y5, y6, .und, .und, .val (tabD T), z, .und, x12] := fun z => by
    rw [List.map_map]
    refine comp_all (vs := [11]) (k := kName 11) (fe := e_law3) ordD (fun o => [s, t5, x2, .val (.int ((2 + r : Nat) : Int)), .val (grdD f w), y5, y6, .und, .und, .val (tabD T), z, .val (ordD o), x12]) (fun o => .int (lenI f w o (2 + r - 1))) T (by omega) (fun o ho => ?_)
    have e9 := llength_ok g (hT o ho) (by omega) (by omega)
    refine ⟨rfl, ⟨.val (.int (lenI f w o (2 + r - 1))), ?_, rfl⟩, rfl⟩
    clear e1 e2 e3 e4 e5 e6 e7 e8 ho g hT hT1 hf1 hr0
    unfold e_law3
    walk_at "ev"
  have hdue2 : ∀ z, compM [11] (kName 11) mYes e_law4 (T.map ordD) [] [s, t5, x2, .val (.int ((2 + r : Nat) : Int)), .val (grdD f w), y5, y6, .und, .und, .val (tabD T), z, .und, x12] = .ok (.lst ((T.map fun o => lenI f w o (2 + r - 1)).map .int)) [s, t5, x2, .val (.int ((2 + r : Nat) : Int)), .val (grdD f w), y5, y6, .und, .und, .val (tabD T), z, .und, x12] := fun z => by
    rw [List.map_map]
    refine comp_all (vs := [11]) (k := kName 11) (fe := e_law4) ordD (fun o => [s, t5, x2, .val (.int ((2 + r : Nat) : Int)), .val (grdD f w), y5, y6, .und, .und, .val (tabD T), z, .val (ordD o), x12]) (fun o => .int (lenI f w o (2 + r - 1))) T (by omega) (fun o ho => ?_)
    have e9 := length_ok g (hT o ho) (by omega) (by omega)
    refine ⟨rfl, ⟨.val (.int (lenI f w o (2 + r - 1))), ?_, rfl⟩, rfl⟩
    clear e1 e2 e3 e4 e5 e6 e7 e8 ho g hT hT1 hf1 hr0 hdue
    unfold e_law4
    walk_at "ev"
  have gl := gLenSet_e (ns := T.map fun o => lenI f w o (2 + r - 1)) (by rw [List.length_map]; omega)
  have gn := gNe_self (pl_ints (T.map fun o => lenI f w o (2 + r - 1)))
  have hw : m_l_whole [.val (.int (lenI f w (T.getD 0 []) (2 + r - 1)))] = .rt (.val (.bool true)) [.und] := by
    refine fn_rt (ρ0 := [.val (.int (lenI f w (T.getD 0 []) (2 + r - 1)))]) (ρ := [.val (.int (lenI f w (T.getD 0 []) (2 + r - 1)))]) rfl ?_ rfl
    clear e1 e2 e3 e4 e5 e6 e7 e8 hdue hdue2
    unfold g_l_whole
    walk_at "ev"
  have hb : (fairB (2 + r) f w T) = decide (((setLen (T.map fun o => lenI f w o (2 + r - 1)) : Nat) : Int) = 1) := by
    cases T with
    | nil => simp at t0
    | cons o T =>
      rw [Bool.eq_iff_iff, decide_eq_true_iff]
      have q := setLen_one (x := lenI f w o (2 + r - 1)) (l := T.map fun o => lenI f w o (2 + r - 1))
      have q2 : ((setLen ((o :: T).map fun o => lenI f w o (2 + r - 1)) : Nat) : Int) = 1 ↔ setLen ((o :: T).map fun o => lenI f w o (2 + r - 1)) = 1 := by omega
      rw [q2, List.map_cons, q]
      simp [fairB]
  have gb : gNe (.bool (fairB (2 + r) f w T)) (.bool (decide (((setLen (T.map fun o => lenI f w o (2 + r - 1)) : Nat) : Int) = 1))) = some (.val (.bool false)) := by
    rw [← hb]; exact gNe_self (pl_bool _)
  refine ⟨t5, .val (.int ((2 + r : Nat) : Int)), .val (grdD f w), y5, y6, .val (tabD T), .val (.list ((T.map fun o => lenI f w o (2 + r - 1)).map .int)), .und, .val (.bool (fairB (2 + r) f w T)), h5, ?_⟩
  clear b1 g0 g b4 hTl hT t0 hr0 hT1 hf1 hb ht h1 h2 h3 h4 h5
  unfold b_law1
  walk_at "evn"
  clear e3
  walk_at "ev"
theorem law_true (ns : List Int) : ∃ ps, m_law [.scr ns] = .rt (.val (.bool true)) ps := by
  have t0 : IsTape (.lst [.list (ns.map .int), .int 0, .int 0]) := ⟨ns, 0, 0, by omega, by omega, rfl⟩
  obtain ⟨ρ', e, t, y2, y3, y4, y5, y6, y9, y10, y11, y12, h1, h2⟩ := loop_inv (k := kName 2) (body := b_law1)
    (fun i ρ => ∃ t y2 y3 y4 y5 y6 y9 y10 y11 y12, IsTape t ∧ ρ = [.scr ns, t, y2, y3, y4, y5, y6, .und, .und, y9, y10, y11, y12]) (upto 10) 0 [.scr ns, .lst [.list (ns.map .int), .int 0, .int 0], .und, .und, .und, .und, .und, .und, .und, .und, .und, .und, .und] ⟨_, _, _, _, _, _, _, _, _, _, t0, rfl⟩ (by
      rintro j d ρ hd ⟨t, y2, y3, y4, y5, y6, y9, y10, y11, y12, h1, rfl⟩
      obtain ⟨t', z3, z4, z5, z6, z9, z10, z11, z12, a1, a2⟩ := turn_ok (s := .scr ns) (x2 := .val d) (x3 := y3) (x4 := y4) (x5 := y5) (x6 := y6) (x9 := y9) (x10 := y10) (x11 := y11) (x12 := y12) h1
      exact ⟨_, _, rfl, .inl a2, t', _, _, _, _, _, _, _, _, _, a1, rfl⟩)
  subst h2
  refine ⟨[.und], fn_rt (ρ0 := [.scr ns, .und, .und, .und, .und, .und, .und, .und, .und, .und, .und, .und, .und]) (ρ := [.scr ns, t, y2, y3, y4, y5, y6, .und, .und, y9, y10, y11, y12]) rfl ?_ rfl⟩
  have hr : ∀ ρ : Fx.Env, rg1 [.val (.int 10)] ρ = .ok (upto 10) ρ := fun ρ => rg1_e (rgOk_of (by decide) (by decide))
  have hl : ∀ (d : D) (ρ : Fx.Env), lst1 [.val d, .val (.int 0), .val (.int 0)] ρ = .ok (.lst [d, .int 0, .int 0]) ρ := fun d ρ => lst1_ok rfl (szOk_of (by simp))
  clear t0 h1
  unfold g_law
  walk_at "ev"
end Law

set_option Elab.async false
set_option linter.all false
set_option maxRecDepth 100000
namespace Law
open PySem PySem.Spec PyProof.Rows L2 Fx
/-! ### what the top has written -/
structure Tx (K : Fg) (mg : Str → Option Value) where
  f_length : Addr
  d_length : FuncData
  F_length : Fun K "length" "length" s_length f_length d_length
  b_length : Binds K d_length ["ground", "order"] []
  g_length : mg "length" = some (.ref f_length)
  f_is_fair : Addr
  d_is_fair : FuncData
  F_is_fair : Fun K "is_fair" "is_fair" s_is_fair f_is_fair d_is_fair
  b_is_fair : Binds K d_is_fair ["ground", "table"] []
  g_is_fair : mg "is_fair" = some (.ref f_is_fair)
  f_l_draw : Addr
  d_l_draw : FuncData
  F_l_draw : Fun K "_law_draw" "_law_draw" s_l_draw f_l_draw d_l_draw
  b_l_draw : Binds K d_l_draw ["tape", "many"] []
  g_l_draw : mg "_law_draw" = some (.ref f_l_draw)
  f_l_whole : Addr
  d_l_whole : FuncData
  F_l_whole : Fun K "_law_whole" "_law_whole" s_l_whole f_l_whole d_l_whole
  b_l_whole : Binds K d_l_whole ["item"] []
  g_l_whole : mg "_law_whole" = some (.ref f_l_whole)
  f_l_any_order : Addr
  d_l_any_order : FuncData
  F_l_any_order : Fun K "_law_any_order" "_law_any_order" s_l_any_order f_l_any_order d_l_any_order
  b_l_any_order : Binds K d_l_any_order ["tape", "many"] []
  g_l_any_order : mg "_law_any_order" = some (.ref f_l_any_order)
  f_l_small : Addr
  d_l_small : FuncData
  F_l_small : Fun K "_law_small" "_law_small" s_l_small f_l_small d_l_small
  b_l_small : Binds K d_l_small ["tape"] []
  g_l_small : mg "_law_small" = some (.ref f_l_small)
  f_l_a_ground : Addr
  d_l_a_ground : FuncData
  F_l_a_ground : Fun K "_law_a_ground" "_law_a_ground" s_l_a_ground f_l_a_ground d_l_a_ground
  b_l_a_ground : Binds K d_l_a_ground ["tape", "spots"] []
  g_l_a_ground : mg "_law_a_ground" = some (.ref f_l_a_ground)
  f_l_apart : Addr
  d_l_apart : FuncData
  F_l_apart : Fun K "_law_apart" "_law_apart" s_l_apart f_l_apart d_l_apart
  b_l_apart : Binds K d_l_apart ["tape", "spots", "teams"] []
  g_l_apart : mg "_law_apart" = some (.ref f_l_apart)
  f_l_a_table : Addr
  d_l_a_table : FuncData
  F_l_a_table : Fun K "_law_a_table" "_law_a_table" s_l_a_table f_l_a_table d_l_a_table
  b_l_a_table : Binds K d_l_a_table ["tape", "spots", "teams"] []
  g_l_a_table : mg "_law_a_table" = some (.ref f_l_a_table)
  f_l_length : Addr
  d_l_length : FuncData
  F_l_length : Fun K "_law_length" "_law_length" s_l_length f_l_length d_l_length
  b_l_length : Binds K d_l_length ["ground", "order"] []
  g_l_length : mg "_law_length" = some (.ref f_l_length)
  f_law : Addr
  d_law : FuncData
  F_law : Fun K "law" "law" s_law f_law d_law
  b_law : Binds K d_law ["script"] []
  g_law : mg "law" = some (.ref f_law)
  z_all : mg "all" = none
  z_bool : mg "bool" = none
  z_int : mg "int" = none
  z_isinstance : mg "isinstance" = none
  z_len : mg "len" = none
  z_list : mg "list" = none
  z_max : mg "max" = none
  z_range : mg "range" = none
  z_set : mg "set" = none
  z_sum : mg "sum" = none
  z_tuple : mg "tuple" = none
  z_zip : mg "zip" = none
section
variable {P : Program} {w : World} {K : Fg} {mg : Str → Option Value} {base : Heap}
set_option maxHeartbeats 4000000 in
theorem ok_length (T : Tx K mg) : FnOk P w K mg base CX0 1 T.f_length T.d_length ["ground", "order"] (SpF K mg 2 m_length) :=
 fn_mk T.F_length sc_length rfl rfl (by decide) (by decide) fun cdv A outer s H E hr =>
 (sb_cons (ss_asgT (tv := [2, 3]) (ev_var 0) (tg_tup (tgl_cons (tg_name 2 sc_length.nd) (tgl_cons (tg_name 3 sc_length.nd) tgl_nil))))
 (sb_one (ss_ret (ev_op op_addP opl_add (ev_ix ix_seq opl_ix (ev_var 2) (ev_ix ix_seq opl_ix (ev_var 1) ev_int)) (ev_callB (cr_sum rfl) cl_sum T.z_sum boot_sum (ea_cons (ev_comp (own := [("k", 4)]) (tv := [4]) sc_length.nd (ei_range2 T.z_range (ea_cons ev_int (ea_cons (ev_callB call_len cl_len T.z_len PySem.boot_len (ea_cons (ev_var 1) ea_nil)) ea_nil))) (blkOk_by (N := ["ground", "order", "firsts", "ways", "k"]) (sc := defScope s_length) (by decide +kernel)) (fun _ _ _ _ _ => (tg_name 4 sc_length.nd)) (fun _ _ _ _ _ => ets_nil) (fun _ _ _ _ _ => (ev_ix ix_seq opl_ix (ev_ix ix_seq opl_ix (ev_var 3) (ev_ix ix_seq opl_ix (ev_var 1) (ev_op op_sub opl_I0 (ev_var 4) ev_int))) (ev_ix ix_seq opl_ix (ev_var 1) (ev_var 4))))) ea_nil))))))
set_option maxHeartbeats 4000000 in
theorem ok_is_fair (T : Tx K mg) : FnOk P w K mg base CX0 2 T.f_is_fair T.d_is_fair ["ground", "table"] (SpF K mg 2 m_is_fair) :=
 fn_mk T.F_is_fair sc_is_fair rfl rfl (by decide) (by decide) fun cdv A outer s H E hr =>
 (sb_cons (ss_set 2 (ev_call (ok_length T) (hr.mono (by decide)) mFn_len T.g_length T.F_length.kp T.b_length passN (ea_cons (ev_var 0) (ea_cons (ev_ix ix_seq opl_ix (ev_var 1) ev_int) ea_nil))) sc_is_fair.nd)
 (sb_one (ss_ret (ev_callB (cr_all rfl) cl_all T.z_all boot_all (ea_cons (ev_comp (own := [("order", 3)]) (tv := [3]) sc_is_fair.nd (ei_seq (ev_var 1)) (blkOk_by (N := ["ground", "table", "own", "order"]) (sc := defScope s_is_fair) (by decide +kernel)) (fun _ _ _ _ _ => (tg_name 3 sc_is_fair.nd)) (fun _ _ _ _ _ => ets_nil) (fun _ _ _ _ _ => (ev_cmp (op_eqP hr.units) opl_D2 (ev_call (ok_length T) (hr.mono (by decide)) mFn_len T.g_length T.F_length.kp T.b_length passN (ea_cons (ev_var 0) (ea_cons (ev_var 3) ea_nil))) (ev_var 2) (nomark _)))) ea_nil)))))
set_option maxHeartbeats 4000000 in
theorem ok_l_draw (T : Tx K mg) : FnOk P w K mg base CX0 1 T.f_l_draw T.d_l_draw ["tape", "many"] (SpF K mg 2 m_l_draw) :=
 fn_mk T.F_l_draw sc_l_draw rfl rfl (by decide) (by decide) fun cdv A outer s H E hr =>
 (sb_cons (ss_set 2 ev_int sc_l_draw.nd)
 (sb_cons (ss_if (et_cmp (op_ltP hr.units) opl_D2 (ev_ixO 0 ev_int) (ev_var 1) (nomark _))
 (sb_cons (ss_set 3 ev_int sc_l_draw.nd)
 (sb_cons (ss_if (et_cmp (op_gtP hr.units) opl_D2 (ev_callB call_len cl_len T.z_len PySem.boot_len (ea_cons (ev_ixO 0 ev_int) ea_nil)) ev_int (nomark _))
 (sb_one (ss_set 3 (ev_ix ix_seq opl_ix (ev_ixO 0 ev_int) (ev_op op_mod opl_I (ev_ixO 0 ev_int) (ev_callB call_len cl_len T.z_len PySem.boot_len (ea_cons (ev_ixO 0 ev_int) ea_nil)))) sc_l_draw.nd))
 sb_nil)
 (sb_cons (ss_if (et_bool (ew_or (et_cmp (op_geP hr.units) opl_D2 (ev_ixO 0 ev_int) (ev_callB call_len cl_len T.z_len PySem.boot_len (ea_cons (ev_ixO 0 ev_int) ea_nil)) (nomark _)) (ew_one_or (et_cmp (op_ltP hr.units) opl_D2 (ev_var 3) (ev_op op_pow opl_I ev_int ev_int) (nomark _)))))
 (sb_cons (ss_set 3 (ev_op op_mod opl_I (ev_op op_addP opl_add (ev_var 3) (ev_op op_mulA opl_I ev_int (ev_ixO 0 ev_int))) (ev_var 2)) sc_l_draw.nd)
 (sb_cons (ss_set 3 (ev_op op_mod opl_I (ev_op op_addP opl_add (ev_op op_addP opl_add (ev_op op_mulA opl_I (ev_var 3) (ev_var 3)) (ev_op op_mulA opl_I ev_int (ev_var 3))) ev_int) (ev_var 2)) sc_l_draw.nd)
 (sb_one (ss_set 3 (ev_op op_mod opl_I (ev_op op_addP opl_add (ev_op op_mulA opl_I (ev_var 3) (ev_var 3)) ev_int) (ev_var 2)) sc_l_draw.nd))))
 sb_nil)
 (sb_cons (ss_setIx 0 (ev_op op_addP opl_add (ev_ixO 0 ev_int) ev_int) ev_int)
 (sb_one (ss_setIx 0 (ev_var 3) ev_int))))))
 sb_nil)
 (sb_cons (ss_set 4 (ev_op op_mod opl_I (ev_ixO 0 ev_int) (ev_var 1)) sc_l_draw.nd)
 (sb_cons (ss_setIx 0 (ev_op op_fdivW opl_I (ev_ixO 0 ev_int) (ev_var 1)) ev_int)
 (sb_one (ss_ret (ev_var 4)))))))
set_option maxHeartbeats 4000000 in
theorem ok_l_whole (T : Tx K mg) : FnOk P w K mg base CX0 1 T.f_l_whole T.d_l_whole ["item"] (SpF K mg 1 m_l_whole) :=
 fn_mk T.F_l_whole sc_l_whole rfl rfl (by decide) (by decide) fun cdv A outer s H E hr =>
 (sb_one (ss_ret (ev_and (ev_isi (T := "int") (ev_var 0) T.z_isinstance T.z_int boot_int) (ev_one_bool (ev_not (ev_isi (T := "bool") (ev_var 0) T.z_isinstance T.z_bool boot_bool))))))
set_option maxHeartbeats 4000000 in
theorem ok_l_any_order (T : Tx K mg) : FnOk P w K mg base CX0 2 T.f_l_any_order T.d_l_any_order ["tape", "many"] (SpF K mg 2 m_l_any_order) :=
 fn_mk T.F_l_any_order sc_l_any_order rfl rfl (by decide) (by decide) fun cdv A outer s H E hr =>
 (sb_cons (ss_set 2 (ev_lst ea_nil) sc_l_any_order.nd)
 (sb_cons (ss_for (tv := [3]) PassesOwn.never (ei_range1 T.z_range (ea_cons (ev_var 1) ea_nil)) (tg_name 3 sc_l_any_order.nd)
 (sb_one (ss_expr (ev_meth 2 PySem.F.plainAttrs_list PySem.F.slot_list_insert PySem.F.type_list_insert mt_insert ml_insert (ea_cons (ev_call (ok_l_draw T) (hr.mono (by decide)) mFn_len T.g_l_draw T.F_l_draw.kp T.b_l_draw passN (ea_own 0 (ea_cons (ev_op op_addP opl_add (ev_var 3) ev_int) ea_nil))) (ea_cons (ev_var 3) ea_nil))))))
 (sb_one (ss_ret (ev_tuple T.z_tuple (ev_var 2))))))
set_option maxHeartbeats 4000000 in
theorem ok_l_small (T : Tx K mg) : FnOk P w K mg base CX0 2 T.f_l_small T.d_l_small ["tape"] (SpF K mg 1 m_l_small) :=
 fn_mk T.F_l_small sc_l_small rfl rfl (by decide) (by decide) fun cdv A outer s H E hr =>
 (sb_one (ss_ret (ev_ix ix_seq opl_ix (ev_lst (ea_cons (ev_call (ok_l_draw T) (hr.mono (by decide)) mFn_len T.g_l_draw T.F_l_draw.kp T.b_l_draw passN (ea_own 0 (ea_cons ev_int ea_nil))) (ea_cons (ev_call (ok_l_draw T) (hr.mono (by decide)) mFn_len T.g_l_draw T.F_l_draw.kp T.b_l_draw passN (ea_own 0 (ea_cons ev_int ea_nil))) (ea_cons (ev_call (ok_l_draw T) (hr.mono (by decide)) mFn_len T.g_l_draw T.F_l_draw.kp T.b_l_draw passN (ea_own 0 (ea_cons ev_int ea_nil))) ea_nil)))) (ev_op op_mod opl_I (ev_op op_fdivW opl_I (ev_call (ok_l_draw T) (hr.mono (by decide)) mFn_len T.g_l_draw T.F_l_draw.kp T.b_l_draw passN (ea_own 0 (ea_cons ev_int ea_nil))) ev_int) ev_int))))
set_option maxHeartbeats 4000000 in
theorem ok_l_a_ground (T : Tx K mg) : FnOk P w K mg base CX0 3 T.f_l_a_ground T.d_l_a_ground ["tape", "spots"] (SpF K mg 2 m_l_a_ground) :=
 fn_mk T.F_l_a_ground sc_l_a_ground rfl rfl (by decide) (by decide) fun cdv A outer s H E hr =>
 (sb_cons (ss_set 2 (ev_lst ea_nil) sc_l_a_ground.nd)
 (sb_cons (ss_for (tv := [3]) PassesOwn.never (ei_range1 T.z_range (ea_cons (ev_var 1) ea_nil)) (tg_name 3 sc_l_a_ground.nd)
 (sb_cons (ss_setComp 4 (own := [("there", 5)]) (tv := [5]) sc_l_a_ground.nd (ei_range1 T.z_range (ea_cons (ev_var 1) ea_nil)) (blkOk_by (N := ["tape", "spots", "rows", "here", "row", "there", "spot"]) (sc := defScope s_l_a_ground) (by decide +kernel)) (fun _ _ _ _ _ => (tg_name 5 sc_l_a_ground.nd)) (fun _ _ _ _ _ => ets_nil) (fun _ _ _ _ _ => (ev_callB (call_max2 rfl) cl_max2 T.z_max boot_max (ea_cons ev_int (ea_cons (ev_call (ok_l_small T) (hr.mono (by decide)) mFn_len T.g_l_small T.F_l_small.kp T.b_l_small passN (ea_own 0 ea_nil)) ea_nil)))) (sw_true rfl rfl rfl (by decide +kernel)))
 (sb_cons (ss_setIx 4 ev_int (ev_var 3))
 (sb_one (ss_expr (ev_meth 2 PySem.F.plainAttrs_list PySem.F.slot_list_append PySem.F.type_list_append mt_append ml_append (ea_cons (ev_tuple T.z_tuple (ev_var 4)) ea_nil)))))))
 (sb_one (ss_ret (ev_tup (ea_cons (ev_tuple T.z_tuple (ev_comp (own := [("spot", 6)]) (tv := [6]) sc_l_a_ground.nd (ei_range1 T.z_range (ea_cons (ev_var 1) ea_nil)) (blkOk_by (N := ["tape", "spots", "rows", "here", "row", "there", "spot"]) (sc := defScope s_l_a_ground) (by decide +kernel)) (fun _ _ _ _ _ => (tg_name 6 sc_l_a_ground.nd)) (fun _ _ _ _ _ => ets_nil) (fun _ _ _ _ _ => (ev_call (ok_l_small T) (hr.mono (by decide)) mFn_len T.g_l_small T.F_l_small.kp T.b_l_small passN (ea_own 0 ea_nil))))) (ea_cons (ev_tuple T.z_tuple (ev_var 2)) ea_nil)))))))
set_option maxHeartbeats 4000000 in
theorem ok_l_apart (T : Tx K mg) : FnOk P w K mg base CX0 3 T.f_l_apart T.d_l_apart ["tape", "spots", "teams"] (SpF K mg 3 m_l_apart) :=
 fn_mk T.F_l_apart sc_l_apart rfl rfl (by decide) (by decide) fun cdv A outer s H E hr =>
 (sb_cons (ss_set 3 (ev_call (ok_l_any_order T) (hr.mono (by decide)) mFn_len T.g_l_any_order T.F_l_any_order.kp T.b_l_any_order passN (ea_own 0 (ea_cons (ev_var 1) ea_nil))) sc_l_apart.nd)
 (sb_cons (ss_set 4 (ev_slice (ev_call (ok_l_any_order T) (hr.mono (by decide)) mFn_len T.g_l_any_order T.F_l_any_order.kp T.b_l_any_order passN (ea_own 0 (ea_cons (ev_var 1) ea_nil))) eo_none (eo_some (ev_var 2))) sc_l_apart.nd)
 (sb_one (ss_ret (ev_tuple T.z_tuple (ev_comp (own := [("step", 6)]) (tv := [6]) sc_l_apart.nd (ei_seq (ev_var 4)) (blkOk_by (N := ["tape", "spots", "teams", "own", "steps", "k", "step"]) (sc := defScope s_l_apart) (by decide +kernel)) (fun _ _ _ _ _ => (tg_name 6 sc_l_apart.nd)) (fun _ _ _ _ _ => ets_nil) (fun _ _ _ _ _ => (ev_tuple T.z_tuple (ev_comp (own := [("k", 5)]) (tv := [5]) sc_l_apart.nd (ei_range1 T.z_range (ea_cons (ev_var 1) ea_nil)) (blkOk_by (N := ["tape", "spots", "teams", "own", "steps", "k", "step"])  (by kernel_rfl)) (fun _ _ _ _ _ => (tg_name 5 sc_l_apart.nd)) (fun _ _ _ _ _ => ets_nil) (fun _ _ _ _ _ => (ev_ix ix_seq opl_ix (ev_var 3) (ev_op op_mod opl_I (ev_op op_addP opl_add (ev_var 5) (ev_var 6)) (ev_var 1)))))))))))))
set_option maxHeartbeats 4000000 in
theorem ok_l_a_table (T : Tx K mg) : FnOk P w K mg base CX0 4 T.f_l_a_table T.d_l_a_table ["tape", "spots", "teams"] (SpF K mg 3 m_l_a_table) :=
 fn_mk T.F_l_a_table sc_l_a_table rfl rfl (by decide) (by decide) fun cdv A outer s H E hr =>
 (sb_cons (ss_set 3 (ev_call (ok_l_draw T) (hr.mono (by decide)) mFn_len T.g_l_draw T.F_l_draw.kp T.b_l_draw passN (ea_own 0 (ea_cons ev_int ea_nil))) sc_l_a_table.nd)
 (sb_cons (ss_if (et_bool (ew_or (et_cmp (op_eqP hr.units) opl_D2 (ev_var 3) ev_int (nomark _)) (ew_one_or (et_cmp (op_gtP hr.units) opl_D2 (ev_var 2) (ev_var 1) (nomark _)))))
 (sb_one (ss_ret (ev_tuple T.z_tuple (ev_comp (own := [("team", 4)]) (tv := [4]) sc_l_a_table.nd (ei_range1 T.z_range (ea_cons (ev_var 2) ea_nil)) (blkOk_by (N := ["tape", "spots", "teams", "way", "team", "table", "k"]) (sc := defScope s_l_a_table) (by decide +kernel)) (fun _ _ _ _ _ => (tg_name 4 sc_l_a_table.nd)) (fun _ _ _ _ _ => ets_nil) (fun _ _ _ _ _ => (ev_call (ok_l_any_order T) (hr.mono (by decide)) mFn_len T.g_l_any_order T.F_l_any_order.kp T.b_l_any_order passN (ea_own 0 (ea_cons (ev_var 1) ea_nil))))))))
 sb_nil)
 (sb_cons (ss_set 5 (ev_call (ok_l_apart T) (hr.mono (by decide)) mFn_len T.g_l_apart T.F_l_apart.kp T.b_l_apart passN (ea_own 0 (ea_cons (ev_var 1) (ea_cons (ev_var 2) ea_nil)))) sc_l_a_table.nd)
 (sb_cons (ss_if (et_cmp (op_eqP hr.units) opl_D2 (ev_var 3) ev_int (nomark _))
 (sb_cons (ss_set 6 (ev_call (ok_l_draw T) (hr.mono (by decide)) mFn_len T.g_l_draw T.F_l_draw.kp T.b_l_draw passN (ea_own 0 (ea_cons (ev_var 2) ea_nil))) sc_l_a_table.nd)
 (sb_one (ss_set 5 (ev_op op_addP opl_add (ev_op op_addP opl_add (ev_slice (ev_var 5) eo_none (eo_some (ev_var 6))) (ev_tup (ea_cons (ev_call (ok_l_any_order T) (hr.mono (by decide)) mFn_len T.g_l_any_order T.F_l_any_order.kp T.b_l_any_order passN (ea_own 0 (ea_cons (ev_var 1) ea_nil))) ea_nil))) (ev_slice (ev_var 5) (eo_some (ev_op op_addP opl_add (ev_var 6) ev_int)) eo_none)) sc_l_a_table.nd)))
 sb_nil)
 (sb_one (ss_ret (ev_var 5)))))))
set_option maxHeartbeats 4000000 in
theorem ok_l_length (T : Tx K mg) : FnOk P w K mg base CX0 1 T.f_l_length T.d_l_length ["ground", "order"] (SpF K mg 2 m_l_length) :=
 fn_mk T.F_l_length sc_l_length rfl rfl (by decide) (by decide) fun cdv A outer s H E hr =>
 (sb_cons (ss_set 2 (ev_ix ix_seq opl_ix (ev_ix ix_seq opl_ix (ev_var 0) ev_int) (ev_ix ix_seq opl_ix (ev_var 1) ev_int)) sc_l_length.nd)
 (sb_cons (ss_for (tv := [3, 4]) PassesOwn.never (ei_zip T.z_zip (ea_cons (ev_var 1) (ea_cons (ev_slice (ev_var 1) (eo_some ev_int) eo_none) ea_nil))) (tg_tup (tgl_cons (tg_name 3 sc_l_length.nd) (tgl_cons (tg_name 4 sc_l_length.nd) tgl_nil)))
 (sb_one (ss_set 2 (ev_op op_addP opl_add (ev_var 2) (ev_ix ix_seq opl_ix (ev_ix ix_seq opl_ix (ev_ix ix_seq opl_ix (ev_var 0) ev_int) (ev_var 3)) (ev_var 4))) sc_l_length.nd)))
 (sb_one (ss_ret (ev_var 2)))))
set_option maxHeartbeats 4000000 in
theorem ok_law (T : Tx K mg) : FnOk P w K mg base CX0 5 T.f_law T.d_law ["script"] (SpF K mg 1 m_law) :=
 fn_mk T.F_law sc_law rfl rfl (by decide) (by decide) fun cdv A outer s H E hr =>
 (sb_cons (ss_set 1 (ev_lst (ea_cons (ev_listScr 0 T.z_list) (ea_cons ev_int (ea_cons ev_int ea_nil)))) sc_law.nd)
 (sb_cons (ss_for (tv := [2]) PassesOwn.never (ei_range1 T.z_range (ea_cons ev_int ea_nil)) (tg_name 2 sc_law.nd)
 (sb_cons (ss_set 3 (ev_op op_addP opl_add ev_int (ev_call (ok_l_draw T) (hr.mono (by decide)) mFn_len T.g_l_draw T.F_l_draw.kp T.b_l_draw passN (ea_own 1 (ea_cons ev_int ea_nil)))) sc_law.nd)
 (sb_cons (ss_set 4 (ev_call (ok_l_a_ground T) (hr.mono (by decide)) mFn_len T.g_l_a_ground T.F_l_a_ground.kp T.b_l_a_ground passN (ea_own 1 (ea_cons (ev_var 3) ea_nil))) sc_law.nd)
 (sb_cons (ss_if (et_cmp (op_eqP hr.units) opl_D2 (ev_call (ok_l_draw T) (hr.mono (by decide)) mFn_len T.g_l_draw T.F_l_draw.kp T.b_l_draw passN (ea_own 1 (ea_cons ev_int ea_nil))) ev_int (nomark _))
 (sb_cons (ss_set 5 (ev_op op_addP opl_add ev_int (ev_call (ok_l_draw T) (hr.mono (by decide)) mFn_len T.g_l_draw T.F_l_draw.kp T.b_l_draw passN (ea_own 1 (ea_cons ev_int ea_nil)))) sc_law.nd)
 (sb_cons (ss_set 6 (ev_tuple T.z_tuple (ev_comp (own := [("k", 8)]) (tv := [8]) sc_law.nd (ei_range1 T.z_range (ea_cons (ev_var 3) ea_nil)) (blkOk_by (N := ["script", "tape", "turn", "spots", "ground", "far", "rows", "j", "k", "table", "due", "own", "found"]) (sc := defScope s_law) (by decide +kernel)) (fun _ _ _ _ _ => (tg_name 8 sc_law.nd)) (fun _ _ _ _ _ => ets_nil) (fun _ _ _ _ _ => (ev_tuple T.z_tuple (ev_comp (own := [("j", 7)]) (tv := [7]) sc_law.nd (ei_range1 T.z_range (ea_cons (ev_var 3) ea_nil)) (blkOk_by (N := ["script", "tape", "turn", "spots", "ground", "far", "rows", "j", "k", "table", "due", "own", "found"])  (by kernel_rfl)) (fun _ _ _ _ _ => (tg_name 7 sc_law.nd)) (fun _ _ _ _ _ => ets_nil) (fun _ _ _ _ _ => (ev_op op_mulA opl_I (ev_var 5) (ev_callTy call_int1 cl_int1 T.z_int boot_int (ea_cons (ev_cmp (op_neP hr.units) opl_D2 (ev_var 8) (ev_var 7) (nomark _)) ea_nil))))))))) sc_law.nd)
 (sb_one (ss_set 4 (ev_tup (ea_cons (ev_op op_mulS opl_mulS (ev_tup (ea_cons (ev_ix ix_seq opl_ix (ev_ix ix_seq opl_ix (ev_var 4) ev_int) ev_int) ea_nil)) (ev_var 3)) (ea_cons (ev_var 6) ea_nil))) sc_law.nd))))
 sb_nil)
 (sb_cons (ss_set 9 (ev_call (ok_l_a_table T) (hr.mono (by decide)) mFn_len T.g_l_a_table T.F_l_a_table.kp T.b_l_a_table passN (ea_own 1 (ea_cons (ev_var 3) (ea_cons (ev_op op_addP opl_add ev_int (ev_call (ok_l_draw T) (hr.mono (by decide)) mFn_len T.g_l_draw T.F_l_draw.kp T.b_l_draw passN (ea_own 1 (ea_cons ev_int ea_nil)))) ea_nil)))) sc_law.nd)
 (sb_cons (ss_setComp 10 (own := [("own", 11)]) (tv := [11]) sc_law.nd (ei_seq (ev_var 9)) (blkOk_by (N := ["script", "tape", "turn", "spots", "ground", "far", "rows", "j", "k", "table", "due", "own", "found"]) (sc := defScope s_law) (by decide +kernel)) (fun _ _ _ _ _ => (tg_name 11 sc_law.nd)) (fun _ _ _ _ _ => ets_nil) (fun _ _ _ _ _ => (ev_call (ok_l_length T) (hr.mono (by decide)) mFn_len T.g_l_length T.F_l_length.kp T.b_l_length passN (ea_cons (ev_var 4) (ea_cons (ev_var 11) ea_nil)))) (sw_true rfl rfl rfl (by decide +kernel)))
 (sb_cons (ss_if (et_bool (ew_or (et_cmp (op_neP hr.units) opl_D2 (ev_comp (own := [("own", 11)]) (tv := [11]) sc_law.nd (ei_seq (ev_var 9)) (blkOk_by (N := ["script", "tape", "turn", "spots", "ground", "far", "rows", "j", "k", "table", "due", "own", "found"]) (sc := defScope s_law) (by decide +kernel)) (fun _ _ _ _ _ => (tg_name 11 sc_law.nd)) (fun _ _ _ _ _ => ets_nil) (fun _ _ _ _ _ => (ev_call (ok_length T) (hr.mono (by decide)) mFn_len T.g_length T.F_length.kp T.b_length passN (ea_cons (ev_var 4) (ea_cons (ev_var 11) ea_nil))))) (ev_var 10) (nomark _)) (ew_one_or (et_not (et_val (ev_call (ok_l_whole T) (hr.mono (by decide)) mFn_len T.g_l_whole T.F_l_whole.kp T.b_l_whole passN (ea_cons (ev_call (ok_length T) (hr.mono (by decide)) mFn_len T.g_length T.F_length.kp T.b_length passN (ea_cons (ev_var 4) (ea_cons (ev_ix ix_seq opl_ix (ev_var 9) ev_int) ea_nil))) ea_nil)))))))
 (sb_one (ss_ret ev_bl))
 sb_nil)
 (sb_cons (ss_set 12 (ev_call (ok_is_fair T) (hr.mono (by decide)) mFn_len T.g_is_fair T.F_is_fair.kp T.b_is_fair passN (ea_cons (ev_var 4) (ea_cons (ev_var 9) ea_nil))) sc_law.nd)
 (sb_cons (ss_if (et_bool (ew_or (et_not (et_val (ev_isi (T := "bool") (ev_var 12) T.z_isinstance T.z_bool boot_bool))) (ew_one_or (et_cmp (op_neP hr.units) opl_D2 (ev_var 12) (ev_cmp (op_eqP hr.units) opl_D2 (ev_lenSet T.z_len T.z_set (ev_var 10)) ev_int (nomark _)) (nomark _)))))
 (sb_one (ss_ret ev_bl))
 sb_nil)
 (sb_one (ss_if (et_cmp op_notBl opl_notB (ev_call (ok_is_fair T) (hr.mono (by decide)) mFn_len T.g_is_fair T.F_is_fair.kp T.b_is_fair passN (ea_cons (ev_var 4) (ea_cons (ev_slice (ev_var 9) eo_none (eo_some ev_int)) ea_nil))) ev_bl (nomark _))
 (sb_one (ss_ret ev_bl))
 sb_nil)))))))))))
 (sb_one (ss_ret ev_bl))))
end
def spLaw (K : Fg) : Sp := fun vs H Q _ => ∃ (a : Addr) (ns : List Int), vs = [.ref a] ∧ SqL K H a (ns.map V.int) ∧ ns.length ≤ 63 ∧ ∀ H', Q (.bl true) H'
def LawSays : Prop := ∀ ns : List Int, ns.length ≤ 63 → ∃ ps, m_law [.scr ns] = .rt (.val (.bool true)) ps
theorem law_keeps {P : Program} {w : World} {K : Fg} {mg : Str → Option Value} {base : Heap} (T : Tx K mg) (h : LawSays) : FnOk P w K mg base CX0 5 T.f_law T.d_law ["script"] (spLaw K) := by
  refine (ok_law T).imp fun vs H Q E ⟨a, ns, e, hs, hl, q⟩ => ?_
  subst e
  obtain ⟨ps, hp⟩ := h ns hl
  refine ⟨rfl, H, [.scr ns], [], rfl, Same.refl _, .cons (fp := []) (.scr hs) .nil, .nil, fun a h => (by simp at h), ?_⟩
  rw [hp]
  intro v F' H' _ w'
  cases w'.val
  exact q H'
theorem tx_mk {P : Program} {w : World} {K : Fg} {h : Heap} {mg : Str → Option Value} {fa : Addr} (X : K.In h) (G : h.Ns mainGlobals mg) (hfa : mg "law" = some (.ref fa))
    {f0 : Addr} {od0 an0 : Option Addr} {sl0 : Array (Option Value)} {oc0 kV0 dc0 pm0 cd0 ct0 : Value}
    (a0 : PySem.W.nsIn K mainGlobals "length" = some (some (.ref f0))) (l0 : K.lookup f0 = some ⟨oc0, od0, .func (PySem.W.fnOf "length" "length" (defArgs s_length) (defBody s_length) (defScope s_length) .none kV0 dc0 pm0 an0 cd0 ct0), sl0⟩) (c0 : PySem.W.codeIn K cd0 "length" = true) (k0 : PySem.W.keepIn K (.ref f0) = true)
    {f1 : Addr} {od1 an1 : Option Addr} {sl1 : Array (Option Value)} {oc1 kV1 dc1 pm1 cd1 ct1 : Value}
    (a1 : PySem.W.nsIn K mainGlobals "is_fair" = some (some (.ref f1))) (l1 : K.lookup f1 = some ⟨oc1, od1, .func (PySem.W.fnOf "is_fair" "is_fair" (defArgs s_is_fair) (defBody s_is_fair) (defScope s_is_fair) .none kV1 dc1 pm1 an1 cd1 ct1), sl1⟩) (c1 : PySem.W.codeIn K cd1 "is_fair" = true) (k1 : PySem.W.keepIn K (.ref f1) = true)
    {f2 : Addr} {od2 an2 : Option Addr} {sl2 : Array (Option Value)} {oc2 kV2 dc2 pm2 cd2 ct2 : Value}
    (a2 : PySem.W.nsIn K mainGlobals "_law_draw" = some (some (.ref f2))) (l2 : K.lookup f2 = some ⟨oc2, od2, .func (PySem.W.fnOf "_law_draw" "_law_draw" (defArgs s_l_draw) (defBody s_l_draw) (defScope s_l_draw) .none kV2 dc2 pm2 an2 cd2 ct2), sl2⟩) (c2 : PySem.W.codeIn K cd2 "_law_draw" = true) (k2 : PySem.W.keepIn K (.ref f2) = true)
    {f3 : Addr} {od3 an3 : Option Addr} {sl3 : Array (Option Value)} {oc3 kV3 dc3 pm3 cd3 ct3 : Value}
    (a3 : PySem.W.nsIn K mainGlobals "_law_whole" = some (some (.ref f3))) (l3 : K.lookup f3 = some ⟨oc3, od3, .func (PySem.W.fnOf "_law_whole" "_law_whole" (defArgs s_l_whole) (defBody s_l_whole) (defScope s_l_whole) .none kV3 dc3 pm3 an3 cd3 ct3), sl3⟩) (c3 : PySem.W.codeIn K cd3 "_law_whole" = true) (k3 : PySem.W.keepIn K (.ref f3) = true)
    {f4 : Addr} {od4 an4 : Option Addr} {sl4 : Array (Option Value)} {oc4 kV4 dc4 pm4 cd4 ct4 : Value}
    (a4 : PySem.W.nsIn K mainGlobals "_law_any_order" = some (some (.ref f4))) (l4 : K.lookup f4 = some ⟨oc4, od4, .func (PySem.W.fnOf "_law_any_order" "_law_any_order" (defArgs s_l_any_order) (defBody s_l_any_order) (defScope s_l_any_order) .none kV4 dc4 pm4 an4 cd4 ct4), sl4⟩) (c4 : PySem.W.codeIn K cd4 "_law_any_order" = true) (k4 : PySem.W.keepIn K (.ref f4) = true)
    {f5 : Addr} {od5 an5 : Option Addr} {sl5 : Array (Option Value)} {oc5 kV5 dc5 pm5 cd5 ct5 : Value}
    (a5 : PySem.W.nsIn K mainGlobals "_law_small" = some (some (.ref f5))) (l5 : K.lookup f5 = some ⟨oc5, od5, .func (PySem.W.fnOf "_law_small" "_law_small" (defArgs s_l_small) (defBody s_l_small) (defScope s_l_small) .none kV5 dc5 pm5 an5 cd5 ct5), sl5⟩) (c5 : PySem.W.codeIn K cd5 "_law_small" = true) (k5 : PySem.W.keepIn K (.ref f5) = true)
    {f6 : Addr} {od6 an6 : Option Addr} {sl6 : Array (Option Value)} {oc6 kV6 dc6 pm6 cd6 ct6 : Value}
    (a6 : PySem.W.nsIn K mainGlobals "_law_a_ground" = some (some (.ref f6))) (l6 : K.lookup f6 = some ⟨oc6, od6, .func (PySem.W.fnOf "_law_a_ground" "_law_a_ground" (defArgs s_l_a_ground) (defBody s_l_a_ground) (defScope s_l_a_ground) .none kV6 dc6 pm6 an6 cd6 ct6), sl6⟩) (c6 : PySem.W.codeIn K cd6 "_law_a_ground" = true) (k6 : PySem.W.keepIn K (.ref f6) = true)
    {f7 : Addr} {od7 an7 : Option Addr} {sl7 : Array (Option Value)} {oc7 kV7 dc7 pm7 cd7 ct7 : Value}
    (a7 : PySem.W.nsIn K mainGlobals "_law_apart" = some (some (.ref f7))) (l7 : K.lookup f7 = some ⟨oc7, od7, .func (PySem.W.fnOf "_law_apart" "_law_apart" (defArgs s_l_apart) (defBody s_l_apart) (defScope s_l_apart) .none kV7 dc7 pm7 an7 cd7 ct7), sl7⟩) (c7 : PySem.W.codeIn K cd7 "_law_apart" = true) (k7 : PySem.W.keepIn K (.ref f7) = true)
    {f8 : Addr} {od8 an8 : Option Addr} {sl8 : Array (Option Value)} {oc8 kV8 dc8 pm8 cd8 ct8 : Value}
    (a8 : PySem.W.nsIn K mainGlobals "_law_a_table" = some (some (.ref f8))) (l8 : K.lookup f8 = some ⟨oc8, od8, .func (PySem.W.fnOf "_law_a_table" "_law_a_table" (defArgs s_l_a_table) (defBody s_l_a_table) (defScope s_l_a_table) .none kV8 dc8 pm8 an8 cd8 ct8), sl8⟩) (c8 : PySem.W.codeIn K cd8 "_law_a_table" = true) (k8 : PySem.W.keepIn K (.ref f8) = true)
    {f9 : Addr} {od9 an9 : Option Addr} {sl9 : Array (Option Value)} {oc9 kV9 dc9 pm9 cd9 ct9 : Value}
    (a9 : PySem.W.nsIn K mainGlobals "_law_length" = some (some (.ref f9))) (l9 : K.lookup f9 = some ⟨oc9, od9, .func (PySem.W.fnOf "_law_length" "_law_length" (defArgs s_l_length) (defBody s_l_length) (defScope s_l_length) .none kV9 dc9 pm9 an9 cd9 ct9), sl9⟩) (c9 : PySem.W.codeIn K cd9 "_law_length" = true) (k9 : PySem.W.keepIn K (.ref f9) = true)
    {f10 : Addr} {od10 an10 : Option Addr} {sl10 : Array (Option Value)} {oc10 kV10 dc10 pm10 cd10 ct10 : Value}
    (a10 : PySem.W.nsIn K mainGlobals "law" = some (some (.ref f10))) (l10 : K.lookup f10 = some ⟨oc10, od10, .func (PySem.W.fnOf "law" "law" (defArgs s_law) (defBody s_law) (defScope s_law) .none kV10 dc10 pm10 an10 cd10 ct10), sl10⟩) (c10 : PySem.W.codeIn K cd10 "law" = true) (k10 : PySem.W.keepIn K (.ref f10) = true)
    (z_all : PySem.W.nsIn K mainGlobals "all" = some none)
    (z_bool : PySem.W.nsIn K mainGlobals "bool" = some none)
    (z_int : PySem.W.nsIn K mainGlobals "int" = some none)
    (z_isinstance : PySem.W.nsIn K mainGlobals "isinstance" = some none)
    (z_len : PySem.W.nsIn K mainGlobals "len" = some none)
    (z_list : PySem.W.nsIn K mainGlobals "list" = some none)
    (z_max : PySem.W.nsIn K mainGlobals "max" = some none)
    (z_range : PySem.W.nsIn K mainGlobals "range" = some none)
    (z_set : PySem.W.nsIn K mainGlobals "set" = some none)
    (z_sum : PySem.W.nsIn K mainGlobals "sum" = some none)
    (z_tuple : PySem.W.nsIn K mainGlobals "tuple" = some none)
    (z_zip : PySem.W.nsIn K mainGlobals "zip" = some none)
    (says : LawSays) : ∃ fd : FuncData, (∀ (s : Shared) (v : Value), BindsTo s fd ⟨[v], []⟩ [("script", v)]) ∧ ∀ base : Heap, K.In base → base.Ns mainGlobals mg → FnOk P w K mg base CX0 5 fa fd ["script"] (spLaw K) := by
  have e : fa = f10 := by
    have e := hfa.symm.trans (PySem.W.mg_of X G a10)
    cases e
    rfl
  have F0 := fun_mk (st := s_length) l0 c0 k0
  have F1 := fun_mk (st := s_is_fair) l1 c1 k1
  have F2 := fun_mk (st := s_l_draw) l2 c2 k2
  have F3 := fun_mk (st := s_l_whole) l3 c3 k3
  have F4 := fun_mk (st := s_l_any_order) l4 c4 k4
  have F5 := fun_mk (st := s_l_small) l5 c5 k5
  have F6 := fun_mk (st := s_l_a_ground) l6 c6 k6
  have F7 := fun_mk (st := s_l_apart) l7 c7 k7
  have F8 := fun_mk (st := s_l_a_table) l8 c8 k8
  have F9 := fun_mk (st := s_l_length) l9 c9 k9
  have F10 := fun_mk (st := s_law) l10 c10 k10
  have T : ∃ T : Tx K mg, T.f_law = fa ∧ (∀ (s : Shared) (v : Value), BindsTo s T.d_law ⟨[v], []⟩ [("script", v)]) := ⟨⟨f0, _, F0, F0.binds (ps := ["ground", "order"]) fun _ _ _ _ _ _ us hl => (match us, hl with | [_, _], _ => rfl), PySem.W.mg_of X G a0,
    f1, _, F1, F1.binds (ps := ["ground", "table"]) fun _ _ _ _ _ _ us hl => (match us, hl with | [_, _], _ => rfl), PySem.W.mg_of X G a1,
    f2, _, F2, F2.binds (ps := ["tape", "many"]) fun _ _ _ _ _ _ us hl => (match us, hl with | [_, _], _ => rfl), PySem.W.mg_of X G a2,
    f3, _, F3, F3.binds (ps := ["item"]) fun _ _ _ _ _ _ us hl => (match us, hl with | [_], _ => rfl), PySem.W.mg_of X G a3,
    f4, _, F4, F4.binds (ps := ["tape", "many"]) fun _ _ _ _ _ _ us hl => (match us, hl with | [_, _], _ => rfl), PySem.W.mg_of X G a4,
    f5, _, F5, F5.binds (ps := ["tape"]) fun _ _ _ _ _ _ us hl => (match us, hl with | [_], _ => rfl), PySem.W.mg_of X G a5,
    f6, _, F6, F6.binds (ps := ["tape", "spots"]) fun _ _ _ _ _ _ us hl => (match us, hl with | [_, _], _ => rfl), PySem.W.mg_of X G a6,
    f7, _, F7, F7.binds (ps := ["tape", "spots", "teams"]) fun _ _ _ _ _ _ us hl => (match us, hl with | [_, _, _], _ => rfl), PySem.W.mg_of X G a7,
    f8, _, F8, F8.binds (ps := ["tape", "spots", "teams"]) fun _ _ _ _ _ _ us hl => (match us, hl with | [_, _, _], _ => rfl), PySem.W.mg_of X G a8,
    f9, _, F9, F9.binds (ps := ["ground", "order"]) fun _ _ _ _ _ _ us hl => (match us, hl with | [_, _], _ => rfl), PySem.W.mg_of X G a9,
    f10, _, F10, F10.binds (ps := ["script"]) fun _ _ _ _ _ _ us hl => (match us, hl with | [_], _ => rfl), PySem.W.mg_of X G a10,
    PySem.W.mg_none_of X G z_all,
    PySem.W.mg_none_of X G z_bool,
    PySem.W.mg_none_of X G z_int,
    PySem.W.mg_none_of X G z_isinstance,
    PySem.W.mg_none_of X G z_len,
    PySem.W.mg_none_of X G z_list,
    PySem.W.mg_none_of X G z_max,
    PySem.W.mg_none_of X G z_range,
    PySem.W.mg_none_of X G z_set,
    PySem.W.mg_none_of X G z_sum,
    PySem.W.mg_none_of X G z_tuple,
    PySem.W.mg_none_of X G z_zip⟩, e.symm, fun s v => .of_eq rfl⟩
  obtain ⟨T, e, hb⟩ := T
  subst e
  exact ⟨T.d_law, hb, fun base _ _ => law_keeps T says⟩
theorem law_says : LawSays := fun ns _ => law_true ns
end Law

open PySem PySem.W PyProof.Rows
set_option maxHeartbeats 0 in
theorem PySem.Challenge.cw_hinthunt_k08_lengths_holds : PySem.Challenge.rw_hinthunt_k08_lengths.Holds := by
  w_on; o_law; k_head; (case hw => w_witness2)
  k_fill
  refine L2.walk_of (l := PySem.Challenge.rw_hinthunt_k08_lengths) (n := 63) (k := 5) (x := "script") (CX := fun _ => L2.CX0) (sp := fun w => Law.spLaw _) rfl (by decide) rfl ⟨rfl, by decide, by decide⟩ (fun w h Y => PySem.W.kIn_of Y) ?F (fun _ _ a ns hl _ hS => ⟨a, ns, rfl, hS, hl, fun _ => rfl⟩) (fun _ _ _ _ _ h => h)
  case F =>
    intro w mg fa h KX G hmg
    refine' Law.tx_mk KX G hmg ?a0 ?l0 ?c0 ?k0 ?a1 ?l1 ?c1 ?k1 ?a2 ?l2 ?c2 ?k2 ?a3 ?l3 ?c3 ?k3 ?a4 ?l4 ?c4 ?k4 ?a5 ?l5 ?c5 ?k5 ?a6 ?l6 ?c6 ?k6 ?a7 ?l7 ?c7 ?k7 ?a8 ?l8 ?c8 ?k8 ?a9 ?l9 ?c9 ?k9 ?a10 ?l10 ?c10 ?k10 ?z_all ?z_bool ?z_int ?z_isinstance ?z_len ?z_list ?z_max ?z_range ?z_set ?z_sum ?z_tuple ?z_zip Law.law_says
    (case a0 => k_is); (case l0 => k_is); (case c0 => k_is); (case k0 => k_is); (case a1 => k_is); (case l1 => k_is); (case c1 => k_is); (case k1 => k_is); (case a2 => k_is); (case l2 => k_is); (case c2 => k_is); (case k2 => k_is); (case a3 => k_is); (case l3 => k_is); (case c3 => k_is); (case k3 => k_is); (case a4 => k_is); (case l4 => k_is); (case c4 => k_is); (case k4 => k_is); (case a5 => k_is); (case l5 => k_is); (case c5 => k_is); (case k5 => k_is); (case a6 => k_is); (case l6 => k_is); (case c6 => k_is); (case k6 => k_is); (case a7 => k_is); (case l7 => k_is); (case c7 => k_is); (case k7 => k_is); (case a8 => k_is); (case l8 => k_is); (case c8 => k_is); (case k8 => k_is); (case a9 => k_is); (case l9 => k_is); (case c9 => k_is); (case k9 => k_is); (case a10 => k_is); (case l10 => k_is); (case c10 => k_is); (case k10 => k_is); (case z_all => k_is); (case z_bool => k_is); (case z_int => k_is); (case z_isinstance => k_is); (case z_len => k_is); (case z_list => k_is); (case z_max => k_is); (case z_range => k_is); (case z_set => k_is); (case z_sum => k_is); (case z_tuple => k_is); (case z_zip => k_is)
