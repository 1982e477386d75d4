import PyProof.Rows.All
import Wide.All
import OpenK.AllK
import Wide.FinOn
import HandS.ForMost
import HandS.Wide
import HandS.TupAny
import HandS.Deep
import HandS.Conv
import HandS.IsInst
import KE.SortData
import KE.DataEq
import KE.DataCmp
import KE.DataMinMax
import HandS.More
import HandS.TupMul
import HandS.Style
import KE.GoesEnum
import HandS.Iter
import HandS.Zip
import HandS.TupLe
import HandS.Dict
import HandS.Defaults
import KE.GoesZip
import KE.GoesMore
import PyProof.ListRange
import KE.SortCalls
import HandS.SetFor
import HandS.Strs
import PySem.Challenge.RW_hinthunt_k03_first_orders_beside
set_option Elab.async false
set_option linter.all false
set_option maxRecDepth 100000
namespace Fx
open PySem L2
abbrev D := PyData
abbrev Fg := PySem.W.Frag

def kD : Key → D
  | .inl i => .int i
  | .inr x => .str x

mutual
inductive Rp (K : Fg) (F : Hp) : V → D → Prop
  | non : Rp K F .non .none
  | bl (b : Bool) : Rp K F (.bl b) (.bool b)
  | int (i : Int) : Rp K F (.int i) (.int i)
  | str (x : Str) : Rp K F (.str x) (.str x)
  | lst {a : Addr} {xs : List V} {ds : List D} : F a = some (.lst xs) → RpL K F xs ds → Rp K F (.ref a) (.list ds)
  | tup {a : Addr} {xs : List V} {ds : List D} : F a = some (.tup xs) → RpL K F xs ds → Rp K F (.ref a) (.tuple ds)
  | dK {a : Addr} {xs : List (Key × V)} {ds : List (Key × D)} : Rd F a (.dK xs) → RpK K F xs ds → Rp K F (.ref a) (.dict (ds.map fun p => (kD p.1, p.2)))
inductive RpL (K : Fg) (F : Hp) : List V → List D → Prop
  | nil : RpL K F [] []
  | cons {v : V} {vs : List V} {d : D} {ds : List D} : Rp K F v d → RpL K F vs ds → RpL K F (v :: vs) (d :: ds)
inductive RpK (K : Fg) (F : Hp) : List (Key × V) → List (Key × D) → Prop
  | nil : RpK K F [] []
  | cons {k : Key} {v : V} {vs : List (Key × V)} {d : D} {ds : List (Key × D)} : Rp K F v d → RpK K F vs ds → RpK K F ((k, v) :: vs) ((k, d) :: ds)
end
/-- a dict with tuple keys -/
inductive RpT (K : Fg) (F : Hp) : List (List Key × V) → List (List Key × D) → Prop
  | nil : RpT K F [] []
  | cons {k : List Key} {v : V} {vs : List (List Key × V)} {d : D} {ds : List (List Key × D)} : Rp K F v d → RpT K F vs ds → RpT K F ((k, v) :: vs) ((k, d) :: ds)

theorem Same.rd {F F' : Hp} {a : Addr} {u : HO} (e : Same F F') (h : Rd F a u) : Rd F' a u := by
  rcases h with h | ⟨o, h⟩
  · exact .inl (e _ _ h)
  · exact .inr ⟨o, e _ _ h⟩
theorem Same.sqt {K : Fg} {F F' : Hp} {a : Addr} {xs : List V} (e : Same F F') (h : SqT K F a xs) : SqT K F' a xs := by
  rcases h with h | h
  · exact .inl (Same.rd e h)
  · exact .inr h
theorem Same.tq {K : Fg} {F F' : Hp} {a : Addr} {xs : List V} (e : Same F F') (h : F a = some (.tup xs)) : SqT K F' a xs := SqT.of (e _ _ h)
section
variable {K : Fg} {F F' : Hp}
mutual
theorem Rp.mono (e : Same F F') : ∀ {v : V} {d : D}, Rp K F v d → Rp K F' v d
  | _, _, .non => .non
  | _, _, .bl b => .bl b
  | _, _, .int i => .int i
  | _, _, .str x => .str x
  | _, _, .lst h t => .lst (e _ _ h) (RpL.mono e t)
  | _, _, .tup h t => .tup (e _ _ h) (RpL.mono e t)
  | _, _, .dK h t => .dK (Same.rd e h) (RpK.mono e t)
theorem RpL.mono (e : Same F F') : ∀ {vs : List V} {ds : List D}, RpL K F vs ds → RpL K F' vs ds
  | _, _, .nil => .nil
  | _, _, .cons h t => .cons (Rp.mono e h) (RpL.mono e t)
theorem RpK.mono (e : Same F F') : ∀ {vs : List (Key × V)} {ds : List (Key × D)}, RpK K F vs ds → RpK K F' vs ds
  | _, _, .nil => .nil
  | _, _, .cons h t => .cons (Rp.mono e h) (RpK.mono e t)
end
theorem RpT.mono (e : Same F F') : ∀ {vs : List (List Key × V)} {ds : List (List Key × D)}, RpT K F vs ds → RpT K F' vs ds
  | _, _, .nil => .nil
  | _, _, .cons h t => .cons (h.mono e) (RpT.mono e t)
theorem RpL.length : ∀ {vs : List V} {ds : List D}, RpL K F vs ds → vs.length = ds.length
  | _, _, .nil => rfl
  | _, _, .cons _ t => congrArg (· + 1) (RpL.length t)
theorem RpL.get : ∀ {vs : List V} {ds : List D} {i : Nat} {d : D}, RpL K F vs ds → ds[i]? = some d → ∃ v, vs[i]? = some v ∧ Rp K F v d
  | _, _, _, _, .nil, e => by simp at e
  | _, _, 0, _, .cons h _, e => by simp at e; subst e; exact ⟨_, rfl, h⟩
  | _, _, i + 1, d, .cons _ t, e => by
    obtain ⟨v, a, b⟩ := RpL.get (i := i) (d := d) t (by simpa using e)
    exact ⟨v, by simpa using a, b⟩
theorem RpL.app : ∀ {vs ws : List V} {ds es : List D}, RpL K F vs ds → RpL K F ws es → RpL K F (vs ++ ws) (ds ++ es)
  | _, _, _, _, .nil, s => s
  | _, _, _, _, .cons h t, s => .cons h (RpL.app t s)
theorem RpL.set {v : V} {d : D} (h : Rp K F v d) : ∀ {vs : List V} {ds : List D} (i : Nat), RpL K F vs ds → RpL K F (vs.set i v) (ds.set i d)
  | _, _, _, .nil => .nil
  | _, _, 0, .cons _ t => .cons h t
  | _, _, i + 1, .cons q t => .cons q (RpL.set h i t)
theorem RpL.take : ∀ {vs : List V} {ds : List D} (n : Nat), RpL K F vs ds → RpL K F (vs.take n) (ds.take n)
  | _, _, 0, _ => .nil
  | _, _, _ + 1, .nil => .nil
  | _, _, n + 1, .cons h t => .cons h (RpL.take n t)
theorem RpL.drop : ∀ {vs : List V} {ds : List D} (n : Nat), RpL K F vs ds → RpL K F (vs.drop n) (ds.drop n)
  | _, _, 0, h => h
  | _, _, _ + 1, .nil => .nil
  | _, _, n + 1, .cons _ t => RpL.drop n t
theorem RpL.reverse : ∀ {vs : List V} {ds : List D}, RpL K F vs ds → RpL K F vs.reverse ds.reverse
  | _, _, .nil => .nil
  | _, _, .cons h t => by
    rw [List.reverse_cons, List.reverse_cons]
    exact RpL.app (RpL.reverse t) (.cons h .nil)
/-! data without dicts, in the layer's own words -/
mutual
theorem Rp.dp (e : Same F F') : ∀ {d : D} {v : V}, d.canLay0 = true → Rp K F v d → Dp K F' v d
  | .none, _, _, h => by cases h; exact .non
  | .bool _, _, _, h => by cases h; exact .bl _
  | .int _, _, _, h => by cases h; exact .int _
  | .str _, _, _, h => by cases h; exact .str _
  | .list ds, _, c, h => by
    cases h with
    | lst h t => exact .lst (SqL.of (e _ _ h)) (RpL.dp e (by simpa [PyData.canLay0] using c) t)
  | .tuple ds, _, c, h => by
    cases h with
    | tup h t => exact .tup (Same.tq e h) (RpL.dp e (by simpa [PyData.canLay0] using c) t)
  | .dict _, _, c, _ => by simp [PyData.canLay0] at c
theorem RpL.dp (e : Same F F') : ∀ {ds : List D} {vs : List V}, PyData.canLayAll0 ds = true → RpL K F vs ds → DpAll K F' vs ds
  | [], _, _, h => by cases h; exact .nil
  | d :: ds, _, c, h => by
    have c' : d.canLay0 = true ∧ PyData.canLayAll0 ds = true := by simpa [PyData.canLayAll0] using c
    cases h with
    | cons h t => exact .cons (Rp.dp e c'.1 h) (RpL.dp e c'.2 t)
end
end

/-! ### slots -/
inductive Sl where
  | und
  | val (d : D)
  | lst (ds : List D)
  | dK (es : List (Key × D))
  | dT (es : List (List Key × D))
  | scr (ns : List Int)
  | obj (c : Str) (fs : List (Str × Sl))
abbrev Env := List Sl
abbrev Sv := Option V × Sl

mutual
inductive SlR (K : Fg) (mg : Str → Option Value) (F H : Hp) : Option V → Sl → List Addr → Prop
  | und {o : Option V} : SlR K mg F H o .und []
  | val {v : V} {d : D} : Rp K F v d → SlR K mg F H (some v) (.val d) []
  | lst {p : Addr} {vs : List V} {ds : List D} : H p = some (.lst vs) → RpL K F vs ds → SlR K mg F H (some (.ref p)) (.lst ds) [p]
  | dK {p : Addr} {vs : List (Key × V)} {ds : List (Key × D)} : H p = some (.dK vs) → RpK K F vs ds → SlR K mg F H (some (.ref p)) (.dK ds) [p]
  | dT {p : Addr} {vs : List (List Key × V)} {ds : List (List Key × D)} : H p = some (.dT vs) → RpT K F vs ds → SlR K mg F H (some (.ref p)) (.dT ds) [p]
  | scr {a : Addr} {ns : List Int} : SqL K F a (ns.map V.int) → SlR K mg F H (some (.ref a)) (.scr ns) []
  | obj {a C dx : Addr} {c : Str} {fvs : List (Str × V)} {fs : List (Str × Sl)} {fps : List Addr} : H a = some (.ins C dx fvs) → mg c = some (.ref C) → SlRF K mg F H fvs fs fps → SlR K mg F H (some (.ref a)) (.obj c fs) (a :: fps)
inductive SlRF (K : Fg) (mg : Str → Option Value) (F H : Hp) : List (Str × V) → List (Str × Sl) → List Addr → Prop
  | nil : SlRF K mg F H [] [] []
  | cons {f : Str} {v : V} {s : Sl} {r : List (Str × V)} {rs : List (Str × Sl)} {fp fps : List Addr} : SlR K mg F H (some v) s fp → SlRF K mg F H r rs fps → SlRF K mg F H ((f, v) :: r) ((f, s) :: rs) (fp ++ fps)
end
inductive SlRs (K : Fg) (mg : Str → Option Value) (F H : Hp) : List Sv → List Addr → Prop
  | nil : SlRs K mg F H [] []
  | cons {o : Option V} {s : Sl} {l : List Sv} {fp fps : List Addr} : SlR K mg F H o s fp → SlRs K mg F H l fps → SlRs K mg F H ((o, s) :: l) (fp ++ fps)

section
variable {K : Fg} {mg : Str → Option Value} {F F' H H' : Hp}
mutual
theorem SlR.keep (e : Same F F') : ∀ {o : Option V} {s : Sl} {fp : List Addr}, SlR K mg F H o s fp → (∀ a ∈ fp, ∀ x, H a = some x → H' a = some x) → SlR K mg F' H' o s fp
  | _, _, _, .und, _ => .und
  | _, _, _, .val h, _ => .val (h.mono e)
  | _, _, _, .lst h t, k => .lst (k _ (by simp) _ h) (t.mono e)
  | _, _, _, .dK h t, k => .dK (k _ (by simp) _ h) (t.mono e)
  | _, _, _, .dT h t, k => .dT (k _ (by simp) _ h) (t.mono e)
  | _, _, _, .scr h, _ => .scr (Same.seq e h)
  | _, _, _, .obj h c t, k => .obj (k _ (by simp) _ h) c (SlRF.keep e t fun a ha => k a (List.mem_cons_of_mem _ ha))
theorem SlRF.keep (e : Same F F') : ∀ {vs : List (Str × V)} {ss : List (Str × Sl)} {fp : List Addr}, SlRF K mg F H vs ss fp → (∀ a ∈ fp, ∀ x, H a = some x → H' a = some x) → SlRF K mg F' H' vs ss fp
  | _, _, _, .nil, _ => .nil
  | _, _, _, .cons h t, k => .cons (SlR.keep e h fun a ha => k a (List.mem_append_left _ ha)) (SlRF.keep e t fun a ha => k a (List.mem_append_right _ ha))
end
mutual
theorem SlR.nt : ∀ {o : Option V} {s : Sl} {fp : List Addr}, SlR K mg F H o s fp → ∀ a ∈ fp, ∀ xs, H a ≠ some (.tup xs)
  | _, _, _, .und, a, h, _ => by cases h
  | _, _, _, .val _, a, h, _ => by cases h
  | _, _, _, .lst e _, a, h, _ => by
    have : a = _ := List.mem_singleton.mp h
    subst this
    rw [e]; exact fun z => nomatch z
  | _, _, _, .dK e _, a, h, _ => by
    have : a = _ := List.mem_singleton.mp h
    subst this
    rw [e]; exact fun z => nomatch z
  | _, _, _, .dT e _, a, h, _ => by
    have : a = _ := List.mem_singleton.mp h
    subst this
    rw [e]; exact fun z => nomatch z
  | _, _, _, .scr _, a, h, _ => by cases h
  | _, _, _, .obj e _ t, a, h, xs => by
    rcases List.mem_cons.mp h with q | q
    · subst q
      rw [e]; exact fun z => nomatch z
    · exact SlRF.nt t a q xs
theorem SlRF.nt : ∀ {vs : List (Str × V)} {ss : List (Str × Sl)} {fp : List Addr}, SlRF K mg F H vs ss fp → ∀ a ∈ fp, ∀ xs, H a ≠ some (.tup xs)
  | _, _, _, .nil, a, h, _ => by cases h
  | _, _, _, .cons q t, a, h, xs => by
    rcases List.mem_append.mp h with z | z
    · exact SlR.nt q a z xs
    · exact SlRF.nt t a z xs
end
theorem SlRs.nt : ∀ {l : List Sv} {fp : List Addr}, SlRs K mg F H l fp → ∀ a ∈ fp, ∀ xs, H a ≠ some (.tup xs)
  | _, _, .nil, a, h, _ => by cases h
  | _, _, .cons q t, a, h, xs => by
    rcases List.mem_append.mp h with z | z
    · exact q.nt a z xs
    · exact SlRs.nt t a z xs
theorem SlRs.keep (e : Same F F') : ∀ {l : List Sv} {fp : List Addr}, SlRs K mg F H l fp → (∀ a ∈ fp, ∀ x, H a = some x → H' a = some x) → SlRs K mg F' H' l fp
  | _, _, .nil, _ => .nil
  | _, _, .cons h t, k => .cons (h.keep e fun a ha => k a (List.mem_append_left _ ha)) (SlRs.keep e t fun a ha => k a (List.mem_append_right _ ha))
theorem SlRs.app : ∀ {l m : List Sv} {fp fq : List Addr}, SlRs K mg F H l fp → SlRs K mg F H m fq → SlRs K mg F H (l ++ m) (fp ++ fq)
  | _, _, _, _, .nil, t => t
  | _, _, _, _, .cons h s, t => by
    rw [List.append_assoc]
    exact .cons h (SlRs.app s t)
theorem SlRs.split : ∀ {l m : List Sv} {fp : List Addr}, SlRs K mg F H (l ++ m) fp → ∃ f1 f2, fp = f1 ++ f2 ∧ SlRs K mg F H l f1 ∧ SlRs K mg F H m f2
  | [], _, fp, h => ⟨[], fp, rfl, .nil, h⟩
  | (o, s) :: l, m, _, h => by
    cases h with
    | cons h t =>
      obtain ⟨f1, f2, rfl, a, b⟩ := SlRs.split (l := l) t
      exact ⟨_, f2, (List.append_assoc _ _ _).symm, .cons h a, b⟩
theorem SlRs.perm {l m : List Sv} (p : List.Perm l m) : ∀ {fp : List Addr}, SlRs K mg F H l fp → ∃ fq, SlRs K mg F H m fq ∧ List.Perm fp fq := by
  induction p with
  | nil => intro fp h; exact ⟨fp, h, .refl _⟩
  | cons x _ ih =>
    intro fp h
    cases h with
    | cons h t =>
      obtain ⟨fq, a, b⟩ := ih t
      exact ⟨_, .cons h a, b.append_left _⟩
  | swap x y l =>
    intro fp h
    cases h with
    | cons h t =>
      cases t with
      | cons h2 t2 =>
        refine ⟨_, .cons h2 (.cons h t2), ?_⟩
        rw [← List.append_assoc, ← List.append_assoc]
        exact List.perm_append_comm.append_right _
  | trans _ _ ih1 ih2 =>
    intro fp h
    obtain ⟨f1, a1, b1⟩ := ih1 h
    obtain ⟨f2, a2, b2⟩ := ih2 a1
    exact ⟨f2, a2, b1.trans b2⟩
end

section
variable {K : Fg} {mg : Str → Option Value} {F H : Hp}
mutual
theorem SlR.det : ∀ {o : Option V} {s : Sl} {fp fq : List Addr}, SlR K mg F H o s fp → SlR K mg F H o s fq → fp = fq
  | _, _, _, _, .und, .und => rfl
  | _, _, _, _, .val _, .val _ => rfl
  | _, _, _, _, .lst _ _, .lst _ _ => rfl
  | _, _, _, _, .dK _ _, .dK _ _ => rfl
  | _, _, _, _, .dT _ _, .dT _ _ => rfl
  | _, _, _, _, .scr _, .scr _ => rfl
  | _, _, _, _, .obj h _ t, .obj h' _ t' => by
    rw [h] at h'
    injection h' with h'
    injection h' with _ _ e
    subst e
    rw [SlRF.det t t']
theorem SlRF.det : ∀ {vs : List (Str × V)} {ss : List (Str × Sl)} {fp fq : List Addr}, SlRF K mg F H vs ss fp → SlRF K mg F H vs ss fq → fp = fq
  | _, _, _, _, .nil, .nil => rfl
  | _, _, _, _, .cons a b, .cons c d => by rw [SlR.det a c, SlRF.det b d]
end
end

/-! ### the world -/
structure Bs where
  F0 : Hp
  H0 : Hp
  fp0 : List Addr
/-- nothing that is data but a tuple -/
def NT (F : Hp) (a : Addr) : Prop := ∀ u, F a = some u → ∃ xs, u = .tup xs
theorem NT.of {F : Hp} {a : Addr} (h : F a = none) : NT F a := fun u e => by rw [h] at e; cases e
structure W (K : Fg) (mg : Str → Option Value) (B : Bs) (l : List Sv) (F H : Hp) : Prop where
  fh : Same F H
  f0 : Same B.F0 F
  nw : ∀ a, B.H0 a ≠ none → B.F0 a = none → a ∉ B.fp0 → NT F a
  fr : ∀ a x, B.H0 a = some x → a ∉ B.fp0 → H a = some x
  gr : ∀ a, B.H0 a ≠ none → H a ≠ none
  sl : ∃ fp, SlRs K mg F H l fp ∧ fp.Nodup ∧ ∀ a ∈ fp, F a = none ∧ H a ≠ none ∧ (a ∈ B.fp0 ∨ B.H0 a = none)
section
variable {K : Fg} {mg : Str → Option Value} {B : Bs} {l m : List Sv} {F F' H H' : Hp}
theorem W.perm (w : W K mg B l F H) (p : List.Perm l m) : W K mg B m F H := by
  obtain ⟨fp, a, b, c⟩ := w.sl
  obtain ⟨fq, a', q⟩ := a.perm p
  exact ⟨w.fh, w.f0, w.nw, w.fr, w.gr, fq, a', q.nodup_iff.mp b, fun x hx => c x (q.mem_iff.mpr hx)⟩
/-- what is known of some slots, and what they may become -/
theorem W.frame (w : W K mg B (l ++ m) F H) : ∃ fp, SlRs K mg F H l fp ∧ fp.Nodup ∧ (∀ a ∈ fp, F a = none ∧ H a ≠ none) ∧
    ∀ {l' : List Sv} {F' H' : Hp}, W K mg ⟨F, H, fp⟩ l' F' H' → W K mg B (l' ++ m) F' H' := by
  obtain ⟨fp, a, b, c⟩ := w.sl
  obtain ⟨f1, f2, rfl, h1, h2⟩ := a.split
  have nd := List.nodup_append.mp b
  refine ⟨f1, h1, nd.1, fun x hx => ⟨(c x (List.mem_append_left _ hx)).1, (c x (List.mem_append_left _ hx)).2.1⟩, fun {l' F' H'} w' => ?_⟩
  obtain ⟨fq, a', b', c'⟩ := w'.sl
  have out : ∀ x ∈ f2, x ∉ f1 := fun x h2 h1 => nd.2.2 x h1 x h2 rfl
  have k2 : ∀ x ∈ f2, ∀ o, H x = some o → H' x = some o := fun x hx o e => w'.fr x o e (out x hx)
  refine ⟨w'.fh, w.f0.trans w'.f0, fun x hx hf hn => ?_, fun x o e hn => ?_, fun x hx => w'.gr x (w.gr x hx), fq ++ f2, a'.app (h2.keep w'.f0 k2), ?_, fun x hx => ?_⟩
  · cases e : F x with
    | some u =>
      obtain ⟨xs, rfl⟩ := w.nw x hx hf hn u e
      exact fun y e2 => by
        rw [w'.f0 _ _ e] at e2
        cases e2
        exact ⟨xs, rfl⟩
    | none =>
      refine w'.nw x (w.gr x hx) e fun z => ?_
      rcases (c x (List.mem_append_left _ z)).2.2 with q | q
      · exact hn q
      · exact hx q
  · refine w'.fr x o (w.fr x o e hn) fun z => ?_
    rcases (c x (List.mem_append_left _ z)).2.2 with q | q
    · exact hn q
    · rw [q] at e; cases e
  · refine List.nodup_append.mpr ⟨b', nd.2.1, fun x h1 y h2 => ?_⟩
    rintro rfl
    rcases (c' x h1).2.2 with q | q
    · exact out x h2 q
    · exact (c x (List.mem_append_right _ h2)).2.1 q
  · rcases List.mem_append.mp hx with h | h
    · obtain ⟨q1, q2, q3⟩ := c' x h
      refine ⟨q1, q2, ?_⟩
      rcases q3 with q | q
      · exact (c x (List.mem_append_left _ q)).2.2
      · right
        cases e : B.H0 x with
        | none => rfl
        | some o => exact absurd q (w.gr x (by rw [e]; simp))
    · obtain ⟨q1, q2, q3⟩ := c x (List.mem_append_right _ h)
      refine ⟨?_, w'.gr x q2, q3⟩
      cases e : F' x with
      | none => rfl
      | some u =>
        obtain ⟨xs, rfl⟩ := w'.nw x q2 q1 (out x h) u e
        cases e2 : H x with
        | none => exact absurd e2 q2
        | some o =>
          have := k2 x h o e2
          rw [w'.fh _ _ e] at this
          cases this
          exact absurd e2 (h2.nt x h xs)
theorem W.drop (w : W K mg B (l ++ m) F H) : W K mg B m F H := by
  obtain ⟨fp, _, _, _, k⟩ := w.frame
  exact k (l' := []) ⟨w.fh, Same.refl _, fun _ _ h _ => NT.of h, fun _ _ h _ => h, fun _ h => h, [], .nil, .nil, fun _ h => by simp at h⟩
/-- a tuple that stands becomes data -/
theorem W.tupIn {b : Addr} {vs : List V} (w : W K mg B l F H) (h : H b = some (.tup vs)) : ∃ F', W K mg B l F' H ∧ Same F F' ∧ F' b = some (.tup vs) := by
  cases e : F b with
  | some u =>
    have := w.fh _ _ e
    rw [h] at this
    cases this
    exact ⟨F, w, Same.refl _, e⟩
  | none =>
    have sf : Same F (upd F b (.tup vs)) := fun x u q => by rw [upd_ne (fun z => by rw [z, e] at q; cases q)]; exact q
    obtain ⟨fp, a1, a2, a3⟩ := w.sl
    refine ⟨upd F b (.tup vs), ⟨fun x u q => ?_, w.f0.trans sf, fun x hx h0 hn u q => ?_, w.fr, w.gr, fp, a1.keep sf fun _ _ _ q => q, a2, fun x hx => ?_⟩, sf, upd_same⟩
    · by_cases z : x = b
      · subst z; rw [upd_same] at q; cases q; exact h
      · rw [upd_ne z] at q; exact w.fh _ _ q
    · by_cases z : x = b
      · subst z; rw [upd_same] at q; cases q; exact ⟨_, rfl⟩
      · rw [upd_ne z] at q; exact w.nw x hx h0 hn u q
    · obtain ⟨q1, q2, q3⟩ := a3 x hx
      have z : x ≠ b := fun z => a1.nt x hx vs (z ▸ h)
      exact ⟨by rw [upd_ne z]; exact q1, q2, q3⟩
theorem W.tail {o : Sv} (w : W K mg B (o :: m) F H) : W K mg B m F H := W.drop (l := [o]) w
/-- the start -/
theorem W.start {fp : List Addr} (fh : Same F H) (h : SlRs K mg F H l fp) (nd : fp.Nodup) (hn : ∀ a ∈ fp, F a = none ∧ H a ≠ none) : W K mg ⟨F, H, fp⟩ l F H :=
  ⟨fh, Same.refl _, fun _ _ h _ => .of h, fun _ _ h _ => h, fun _ h => h, fp, h, nd, fun a ha => ⟨(hn a ha).1, (hn a ha).2, .inl ha⟩⟩
theorem W.val {v : V} {d : D} (w : W K mg B ((some v, .val d) :: m) F H) : Rp K F v d := by
  obtain ⟨fp, a, _⟩ := w.sl
  cases a with
  | cons h _ => cases h with | val h => exact h
theorem W.valO {o : Option V} {d : D} (w : W K mg B ((o, .val d) :: m) F H) : ∃ v, o = some v ∧ Rp K F v d := by
  obtain ⟨fp, a, _⟩ := w.sl
  cases a with
  | cons h _ => cases h with | val h => exact ⟨_, rfl, h⟩
/-- one more slot that holds data -/
theorem W.more {v : V} {d : D} (w : W K mg B m F H) (r : Rp K F v d) : W K mg B ((some v, .val d) :: m) F H := by
  obtain ⟨fp, a, b, c⟩ := w.sl
  exact ⟨w.fh, w.f0, w.nw, w.fr, w.gr, fp, .cons (fp := []) (.val r) a, b, c⟩
theorem W.und {o : Option V} (w : W K mg B m F H) : W K mg B ((o, .und) :: m) F H := by
  obtain ⟨fp, a, b, c⟩ := w.sl
  exact ⟨w.fh, w.f0, w.nw, w.fr, w.gr, fp, .cons (fp := []) .und a, b, c⟩
/-- an object is laid and frozen -/
theorem W.lay {p : Addr} {o : HO} (w : W K mg B m F H) (hp : H p = none) : W K mg B m (upd F p o) (upd H p o) := by
  have fp : F p = none := Same.free w.fh hp
  obtain ⟨fps, _, _, _, k⟩ := W.frame (l := []) w
  obtain ⟨fq, a, b, c⟩ := w.sl
  have ne : ∀ x, H x ≠ none → x ≠ p := fun x hx e => hx (e ▸ hp)
  have sf : Same F (upd F p o) := fun x u e => by rw [upd_ne (ne x (by rw [w.fh _ _ e]; simp))]; exact e
  have sh : Same H (upd H p o) := fun x u e => by rw [upd_ne (ne x (by rw [e]; simp))]; exact e
  refine ⟨fun x u e => ?_, w.f0.trans sf, fun x hx h0 hn => ?_, fun x u e hn => sh _ _ (w.fr x u e hn), fun x hx => ?_, fq, a.keep sf fun x _ u e => sh _ _ e, b, fun x hx => ?_⟩
  · by_cases q : x = p
    · subst q; rw [upd_same] at e ⊢; exact e
    · rw [upd_ne q] at e ⊢; exact w.fh _ _ e
  · exact fun u e => w.nw x hx h0 hn u (by rw [upd_ne (ne x (w.gr x hx))] at e; exact e)
  · rw [upd_ne (ne x (w.gr x hx))]; exact w.gr x hx
  · obtain ⟨q1, q2, q3⟩ := c x hx
    exact ⟨by rw [upd_ne (ne x q2)]; exact q1, by rw [upd_ne (ne x q2)]; exact q2, q3⟩
/-- an object is laid, and a new slot owns it -/
theorem W.own {p : Addr} {o : HO} {s : Sl} (w : W K mg B m F H) (hp : H p = none) (h : SlR K mg F (upd H p o) (some (.ref p)) s [p]) : W K mg B ((some (.ref p), s) :: m) F (upd H p o) := by
  obtain ⟨fq, a, b, c⟩ := w.sl
  have fp : F p = none := Same.free w.fh hp
  have ne : ∀ x, H x ≠ none → x ≠ p := fun x hx e => hx (e ▸ hp)
  have sh : Same H (upd H p o) := fun x u e => by rw [upd_ne (ne x (by rw [e]; simp))]; exact e
  refine ⟨w.fh.trans sh, w.f0, w.nw, fun x u e hn => sh _ _ (w.fr x u e hn), fun x hx => ?_, [p] ++ fq, .cons h (a.keep (Same.refl _) fun x _ u e => sh _ _ e), ?_, fun x hx => ?_⟩
  · rw [upd_ne (ne x (w.gr x hx))]; exact w.gr x hx
  · refine List.nodup_append.mpr ⟨List.nodup_cons.mpr ⟨by simp, .nil⟩, b, fun x h1 y h2 => ?_⟩
    rintro rfl
    have : x = p := by simpa using h1
    exact (c x h2).2.1 (this ▸ hp)
  · rcases List.mem_append.mp hx with h | h
    · have : x = p := by simpa using h
      subst this
      refine ⟨fp, by rw [upd_same]; simp, .inr ?_⟩
      cases e : B.H0 x with
      | none => rfl
      | some o => exact absurd hp (w.gr x (by rw [e]; simp))
    · obtain ⟨q1, q2, q3⟩ := c x h
      exact ⟨q1, by rw [upd_ne (ne x q2)]; exact q2, q3⟩
/-- an owned object is written -/
theorem W.put {p : Addr} {o : HO} {s s' : Sl} {ov : Option V} (w : W K mg B ((ov, s) :: m) F H) (h : SlR K mg F H ov s [p]) (h' : SlR K mg F (upd H p o) ov s' [p]) : W K mg B ((ov, s') :: m) F (upd H p o) := by
  obtain ⟨fp, a, b, c⟩ := w.sl
  cases a with
  | cons q t =>
    rename_i f1 f2
    have hf : f1 = [p] := SlR.det q h
    subst hf
    have nd := List.nodup_append.mp b
    have out : ∀ x ∈ f2, x ≠ p := fun x hx e => nd.2.2 p (by simp) x hx e.symm
    have cp := c p (by simp)
    have gr : ∀ x, H x ≠ none → upd H p o x ≠ none := fun x hx => by
      by_cases q : x = p
      · subst q; rw [upd_same]; simp
      · rw [upd_ne q]; exact hx
    refine ⟨fun x u e => ?_, w.f0, w.nw, fun x u e hn => ?_, fun x hx => gr x (w.gr x hx), [p] ++ f2, .cons h' (t.keep (Same.refl _) fun x hx u e => by rw [upd_ne (out x hx)]; exact e), b, fun x hx => ?_⟩
    · have : x ≠ p := fun z => by rw [z, cp.1] at e; cases e
      rw [upd_ne this]; exact w.fh _ _ e
    · have : x ≠ p := fun z => by
        subst z
        rcases cp.2.2 with q | q
        · exact hn q
        · rw [q] at e; cases e
      rw [upd_ne this]; exact w.fr x u e hn
    · obtain ⟨q1, q2, q3⟩ := c x hx
      exact ⟨q1, gr x q2, q3⟩
theorem W.lst {o : Option V} {ds : List D} (w : W K mg B ((o, .lst ds) :: m) F H) : ∃ p vs, o = some (.ref p) ∧ H p = some (.lst vs) ∧ RpL K F vs ds ∧ F p = none := by
  obtain ⟨fp, a, b, c⟩ := w.sl
  cases a with
  | cons h _ => cases h with | lst h t => exact ⟨_, _, rfl, h, t, (c _ (by simp)).1⟩
theorem W.dK {o : Option V} {ds : List (Key × D)} (w : W K mg B ((o, .dK ds) :: m) F H) : ∃ p vs, o = some (.ref p) ∧ H p = some (.dK vs) ∧ RpK K F vs ds ∧ F p = none := by
  obtain ⟨fp, a, b, c⟩ := w.sl
  cases a with
  | cons h _ => cases h with | dK h t => exact ⟨_, _, rfl, h, t, (c _ (by simp)).1⟩
theorem W.dT {o : Option V} {ds : List (List Key × D)} (w : W K mg B ((o, .dT ds) :: m) F H) : ∃ p vs, o = some (.ref p) ∧ H p = some (.dT vs) ∧ RpT K F vs ds ∧ F p = none := by
  obtain ⟨fp, a, b, c⟩ := w.sl
  cases a with
  | cons h _ => cases h with | dT h t => exact ⟨_, _, rfl, h, t, (c _ (by simp)).1⟩
theorem W.scr {o : Option V} {ns : List Int} (w : W K mg B ((o, .scr ns) :: m) F H) : ∃ p, o = some (.ref p) ∧ SqL K F p (ns.map V.int) := by
  obtain ⟨fp, a, b, c⟩ := w.sl
  cases a with
  | cons h _ => cases h with | scr h => exact ⟨_, rfl, h⟩
/-- an owned object is frozen as it stands -/
theorem W.frz {p : Addr} {o : HO} {s : Sl} {d : D} {ov : Option V} (w : W K mg B ((ov, s) :: m) F H) (h : SlR K mg F H ov s [p]) (hp : H p = some o) (h' : Rp K (upd F p o) (.ref p) d) (hv : ov = some (.ref p)) : W K mg B ((ov, .val d) :: m) (upd F p o) H := by
  obtain ⟨fp, a, b, c⟩ := w.sl
  cases a with
  | cons q t =>
    rename_i f1 f2
    have hf : f1 = [p] := SlR.det q h
    subst hf
    subst hv
    have nd := List.nodup_append.mp b
    have out : ∀ x ∈ f2, x ≠ p := fun x hx e => nd.2.2 p (by simp) x hx e.symm
    have cp := c p (by simp)
    have sf : Same F (upd F p o) := fun x u e => by rw [upd_ne (fun z => by rw [z, cp.1] at e; cases e)]; exact e
    refine ⟨fun x u e => ?_, w.f0.trans sf, fun x hx h0 hn => ?_, w.fr, w.gr, [] ++ f2, .cons (.val h') (t.keep sf fun _ _ _ e => e), nd.2.1, fun x hx => ?_⟩
    · by_cases q : x = p
      · subst q; rw [upd_same] at e; cases e; exact hp
      · rw [upd_ne q] at e; exact w.fh _ _ e
    · have : x ≠ p := fun z => by
        subst z
        rcases cp.2.2 with q | q
        · exact hn q
        · exact hx q
      exact fun u e => w.nw x hx h0 hn u (by rw [upd_ne this] at e; exact e)
    · obtain ⟨q1, q2, q3⟩ := c x (List.mem_append_right _ hx)
      exact ⟨by rw [upd_ne (out x hx)]; exact q1, q2, q3⟩
end

/-- a slot's data, once it is frozen -/
def Sl.d? : Sl → Option D
  | .val d => some d
  | .lst ds => some (.list ds)
  | .dK es => some (.dict (es.map fun p => (kD p.1, p.2)))
  | _ => none
theorem W.freeze {K : Fg} {mg : Str → Option Value} {B : Bs} {m : List Sv} {F H : Hp} {o : Option V} {s : Sl} {d : D} (w : W K mg B ((o, s) :: m) F H) (h : s.d? = some d) : ∃ F', W K mg B ((o, .val d) :: m) F' H ∧ Same F F' := by
  have go : ∀ {p : Addr} {u : HO}, F p = none → Same F (upd F p u) := fun {p u} hp x y e => by rw [upd_ne (fun z => by rw [z, hp] at e; cases e)]; exact e
  cases s with
  | val d' => cases h; exact ⟨F, w, Same.refl _⟩
  | lst ds =>
    cases h
    obtain ⟨p, vs, rfl, e, r, n⟩ := w.lst
    exact ⟨_, w.frz (.lst e r) e (.lst upd_same (r.mono (go n))) rfl, go n⟩
  | dK ds =>
    cases h
    obtain ⟨p, vs, rfl, e, r, n⟩ := w.dK
    exact ⟨_, w.frz (.dK e r) e (.dK (.inl upd_same) (r.mono (go n))) rfl, go n⟩
  | und => cases h
  | dT _ => cases h
  | scr _ => cases h
  | obj _ _ => cases h
end Fx

set_option Elab.async false
set_option linter.all false
set_option maxRecDepth 100000
namespace Fx
open PySem L2
noncomputable section
/-- a statement's truth, never reckoned -/
def tru (p : Prop) : Bool := @decide p (Classical.propDecidable p)
theorem tru_iff {p : Prop} : tru p = true ↔ p := by unfold tru; exact @decide_eq_true_iff p (Classical.propDecidable p)

/-! ### what the mirrors are made of -/
structure Exn where
  cls : Str
  fs : List (Str × D)
inductive Rs (α : Type) where
  | ok (a : α) (ρ : Env)
  | ex (e : Exn) (ρ : Env)
  | bad
abbrev M (α : Type) := Env → Rs α
inductive So where
  | nx (ρ : Env)
  | bk (ρ : Env)
  | ct (ρ : Env)
  | rt (r : Sl) (ρ : Env)
  | ex (e : Exn) (ρ : Env)
  | bad
abbrev Ms := Env → So
inductive Fo where
  | rt (r : Sl) (ps : List Sl)
  | ex (e : Exn) (ps : List Sl)
  | bad
def Rs.bd {α β : Type} (m : Rs α) (k : α → M β) : Rs β := match m with
  | .ok a ρ => k a ρ
  | .ex e ρ => .ex e ρ
  | .bad => .bad
def Rs.st {α : Type} (m : Rs α) (k : α → Ms) : So := match m with
  | .ok a ρ => k a ρ
  | .ex e ρ => .ex e ρ
  | .bad => .bad
def So.bd (m : So) (k : Ms) : So := match m with
  | .nx ρ => k ρ
  | s => s

abbrev zp (σ : L2.St) (ρ : Env) : List Sv := σ.zip ρ

/-- an exception, as it leaves -/
def ExR (K : Fg) (mg : Str → Option Value) (F H : Hp) (e : Exn) (c : Value) (dx : Option Addr) : Prop :=
  ∃ C, c = .ref C ∧ mg e.cls = some (.ref C) ∧ (e.fs = [] ∨ ∃ d fvs, dx = some d ∧ H d = some (.xd fvs) ∧ SlRF K mg F H fvs (e.fs.map fun p => (p.1, .val p.2)) [])

section
variable (X : Cx) (E : XK)
abbrev WX (B : Bs) (l : List Sv) (F H : Hp) : Prop := W X.K X.mg B l F H
def EPost (B : Bs) (ts : List Sv) (σ : L2.St) (m : Rs Sl) (Q : VK) : Prop := match m with
  | .ok r ρ => σ.length = ρ.length → ∀ v F H, WX X B ((some v, r) :: (ts ++ zp σ ρ)) F H → Q v H
  | .ex e ρ => σ.length = ρ.length → ∀ c dx F H, WX X B (ts ++ zp σ ρ) F H → ExR X.K X.mg F H e c dx → E c dx H
  | .bad => False
def TPost (B : Bs) (ts : List Sv) (σ : L2.St) (m : Rs Bool) (Q : Bool → Hp → Prop) : Prop := match m with
  | .ok b ρ => σ.length = ρ.length → ∀ F H, WX X B (ts ++ zp σ ρ) F H → Q b H
  | .ex e ρ => σ.length = ρ.length → ∀ c dx F H, WX X B (ts ++ zp σ ρ) F H → ExR X.K X.mg F H e c dx → E c dx H
  | .bad => False
abbrev mk (vs : List V) (rs : List Sl) : List Sv := (vs.map some).zip rs
def APost (B : Bs) (ts : List Sv) (σ : L2.St) (mv : List (Option Nat)) (m : Rs (List Sl)) (Q : List V → Hp → Prop) : Prop := match m with
  | .ok rs ρ => σ.length = ρ.length → ∀ vs F H, vs.length = rs.length → mv.length = rs.length → (∀ (a i : Nat), mv[a]? = some (some i) → ∃ v : V, vs[a]? = some v ∧ σ[i]? = some (some v)) → WX X B (mk vs rs ++ (ts ++ zp σ ρ)) F H → Q vs H
  | .ex e ρ => σ.length = ρ.length → ∀ c dx F H, WX X B (ts ++ zp σ ρ) F H → ExR X.K X.mg F H e c dx → E c dx H
  | .bad => False
def Ev (e : Expr) (f : M Sl) : Prop := ∃ t, PE X e t ∧ ∀ (B : Bs) (ts : List Sv) (σ : L2.St) (ρ : Env) (F H : Hp) (Q : VK), σ.length = ρ.length → WX X B (ts ++ zp σ ρ) F H → EPost X E B ts σ (f ρ) Q → t σ H Q
def EvT (e : Expr) (f : M Bool) : Prop := ∃ t, PT X e t ∧ ∀ (B : Bs) (ts : List Sv) (σ : L2.St) (ρ : Env) (F H : Hp) (Q : Bool → Hp → Prop), σ.length = ρ.length → WX X B (ts ++ zp σ ρ) F H → TPost X E B ts σ (f ρ) Q → t σ H Q
def EvW (e : Expr) (f : M Bool) : Prop := ∃ t, PW X e t ∧ ∀ (B : Bs) (ts : List Sv) (σ : L2.St) (ρ : Env) (F H : Hp) (Q : Bool → Hp → Prop), σ.length = ρ.length → WX X B (ts ++ zp σ ρ) F H → TPost X E B ts σ (f ρ) Q → t σ H Q
def EvA (es : List Expr) (mv : List (Option Nat)) (f : M (List Sl)) : Prop := ∃ t, PA X es t ∧ ∀ (B : Bs) (ts : List Sv) (σ : L2.St) (ρ : Env) (F H : Hp) (Q : List V → Hp → Prop), σ.length = ρ.length → WX X B (ts ++ zp σ ρ) F H → APost X E B ts σ mv (f ρ) Q → t σ H Q
def Pins (pn : List Nat) (σ σ' : L2.St) : Prop := ∀ i ∈ pn, σ'[i]? = σ[i]?
def SPost (B : Bs) (ts : List Sv) (pn : List Nat) (σ : L2.St) (D : Ends) : So → Prop
  | .nx ρ => ∀ σ' F H, σ'.length = σ.length → σ'.length = ρ.length → Pins pn σ σ' → WX X B (ts ++ zp σ' ρ) F H → D.nx σ' H
  | .bk ρ => ∀ σ' F H, σ'.length = σ.length → σ'.length = ρ.length → Pins pn σ σ' → WX X B (ts ++ zp σ' ρ) F H → D.bk σ' H
  | .ct ρ => ∀ σ' F H, σ'.length = σ.length → σ'.length = ρ.length → Pins pn σ σ' → WX X B (ts ++ zp σ' ρ) F H → D.ct σ' H
  | .rt r ρ => ∀ v σ' F H, σ'.length = σ.length → σ'.length = ρ.length → Pins pn σ σ' → WX X B ((some v, r) :: (ts ++ zp σ' ρ)) F H → D.rt v H
  | .ex e ρ => ∀ c dx σ' F H, σ'.length = σ.length → σ'.length = ρ.length → Pins pn σ σ' → WX X B (ts ++ zp σ' ρ) F H → ExR X.K X.mg F H e c dx → E c dx H
  | .bad => False
def Ss (pn : List Nat) (st : Stmt) (g : Ms) : Prop := ∃ t, PS X st t ∧ ∀ (B : Bs) (ts : List Sv) (σ : L2.St) (ρ : Env) (F H : Hp) (D : Ends), σ.length = ρ.length → WX X B (ts ++ zp σ ρ) F H → SPost X E B ts pn σ D (g ρ) → t D σ H
def SsB (pn : List Nat) (st : List Stmt) (g : Ms) : Prop := ∃ t, PSs X st t ∧ ∀ (B : Bs) (ts : List Sv) (σ : L2.St) (ρ : Env) (F H : Hp) (D : Ends), σ.length = ρ.length → WX X B (ts ++ zp σ ρ) F H → SPost X E B ts pn σ D (g ρ) → t D σ H
end

theorem Pins.refl (pn : List Nat) (σ : L2.St) : Pins pn σ σ := fun _ _ => rfl
theorem Pins.trans {pn : List Nat} {σ σ1 σ2 : L2.St} (a : Pins pn σ σ1) (b : Pins pn σ1 σ2) : Pins pn σ σ2 := fun i h => (b i h).trans (a i h)
theorem Pins.set {pn : List Nat} {σ : L2.St} {i : Nat} {v : Option V} (h : i ∉ pn) : Pins pn σ (σ.set i v) := fun j hj => List.getElem?_set_ne (by rintro rfl; exact h hj)

section
variable {X : Cx} {E : XK}
/-! ### lists of slots -/
theorem zp_at : ∀ {σ : L2.St} {ρ : Env} {i : Nat} {s : Sl}, σ.length = ρ.length → ρ[i]? = some s → ∃ o l, σ[i]? = some o ∧ List.Perm (zp σ ρ) ((o, s) :: l) ∧ ∀ s', List.Perm (zp σ (ρ.set i s')) ((o, s') :: l)
  | [], [], _, _, _, h => by simp at h
  | o :: σ, r :: ρ, 0, s, _, h => by
    have : r = s := by simpa using h
    subst this
    exact ⟨o, σ.zip ρ, rfl, .refl _, fun s' => .refl _⟩
  | o :: σ, r :: ρ, i + 1, s, hl, h => by
    obtain ⟨o', l, h1, h2, h3⟩ := zp_at (σ := σ) (ρ := ρ) (i := i) (by simpa using hl) (by simpa using h)
    exact ⟨o', (o, r) :: l, by simpa using h1, (h2.cons _).trans (.swap _ _ _), fun s' => ((h3 s').cons _).trans (.swap _ _ _)⟩
  | [], _ :: _, _, _, hl, _ => by simp at hl
  | _ :: _, [], _, _, hl, _ => by simp at hl
theorem zp_set : ∀ {σ : L2.St} {ρ : Env} {i : Nat}, σ.length = ρ.length → i < σ.length → ∃ x l, List.Perm (zp σ ρ) (x :: l) ∧ ∀ o s, List.Perm (zp (σ.set i o) (ρ.set i s)) ((o, s) :: l)
  | [], [], _, _, h => by simp at h
  | o :: σ, r :: ρ, 0, _, _ => ⟨(o, r), σ.zip ρ, .refl _, fun _ _ => .refl _⟩
  | o :: σ, r :: ρ, i + 1, hl, h => by
    obtain ⟨x, l, h1, h2⟩ := zp_set (σ := σ) (ρ := ρ) (i := i) (by simpa using hl) (by simpa using h)
    exact ⟨x, (o, r) :: l, (h1.cons _).trans (.swap _ _ _), fun a b => ((h2 a b).cons _).trans (.swap _ _ _)⟩
  | [], _ :: _, _, hl, _ => by simp at hl
  | _ :: _, [], _, hl, _ => by simp at hl
theorem pull {α : Type} {ts a l : List α} {x : α} (p : List.Perm a (x :: l)) : List.Perm (ts ++ a) (x :: (ts ++ l)) := (p.append_left ts).trans List.perm_middle
/-- slot i, at the front -/
theorem W.at {K : Fg} {mg : Str → Option Value} {B : Bs} {ts : List Sv} {σ : L2.St} {ρ : Env} {F H : Hp} {i : Nat} {s : Sl} (w : W K mg B (ts ++ zp σ ρ) F H) (hl : σ.length = ρ.length) (h : ρ[i]? = some s) :
    ∃ o l, σ[i]? = some o ∧ W K mg B ((o, s) :: (ts ++ l)) F H ∧ ∀ {ts' : List Sv} {s' : Sl} {F' H' : Hp}, W K mg B ((o, s') :: (ts' ++ l)) F' H' → W K mg B (ts' ++ zp σ (ρ.set i s')) F' H' := by
  obtain ⟨o, l, h1, h2, h3⟩ := zp_at hl h
  exact ⟨o, l, h1, w.perm (pull h2), fun w' => w'.perm (pull (h3 _)).symm⟩
/-- slot i is put -/
theorem W.back {K : Fg} {mg : Str → Option Value} {B : Bs} {ts : List Sv} {σ : L2.St} {ρ : Env} {F H : Hp} {i : Nat} {s : Sl} {o : Option V} (hl : σ.length = ρ.length) (hi : σ[i]? = some o) (w : W K mg B ((o, s) :: (ts ++ zp σ ρ)) F H) : W K mg B (ts ++ zp σ (ρ.set i s)) F H := by
  have hi' : i < ρ.length := by rw [← hl]; exact (List.getElem?_eq_some_iff.mp hi).1
  obtain ⟨o', l, h1, h2, h3⟩ := zp_at (s := ρ[i]) hl (List.getElem?_eq_getElem hi')
  rw [hi] at h1
  cases h1
  have w2 : W K mg B ((o, ρ[i]) :: (o, s) :: (ts ++ l)) F H := w.perm (((pull h2).cons _).trans (.swap _ _ _))
  exact w2.tail.perm (pull (h3 s)).symm
theorem W.store {K : Fg} {mg : Str → Option Value} {B : Bs} {ts : List Sv} {σ : L2.St} {ρ : Env} {F H : Hp} {i : Nat} {s : Sl} {o : Option V} (hl : σ.length = ρ.length) (w : W K mg B ((o, s) :: (ts ++ zp σ ρ)) F H) : W K mg B (ts ++ zp (σ.set i o) (ρ.set i s)) F H := by
  by_cases hi : i < σ.length
  · obtain ⟨x, l, h1, h2⟩ := zp_set (i := i) hl hi
    have w2 : W K mg B (x :: (o, s) :: (ts ++ l)) F H := w.perm (((pull h1).cons _).trans (.swap _ _ _))
    exact w2.tail.perm (pull (h2 o s)).symm
  · rw [List.set_eq_of_length_le (by omega), List.set_eq_of_length_le (by omega)]
    exact w.tail
theorem set_len {α : Type} {σ : L2.St} {ρ : List α} {i : Nat} {s : α} (h : σ.length = ρ.length) : σ.length = (ρ.set i s).length := by rw [List.length_set]; exact h

/-! ### expressions: names, constants -/
/-- a name: what it owns is frozen -/
def mVar (i : Nat) : M Sl := fun ρ => match ρ[i]? with
  | some s => match s.d? with
    | some d => .ok (.val d) (ρ.set i (.val d))
    | none => .bad
  | none => .bad
theorem set_self {ρ : Env} {i : Nat} {s : Sl} (h : ρ[i]? = some s) : ρ.set i s = ρ := by
  obtain ⟨h1, h2⟩ := List.getElem?_eq_some_iff.mp h
  rw [← h2]; exact List.set_getElem_self h1
theorem ev_var (i : Nat) {x : Str} {pos : Pos} (hN : X.N[i]? = some x := by rfl) (hv : Vis X.env.scope x := by first | exact Or.inl rfl | exact Or.inr (Or.inl rfl) | exact Or.inr (Or.inr rfl)) (hd : (x == ("__debug__" : Str)) = false := by decide)
    (hcd : (x == ("__classdict__" : Str)) = false := by decide) : Ev X E (.Name x pos) (mVar i) := by
  refine ⟨_, pe_var hN hv hd hcd, fun B ts σ ρ F H Q hl w h => ?_⟩
  unfold mVar at h
  cases e : ρ[i]? with
  | none => rw [e] at h; exact h.elim
  | some s =>
    rw [e] at h
    obtain ⟨o, l, h1, w1, k⟩ := w.at hl e
    simp only at h
    cases e2 : s.d? with
    | none => rw [e2] at h; exact h.elim
    | some d =>
      rw [e2] at h
      obtain ⟨F', w2, sf⟩ := w1.freeze e2
      obtain ⟨v, rfl, r⟩ := w2.valO
      refine ⟨v, h1, h (set_len hl) v F' H ?_⟩
      exact (k w2).more r
def mC (d : D) : M Sl := fun ρ => .ok (.val d) ρ
theorem ev_c {e : Expr} {v : V} {d : D} (h : PE X e (tC v)) (r : ∀ K F, Rp K F v d) : Ev X E e (mC d) :=
  ⟨_, h, fun _ _ _ _ _ _ _ hl w h => h hl v _ _ (w.more (r _ _))⟩
theorem ev_int {i j pos} : Ev X E (.Constant (.int i) j pos) (mC (.int i)) := ev_c pe_int fun _ _ => .int _
theorem ev_bl {b j pos} : Ev X E (.Constant (.bool b) j pos) (mC (.bool b)) := ev_c pe_bl fun _ _ => .bl _
theorem ev_non {j pos} : Ev X E (.Constant .none j pos) (mC .none) := ev_c pe_non fun _ _ => .non
theorem ev_str {x j pos} : Ev X E (.Constant (.str x) j pos) (mC (.str x)) := ev_c pe_str fun _ _ => .str _
/-- a constant of the module -/
theorem ev_glob {x : Str} {v : V} {d : D} {u : Value} {pos : Pos} (hg : Gl X x) (hm : X.mg x = some u) (r : RelV v u) (rp : ∀ F, Rp X.K F v d) (hd : (x == ("__debug__" : Str)) = false := by decide) : Ev X E (.Name x pos) (mC d) :=
  ⟨_, pe_glob hg hm r hd, fun _ _ _ _ _ _ _ hl w h => h hl v _ _ (w.more (rp _))⟩

/-! ### two operands -/
/-- an operation on data -/
def OpL (X : Cx) (r : R2) (g : D → D → Option Sl) : Prop := ∀ (B : Bs) (l : List Sv) (F H : Hp) (v u : V) (a b : D) (rc : Sl) (Q : VK), W X.K X.mg B l F H → Rp X.K F v a → Rp X.K F u b → g a b = some rc →
  (∀ x F' H', W X.K X.mg B ((some x, rc) :: l) F' H' → Q x H') → r v u H Q
def mBin (g : D → D → Option Sl) (fa fb : M Sl) : M Sl := fun ρ => (fa ρ).bd fun ra ρ1 => (fb ρ1).bd fun rb ρ2 => match ra.d?, rb.d? with
  | some a, some b => match g a b with
    | some r => .ok r ρ2
    | none => .bad
  | _, _ => .bad
/-- how an expression's reading is run -/
def Run (X : Cx) (E : XK) (t : TE) (f : M Sl) : Prop := ∀ (B : Bs) (ts : List Sv) (σ : L2.St) (ρ : Env) (F H : Hp) (Q : VK), σ.length = ρ.length → WX X B (ts ++ zp σ ρ) F H → EPost X E B ts σ (f ρ) Q → t σ H Q
/-- the sequence of two, for any rule over tOp -/
theorem two_run {ta tb : TE} {r : R2} {g : D → D → Option Sl} {fa fb : M Sl} (hr : OpL X r g) (qa : Run X E ta fa) (qb : Run X E tb fb) : Run X E (tOp r ta tb) (mBin g fa fb) := by
  intro B ts σ ρ F H Q hl w h
  refine qa B ts σ ρ F H _ hl w ?_
  unfold mBin Rs.bd at h
  cases e1 : fa ρ with
  | bad => rw [e1] at h; exact h.elim
  | ex x ρ1 => rw [e1] at h; exact h
  | ok ra ρ1 =>
    rw [e1] at h
    intro hl1 v F1 H1 w1
    refine qb B ((some v, ra) :: ts) σ ρ1 F1 H1 _ hl1 w1 ?_
    simp only at h
    cases e2 : fb ρ1 with
    | bad => rw [e2] at h; exact h.elim
    | ex x ρ2 =>
      rw [e2] at h
      exact fun hl2 c dx F2 H2 w2 q => h hl2 c dx F2 H2 w2.tail q
    | ok rb ρ2 =>
      rw [e2] at h
      simp only at h
      intro hl2 u F2 H2 w2
      cases da : ra.d? with
      | none => rw [da] at h; exact h.elim
      | some a =>
        cases db : rb.d? with
        | none => rw [da, db] at h; exact h.elim
        | some b =>
          rw [da, db] at h
          simp only at h
          cases eg : g a b with
          | none => rw [eg] at h; exact h.elim
          | some rc =>
            rw [eg] at h
            obtain ⟨F3, w3, s3⟩ := w2.freeze db
            have w4 : W X.K X.mg B ((some v, ra) :: (some u, .val b) :: (ts ++ zp σ ρ2)) F3 H2 := w3.perm (.swap _ _ _)
            obtain ⟨F5, w5, s5⟩ := w4.freeze da
            exact hr B _ F5 H2 v u a b rc Q w5.tail.tail w5.val (w5.tail).val eg fun x F' H' w' => h hl2 x F' H' w'
theorem ev_two {a b : Expr} {e : Expr} {r : R2} {g : D → D → Option Sl} {fa fb : M Sl} (hr : OpL X r g) (ha : Ev X E a fa) (hb : Ev X E b fb) (k : ∀ {ta tb : TE}, PE X a ta → PE X b tb → PE X e (tOp r ta tb)) : Ev X E e (mBin g fa fb) := by
  obtain ⟨ta, pa, qa⟩ := ha
  obtain ⟨tb, pb, qb⟩ := hb
  exact ⟨_, k pa pb, two_run hr qa qb⟩
theorem ev_op {op : Operator} {a b : Expr} {r : R2} {g : D → D → Option Sl} {fa fb : M Sl} {pos : Pos} (ho : OpR X (binaryOp op) r) (hr : OpL X r g) (ha : Ev X E a fa) (hb : Ev X E b fb) : Ev X E (.BinOp a op b pos) (mBin g fa fb) :=
  ev_two hr ha hb fun pa pb => pe_op ho pa pb
theorem ev_cmp {op : CmpOp} {a b : Expr} {r : R2} {g : D → D → Option Sl} {fa fb : M Sl} {pos : Pos} (ho : OpR X (compareOp op) r) (hr : OpL X r g) (ha : Ev X E a fa) (hb : Ev X E b fb) (hm : behindInMarks op b = false) : Ev X E (.Compare a [op] [b] pos) (mBin g fa fb) :=
  ev_two hr ha hb fun pa pb => pe_cmpR ho pa pb hm
theorem ev_ix {a b : Expr} {r : R2} {g : D → D → Option Sl} {fa fb : M Sl} {pos : Pos} (ho : IxR X r) (hr : OpL X r g) (ha : Ev X E a fa) (hb : Ev X E b fb) (hs : PlainIx b := by exact fun _ _ => rfl) : Ev X E (.Subscript a b pos) (mBin g fa fb) :=
  ev_two hr ha hb fun pa pb => pe_ix ho pa pb hs
def mUn (g : D → Option Sl) (fa : M Sl) : M Sl := fun ρ => (fa ρ).bd fun ra ρ1 => match ra.d? with
  | some a => match g a with
    | some r => .ok r ρ1
    | none => .bad
  | _ => .bad
def UnL (X : Cx) (r : V → Hp → VK → Prop) (g : D → Option Sl) : Prop := ∀ (B : Bs) (l : List Sv) (F H : Hp) (v : V) (a : D) (rc : Sl) (Q : VK), W X.K X.mg B l F H → Rp X.K F v a → g a = some rc →
  (∀ x F' H', W X.K X.mg B ((some x, rc) :: l) F' H' → Q x H') → r v H Q
theorem ev_one {a : Expr} {e : Expr} {r : V → Hp → VK → Prop} {g : D → Option Sl} {fa : M Sl} (hr : UnL X r g) (ha : Ev X E a fa) (k : ∀ {ta : TE}, PE X a ta → PE X e (tUn r ta)) : Ev X E e (mUn g fa) := by
  obtain ⟨ta, pa, qa⟩ := ha
  refine ⟨_, k pa, fun B ts σ ρ F H Q hl w h => ?_⟩
  refine qa B ts σ ρ F H _ hl w ?_
  unfold mUn Rs.bd at h
  cases e1 : fa ρ with
  | bad => rw [e1] at h; exact h.elim
  | ex x ρ1 => rw [e1] at h; exact h
  | ok ra ρ1 =>
    rw [e1] at h
    simp only at h
    intro hl1 v F1 H1 w1
    cases da : ra.d? with
    | none => rw [da] at h; exact h.elim
    | some a =>
      rw [da] at h
      simp only at h
      cases eg : g a with
      | none => rw [eg] at h; exact h.elim
      | some rc =>
        rw [eg] at h
        obtain ⟨F3, w3, s3⟩ := w1.freeze da
        exact hr B _ F3 H1 v a rc Q w3.tail w3.val eg fun x F' H' w' => h hl1 x F' H' w'
theorem ev_un {op : UnaryOp} {a : Expr} {r : V → Hp → VK → Prop} {g : D → Option Sl} {fa : M Sl} {pos : Pos} (ho : UnR X (unaryOp op) r) (hr : UnL X r g) (ha : Ev X E a fa) : Ev X E (.UnaryOp op a pos) (mUn g fa) :=
  ev_one hr ha fun pa => pe_un ho pa

/-! ### argument lists -/
theorem ea_nil : EvA X E [] [] (fun ρ => .ok [] ρ) := ⟨_, pa_nil, fun B ts σ ρ F H Q hl w h => h hl [] F H rfl rfl (fun a i h => by simp at h) w⟩
/-- data: what is fresh is frozen -/
def mArg (fa : M Sl) (fr : M (List Sl)) : M (List Sl) := fun ρ => (fa ρ).bd fun ra ρ1 => (fr ρ1).bd fun rs ρ2 => match ra.d? with
  | some a => .ok (.val a :: rs) ρ2
  | none => .bad
theorem ea_cons {e : Expr} {es : List Expr} {mv : List (Option Nat)} {fa : M Sl} {fr : M (List Sl)} (ha : Ev X E e fa) (hr : EvA X E es mv fr) (hs : starEach (e :: es) X.env = (false, eval e X.env) :: starEach es X.env := by rfl) : EvA X E (e :: es) (none :: mv) (mArg fa fr) := by
  obtain ⟨ta, pa, qa⟩ := ha
  obtain ⟨tb, pb, qb⟩ := hr
  refine ⟨_, pa_cons pa pb hs, fun B ts σ ρ F H Q hl w h => ?_⟩
  refine qa B ts σ ρ F H _ hl w ?_
  unfold mArg Rs.bd at h
  cases e1 : fa ρ with
  | bad => rw [e1] at h; exact h.elim
  | ex x ρ1 => rw [e1] at h; exact h
  | ok ra ρ1 =>
    rw [e1] at h
    intro hl1 v F1 H1 w1
    refine qb B ((some v, ra) :: ts) σ ρ1 F1 H1 _ hl1 w1 ?_
    simp only at h
    cases e2 : fr ρ1 with
    | bad => rw [e2] at h; exact h.elim
    | ex x ρ2 =>
      rw [e2] at h
      exact fun hl2 c dx F2 H2 w2 q => h hl2 c dx F2 H2 w2.tail q
    | ok rs ρ2 =>
      rw [e2] at h
      simp only at h
      intro hl2 vs F2 H2 hvs hmv hp w2
      cases da : ra.d? with
      | none => rw [da] at h; exact h.elim
      | some a =>
        rw [da] at h
        have w3 : W X.K X.mg B ((some v, ra) :: (mk vs rs ++ (ts ++ zp σ ρ2))) F2 H2 := w2.perm List.perm_middle
        obtain ⟨F4, w4, s4⟩ := w3.freeze da
        refine h hl2 (v :: vs) F4 H2 (congrArg (· + 1) hvs) (congrArg (· + 1) hmv) (fun j i hj => ?_) w4
        cases j with
        | zero => simp at hj
        | succ j => exact hp j i (by simpa using hj)
/-- what a name owns is handed on -/
def Sl.there : Sl → Bool
  | .und => false
  | _ => true
def mArgO (i : Nat) (fr : M (List Sl)) : M (List Sl) := fun ρ => match ρ[i]? with
  | some s => match s.there with
    | true => (fr ρ).bd fun rs ρ2 => match ρ2[i]? with
      | some s2 => match s2.there with
        | true => .ok (s2 :: rs) (ρ2.set i .und)
        | false => .bad
      | none => .bad
    | false => .bad
  | none => .bad
theorem W.there {K : Fg} {mg : Str → Option Value} {B : Bs} {m : List Sv} {F H : Hp} {o : Option V} {s : Sl} (w : W K mg B ((o, s) :: m) F H) (h : s.there = true) : ∃ v, o = some v := by
  obtain ⟨fp, a, _⟩ := w.sl
  cases a with
  | cons q _ => cases q <;> first | exact ⟨_, rfl⟩ | cases h
theorem ea_own (i : Nat) {x : Str} {pos : Pos} {es : List Expr} {mv : List (Option Nat)} {fr : M (List Sl)} (hr : EvA X E es mv fr) (hN : X.N[i]? = some x := by rfl) (hv : Vis X.env.scope x := by first | exact Or.inl rfl | exact Or.inr (Or.inl rfl) | exact Or.inr (Or.inr rfl))
    (hd : (x == ("__debug__" : Str)) = false := by decide) (hcd : (x == ("__classdict__" : Str)) = false := by decide) (hs : starEach (.Name x pos :: es) X.env = (false, eval (.Name x pos) X.env) :: starEach es X.env := by rfl) :
    EvA X E (.Name x pos :: es) (some i :: mv) (mArgO i fr) := by
  obtain ⟨tb, pb, qb⟩ := hr
  refine ⟨_, pa_cons (pe_var hN hv hd hcd) pb hs, fun B ts σ ρ F H Q hl w h => ?_⟩
  unfold mArgO Rs.bd at h
  cases e : ρ[i]? with
  | none => rw [e] at h; exact h.elim
  | some s =>
    rw [e] at h
    simp only at h
    cases e2 : s.there with
    | false => rw [e2] at h; exact h.elim
    | true =>
      rw [e2] at h
      simp only at h
      obtain ⟨o, l, h1, w1, k⟩ := w.at hl e
      obtain ⟨v, rfl⟩ := w1.there e2
      refine ⟨v, h1, qb B ts σ ρ F H _ hl w ?_⟩
      cases e3 : fr ρ with
      | bad => rw [e3] at h; exact h.elim
      | ex x ρ2 => rw [e3] at h; exact h
      | ok rs ρ2 =>
        rw [e3] at h
        simp only at h
        intro hl2 vs F2 H2 hvs hmv hp w3
        cases e4 : ρ2[i]? with
        | none => rw [e4] at h; exact h.elim
        | some s2 =>
          rw [e4] at h
          simp only at h
          cases e5 : s2.there with
          | false => rw [e5] at h; exact h.elim
          | true =>
            rw [e5] at h
            simp only at h
            rw [← List.append_assoc] at w3
            obtain ⟨o2, l2, h2, w4, k2⟩ := W.at w3 hl2 e4
            rw [h1] at h2
            cases h2
            have w5 := k2 (ts' := (some v, s2) :: (mk vs rs ++ ts)) (w4.und (o := some v))
            rw [List.cons_append, List.append_assoc] at w5
            refine h (set_len hl2) (v :: vs) F2 H2 (congrArg (· + 1) hvs) (congrArg (· + 1) hmv) (fun j k hj => ?_) w5
            cases j with
            | zero =>
              have : k = i := by simpa using hj.symm
              subst this
              exact ⟨v, rfl, h1⟩
            | succ j => exact hp j k (by simpa using hj)
/-! ### displays -/
def dAll : List Sl → Option (List D)
  | [] => some []
  | s :: r => match s.d?, dAll r with
    | some d, some ds => some (d :: ds)
    | _, _ => none
/-- values that are data: their slots are dropped -/
theorem W.datas {K : Fg} {mg : Str → Option Value} {B : Bs} {m : List Sv} {H : Hp} : ∀ {vs : List V} {rs : List Sl} {ds : List D} {F : Hp}, vs.length = rs.length → W K mg B (Fx.mk vs rs ++ m) F H → dAll rs = some ds → ∃ F', W K mg B m F' H ∧ Same F F' ∧ RpL K F' vs ds
  | [], [], ds, F, _, w, h => by cases h; exact ⟨F, w, Same.refl _, .nil⟩
  | v :: vs, r :: rs, ds, F, hl, w, h => by
    unfold dAll at h
    cases h1 : r.d? with
    | none => rw [h1] at h; cases h
    | some d =>
      cases h2 : dAll rs with
      | none => rw [h1, h2] at h; cases h
      | some es =>
        rw [h1, h2] at h
        cases h
        obtain ⟨F1, w1, s1⟩ := W.freeze (o := some v) w h1
        obtain ⟨F2, w2, s2, r2⟩ := W.datas (vs := vs) (rs := rs) (m := m) (by simpa using hl) w1.tail h2
        exact ⟨F2, w2, s1.trans s2, .cons (w1.val.mono s2) r2⟩
  | [], _ :: _, _, _, hl, _, _ => by simp at hl
  | _ :: _, [], _, _, hl, _, _ => by simp at hl
theorem W.new_tup {K : Fg} {mg : Str → Option Value} {B : Bs} {m : List Sv} {F H : Hp} {p : Addr} {vs : List V} {ds : List D} (w : W K mg B m F H) (r : RpL K F vs ds) (hp : H p = none) : W K mg B ((some (.ref p), .val (.tuple ds)) :: m) (upd F p (.tup vs)) (upd H p (.tup vs)) := by
  have fp : F p = none := Same.free w.fh hp
  have sf : Same F (upd F p (.tup vs)) := fun x u e => by rw [upd_ne (fun z => by rw [z, fp] at e; cases e)]; exact e
  exact (w.lay hp).more (.tup upd_same (r.mono sf))
theorem W.new_lst {K : Fg} {mg : Str → Option Value} {B : Bs} {m : List Sv} {F H : Hp} {p : Addr} {vs : List V} {ds : List D} (w : W K mg B m F H) (r : RpL K F vs ds) (hp : H p = none) : W K mg B ((some (.ref p), .lst ds) :: m) F (upd H p (.lst vs)) :=
  w.own hp (.lst upd_same r)
def szOk (n : Nat) : Bool := tru (n ≤ 16777216)
theorem szOk_le {n : Nat} (h : szOk n = true) : n ≤ sizeLine := by rw [sizeLine_eq]; exact tru_iff.mp h
def mTup (fs : M (List Sl)) : M Sl := fun ρ => (fs ρ).bd fun rs ρ1 => match dAll rs with
  | some ds => match szOk ds.length with
    | true => .ok (.val (.tuple ds)) ρ1
    | false => .bad
  | none => .bad
def mLst (fs : M (List Sl)) : M Sl := fun ρ => (fs ρ).bd fun rs ρ1 => match dAll rs with
  | some ds => match szOk ds.length with
    | true => .ok (.lst ds) ρ1
    | false => .bad
  | none => .bad
theorem ev_tup {es : List Expr} {mv : List (Option Nat)} {fs : M (List Sl)} {pos : Pos} {x1} (ha : EvA X E es mv fs) : Ev X E (.Tuple es x1 pos) (mTup fs) := by
  obtain ⟨t, pt, qt⟩ := ha
  refine ⟨_, pe_tup pt, fun B ts σ ρ F H Q hl w h => qt B ts σ ρ F H _ hl w ?_⟩
  unfold mTup Rs.bd at h
  cases e1 : fs ρ with
  | bad => rw [e1] at h; exact h.elim
  | ex x ρ1 => rw [e1] at h; exact h
  | ok rs ρ1 =>
    rw [e1] at h
    simp only at h
    intro hl1 vs F1 H1 hvs _ _ w1
    cases e2 : dAll rs with
    | none => rw [e2] at h; exact h.elim
    | some ds =>
      rw [e2] at h
      simp only at h
      cases e3 : szOk ds.length with
      | false => rw [e3] at h; exact h.elim
      | true =>
        rw [e3] at h
        obtain ⟨F2, w2, s2, r2⟩ := w1.datas hvs e2
        exact ⟨by rw [r2.length]; exact szOk_le e3, fun p hp => h hl1 _ _ _ (w2.new_tup r2 hp)⟩
theorem ev_lst {es : List Expr} {mv : List (Option Nat)} {fs : M (List Sl)} {pos : Pos} (ha : EvA X E es mv fs) : Ev X E (.List es pos) (mLst fs) := by
  obtain ⟨t, pt, qt⟩ := ha
  refine ⟨_, pe_lst pt, fun B ts σ ρ F H Q hl w h => qt B ts σ ρ F H _ hl w ?_⟩
  unfold mLst Rs.bd at h
  cases e1 : fs ρ with
  | bad => rw [e1] at h; exact h.elim
  | ex x ρ1 => rw [e1] at h; exact h
  | ok rs ρ1 =>
    rw [e1] at h
    simp only at h
    intro hl1 vs F1 H1 hvs _ _ w1
    cases e2 : dAll rs with
    | none => rw [e2] at h; exact h.elim
    | some ds =>
      rw [e2] at h
      simp only at h
      cases e3 : szOk ds.length with
      | false => rw [e3] at h; exact h.elim
      | true =>
        rw [e3] at h
        obtain ⟨F2, w2, s2, r2⟩ := w1.datas hvs e2
        exact ⟨by rw [r2.length]; exact szOk_le e3, fun p hp => h hl1 _ _ _ (w2.new_lst r2 hp)⟩

/-! ### tests -/
def tst (m : Rs Sl) : Rs Bool := match m with
  | .ok (.val (.bool b)) ρ => .ok b ρ
  | .ok _ _ => .bad
  | .ex e ρ => .ex e ρ
  | .bad => .bad
def mTst (f : M Sl) : M Bool := fun ρ => tst (f ρ)
theorem post_tst {B : Bs} {ts : List Sv} {σ : L2.St} {m : Rs Sl} {Q : Bool → Hp → Prop} (h : TPost X E B ts σ (tst m) Q) : EPost X E B ts σ m (fun x H' => ∃ k, x = .bl k ∧ Q k H') := by
  cases m with
  | bad => exact h.elim
  | ex e ρ => exact h
  | ok r ρ =>
    cases r with
    | val d =>
      cases d with
      | bool b =>
        intro hl v F H w
        cases w.val
        exact ⟨b, rfl, h hl F H w.tail⟩
      | _ => exact h.elim
    | _ => exact h.elim
theorem et_val {e : Expr} {f : M Sl} (h : Ev X E e f) (he : ∀ whole, isTrue e X.env whole = (do let v ← whole; standAt e.pos; holding [v] (truthy v)) := by intro _; rfl) : EvT X E e (mTst f) := by
  obtain ⟨t, pt, qt⟩ := h
  exact ⟨_, pt_val pt he, fun B ts σ ρ F H Q hl w h => qt B ts σ ρ F H _ hl w (post_tst h)⟩
theorem et_cmp {op : CmpOp} {a b : Expr} {r : R2} {g : D → D → Option Sl} {fa fb : M Sl} {pos : Pos} (ho : OpR X (compareOp op) r) (hr : OpL X r g) (ha : Ev X E a fa) (hb : Ev X E b fb) (hm : behindInMarks op b = false) : EvT X E (.Compare a [op] [b] pos) (mTst (mBin g fa fb)) := by
  obtain ⟨ta, pa, qa⟩ := ha
  obtain ⟨tb, pb, qb⟩ := hb
  exact ⟨_, pt_cmpR ho pa pb hm, fun B ts σ ρ F H Q hl w h => two_run hr qa qb B ts σ ρ F H _ hl w (post_tst h)⟩
def mNot (f : M Bool) : M Bool := fun ρ => (f ρ).bd fun b ρ1 => .ok (!b) ρ1
theorem et_not {a : Expr} {f : M Bool} {pos : Pos} (h : EvT X E a f) : EvT X E (.UnaryOp .Not a pos) (mNot f) := by
  obtain ⟨t, pt, qt⟩ := h
  refine ⟨_, pt_not pt, fun B ts σ ρ F H Q hl w h => qt B ts σ ρ F H _ hl w ?_⟩
  unfold mNot Rs.bd at h
  cases e : f ρ with
  | bad => rw [e] at h; exact h.elim
  | ex x ρ1 => rw [e] at h; exact h
  | ok b ρ1 => rw [e] at h; exact h
theorem ew_one_and {a : Expr} {f : M Bool} {pos : Pos} (h : EvT X E a f) : EvW X E (.BoolOp .And [a] pos) f := by
  obtain ⟨t, pt, qt⟩ := h
  exact ⟨_, pw_and1 pt, qt⟩
theorem ew_one_or {a : Expr} {f : M Bool} {pos : Pos} (h : EvT X E a f) : EvW X E (.BoolOp .Or [a] pos) f := by
  obtain ⟨t, pt, qt⟩ := h
  exact ⟨_, pw_or1 pt, qt⟩
def mAnd (f g : M Bool) : M Bool := fun ρ => (f ρ).bd fun b ρ1 => if b = true then g ρ1 else .ok false ρ1
def mOr (f g : M Bool) : M Bool := fun ρ => (f ρ).bd fun b ρ1 => if b = true then .ok true ρ1 else g ρ1
theorem ew_and {a b : Expr} {r : List Expr} {f g : M Bool} {pos : Pos} (h : EvT X E a f) (h2 : EvW X E (.BoolOp .And (b :: r) pos) g) : EvW X E (.BoolOp .And (a :: b :: r) pos) (mAnd f g) := by
  obtain ⟨t, pt, qt⟩ := h
  obtain ⟨u, pu, qu⟩ := h2
  refine ⟨_, pw_and pt pu, fun B ts σ ρ F H Q hl w h => qt B ts σ ρ F H _ hl w ?_⟩
  unfold mAnd Rs.bd at h
  cases e : f ρ with
  | bad => rw [e] at h; exact h.elim
  | ex x ρ1 => rw [e] at h; exact h
  | ok b ρ1 =>
    rw [e] at h
    simp only at h
    intro hl1 F1 H1 w1
    cases b with
    | true => exact qu B ts σ ρ1 F1 H1 _ hl1 w1 h
    | false => exact h hl1 F1 H1 w1
theorem ew_or {a b : Expr} {r : List Expr} {f g : M Bool} {pos : Pos} (h : EvT X E a f) (h2 : EvW X E (.BoolOp .Or (b :: r) pos) g) : EvW X E (.BoolOp .Or (a :: b :: r) pos) (mOr f g) := by
  obtain ⟨t, pt, qt⟩ := h
  obtain ⟨u, pu, qu⟩ := h2
  refine ⟨_, pw_or pt pu, fun B ts σ ρ F H Q hl w h => qt B ts σ ρ F H _ hl w ?_⟩
  unfold mOr Rs.bd at h
  cases e : f ρ with
  | bad => rw [e] at h; exact h.elim
  | ex x ρ1 => rw [e] at h; exact h
  | ok b ρ1 =>
    rw [e] at h
    simp only at h
    intro hl1 F1 H1 w1
    cases b with
    | true => exact h hl1 F1 H1 w1
    | false => exact qu B ts σ ρ1 F1 H1 _ hl1 w1 h
theorem et_bool {e : Expr} {f : M Bool} (h : EvW X E e f) : EvT X E e f := by
  obtain ⟨t, pt, qt⟩ := h
  exact ⟨_, pt.pt, qt⟩
/-! .. as values: all operands truths -/
def mVal (f : M Bool) : M Sl := fun ρ => (f ρ).bd fun b ρ1 => .ok (.val (.bool b)) ρ1
theorem ev_one_bool {op} {a : Expr} {f : M Sl} {pos : Pos} (h : Ev X E a f) : Ev X E (.BoolOp op [a] pos) f := by
  obtain ⟨t, pt, qt⟩ := h
  exact ⟨_, pe_one pt, qt⟩
def mAndV (f g : M Sl) : M Sl := fun ρ => (tst (f ρ)).bd fun b ρ1 => if b = true then g ρ1 else .ok (.val (.bool false)) ρ1
def mOrV (f g : M Sl) : M Sl := fun ρ => (tst (f ρ)).bd fun b ρ1 => if b = true then .ok (.val (.bool true)) ρ1 else g ρ1
theorem ev_and {a b : Expr} {r : List Expr} {f g : M Sl} {pos : Pos} (h : Ev X E a f) (h2 : Ev X E (.BoolOp .And (b :: r) pos) g) : Ev X E (.BoolOp .And (a :: b :: r) pos) (mAndV f g) := by
  obtain ⟨t, pt, qt⟩ := h
  obtain ⟨u, pu, qu⟩ := h2
  refine ⟨_, pe_and pt pu, fun B ts σ ρ F H Q hl w h => qt B ts σ ρ F H _ hl w (post_tst ?_)⟩
  unfold mAndV Rs.bd at h
  cases e : tst (f ρ) with
  | bad => rw [e] at h; exact h.elim
  | ex x ρ1 => rw [e] at h; exact h
  | ok b ρ1 =>
    rw [e] at h
    simp only at h
    intro hl1 F1 H1 w1
    cases b with
    | true => exact qu B ts σ ρ1 F1 H1 _ hl1 w1 h
    | false => exact h hl1 _ F1 H1 (w1.more (.bl _))
theorem ev_or {a b : Expr} {r : List Expr} {f g : M Sl} {pos : Pos} (h : Ev X E a f) (h2 : Ev X E (.BoolOp .Or (b :: r) pos) g) : Ev X E (.BoolOp .Or (a :: b :: r) pos) (mOrV f g) := by
  obtain ⟨t, pt, qt⟩ := h
  obtain ⟨u, pu, qu⟩ := h2
  refine ⟨_, pe_or pt pu, fun B ts σ ρ F H Q hl w h => qt B ts σ ρ F H _ hl w (post_tst ?_)⟩
  unfold mOrV Rs.bd at h
  cases e : tst (f ρ) with
  | bad => rw [e] at h; exact h.elim
  | ex x ρ1 => rw [e] at h; exact h
  | ok b ρ1 =>
    rw [e] at h
    simp only at h
    intro hl1 F1 H1 w1
    cases b with
    | true => exact h hl1 _ F1 H1 (w1.more (.bl _))
    | false => exact qu B ts σ ρ1 F1 H1 _ hl1 w1 h
def mNotV (f : M Sl) : M Sl := fun ρ => (tst (f ρ)).bd fun b ρ1 => .ok (.val (.bool (!b))) ρ1
theorem ev_not {a : Expr} {f : M Sl} {pos : Pos} (h : Ev X E a f) : Ev X E (.UnaryOp .Not a pos) (mNotV f) := by
  obtain ⟨t, pt, qt⟩ := h
  refine ⟨_, pe_not pt, fun B ts σ ρ F H Q hl w h => qt B ts σ ρ F H _ hl w (post_tst ?_)⟩
  unfold mNotV Rs.bd at h
  cases e : tst (f ρ) with
  | bad => rw [e] at h; exact h.elim
  | ex x ρ1 => rw [e] at h; exact h
  | ok b ρ1 =>
    rw [e] at h
    intro hl1 F1 H1 w1
    exact h hl1 _ F1 H1 (w1.more (.bl _))
def mIf {α : Type} (c : M Bool) (f g : M α) : M α := fun ρ => (c ρ).bd fun b ρ1 => if b = true then f ρ1 else g ρ1
theorem ev_if {c a b : Expr} {fc : M Bool} {f g : M Sl} {pos : Pos} (hc : EvT X E c fc) (h : Ev X E a f) (h2 : Ev X E b g) : Ev X E (.IfExp c a b pos) (mIf fc f g) := by
  obtain ⟨t0, p0, q0⟩ := hc
  obtain ⟨t, pt, qt⟩ := h
  obtain ⟨u, pu, qu⟩ := h2
  refine ⟨_, pe_ifExp p0 pt pu, fun B ts σ ρ F H Q hl w h => q0 B ts σ ρ F H _ hl w ?_⟩
  unfold mIf Rs.bd at h
  cases e : fc ρ with
  | bad => rw [e] at h; exact h.elim
  | ex x ρ1 => rw [e] at h; exact h
  | ok b ρ1 =>
    rw [e] at h
    simp only at h
    intro hl1 F1 H1 w1
    cases b with
    | true => exact qt B ts σ ρ1 F1 H1 _ hl1 w1 h
    | false => exact qu B ts σ ρ1 F1 H1 _ hl1 w1 h

/-! ### statements -/
theorem sb_nil {pn : List Nat} : SsB X E pn [] (fun ρ => .nx ρ) := ⟨_, pss_nil, fun B ts σ ρ F H D hl w h => h σ F H rfl hl (Pins.refl _ _) w⟩
/-- a statement's end, taken on -/
theorem SPost.bd {B : Bs} {ts : List Sv} {pn : List Nat} {σ σ1 : L2.St} {D D' : Ends} {m : So} (hp : Pins pn σ σ1) (hl : σ1.length = σ.length) (h : SPost X E B ts pn σ D m) (e1 : D'.rt = D.rt) (e2 : D'.bk = D.bk) (e3 : D'.ct = D.ct) (e4 : D'.nx = D.nx) : SPost X E B ts pn σ1 D' m := by
  cases m with
  | nx ρ => exact fun σ' F H a b p w => e4 ▸ h σ' F H (a.trans hl) b (hp.trans p) w
  | bk ρ => exact fun σ' F H a b p w => e2 ▸ h σ' F H (a.trans hl) b (hp.trans p) w
  | ct ρ => exact fun σ' F H a b p w => e3 ▸ h σ' F H (a.trans hl) b (hp.trans p) w
  | rt r ρ => exact fun v σ' F H a b p w => e1 ▸ h v σ' F H (a.trans hl) b (hp.trans p) w
  | ex e ρ => exact fun c dx σ' F H a b p w => h c dx σ' F H (a.trans hl) b (hp.trans p) w
  | bad => exact h
def mSeq (f g : Ms) : Ms := fun ρ => (f ρ).bd g
theorem sb_cons {pn : List Nat} {st : Stmt} {rest : List Stmt} {f g : Ms} (h1 : Ss X E pn st f) (h2 : SsB X E pn rest g) : SsB X E pn (st :: rest) (mSeq f g) := by
  obtain ⟨t, pt, qt⟩ := h1
  obtain ⟨u, pu, qu⟩ := h2
  refine ⟨_, pss_cons pt pu, fun B ts σ ρ F H D hl w h => qt B ts σ ρ F H _ hl w ?_⟩
  unfold mSeq So.bd at h
  cases e : f ρ with
  | nx ρ1 =>
    rw [e] at h
    intro σ1 F1 H1 a b p w1
    exact qu B ts σ1 ρ1 F1 H1 D b w1 (SPost.bd p a h rfl rfl rfl rfl)
  | bk ρ1 => rw [e] at h; exact h
  | ct ρ1 => rw [e] at h; exact h
  | rt r ρ1 => rw [e] at h; exact h
  | ex x ρ1 => rw [e] at h; exact h
  | bad => rw [e] at h; exact h
theorem sb_one {pn : List Nat} {st : Stmt} {f : Ms} (h1 : Ss X E pn st f) : SsB X E pn [st] f := by
  obtain ⟨t, pt, qt⟩ := h1
  exact ⟨_, pss_one pt, qt⟩
theorem ss_pass {pn : List Nat} {pos : Pos} : Ss X E pn (.Pass pos) (fun ρ => .nx ρ) := ⟨_, ps_pass, fun B ts σ ρ F H D hl w h => h σ F H rfl hl (Pins.refl _ _) w⟩
theorem ss_break {pn : List Nat} {pos : Pos} : Ss X E pn (.Break pos) (fun ρ => .bk ρ) := ⟨_, ps_break, fun B ts σ ρ F H D hl w h => h σ F H rfl hl (Pins.refl _ _) w⟩
theorem ss_continue {pn : List Nat} {pos : Pos} : Ss X E pn (.Continue pos) (fun ρ => .ct ρ) := ⟨_, ps_continue, fun B ts σ ρ F H D hl w h => h σ F H rfl hl (Pins.refl _ _) w⟩
def mSet (i : Nat) (f : M Sl) : Ms := fun ρ => (f ρ).st fun r ρ1 => .nx (ρ1.set i r)
def AsgEnds (D : Ends) (i : Nat) (σ : L2.St) : VK := fun x H1 => D.nx (σ.set i (some x)) H1
theorem post_set {B : Bs} {ts : List Sv} {pn : List Nat} {σ : L2.St} {i : Nat} {D : Ends} {m : Rs Sl} (hi : i ∉ pn) (h : SPost X E B ts pn σ D (m.st fun r ρ1 => .nx (ρ1.set i r))) : EPost X E B ts σ m (fun x H1 => D.nx (σ.set i (some x)) H1) := by
  cases m with
  | bad => exact h.elim
  | ex e ρ => exact fun hl c dx F H w q => h c dx σ F H rfl hl (Pins.refl _ _) w q
  | ok r ρ =>
    intro hl v F H w
    exact h _ F H (List.length_set) (by rw [List.length_set, List.length_set]; exact hl) (Pins.set hi) (W.store hl w)
theorem ss_set (i : Nat) {pn : List Nat} {x : Str} {e : Expr} {f : M Sl} {pos pos' : Pos} (h : Ev X E e f) (hN : X.N.Nodup) (hpn : i ∉ pn := by decide) (hi : X.N[i]? = some x := by rfl) (hx : Loc X.env.scope x := by first | exact .inl rfl | exact .inr rfl)
    (hs : swapsWith e (some (.Name x pos')) pos.line X.env = pure false := by rfl) (hf : X.fn x = true ∨ X.env.scope.names.lookup x = some .local := by first | exact .inl rfl | exact .inr rfl) : Ss X E pn (.Assign [.Name x pos'] e pos) (mSet i f) := by
  obtain ⟨t, pt, qt⟩ := h
  exact ⟨_, ps_set hN hi hx pt hs hf, fun B ts σ ρ F H D hl w h => qt B ts σ ρ F H _ hl w (post_set hpn h)⟩
def mRet (f : M Sl) : Ms := fun ρ => (f ρ).st fun r ρ1 => .rt r ρ1
theorem ss_ret {pn : List Nat} {e : Expr} {f : M Sl} {pos : Pos} (h : Ev X E e f) : Ss X E pn (.Return (some e) pos) (mRet f) := by
  obtain ⟨t, pt, qt⟩ := h
  refine ⟨_, ps_ret pt, fun B ts σ ρ F H D hl w h => qt B ts σ ρ F H _ hl w ?_⟩
  unfold mRet Rs.st at h
  cases e : f ρ with
  | bad => rw [e] at h; exact h.elim
  | ex x ρ1 => rw [e] at h; exact fun hl c dx F H w q => h c dx σ F H rfl hl (Pins.refl _ _) w q
  | ok r ρ1 => rw [e] at h; exact fun hl v F H w => h v σ F H rfl hl (Pins.refl _ _) w
theorem ss_retN {pn : List Nat} {pos : Pos} : Ss X E pn (.Return none pos) (fun ρ => .rt (.val .none) ρ) := ⟨_, ps_retN, fun B ts σ ρ F H D hl w h => h .non σ F H rfl hl (Pins.refl _ _) (w.more .non)⟩
def mDrop (f : M Sl) : Ms := fun ρ => (f ρ).st fun _ ρ1 => .nx ρ1
theorem ss_expr {pn : List Nat} {e : Expr} {f : M Sl} {pos : Pos} (h : Ev X E e f) (hs : swapsWith e none pos.line X.env = pure false := by rfl) : Ss X E pn (.Expr e pos) (mDrop f) := by
  obtain ⟨t, pt, qt⟩ := h
  refine ⟨_, ps_expr pt hs, fun B ts σ ρ F H D hl w h => qt B ts σ ρ F H _ hl w ?_⟩
  unfold mDrop Rs.st at h
  cases e : f ρ with
  | bad => rw [e] at h; exact h.elim
  | ex x ρ1 => rw [e] at h; exact fun hl c dx F H w q => h c dx σ F H rfl hl (Pins.refl _ _) w q
  | ok r ρ1 => rw [e] at h; exact fun hl v F H w => h σ F H rfl hl (Pins.refl _ _) w.tail
def mIfS (c : M Bool) (f g : Ms) : Ms := fun ρ => (c ρ).st fun b ρ1 => if b = true then f ρ1 else g ρ1
theorem ss_if {pn : List Nat} {c : Expr} {a b : List Stmt} {fc : M Bool} {f g : Ms} {pos : Pos} (hc : EvT X E c fc) (h : SsB X E pn a f) (h2 : SsB X E pn b g) : Ss X E pn (.If c a b pos) (mIfS fc f g) := by
  obtain ⟨t0, p0, q0⟩ := hc
  obtain ⟨t, pt, qt⟩ := h
  obtain ⟨u, pu, qu⟩ := h2
  refine ⟨_, ps_if p0 pt pu, fun B ts σ ρ F H D hl w h => q0 B ts σ ρ F H _ hl w ?_⟩
  unfold mIfS Rs.st at h
  cases e : fc ρ with
  | bad => rw [e] at h; exact h.elim
  | ex x ρ1 => rw [e] at h; exact fun hl c dx F H w q => h c dx σ F H rfl hl (Pins.refl _ _) w q
  | ok b ρ1 =>
    rw [e] at h
    simp only at h
    intro hl1 F1 H1 w1
    cases b with
    | true => exact qt B ts σ ρ1 F1 H1 D hl1 w1 h
    | false => exact qu B ts σ ρ1 F1 H1 D hl1 w1 h
/-- a text alone -/
theorem ss_doc {pn : List Nat} {x j pos pos'} : Ss X E pn (.Expr (.Constant (.str x) j pos) pos') (fun ρ => .nx ρ) := ⟨_, ps_doc, fun B ts σ ρ F H D hl w h => h σ F H rfl hl (Pins.refl _ _) w⟩

/-! ### targets -/
/-- tv: the slots that are stored -/
def Tg (X : Cx) (tv : List Nat) (tg : Expr) (k : Sl → Env → Option Env) : Prop := ∃ g, PG X tg g ∧ ∀ (B : Bs) (ts : List Sv) (σ : L2.St) (ρ ρ' : Env) (F H : Hp) (v : V) (r : Sl) (Q : L2.St → Hp → Prop), σ.length = ρ.length → W X.K X.mg B ((some v, r) :: (ts ++ zp σ ρ)) F H → k r ρ = some ρ' →
  (∀ σ' F' H', σ'.length = σ.length → σ'.length = ρ'.length → (∀ j, j ∉ tv → σ'[j]? = σ[j]?) → W X.K X.mg B (ts ++ zp σ' ρ') F' H' → Q σ' H') → g v σ H Q
def kName (i : Nat) : Sl → Env → Option Env := fun r ρ => some (ρ.set i r)
theorem tg_name (i : Nat) {x : Str} {pos : Pos} (hN : X.N.Nodup) (hi : X.N[i]? = some x := by rfl) (hx : Loc X.env.scope x := by first | exact .inl rfl | exact .inr rfl) (hf : X.fn x = true ∨ X.env.scope.names.lookup x = some .local := by first | exact .inl rfl | exact .inr rfl) : Tg X [i] (.Name x pos) (kName i) := by
  refine ⟨_, pg_name hN hi hx hf, fun B ts σ ρ ρ' F H v r Q hl w e q => ?_⟩
  cases e
  exact q _ F H (List.length_set) (by rw [List.length_set, List.length_set]; exact hl) (fun j hj => List.getElem?_set_ne (by rintro rfl; exact hj (by simp))) (W.store hl w)
def TgL (X : Cx) (tv : List Nat) (es : List Expr) (k : List D → Env → Option Env) : Prop := ∃ g, PGs X es g ∧ ∀ (B : Bs) (ts : List Sv) (σ : L2.St) (ρ ρ' : Env) (F H : Hp) (vs : List V) (ds : List D) (Q : L2.St → Hp → Prop), σ.length = ρ.length → vs.length = ds.length → W X.K X.mg B (mk vs (ds.map .val) ++ (ts ++ zp σ ρ)) F H → k ds ρ = some ρ' →
  (∀ σ' F' H', σ'.length = σ.length → σ'.length = ρ'.length → (∀ j, j ∉ tv → σ'[j]? = σ[j]?) → W X.K X.mg B (ts ++ zp σ' ρ') F' H' → Q σ' H') → g vs σ H Q
def kNil : List D → Env → Option Env
  | [], ρ => some ρ
  | _ :: _, _ => none
def kCons (k : Sl → Env → Option Env) (kr : List D → Env → Option Env) : List D → Env → Option Env
  | d :: ds, ρ => match k (.val d) ρ with
    | some ρ1 => kr ds ρ1
    | none => none
  | [], _ => none
theorem tgl_nil : TgL X [] [] kNil := by
  refine ⟨_, pgs_nil, fun B ts σ ρ ρ' F H vs ds Q hl hv w e q => ?_⟩
  cases ds with
  | cons _ _ => cases e
  | nil =>
    cases e
    have : vs = [] := List.length_eq_zero_iff.mp hv
    subst this
    exact ⟨rfl, q σ F H rfl hl (fun _ _ => rfl) w⟩
theorem tgl_cons {tv tw : List Nat} {e : Expr} {es : List Expr} {k : Sl → Env → Option Env} {kr : List D → Env → Option Env} (h1 : Tg X tv e k) (h2 : TgL X tw es kr) (hs : (assignEach (e :: es) X.env).map (·.2) = assign e X.env :: (assignEach es X.env).map (·.2) := by rfl) : TgL X (tv ++ tw) (e :: es) (kCons k kr) := by
  obtain ⟨g, pg, qg⟩ := h1
  obtain ⟨g', pg', qg'⟩ := h2
  refine ⟨_, pgs_cons pg pg' hs, fun B ts σ ρ ρ' F H vs ds Q hl hv w e q => ?_⟩
  match vs, ds, hv with
  | [], [], _ => cases e
  | v :: vs, d :: ds, hv =>
    simp only [kCons] at e
    cases e1 : k (.val d) ρ with
    | none => rw [e1] at e; cases e
    | some ρ1 =>
      rw [e1] at e
      simp only at e
      have w' : W X.K X.mg B ((some v, .val d) :: ((mk vs (ds.map .val) ++ ts) ++ zp σ ρ)) F H := by rw [List.append_assoc]; exact w
      refine ⟨v, vs, rfl, qg B (mk vs (ds.map .val) ++ ts) σ ρ ρ1 F H v (.val d) _ hl w' e1 fun σ1 F1 H1 a1 a2 a3 w1 => ?_⟩
      rw [List.append_assoc] at w1
      refine qg' B ts σ1 ρ1 ρ' F1 H1 vs ds Q a2 (by simpa using hv) w1 e fun σ2 F2 H2 b1 b2 b3 w2 => ?_
      exact q σ2 F2 H2 (b1.trans a1) b2 (fun j hj => (b3 j fun z => hj (List.mem_append_right _ z)).trans (a3 j fun z => hj (List.mem_append_left _ z))) w2
def kTup (n : Nat) (kr : List D → Env → Option Env) : Sl → Env → Option Env
  | .val (.tuple ds), ρ => if ds.length = n then kr ds ρ else none
  | _, _ => none
theorem tg_tup {tv : List Nat} {es : List Expr} {kk : Nat} {kr : List D → Env → Option Env} {n : Nat} {pos : Pos} (h : TgL X tv es kr) (hc : X.calm = true := by rfl) (hn : (assignEach es X.env).length = n := by rfl) (hst : (assignEach es X.env).findIdx? (·.1) = none := by rfl) : Tg X tv (.Tuple es kk pos) (kTup n kr) := by
  obtain ⟨g, pg, qg⟩ := h
  refine ⟨_, pg_tup hc pg hn hst, fun B ts σ ρ ρ' F H v r Q hl w e q => ?_⟩
  cases r with
  | val d =>
    cases d with
    | tuple ds =>
      simp only [kTup] at e
      by_cases hds : ds.length = n
      · rw [if_pos hds] at e
        cases W.val w with
        | tup h1 h2 =>
          rename_i a xs
          refine ⟨a, xs, rfl, Same.tq w.fh h1, h2.length.trans hds, ?_⟩
          refine qg B ts σ ρ ρ' F H xs ds Q hl h2.length ?_ e q
          have go : ∀ {xs : List V} {ds : List D} {l : List Sv}, RpL X.K F xs ds → W X.K X.mg B l F H → W X.K X.mg B (mk xs (ds.map .val) ++ l) F H := by
            intro xs
            induction xs with
            | nil => intro ds l h w; cases h; exact w
            | cons x xs ih => intro ds l h w; cases h with | cons a b => exact (ih b w).more a
          exact go h2 w.tail
      · rw [if_neg hds] at e; cases e
    | _ => cases e
  | _ => cases e

/-! ### calls of own defs -/
def SpF (K : Fg) (mg : Str → Option Value) (n : Nat) (m : List Sl → Fo) : Sp := fun vs H Q E => vs.length = n ∧ ∃ F rs fp, rs.length = n ∧ Same F H ∧ SlRs K mg F H (mk vs rs) fp ∧ fp.Nodup ∧ (∀ a ∈ fp, F a = none ∧ H a ≠ none) ∧
  match m rs with
  | .rt r ps => ∀ v F' H', ps.length = n → W K mg ⟨F, H, fp⟩ ((some v, r) :: mk vs ps) F' H' → Q v H'
  | .ex e ps => ∀ c dx F' H', ps.length = n → W K mg ⟨F, H, fp⟩ (mk vs ps) F' H' → ExR K mg F' H' e c dx → E c dx H'
  | .bad => False
def putBack : List (Option Nat) → List Sl → Env → Env
  | some i :: mv, s :: ps, ρ => putBack mv ps (ρ.set i s)
  | none :: mv, _ :: ps, ρ => putBack mv ps ρ
  | _, _, ρ => ρ
def mCall (m : List Sl → Fo) (mv : List (Option Nat)) (fs : M (List Sl)) : M Sl := fun ρ => (fs ρ).bd fun rs ρ1 => match m rs with
  | .rt r ps => .ok r (putBack mv ps ρ1)
  | .ex e ps => .ex e (putBack mv ps ρ1)
  | .bad => .bad
theorem putBack_len : ∀ (mv : List (Option Nat)) (ps : List Sl) (ρ : Env), (putBack mv ps ρ).length = ρ.length
  | some i :: mv, s :: ps, ρ => by unfold putBack; rw [putBack_len mv ps]; exact List.length_set
  | none :: mv, _ :: ps, ρ => by unfold putBack; exact putBack_len mv ps ρ
  | [], _, ρ => by unfold putBack; rfl
  | some _ :: _, [], ρ => by unfold putBack; rfl
  | none :: _, [], ρ => by unfold putBack; rfl
theorem W.putBack {K : Fg} {mg : Str → Option Value} {B : Bs} {ts : List Sv} {σ : L2.St} {F H : Hp} : ∀ {mv : List (Option Nat)} {vs : List V} {ps : List Sl} {ρ : Env}, σ.length = ρ.length → vs.length = ps.length → mv.length = ps.length → (∀ (a i : Nat), mv[a]? = some (some i) → ∃ v : V, vs[a]? = some v ∧ σ[i]? = some (some v)) →
    W K mg B (Fx.mk vs ps ++ (ts ++ zp σ ρ)) F H → W K mg B (ts ++ zp σ (Fx.putBack mv ps ρ)) F H
  | [], [], [], ρ, _, _, _, _, w => by unfold Fx.putBack; exact w
  | none :: mv, v :: vs, s :: ps, ρ, hl, h1, h2, hp, w => by
    unfold Fx.putBack
    exact W.putBack (mv := mv) (vs := vs) (ps := ps) hl (by simpa using h1) (by simpa using h2) (fun a i e => hp (a + 1) i (by simpa using e)) w.tail
  | some i :: mv, v :: vs, s :: ps, ρ, hl, h1, h2, hp, w => by
    unfold Fx.putBack
    obtain ⟨v', e1, e2⟩ := hp 0 i rfl
    have : v = v' := by simpa using e1
    subst this
    refine W.putBack (mv := mv) (vs := vs) (ps := ps) (set_len hl) (by simpa using h1) (by simpa using h2) (fun a i e => hp (a + 1) i (by simpa using e)) ?_
    have w2 : W K mg B ((some v, s) :: ((Fx.mk vs ps ++ ts) ++ zp σ ρ)) F H := by rw [List.append_assoc]; exact w
    have w3 := W.back hl e2 w2
    rw [List.append_assoc] at w3
    exact w3
  | [], _ :: _, [], _, _, h, _, _, _ => by simp at h
  | [], [], _ :: _, _, _, h, _, _, _ => by simp at h
  | [], _ :: _, _ :: _, _, _, _, h, _, _ => by simp at h
  | _ :: _, [], _ :: _, _, _, h, _, _, _ => by simp at h
  | _ :: _, _, [], _, _, _, h, _, _ => by simp at h
theorem call_run {m : List Sl → Fo} {n : Nat} {t : TA} {mv : List (Option Nat)} {fs : M (List Sl)} (hm : ∀ rs, rs.length = n → match m rs with | .rt _ ps => ps.length = n | .ex _ ps => ps.length = n | .bad => True) (hn : mv.length = n)
    (qt : ∀ (B : Bs) (ts : List Sv) (σ : L2.St) (ρ : Env) (F H : Hp) (Q : List V → Hp → Prop), σ.length = ρ.length → WX X B (ts ++ zp σ ρ) F H → APost X E B ts σ mv (fs ρ) Q → t σ H Q) : Run X E (tCall (SpF X.K X.mg n m) [] E t) (mCall m mv fs) := by
  intro B ts σ ρ F H Q hl w h
  refine qt B ts σ ρ F H _ hl w ?_
  unfold mCall Rs.bd at h
  cases e1 : fs ρ with
  | bad => rw [e1] at h; exact h.elim
  | ex x ρ1 => rw [e1] at h; exact h
  | ok rs ρ1 =>
    rw [e1] at h
    simp only at h
    intro hl1 vs F1 H1 hvs hmv hp w1
    have hrs : rs.length = n := hmv.symm.trans hn
    have hvn : vs.length = n := hvs.trans hrs
    obtain ⟨fp, a, nd, hn', kk⟩ := W.frame w1
    have q := hm rs hrs
    rw [List.append_nil]
    refine ⟨hvn, F1, rs, fp, hrs, w1.fh, a, nd, hn', ?_⟩
    cases e2 : m rs with
    | bad => rw [e2] at h; exact h.elim
    | rt r ps =>
      rw [e2] at h q
      simp only at h q
      intro v F2 H2 _ w2
      have w3 := kk w2
      refine h (by rw [putBack_len]; exact hl1) v F2 H2 ?_
      have w4 : W X.K X.mg B (mk vs ps ++ ((some v, r) :: ts ++ zp σ ρ1)) F2 H2 := by
        refine w3.perm ?_
        show List.Perm ((some v, r) :: (mk vs ps ++ (ts ++ zp σ ρ1))) _
        exact List.perm_middle.symm
      exact W.putBack hl1 (hvn.trans q.symm) (hn.trans q.symm) hp w4
    | ex e ps =>
      rw [e2] at h q
      simp only at h q
      intro c dx F2 H2 _ w2 ee
      exact h (by rw [putBack_len]; exact hl1) c dx F2 H2 (W.putBack hl1 (hvn.trans q.symm) (hn.trans q.symm) hp (kk w2)) ee
end
end
end Fx

set_option Elab.async false
set_option linter.all false
set_option maxRecDepth 100000
namespace Fx
open PySem PySem.Spec PyProof.Rows L2
noncomputable section

section
variable {X : Cx} {E : XK}
theorem passN {E : XK} : Passes CX0 X E := fun _ _ _ _ _ _ _ h => h.elim
/-! ### a call of an own def -/
theorem ev_call {CX : CXT} {k n : Nat} {f : Addr} {fd : FuncData} {ps : List Str} {m : List Sl → Fo} {x : Str} {p pos : Pos} {e : Expr} {es : List Expr} {mv : List (Option Nat)} {fs : M (List Sl)}
    (F : FnOk X.prog X.w X.K X.mg X.base CX k f fd ps (SpF X.K X.mg n m)) (hr : Room k X.A) (hmm : ∀ rs, rs.length = n → match m rs with | .rt _ ps => ps.length = n | .ex _ ps => ps.length = n | .bad => True)
    (hm : X.mg x = some (.ref f)) (hk : PySem.W.keepIn X.K (.ref f) = true) (hb : Binds X.K fd ps []) (hx : Passes CX X E) (ha : EvA X E (e :: es) mv fs) (hn : mv.length = n := by rfl) (hg : Gl X x := by rfl)
    (hdb : (x == ("__debug__" : Str)) = false := by decide) (he : starEach (e :: es) X.env = (false, eval e X.env) :: starEach es X.env := by rfl) (hpl : (backTo pos (starEach es X.env)).any (·.1) = false := by rfl) :
    Ev X E (.Call (.Name x p) (e :: es) [] pos) (mCall m mv fs) := by
  obtain ⟨t, pt, qt⟩ := ha
  exact ⟨_, pe_call F hr hg hm hk hb .nil hx pt hdb he hpl, call_run hmm hn qt⟩

/-! ### a def's body -/
/-- some slots forgotten -/
inductive Wk : List Sv → List Sv → Prop
  | nil : Wk [] []
  | same {x : Sv} {l m : List Sv} : Wk l m → Wk (x :: l) (x :: m)
  | und {x : Sv} {o : Option V} {l m : List Sv} : Wk l m → Wk (x :: l) ((o, .und) :: m)
theorem Wk.refl : ∀ l : List Sv, Wk l l
  | [] => .nil
  | _ :: l => .same (Wk.refl l)
theorem Wk.app : ∀ {a b c d : List Sv}, Wk a b → Wk c d → Wk (a ++ c) (b ++ d)
  | _, _, _, _, .nil, h => h
  | _, _, _, _, .same a, h => .same (Wk.app a h)
  | _, _, _, _, .und a, h => .und (Wk.app a h)
theorem Wk.sl {K : Fg} {mg : Str → Option Value} {F H : Hp} : ∀ {l m : List Sv} {fp : List Addr}, Wk l m → SlRs K mg F H l fp → ∃ fq, SlRs K mg F H m fq ∧ fq.Sublist fp
  | _, _, _, .nil, h => ⟨_, h, .refl _⟩
  | _, _, _, .same a, .cons h t => by
    obtain ⟨fq, b, c⟩ := a.sl t
    exact ⟨_, .cons h b, List.Sublist.append (.refl _) c⟩
  | _, _, _, .und a, .cons h t => by
    obtain ⟨fq, b, c⟩ := a.sl t
    exact ⟨_, .cons (fp := []) .und b, c.trans (List.sublist_append_right _ _)⟩
theorem W.wk {K : Fg} {mg : Str → Option Value} {B : Bs} {l m : List Sv} {F H : Hp} (w : W K mg B l F H) (k : Wk l m) : W K mg B m F H := by
  obtain ⟨fp, a, b, c⟩ := w.sl
  obtain ⟨fq, a', q⟩ := k.sl a
  exact ⟨w.fh, w.f0, w.nw, w.fr, w.gr, fq, a', b.sublist q, fun x hx => c x (q.subset hx)⟩
/-- by places -/
theorem Wk.zip : ∀ {σ σ' : L2.St} {ρ ρ' : Env}, σ.length = ρ.length → σ'.length = σ.length → ρ'.length = ρ.length → (∀ i : Nat, ρ'[i]? = some .und ∨ (σ'[i]? = σ[i]? ∧ ρ'[i]? = ρ[i]?)) → Wk (zp σ ρ) (zp σ' ρ')
  | [], [], [], [], _, _, _, _ => .nil
  | o :: σ, o' :: σ', r :: ρ, r' :: ρ', h1, h2, h3, h => by
    have t := Wk.zip (σ := σ) (σ' := σ') (ρ := ρ) (ρ' := ρ') (by simpa using h1) (by simpa using h2) (by simpa using h3) fun i => by simpa using h (i + 1)
    rcases h 0 with e | ⟨e1, e2⟩
    · have : r' = .und := by simpa using e
      subst this
      exact .und t
    · have e1' : o' = o := by simpa using e1
      have e2' : r' = r := by simpa using e2
      subst e1' e2'
      exact .same t
  | [], _ :: _, _, _, _, h, _, _ => by simp at h
  | _ :: _, [], _, _, _, h, _, _ => by simp at h
  | [], _, _ :: _, _, h, _, _, _ => by simp at h
  | _ :: _, _, [], _, h, _, _, _ => by simp at h
  | _, _, [], _ :: _, _, _, h, _ => by simp at h
  | _, _, _ :: _, [], _, _, h, _ => by simp at h
/-- what the parameters' objects hold at the end -/
def backP (pn : List Nat) : Nat → Nat → Env → List Sl
  | _, 0, _ => []
  | i, n + 1, s :: ρ => (if i ∈ pn then s else .und) :: backP pn (i + 1) n ρ
  | i, n + 1, [] => .und :: backP pn (i + 1) n []
theorem backP_len (pn : List Nat) : ∀ (n i : Nat) (ρ : Env), (backP pn i n ρ).length = n
  | 0, _, _ => rfl
  | n + 1, i, s :: ρ => congrArg (· + 1) (backP_len pn n (i + 1) ρ)
  | n + 1, i, [] => congrArg (· + 1) (backP_len pn n (i + 1) [])
theorem wk_back {pn : List Nat} : ∀ {vs : List V} {σ : L2.St} {ρ : Env} {i : Nat}, vs.length ≤ σ.length → σ.length = ρ.length → (∀ (j : Nat) (v : V), vs[j]? = some v → i + j ∈ pn → σ[j]? = some (some v)) → ∃ l, Wk (zp σ ρ) (mk vs (backP pn i vs.length ρ) ++ l)
  | [], σ, ρ, i, _, _, _ => ⟨zp σ ρ, Wk.refl _⟩
  | v :: vs, o :: σ, r :: ρ, i, h1, h2, h => by
    obtain ⟨l, t⟩ := wk_back (vs := vs) (σ := σ) (ρ := ρ) (i := i + 1) (by simpa using h1) (by simpa using h2) fun j u e q => by
      have := h (j + 1) u (by simpa using e) (by rw [show i + (j + 1) = i + 1 + j by omega]; exact q)
      simpa using this
    refine ⟨l, ?_⟩
    show Wk ((o, r) :: zp σ ρ) ((some v, if i ∈ pn then r else .und) :: (mk vs (backP pn (i + 1) vs.length ρ) ++ l))
    by_cases hi : i ∈ pn
    · rw [if_pos hi]
      have : o = some v := by simpa using h 0 v rfl (by simpa using hi)
      subst this
      exact .same t
    · rw [if_neg hi]; exact .und t
  | v :: vs, [], _, _, h, _, _ => by simp at h
  | v :: vs, _ :: _, [], _, _, h, _ => by simp at h
def mFn (nN n : Nat) (pn : List Nat) (g : Ms) : List Sl → Fo := fun rs => match g (rs ++ List.replicate (nN - n) .und) with
  | .nx ρ => .rt (.val .none) (backP pn 0 n ρ)
  | .rt r ρ => .rt r (backP pn 0 n ρ)
  | .ex e ρ => .ex e (backP pn 0 n ρ)
  | .bk _ => .bad
  | .ct _ => .bad
  | .bad => .bad
theorem mFn_len {nN n : Nat} {pn : List Nat} {g : Ms} (rs : List Sl) (_ : rs.length = n) : match mFn nN n pn g rs with | .rt _ ps => ps.length = n | .ex _ ps => ps.length = n | .bad => True := by
  unfold mFn
  cases g (rs ++ List.replicate (nN - n) .und) <;> simp only [backP_len]
theorem start_back {K : Fg} {mg : Str → Option Value} {N : List Str} {vs : List V} {n : Nat} {pn : List Nat} {σ' : L2.St} {ρ : Env} {B : Bs} {F H : Hp} {ts : List Sv} (hn : vs.length = n) (hpn : ∀ i ∈ pn, i < n) (hN : n ≤ N.length) (hl : σ'.length = (L2.start N vs).length) (hl2 : σ'.length = ρ.length)
    (p : Pins pn (L2.start N vs) σ') (w : W K mg B (ts ++ zp σ' ρ) F H) : W K mg B (ts ++ mk vs (backP pn 0 n ρ)) F H := by
  have e : (L2.start N vs).length = N.length := by unfold L2.start; rw [List.length_append, List.length_map, List.length_replicate]; omega
  obtain ⟨l, k⟩ := wk_back (pn := pn) (vs := vs) (σ := σ') (ρ := ρ) (i := 0) (by omega) hl2 fun j v e1 e2 => by
    have e2' : j ∈ pn := by simpa using e2
    rw [p j e2']
    unfold L2.start
    rw [List.getElem?_append_left (by rw [List.length_map]; exact (List.getElem?_eq_some_iff.mp e1).1), List.getElem?_map, e1]
    rfl
  have w2 := w.wk (Wk.app (Wk.refl ts) k)
  rw [← List.append_assoc, hn] at w2
  have w3 : W K mg B (l ++ (ts ++ mk vs (backP pn 0 n ρ))) F H := w2.perm List.perm_append_comm
  exact w3.drop
theorem start_zp {N : List Str} {vs : List V} {rs : List Sl} {n : Nat} (hv : vs.length = n) (hr : rs.length = n) : zp (L2.start N vs) (rs ++ List.replicate (N.length - n) Sl.und) = mk vs rs ++ List.replicate (N.length - n) (none, Sl.und) := by
  unfold L2.start
  rw [hv]
  show (vs.map some ++ List.replicate (N.length - n) none).zip (rs ++ List.replicate (N.length - n) Sl.und) = _
  rw [List.zip_append (by rw [List.length_map]; omega), List.zip_replicate, Nat.min_self]
theorem slRs_und {K : Fg} {mg : Str → Option Value} {F H : Hp} {o : Option V} : ∀ k : Nat, SlRs K mg F H (List.replicate k (o, .und)) []
  | 0 => .nil
  | k + 1 => .cons (fp := []) .und (slRs_und k)
section
variable {P : Program} {w : World} {K : Fg} {mg : Str → Option Value} {base : Heap}
theorem fn_ok {x qual : Str} {st : Stmt} {f : Addr} {fd : FuncData} {N ps : List Str} {k : Nat} {pn : List Nat} {g : Ms} (F : Fun K x qual st f fd) (S : FnScope N ps (defScope st)) (hpn : ∀ i ∈ pn, i < ps.length := by decide) (hN : ps.length ≤ N.length := by decide)
    (hb : ∀ (cdv : Value) (A : Around) (outer : List PySem.Env) (s : Shared) (H : Hp) (E : XK), Room k (A.deeper (envOfC qual (defScope st) s.heap.objs.size f cdv)) →
      SsB (cxOf CX0 P w K mg base N qual (defScope st) f cdv A outer s H E).nox E pn (defBody st) g) : FnOk P w K mg base CX0 (k + 1) f fd ps (SpF K mg ps.length (mFn N.length ps.length pn g)) := by
  refine F.ok S (fun vs H Q E h => h.1) fun cdv A outer s H vs Q E hr h => ?_
  obtain ⟨t, pt, qt⟩ := hb cdv A outer s H E hr
  refine ⟨t, pt, ?_⟩
  obtain ⟨hv, F0, rs, fp, hrs, fh, a, nd, hn, h⟩ := h
  have ew := start_zp (N := N) hv hrs
  have w0 : W K mg ⟨F0, H, fp⟩ (zp (L2.start N vs) (rs ++ List.replicate (N.length - ps.length) .und)) F0 H := by
    rw [ew]
    refine W.start fh ?_ nd hn
    have := a.app (slRs_und (K := K) (mg := mg) (F := F0) (H := H) (o := none) (N.length - ps.length))
    rw [List.append_nil] at this
    exact this
  have hl : (L2.start N vs).length = (rs ++ List.replicate (N.length - ps.length) Sl.und).length := by
    unfold L2.start
    rw [List.length_append, List.length_append, List.length_map, List.length_replicate, List.length_replicate]; omega
  refine qt ⟨F0, H, fp⟩ [] (L2.start N vs) _ F0 H _ hl w0 ?_
  unfold mFn at h
  cases e : g (rs ++ List.replicate (N.length - ps.length) .und) with
  | nx ρ =>
    rw [e] at h
    intro σ' F' H' h1 h2 p w1
    exact h .non F' H' (backP_len ..) (W.more (start_back hv hpn hN h1 h2 p w1) .non)
  | rt r ρ =>
    rw [e] at h
    intro v σ' F' H' h1 h2 p w1
    exact h v F' H' (backP_len ..) (start_back (ts := [(some v, r)]) hv hpn hN h1 h2 p w1)
  | ex x ρ =>
    rw [e] at h
    intro c dx σ' F' H' h1 h2 p w1 q
    exact h c dx F' H' (backP_len ..) (start_back (ts := []) hv hpn hN h1 h2 p w1) q
  | bk ρ => rw [e] at h; exact h.elim
  | ct ρ => rw [e] at h; exact h.elim
  | bad => rw [e] at h; exact h.elim
theorem fn_mk {x qual : Str} {st : Stmt} {f : Addr} {fd : FuncData} {N ps : List Str} {k nN n : Nat} {pn : List Nat} {g : Ms} (F : Fun K x qual st f fd) (S : FnScope N ps (defScope st)) (hN' : N.length = nN) (hn' : ps.length = n) (hpn : ∀ i ∈ pn, i < n) (hN : n ≤ nN)
    (hb : ∀ (cdv : Value) (A : Around) (outer : List PySem.Env) (s : Shared) (H : Hp) (E : XK), Room k (A.deeper (envOfC qual (defScope st) s.heap.objs.size f cdv)) →
      SsB (cxOf CX0 P w K mg base N qual (defScope st) f cdv A outer s H E).nox E pn (defBody st) g) : FnOk P w K mg base CX0 (k + 1) f fd ps (SpF K mg n (mFn nN n pn g)) := by
  subst hN' hn'
  exact fn_ok F S hpn hN hb
end

/-! ### what is walked -/
/-- J yields the data ds, one after another, while the slots at tmp stand -/
def Feed (X : Cx) (B : Bs) (J : It) (ds : List D) (tmp : List Sv) : Prop := ∀ (i : Nat) (l : List Sv) (F H : Hp), W X.K X.mg B (tmp ++ l) F H →
  (∀ d, ds[i]? = some d → J.go i H ∧ ∀ x H', J.yld i H x H' → ∃ F', W X.K X.mg B ((some x, .val d) :: (tmp ++ l)) F' H') ∧ (ds.length ≤ i → J.stop i H)
def IPost (X : Cx) (E : XK) (B : Bs) (ts : List Sv) (σ : L2.St) (m : Rs (List D)) (R : It → Hp → Prop) : Prop := match m with
  | .ok ds ρ => σ.length = ρ.length → ∀ J tmp F H, WX X B (tmp ++ (ts ++ zp σ ρ)) F H → Feed X B J ds tmp → R J H
  | .ex e ρ => σ.length = ρ.length → ∀ c dx F H, WX X B (ts ++ zp σ ρ) F H → ExR X.K X.mg F H e c dx → E c dx H
  | .bad => False
def EvI (X : Cx) (E : XK) (tg iter : Expr) (f : M (List D)) : Prop := ∃ wi, PI X tg iter wi ∧ ∀ (B : Bs) (ts : List Sv) (σ : L2.St) (ρ : Env) (F H : Hp) (R : It → Hp → Prop), σ.length = ρ.length → WX X B (ts ++ zp σ ρ) F H → IPost X E B ts σ (f ρ) R → wi σ H R
/-- a list or a tuple -/
def iSeq (K : Fg) (tl : TE) : TI := fun σ H R => tl σ H fun x H1 => ∃ a, x = .ref a ∧ (((∃ xs, SqL K H1 a xs) ∧ R (Itl K a) H1) ∨ ((∃ xs, SqT K H1 a xs) ∧ R (Itt K a) H1))
theorem pi_seq {tg l : Expr} {tl : TE} (hl : PE X l tl) : PI X tg l (iSeq X.K tl) := by
  refine ⟨fun pins s σ H R I h => ?_⟩
  refine thn (hl.run pins s σ H _ I h) fun v s1 ⟨x, H1, I1, r1, q1⟩ => ?_
  obtain ⟨a, e, q⟩ := q1
  subst e
  cases r1
  rcases q with ⟨⟨xs, hq⟩, q⟩ | ⟨⟨xs, hq⟩, q⟩
  · obtain ⟨its, rv, p, hz⟩ := I1.list hq
    refine wpAny_pyIter_list p.isList ?_
    refine ⟨s1.heap.objs.size, [s1.heap.objs.size], _, _, H1, rfl, I1.kept (t' := s1.toks) fun b o e => Heap.get?_push_of_some _ e, turn_list a _, ⟨_, Heap.get?_push_size _ rfl, rfl, rfl⟩, fun b hb => ?_, q⟩
    have e : b = s1.heap.objs.size := by simpa using hb
    subst e
    exact I1.fpOk (Nat.le_refl _) (I1.hok.fresh (Nat.le_refl _))
  · obtain ⟨its, rv, p, hz⟩ := I1.tuple hq
    refine wpAny_pyIter_tuple (show s1.heap.IsTuple a its.toArray from p) ?_
    refine ⟨s1.heap.objs.size, [s1.heap.objs.size], _, _, H1, rfl, I1.kept (t' := s1.toks) fun b o e => Heap.get?_push_of_some _ e, turn_tuple a _, ⟨_, Heap.get?_push_size _ rfl, rfl, rfl⟩, fun b hb => ?_, q⟩
    have e : b = s1.heap.objs.size := by simpa using hb
    subst e
    exact I1.fpOk (Nat.le_refl _) (I1.hok.fresh (Nat.le_refl _))
def D.seq? : D → Option (List D)
  | .list ds => some ds
  | .tuple ds => some ds
  | _ => none
def mSeqI (f : M Sl) : M (List D) := fun ρ => (f ρ).bd fun r ρ1 => match r.d? with
  | some d => match D.seq? d with
    | some ds => .ok ds ρ1
    | none => .bad
  | none => .bad
theorem W.rp {K : Fg} {mg : Str → Option Value} {B : Bs} {m : List Sv} {F H : Hp} {v : V} {d : D} (w : W K mg B ((some v, .val d) :: m) F H) : Rp K F v d := w.val
theorem feed_list {B : Bs} {a : Addr} {ds : List D} : Feed X B (Itl X.K a) ds [(some (.ref a), .val (.list ds))] := by
  intro i l F H w
  cases W.val w with
  | lst h r =>
    rename_i xs
    have q : SqL X.K H a xs := SqL.of (w.fh _ _ h)
    refine ⟨fun d hd => ?_, fun hi => ⟨xs, q, by rw [r.length]; exact hi⟩⟩
    obtain ⟨v, e1, e2⟩ := r.get hd
    refine ⟨⟨xs, v, q, e1⟩, fun x H' hy => ?_⟩
    obtain ⟨rfl, hy⟩ := hy
    have : v = x := Option.some.inj (e1.symm.trans (hy xs q))
    subst this
    exact ⟨F, w.more e2⟩
theorem feed_tup {B : Bs} {a : Addr} {ds : List D} : Feed X B (Itt X.K a) ds [(some (.ref a), .val (.tuple ds))] := by
  intro i l F H w
  cases W.val w with
  | tup h r =>
    rename_i xs
    have q : SqT X.K H a xs := Same.tq w.fh h
    refine ⟨fun d hd => ?_, fun hi => ⟨xs, q, by rw [r.length]; exact hi⟩⟩
    obtain ⟨v, e1, e2⟩ := r.get hd
    refine ⟨⟨xs, v, q, e1⟩, fun x H' hy => ?_⟩
    obtain ⟨rfl, hy⟩ := hy
    have : v = x := Option.some.inj (e1.symm.trans (hy xs q))
    subst this
    exact ⟨F, w.more e2⟩
theorem ei_seq {tg e : Expr} {f : M Sl} (h : Ev X E e f) : EvI X E tg e (mSeqI f) := by
  obtain ⟨t, pt, qt⟩ := h
  refine ⟨_, pi_seq pt, fun B ts σ ρ F H R hl w h => qt B ts σ ρ F H _ hl w ?_⟩
  unfold mSeqI Rs.bd at h
  cases e1 : f ρ with
  | bad => rw [e1] at h; exact h.elim
  | ex x ρ1 => rw [e1] at h; exact h
  | ok r ρ1 =>
    rw [e1] at h
    simp only at h
    intro hl1 v F1 H1 w1
    cases e2 : r.d? with
    | none => rw [e2] at h; exact h.elim
    | some d =>
      rw [e2] at h
      simp only at h
      obtain ⟨F2, w2, s2⟩ := w1.freeze e2
      have rp := w2.val
      cases d with
      | list ds =>
        cases rp with
        | lst h1 h2 =>
          exact ⟨_, rfl, .inl ⟨⟨_, SqL.of (w2.fh _ _ h1)⟩, h hl1 _ [_] F2 H1 w2 feed_list⟩⟩
      | tuple ds =>
        cases rp with
        | tup h1 h2 =>
          exact ⟨_, rfl, .inr ⟨⟨_, Same.tq w2.fh h1⟩, h hl1 _ [_] F2 H1 w2 feed_tup⟩⟩
      | _ => exact h.elim
/-- range -/
def rgOk (n : Int) : Bool := tru (-(2 ^ 62) ≤ n ∧ n < 2 ^ 62)
theorem rgOk_iff {n : Int} (h : rgOk n = true) : -(2 ^ 62) ≤ n ∧ n < 2 ^ 62 := tru_iff.mp h
def rgD (a b : Int) : List D := (List.range (b - a).toNat).map fun i => .int (a + (i : Nat))
theorem feed_range {B : Bs} {lo : Int} {n : Nat} : Feed X B (Itr lo n) ((List.range n).map fun i => .int (lo + (i : Nat))) [] := by
  intro i l F H w
  refine ⟨fun d hd => ?_, fun hi => by rw [List.length_map, List.length_range] at hi; exact hi⟩
  have hi : i < n := by
    have := (List.getElem?_eq_some_iff.mp hd).1
    rw [List.length_map, List.length_range] at this
    exact this
  rw [List.getElem?_map, List.getElem?_range hi] at hd
  have hd' : PyData.int (lo + (i : Nat)) = d := Option.some.inj hd
  subst hd'
  refine ⟨hi, fun x H' hy => ?_⟩
  obtain ⟨rfl, rfl⟩ := hy
  exact ⟨F, w.more (.int _)⟩
def mRg1 (fs : M (List Sl)) : M (List D) := fun ρ => (fs ρ).bd fun rs ρ1 => match rs with
  | [.val (.int j)] => match rgOk j with
    | true => .ok ((List.range j.toNat).map fun i => .int (0 + (i : Nat))) ρ1
    | false => .bad
  | _ => .bad
def mRg2 (fs : M (List Sl)) : M (List D) := fun ρ => (fs ρ).bd fun rs ρ1 => match rs with
  | [.val (.int i), .val (.int j)] => match rgOk i, rgOk j with
    | true, true => .ok (rgD i j) ρ1
    | _, _ => .bad
  | _ => .bad
theorem ei_range1 {tg a : Expr} {mv : List (Option Nat)} {fs : M (List Sl)} {p pos : Pos} (hm : X.mg "range" = none) (ha : EvA X E [a] mv fs) (hg : Gl X "range" := by rfl) (hs : starEach [a] X.env = [(false, eval a X.env)] := by rfl) : EvI X E tg (.Call (.Name "range" p) [a] [] pos) (mRg1 fs) := by
  obtain ⟨t, pt, qt⟩ := ha
  refine ⟨_, pi_range1 hg hm pt hs, fun B ts σ ρ F H R hl w h => qt B ts σ ρ F H _ hl w ?_⟩
  unfold mRg1 Rs.bd at h
  cases e1 : fs ρ with
  | bad => rw [e1] at h; exact h.elim
  | ex x ρ1 => rw [e1] at h; exact h
  | ok rs ρ1 =>
    rw [e1] at h
    simp only at h
    intro hl1 vs F1 H1 hvs hmv hp w1
    split at h
    · rename_i j
      cases e3 : rgOk j with
      | false => rw [e3] at h; exact h.elim
      | true =>
        rw [e3] at h
        match vs, hvs with
        | [v], _ =>
          have hv := W.val w1
          cases hv
          obtain ⟨q1, q2⟩ := rgOk_iff e3
          exact ⟨j, rfl, q1, q2, h hl1 _ [] F1 H1 (W.tail w1) feed_range⟩
    · exact h.elim
theorem ei_range2 {tg a b : Expr} {mv : List (Option Nat)} {fs : M (List Sl)} {p pos : Pos} (hm : X.mg "range" = none) (ha : EvA X E [a, b] mv fs) (hg : Gl X "range" := by rfl) (hs : starEach [a, b] X.env = [(false, eval a X.env), (false, eval b X.env)] := by rfl) (hs2 : starEach [b] X.env = [(false, eval b X.env)] := by rfl) :
    EvI X E tg (.Call (.Name "range" p) [a, b] [] pos) (mRg2 fs) := by
  obtain ⟨t, pt, qt⟩ := ha
  refine ⟨_, pi_range2 hg hm pt hs hs2, fun B ts σ ρ F H R hl w h => qt B ts σ ρ F H _ hl w ?_⟩
  unfold mRg2 Rs.bd at h
  cases e1 : fs ρ with
  | bad => rw [e1] at h; exact h.elim
  | ex x ρ1 => rw [e1] at h; exact h
  | ok rs ρ1 =>
    rw [e1] at h
    simp only at h
    intro hl1 vs F1 H1 hvs hmv hp w1
    split at h
    · rename_i i j
      split at h
      · rename_i e3 e4
        match vs, hvs with
        | [v, u], _ =>
          have hv := W.val w1
          have w2 := W.tail w1
          have hu := W.val w2
          cases hv
          cases hu
          obtain ⟨q1, q2⟩ := rgOk_iff e3
          obtain ⟨q3, q4⟩ := rgOk_iff e4
          exact ⟨i, j, rfl, ⟨q1, q2, q3, q4⟩, h hl1 _ [] F1 H1 (W.tail w2) feed_range⟩
      · exact h.elim
    · exact h.elim

/-! ### for -/
def loopM (k : Sl → Env → Option Env) (body : Ms) : List D → Ms
  | [], ρ => .nx ρ
  | d :: ds, ρ => match k (.val d) ρ with
    | none => .bad
    | some ρ1 => match body ρ1 with
      | .nx ρ2 => loopM k body ds ρ2
      | .ct ρ2 => loopM k body ds ρ2
      | .bk ρ2 => .nx ρ2
      | .rt r ρ2 => .rt r ρ2
      | .ex e ρ2 => .ex e ρ2
      | .bad => .bad
def mFor (fi : M (List D)) (k : Sl → Env → Option Env) (body : Ms) : Ms := fun ρ => (fi ρ).st (loopM k body)
/-- how a target's and a body's readings are run -/
def TgR (X : Cx) (tv : List Nat) (k : Sl → Env → Option Env) (g : TG) : Prop := ∀ (B : Bs) (ts : List Sv) (σ : L2.St) (ρ ρ' : Env) (F H : Hp) (v : V) (r : Sl) (Q : L2.St → Hp → Prop), σ.length = ρ.length → W X.K X.mg B ((some v, r) :: (ts ++ zp σ ρ)) F H → k r ρ = some ρ' →
  (∀ σ' F' H', σ'.length = σ.length → σ'.length = ρ'.length → (∀ j, j ∉ tv → σ'[j]? = σ[j]?) → W X.K X.mg B (ts ++ zp σ' ρ') F' H' → Q σ' H') → g v σ H Q
def SbR (X : Cx) (E : XK) (pn : List Nat) (g : Ms) (t : TS) : Prop := ∀ (B : Bs) (ts : List Sv) (σ : L2.St) (ρ : Env) (F H : Hp) (D : Ends), σ.length = ρ.length → WX X B (ts ++ zp σ ρ) F H → SPost X E B ts pn σ D (g ρ) → t D σ H
theorem for_run {pn tv : List Nat} {wi : TI} {tg' : TG} {tb : TS} {k : Sl → Env → Option Env} {g : Ms} (qg : TgR X tv k tg') (qb : SbR X E pn g tb) (htv : ∀ i ∈ pn, i ∉ tv) {B : Bs} {ts : List Sv} {σ : L2.St} {H : Hp} {D : Ends} {m : Rs (List Fx.D)}
    (hi : ∀ R, IPost X E B ts σ m R → wi σ H R) (h : SPost X E B ts pn σ D (m.st (loopM k g))) : tFor wi tg' tb D σ H := by
  unfold Rs.st at h
  refine hi _ ?_
  cases m with
  | bad => exact h.elim
  | ex x ρ1 => exact fun hl c dx F H w q => h c dx σ F H rfl hl (Pins.refl _ _) w q
  | ok ds ρ1 =>
    simp only at h
    intro hl1 J tmp F1 H1 w1 fd
    refine ⟨fun i m σ' H' => ∃ ρ' F', m = ds.length - i ∧ i ≤ ds.length ∧ σ'.length = σ.length ∧ σ'.length = ρ'.length ∧ Pins pn σ σ' ∧ WX X B (tmp ++ (ts ++ zp σ' ρ')) F' H' ∧ SPost X E B ts pn σ D (loopM k g (ds.drop i) ρ'),
      ⟨ds.length, ρ1, F1, rfl, Nat.zero_le _, rfl, hl1, Pins.refl _ _, w1, h⟩, ?_⟩
    rintro i m σ' H' ⟨ρ', F', rfl, hi, hl2, hl3, hp', w', h'⟩
    obtain ⟨f1, f2⟩ := fd i _ F' H' w'
    by_cases hlt : i < ds.length
    · have ed : ds.drop i = ds[i] :: ds.drop (i + 1) := List.drop_eq_getElem_cons hlt
      rw [ed] at h'
      unfold loopM at h'
      obtain ⟨g1, g2⟩ := f1 ds[i] (List.getElem?_eq_getElem hlt)
      refine .inr ⟨g1, fun σ'' H'' => ∃ ρ'' F'', σ''.length = σ.length ∧ σ''.length = ρ''.length ∧ Pins pn σ σ'' ∧ WX X B (tmp ++ (ts ++ zp σ'' ρ'')) F'' H'' ∧ SPost X E B ts pn σ D (loopM k g (ds.drop (i + 1)) ρ''),
        fun σ'' H'' ⟨ρ'', F'', a1, a2, a3, a4, a6⟩ => ⟨ds.length - (i + 1), by omega, ρ'', F'', rfl, hlt, a1, a2, a3, a4, a6⟩, fun x H2 hy => ?_⟩
      obtain ⟨F2, w2⟩ := g2 x H2 hy
      cases ek : k (.val ds[i]) ρ' with
      | none => rw [ek] at h'; exact h'.elim
      | some ρ2 =>
        rw [ek] at h'
        simp only at h'
        rw [← List.append_assoc] at w2
        refine qg B (tmp ++ ts) σ' ρ' ρ2 F2 H2 x _ _ hl3 w2 ek fun σ3 F3 H3 b1 b2 b3' w3 => ?_
        have b3 : Pins pn σ' σ3 := fun j hj => b3' j (htv j hj)
        refine qb B (tmp ++ ts) σ3 ρ2 F3 H3 _ b2 w3 ?_
        have drp : ∀ {σ4 : L2.St} {ρ4 : Env} {F4 H4 : Hp}, WX X B ((tmp ++ ts) ++ zp σ4 ρ4) F4 H4 → WX X B (ts ++ zp σ4 ρ4) F4 H4 := fun {σ4 ρ4 F4 H4} w => by
          rw [List.append_assoc] at w
          exact w.drop
        cases eb : g ρ2 with
        | bad => rw [eb] at h'; exact h'.elim
        | nx ρ3 =>
          rw [eb] at h'
          exact fun σ4 F4 H4 c1 c2 c3 w4 => ⟨ρ3, F4, c1.trans (b1.trans hl2), c2, (hp'.trans b3).trans c3, by rw [← List.append_assoc]; exact w4, h'⟩
        | ct ρ3 =>
          rw [eb] at h'
          exact fun σ4 F4 H4 c1 c2 c3 w4 => ⟨ρ3, F4, c1.trans (b1.trans hl2), c2, (hp'.trans b3).trans c3, by rw [← List.append_assoc]; exact w4, h'⟩
        | bk ρ3 =>
          rw [eb] at h'
          exact fun σ4 F4 H4 c1 c2 c3 w4 => h' σ4 F4 H4 (c1.trans (b1.trans hl2)) c2 ((hp'.trans b3).trans c3) (drp w4)
        | rt r ρ3 =>
          rw [eb] at h'
          refine fun v σ4 F4 H4 c1 c2 c3 w4 => h' v σ4 F4 H4 (c1.trans (b1.trans hl2)) c2 ((hp'.trans b3).trans c3) ?_
          have w5 : WX X B (tmp ++ ((some v, r) :: (ts ++ zp σ4 ρ3))) F4 H4 := by
            refine w4.perm ?_
            rw [List.append_assoc]
            exact List.perm_middle.symm
          exact w5.drop
        | ex e ρ3 =>
          rw [eb] at h'
          exact fun c dx σ4 F4 H4 c1 c2 c3 w4 q => h' c dx σ4 F4 H4 (c1.trans (b1.trans hl2)) c2 ((hp'.trans b3).trans c3) (drp w4) q
    · have : i = ds.length := by omega
      subst this
      rw [List.drop_length] at h'
      unfold loopM at h'
      exact .inl ⟨f2 (Nat.le_refl _), h' σ' F' H' hl2 hl3 hp' w'.drop⟩

theorem ss_for {pn tv : List Nat} {tg iter : Expr} {body : List Stmt} {fi : M (List D)} {k : Sl → Env → Option Env} {g : Ms} {pos : Pos} (hp : PassesOwn (model X.prog X.w) X.A X.env X.xe) (hi : EvI X E tg iter fi) (hg : Tg X tv tg k) (hb : SsB X E pn body g) (htv : ∀ i ∈ pn, i ∉ tv := by decide) (hc : X.calm = true := by rfl)
    (hs : ∀ x, foldedSetIterable iter X.env x = pure x := by intro _; rfl) : Ss X E pn (.For tg iter body [] pos) (mFor fi k g) := by
  obtain ⟨wi, pi, qi⟩ := hi
  obtain ⟨tg', pg, qg⟩ := hg
  obtain ⟨tb, pb, qb⟩ := hb
  exact ⟨_, ps_for hp hc pi pg pb hs, fun B ts σ ρ F H D hl w h => for_run qg qb htv (fun R hR => qi B ts σ ρ F H R hl w hR) h⟩

/-! ### comprehensions -/
def wipeS (ρ : Env) : List Nat → Env
  | [] => ρ
  | v :: vs => (wipeS ρ vs).set v .und
theorem wipeS_length (ρ : Env) : ∀ vs : List Nat, (wipeS ρ vs).length = ρ.length
  | [] => rfl
  | v :: vs => by unfold wipeS; rw [List.length_set, wipeS_length ρ vs]
theorem wipeS_at {ρ : Env} {i : Nat} : ∀ {vs : List Nat}, (i ∉ vs → (wipeS ρ vs)[i]? = ρ[i]?) ∧ (i ∈ vs → i < ρ.length → (wipeS ρ vs)[i]? = some .und)
  | [] => ⟨fun _ => rfl, fun h => by simp at h⟩
  | v :: vs => by
    obtain ⟨a, b⟩ := wipeS_at (ρ := ρ) (i := i) (vs := vs)
    unfold wipeS
    refine ⟨fun h => ?_, fun h hi => ?_⟩
    · rw [List.mem_cons, not_or] at h
      rw [List.getElem?_set_ne (fun e => h.1 e.symm)]
      exact a h.2
    · by_cases e : v = i
      · subst e; rw [List.getElem?_set_self (by rw [wipeS_length]; exact hi)]
      · rw [List.getElem?_set_ne e]
        exact b ((List.mem_cons.mp h).resolve_left fun z => e z.symm) hi
theorem wk_wipe {σ σ' : L2.St} {ρ : Env} {vs : List Nat} (hl : σ.length = ρ.length) (hl' : σ'.length = σ.length) (h : ∀ j, j ∉ vs → σ'[j]? = σ[j]?) : Wk (zp σ ρ) (zp σ' (wipeS ρ vs)) := by
  refine Wk.zip hl hl' (wipeS_length _ _) fun i => ?_
  by_cases hi : i ∈ vs
  · by_cases hlt : i < ρ.length
    · exact .inl (wipeS_at.2 hi hlt)
    · refine .inr ⟨?_, ?_⟩
      · rw [List.getElem?_eq_none (by omega), List.getElem?_eq_none (by omega)]
      · rw [List.getElem?_eq_none (by rw [wipeS_length]; omega), List.getElem?_eq_none (by omega)]
  · exact .inr ⟨h i hi, wipeS_at.1 hi⟩
theorem wipe_at {σ : L2.St} {i : Nat} : ∀ {vs : List Nat}, i ∈ vs → i < σ.length → (wipe σ vs)[i]? = some none
  | [], h, _ => by simp at h
  | v :: vs, h, hi => by
    unfold wipe
    by_cases e : v = i
    · subst e; rw [List.getElem?_set_self (by rw [wipe_length]; exact hi)]
    · rw [List.getElem?_set_ne e]
      exact wipe_at ((List.mem_cons.mp h).resolve_left fun z => e z.symm) hi
theorem wipe_eq {σ σ' : L2.St} {vs : List Nat} (hl : σ'.length = σ.length) (h : ∀ j, j ∉ vs → σ'[j]? = σ[j]?) : wipe σ' vs = wipe σ vs := by
  apply List.ext_getElem?
  intro i
  by_cases hi : i ∈ vs
  · by_cases hlt : i < σ.length
    · rw [wipe_at hi hlt, wipe_at hi (by omega)]
    · rw [List.getElem?_eq_none (by rw [wipe_length]; omega), List.getElem?_eq_none (by rw [wipe_length]; omega)]
  · rw [wipe_out hi, wipe_out hi, h i hi]
/-- the tests -/
def EvTs (X : Cx) (E : XK) (ifs : List Expr) (f : M Bool) : Prop := ∃ t, PTs X ifs t ∧ ∀ (B : Bs) (ts : List Sv) (σ : L2.St) (ρ : Env) (F H : Hp) (Q : Bool → Hp → Prop), σ.length = ρ.length → WX X B (ts ++ zp σ ρ) F H → TPost X E B ts σ (f ρ) Q → t σ H Q
def mYes : M Bool := fun ρ => .ok true ρ
theorem ets_nil : EvTs X E [] mYes := ⟨_, pts_nil, fun B ts σ ρ F H Q hl w h => h hl F H w⟩
theorem ets_one {c : Expr} {f : M Bool} (h : EvT X E c f) : EvTs X E [c] f := by
  obtain ⟨t, pt, qt⟩ := h
  exact ⟨_, pts_one pt, qt⟩
def compM (vs : List Nat) (k : Sl → Env → Option Env) (tt : M Bool) (fe : M Sl) : List D → List D → Env → Rs Sl
  | [], acc, ρ => .ok (.lst acc) ρ
  | d :: ds, acc, ρ => match k (.val d) ρ with
    | none => .bad
    | some ρ1 => match tt ρ1 with
      | .ok true ρ2 => match fe ρ2 with
        | .ok r ρ3 => match r.d? with
          | some y => match szOk (acc.length + 1) with
            | true => compM vs k tt fe ds (acc ++ [y]) (wipeS ρ3 vs)
            | false => .bad
          | none => .bad
        | _ => .bad
      | .ok false ρ2 => compM vs k tt fe ds acc (wipeS ρ2 vs)
      | _ => .bad
def mComp (vs : List Nat) (fi : M (List D)) (k : Sl → Env → Option Env) (tt : M Bool) (fe : M Sl) : M Sl := fun ρ => (fi ρ).bd fun ds ρ1 => compM vs k tt fe ds [] (wipeS ρ1 vs)
theorem W.app1 {K : Fg} {mg : Str → Option Value} {B : Bs} {m : List Sv} {F H : Hp} {p : Addr} {y : V} {d : D} {acc : List D} (w : W K mg B ((some y, .val d) :: (some (.ref p), .lst acc) :: m) F H) : ∃ vs, H p = some (.lst vs) ∧ vs.length = acc.length ∧ W K mg B ((some (.ref p), .lst (acc ++ [d])) :: m) F (upd H p (.lst (vs ++ [y]))) := by
  have r := w.val
  obtain ⟨q, vs, e, h, rp, n⟩ := w.tail.lst
  cases e
  refine ⟨vs, h, rp.length, ?_⟩
  exact w.tail.put (.lst h rp) (.lst upd_same (rp.app (.cons r .nil)))
abbrev Blk (X : Cx) (scope : Scope) (P : Cx → Prop) : Prop := ∀ (s : Shared) (H : Hp) (C : Addr) (cl : List (Str × Addr)) (fp : List Addr), P (X.blk s H scope (compEnvC scope cl C X.env) fp)
/-- the comprehension's parts, at each block -/
def cG (X : Cx) {scope : Scope} {tv : List Nat} {tg : Expr} {k : Sl → Env → Option Env} (hg : Blk X scope fun Y => Tg Y tv tg k) : TG := fun v σ H Q => ∀ s H' C cl fp, Classical.choose (hg s H' C cl fp) v σ H Q
def cT (X : Cx) {scope : Scope} {ifs : List Expr} {ft : M Bool} (ht : Blk X scope fun Y => EvTs Y E0 ifs ft) : TT := fun σ H Q => ∀ s H' C cl fp, Classical.choose (ht s H' C cl fp) σ H Q
def cE (X : Cx) {scope : Scope} {elt : Expr} {fe : M Sl} (he : Blk X scope fun Y => Ev Y E0 elt fe) : TE := fun σ H Q => ∀ s H' C cl fp, Classical.choose (he s H' C cl fp) σ H Q
theorem comp_core {elt tg : Expr} {ifs : List Expr} {scope : Scope} {vs tv : List Nat} {wi : TI} {k : Sl → Env → Option Env} {ft : M Bool} {fe : M Sl}
    (hg : Blk X scope fun Y => Tg Y tv tg k) (ht : Blk X scope fun Y => EvTs Y E0 ifs ft) (he : Blk X scope fun Y => Ev Y E0 elt fe) (htv : ∀ i ∈ tv, i ∈ vs) {B : Bs} {ts : List Sv} {σ : L2.St} {H : Hp} {Q : VK} {m : Rs (List D)}
    (hi : ∀ R, IPost X E B ts σ m R → wi σ H R) (h : EPost X E B ts σ (m.bd fun ds ρ1 => compM vs k ft fe ds [] (wipeS ρ1 vs)) Q) : tLc wi (cG X hg) (cT X ht) (cE X he) vs σ H Q := by
  refine hi _ ?_
  unfold Rs.bd at h
  cases m with
  | bad => exact h.elim
  | ex x ρ1 => exact h
  | ok ds ρ1 =>
    simp only at h
    intro hl1 J tmp F1 H1 w1 fd N hN
    have back : ∀ {σ' : L2.St} {ρ' : Env} {acc : List D} {F' H' : Hp}, σ'.length = ρ'.length → σ'.length = σ.length → (∀ j, j ∉ vs → σ'[j]? = (wipe σ vs)[j]?) → WX X B ((some (.ref N), .lst acc) :: (tmp ++ (ts ++ zp σ' ρ'))) F' H' → WX X B ((some (.ref N), .lst acc) :: (tmp ++ (ts ++ zp (wipe σ vs) (wipeS ρ' vs)))) F' H' := fun h1 h2 h3 w => by
      refine w.wk (.same (Wk.app (Wk.refl _) (Wk.app (Wk.refl _) (wk_wipe h1 ?_ fun j hj => (h3 j hj).symm))))
      rw [wipe_length]; exact h2.symm
    have w0 : WX X B ((some (.ref N), .lst []) :: (tmp ++ (ts ++ zp σ ρ1))) F1 (upd H1 N (.lst [])) := W.new_lst w1 (ds := []) .nil hN
    refine ⟨fun i m H' => ∃ ρ' F' acc, m = ds.length - i ∧ i ≤ ds.length ∧ σ.length = ρ'.length ∧ (∀ j ∈ vs, j < ρ'.length → ρ'[j]? = some .und) ∧ WX X B ((some (.ref N), .lst acc) :: (tmp ++ (ts ++ zp (wipe σ vs) ρ'))) F' H' ∧ EPost X E B ts σ (compM vs k ft fe (ds.drop i) acc ρ') Q,
      ⟨ds.length, wipeS ρ1 vs, F1, [], rfl, Nat.zero_le _, by rw [wipeS_length]; exact hl1, fun j hj hlt => wipeS_at.2 hj (by rw [wipeS_length] at hlt; exact hlt), back hl1 rfl (fun j hj => (wipe_out hj).symm) w0, h⟩, ?_⟩
    rintro i m H' ⟨ρ', F', acc, rfl, hi, hl2, hu, w', h'⟩
    have w'' : WX X B (tmp ++ ((some (.ref N), .lst acc) :: (ts ++ zp (wipe σ vs) ρ'))) F' H' := w'.perm List.perm_middle.symm
    obtain ⟨f1, f2⟩ := fd i _ F' H' w''
    by_cases hlt : i < ds.length
    · have ed : ds.drop i = ds[i] :: ds.drop (i + 1) := List.drop_eq_getElem_cons hlt
      rw [ed] at h'
      unfold compM at h'
      obtain ⟨g1, g2⟩ := f1 ds[i] (List.getElem?_eq_getElem hlt)
      refine .inr ⟨g1, fun H'' => ∃ ρ'' F'' acc', σ.length = ρ''.length ∧ (∀ j ∈ vs, j < ρ''.length → ρ''[j]? = some .und) ∧ WX X B ((some (.ref N), .lst acc') :: (tmp ++ (ts ++ zp (wipe σ vs) ρ''))) F'' H'' ∧ EPost X E B ts σ (compM vs k ft fe (ds.drop (i + 1)) acc' ρ'') Q,
        fun H'' ⟨ρ'', F'', acc', a2, a3, a4, a6⟩ => ⟨ds.length - (i + 1), by omega, ρ'', F'', acc', rfl, hlt, a2, a3, a4, a6⟩, fun x H2 hy => ?_⟩
      obtain ⟨F2, w2⟩ := g2 x H2 hy
      cases ek : k (.val ds[i]) ρ' with
      | none => rw [ek] at h'; exact h'.elim
      | some ρ2 =>
        rw [ek] at h'
        simp only at h'
        have w3 : WX X B ((some x, .val ds[i]) :: ((((some (.ref N), .lst acc) :: (tmp ++ ts))) ++ zp (wipe σ vs) ρ')) F2 H2 := by
          refine w2.perm (.cons _ ?_)
          rw [List.cons_append, List.append_assoc]
          exact List.perm_middle
        intro s H0 C cl fp
        refine (Classical.choose_spec (hg s H0 C cl fp)).2 B _ (wipe σ vs) ρ' ρ2 F2 H2 x _ _ (by rw [wipe_length]; exact hl2) w3 ek fun σ3 F3 H3 b1 b2 b3 w4 => ?_
        rw [wipe_length] at b1
        have b4 : ∀ j, j ∉ vs → σ3[j]? = (wipe σ vs)[j]? := fun j hj => b3 j fun z => hj (htv j z)
        have b5 : ∀ j, j ∉ vs → σ3[j]? = σ[j]? := fun j hj => (b4 j hj).trans (wipe_out hj)
        refine ⟨wipe_eq b1 b5, fun s H0 C cl fp => ?_⟩
        refine (Classical.choose_spec (ht s H0 C cl fp)).2 B _ σ3 ρ2 F3 H3 _ b2 w4 ?_
        cases et : ft ρ2 with
        | bad => rw [et] at h'; exact h'.elim
        | ex _ _ => rw [et] at h'; exact h'.elim
        | ok b ρ3 =>
          rw [et] at h'
          intro hl3 F4 H4 w5
          cases b with
          | false =>
            simp only at h'
            refine iteF ⟨wipeS ρ3 vs, F4, acc, by rw [wipeS_length]; exact b1.symm.trans hl3, fun j hj hlt => wipeS_at.2 hj (by rw [wipeS_length] at hlt; exact hlt), back hl3 b1 b4 ?_, h'⟩
            rw [← List.append_assoc]; exact w5
          | true =>
            simp only at h'
            refine iteT fun s H0 C cl fp => (Classical.choose_spec (he s H0 C cl fp)).2 B _ σ3 ρ3 F4 H4 _ hl3 w5 ?_
            cases ee : fe ρ3 with
            | bad => rw [ee] at h'; exact h'.elim
            | ex _ _ => rw [ee] at h'; exact h'.elim
            | ok r ρ4 =>
              rw [ee] at h'
              simp only at h'
              intro hl4 y F5 H5 w6
              cases er : r.d? with
              | none => rw [er] at h'; exact h'.elim
              | some yd =>
                rw [er] at h'
                simp only at h'
                cases es : szOk (acc.length + 1) with
                | false => rw [es] at h'; exact h'.elim
                | true =>
                  rw [es] at h'
                  simp only at h'
                  obtain ⟨F6, w7, _⟩ := w6.freeze er
                  obtain ⟨us, q1, q2, q3⟩ := W.app1 w7
                  refine ⟨us, q1, by rw [q2]; exact szOk_le es, wipeS ρ4 vs, F6, acc ++ [yd], by rw [wipeS_length]; exact b1.symm.trans hl4, fun j hj hlt => wipeS_at.2 hj (by rw [wipeS_length] at hlt; exact hlt), back hl4 b1 b4 ?_, h'⟩
                  rw [← List.append_assoc]; exact q3
    · have : i = ds.length := by omega
      subst this
      rw [List.drop_length] at h'
      unfold compM at h'
      refine .inl ⟨f2 (Nat.le_refl _), h' hl2 _ F' H' ?_⟩
      have w5 : WX X B (tmp ++ ((some (.ref N), .lst acc) :: (ts ++ zp (wipe σ vs) ρ'))) F' H' := w''
      refine w5.drop.wk (.same (Wk.app (Wk.refl _) ?_))
      refine Wk.zip (by rw [wipe_length]; exact hl2) (wipe_length _ _).symm rfl fun j => ?_
      by_cases hj : j ∈ vs
      · by_cases hlt : j < ρ'.length
        · exact .inl (hu j hj hlt)
        · exact .inr ⟨by rw [List.getElem?_eq_none (by omega), List.getElem?_eq_none (by rw [wipe_length]; omega)], rfl⟩
      · exact .inr ⟨(wipe_out hj).symm, rfl⟩
/-- a comprehension's reading, for pe_lc and ps_setLc alike -/
theorem comp_run {iter elt tg : Expr} {ifs : List Expr} {scope : Scope} {vs tv : List Nat} {fi : M (List D)} {k : Sl → Env → Option Env} {ft : M Bool} {fe : M Sl} (hi : EvI X E tg iter fi)
    (hg : Blk X scope fun Y => Tg Y tv tg k) (ht : Blk X scope fun Y => EvTs Y E0 ifs ft) (he : Blk X scope fun Y => Ev Y E0 elt fe) (htv : ∀ i ∈ tv, i ∈ vs) :
    ∃ wi g tt te, PI X tg iter wi ∧ (Blk X scope fun Y => PG Y tg g) ∧ (Blk X scope fun Y => PTs Y ifs tt) ∧ (Blk X scope fun Y => PE Y elt te) ∧ Run X E (tLc wi g tt te vs) (mComp vs fi k ft fe) := by
  obtain ⟨wi, pi, qi⟩ := hi
  refine ⟨wi, fun v σ H Q => ∀ s H' C cl fp, Classical.choose (hg s H' C cl fp) v σ H Q, fun σ H Q => ∀ s H' C cl fp, Classical.choose (ht s H' C cl fp) σ H Q, fun σ H Q => ∀ s H' C cl fp, Classical.choose (he s H' C cl fp) σ H Q, pi,
    fun s H' C cl fp => ⟨fun pins s1 σ H v u Q I r h => (Classical.choose_spec (hg s H' C cl fp)).1.run pins s1 σ H v u Q I r (h s H' C cl fp)⟩,
    fun s H' C cl fp => ⟨fun pins s1 σ H Q I h => (Classical.choose_spec (ht s H' C cl fp)).1.run pins s1 σ H Q I (h s H' C cl fp)⟩,
    fun s H' C cl fp => ⟨fun pins s1 σ H Q I h => (Classical.choose_spec (he s H' C cl fp)).1.run pins s1 σ H Q I (h s H' C cl fp)⟩, ?_⟩
  intro B ts σ ρ F H Q hl w h
  exact comp_core hg ht he htv (fun R hR => qi B ts σ ρ F H R hl w hR) h
theorem ev_comp {iter elt tg : Expr} {ifs : List Expr} {scope : Scope} {own : List (Str × Nat)} {tv : List Nat} {fi : M (List D)} {k : Sl → Env → Option Env} {ft : M Bool} {fe : M Sl} {pos : Pos} (hN : X.N.Nodup) (hi : EvI X E tg iter fi) (ok : BlkOk X.N X.env.scope scope own)
    (hg : Blk X scope fun Y => Tg Y tv tg k) (ht : Blk X scope fun Y => EvTs Y E0 ifs ft) (he : Blk X scope fun Y => Ev Y E0 elt fe) (htv : ∀ i ∈ tv, i ∈ own.map (·.2) := by decide) (hc : X.calm = true := by rfl) (hs : ∀ x, foldedSetIterable iter X.env x = pure x := by intro _; rfl) :
    Ev X E (.ListComp elt [⟨tg, iter, ifs, 0⟩] scope pos) (mComp (own.map (·.2)) fi k ft fe) := by
  obtain ⟨wi, g, tt, te, a, b, c, d, r⟩ := comp_run hi hg ht he htv
  exact ⟨_, pe_lc hc hN a ok b c d hs, r⟩
theorem ss_setComp (i : Nat) {pn : List Nat} {y : Str} {py : Pos} {iter elt tg : Expr} {ifs : List Expr} {scope : Scope} {own : List (Str × Nat)} {tv : List Nat} {fi : M (List D)} {k : Sl → Env → Option Env} {ft : M Bool} {fe : M Sl} {pos spos : Pos} (hN : X.N.Nodup) (hi : EvI X E tg iter fi)
    (ok : BlkOk X.N X.env.scope scope own) (hg : Blk X scope fun Y => Tg Y tv tg k) (ht : Blk X scope fun Y => EvTs Y E0 ifs ft) (he : Blk X scope fun Y => Ev Y E0 elt fe) (hsw : swapsWith (.ListComp elt [⟨tg, iter, ifs, 0⟩] scope pos) (some (.Name y py)) spos.line X.env = pure true) (hpn : i ∉ pn := by decide)
    (htv : ∀ i ∈ tv, i ∈ own.map (·.2) := by decide) (hy : X.N[i]? = some y := by rfl) (hyl : X.env.scope.names.lookup y = some .local := by rfl) (hc : X.calm = true := by rfl) (hs : ∀ x, foldedSetIterable iter X.env x = pure x := by intro _; rfl) :
    Ss X E pn (.Assign [.Name y py] (.ListComp elt [⟨tg, iter, ifs, 0⟩] scope pos) spos) (mSet i (mComp (own.map (·.2)) fi k ft fe)) := by
  obtain ⟨wi, g, tt, te, a, b, c, d, r⟩ := comp_run hi hg ht he htv
  exact ⟨_, ps_setLc hc hN hy hyl hsw a ok b c d hs, fun B ts σ ρ F H D hl w h => r B ts σ ρ F H _ hl w (post_set hpn h)⟩
end
end
end Fx

set_option Elab.async false
set_option linter.all false
set_option maxRecDepth 100000
namespace Fx
open PySem PySem.Spec PyProof.Rows L2
noncomputable section

section
variable {X : Cx} {pins : List (Addr × Obj)} {σ : L2.St} {F H : Hp} {s : Shared}
/-! data without dicts, in the library's words -/
mutual
theorem Rp.reads (I : Inv X pins σ H s) (e : Same F H) : ∀ {d : D} {v : V} {u : Value}, d.plain = true → Rp X.K F v d → RelV v u → ∃ as, Reads s.heap u d as
  | .none, _, _, _, h, r => by
    cases h
    cases r
    exact ⟨_, Reads.none⟩
  | .bool b, _, _, _, h, r => by
    cases h
    cases r
    exact ⟨_, Reads.bool b⟩
  | .int i, _, _, _, h, r => by
    cases h
    obtain ⟨t, rfl⟩ := r
    exact ⟨_, Reads.int i t⟩
  | .str x, _, _, _, h, r => by
    cases h
    obtain ⟨t, rfl⟩ := r
    exact ⟨_, Reads.str x t⟩
  | .list ds, _, _, c, h, r => by
    cases h with
    | lst hs ha =>
      cases r
      obtain ⟨its, rv, ⟨o, n, ho, hc, _, hd⟩, _⟩ := I.list (SqL.of (e _ _ hs))
      obtain ⟨as, hr⟩ := RpL.reads I e (by simpa [PyData.plain] using c) ha rv
      exact ⟨_, Reads.list ho hc hd hr⟩
  | .tuple ds, _, _, c, h, r => by
    cases h with
    | tup hs ha =>
      cases r
      obtain ⟨its, rv, ⟨o, ho, hc, n, hd⟩, _⟩ := I.tuple (Same.tq e hs)
      obtain ⟨as, hr⟩ := RpL.reads I e (by simpa [PyData.plain] using c) ha rv
      exact ⟨_, Reads.tuple ho hc hd hr⟩
  | .dict _, _, _, c, _, _ => by simp [PyData.plain] at c
theorem RpL.reads (I : Inv X pins σ H s) (e : Same F H) : ∀ {ds : List D} {vs : List V} {us : List Value}, PyData.plainAll ds = true → RpL X.K F vs ds → Vals vs us → ∃ as, ReadsAll s.heap us ds as
  | [], _, _, _, h, r => by
    cases h
    cases r
    exact ⟨_, ReadsAll.nil⟩
  | d :: ds, _, _, c, h, r => by
    have c' : d.plain = true ∧ PyData.plainAll ds = true := by simpa [PyData.plainAll] using c
    cases h with
    | cons h1 h2 =>
      cases r with
      | cons r1 r2 =>
        obtain ⟨as, q1⟩ := Rp.reads I e c'.1 h1 r1
        obtain ⟨bs, q2⟩ := RpL.reads I e c'.2 h2 r2
        exact ⟨_, ReadsAll.cons q1 q2⟩
end
end
/-- data that the comparisons take -/
def pl (d : D) : Bool := d.plain && decide (d.depth ≤ 40)
theorem pl_p {d : D} (h : pl d = true) : d.plain = true := by unfold pl at h; rw [Bool.and_eq_true] at h; exact h.1
theorem pl_d {d : D} (h : pl d = true) : d.depth ≤ 40 := by unfold pl at h; rw [Bool.and_eq_true] at h; exact of_decide_eq_true h.2

section
variable {X : Cx} {E : XK}
def rD2 (K : Fg) (ok : D → D → Bool) (g : D → D → Bool) : R2 := fun x y H Q => ∃ F d e, Same F H ∧ Rp K F x d ∧ Rp K F y e ∧ ok d e = true ∧ Q (.bl (g d e)) H
def okEq (a b : D) : Bool := pl a && pl b
theorem op_eqP (hu : X.A.units + 64 < cLine) : OpR X (compareOp .Eq) (rD2 X.K okEq PyData.eqv) := by
  intro pins s σ H x y v u Q I rx ry ⟨F, d, e, sf, hd, he, ok, q⟩
  unfold okEq at ok
  rw [Bool.and_eq_true] at ok
  obtain ⟨as, r1⟩ := Rp.reads I sf (pl_p ok.1) hd rx
  obtain ⟨bs, r2⟩ := Rp.reads I sf (pl_p ok.2) he ry
  have := pl_d ok.1
  exact PySem.SeqAt.eq_plain r1 r2 (pl_p ok.1) (pl_p ok.2) (by have := Nat.min_le_left d.depth e.depth; omega) ⟨.bl _, H, I, rfl, q⟩
theorem op_neP (hu : X.A.units + 64 < cLine) : OpR X (compareOp .NotEq) (rD2 X.K okEq fun a b => !PyData.eqv a b) := by
  intro pins s σ H x y v u Q I rx ry ⟨F, d, e, sf, hd, he, ok, q⟩
  unfold okEq at ok
  rw [Bool.and_eq_true] at ok
  obtain ⟨as, r1⟩ := Rp.reads I sf (pl_p ok.1) hd rx
  obtain ⟨bs, r2⟩ := Rp.reads I sf (pl_p ok.2) he ry
  have := pl_d ok.1
  exact PySem.SeqAt.ne_plain r1 r2 (pl_p ok.1) (pl_p ok.2) (by have := Nat.min_le_left d.depth e.depth; omega) ⟨.bl _, H, I, rfl, q⟩
theorem opl_D2 {ok : D → D → Bool} {g : D → D → Bool} : OpL X (rD2 X.K ok g) (fun a b => if ok a b = true then some (.val (.bool (g a b))) else none) := by
  intro B l F H v u a b rc Q w ra rb hg q
  by_cases h : ok a b = true
  · simp only [h, if_true] at hg
    cases hg
    exact ⟨F, a, b, w.fh, ra, rb, h, q _ F H (w.more (.bl _))⟩
  · simp only [h] at hg; cases hg
/-- in, not in: a list or a tuple -/
def seqD : D → List D
  | .list ds => ds
  | .tuple ds => ds
  | _ => []
def okIn (a b : D) : Bool := pl a && pl b && (match b with | .list _ => true | .tuple _ => true | _ => false)
theorem op_inP (hu : X.A.units + 64 < cLine) : OpR X (compareOp .In) (rD2 X.K okIn fun a b => (seqD b).any fun z => PyData.eqv z a) := by
  intro pins s σ H x y v u Q I rx ry ⟨F, d, e, sf, hd, he, ok, q⟩
  unfold okIn at ok
  rw [Bool.and_eq_true, Bool.and_eq_true] at ok
  obtain ⟨as, r1⟩ := Rp.reads I sf (pl_p ok.1.1) hd rx
  obtain ⟨bs, r2⟩ := Rp.reads I sf (pl_p ok.1.2) he ry
  have h1 := pl_d ok.1.1
  have h2 := pl_p ok.1.2
  cases e with
  | list ds => exact PySem.SeqAt.in_list_data r2 r1 (by simpa [PyData.plain] using h2) (pl_p ok.1.1) (by have := Nat.min_le_right (PyData.depthAll ds) d.depth; omega) ⟨.bl _, H, I, rfl, q⟩
  | tuple ds => exact PySem.SeqAt.in_tuple_data r2 r1 (by simpa [PyData.plain] using h2) (pl_p ok.1.1) (by have := Nat.min_le_right (PyData.depthAll ds) d.depth; omega) ⟨.bl _, H, I, rfl, q⟩
  | _ => simp at ok
theorem op_ninP (hu : X.A.units + 64 < cLine) : OpR X (compareOp .NotIn) (rD2 X.K okIn fun a b => !(seqD b).any fun z => PyData.eqv z a) := by
  intro pins s σ H x y v u Q I rx ry ⟨F, d, e, sf, hd, he, ok, q⟩
  unfold okIn at ok
  rw [Bool.and_eq_true, Bool.and_eq_true] at ok
  obtain ⟨as, r1⟩ := Rp.reads I sf (pl_p ok.1.1) hd rx
  obtain ⟨bs, r2⟩ := Rp.reads I sf (pl_p ok.1.2) he ry
  have h1 := pl_d ok.1.1
  have h2 := pl_p ok.1.2
  cases e with
  | list ds => exact PySem.SeqAt.notIn_list_data r2 r1 (by simpa [PyData.plain] using h2) (pl_p ok.1.1) (by have := Nat.min_le_right (PyData.depthAll ds) d.depth; omega) ⟨.bl _, H, I, rfl, q⟩
  | tuple ds => exact PySem.SeqAt.notIn_tuple_data r2 r1 (by simpa [PyData.plain] using h2) (pl_p ok.1.1) (by have := Nat.min_le_right (PyData.depthAll ds) d.depth; omega) ⟨.bl _, H, I, rfl, q⟩
  | _ => simp at ok
/-- the order -/
def okLt (a b : D) : Bool := match a, b with
  | .int _, .int _ => true
  | a, b => pl a && pl b && PySem.W.alike a b && !(match a with | .none => true | _ => false)
def ltD (a b : D) : Bool := match a, b with
  | .int i, .int j => decide (i < j)
  | a, b => PySem.W.dataLt a b
def leD (a b : D) : Bool := match a, b with
  | .int i, .int j => decide (i ≤ j)
  | a, b => !PySem.W.dataLt b a
theorem op_cmpP {op : CmpOp} {g : D → D → Bool} (hu : X.A.units + 64 < cLine)
    (hi : ∀ (i j : Int) (t u : Tok) (Q : Value → Shared → Prop) (s : Shared), Q (.bool (g (.int i) (.int j))) s → wpAny (model X.prog X.w) X.A (compareOp op (.int i t) (.int j u)) Q X.xe s)
    (hd : ∀ (s : Shared) (a b : Value) (da db : PyData) (as bs : List Addr) (Q : Value → Shared → Prop), Reads s.heap a da as → Reads s.heap b db bs → PySem.W.alike da db = true → da ≠ .none → X.A.units + min da.depth db.depth < cLine → (∀ i j, ¬ (da = .int i ∧ db = .int j)) → Q (.bool (g da db)) s → wpAny (model X.prog X.w) X.A (compareOp op a b) Q X.xe s) :
    OpR X (compareOp op) (rD2 X.K okLt g) := by
  intro pins s σ H x y v u Q I rx ry ⟨F, d, e, sf, hd', he, ok, q⟩
  by_cases hb : ∃ i j, d = .int i ∧ e = .int j
  · obtain ⟨i, j, rfl, rfl⟩ := hb
    cases hd'
    cases he
    obtain ⟨t, rfl⟩ := rx
    obtain ⟨t', rfl⟩ := ry
    exact hi i j t t' _ s ⟨.bl _, H, I, rfl, q⟩
  · have ok' : (pl d && pl e && PySem.W.alike d e && !(match d with | .none => true | _ => false)) = true := by
      cases d with
      | int i => cases e with
        | int j => exact absurd ⟨i, j, rfl, rfl⟩ hb
        | _ => exact ok
      | _ => exact ok
    rw [Bool.and_eq_true, Bool.and_eq_true, Bool.and_eq_true] at ok'
    obtain ⟨⟨⟨o1, o2⟩, o3⟩, o4⟩ := ok'
    obtain ⟨as, r1⟩ := Rp.reads I sf (pl_p o1) hd' rx
    obtain ⟨bs, r2⟩ := Rp.reads I sf (pl_p o2) he ry
    have := pl_d o1
    refine hd s v u d e as bs _ r1 r2 o3 (fun z => by subst z; simp at o4) (by have := Nat.min_le_left d.depth e.depth; omega) (fun i j z => hb ⟨i, j, z.1, z.2⟩) ⟨.bl _, H, I, rfl, q⟩
theorem lt_not {d e : D} (h : ∀ i j, ¬ (d = .int i ∧ e = .int j)) : ltD d e = PySem.W.dataLt d e := by
  unfold ltD
  split
  · rename_i i j; exact absurd ⟨rfl, rfl⟩ (h i j)
  · rfl
theorem le_not {d e : D} (h : ∀ i j, ¬ (d = .int i ∧ e = .int j)) : leD d e = !PySem.W.dataLt e d := by
  unfold leD
  split
  · rename_i i j; exact absurd ⟨rfl, rfl⟩ (h i j)
  · rfl
theorem op_ltP (hu : X.A.units + 64 < cLine) : OpR X (compareOp .Lt) (rD2 X.K okLt ltD) :=
  op_cmpP hu (fun _ _ _ _ _ _ q => lt_int q) fun s a b da db as bs Q r1 r2 h1 h2 h3 h4 q => PySem.W.lt_data r1 r2 h1 h2 h3 (by rw [← lt_not h4]; exact q)
theorem op_leP (hu : X.A.units + 64 < cLine) : OpR X (compareOp .LtE) (rD2 X.K okLt leD) :=
  op_cmpP hu (fun _ _ _ _ _ _ q => le_int q) fun s a b da db as bs Q r1 r2 h1 h2 h3 h4 q => PySem.W.le_data r1 r2 h1 h2 h3 (by rw [← le_not h4]; exact q)
theorem op_gtP (hu : X.A.units + 64 < cLine) : OpR X (compareOp .Gt) (rD2 X.K okLt fun a b => ltD b a) :=
  op_cmpP hu (fun _ _ _ _ _ _ q => gt_int q) fun s a b da db as bs Q r1 r2 h1 h2 h3 h4 q => PySem.W.gt_data r1 r2 h1 h2 h3 (by rw [← lt_not fun i j z => h4 j i ⟨z.2, z.1⟩]; exact q)
theorem op_geP (hu : X.A.units + 64 < cLine) : OpR X (compareOp .GtE) (rD2 X.K okLt fun a b => leD b a) :=
  op_cmpP hu (fun _ _ _ _ _ _ q => ge_int q) fun s a b da db as bs Q r1 r2 h1 h2 h3 h4 q => PySem.W.ge_data r1 r2 h1 h2 h3 (by rw [← le_not fun i j z => h4 j i ⟨z.2, z.1⟩]; exact q)
/-! is None -/
def isNoneD : D → Bool
  | .none => true
  | _ => false
theorem isNoneD_of {K : Fg} {F : Hp} {v : V} {a : D} (r : Rp K F v a) : decide (v = V.non) = isNoneD a := by cases r <;> rfl
theorem opl_isN : OpL X (fun x y H Q => y = .non ∧ Q (.bl (decide (x = .non))) H) (fun a b => match b with | .none => some (.val (.bool (isNoneD a))) | _ => none) := by
  intro B l F H v u a b rc Q w ra rb hg q
  cases b with
  | none =>
    cases rb
    refine ⟨rfl, ?_⟩
    simp only [Option.some.injEq] at hg
    subst hg
    rw [isNoneD_of ra]
    exact q _ F H (w.more (.bl _))
  | _ => cases hg
theorem opl_notN : OpL X (fun x y H Q => y = .non ∧ Q (.bl (!decide (x = .non))) H) (fun a b => match b with | .none => some (.val (.bool (!isNoneD a))) | _ => none) := by
  intro B l F H v u a b rc Q w ra rb hg q
  cases b with
  | none =>
    cases rb
    refine ⟨rfl, ?_⟩
    simp only [Option.some.injEq] at hg
    subst hg
    rw [isNoneD_of ra]
    exact q _ F H (w.more (.bl _))
  | _ => cases hg
/-! ints -/
theorem opl_I {C : Int → Int → Prop} {g : Int → Int → Int} : OpL X (rI C fun i j => .int (g i j)) (fun a b => match a, b with | .int i, .int j => if tru (C i j) = true then some (.val (.int (g i j))) else none | _, _ => none) := by
  intro B l F H v u a b rc Q w ra rb hg q
  dsimp only at hg
  split at hg
  · rename_i i j
    by_cases h : tru (C i j) = true
    · rw [if_pos h] at hg
      cases hg
      cases ra
      cases rb
      exact ⟨i, j, rfl, rfl, tru_iff.mp h, q _ F H (w.more (.int _))⟩
    · rw [if_neg h] at hg; cases hg
  · cases hg
theorem opl_I0 {g : Int → Int → Int} : OpL X (rI0 fun i j => .int (g i j)) (fun a b => match a, b with | .int i, .int j => some (.val (.int (g i j))) | _, _ => none) := by
  intro B l F H v u a b rc Q w ra rb hg q
  dsimp only at hg
  split at hg
  · rename_i i j
    cases hg
    cases ra
    cases rb
    exact ⟨i, j, rfl, rfl, q _ F H (w.more (.int _))⟩
  · cases hg
def CMulA (i j : Int) : Prop := CMul i j ∨ CMulW i j
theorem op_mulA : OpR X (binaryOp .Mult) (rI CMulA fun i j => .int (i * j)) := by
  intro pins s σ H x y v u Q I rx ry h
  obtain ⟨i, j, e1, e2, hc, q⟩ := h
  rcases hc with hc | hc
  · exact op_mul pins s σ H x y v u Q I rx ry ⟨i, j, e1, e2, hc, q⟩
  · exact op_mulW pins s σ H x y v u Q I rx ry ⟨i, j, e1, e2, hc, q⟩
def gMul (a b : D) : Option Sl := match a, b with | .int i, .int j => if tru (CMulA i j) = true then some (.val (.int (i * j))) else none | _, _ => none
def gMod (a b : D) : Option Sl := match a, b with | .int i, .int j => if tru (0 < j) = true then some (.val (.int (i % j))) else none | _, _ => none
def gDiv (a b : D) : Option Sl := match a, b with | .int i, .int j => if tru (CDivW i j) = true then some (.val (.int (i / j))) else none | _, _ => none
def gPow (a b : D) : Option Sl := match a, b with | .int i, .int j => if tru (CPow i j) = true then some (.val (.int (i ^ j.toNat))) else none | _, _ => none
def gShl (a b : D) : Option Sl := match a, b with | .int i, .int j => if tru (CPow i j) = true then some (.val (.int (i * 2 ^ j.toNat))) else none | _, _ => none
def gShr (a b : D) : Option Sl := match a, b with | .int i, .int j => if tru (0 ≤ j) = true then some (.val (.int (i / 2 ^ j.toNat))) else none | _, _ => none
def gAnd (a b : D) : Option Sl := match a, b with | .int i, .int j => some (.val (.int (Builtin.bitAnd i j))) | _, _ => none
def gSub (a b : D) : Option Sl := match a, b with | .int i, .int j => some (.val (.int (i - j))) | _, _ => none
def gEq (a b : D) : Option Sl := if okEq a b = true then some (.val (.bool (PyData.eqv a b))) else none
def gNe (a b : D) : Option Sl := if okEq a b = true then some (.val (.bool (!PyData.eqv a b))) else none
def gIn (a b : D) : Option Sl := if okIn a b = true then some (.val (.bool ((seqD b).any fun z => PyData.eqv z a))) else none
def gNin (a b : D) : Option Sl := if okIn a b = true then some (.val (.bool (!(seqD b).any fun z => PyData.eqv z a))) else none
def gLt (a b : D) : Option Sl := if okLt a b = true then some (.val (.bool (ltD a b))) else none
def gLe (a b : D) : Option Sl := if okLt a b = true then some (.val (.bool (leD a b))) else none
def gGt (a b : D) : Option Sl := if okLt a b = true then some (.val (.bool (ltD b a))) else none
def gGe (a b : D) : Option Sl := if okLt a b = true then some (.val (.bool (leD b a))) else none
def gIsN (a b : D) : Option Sl := match b with | .none => some (.val (.bool (isNoneD a))) | _ => none
def gNotN (a b : D) : Option Sl := match b with | .none => some (.val (.bool (!isNoneD a))) | _ => none
/-! + -/
def rAddP (K : Fg) : R2 := fun x y H Q => rI0 (fun i j => .int (i + j)) x y H Q ∨ ((∃ i j, x = .str i ∧ y = .str j ∧ i.length + j.length ≤ sizeLine ∧ Q (.str (i ++ j)) H) ∨ (rCatA K x y H Q ∨ rCat x y H Q))
theorem op_addP : OpR X (binaryOp .Add) (rAddP X.K) := op_add.or (op_add_str.or (op_catA.or op_cat))
def gAdd (a b : D) : Option Sl := match a, b with
  | .int i, .int j => some (.val (.int (i + j)))
  | .str i, .str j => if szOk (i.length + j.length) = true then some (.val (.str (i ++ j))) else none
  | .tuple xs, .tuple ys => if szOk (xs.length + ys.length) = true then some (.val (.tuple (xs ++ ys))) else none
  | .list xs, .list ys => if szOk (xs.length + ys.length) = true then some (.lst (xs ++ ys)) else none
  | _, _ => none
theorem opl_add : OpL X (rAddP X.K) gAdd := by
  intro B l F H v u a b rc Q w ra rb hg q
  unfold gAdd at hg
  split at hg
  · cases hg
    cases ra
    cases rb
    exact .inl ⟨_, _, rfl, rfl, q _ F H (w.more (.int _))⟩
  · rename_i i j
    by_cases h : szOk (i.length + j.length) = true
    · rw [if_pos h] at hg
      cases hg
      cases ra
      cases rb
      exact .inr (.inl ⟨_, _, rfl, rfl, szOk_le h, q _ F H (w.more (.str _))⟩)
    · rw [if_neg h] at hg; cases hg
  · rename_i xs ys
    by_cases h : szOk (xs.length + ys.length) = true
    · rw [if_pos h] at hg
      cases hg
      cases ra with
      | tup h1 r1 =>
        cases rb with
        | tup h2 r2 =>
          rename_i a vs b us
          refine .inr (.inr (.inl ⟨a, b, vs, us, rfl, rfl, Same.tq w.fh h1, Same.tq w.fh h2, by rw [r1.length, r2.length]; exact szOk_le h, fun e => ?_, fun _ e => ?_, fun _ _ p hp => ?_⟩))
          · subst e
            cases r1
            exact q _ F H (w.more (.tup h2 r2))
          · subst e
            cases r2
            rw [List.append_nil] at q
            exact q _ F H (w.more (.tup h1 r1))
          · exact q _ _ _ (w.new_tup (r1.app r2) hp)
    · rw [if_neg h] at hg; cases hg
  · rename_i xs ys
    by_cases h : szOk (xs.length + ys.length) = true
    · rw [if_pos h] at hg
      cases hg
      cases ra with
      | lst h1 r1 =>
        cases rb with
        | lst h2 r2 =>
          refine .inr (.inr (.inr ⟨_, _, _, _, rfl, rfl, w.fh _ _ h1, w.fh _ _ h2, by rw [r1.length, r2.length]; exact szOk_le h, fun p hp => ?_⟩))
          exact q _ _ _ (w.new_lst (r1.app r2) hp)
    · rw [if_neg h] at hg; cases hg
  · cases hg

/-! subscripts -/
theorem RpL.atI {K : Fg} {F : Hp} {vs : List V} {ds : List D} {i : Int} {d : D} (h : RpL K F vs ds) (e : L2.atI ds i = some d) : ∃ v, L2.atI vs i = some v ∧ Rp K F v d := by
  unfold L2.atI at e ⊢
  rw [h.length]
  cases q : ixN ds.length i with
  | none => rw [q] at e; cases e
  | some j =>
    rw [q] at e
    obtain ⟨v, a, b⟩ := h.get (i := j) (d := d) e
    exact ⟨v, a, b⟩
def gIx (a b : D) : Option Sl := match a, b with
  | .list xs, .int i => (L2.atI xs i).map .val
  | .tuple xs, .int i => (L2.atI xs i).map .val
  | .str z, .int i => if szOk z.length = true then (L2.atI z.cps.toList i).map fun c => .val (.str ⟨#[c]⟩) else none
  | _, _ => none
theorem opl_ix : OpL X (rIx X.K) gIx := by
  intro B l F H v u a b rc Q w ra rb hg q
  unfold gIx at hg
  split at hg
  · rename_i xs i
    cases e : L2.atI xs i with
    | none => rw [e] at hg; cases hg
    | some d =>
      rw [e] at hg
      cases hg
      cases rb
      cases ra with
      | lst h1 r1 =>
        obtain ⟨v, e1, r⟩ := r1.atI e
        exact .inl ⟨_, _, i, v, rfl, rfl, SqL.of (w.fh _ _ h1), e1, q _ F H (w.more r)⟩
  · rename_i xs i
    cases e : L2.atI xs i with
    | none => rw [e] at hg; cases hg
    | some d =>
      rw [e] at hg
      cases hg
      cases rb
      cases ra with
      | tup h1 r1 =>
        obtain ⟨v, e1, r⟩ := r1.atI e
        exact .inr (.inl ⟨_, _, i, v, rfl, rfl, Same.tq w.fh h1, e1, q _ F H (w.more r)⟩)
  · rename_i z i
    by_cases h : szOk z.length = true
    · rw [if_pos h] at hg
      cases e : L2.atI z.cps.toList i with
      | none => rw [e] at hg; cases hg
      | some c =>
        rw [e] at hg
        cases hg
        cases ra
        cases rb
        exact .inr (.inr ⟨z, i, c, rfl, rfl, szOk_le h, e, q _ F H (w.more (.str _))⟩)
    · rw [if_neg h] at hg; cases hg
  · cases hg
end
end
end Fx

set_option Elab.async false
set_option linter.all false
set_option maxRecDepth 100000
namespace Fx
open PySem PySem.Spec PyProof.Rows L2
noncomputable section

section
variable {X : Cx} {E : XK}
/-! ### calls of built-ins -/
def CallL (X : Cx) (r : List V → Hp → VK → Prop) (g : List D → Option Sl) : Prop := ∀ (B : Bs) (l : List Sv) (F H : Hp) (vs : List V) (ds : List D) (rc : Sl) (Q : VK), W X.K X.mg B l F H → RpL X.K F vs ds → g ds = some rc →
  (∀ x F' H', W X.K X.mg B ((some x, rc) :: l) F' H' → Q x H') → r vs H Q
def mCB (g : List D → Option Sl) (fs : M (List Sl)) : M Sl := fun ρ => (fs ρ).bd fun rs ρ1 => match dAll rs with
  | some ds => match g ds with
    | some r => .ok r ρ1
    | none => .bad
  | none => .bad
def RunA (X : Cx) (E : XK) (t : TA) (mv : List (Option Nat)) (fs : M (List Sl)) : Prop := ∀ (B : Bs) (ts : List Sv) (σ : L2.St) (ρ : Env) (F H : Hp) (Q : List V → Hp → Prop), σ.length = ρ.length → WX X B (ts ++ zp σ ρ) F H → APost X E B ts σ mv (fs ρ) Q → t σ H Q
theorem cb_run {r : List V → Hp → VK → Prop} {g : List D → Option Sl} {t : TA} {mv : List (Option Nat)} {fs : M (List Sl)} (hr : CallL X r g) (qt : RunA X E t mv fs) : Run X E (tCB r t) (mCB g fs) := by
  intro B ts σ ρ F H Q hl w h
  refine qt B ts σ ρ F H _ hl w ?_
  unfold mCB Rs.bd at h
  cases e1 : fs ρ with
  | bad => rw [e1] at h; exact h.elim
  | ex x ρ1 => rw [e1] at h; exact h
  | ok rs ρ1 =>
    rw [e1] at h
    simp only at h
    intro hl1 vs F1 H1 hvs _ _ w1
    cases e2 : dAll rs with
    | none => rw [e2] at h; exact h.elim
    | some ds =>
      rw [e2] at h
      simp only at h
      cases e3 : g ds with
      | none => rw [e3] at h; exact h.elim
      | some rc =>
        rw [e3] at h
        obtain ⟨F2, w2, s2, r2⟩ := w1.datas hvs e2
        exact hr B _ F2 H1 vs ds rc Q w2 r2 e3 fun x F' H' w' => h hl1 x F' H' w'
theorem ev_callB {r : List V → Hp → VK → Prop} {g : List D → Option Sl} {x : Str} {id : String} {p pos : Pos} {e : Expr} {es : List Expr} {mv : List (Option Nat)} {fs : M (List Sl)} (hc : CallR X (.builtin id) r) (hr : CallL X r g) (hm : X.mg x = none) (hv : bootBuiltins x = some (.builtin id)) (ha : EvA X E (e :: es) mv fs)
    (hg : Gl X x := by rfl) (hn : x ≠ "__name__" := by decide) (hdb : (x == ("__debug__" : Str)) = false := by decide) (he : starEach (e :: es) X.env = (false, eval e X.env) :: starEach es X.env := by rfl) (hpl : (backTo pos (starEach es X.env)).any (·.1) = false := by rfl) :
    Ev X E (.Call (.Name x p) (e :: es) [] pos) (mCB g fs) := by
  obtain ⟨t, pt, qt⟩ := ha
  exact ⟨_, pe_callB hc hg hm hv pt hn hdb he hpl, cb_run hr qt⟩
theorem ev_callTy {r : List V → Hp → VK → Prop} {g : List D → Option Sl} {x : Str} {T : String} {p pos : Pos} {e : Expr} {es : List Expr} {mv : List (Option Nat)} {fs : M (List Sl)} (hc : CallR X (.type T) r) (hr : CallL X r g) (hm : X.mg x = none) (hv : bootBuiltins x = some (.type T)) (ha : EvA X E (e :: es) mv fs)
    (hg : Gl X x := by rfl) (hn : x ≠ "__name__" := by decide) (hdb : (x == ("__debug__" : Str)) = false := by decide) (he : starEach (e :: es) X.env = (false, eval e X.env) :: starEach es X.env := by rfl) (hpl : (backTo pos (starEach es X.env)).any (·.1) = false := by rfl) :
    Ev X E (.Call (.Name x p) (e :: es) [] pos) (mCB g fs) := by
  obtain ⟨t, pt, qt⟩ := ha
  exact ⟨_, pe_callTy hc hg hm hv pt hn hdb he hpl, cb_run hr qt⟩
def rLen2 (K : Fg) : List V → Hp → VK → Prop := fun xs H Q => ∃ x n, xs = [x] ∧ LenV K x H n ∧ Q (.int n) H
def gLen : List D → Option Sl
  | [.list ds] => some (.val (.int ds.length))
  | [.tuple ds] => some (.val (.int ds.length))
  | [.str z] => if szOk z.length = true then some (.val (.int z.length)) else none
  | _ => none
theorem cl_len : CallL X (rLen2 X.K) gLen := by
  intro B l F H vs ds rc Q w r hg q
  unfold gLen at hg
  split at hg
  · cases hg
    cases r with
    | cons r0 t =>
      cases t
      cases r0 with
      | lst h1 r1 => exact ⟨_, _, rfl, .inl ⟨_, SqL.of (w.fh _ _ h1), r1.length.symm⟩, q _ F H (w.more (.int _))⟩
  · cases hg
    cases r with
    | cons r0 t =>
      cases t
      cases r0 with
      | tup h1 r1 => exact ⟨_, _, rfl, .inr ⟨_, Same.tq w.fh h1, r1.length.symm⟩, q _ F H (w.more (.int _))⟩
  · rename_i z
    by_cases h : szOk z.length = true
    · rw [if_pos h] at hg
      cases hg
      cases r with
      | cons r0 t =>
        cases t
        cases r0
        exact ⟨_, _, rfl, ⟨szOk_le h, rfl⟩, q _ F H (w.more (.int _))⟩
    · rw [if_neg h] at hg; cases hg
  · cases hg
/-- list(x) of a list, a tuple -/
def rListOf (K : Fg) : List V → Hp → VK → Prop := fun xs H Q => ∃ p ys, xs = [.ref p] ∧ (SqL K H p ys ∨ SqT K H p ys) ∧ ∀ l, H l = none → Q (.ref l) (upd H l (.lst ys))
def gListC : List D → Option Sl
  | [.list ds] => some (.lst ds)
  | [.tuple ds] => some (.lst ds)
  | _ => none
theorem cl_list : CallL X (rListOf X.K) gListC := by
  intro B l F H vs ds rc Q w r hg q
  unfold gListC at hg
  split at hg
  · cases hg
    cases r with
    | cons r0 t =>
      cases t
      cases r0 with
      | lst h1 r1 => exact ⟨_, _, rfl, .inl (SqL.of (w.fh _ _ h1)), fun p hp => q _ _ _ (w.new_lst r1 hp)⟩
  · cases hg
    cases r with
    | cons r0 t =>
      cases t
      cases r0 with
      | tup h1 r1 => exact ⟨_, _, rfl, .inr (Same.tq w.fh h1), fun p hp => q _ _ _ (w.new_lst r1 hp)⟩
  · cases hg
/-- tuple(x) -/
def gTupC : D → Option Sl
  | .list ds => some (.val (.tuple ds))
  | .tuple ds => some (.val (.tuple ds))
  | _ => none
theorem ul_tup : UnL X (L2.kTup X.K) gTupC := by
  intro B l F H v a rc Q w r hg q
  unfold gTupC at hg
  split at hg
  · cases hg
    cases r with
    | lst h1 r1 => exact .inl ⟨_, _, rfl, SqL.of (w.fh _ _ h1), fun p hp => q _ _ _ (w.new_tup r1 hp)⟩
  · cases hg
    cases r with
    | tup h1 r1 => exact .inr ⟨_, _, rfl, Same.tq w.fh h1, q _ F H (w.more (.tup h1 r1))⟩
  · cases hg
theorem ev_tuple {a : Expr} {fa : M Sl} {p pos : Pos} (hm : X.mg "tuple" = none) (ha : Ev X E a fa) (hg : Gl X "tuple" := by rfl) (na : starEach [a] X.env = (false, eval a X.env) :: starEach [] X.env := by rfl) : Ev X E (.Call (.Name "tuple" p) [a] [] pos) (mUn gTupC fa) :=
  ev_one (r := L2.kTup X.K) ul_tup ha fun pa => pe_tupleOf hg hm pa na
/-- list(script) -/
def mListScr (i : Nat) : M Sl := fun ρ => match ρ[i]? with
  | some (.scr ns) => .ok (.lst (ns.map .int)) ρ
  | _ => .bad
theorem rpl_ints {K : Fg} {F : Hp} : ∀ ns : List Int, RpL K F (ns.map V.int) (ns.map .int)
  | [] => .nil
  | n :: ns => .cons (.int n) (rpl_ints ns)
theorem ev_listScr (i : Nat) {x : Str} {p pos p2 : Pos} (hm : X.mg "list" = none) (hg : Gl X "list" := by rfl) (hN : X.N[i]? = some x := by rfl) (hv : Vis X.env.scope x := by first | exact Or.inl rfl | exact Or.inr (Or.inl rfl) | exact Or.inr (Or.inr rfl))
    (hd : (x == ("__debug__" : Str)) = false := by decide) (hcd : (x == ("__classdict__" : Str)) = false := by decide) (he : starEach [.Name x p2] X.env = (false, eval (.Name x p2) X.env) :: starEach [] X.env := by rfl) : Ev X E (.Call (.Name "list" p) [.Name x p2] [] pos) (mListScr i) := by
  refine ⟨_, pe_callTy call_list_of hg hm boot_list (pa_cons (pe_var hN hv hd hcd) pa_nil he) (by decide) (by decide) he rfl, fun B ts σ ρ F H Q hl w h => ?_⟩
  unfold mListScr at h
  split at h
  · rename_i ns e
    obtain ⟨o, l, h1, w1, k⟩ := w.at hl e
    obtain ⟨a, rfl, hs⟩ := w1.scr
    exact ⟨_, h1, a, ns.map V.int, rfl, .inl (Same.seq w.fh hs), fun p hp => h hl _ _ _ (w.new_lst (rpl_ints ns) hp)⟩
  · exact h.elim
/-- isinstance(x, T) -/
def tyD : D → String
  | .none => "NoneType"
  | .bool _ => "bool"
  | .int _ => "int"
  | .str _ => "str"
  | .list _ => "list"
  | .tuple _ => "tuple"
  | .dict _ => "dict"
theorem Rp.ty {K : Fg} {F H : Hp} (e : Same F H) {v : V} {d : D} (r : Rp K F v d) : TyX K H v (.type (tyD d)) := by
  cases r with
  | non => exact .base .non
  | bl b => exact .base (.bl b)
  | int i => exact .base (.int i)
  | str x => exact .base (.str x)
  | lst h _ => exact .base (.lst (e _ _ h))
  | tup h _ =>
    rcases Same.tq e h with (h | ⟨o, h⟩) | ⟨o, its, n, h, c, _⟩
    · exact .base (.tup h)
    · exact .fTuple h
    · exact .kTuple h c
  | dK h _ =>
    rcases Same.rd e h with h | ⟨o, h⟩
    · exact .base (.dK h)
    · exact .fDict h
def isiD (T : String) (d : D) : Option Bool := kitB (tyD d) T
def gIsi (T : String) (d : D) : Option Sl := (isiD T d).map fun b => .val (.bool b)
def mIsi (T : String) (fa : M Sl) : M Sl := mUn (gIsi T) fa
theorem ev_isi {T : String} {x : Str} {a : Expr} {fa : M Sl} {p pos p2 : Pos} (ha : Ev X E a fa) (hm : X.mg "isinstance" = none) (hm2 : X.mg x = none) (hv : bootBuiltins x = some (.type T)) (hg : Gl X "isinstance" := by rfl) (hg2 : Gl X x := by rfl) (hn2 : x ≠ "__name__" := by decide) (hdb2 : (x == ("__debug__" : Str)) = false := by decide)
    (he : starEach [a, .Name x p2] X.env = (false, eval a X.env) :: starEach [.Name x p2] X.env := by rfl) (he2 : starEach [.Name x p2] X.env = (false, eval (.Name x p2) X.env) :: starEach [] X.env := by rfl) (hpl : (backTo pos (starEach [.Name x p2] X.env)).any (·.1) = false := by rfl) :
    Ev X E (.Call (.Name "isinstance" p) [a, .Name x p2] [] pos) (mIsi T fa) := by
  obtain ⟨ta, pa, qa⟩ := ha
  refine ⟨_, pe_callB call_isi hg hm (by decide +kernel) (pa_cons pa (pa_cons (pe_bltn (v := .ty T) hg2 hm2 hv rfl hn2 hdb2) pa_nil he2) he) (by decide) (by decide) he hpl, fun B ts σ ρ F H Q hl w h => qa B ts σ ρ F H _ hl w ?_⟩
  unfold mIsi mUn Rs.bd at h
  cases e1 : fa ρ with
  | bad => rw [e1] at h; exact h.elim
  | ex x ρ1 => rw [e1] at h; exact h
  | ok ra ρ1 =>
    rw [e1] at h
    simp only at h
    intro hl1 v F1 H1 w1
    cases da : ra.d? with
    | none => rw [da] at h; exact h.elim
    | some d =>
      rw [da] at h
      simp only at h
      obtain ⟨F3, w3, s3⟩ := w1.freeze da
      unfold gIsi at h
      cases e2 : isiD T d with
      | none => rw [e2] at h; exact h.elim
      | some b =>
        rw [e2] at h
        exact ⟨v, .ty T, _, _, b, rfl, .ty T, Rp.ty w3.fh w3.val, kit_ty e2, h hl1 _ F3 H1 (w3.tail.more (.bl b))⟩
/-- min, max of a list of data -/
def okMin (ds : List D) : Bool := match ds with
  | [] => false
  | _ => PyData.plainAll ds && decide (PyData.depthAll ds ≤ 40) && ds.all (fun x => ds.all fun y => PySem.W.alike x y) && ds.all fun x => !isNoneD x
def rMinD (K : Fg) : List V → Hp → VK → Prop := fun vs H Q => ∃ F a d ds xs, vs = [V.ref a] ∧ Same F H ∧ H a = some (.lst xs) ∧ RpL K F xs (d :: ds) ∧ okMin (d :: ds) = true ∧ ∀ x, Rp K F x (PySem.W.minD d ds) → Q x H
def rMaxD (K : Fg) : List V → Hp → VK → Prop := fun vs H Q => ∃ F a d ds xs, vs = [V.ref a] ∧ Same F H ∧ H a = some (.lst xs) ∧ RpL K F xs (d :: ds) ∧ okMin (d :: ds) = true ∧ ∀ x, Rp K F x (PySem.W.maxD d ds) → Q x H

theorem Vals.get2 : ∀ {xs : List V} {us : List Value} {i : Nat} {u : Value}, Vals xs us → us[i]? = some u → ∃ x, xs[i]? = some x ∧ RelV x u
  | _, _, _, _, .nil, e => by simp at e
  | _, _, 0, _, .cons r _, e => by simp at e; subst e; exact ⟨_, rfl, r⟩
  | _, _, i + 1, u, .cons _ t, e => by
    obtain ⟨x, a, b⟩ := Vals.get2 (i := i) (u := u) t (by simpa using e)
    exact ⟨x, by simpa using a, b⟩
theorem RpL.get2 {K : Fg} {F : Hp} : ∀ {vs : List V} {ds : List D} {i : Nat} {v : V}, RpL K F vs ds → vs[i]? = some v → ∃ d, ds[i]? = some d ∧ Rp K F v d
  | _, _, _, _, .nil, e => by simp at e
  | _, _, 0, _, .cons h _, e => by simp at e; subst e; exact ⟨_, rfl, h⟩
  | _, _, i + 1, v, .cons _ t, e => by
    obtain ⟨d, a, b⟩ := RpL.get2 (i := i) (v := v) t (by simpa using e)
    exact ⟨d, by simpa using a, b⟩
theorem plainAll_get : ∀ {ds : List D} {i : Nat} {d : D}, PyData.plainAll ds = true → ds[i]? = some d → d.plain = true
  | [], _, _, _, e => by simp at e
  | x :: xs, 0, d, h, e => by
    have h' : x.plain = true ∧ PyData.plainAll xs = true := by simpa [PyData.plainAll] using h
    simp at e; subst e; exact h'.1
  | x :: xs, i + 1, d, h, e => by
    have h' : x.plain = true ∧ PyData.plainAll xs = true := by simpa [PyData.plainAll] using h
    exact plainAll_get (i := i) h'.2 (by simpa using e)
theorem okMin_of {d : D} {ds : List D} (h : okMin (d :: ds) = true) : PyData.plainAll (d :: ds) = true ∧ PyData.depthAll (d :: ds) ≤ 40 ∧ PySem.W.AlikeAll (d :: ds) := by
  unfold okMin at h
  simp only [Bool.and_eq_true, decide_eq_true_eq, List.all_eq_true] at h
  obtain ⟨⟨⟨h1, h2⟩, h3⟩, h4⟩ := h
  refine ⟨h1, h2, h3, fun x hx e => ?_⟩
  subst e
  have := h4 _ hx
  simp [isNoneD] at this
theorem cr_minD (hc : X.calm = true) (hu : X.A.units + 64 < cLine) : CallR X (.builtin "min") (rMinD X.K) := by
  intro pins s σ H vs us Q I r ⟨F, a, d, ds, xs, e, sf, hs, rp, ok, q⟩
  subst e
  obtain ⟨its, rv, hl, _⟩ := I.list (SqL.of hs)
  rw [Vals.ref1 r]
  obtain ⟨h1, h2, h3⟩ := okMin_of ok
  obtain ⟨as, rs⟩ := RpL.reads I sf h1 rp rv
  refine PySem.W.min_list_data (I.ok.hd hc) hl.isList (by simpa using rs) h3 (by omega) fun i v h' tk bs hi rm hk => ?_
  obtain ⟨x, ex, rx⟩ := Vals.get2 rv (by simpa using hi)
  obtain ⟨di, ed, rd⟩ := rp.get2 ex
  have I' : Inv X pins σ H { s with heap := h', toks := tk } := I.kept hk
  obtain ⟨cs, rc⟩ := Rp.reads I' sf (plainAll_get h1 ed) rd rx
  have : di = PySem.W.minD d ds := PySem.SeqAt.plain_unique _ _ _ _ _ (plainAll_get h1 ed) rc rm
  subst this
  exact ⟨x, H, I', rx, q x rd⟩
theorem cr_maxD (hc : X.calm = true) (hu : X.A.units + 64 < cLine) : CallR X (.builtin "max") (rMaxD X.K) := by
  intro pins s σ H vs us Q I r ⟨F, a, d, ds, xs, e, sf, hs, rp, ok, q⟩
  subst e
  obtain ⟨its, rv, hl, _⟩ := I.list (SqL.of hs)
  rw [Vals.ref1 r]
  obtain ⟨h1, h2, h3⟩ := okMin_of ok
  obtain ⟨as, rs⟩ := RpL.reads I sf h1 rp rv
  refine PySem.W.max_list_data (I.ok.hd hc) hl.isList (by simpa using rs) h3 (by omega) fun i v h' tk bs hi rm hk => ?_
  obtain ⟨x, ex, rx⟩ := Vals.get2 rv (by simpa using hi)
  obtain ⟨di, ed, rd⟩ := rp.get2 ex
  have I' : Inv X pins σ H { s with heap := h', toks := tk } := I.kept hk
  obtain ⟨cs, rc⟩ := Rp.reads I' sf (plainAll_get h1 ed) rd rx
  have : di = PySem.W.maxD d ds := PySem.SeqAt.plain_unique _ _ _ _ _ (plainAll_get h1 ed) rc rm
  subst this
  exact ⟨x, H, I', rx, q x rd⟩
def gMin : List D → Option Sl
  | [.list (d :: ds)] => if okMin (d :: ds) = true then some (.val (PySem.W.minD d ds)) else none
  | _ => none
def gMax : List D → Option Sl
  | [.list (d :: ds)] => if okMin (d :: ds) = true then some (.val (PySem.W.maxD d ds)) else none
  | _ => none
theorem cl_min : CallL X (rMinD X.K) gMin := by
  intro B l F H vs ds rc Q w r hg q
  unfold gMin at hg
  split at hg
  · rename_i d es
    by_cases h : okMin (d :: es) = true
    · rw [if_pos h] at hg
      cases hg
      cases r with
      | cons r0 t =>
        cases t
        cases r0 with
        | lst h1 r1 => exact ⟨F, _, d, es, _, rfl, w.fh, w.fh _ _ h1, r1, h, fun x rx => q x F H (w.more rx)⟩
    · rw [if_neg h] at hg; cases hg
  · cases hg
theorem cl_max : CallL X (rMaxD X.K) gMax := by
  intro B l F H vs ds rc Q w r hg q
  unfold gMax at hg
  split at hg
  · rename_i d es
    by_cases h : okMin (d :: es) = true
    · rw [if_pos h] at hg
      cases hg
      cases r with
      | cons r0 t =>
        cases t
        cases r0 with
        | lst h1 r1 => exact ⟨F, _, d, es, _, rfl, w.fh, w.fh _ _ h1, r1, h, fun x rx => q x F H (w.more rx)⟩
    · rw [if_neg h] at hg; cases hg
  · cases hg

/-! ### slices -/
def EvO (X : Cx) (E : XK) (o : Option Expr) (f : M (Option Int)) : Prop := ∃ t, PO X o t ∧ ∀ (B : Bs) (ts : List Sv) (σ : L2.St) (ρ : Env) (F H : Hp) (Q : Option Int → Hp → Prop), σ.length = ρ.length → WX X B (ts ++ zp σ ρ) F H →
  (match f ρ with
   | .ok n ρ' => σ.length = ρ'.length → ∀ F' H', WX X B (ts ++ zp σ ρ') F' H' → Q n H'
   | .ex e ρ' => σ.length = ρ'.length → ∀ c dx F' H', WX X B (ts ++ zp σ ρ') F' H' → ExR X.K X.mg F' H' e c dx → E c dx H'
   | .bad => False) → t σ H Q
def mNoPart : M (Option Int) := fun ρ => .ok none ρ
theorem eo_none : EvO X E none mNoPart := ⟨_, po_none, fun B ts σ ρ F H Q hl w h => h hl F H w⟩
def mPart (f : M Sl) : M (Option Int) := fun ρ => (f ρ).bd fun r ρ1 => match r with
  | .val (.int i) => .ok (some i) ρ1
  | _ => .bad
theorem eo_some {e : Expr} {f : M Sl} (h : Ev X E e f) : EvO X E (some e) (mPart f) := by
  obtain ⟨t, pt, qt⟩ := h
  refine ⟨_, po_some pt, fun B ts σ ρ F H Q hl w h => qt B ts σ ρ F H _ hl w ?_⟩
  unfold mPart Rs.bd at h
  cases e1 : f ρ with
  | bad => rw [e1] at h; exact h.elim
  | ex x ρ1 => rw [e1] at h; exact h
  | ok r ρ1 =>
    rw [e1] at h
    intro hl1 v F1 H1 w1
    cases r with
    | val d =>
      cases d with
      | int i =>
        cases w1.val
        exact ⟨i, rfl, h hl1 F1 H1 w1.tail⟩
      | _ => exact h.elim
    | _ => exact h.elim
def rSlP (K : Fg) : V → Option Int → Option Int → Hp → VK → Prop := fun x lo hi H Q => rSlL K x lo hi H Q ∨ (rSlA K x lo hi H Q ∨ rSlS x lo hi H Q)
theorem sl_P : L2.SlR X (rSlP X.K) := sl_list.or (sl_tupA.or sl_str)
def cutL (xs : List D) (lo hi : Option Int) : List D := (xs.drop (HT.sIx xs.length 0 lo)).take (HT.sIx xs.length xs.length hi - HT.sIx xs.length 0 lo)
theorem RpL.cut {K : Fg} {F : Hp} {vs : List V} {ds : List D} (h : RpL K F vs ds) (lo hi : Option Int) : RpL K F (cutV vs lo hi) (cutL ds lo hi) := by
  unfold cutV cutL
  rw [h.length]
  exact (h.drop _).take _
def gSl (a : D) (lo hi : Option Int) : Option Sl := match a with
  | .list xs => some (.lst (cutL xs lo hi))
  | .tuple xs => some (.val (.tuple (cutL xs lo hi)))
  | .str z => if szOk z.length = true then some (.val (.str (cutS z lo hi))) else none
  | _ => none
def mSlice (fa : M Sl) (fl fh : M (Option Int)) : M Sl := fun ρ => (fa ρ).bd fun ra ρ1 => (fl ρ1).bd fun lo ρ2 => (fh ρ2).bd fun hi ρ3 => match ra.d? with
  | some a => match gSl a lo hi with
    | some r => .ok r ρ3
    | none => .bad
  | none => .bad
theorem cut_whole {xs : List D} {lo hi : Option Int} (h : HT.sIx xs.length 0 lo = 0 ∧ HT.sIx xs.length xs.length hi = xs.length) : cutL xs lo hi = xs := by
  unfold cutL
  rw [h.1, h.2, List.drop_zero, Nat.sub_zero, List.take_length]
theorem sl_L {B : Bs} {l : List Sv} {F H : Hp} {v : V} {a : D} {lo hi : Option Int} {rc : Sl} {Q : VK} (w : W X.K X.mg B l F H) (r : Rp X.K F v a) (hg : gSl a lo hi = some rc) (q : ∀ x F' H', W X.K X.mg B ((some x, rc) :: l) F' H' → Q x H') : rSlP X.K v lo hi H Q := by
  unfold gSl at hg
  split at hg
  · cases hg
    cases r with
    | lst h1 r1 => exact .inl ⟨_, _, rfl, SqL.of (w.fh _ _ h1), fun p hp => q _ _ _ (w.new_lst (r1.cut lo hi) hp)⟩
  · rename_i xs
    cases hg
    cases r with
    | tup h1 r1 =>
      refine .inr (.inl ⟨_, _, rfl, Same.tq w.fh h1, fun e => ?_, fun _ p hp => q _ _ _ (w.new_tup (r1.cut lo hi) hp)⟩)
      rw [r1.length] at e
      have ec := cut_whole e
      exact q _ F H (w.more (by rw [ec]; exact .tup h1 r1))
  · rename_i z
    by_cases h : szOk z.length = true
    · rw [if_pos h] at hg
      cases hg
      cases r
      exact .inr (.inr ⟨z, rfl, szOk_le h, q _ F H (w.more (.str _))⟩)
    · rw [if_neg h] at hg; cases hg
  · cases hg
theorem ev_slice {e : Expr} {lo hi : Option Expr} {fa : M Sl} {fl fh : M (Option Int)} {p2 pos : Pos} (ha : Ev X E e fa) (hl : EvO X E lo fl) (hh : EvO X E hi fh) : Ev X E (.Subscript e (.Slice lo hi none p2) pos) (mSlice fa fl fh) := by
  obtain ⟨t, pt, qt⟩ := ha
  obtain ⟨tl, ptl, qtl⟩ := hl
  obtain ⟨th, pth, qth⟩ := hh
  refine ⟨_, pe_slice sl_P pt ptl pth, fun B ts σ ρ F H Q hl w h => qt B ts σ ρ F H _ hl w ?_⟩
  unfold mSlice Rs.bd at h
  cases e1 : fa ρ with
  | bad => rw [e1] at h; exact h.elim
  | ex x ρ1 => rw [e1] at h; exact h
  | ok ra ρ1 =>
    rw [e1] at h
    simp only at h
    intro hl1 v F1 H1 w1
    refine qtl B ((some v, ra) :: ts) σ ρ1 F1 H1 _ hl1 w1 ?_
    cases e2 : fl ρ1 with
    | bad => rw [e2] at h; exact h.elim
    | ex x ρ2 => rw [e2] at h; exact fun hl2 c dx F2 H2 w2 q => h hl2 c dx F2 H2 w2.tail q
    | ok lo' ρ2 =>
      rw [e2] at h
      simp only at h
      intro hl2 F2 H2 w2
      refine qth B ((some v, ra) :: ts) σ ρ2 F2 H2 _ hl2 w2 ?_
      cases e3 : fh ρ2 with
      | bad => rw [e3] at h; exact h.elim
      | ex x ρ3 => rw [e3] at h; exact fun hl3 c dx F3 H3 w3 q => h hl3 c dx F3 H3 w3.tail q
      | ok hi' ρ3 =>
        rw [e3] at h
        simp only at h
        intro hl3 F3 H3 w3
        cases da : ra.d? with
        | none => rw [da] at h; exact h.elim
        | some a =>
          rw [da] at h
          simp only at h
          cases eg : gSl a lo' hi' with
          | none => rw [eg] at h; exact h.elim
          | some rc =>
            rw [eg] at h
            obtain ⟨F4, w4, _⟩ := W.freeze w3 da
            exact sl_L w4.tail w4.val eg fun x F' H' w' => h hl3 x F' H' w'

/-! ### what a name owns -/
/-- x[i], x's own list read as it stands -/
def mIxO (i : Nat) (fb : M Sl) : M Sl := fun ρ => match ρ[i]? with
  | some (.lst _) => (fb ρ).bd fun rb ρ1 => match ρ1[i]? with
    | some (.lst ds) => match rb with
      | .val (.int k) => match L2.atI ds k with
        | some d => .ok (.val d) ρ1
        | none => .bad
      | _ => .bad
    | _ => .bad
  | _ => .bad
theorem ev_ixO (i : Nat) {x : Str} {px pos : Pos} {b : Expr} {fb : M Sl} (hb : Ev X E b fb) (hN : X.N[i]? = some x := by rfl) (hv : Vis X.env.scope x := by first | exact Or.inl rfl | exact Or.inr (Or.inl rfl) | exact Or.inr (Or.inr rfl))
    (hd : (x == ("__debug__" : Str)) = false := by decide) (hcd : (x == ("__classdict__" : Str)) = false := by decide) (hs : PlainIx b := by exact fun _ _ => rfl) : Ev X E (.Subscript (.Name x px) b pos) (mIxO i fb) := by
  obtain ⟨tb, pb, qb⟩ := hb
  refine ⟨_, pe_ix ix_list (pe_var hN hv hd hcd) pb hs, fun B ts σ ρ F H Q hl w h => ?_⟩
  unfold mIxO Rs.bd at h
  cases e0 : ρ[i]? with
  | none => rw [e0] at h; exact h.elim
  | some s =>
    rw [e0] at h
    cases s with
    | lst ds0 =>
      simp only at h
      obtain ⟨o, l, h1, w1, _⟩ := w.at hl e0
      obtain ⟨p, vs0, rfl, _⟩ := w1.lst
      refine ⟨_, h1, qb B ts σ ρ F H _ hl w ?_⟩
      cases e1 : fb ρ with
      | bad => rw [e1] at h; exact h.elim
      | ex x ρ1 => rw [e1] at h; exact h
      | ok rb ρ1 =>
        rw [e1] at h
        simp only at h
        intro hl1 u F1 H1 w1
        cases e2 : ρ1[i]? with
        | none => rw [e2] at h; exact h.elim
        | some s1 =>
          rw [e2] at h
          cases s1 with
          | lst ds =>
            simp only at h
            cases rb with
            | val d0 =>
              cases d0 with
              | int k =>
                simp only at h
                cases e3 : L2.atI ds k with
                | none => rw [e3] at h; exact h.elim
                | some d =>
                  rw [e3] at h
                  cases w1.val
                  have w2 := w1.tail
                  obtain ⟨o2, l2, h2, w3, _⟩ := W.at w2 hl1 e2
                  rw [h1] at h2
                  cases h2
                  obtain ⟨p', vs, e4, hp, rp, _⟩ := w3.lst
                  cases e4
                  obtain ⟨v, ev, rv⟩ := rp.atI e3
                  exact ⟨_, vs, k, v, rfl, rfl, SqL.of hp, ev, h hl1 v F1 H1 (w2.more rv)⟩
              | _ => exact h.elim
            | _ => exact h.elim
          | _ => exact h.elim
    | _ => exact h.elim
/-- len(x) -/
def mLenO (i : Nat) : M Sl := fun ρ => match ρ[i]? with
  | some (.lst ds) => .ok (.val (.int ds.length)) ρ
  | _ => .bad
theorem ev_lenO (i : Nat) {x : Str} {p pos p2 : Pos} (hm : X.mg "len" = none) (hg : Gl X "len" := by rfl) (hN : X.N[i]? = some x := by rfl) (hv : Vis X.env.scope x := by first | exact Or.inl rfl | exact Or.inr (Or.inl rfl) | exact Or.inr (Or.inr rfl))
    (hd : (x == ("__debug__" : Str)) = false := by decide) (hcd : (x == ("__classdict__" : Str)) = false := by decide) (he : starEach [.Name x p2] X.env = (false, eval (.Name x p2) X.env) :: starEach [] X.env := by rfl) : Ev X E (.Call (.Name "len" p) [.Name x p2] [] pos) (mLenO i) := by
  refine ⟨_, pe_callB call_len hg hm boot_len (pa_cons (pe_var hN hv hd hcd) pa_nil he) (by decide) (by decide) he rfl, fun B ts σ ρ F H Q hl w h => ?_⟩
  unfold mLenO at h
  split at h
  · rename_i ds e
    obtain ⟨o, l, h1, w1, k⟩ := w.at hl e
    obtain ⟨a, vs, rfl, hp, rp, _⟩ := w1.lst
    exact ⟨_, h1, _, _, rfl, .inl ⟨_, SqL.of hp, rp.length.symm⟩, h hl _ F H (w.more (.int _))⟩
  · exact h.elim
/-- x[i] = e -/
def mSetIx (i : Nat) (fi fe : M Sl) : Ms := fun ρ => (fe ρ).st fun r ρ1 => match r.d? with
  | some d => match ρ1[i]? with
    | some (.lst _) => (fi ρ1).st fun ri ρ2 => match ri with
      | .val (.int k) => match ρ2[i]? with
        | some (.lst ds) => match ixN ds.length k with
          | some j => .nx (ρ2.set i (.lst (ds.set j d)))
          | none => .bad
        | _ => .bad
      | _ => .bad
    | _ => .bad
  | none => .bad
theorem ss_setIx (i : Nat) {pn : List Nat} {x : Str} {px pt pos : Pos} {b e : Expr} {fi fe : M Sl} (he : Ev X E e fe) (hb : Ev X E b fi) (hN : X.N[i]? = some x := by rfl) (hv : Vis X.env.scope x := by first | exact Or.inl rfl | exact Or.inr (Or.inl rfl) | exact Or.inr (Or.inr rfl))
    (hd : (x == ("__debug__" : Str)) = false := by decide) (hcd : (x == ("__classdict__" : Str)) = false := by decide)
    (ha : ∀ v, assign (.Subscript (.Name x px) b pt) X.env v = (do
      let ov ← holding [v] (eval (.Name x px) X.env)
      let iv ← holding [v, ov] (eval b X.env)
      standAt pt
      holding [v, ov, iv] (setItem ov iv v)
      release [v, ov, iv] []) := by intro _; rfl)
    (hs : swapsWithSole [.Subscript (.Name x px) b pt] e pos.line X.env = pure false := by rfl) (hw : swappedStores [.Subscript (.Name x px) b pt] e X.env = pure none := by rfl)
    (h1 : (assignEach [.Subscript (.Name x px) b pt] X.env).map (·.2) = [assign (.Subscript (.Name x px) b pt) X.env] := by rfl) : Ss X E pn (.Assign [.Subscript (.Name x px) b pt] e pos) (mSetIx i fi fe) := by
  obtain ⟨te, pe, qe⟩ := he
  obtain ⟨tb, pb, qb⟩ := hb
  refine ⟨_, ps_asg pe (pg_sub (pe_var hN hv hd hcd) pb set_list ha) hs hw h1, fun B ts σ ρ F H D hl w h => qe B ts σ ρ F H _ hl w ?_⟩
  unfold mSetIx Rs.st at h
  cases e1 : fe ρ with
  | bad => rw [e1] at h; exact h.elim
  | ex x ρ1 => rw [e1] at h; exact fun hl c dx F H w q => h c dx σ F H rfl hl (Pins.refl _ _) w q
  | ok r ρ1 =>
    rw [e1] at h
    simp only at h
    intro hl1 v F1 H1 w1
    cases da : r.d? with
    | none => rw [da] at h; exact h.elim
    | some d =>
      rw [da] at h
      simp only at h
      obtain ⟨F2, w2, _⟩ := w1.freeze da
      cases e0 : ρ1[i]? with
      | none => rw [e0] at h; exact h.elim
      | some s =>
        rw [e0] at h
        cases s with
        | lst ds0 =>
          simp only at h
          obtain ⟨o, l, g1, w3, _⟩ := W.at (ts := (some v, .val d) :: ts) w2 hl1 e0
          obtain ⟨p, vs0, rfl, _⟩ := w3.lst
          refine ⟨_, g1, qb B ((some v, .val d) :: ts) σ ρ1 F2 H1 _ hl1 w2 ?_⟩
          cases e2 : fi ρ1 with
          | bad => rw [e2] at h; exact h.elim
          | ex x ρ2 => rw [e2] at h; exact fun hl c dx F H w q => h c dx σ F H rfl hl (Pins.refl _ _) w.tail q
          | ok ri ρ2 =>
            rw [e2] at h
            simp only at h
            intro hl2 u F3 H3 w4
            cases ri with
            | val d0 =>
              cases d0 with
              | int k =>
                simp only at h
                cases e3 : ρ2[i]? with
                | none => rw [e3] at h; exact h.elim
                | some s2 =>
                  rw [e3] at h
                  cases s2 with
                  | lst ds =>
                    simp only at h
                    cases e4 : ixN ds.length k with
                    | none => rw [e4] at h; exact h.elim
                    | some j =>
                      rw [e4] at h
                      cases w4.val
                      have w5 := w4.tail
                      have rv : Rp X.K F3 v d := W.val w5
                      obtain ⟨o2, l2, g2, w6, kk⟩ := W.at (ts := ts) w5.tail hl2 e3
                      rw [g1] at g2
                      cases g2
                      obtain ⟨p', vs, e5, hp, rp, _⟩ := w6.lst
                      cases e5
                      refine ⟨_, vs, k, j, rfl, rfl, hp, by rw [rp.length]; exact e4, ?_⟩
                      refine h σ F3 _ rfl (set_len hl2) (Pins.refl _ _) (kk ?_)
                      exact w6.put (.lst hp rp) (.lst upd_same (rp.set rv j))
                  | _ => exact h.elim
              | _ => exact h.elim
            | _ => exact h.elim
        | _ => exact h.elim
/-- a method of what a name owns -/
def MtL (X : Cx) (r : V → List V → Hp → VK → Prop) (g : Sl → List D → Option (Sl × Sl)) : Prop := ∀ (B : Bs) (l : List Sv) (F H : Hp) (v : V) (vs : List V) (s s' : Sl) (ds : List D) (rc : Sl) (Q : VK), W X.K X.mg B ((some v, s) :: l) F H → RpL X.K F vs ds → g s ds = some (s', rc) →
  (∀ x F' H', W X.K X.mg B ((some x, rc) :: (some v, s') :: l) F' H' → Q x H') → r v vs H Q
def Sl.ty : Sl → String
  | .lst _ => "list"
  | .dK _ => "dict"
  | .dT _ => "dict"
  | _ => ""
def mMeth (i : Nat) (T : String) (g : Sl → List D → Option (Sl × Sl)) (fs : M (List Sl)) : M Sl := fun ρ => match ρ[i]? with
  | some s => match s.ty == T with
    | true => (fs ρ).bd fun rs ρ1 => match dAll rs with
      | some ds => match ρ1[i]? with
        | some s1 => match g s1 ds with
          | some (s', rc) => .ok rc (ρ1.set i s')
          | none => .bad
        | none => .bad
      | none => .bad
    | false => .bad
  | none => .bad
theorem W.tyv {K : Fg} {mg : Str → Option Value} {B : Bs} {m : List Sv} {F H : Hp} {o : Option V} {s : Sl} {T : String} (w : W K mg B ((o, s) :: m) F H) (hT : T ≠ "") (h : (s.ty == T) = true) : ∃ v, o = some v ∧ tyV K T v H := by
  have h' : s.ty = T := by simpa using h
  subst h'
  cases s with
  | lst ds =>
    obtain ⟨p, vs, rfl, hp, _⟩ := w.lst
    exact ⟨_, rfl, .inl ⟨rfl, _, SqL.of hp⟩⟩
  | dK ds =>
    obtain ⟨p, vs, rfl, hp, _⟩ := w.dK
    exact ⟨_, rfl, .inr (.inr (.inl ⟨rfl, .inl ⟨_, hp⟩⟩))⟩
  | dT ds =>
    obtain ⟨p, vs, rfl, hp, _⟩ := w.dT
    exact ⟨_, rfl, .inr (.inr (.inl ⟨rfl, .inr ⟨_, hp⟩⟩))⟩
  | _ => exact absurd rfl hT
theorem ev_meth (i : Nat) {T id : String} {name : Str} {r : V → List V → Hp → VK → Prop} {g : Sl → List D → Option (Sl × Sl)} {x : Str} {px apos cpos : Pos} {e : Expr} {es : List Expr} {mv : List (Option Nat)} {fs : M (List Sl)} (pa : PlainAttrs T) (slot : Slot T name id) (hty : typeOf (.builtin id) = pure (.type "method_descriptor"))
    (hm : MtR X id r) (hr : MtL X r g) (ha : EvA X E (e :: es) mv fs) (hT : T ≠ "" := by decide) (hN : X.N[i]? = some x := by rfl) (hv : Vis X.env.scope x := by first | exact Or.inl rfl | exact Or.inr (Or.inl rfl) | exact Or.inr (Or.inr rfl))
    (hd : (x == ("__debug__" : Str)) = false := by decide) (hcd : (x == ("__classdict__" : Str)) = false := by decide)
    (hbase : attributeBase (.Name x px) name X.env (eval (.Name x px) X.env) = eval (.Name x px) X.env := by rfl)
    (hfew : ((backTo cpos (starEach (e :: es) X.env)).all (fun x => !x.1) && (backToKw cpos (keywordEach [] X.env)).all (fun x => x.1.isSome)
      && decide ((e :: es).length + ([] : List Keyword).length + (if ([] : List Keyword).isEmpty then 0 else 1) < 30)) = true := by rfl)
    (hline : (apos.endLine == cpos.line) = true := by rfl) (hs : starEach (e :: es) X.env = (false, eval e X.env) :: starEach es X.env := by rfl) (hplain : (backTo cpos (starEach es X.env)).any (·.1) = false := by rfl) :
    Ev X E (.Call (.Attribute (.Name x px) name apos) (e :: es) [] cpos) (mMeth i T g fs) := by
  obtain ⟨t, pt, qt⟩ := ha
  refine ⟨_, pe_bm pa slot hty hm (pe_var hN hv hd hcd) pt hbase hfew hline hs hplain, fun B ts σ ρ F H Q hl w h => ?_⟩
  unfold mMeth Rs.bd at h
  cases e0 : ρ[i]? with
  | none => rw [e0] at h; exact h.elim
  | some s =>
    rw [e0] at h
    simp only at h
    cases et : (s.ty == T) with
    | false => rw [et] at h; exact h.elim
    | true =>
      rw [et] at h
      simp only at h
      obtain ⟨o, l, g1, w1, _⟩ := w.at hl e0
      obtain ⟨v, rfl, tv⟩ := w1.tyv hT et
      refine ⟨v, g1, tv, qt B ts σ ρ F H _ hl w ?_⟩
      cases e1 : fs ρ with
      | bad => rw [e1] at h; exact h.elim
      | ex x ρ1 => rw [e1] at h; exact h
      | ok rs ρ1 =>
        rw [e1] at h
        simp only at h
        intro hl1 vs F1 H1 hvs _ _ w2
        cases e2 : dAll rs with
        | none => rw [e2] at h; exact h.elim
        | some ds =>
          rw [e2] at h
          simp only at h
          obtain ⟨F2, w3, s2, r2⟩ := w2.datas hvs e2
          cases e3 : ρ1[i]? with
          | none => rw [e3] at h; exact h.elim
          | some s1 =>
            rw [e3] at h
            simp only at h
            obtain ⟨o2, l2, g2, w4, kk⟩ := W.at w3 hl1 e3
            rw [g1] at g2
            cases g2
            cases eg : g s1 ds with
            | none => rw [eg] at h; exact h.elim
            | some pr =>
              obtain ⟨s', rc⟩ := pr
              rw [eg] at h
              refine hr B _ F2 H1 v vs s1 s' ds rc Q w4 r2 eg fun x F' H' w' => h (set_len hl1) x F' H' ?_
              exact kk (ts' := (some x, rc) :: ts) (w'.perm (.swap _ _ _))
def gAppend : Sl → List D → Option (Sl × Sl)
  | .lst ds, [d] => if szOk (ds.length + 1) = true then some (.lst (ds ++ [d]), .val .none) else none
  | _, _ => none
theorem ml_append : MtL X rAppend gAppend := by
  intro B l F H v vs s s' ds rc Q w r hg q
  unfold gAppend at hg
  split at hg
  · rename_i es d
    by_cases h : szOk (es.length + 1) = true
    · rw [if_pos h] at hg
      cases hg
      cases r with
      | cons r0 t =>
        cases t
        obtain ⟨p, us, e, hp, rp, _⟩ := w.lst
        cases e
        refine ⟨_, us, _, rfl, rfl, hp, by rw [rp.length]; exact szOk_le h, q _ F _ (W.more ?_ .non)⟩
        exact w.put (.lst hp rp) (.lst upd_same (rp.app (.cons r0 .nil)))
    · rw [if_neg h] at hg; cases hg
  · cases hg
def gInsert : Sl → List D → Option (Sl × Sl)
  | .lst ds, [.int i, d] => if szOk (ds.length + 1) = true ∧ tru (0 ≤ i ∧ i < 2 ^ 63) = true then some (.lst (ds.take i.toNat ++ [d] ++ ds.drop i.toNat), .val .none) else none
  | _, _ => none
def rInsert : V → List V → Hp → VK → Prop := fun x vs H Q => ∃ (l : Addr) (xs : List V) (i : Int) (y : V), x = .ref l ∧ vs = [.int i, y] ∧ H l = some (.lst xs) ∧ xs.length < sizeLine ∧ 0 ≤ i ∧ i < 2 ^ 63 ∧
    Q .non (upd H l (.lst (xs.take i.toNat ++ [y] ++ xs.drop i.toNat)))
theorem ml_insert : MtL X rInsert gInsert := by
  intro B l F H v vs s s' ds rc Q w r hg q
  unfold gInsert at hg
  split at hg
  · rename_i es i d
    by_cases h : szOk (es.length + 1) = true ∧ tru (0 ≤ i ∧ i < 2 ^ 63) = true
    · rw [if_pos h] at hg
      cases hg
      cases r with
      | cons r0 t =>
        cases t with
        | cons r1 t =>
          cases t
          cases r0
          obtain ⟨p, us, e, hp, rp, _⟩ := w.lst
          cases e
          refine ⟨_, us, i, _, rfl, rfl, hp, by rw [rp.length]; exact szOk_le h.1, (tru_iff.mp h.2).1, (tru_iff.mp h.2).2, q _ F _ (W.more ?_ .non)⟩
          exact w.put (.lst hp rp) (.lst upd_same (((rp.take _).app (.cons r1 .nil)).app (rp.drop _)))
    · rw [if_neg h] at hg; cases hg
  · cases hg
def gExtend : Sl → List D → Option (Sl × Sl)
  | .lst ds, [.list es] => if szOk (ds.length + es.length) = true then some (.lst (ds ++ es), .val .none) else none
  | _, _ => none
theorem ml_extend : MtL X rExtend gExtend := by
  intro B l F H v vs s s' ds rc Q w r hg q
  unfold gExtend at hg
  split at hg
  · rename_i es zs
    by_cases h : szOk (es.length + zs.length) = true
    · rw [if_pos h] at hg
      cases hg
      cases r with
      | cons r0 t =>
        cases t
        cases r0 with
        | lst h1 r1 =>
          obtain ⟨p, us, e, hp, rp, _⟩ := w.lst
          cases e
          refine ⟨_, _, us, _, rfl, rfl, hp, w.fh _ _ h1, by rw [rp.length, r1.length]; exact szOk_le h, q _ F _ (W.more ?_ .non)⟩
          exact w.put (.lst hp rp) (.lst upd_same (rp.app r1))
    · rw [if_neg h] at hg; cases hg
  · cases hg
end
end
end Fx

set_option Elab.async false
set_option linter.all false
set_option maxRecDepth 100000
namespace Fx
open PySem PySem.Spec PyProof.Rows L2
noncomputable section
/-! ### enumerate(tuple) -/
set_option maxHeartbeats 1000000 in
theorem meets_enum1 {v : Value} {o : Obj} {H : Heap → Prop} (B : Begins v o H) :
    Meets (Builtin.«enumerate.__new__» ⟨[.type "enumerate", v], []⟩) (fun _ R s => H s.heap ∧
      R (.ok (.ret (.ref (s.heap.push o).objs.size))) { s with heap := (s.heap.push o).push { cls := .type "enumerate", data := .fields #[.none, .bool false, .ref s.heap.objs.size, rawInt 0, .none, .none] } }) :=
  .of_wp fun prog w A R s h => by
    obtain ⟨hp, g, d, tk, os⟩ := s; obtain ⟨h1, h⟩ := h
    have hsub := sub_enumerate
    have q1 : ∀ {A' : Around} {E : Value → Shared → Prop} {Q : Value → Shared → Prop}, Q (.ref hp.objs.size) ⟨hp.push o, g, d, tk, os⟩ → wpAny (model prog w) A' (pyIter v) Q E ⟨hp, g, d, tk, os⟩ :=
      fun q => B.iter prog w _ _ ⟨hp, g, d, tk, os⟩ _ h1 q
    wp_walk using q1
    refine wpAny_stack_any fun st => wpAny_pure ?_
    split
    · rename_i c _ _ _ _ _
      cases (c == Value.type "enumerate")
      · wp_walk using q1
        exact ⟨_, rfl, h⟩
      · wp_walk using q1
        exact ⟨_, rfl, h⟩
    · wp_walk using q1
      exact ⟨_, rfl, h⟩
theorem call_enum1 {prog : Program} {w : World} {A : Around} {E : Value → Shared → Prop} {s : Shared} {v : Value} {o : Obj} {H : Heap → Prop} {Q : Value → Shared → Prop} (B : Begins v o H) (h1 : H s.heap)
    (h : ∀ h', IsEnum h' (s.heap.objs.size + 1) s.heap.objs.size 0 .none → h'.get? s.heap.objs.size = some o → h'.objs.size = s.heap.objs.size + 2 →
      (∀ b o, s.heap.get? b = some o → h'.get? b = some o) → Q (.ref (s.heap.objs.size + 1)) { s with heap := h' }) :
    wpAny (model prog w) A (call (.type "enumerate") [v]) Q E s := by
  refine callType_new F.called_enumerate (by decide) (F.typeCall_enumerate_1 _) (F.newCall_enumerate_1 _) (fun obj => F.args_object_init_2 obj _) F.entry_enumerate_new
    (meets_enum1 B) ⟨h1, ?_⟩
  have hz : (s.heap.push o).objs.size = s.heap.objs.size + 1 := Heap.size_push ..
  show _ ∧ _
  rw [hz]
  have he : IsEnum ((s.heap.push o).push { cls := .type "enumerate", data := .fields #[.none, .bool false, .ref s.heap.objs.size, rawInt 0, .none, .none] }) (s.heap.objs.size + 1) s.heap.objs.size 0 .none := by
    have := Heap.get?_push_size (s.heap.push o) (o := { cls := .type "enumerate", data := .fields #[.none, .bool false, .ref s.heap.objs.size, rawInt 0, .none, .none] }) rfl
    rw [hz] at this; exact this
  refine ⟨⟨_, he, rfl⟩, h _ he (Heap.get?_push_of_some _ (Heap.get?_push_size _ B.free)) (by rw [Heap.size_push, hz]) fun b o x => Heap.get?_push_of_some _ (Heap.get?_push_of_some _ x)⟩
/-- the tuple at a as it stands at each turn, each item in a new pair -/
def IteT (K : Fg) (a : Addr) : It :=
  ⟨fun i H => ∃ (xs : List V) (x : V), SqT K H a xs ∧ xs[i]? = some x, fun i H v H' => ∃ T x, v = .ref T ∧ H T = none ∧ H' = upd H T (.tup [.int (i : Nat), x]) ∧ ∀ xs, SqT K H a xs → xs[i]? = some x, fun i H => ∃ xs : List V, SqT K H a xs ∧ xs.length ≤ i⟩
theorem turn_enumT {P : Program} {w : World} {K : Fg} {elts : List Expr} {kk : Nat} {tpos : Pos} (a e it : Addr) :
    Turn P w K (.Tuple elts kk tpos) (IteT K a) [e, it] e (fun i h => (∃ old, IsEnum h e it ((i : Nat) : Int) old) ∧ h.IsTupleIter it a i ∧ e ≠ it ∧ a ≠ it ∧ e ≠ a) where
  mem := by simp
  obj := fun i h st b hb => by
    obtain ⟨⟨old, he⟩, ⟨o, ho, hc, hd⟩, _⟩ := st
    have e' : b = e ∨ b = it := by simpa using hb
    rcases e' with z | z
    · rw [z]; exact ⟨_, he, fun v q => nomatch q⟩
    · rw [z]; exact ⟨o, ho, fun v q => by rw [hd] at q; cases q⟩
  keep := fun i h h' st k => let ⟨⟨old, he⟩, hi, hne⟩ := st; ⟨⟨old, k e (by simp) _ he⟩, hi.at fun o q => k it (by simp) o q, hne⟩
  item := by
    intro X hP hw hK hc i pins s σ H E I hf st hg
    subst hP hw hK
    obtain ⟨⟨old, he⟩, hit, hne, ha, hea⟩ := st
    obtain ⟨xs, x, hq, hx⟩ := hg
    obtain ⟨its, rv, p, hz⟩ := I.tuple hq
    obtain ⟨u, hu, ru⟩ := rv.get hx
    have hel : e < s.heap.objs.size := Heap.lt_size he
    have hil : it < s.heap.objs.size := by obtain ⟨_, q, _⟩ := hit; exact Heap.lt_size q
    have p' : s.heap.IsTuple a its.toArray := p
    have hlt : i < its.toArray.size := by
      have := (List.getElem?_eq_some_iff.mp hu).1
      simpa using this
    refine wpAny_pyNext_enum_itemD (Draws.tuple (prog := X.prog) (w := X.w) (A := X.A.in1) (I.ok.hd hc) it a ha its.toArray) he ⟨hit, p'⟩ hlt hne (by simp [hne, hea]) fun u' h' tk hu' ho hit' hT hsz hk => ?_
    have : u' = u := by
      have h1 : its.toArray[i]? = some u := by simpa using hu
      exact Option.some.inj (hu'.symm.trans h1)
    subst this
    refine ⟨_, rfl, wpAny_letOwnedTupleGo_enum (s := { s with heap := h', toks := tk + 1 }) ho fun h'' he' sb => ?_⟩
    have hT2 : h''.get? s.heap.objs.size = some { cls := .type "tuple", data := .seq #[.int i tk, u'] } := (sb.2 _ (Nat.ne_of_gt hel)).trans hT
    have new : ObjOk X.prog X.w (upd H s.heap.objs.size (.tup [.int (i : Nat), x])) h'' s.heap.objs.size (.tup [.int (i : Nat), x]) :=
      ⟨by show 2 ≤ sizeLine; decide, [.int i tk, u'], .cons ⟨_, rfl⟩ (.cons ru .nil), ⟨_, hT2, rfl, _, rfl⟩⟩
    have I1 : Inv X pins σ (upd H s.heap.objs.size (.tup [.int (i : Nat), x])) { s with heap := h'', toks := tk + 1 } :=
      I.turnedNew (ch := [e, it]) (fun b ob hb q => (sb.2 b (fun z => hb (by simp [z]))).trans (hk b ob (fun z => hb (by simp [z])) (fun z => hb (by simp [z])) q)) hf (Nat.le_refl _) new
    refine ⟨.ref s.heap.objs.size, _, I1, rfl, ⟨_, x, rfl, I.hok.fresh (Nat.le_refl _), rfl, fun ys hy => by rw [I.tuple_inj hy hq]; exact hx⟩, ⟨⟨u', ?_⟩, hit'.1.at fun o q => (sb.2 it (Ne.symm hne)).trans q, hne, ha, hea⟩, fun b hb => ?_⟩
    · have e1 : ((i + 1 : Nat) : Int) = (i : Int) + 1 := by omega
      rw [e1]; exact he'
    · have hb' : b < s.heap.objs.size := by
        have e' : b = e ∨ b = it := by simpa using hb
        rcases e' with z | z
        · rw [z]; exact hel
        · rw [z]; exact hil
      rw [upd_ne (Nat.ne_of_lt hb')]
      exact (hf b hb).1
  done := by
    intro X hP hw hK hc i pins s σ H E I hf st hg
    subst hP hw hK
    obtain ⟨⟨old, he⟩, hit, hne, ha, hea⟩ := st
    obtain ⟨xs, hq, hx⟩ := hg
    obtain ⟨its, rv, p, hz⟩ := I.tuple hq
    obtain ⟨f0, f1, f2, f3, f4, f5⟩ := hf it (by simp)
    have hl := rv.length
    have p' : s.heap.IsTuple a its.toArray := p
    have hT : s.TypeIs (.ref e) "enumerate" := ⟨_, he, rfl⟩
    unfold pyNext
    refine wpAny_bind (wpAny_attempt (wpAny_callSpecial?_slot (name := Str.ofString "__next__") hT F.slot_enumerate_next
      (wpAny_call_entry F.slot_enumerate_next hT F.entry_enumerate_next ?_ (F.args_enumerate_next_1 _))))
    show wpAny _ _ (field (.ref e) 2 >>= _) _ _ _
    refine wpAny_bind (wpAny_field he rfl (x := .ref it) rfl ?_)
    refine wpAny_bind (wpAny_nextOf_tuple_end (I.ok.hd hc) hit p' (by simp; omega) fun h' x he' hx' => ?_)
    obtain ⟨o, ho, hc⟩ := hx'
    refine wpAny_bind (wpAny_isInstance (T := "StopIteration") (b := true) ⟨o, ho, hc⟩ isSubtype_stop ?_)
    exact wpAny_pure ⟨rfl, I.turned (t' := s.toks) (fun b o hb q => he' b o hb q) f0 f1 f3 f4 f5⟩
  self := fun A i s Q E st h => let ⟨⟨_, he⟩, _⟩ := st; wpAny_pyIter_enum he h
def iEnumA (K : Fg) (ta : TA) : TI := fun σ H R => ta σ H fun vs H1 => ∃ a, vs = [.ref a] ∧ (((∃ xs, SqL K H1 a xs) ∧ R (Ite K a) H1) ∨ ((∃ xs, SqT K H1 a xs) ∧ R (IteT K a) H1))
theorem pi_enumA {X : Cx} {e : Expr} {ta : TA} {p pos tpos : Pos} {elts : List Expr} {kk : Nat} (hg : Gl X "enumerate") (hm : X.mg "enumerate" = none) (ha : PA X [e] ta) (hs : starEach [e] X.env = [(false, eval e X.env)] := by rfl) :
    PI X (.Tuple elts kk tpos) (.Call (.Name "enumerate" p) [e] [] pos) (iEnumA X.K ta) := by
  refine ⟨fun pins s σ H R I h => ?_⟩
  refine Call_ (ld_blt I hg hm boot_enumerate (PyProof.Rows.callWith_type1 (thn (ha.run pos pins s σ H _ I h) fun us s1 ⟨vs, H1, I1, r1, q1⟩ => ?_) hs rfl))
  obtain ⟨a, ex, q⟩ := q1
  subst ex
  cases r1 with
  | cons r rr =>
    cases rr
    cases r
    have fr : ∀ b, b ∈ [s1.heap.objs.size + 1, s1.heap.objs.size] → FpOk X pins H1 b := fun b hb => by
      have e' : b = s1.heap.objs.size + 1 ∨ b = s1.heap.objs.size := by simpa using hb
      have hle : s1.heap.objs.size ≤ b := by
        rcases e' with z | z
        · rw [z]; exact Nat.le_add_right _ _
        · rw [z]; exact Nat.le_refl _
      exact I1.fpOk hle (I1.hok.fresh hle)
    rcases q with ⟨⟨xs, hq⟩, q⟩ | ⟨⟨xs, hq⟩, q⟩
    · obtain ⟨its, rv, p', hz⟩ := I1.list hq
      refine call_enumerate_list p'.isList fun h' he hit hsz hk => wpAny_pyIter_enum he ?_
      have I2 : Inv X pins σ H1 { s1 with heap := h' } := I1.kept (t' := s1.toks) hk
      exact ⟨s1.heap.objs.size + 1, [s1.heap.objs.size + 1, s1.heap.objs.size], _, _, H1, rfl, I2, turn_enum a (s1.heap.objs.size + 1) s1.heap.objs.size, ⟨⟨.none, he⟩, hit, Nat.succ_ne_self _⟩, fr, q⟩
    · obtain ⟨its, rv, p', hz⟩ := I1.tuple hq
      have p2 : s1.heap.IsTuple a its.toArray := p'
      have hal : a < s1.heap.objs.size := by obtain ⟨_, q, _⟩ := id p2; exact Heap.lt_size q
      refine call_enum1 (begins_tuple a its.toArray) p2 fun h' he hit hsz hk => wpAny_pyIter_enum he ?_
      have I2 : Inv X pins σ H1 { s1 with heap := h' } := I1.kept (t' := s1.toks) hk
      exact ⟨s1.heap.objs.size + 1, [s1.heap.objs.size + 1, s1.heap.objs.size], _, _, H1, rfl, I2, turn_enumT a (s1.heap.objs.size + 1) s1.heap.objs.size, ⟨⟨.none, he⟩, ⟨_, hit, rfl, rfl⟩, Nat.succ_ne_self _, Nat.ne_of_lt hal, Nat.ne_of_gt (Nat.lt_succ_of_lt hal)⟩, fr, q⟩

section
variable {X : Cx} {E : XK}
theorem feed_enum {B : Bs} {a : Addr} {ds : List D} : Feed X B (Ite X.K a) ((List.range ds.length).zipWith (fun i d => .tuple [.int (i : Nat), d]) ds) [(some (.ref a), .val (.list ds))] := by
  intro i l F H w
  cases W.val w with
  | lst h r =>
    rename_i xs
    have q : SqL X.K H a xs := SqL.of (w.fh _ _ h)
    refine ⟨fun d hd => ?_, fun hi => ⟨xs, q, by rw [r.length]; simpa using hi⟩⟩
    rw [List.getElem?_zipWith] at hd
    have hi : i < ds.length := by
      by_cases z : i < ds.length
      · exact z
      · rw [List.getElem?_eq_none (l := ds) (by omega)] at hd
        cases hr : (List.range ds.length)[i]? <;> rw [hr] at hd <;> cases hd
    rw [List.getElem?_range hi, List.getElem?_eq_getElem hi] at hd
    have hd' : PyData.tuple [.int (i : Nat), ds[i]] = d := Option.some.inj hd
    subst hd'
    obtain ⟨v, e1, e2⟩ := r.get (List.getElem?_eq_getElem hi)
    refine ⟨⟨xs, v, q, e1⟩, fun x H' hy => ?_⟩
    obtain ⟨T, y, rfl, hT, rfl, hy⟩ := hy
    have : v = y := Option.some.inj (e1.symm.trans (hy xs q))
    subst this
    exact ⟨_, W.new_tup w (.cons (.int _) (.cons e2 .nil)) hT⟩
theorem feed_enumT {B : Bs} {a : Addr} {ds : List D} : Feed X B (IteT X.K a) ((List.range ds.length).zipWith (fun i d => .tuple [.int (i : Nat), d]) ds) [(some (.ref a), .val (.tuple ds))] := by
  intro i l F H w
  cases W.val w with
  | tup h r =>
    rename_i xs
    have q : SqT X.K H a xs := Same.tq w.fh h
    refine ⟨fun d hd => ?_, fun hi => ⟨xs, q, by rw [r.length]; simpa using hi⟩⟩
    rw [List.getElem?_zipWith] at hd
    have hi : i < ds.length := by
      by_cases z : i < ds.length
      · exact z
      · rw [List.getElem?_eq_none (l := ds) (by omega)] at hd
        cases hr : (List.range ds.length)[i]? <;> rw [hr] at hd <;> cases hd
    rw [List.getElem?_range hi, List.getElem?_eq_getElem hi] at hd
    have hd' : PyData.tuple [.int (i : Nat), ds[i]] = d := Option.some.inj hd
    subst hd'
    obtain ⟨v, e1, e2⟩ := r.get (List.getElem?_eq_getElem hi)
    refine ⟨⟨xs, v, q, e1⟩, fun x H' hy => ?_⟩
    obtain ⟨T, y, rfl, hT, rfl, hy⟩ := hy
    have : v = y := Option.some.inj (e1.symm.trans (hy xs q))
    subst this
    exact ⟨_, W.new_tup w (.cons (.int _) (.cons e2 .nil)) hT⟩
def enumD (ds : List D) : List D := (List.range ds.length).zipWith (fun i d => .tuple [.int (i : Nat), d]) ds
def mEnum (fs : M (List Sl)) : M (List D) := fun ρ => (fs ρ).bd fun rs ρ1 => match dAll rs with
  | some [d] => match D.seq? d with
    | some ds => .ok (enumD ds) ρ1
    | none => .bad
  | _ => .bad
theorem ei_enum {e : Expr} {elts : List Expr} {kk : Nat} {tpos p pos : Pos} {mv : List (Option Nat)} {fs : M (List Sl)} (hm : X.mg "enumerate" = none) (ha : EvA X E [e] mv fs) (hg : Gl X "enumerate" := by rfl) (hs : starEach [e] X.env = [(false, eval e X.env)] := by rfl) :
    EvI X E (.Tuple elts kk tpos) (.Call (.Name "enumerate" p) [e] [] pos) (mEnum fs) := by
  obtain ⟨t, pt, qt⟩ := ha
  refine ⟨_, pi_enumA hg hm pt hs, fun B ts σ ρ F H R hl w h => qt B ts σ ρ F H _ hl w ?_⟩
  unfold mEnum Rs.bd at h
  cases e1 : fs ρ with
  | bad => rw [e1] at h; exact h.elim
  | ex x ρ1 => rw [e1] at h; exact h
  | ok rs ρ1 =>
    rw [e1] at h
    simp only at h
    intro hl1 vs F1 H1 hvs _ _ w1
    split at h
    · rename_i d e2
      obtain ⟨F2, w2, s2, r2⟩ := w1.datas hvs e2
      cases r2 with
      | cons rp rt =>
        cases rt
        cases d with
        | list ds =>
          cases rp with
          | lst h1 h2 => exact ⟨_, rfl, .inl ⟨⟨_, SqL.of (w2.fh _ _ h1)⟩, h hl1 _ [_] F2 H1 (w2.more (.lst h1 h2)) feed_enum⟩⟩
        | tuple ds =>
          cases rp with
          | tup h1 h2 => exact ⟨_, rfl, .inr ⟨⟨_, Same.tq w2.fh h1⟩, h hl1 _ [_] F2 H1 (w2.more (.tup h1 h2)) feed_enumT⟩⟩
        | _ => exact h.elim
    · exact h.elim
/-! ### zip -/
def zipD (xs ys : List D) : List D := xs.zipWith (fun x y => .tuple [x, y]) ys
theorem feed_zip {B : Bs} {a b : Addr} {ds es : List D} : Feed X B (Itz X.K a b) (zipD ds es) [(some (.ref a), .val (.list ds)), (some (.ref b), .val (.list es))] := by
  intro i l F H w
  cases W.val w with
  | lst h r =>
    rename_i xs
    cases W.val (W.tail w) with
    | lst h' r' =>
      rename_i ys
      have q : SqL X.K H a xs := SqL.of (w.fh _ _ h)
      have q' : SqL X.K H b ys := SqL.of (w.fh _ _ h')
      refine ⟨fun d hd => ?_, fun hi => ⟨xs, ys, q, q', ?_⟩⟩
      · unfold zipD at hd
        rw [List.getElem?_zipWith] at hd
        cases hx : ds[i]? with
        | none => rw [hx] at hd; cases hd
        | some x =>
          cases hy : es[i]? with
          | none => rw [hx, hy] at hd; cases hd
          | some y =>
            rw [hx, hy] at hd
            have hd' : PyData.tuple [x, y] = d := Option.some.inj hd
            subst hd'
            obtain ⟨v, e1, e2⟩ := r.get hx
            obtain ⟨u, e3, e4⟩ := r'.get hy
            refine ⟨⟨xs, ys, v, u, q, q', e1, e3⟩, fun z H' hz => ?_⟩
            obtain ⟨T, v', u', rfl, hT, rfl, h1, h2⟩ := hz
            have a1 : v = v' := Option.some.inj (e1.symm.trans (h1 xs q))
            have a2 : u = u' := Option.some.inj (e3.symm.trans (h2 ys q'))
            subst a1 a2
            exact ⟨_, W.new_tup w (.cons e2 (.cons e4 .nil)) hT⟩
      · unfold zipD at hi
        rw [List.length_zipWith] at hi
        rw [r.length, r'.length]
        omega
theorem feed_zipT {B : Bs} {a b : Addr} {ds es : List D} : Feed X B (RZ.ItzT X.K a b) (zipD ds es) [(some (.ref a), .val (.tuple ds)), (some (.ref b), .val (.tuple es))] := by
  intro i l F H w
  cases W.val w with
  | tup h r =>
    rename_i xs
    cases W.val (W.tail w) with
    | tup h' r' =>
      rename_i ys
      have q : SqT X.K H a xs := Same.tq w.fh h
      have q' : SqT X.K H b ys := Same.tq w.fh h'
      refine ⟨fun d hd => ?_, fun hi => ⟨xs, ys, q, q', ?_⟩⟩
      · unfold zipD at hd
        rw [List.getElem?_zipWith] at hd
        cases hx : ds[i]? with
        | none => rw [hx] at hd; cases hd
        | some x =>
          cases hy : es[i]? with
          | none => rw [hx, hy] at hd; cases hd
          | some y =>
            rw [hx, hy] at hd
            have hd' : PyData.tuple [x, y] = d := Option.some.inj hd
            subst hd'
            obtain ⟨v, e1, e2⟩ := r.get hx
            obtain ⟨u, e3, e4⟩ := r'.get hy
            refine ⟨⟨xs, ys, v, u, q, q', e1, e3⟩, fun z H' hz => ?_⟩
            obtain ⟨T, v', u', rfl, hT, rfl, h1, h2⟩ := hz
            have a1 : v = v' := Option.some.inj (e1.symm.trans (h1 xs q))
            have a2 : u = u' := Option.some.inj (e3.symm.trans (h2 ys q'))
            subst a1 a2
            exact ⟨_, W.new_tup w (.cons e2 (.cons e4 .nil)) hT⟩
      · unfold zipD at hi
        rw [List.length_zipWith] at hi
        rw [r.length, r'.length]
        omega
def mZip (fs : M (List Sl)) : M (List D) := fun ρ => (fs ρ).bd fun rs ρ1 => match dAll rs with
  | some [.list xs, .list ys] => .ok (zipD xs ys) ρ1
  | some [.tuple xs, .tuple ys] => .ok (zipD xs ys) ρ1
  | _ => .bad
theorem ei_zip {e e2 : Expr} {elts : List Expr} {kk : Nat} {tpos p pos : Pos} {mv : List (Option Nat)} {fs : M (List Sl)} (hm : X.mg "zip" = none) (ha : EvA X E [e, e2] mv fs) (hg : Gl X "zip" := by rfl)
    (hs : starEach [e, e2] X.env = (false, eval e X.env) :: starEach [e2] X.env := by rfl) (hpl : (backTo pos (starEach [e2] X.env)).any (·.1) = false := by rfl) :
    EvI X E (.Tuple elts kk tpos) (.Call (.Name "zip" p) [e, e2] [] pos) (mZip fs) := by
  obtain ⟨t, pt, qt⟩ := ha
  refine ⟨_, RZ.pi_zipA hg hm pt hs hpl, fun B ts σ ρ F H R hl w h => qt B ts σ ρ F H _ hl w ?_⟩
  unfold mZip Rs.bd at h
  cases e1 : fs ρ with
  | bad => rw [e1] at h; exact h.elim
  | ex x ρ1 => rw [e1] at h; exact h
  | ok rs ρ1 =>
    rw [e1] at h
    simp only at h
    intro hl1 vs F1 H1 hvs _ _ w1
    split at h
    · rename_i xs ys e2
      obtain ⟨F2, w2, s2, r2⟩ := w1.datas hvs e2
      cases r2 with
      | cons rp rt =>
        cases rt with
        | cons rq rt =>
          cases rt
          cases rp with
          | lst h1 h2 =>
            cases rq with
            | lst h3 h4 => exact ⟨_, _, _, _, rfl, .inl ⟨SqL.of (w2.fh _ _ h1), SqL.of (w2.fh _ _ h3), h hl1 _ [_, _] F2 H1 ((w2.more (.lst h3 h4)).more (.lst h1 h2)) feed_zip⟩⟩
    · rename_i xs ys e2
      obtain ⟨F2, w2, s2, r2⟩ := w1.datas hvs e2
      cases r2 with
      | cons rp rt =>
        cases rt with
        | cons rq rt =>
          cases rt
          cases rp with
          | tup h1 h2 =>
            cases rq with
            | tup h3 h4 => exact ⟨_, _, _, _, rfl, .inr ⟨Same.tq w2.fh h1, Same.tq w2.fh h3, h hl1 _ [_, _] F2 H1 ((w2.more (.tup h3 h4)).more (.tup h1 h2)) feed_zipT⟩⟩
    · exact h.elim
/-! ### a, b = e -/
def mAsgT (f : M Sl) (k : Sl → Env → Option Env) : Ms := fun ρ => (f ρ).st fun r ρ1 => match r.d? with
  | some d => match k (.val d) ρ1 with
    | some ρ2 => .nx ρ2
    | none => .bad
  | none => .bad
theorem ss_asgT {pn tv : List Nat} {tg e : Expr} {f : M Sl} {k : Sl → Env → Option Env} {pos : Pos} (he : Ev X E e f) (hg : Tg X tv tg k) (htv : ∀ i ∈ pn, i ∉ tv := by decide) (hs : swapsWithSole [tg] e pos.line X.env = pure false := by rfl) (hw : swappedStores [tg] e X.env = pure none := by rfl)
    (h1 : (assignEach [tg] X.env).map (·.2) = [assign tg X.env] := by rfl) : Ss X E pn (.Assign [tg] e pos) (mAsgT f k) := by
  obtain ⟨t, pt, qt⟩ := he
  obtain ⟨g, pg, qg⟩ := hg
  refine ⟨_, ps_asg pt pg hs hw h1, fun B ts σ ρ F H D hl w h => qt B ts σ ρ F H _ hl w ?_⟩
  unfold mAsgT Rs.st at h
  cases e1 : f ρ with
  | bad => rw [e1] at h; exact h.elim
  | ex x ρ1 => rw [e1] at h; exact fun hl c dx F H w q => h c dx σ F H rfl hl (Pins.refl _ _) w q
  | ok r ρ1 =>
    rw [e1] at h
    simp only at h
    intro hl1 v F1 H1 w1
    cases da : r.d? with
    | none => rw [da] at h; exact h.elim
    | some d =>
      rw [da] at h
      simp only at h
      cases ek : k (.val d) ρ1 with
      | none => rw [ek] at h; exact h.elim
      | some ρ2 =>
        rw [ek] at h
        obtain ⟨F2, w2, _⟩ := w1.freeze da
        exact qg B ts σ ρ1 ρ2 F2 H1 v _ _ hl1 w2 ek fun σ' F' H' a1 a2 a3 w' => h σ' F' H' a1 a2 (fun i hi => a3 i (htv i hi)) w'
end
end
end Fx

set_option Elab.async false
set_option linter.all false
set_option maxRecDepth 100000
namespace Fx
open PySem PySem.Spec PyProof.Rows L2
noncomputable section
section
variable {X : Cx} {E : XK}
/-! ### more operations -/
def gIsB (a b : D) : Option Sl := match a, b with | .bool i, .bool j => some (.val (.bool (decide (i = j)))) | _, _ => none
def gNotB (a b : D) : Option Sl := match a, b with | .bool i, .bool j => some (.val (.bool (!decide (i = j)))) | _, _ => none
theorem opl_isB : OpL X rIsB gIsB := by
  intro B l F H v u a b rc Q w ra rb hg q
  unfold gIsB at hg
  split at hg
  · cases hg
    cases ra
    cases rb
    exact ⟨_, _, rfl, rfl, q _ F H (w.more (.bl _))⟩
  · cases hg
theorem opl_notB : OpL X rNotB gNotB := by
  intro B l F H v u a b rc Q w ra rb hg q
  unfold gNotB at hg
  split at hg
  · cases hg
    cases ra
    cases rb
    exact ⟨_, _, rfl, rfl, q _ F H (w.more (.bl _))⟩
  · cases hg
def gNeg (a : D) : Option Sl := match a with | .int i => some (.val (.int (-i))) | _ => none
theorem ul_neg : UnL X (rU fun i => .int (-i)) gNeg := by
  intro B l F H v a rc Q w r hg q
  unfold gNeg at hg
  split at hg
  · cases hg
    cases r
    exact ⟨_, rfl, q _ F H (w.more (.int _))⟩
  · cases hg
/-- ints, or a tuple some times, or a list -/
def rMulS (K : Fg) : R2 := fun x y H Q => rI CMulA (fun i j => .int (i * j)) x y H Q ∨ (rRepT K x y H Q ∨ rRep x y H Q)
theorem op_mulS : OpR X (binaryOp .Mult) (rMulS X.K) := op_mulA.or (op_repT.or op_rep)
def gMulS (a b : D) : Option Sl := match a, b with
  | .int i, .int j => if tru (CMulA i j) = true then some (.val (.int (i * j))) else none
  | .tuple xs, .int k => if tru (xs ≠ [] ∧ 2 ≤ k ∧ k ≤ 1000 ∧ xs.length ≤ 1000) = true then some (.val (.tuple (List.replicate k.toNat xs).flatten)) else none
  | .list xs, .int k => if tru (-(2 ^ 63) ≤ k ∧ k < 2 ^ 63) = true ∧ szOk (xs.length * k.toNat) = true then some (.lst (List.replicate k.toNat xs).flatten) else none
  | _, _ => none
theorem RpL.rep {K : Fg} {F : Hp} {vs : List V} {ds : List D} (h : RpL K F vs ds) : ∀ n : Nat, RpL K F (List.replicate n vs).flatten (List.replicate n ds).flatten
  | 0 => .nil
  | n + 1 => by
    rw [List.replicate_succ, List.replicate_succ, List.flatten_cons, List.flatten_cons]
    exact h.app (h.rep n)
theorem opl_mulS : OpL X (rMulS X.K) gMulS := by
  intro B l F H v u a b rc Q w ra rb hg q
  unfold gMulS at hg
  split at hg
  · rename_i i j
    by_cases h : tru (CMulA i j) = true
    · rw [if_pos h] at hg
      cases hg
      cases ra
      cases rb
      exact .inl ⟨_, _, rfl, rfl, tru_iff.mp h, q _ F H (w.more (.int _))⟩
    · rw [if_neg h] at hg; cases hg
  · rename_i xs k
    by_cases h : tru (xs ≠ [] ∧ 2 ≤ k ∧ k ≤ 1000 ∧ xs.length ≤ 1000) = true
    · rw [if_pos h] at hg
      cases hg
      cases rb
      cases ra with
      | tup h1 r1 =>
        obtain ⟨a1, a2, a3, a4⟩ := tru_iff.mp h
        refine .inr (.inl ⟨_, k, _, rfl, rfl, Same.tq w.fh h1, ?_, a2, a3, by rw [r1.length]; exact a4, fun p hp => q _ _ _ (w.new_tup (r1.rep _) hp)⟩)
        intro e
        subst e
        cases r1
        exact a1 rfl
    · rw [if_neg h] at hg; cases hg
  · rename_i xs k
    by_cases h : tru (-(2 ^ 63) ≤ k ∧ k < 2 ^ 63) = true ∧ szOk (xs.length * k.toNat) = true
    · rw [if_pos h] at hg
      cases hg
      cases rb
      cases ra with
      | lst h1 r1 =>
        obtain ⟨a1, a2⟩ := tru_iff.mp h.1
        exact .inr (.inr ⟨_, k, _, rfl, rfl, w.fh _ _ h1, a1, a2, by rw [r1.length]; exact szOk_le h.2, fun p hp => q _ _ _ (w.new_lst (r1.rep _) hp)⟩)
    · rw [if_neg h] at hg; cases hg
  · cases hg
/-! ### more calls -/
def gMax2 (ds : List D) : Option Sl := match ds with | [.int i, .int j] => some (.val (.int (if j > i then j else i))) | _ => none
def gMin2 (ds : List D) : Option Sl := match ds with | [.int i, .int j] => some (.val (.int (if j < i then j else i))) | _ => none
theorem cl_max2 : CallL X (fun xs H Q => ∃ i j, xs = [.int i, .int j] ∧ Q (.int (if j > i then j else i)) H) gMax2 := by
  intro B l F H vs ds rc Q w r hg q
  unfold gMax2 at hg
  split at hg
  · cases hg
    cases r with
    | cons r0 t =>
      cases t with
      | cons r1 t =>
        cases t
        cases r0
        cases r1
        exact ⟨_, _, rfl, q _ F H (w.more (.int _))⟩
  · cases hg
theorem cl_min2 : CallL X (fun xs H Q => ∃ i j, xs = [.int i, .int j] ∧ Q (.int (if j < i then j else i)) H) gMin2 := by
  intro B l F H vs ds rc Q w r hg q
  unfold gMin2 at hg
  split at hg
  · cases hg
    cases r with
    | cons r0 t =>
      cases t with
      | cons r1 t =>
        cases t
        cases r0
        cases r1
        exact ⟨_, _, rfl, q _ F H (w.more (.int _))⟩
  · cases hg
def gInt1 (ds : List D) : Option Sl := match ds with | [.int i] => some (.val (.int i)) | [.bool k] => some (.val (.int (if k then 1 else 0))) | _ => none
theorem cl_int1 : CallL X (fun xs H Q => (∃ i, xs = [.int i] ∧ Q (.int i) H) ∨ ∃ k, xs = [.bl k] ∧ Q (.int (if k then 1 else 0)) H) gInt1 := by
  intro B l F H vs ds rc Q w r hg q
  unfold gInt1 at hg
  split at hg
  · cases hg
    cases r with
    | cons r0 t =>
      cases t
      cases r0
      exact .inl ⟨_, rfl, q _ F H (w.more (.int _))⟩
  · cases hg
    cases r with
    | cons r0 t =>
      cases t
      cases r0
      exact .inr ⟨_, rfl, q _ F H (w.more (.int _))⟩
  · cases hg
def intL? : List D → Option (List Int)
  | [] => some []
  | .int i :: r => match intL? r with
    | some ns => some (i :: ns)
    | none => none
  | _ :: _ => none
def boolL? : List D → Option (List Bool)
  | [] => some []
  | .bool i :: r => match boolL? r with
    | some ns => some (i :: ns)
    | none => none
  | _ :: _ => none
theorem intL_of {K : Fg} {F : Hp} : ∀ {ds : List D} {ns : List Int} {vs : List V}, intL? ds = some ns → RpL K F vs ds → vs = ns.map V.int ∧ ds = ns.map .int
  | [], _, _, h, r => by cases h; cases r; exact ⟨rfl, rfl⟩
  | d :: ds, ns, vs, h, r => by
    cases d with
    | int i =>
      unfold intL? at h
      cases e : intL? ds with
      | none => rw [e] at h; cases h
      | some ms =>
        rw [e] at h
        cases h
        cases r with
        | cons r0 t =>
          cases r0
          obtain ⟨a, b⟩ := intL_of e t
          subst a b
          exact ⟨rfl, rfl⟩
    | _ => cases h
theorem boolL_of {K : Fg} {F : Hp} : ∀ {ds : List D} {ns : List Bool} {vs : List V}, boolL? ds = some ns → RpL K F vs ds → vs = ns.map V.bl ∧ ds = ns.map .bool
  | [], _, _, h, r => by cases h; cases r; exact ⟨rfl, rfl⟩
  | d :: ds, ns, vs, h, r => by
    cases d with
    | bool i =>
      unfold boolL? at h
      cases e : boolL? ds with
      | none => rw [e] at h; cases h
      | some ms =>
        rw [e] at h
        cases h
        cases r with
        | cons r0 t =>
          cases r0
          obtain ⟨a, b⟩ := boolL_of e t
          subst a b
          exact ⟨rfl, rfl⟩
    | _ => cases h
def gSum (ds : List D) : Option Sl := match ds with
  | [.list es] => match intL? es with
    | some ns => some (.val (.int ns.sum))
    | none => none
  | _ => none
theorem cl_sum : CallL X (rSum X.K) gSum := by
  intro B l F H vs ds rc Q w r hg q
  unfold gSum at hg
  split at hg
  · rename_i es
    cases e : intL? es with
    | none => rw [e] at hg; cases hg
    | some ns =>
      rw [e] at hg
      cases hg
      cases r with
      | cons r0 t =>
        cases t
        cases r0 with
        | lst h1 r1 =>
          obtain ⟨a, _⟩ := intL_of e r1
          subst a
          exact ⟨_, ns, rfl, SqL.of (w.fh _ _ h1), q _ F H (w.more (.int _))⟩
  · cases hg
def gAll (ds : List D) : Option Sl := match ds with
  | [.list es] => match boolL? es with
    | some bs => some (.val (.bool (bs.all id)))
    | none => none
  | _ => none
theorem cl_all : CallL X (rAll X.K) gAll := by
  intro B l F H vs ds rc Q w r hg q
  unfold gAll at hg
  split at hg
  · rename_i es
    cases e : boolL? es with
    | none => rw [e] at hg; cases hg
    | some ns =>
      rw [e] at hg
      cases hg
      cases r with
      | cons r0 t =>
        cases t
        cases r0 with
        | lst h1 r1 =>
          obtain ⟨a, _⟩ := boolL_of e r1
          subst a
          exact ⟨_, ns, rfl, SqL.of (w.fh _ _ h1), q _ F H (w.more (.bl _))⟩
  · cases hg
/-! ### len(set(ints)) -/
def setLen (ns : List Int) : Nat := (PyProof.Rows.firstMet (fun i => ns.getD i 0) ns.length).length
def tLenSetA (K : Fg) : V → Hp → VK → Prop := fun x H1 Q => ∃ (l : Addr) (ns : List Int), x = .ref l ∧ SqL K H1 l (ns.map V.int) ∧ ns.length ≤ 4000 ∧ Q (.int (setLen ns : Nat)) H1
theorem firstMet_len (f : Nat → Int) : ∀ n, (PyProof.Rows.firstMet f n).length ≤ n
  | 0 => Nat.le_refl _
  | n + 1 => by
    rw [PyProof.Rows.firstMet_succ]
    have := firstMet_len f n
    unfold step_dedup
    split
    · omega
    · rw [List.length_append]; simp; omega
theorem pe_lenSetA {a : Expr} {ta : TE} {p p2 q pos : Pos} (hg : Gl X "len") (hm : X.mg "len" = none) (hg2 : Gl X "set") (hm2 : X.mg "set" = none) (ha : PE X a ta) (hc : X.calm = true := by rfl)
    (na : starEach [a] X.env = (false, eval a X.env) :: starEach [] X.env := by rfl) : PE X (.Call (.Name "len" p) [.Call (.Name "set" p2) [a] [] q] [] pos) (tUn (tLenSetA X.K) ta) := by
  refine ⟨fun pins s σ H Q I h => ?_⟩
  refine Call_ (ld_blt I hg hm boot_len ?_)
  refine PyProof.Rows.callWith_builtin1 (PyProof.Rows.args_cons ?_ rfl) rfl rfl
  refine Call_ (ld_blt I hg2 hm2 boot_set ?_)
  refine PyProof.Rows.callWith_type1 (PyProof.Rows.args_cons (thn (ha.run pins s σ H _ I h) fun v s1 ⟨x, H1, I1, r1, q1⟩ => PyProof.Rows.args_nil ?_) na) na rfl
  obtain ⟨l, ns, rfl, hq, hl, q1⟩ := q1
  cases r1
  obtain ⟨its, r, pl, hz⟩ := I1.list hq
  have hlen : its.toArray.size = ns.length := by rw [List.size_toArray, ← r.length, List.length_map]
  refine call_set_list (I1.ok.hd hc) pl.isList (by simpa using RZ.intsAre_vals r) (by rw [hlen]; unfold scanBound; omega) fun h' tk hS hk => ?_
  refine PyProof.Rows.args_nil ?_
  rw [hlen] at hS
  obtain ⟨o, es, ep, t, ho, hex, hd, _, _, _, hf, hn⟩ := hS
  have I2 : Inv X pins σ H1 { s1 with heap := h', toks := tk } := I1.kept fun b o e => hk b o (Heap.lt_size e) e
  have hle := firstMet_len (fun i => ns.getD i 0) ns.length
  exact call_len_set ho hex hd hf (by rw [hn] <;> omega) ⟨.int (setLen ns), H1, I2.tok _, ⟨_, by rw [hn]; rfl⟩, q1⟩
def gLenSet (a : D) : Option Sl := match a with
  | .list es => match intL? es with
    | some ns => if tru (ns.length ≤ 4000) = true then some (.val (.int (setLen ns : Nat))) else none
    | none => none
  | _ => none
theorem ul_lenSet : UnL X (tLenSetA X.K) gLenSet := by
  intro B l F H v a rc Q w r hg q
  unfold gLenSet at hg
  split at hg
  · rename_i es
    cases e : intL? es with
    | none => rw [e] at hg; cases hg
    | some ns =>
      rw [e] at hg
      simp only at hg
      by_cases h : tru (ns.length ≤ 4000) = true
      · rw [if_pos h] at hg
        cases hg
        cases r with
        | lst h1 r1 =>
          obtain ⟨a, _⟩ := intL_of e r1
          subst a
          exact ⟨_, ns, rfl, SqL.of (w.fh _ _ h1), tru_iff.mp h, q _ F H (w.more (.int _))⟩
      · rw [if_neg h] at hg; cases hg
  · cases hg
theorem ev_lenSet {a : Expr} {fa : M Sl} {p p2 q pos : Pos} (hm : X.mg "len" = none) (hm2 : X.mg "set" = none) (ha : Ev X E a fa) (hg : Gl X "len" := by rfl) (hg2 : Gl X "set" := by rfl) (hc : X.calm = true := by rfl)
    (na : starEach [a] X.env = (false, eval a X.env) :: starEach [] X.env := by rfl) : Ev X E (.Call (.Name "len" p) [.Call (.Name "set" p2) [a] [] q] [] pos) (mUn gLenSet fa) :=
  ev_one (r := tLenSetA X.K) ul_lenSet ha fun pa => pe_lenSetA hg hm hg2 hm2 pa hc na
/-! ### sorted(list) -/
def isTup1 : D → Bool
  | .tuple (_ :: _) => true
  | _ => false
def noTN : D → Bool
  | .tuple _ => false
  | .none => false
  | _ => true
def okSort (ds : List D) : Bool := PyData.plainAll ds && decide (PyData.depthAll ds ≤ 40) && ds.all (fun x => ds.all fun y => PySem.W.alike x y) && (ds.all isTup1 || ds.all noTN) && szOk ds.length
def sortD (ds : List D) : List D := ds.mergeSort (PySem.W.dataLe false id)
theorem okSort_of {ds : List D} (h : okSort ds = true) : PyData.plainAll ds = true ∧ PyData.depthAll ds ≤ 40 ∧ PySem.W.AllAlike ds ∧ PySem.W.Sortable ds ∧ ds.length ≤ sizeLine := by
  unfold okSort at h
  simp only [Bool.and_eq_true, decide_eq_true_eq, List.all_eq_true, Bool.or_eq_true] at h
  obtain ⟨⟨⟨⟨h1, h2⟩, h3⟩, h4⟩, h5⟩ := h
  refine ⟨h1, h2, h3, ?_, szOk_le h5⟩
  rcases h4 with h4 | h4
  · refine .inl fun d hd => ?_
    have := h4 d hd
    unfold isTup1 at this
    split at this
    · exact ⟨_, _, rfl⟩
    · cases this
  · refine .inr fun d hd => ?_
    have := h4 d hd
    refine ⟨fun e => by subst e; simp [noTN] at this, fun xs e => by subst e; simp [noTN] at this⟩
def rSortD (K : Fg) : List V → Hp → VK → Prop := fun vs H Q => ∃ F a ds xs, vs = [V.ref a] ∧ Same F H ∧ SqL K H a xs ∧ RpL K F xs ds ∧ okSort ds = true ∧ ∀ ys p, RpL K F ys (sortD ds) → H p = none → Q (.ref p) (upd H p (.lst ys))
theorem depth_get : ∀ {ds : List D} {d : D}, d ∈ ds → d.depth ≤ PyData.depthAll ds
  | x :: xs, d, h => by
    rw [PyData.depthAll]
    rcases List.mem_cons.mp h with e | h
    · subst e; exact Nat.le_max_left _ _
    · exact Nat.le_trans (depth_get h) (Nat.le_max_right _ _)
  | [], _, h => by simp at h
theorem each_rp {K : Fg} {F : Hp} : ∀ {out : List Value} {ds : List D}, PySem.W.EachIs (fun v d => ∃ x, Rp K F x d ∧ RelV x v) out ds → ∃ ys, Vals ys out ∧ RpL K F ys ds
  | _, _, .nil => ⟨[], .nil, .nil⟩
  | _, _, .cons ⟨x, a, b⟩ t => by
    obtain ⟨ys, c, d⟩ := each_rp t
    exact ⟨x :: ys, .cons b c, .cons a d⟩
theorem rp_each {K : Fg} {F : Hp} : ∀ {us : List Value} {vs : List V} {ds : List D}, Vals vs us → RpL K F vs ds → PySem.W.EachIs (fun v d => ∃ x, Rp K F x d ∧ RelV x v) us ds
  | _, _, _, .nil, .nil => .nil
  | _, _, _, .cons a b, .cons c d => .cons ⟨_, c, a⟩ (rp_each b d)
theorem cr_sortD (hu : X.A.units + 64 < cLine) : CallR X (.builtin "sorted") (rSortD X.K) := by
  intro pins s σ H vs us Q I r ⟨F, a, ds, xs, e, sf, hs, rp, ok, q⟩
  subst e
  obtain ⟨its, rv, hl, _⟩ := I.list hs
  rw [Vals.ref1 r]
  obtain ⟨h1, h2, h3, h4, h5⟩ := okSort_of ok
  obtain ⟨as, rs⟩ := RpL.reads I sf h1 rp rv
  have er : PySem.W.EachIs (fun v d => ∃ as, Reads s.heap v (id d) as) its ds := PySem.W.readsAll_each id (by simpa using rs)
  refine PySem.W.sorted_data (enc := id) (R := fun v d => ∃ x, Rp X.K F x d ∧ RelV x v) hl.isList (rp_each rv rp) er (by simpa using h3) (by simpa using h4) h5 (fun d hd => ?_) fun out hlen ho => ?_
  · have := depth_get hd
    show X.A.units + 2 + d.depth < cLine
    omega
  · obtain ⟨ep, he'⟩ := PyProof.Rows.sortedAll_at s.heap its out.toArray
    obtain ⟨ys, hv, hy⟩ := each_rp ho
    have hle : ys.length ≤ sizeLine := by rw [hv.length, hlen]; exact h5
    exact ⟨.ref _, upd H (s.heap.objs.size + 1) (.lst ys), I.laid (t' := s.toks) (fun _ _ => PyProof.Rows.sortedAll_old) (Nat.le_succ _) ⟨hle, out, ep, hv, he'⟩, rfl, q ys _ hy (I.hok.fresh (Nat.le_succ _))⟩
def gSorted (ds : List D) : Option Sl := match ds with
  | [.list es] => if okSort es = true then some (.lst (sortD es)) else none
  | _ => none
theorem cl_sorted : CallL X (rSortD X.K) gSorted := by
  intro B l F H vs ds rc Q w r hg q
  unfold gSorted at hg
  split at hg
  · rename_i es
    by_cases h : okSort es = true
    · rw [if_pos h] at hg
      cases hg
      cases r with
      | cons r0 t =>
        cases t
        cases r0 with
        | lst h1 r1 => exact ⟨F, _, _, _, rfl, w.fh, SqL.of (w.fh _ _ h1), r1, h, fun ys p hy hp => q _ _ _ (w.new_lst hy hp)⟩
    · rw [if_neg h] at hg; cases hg
  · cases hg
/-! ### a op b op c -/
def mChain (g g' : D → D → Option Sl) (fa fb fc : M Sl) : M Sl := fun ρ => (fa ρ).bd fun ra ρ1 => (fb ρ1).bd fun rb ρ2 => match ra.d?, rb.d? with
  | some a, some b => match g a b with
    | some (.val (.bool true)) => (fc ρ2).bd fun rc ρ3 => match rc.d? with
      | some c => match g' b c with
        | some r => .ok r ρ3
        | none => .bad
      | none => .bad
    | some (.val (.bool false)) => .ok (.val (.bool false)) ρ2
    | _ => .bad
  | _, _ => .bad
def OpP (X : Cx) (r : R2) (g : D → D → Option Sl) : Prop := ∀ (F H : Hp) (v u : V) (a b : D) (rc : Sl) (Q : VK), Same F H → Rp X.K F v a → Rp X.K F u b → g a b = some rc → ∃ k, rc = .val (.bool k) ∧ (Q (.bl k) H → r v u H Q)
theorem opp_D2 {ok : D → D → Bool} {g : D → D → Bool} : OpP X (rD2 X.K ok g) (fun a b => if ok a b = true then some (.val (.bool (g a b))) else none) := by
  intro F H v u a b rc Q sf ra rb hg
  by_cases h : ok a b = true
  · simp only [h, if_true] at hg
    cases hg
    exact ⟨_, rfl, fun q => ⟨F, a, b, sf, ra, rb, h, q⟩⟩
  · simp only [h] at hg; cases hg
theorem chain_run {ta tb tc : TE} {r r' : R2} {g g' : D → D → Option Sl} {fa fb fc : M Sl} (hr : OpP X r g) (hr' : OpP X r' g') (qa : Run X E ta fa) (qb : Run X E tb fb) (qc : Run X E tc fc) : Run X E (tChain r r' ta tb tc) (mChain g g' fa fb fc) := by
  intro B ts σ ρ F H Q hl w h
  refine qa B ts σ ρ F H _ hl w ?_
  unfold mChain Rs.bd at h
  cases e1 : fa ρ with
  | bad => rw [e1] at h; exact h.elim
  | ex x ρ1 => rw [e1] at h; exact h
  | ok ra ρ1 =>
    rw [e1] at h
    intro hl1 v F1 H1 w1
    refine qb B ((some v, ra) :: ts) σ ρ1 F1 H1 _ hl1 w1 ?_
    simp only at h
    cases e2 : fb ρ1 with
    | bad => rw [e2] at h; exact h.elim
    | ex x ρ2 =>
      rw [e2] at h
      exact fun hl2 c dx F2 H2 w2 q => h hl2 c dx F2 H2 w2.tail q
    | ok rb ρ2 =>
      rw [e2] at h
      simp only at h
      intro hl2 u F2 H2 w2
      cases da : ra.d? with
      | none => rw [da] at h; exact h.elim
      | some a =>
        cases db : rb.d? with
        | none => rw [da, db] at h; exact h.elim
        | some b =>
          rw [da, db] at h
          simp only at h
          obtain ⟨F3, w3, s3⟩ := w2.freeze db
          have w4 : W X.K X.mg B ((some v, ra) :: (some u, .val b) :: (ts ++ zp σ ρ2)) F3 H2 := w3.perm (.swap _ _ _)
          obtain ⟨F5, w5, s5⟩ := w4.freeze da
          have w6 : W X.K X.mg B ((some u, .val b) :: (ts ++ zp σ ρ2)) F5 H2 := w5.tail
          cases eg : g a b with
          | none => rw [eg] at h; exact h.elim
          | some rc =>
            obtain ⟨k, ek, kk⟩ := hr F5 H2 v u a b rc _ w5.fh w5.val w6.val eg
            subst ek
            rw [eg] at h
            refine kk ⟨k, rfl, ?_⟩
            cases k with
            | false =>
              simp only at h
              rw [if_neg Bool.false_ne_true]
              exact h hl2 _ F5 H2 (w6.tail.more (.bl _))
            | true =>
              simp only at h
              rw [if_pos rfl]
              refine qc B ((some u, .val b) :: ts) σ ρ2 F5 H2 _ hl2 w6 ?_
              cases e3 : fc ρ2 with
              | bad => rw [e3] at h; exact h.elim
              | ex x ρ3 =>
                rw [e3] at h
                exact fun hl3 c dx F3 H3 w3 q => h hl3 c dx F3 H3 w3.tail q
              | ok rc ρ3 =>
                rw [e3] at h
                simp only at h
                intro hl3 u3 F6 H6 w7
                cases dc : rc.d? with
                | none => rw [dc] at h; exact h.elim
                | some c =>
                  rw [dc] at h
                  simp only at h
                  obtain ⟨F7, w8, _⟩ := w7.freeze dc
                  cases eg' : g' b c with
                  | none => rw [eg'] at h; exact h.elim
                  | some rr =>
                    have w9 : W X.K X.mg B ((some u, .val b) :: (ts ++ zp σ ρ3)) F7 H6 := w8.tail
                    obtain ⟨k, ek, kk⟩ := hr' F7 H6 u u3 b c rr Q w8.fh w9.val w8.val eg'
                    subst ek
                    rw [eg'] at h
                    exact kk (h hl3 _ F7 H6 (w9.tail.more (.bl _)))
theorem ev_chain {op op' : CmpOp} {a b c : Expr} {r r' : R2} {g g' : D → D → Option Sl} {fa fb fc : M Sl} {pos : Pos} (ho : OpR X (compareOp op) r) (hr : OpP X r g) (ho' : OpR X (compareOp op') r') (hr' : OpP X r' g') (ha : Ev X E a fa) (hb : Ev X E b fb) (hc : Ev X E c fc)
    (hm : lastMarks [op, op'] [b, c] = false := by with_unfolding_all rfl) : Ev X E (.Compare a [op, op'] [b, c] pos) (mChain g g' fa fb fc) := by
  obtain ⟨ta, pa, qa⟩ := ha
  obtain ⟨tb, pb, qb⟩ := hb
  obtain ⟨tc, pc, qc⟩ := hc
  exact ⟨_, pe_chain ho ho' pa pb pc hm, chain_run hr hr' qa qb qc⟩
theorem et_chain {op op' : CmpOp} {a b c : Expr} {r r' : R2} {g g' : D → D → Option Sl} {fa fb fc : M Sl} {pos : Pos} (ho : OpR X (compareOp op) r) (hr : OpP X r g) (ho' : OpR X (compareOp op') r') (hr' : OpP X r' g') (ha : Ev X E a fa) (hb : Ev X E b fb) (hc : Ev X E c fc)
    (hm : lastMarks [op, op'] [b, c] = false := by with_unfolding_all rfl) : EvT X E (.Compare a [op, op'] [b, c] pos) (mTst (mChain g g' fa fb fc)) := by
  obtain ⟨ta, pa, qa⟩ := ha
  obtain ⟨tb, pb, qb⟩ := hb
  obtain ⟨tc, pc, qc⟩ := hc
  exact ⟨_, pt_chain ho ho' pa pb pc hm, fun B ts σ ρ F H Q hl w h => chain_run hr hr' qa qb qc B ts σ ρ F H _ hl w (post_tst h)⟩
end
end
end Fx

set_option Elab.async false
set_option linter.all false
set_option maxRecDepth 100000
namespace Fx
open PySem PySem.Spec PyProof.Rows L2
noncomputable section
section
variable {X : Cx} {E : XK}
/-! ### what a name owns, looked at as data -/
def pk (i : Nat) (ρ : Env) : Option D := match ρ[i]? with
  | some s => s.d?
  | none => none
theorem W.peek {K : Fg} {mg : Str → Option Value} {B : Bs} {ts : List Sv} {σ : L2.St} {ρ : Env} {F H : Hp} {i : Nat} {d : D} (w : W K mg B (ts ++ zp σ ρ) F H) (hl : σ.length = ρ.length) (h : pk i ρ = some d) :
    ∃ v F', σ[i]? = some (some v) ∧ Same F F' ∧ Same F' H ∧ Rp K F' v d := by
  unfold pk at h
  cases e : ρ[i]? with
  | none => rw [e] at h; cases h
  | some s =>
    rw [e] at h
    obtain ⟨o, l, h1, w1, _⟩ := w.at hl e
    obtain ⟨F', w2, sf⟩ := w1.freeze h
    obtain ⟨v, rfl, r⟩ := w2.valO
    exact ⟨v, F', h1, sf, w2.fh, r⟩
/-- both operands of a comparison -/
def Ev2 (X : Cx) (E : XK) (a b : Expr) (r : R2) (f : M Sl) : Prop := ∃ ta tb, PE X a ta ∧ PE X b tb ∧ Run X E (tOp r ta tb) f
theorem ev_cmp2 {op : CmpOp} {a b : Expr} {r : R2} {f : M Sl} {pos : Pos} (ho : OpR X (compareOp op) r) (h : Ev2 X E a b r f) (hm : behindInMarks op b = false) : Ev X E (.Compare a [op] [b] pos) f := by
  obtain ⟨ta, tb, pa, pb, q⟩ := h
  exact ⟨_, pe_cmpR ho pa pb hm, q⟩
theorem et_cmp2 {op : CmpOp} {a b : Expr} {r : R2} {f : M Sl} {pos : Pos} (ho : OpR X (compareOp op) r) (h : Ev2 X E a b r f) (hm : behindInMarks op b = false) : EvT X E (.Compare a [op] [b] pos) (mTst f) := by
  obtain ⟨ta, tb, pa, pb, q⟩ := h
  exact ⟨_, pt_cmpR ho pa pb hm, fun B ts σ ρ F H Q hl w h => q B ts σ ρ F H _ hl w (post_tst h)⟩
def mBinOL (g : D → D → Option Sl) (i : Nat) (fb : M Sl) : M Sl := fun ρ => match pk i ρ with
  | some _ => (fb ρ).bd fun rb ρ1 => match pk i ρ1, rb.d? with
    | some a, some b => match g a b with
      | some r => .ok r ρ1
      | none => .bad
    | _, _ => .bad
  | none => .bad
def mBinOR (g : D → D → Option Sl) (fa : M Sl) (i : Nat) : M Sl := fun ρ => (fa ρ).bd fun ra ρ1 => match ra.d?, pk i ρ1 with
  | some a, some b => match g a b with
    | some r => .ok r ρ1
    | none => .bad
  | _, _ => .bad
def mBinOO (g : D → D → Option Sl) (i j : Nat) : M Sl := fun ρ => match pk i ρ, pk j ρ with
  | some a, some b => match g a b with
    | some r => .ok r ρ
    | none => .bad
  | _, _ => .bad
theorem e2_ol {r : R2} {g : D → D → Option Sl} {b : Expr} {fb : M Sl} (i : Nat) {x : Str} {pos : Pos} (hr : OpP X r g) (hb : Ev X E b fb) (hN : X.N[i]? = some x := by rfl) (hv : Vis X.env.scope x := by first | exact Or.inl rfl | exact Or.inr (Or.inl rfl) | exact Or.inr (Or.inr rfl)) (hd : (x == ("__debug__" : Str)) = false := by decide)
    (hcd : (x == ("__classdict__" : Str)) = false := by decide) : Ev2 X E (.Name x pos) b r (mBinOL g i fb) := by
  obtain ⟨tb, pb, qb⟩ := hb
  refine ⟨_, _, pe_var hN hv hd hcd, pb, fun B ts σ ρ F H Q hl w h => ?_⟩
  unfold mBinOL Rs.bd at h
  cases e0 : pk i ρ with
  | none => rw [e0] at h; exact h.elim
  | some d0 =>
    rw [e0] at h
    simp only at h
    obtain ⟨v, _, h1, _⟩ := w.peek hl e0
    refine ⟨v, h1, qb B ts σ ρ F H _ hl w ?_⟩
    cases e1 : fb ρ with
    | bad => rw [e1] at h; exact h.elim
    | ex x ρ1 => rw [e1] at h; exact h
    | ok rb ρ1 =>
      rw [e1] at h
      simp only at h
      intro hl1 u F1 H1 w1
      cases ea : pk i ρ1 with
      | none => rw [ea] at h; exact h.elim
      | some a =>
        cases db : rb.d? with
        | none => rw [ea, db] at h; exact h.elim
        | some b =>
          rw [ea, db] at h
          simp only at h
          cases eg : g a b with
          | none => rw [eg] at h; exact h.elim
          | some rc =>
            rw [eg] at h
            obtain ⟨F2, w2, _⟩ := w1.freeze db
            obtain ⟨v', F3, h2, s3, t3, r3⟩ := W.peek (ts := (some u, .val b) :: ts) w2 hl1 ea
            have : v = v' := by rw [h1] at h2; injection h2 with h2; injection h2
            subst this
            obtain ⟨k, ek, kk⟩ := hr F3 H1 v u a b rc Q t3 r3 (w2.val.mono s3) eg
            subst ek
            exact kk (h hl1 _ F2 H1 (w2.tail.more (.bl _)))
theorem e2_or {r : R2} {g : D → D → Option Sl} {a : Expr} {fa : M Sl} (i : Nat) {x : Str} {pos : Pos} (hr : OpP X r g) (ha : Ev X E a fa) (hN : X.N[i]? = some x := by rfl) (hv : Vis X.env.scope x := by first | exact Or.inl rfl | exact Or.inr (Or.inl rfl) | exact Or.inr (Or.inr rfl)) (hd : (x == ("__debug__" : Str)) = false := by decide)
    (hcd : (x == ("__classdict__" : Str)) = false := by decide) : Ev2 X E a (.Name x pos) r (mBinOR g fa i) := by
  obtain ⟨ta, pa, qa⟩ := ha
  refine ⟨_, _, pa, pe_var hN hv hd hcd, fun B ts σ ρ F H Q hl w h => qa B ts σ ρ F H _ hl w ?_⟩
  unfold mBinOR Rs.bd at h
  cases e1 : fa ρ with
  | bad => rw [e1] at h; exact h.elim
  | ex x ρ1 => rw [e1] at h; exact h
  | ok ra ρ1 =>
    rw [e1] at h
    simp only at h
    intro hl1 v F1 H1 w1
    cases da : ra.d? with
    | none => rw [da] at h; exact h.elim
    | some a =>
      cases eb : pk i ρ1 with
      | none => rw [da, eb] at h; exact h.elim
      | some b =>
        rw [da, eb] at h
        simp only at h
        cases eg : g a b with
        | none => rw [eg] at h; exact h.elim
        | some rc =>
          rw [eg] at h
          obtain ⟨F2, w2, _⟩ := w1.freeze da
          obtain ⟨u, F3, h2, s3, t3, r3⟩ := W.peek (ts := (some v, .val a) :: ts) w2 hl1 eb
          refine ⟨u, h2, ?_⟩
          obtain ⟨k, ek, kk⟩ := hr F3 H1 v u a b rc Q t3 (w2.val.mono s3) r3 eg
          subst ek
          exact kk (h hl1 _ F2 H1 (w2.tail.more (.bl _)))
theorem e2_oo {r : R2} {g : D → D → Option Sl} (i j : Nat) {x y : Str} {pos pos' : Pos} (hr : OpP X r g) (hN : X.N[i]? = some x := by rfl) (hv : Vis X.env.scope x := by first | exact Or.inl rfl | exact Or.inr (Or.inl rfl) | exact Or.inr (Or.inr rfl)) (hd : (x == ("__debug__" : Str)) = false := by decide)
    (hcd : (x == ("__classdict__" : Str)) = false := by decide) (hN2 : X.N[j]? = some y := by rfl) (hv2 : Vis X.env.scope y := by first | exact Or.inl rfl | exact Or.inr (Or.inl rfl) | exact Or.inr (Or.inr rfl)) (hd2 : (y == ("__debug__" : Str)) = false := by decide)
    (hcd2 : (y == ("__classdict__" : Str)) = false := by decide) : Ev2 X E (.Name x pos) (.Name y pos') r (mBinOO g i j) := by
  refine ⟨_, _, pe_var hN hv hd hcd, pe_var hN2 hv2 hd2 hcd2, fun B ts σ ρ F H Q hl w h => ?_⟩
  unfold mBinOO at h
  cases ea : pk i ρ with
  | none => rw [ea] at h; exact h.elim
  | some a =>
    cases eb : pk j ρ with
    | none => rw [ea, eb] at h; exact h.elim
    | some b =>
      rw [ea, eb] at h
      simp only at h
      cases eg : g a b with
      | none => rw [eg] at h; exact h.elim
      | some rc =>
        rw [eg] at h
        have both : ∃ v u F', σ[i]? = some (some v) ∧ σ[j]? = some (some u) ∧ Same F' H ∧ Rp X.K F' v a ∧ Rp X.K F' u b := by
          unfold pk at ea
          cases e : ρ[i]? with
          | none => rw [e] at ea; cases ea
          | some s =>
            rw [e] at ea
            obtain ⟨o, l, h1, w1, k1⟩ := w.at hl e
            obtain ⟨F1, w2, sf⟩ := w1.freeze ea
            obtain ⟨v, rfl, rv⟩ := w2.valO
            have w3 := k1 w2
            have eb' : pk j (ρ.set i (.val a)) = some b := by
              unfold pk at eb ⊢
              by_cases z : i = j
              · subst z
                rw [e] at eb
                rw [List.getElem?_set_self (List.getElem?_eq_some_iff.mp e).1]
                have : a = b := Option.some.inj (ea.symm.trans eb)
                subst this
                rfl
              · rw [List.getElem?_set_ne z]; exact eb
            obtain ⟨u, F2, h2, s2, t2, r2⟩ := W.peek w3 (set_len hl) eb'
            exact ⟨v, u, F2, h1, h2, t2, rv.mono s2, r2⟩
        obtain ⟨v, u, F', h1, h2, t, r1, r2⟩ := both
        refine ⟨v, h1, u, h2, ?_⟩
        obtain ⟨k, ek, kk⟩ := hr F' H v u a b rc Q t r1 r2 eg
        subst ek
        exact kk (h hl _ F H (w.more (.bl _)))
/-- isinstance(x, T) -/
def mIsiO (T : String) (i : Nat) : M Sl := fun ρ => match pk i ρ with
  | some d => match isiD T d with
    | some b => .ok (.val (.bool b)) ρ
    | none => .bad
  | none => .bad
theorem ev_isiO (i : Nat) {T : String} {x y : Str} {p pos p2 p3 : Pos} (hm : X.mg "isinstance" = none) (hm2 : X.mg x = none) (hv : bootBuiltins x = some (.type T)) (hg : Gl X "isinstance" := by rfl) (hg2 : Gl X x := by rfl) (hn2 : x ≠ "__name__" := by decide) (hdb2 : (x == ("__debug__" : Str)) = false := by decide)
    (hN : X.N[i]? = some y := by rfl) (hvy : Vis X.env.scope y := by first | exact Or.inl rfl | exact Or.inr (Or.inl rfl) | exact Or.inr (Or.inr rfl)) (hd : (y == ("__debug__" : Str)) = false := by decide)
    (hcd : (y == ("__classdict__" : Str)) = false := by decide)
    (he : starEach [.Name y p3, .Name x p2] X.env = (false, eval (.Name y p3) X.env) :: starEach [.Name x p2] X.env := by rfl) (he2 : starEach [.Name x p2] X.env = (false, eval (.Name x p2) X.env) :: starEach [] X.env := by rfl) (hpl : (backTo pos (starEach [.Name x p2] X.env)).any (·.1) = false := by rfl) :
    Ev X E (.Call (.Name "isinstance" p) [.Name y p3, .Name x p2] [] pos) (mIsiO T i) := by
  refine ⟨_, pe_callB call_isi hg hm (by decide +kernel) (pa_cons (pe_var hN hvy hd hcd) (pa_cons (pe_bltn (v := .ty T) hg2 hm2 hv rfl hn2 hdb2) pa_nil he2) he) (by decide) (by decide) he hpl, fun B ts σ ρ F H Q hl w h => ?_⟩
  unfold mIsiO at h
  cases e1 : pk i ρ with
  | none => rw [e1] at h; exact h.elim
  | some d =>
    rw [e1] at h
    simp only at h
    cases e2 : isiD T d with
    | none => rw [e2] at h; exact h.elim
    | some b =>
      rw [e2] at h
      obtain ⟨v, F', h1, s1, t1, r1⟩ := w.peek hl e1
      exact ⟨v, h1, v, .ty T, _, _, b, rfl, .ty T, Rp.ty t1 r1, kit_ty e2, h hl _ F H (w.more (.bl b))⟩
/-! ### what a name owns, walked -/
def lk (i : Nat) (ρ : Env) : Option (List D) := match ρ[i]? with
  | some (.lst es) => some es
  | some (.val (.list es)) => some es
  | _ => none
theorem W.look {K : Fg} {mg : Str → Option Value} {B : Bs} {ts : List Sv} {σ : L2.St} {ρ : Env} {F H : Hp} {i : Nat} {es : List D} (w : W K mg B (ts ++ zp σ ρ) F H) (hl : σ.length = ρ.length) (h : lk i ρ = some es) :
    ∃ a xs, σ[i]? = some (some (.ref a)) ∧ H a = some (.lst xs) ∧ RpL K F xs es := by
  unfold lk at h
  cases e : ρ[i]? with
  | none => rw [e] at h; cases h
  | some s =>
    rw [e] at h
    obtain ⟨o, l, h1, w1, _⟩ := w.at hl e
    split at h
    · rename_i q
      cases q
      cases h
      obtain ⟨p, vs, rfl, hp, rp, _⟩ := w1.lst
      exact ⟨p, vs, h1, hp, rp⟩
    · rename_i q
      cases q
      cases h
      obtain ⟨v, rfl, rv⟩ := w1.valO
      cases rv with
      | lst h2 r2 => exact ⟨_, _, h1, w1.fh _ _ h2, r2⟩
    · cases h
def FeedO (X : Cx) (J : It) (ds : List D) (i : Nat) (a : Addr) (es : List D) : Prop := ∀ (n : Nat) (B : Bs) (l : List Sv) (xs : List V) (F H : Hp), W X.K X.mg B l F H → H a = some (.lst xs) → RpL X.K F xs es →
  (∀ d, ds[n]? = some d → J.go n H ∧ ∀ x H', J.yld n H x H' → ∃ F', W X.K X.mg B ((some x, .val d) :: l) F' H') ∧ (ds.length ≤ n → J.stop n H)
def EvIO (X : Cx) (tg iter : Expr) (i : Nat) (φ : List D → List D) : Prop := ∃ wi, PI X tg iter wi ∧ ∀ (B : Bs) (ts : List Sv) (σ : L2.St) (ρ : Env) (F H : Hp) (R : It → Hp → Prop) (es : List D), σ.length = ρ.length → WX X B (ts ++ zp σ ρ) F H → lk i ρ = some es →
  (∀ J a, σ[i]? = some (some (.ref a)) → FeedO X J (φ es) i a es → R J H) → wi σ H R
theorem feedO_list {i : Nat} {a : Addr} {es : List D} : FeedO X (Itl X.K a) es i a es := by
  intro n B l xs F H w h r
  have q : SqL X.K H a xs := SqL.of h
  refine ⟨fun d hd => ?_, fun hi => ⟨xs, q, by rw [r.length]; exact hi⟩⟩
  obtain ⟨v, e1, e2⟩ := r.get hd
  refine ⟨⟨xs, v, q, e1⟩, fun x H' hy => ?_⟩
  obtain ⟨rfl, hy⟩ := hy
  have : v = x := Option.some.inj (e1.symm.trans (hy xs q))
  subst this
  exact ⟨F, w.more e2⟩
theorem feedO_enum {i : Nat} {a : Addr} {es : List D} : FeedO X (Ite X.K a) (enumD es) i a es := by
  intro n B l xs F H w h r
  have q : SqL X.K H a xs := SqL.of h
  refine ⟨fun d hd => ?_, fun hi => ⟨xs, q, by rw [r.length]; simpa [enumD] using hi⟩⟩
  unfold enumD at hd
  rw [List.getElem?_zipWith] at hd
  have hi : n < es.length := by
    by_cases z : n < es.length
    · exact z
    · rw [List.getElem?_eq_none (l := es) (by omega)] at hd
      cases hr : (List.range es.length)[n]? <;> rw [hr] at hd <;> cases hd
  rw [List.getElem?_range hi, List.getElem?_eq_getElem hi] at hd
  have hd' : PyData.tuple [.int (n : Nat), es[n]] = d := Option.some.inj hd
  subst hd'
  obtain ⟨v, e1, e2⟩ := r.get (List.getElem?_eq_getElem hi)
  refine ⟨⟨xs, v, q, e1⟩, fun x H' hy => ?_⟩
  obtain ⟨T, y, rfl, hT, rfl, hy⟩ := hy
  have : v = y := Option.some.inj (e1.symm.trans (hy xs q))
  subst this
  exact ⟨_, w.new_tup (.cons (.int _) (.cons e2 .nil)) hT⟩
theorem eio_seq (i : Nat) {tg : Expr} {x : Str} {pos : Pos} (hN : X.N[i]? = some x := by rfl) (hv : Vis X.env.scope x := by first | exact Or.inl rfl | exact Or.inr (Or.inl rfl) | exact Or.inr (Or.inr rfl)) (hd : (x == ("__debug__" : Str)) = false := by decide)
    (hcd : (x == ("__classdict__" : Str)) = false := by decide) : EvIO X tg (.Name x pos) i id := by
  refine ⟨_, pi_seq (pe_var hN hv hd hcd), fun B ts σ ρ F H R es hl w he h => ?_⟩
  obtain ⟨a, xs, h1, h2, h3⟩ := w.look hl he
  exact ⟨_, h1, a, rfl, .inl ⟨⟨xs, SqL.of h2⟩, h _ a h1 feedO_list⟩⟩
theorem eio_enum (i : Nat) {elts : List Expr} {kk : Nat} {tpos p pos p2 : Pos} {x : Str} (hm : X.mg "enumerate" = none) (hg : Gl X "enumerate" := by rfl) (hN : X.N[i]? = some x := by rfl) (hv : Vis X.env.scope x := by first | exact Or.inl rfl | exact Or.inr (Or.inl rfl) | exact Or.inr (Or.inr rfl)) (hd : (x == ("__debug__" : Str)) = false := by decide)
    (hcd : (x == ("__classdict__" : Str)) = false := by decide) (hs : starEach [.Name x p2] X.env = [(false, eval (.Name x p2) X.env)] := by rfl) : EvIO X (.Tuple elts kk tpos) (.Call (.Name "enumerate" p) [.Name x p2] [] pos) i enumD := by
  refine ⟨_, pi_enumA hg hm (pa_cons (pe_var hN hv hd hcd) pa_nil hs) hs, fun B ts σ ρ F H R es hl w he h => ?_⟩
  obtain ⟨a, xs, h1, h2, h3⟩ := w.look hl he
  exact ⟨_, h1, a, rfl, .inl ⟨⟨xs, SqL.of h2⟩, h _ a h1 feedO_enum⟩⟩
def stay (i : Nat) (es : List D) (ρ : Env) : Bool := tru (lk i ρ = some es)
def loopO (i : Nat) (es : List D) (k : Sl → Env → Option Env) (body : Ms) : List D → Ms
  | [], ρ => match stay i es ρ with
    | true => .nx ρ
    | false => .bad
  | d :: ds, ρ => match stay i es ρ with
    | false => .bad
    | true => match k (.val d) ρ with
      | none => .bad
      | some ρ1 => match body ρ1 with
        | .nx ρ2 => loopO i es k body ds ρ2
        | .ct ρ2 => loopO i es k body ds ρ2
        | .bk ρ2 => .nx ρ2
        | .rt r ρ2 => .rt r ρ2
        | .ex e ρ2 => .ex e ρ2
        | .bad => .bad
def mForO (i : Nat) (φ : List D → List D) (k : Sl → Env → Option Env) (body : Ms) : Ms := fun ρ => match lk i ρ with
  | some es => loopO i es k body (φ es) ρ
  | none => .bad
theorem Pins.sub {pn pn' : List Nat} {σ σ' : L2.St} (h : Pins pn' σ σ') (s : ∀ i ∈ pn, i ∈ pn') : Pins pn σ σ' := fun i hi => h i (s i hi)
theorem ss_forO (i : Nat) {pn tv : List Nat} {tg iter : Expr} {body : List Stmt} {φ : List D → List D} {k : Sl → Env → Option Env} {g : Ms} {pos : Pos} (hp : PassesOwn (model X.prog X.w) X.A X.env X.xe) (hi : EvIO X tg iter i φ) (hg : Tg X tv tg k) (hb : SsB X E (i :: pn) body g) (htv : ∀ j ∈ i :: pn, j ∉ tv := by decide) (hc : X.calm = true := by rfl)
    (hs : ∀ x, foldedSetIterable iter X.env x = pure x := by intro _; rfl) : Ss X E pn (.For tg iter body [] pos) (mForO i φ k g) := by
  obtain ⟨wi, pi, qi⟩ := hi
  obtain ⟨tg', pg, qg⟩ := hg
  obtain ⟨tb, pb, qb⟩ := hb
  refine ⟨_, ps_for hp hc pi pg pb hs, fun B ts σ ρ F H D hl w h => ?_⟩
  unfold mForO at h
  cases e1 : lk i ρ with
  | none => rw [e1] at h; exact h.elim
  | some es =>
    rw [e1] at h
    simp only at h
    refine qi B ts σ ρ F H _ es hl w e1 fun J a ha fd => ?_
    generalize φ es = ds at h fd
    refine ⟨fun n m σ' H' => ∃ ρ' F', m = ds.length - n ∧ n ≤ ds.length ∧ σ'.length = σ.length ∧ σ'.length = ρ'.length ∧ Pins (i :: pn) σ σ' ∧ WX X B (ts ++ zp σ' ρ') F' H' ∧ SPost X E B ts pn σ D (loopO i es k g (ds.drop n) ρ'),
      ⟨ds.length, ρ, F, rfl, Nat.zero_le _, rfl, hl, Pins.refl _ _, w, h⟩, ?_⟩
    rintro n m σ' H' ⟨ρ', F', rfl, hn, hl2, hl3, hp', w', h'⟩
    have st : ∀ {A : Prop}, (stay i es ρ' = true → A) → A := fun {A} q => by
      apply q
      cases ed : ds.drop n with
      | nil =>
        rw [ed] at h'
        unfold loopO at h'
        cases es : stay i es ρ' with
        | true => rfl
        | false => rw [es] at h'; exact h'.elim
      | cons x r =>
        rw [ed] at h'
        unfold loopO at h'
        cases es : stay i es ρ' with
        | true => rfl
        | false => rw [es] at h'; exact h'.elim
    refine st fun st => ?_
    have st' : lk i ρ' = some es := tru_iff.mp st
    obtain ⟨a', xs, h1, h2, h3⟩ := w'.look hl3 st'
    have ea : a' = a := by
      have q := hp' i (by simp)
      rw [h1, ha] at q
      injection q with q
      injection q with q
      injection q
    subst ea
    obtain ⟨f1, f2⟩ := fd n B _ xs F' H' w' h2 h3
    by_cases hlt : n < ds.length
    · have ed : ds.drop n = ds[n] :: ds.drop (n + 1) := List.drop_eq_getElem_cons hlt
      rw [ed] at h'
      unfold loopO at h'
      rw [st] at h'
      simp only at h'
      obtain ⟨g1, g2⟩ := f1 ds[n] (List.getElem?_eq_getElem hlt)
      refine .inr ⟨g1, fun σ'' H'' => ∃ ρ'' F'', σ''.length = σ.length ∧ σ''.length = ρ''.length ∧ Pins (i :: pn) σ σ'' ∧ WX X B (ts ++ zp σ'' ρ'') F'' H'' ∧ SPost X E B ts pn σ D (loopO i es k g (ds.drop (n + 1)) ρ''),
        fun σ'' H'' ⟨ρ'', F'', a1, a2, a3, a4, a6⟩ => ⟨ds.length - (n + 1), by omega, ρ'', F'', rfl, hlt, a1, a2, a3, a4, a6⟩, fun x H2 hy => ?_⟩
      obtain ⟨F2, w2⟩ := g2 x H2 hy
      cases ek : k (.val ds[n]) ρ' with
      | none => rw [ek] at h'; exact h'.elim
      | some ρ2 =>
        rw [ek] at h'
        simp only at h'
        refine qg B ts σ' ρ' ρ2 F2 H2 x _ _ hl3 w2 ek fun σ3 F3 H3 b1 b2 b3' w3 => ?_
        have b3 : Pins (i :: pn) σ' σ3 := fun j hj => b3' j (htv j hj)
        have sub : ∀ j ∈ pn, j ∈ i :: pn := fun j hj => List.mem_cons_of_mem _ hj
        refine qb B ts σ3 ρ2 F3 H3 _ b2 w3 ?_
        cases eb : g ρ2 with
        | bad => rw [eb] at h'; exact h'.elim
        | nx ρ3 =>
          rw [eb] at h'
          exact fun σ4 F4 H4 c1 c2 c3 w4 => ⟨ρ3, F4, c1.trans (b1.trans hl2), c2, (hp'.trans b3).trans c3, w4, h'⟩
        | ct ρ3 =>
          rw [eb] at h'
          exact fun σ4 F4 H4 c1 c2 c3 w4 => ⟨ρ3, F4, c1.trans (b1.trans hl2), c2, (hp'.trans b3).trans c3, w4, h'⟩
        | bk ρ3 =>
          rw [eb] at h'
          exact fun σ4 F4 H4 c1 c2 c3 w4 => h' σ4 F4 H4 (c1.trans (b1.trans hl2)) c2 (((hp'.trans b3).trans c3).sub sub) w4
        | rt r ρ3 =>
          rw [eb] at h'
          exact fun v σ4 F4 H4 c1 c2 c3 w4 => h' v σ4 F4 H4 (c1.trans (b1.trans hl2)) c2 (((hp'.trans b3).trans c3).sub sub) w4
        | ex e ρ3 =>
          rw [eb] at h'
          exact fun c dx σ4 F4 H4 c1 c2 c3 w4 q => h' c dx σ4 F4 H4 (c1.trans (b1.trans hl2)) c2 (((hp'.trans b3).trans c3).sub sub) w4 q
    · have : n = ds.length := by omega
      subst this
      rw [List.drop_length] at h'
      unfold loopO at h'
      rw [st] at h'
      exact .inl ⟨f2 (Nat.le_refl _), h' σ' F' H' hl2 hl3 (hp'.sub fun j hj => List.mem_cons_of_mem _ hj) w'⟩
/-! in a comprehension -/
def compO (i : Nat) (es : List D) (vs : List Nat) (k : Sl → Env → Option Env) (tt : M Bool) (fe : M Sl) : List D → List D → Env → Rs Sl
  | [], acc, ρ => match stay i es ρ with
    | true => .ok (.lst acc) ρ
    | false => .bad
  | d :: ds, acc, ρ => match stay i es ρ with
    | false => .bad
    | true => match k (.val d) ρ with
      | none => .bad
      | some ρ1 => match tt ρ1 with
        | .ok true ρ2 => match fe ρ2 with
          | .ok r ρ3 => match r.d? with
            | some y => match szOk (acc.length + 1) with
              | true => compO i es vs k tt fe ds (acc ++ [y]) (wipeS ρ3 vs)
              | false => .bad
            | none => .bad
          | _ => .bad
        | .ok false ρ2 => compO i es vs k tt fe ds acc (wipeS ρ2 vs)
        | _ => .bad
def mCompO (i : Nat) (φ : List D → List D) (vs : List Nat) (k : Sl → Env → Option Env) (tt : M Bool) (fe : M Sl) : M Sl := fun ρ => match lk i ρ with
  | some es => compO i es vs k tt fe (φ es) [] (wipeS ρ vs)
  | none => .bad
theorem compO_run (i : Nat) {iter elt tg : Expr} {ifs : List Expr} {scope : Scope} {vs tv : List Nat} {φ : List D → List D} {k : Sl → Env → Option Env} {ft : M Bool} {fe : M Sl} (hi : EvIO X tg iter i φ)
    (hg : Blk X scope fun Y => Tg Y tv tg k) (ht : Blk X scope fun Y => EvTs Y E0 ifs ft) (he : Blk X scope fun Y => Ev Y E0 elt fe) (htv : ∀ i ∈ tv, i ∈ vs) (hiv : i ∉ vs) :
    ∃ wi g tt te, PI X tg iter wi ∧ (Blk X scope fun Y => PG Y tg g) ∧ (Blk X scope fun Y => PTs Y ifs tt) ∧ (Blk X scope fun Y => PE Y elt te) ∧ Run X E (tLc wi g tt te vs) (mCompO i φ vs k ft fe) := by
  obtain ⟨wi, pi, qi⟩ := hi
  refine ⟨wi, fun v σ H Q => ∀ s H' C cl fp, Classical.choose (hg s H' C cl fp) v σ H Q, fun σ H Q => ∀ s H' C cl fp, Classical.choose (ht s H' C cl fp) σ H Q, fun σ H Q => ∀ s H' C cl fp, Classical.choose (he s H' C cl fp) σ H Q, pi,
    fun s H' C cl fp => ⟨fun pins s1 σ H v u Q I r h => (Classical.choose_spec (hg s H' C cl fp)).1.run pins s1 σ H v u Q I r (h s H' C cl fp)⟩,
    fun s H' C cl fp => ⟨fun pins s1 σ H Q I h => (Classical.choose_spec (ht s H' C cl fp)).1.run pins s1 σ H Q I (h s H' C cl fp)⟩,
    fun s H' C cl fp => ⟨fun pins s1 σ H Q I h => (Classical.choose_spec (he s H' C cl fp)).1.run pins s1 σ H Q I (h s H' C cl fp)⟩, ?_⟩
  intro B ts σ ρ F H Q hl w h
  unfold mCompO at h
  cases e1 : lk i ρ with
  | none => rw [e1] at h; exact h.elim
  | some es =>
    rw [e1] at h
    simp only at h
    refine qi B ts σ ρ F H _ es hl w e1 fun J a ha fd => ?_
    generalize φ es = ds at h fd
    intro N hN
    have back : ∀ {σ' : L2.St} {ρ' : Env} {acc : List D} {F' H' : Hp}, σ'.length = ρ'.length → σ'.length = σ.length → (∀ j, j ∉ vs → σ'[j]? = (wipe σ vs)[j]?) → WX X B ((some (.ref N), .lst acc) :: (ts ++ zp σ' ρ')) F' H' → WX X B ((some (.ref N), .lst acc) :: (ts ++ zp (wipe σ vs) (wipeS ρ' vs))) F' H' := fun h1 h2 h3 w => by
      refine w.wk (.same (Wk.app (Wk.refl _) (wk_wipe h1 ?_ fun j hj => (h3 j hj).symm)))
      rw [wipe_length]; exact h2.symm
    have w0 : WX X B ((some (.ref N), .lst []) :: (ts ++ zp σ ρ)) F (upd H N (.lst [])) := W.new_lst w (ds := []) .nil hN
    refine ⟨fun n m H' => ∃ ρ' F' acc, m = ds.length - n ∧ n ≤ ds.length ∧ σ.length = ρ'.length ∧ (∀ j ∈ vs, j < ρ'.length → ρ'[j]? = some .und) ∧ WX X B ((some (.ref N), .lst acc) :: (ts ++ zp (wipe σ vs) ρ')) F' H' ∧ EPost X E B ts σ (compO i es vs k ft fe (ds.drop n) acc ρ') Q,
      ⟨ds.length, wipeS ρ vs, F, [], rfl, Nat.zero_le _, by rw [wipeS_length]; exact hl, fun j hj hlt => wipeS_at.2 hj (by rw [wipeS_length] at hlt; exact hlt), back hl rfl (fun j hj => (wipe_out hj).symm) w0, h⟩, ?_⟩
    rintro n m H' ⟨ρ', F', acc, rfl, hn, hl2, hu, w', h'⟩
    have hl2' : (wipe σ vs).length = ρ'.length := by rw [wipe_length]; exact hl2
    have st : stay i es ρ' = true := by
      cases ed : ds.drop n with
      | nil =>
        rw [ed] at h'
        unfold compO at h'
        cases es : stay i es ρ' with
        | true => rfl
        | false => rw [es] at h'; exact h'.elim
      | cons x r =>
        rw [ed] at h'
        unfold compO at h'
        cases es : stay i es ρ' with
        | true => rfl
        | false => rw [es] at h'; exact h'.elim
    have st' : lk i ρ' = some es := tru_iff.mp st
    obtain ⟨a', xs, h1, h2, h3⟩ := W.look (ts := (some (.ref N), .lst acc) :: ts) w' hl2' st'
    have ea : a' = a := by
      rw [wipe_out hiv, ha] at h1
      injection h1 with q
      injection q with q
      injection q with q
      exact q.symm
    subst ea
    obtain ⟨f1, f2⟩ := fd n B _ xs F' H' w' h2 h3
    by_cases hlt : n < ds.length
    · have ed : ds.drop n = ds[n] :: ds.drop (n + 1) := List.drop_eq_getElem_cons hlt
      rw [ed] at h'
      unfold compO at h'
      rw [st] at h'
      simp only at h'
      obtain ⟨g1, g2⟩ := f1 ds[n] (List.getElem?_eq_getElem hlt)
      refine .inr ⟨g1, fun H'' => ∃ ρ'' F'' acc', σ.length = ρ''.length ∧ (∀ j ∈ vs, j < ρ''.length → ρ''[j]? = some .und) ∧ WX X B ((some (.ref N), .lst acc') :: (ts ++ zp (wipe σ vs) ρ'')) F'' H'' ∧ EPost X E B ts σ (compO i es vs k ft fe (ds.drop (n + 1)) acc' ρ'') Q,
        fun H'' ⟨ρ'', F'', acc', a2, a3, a4, a6⟩ => ⟨ds.length - (n + 1), by omega, ρ'', F'', acc', rfl, hlt, a2, a3, a4, a6⟩, fun x H2 hy => ?_⟩
      obtain ⟨F2, w2⟩ := g2 x H2 hy
      cases ek : k (.val ds[n]) ρ' with
      | none => rw [ek] at h'; exact h'.elim
      | some ρ2 =>
        rw [ek] at h'
        simp only at h'
        have w3 : WX X B ((some x, .val ds[n]) :: (((some (.ref N), .lst acc) :: ts) ++ zp (wipe σ vs) ρ')) F2 H2 := w2
        intro s H0 C cl fp
        refine (Classical.choose_spec (hg s H0 C cl fp)).2 B _ (wipe σ vs) ρ' ρ2 F2 H2 x _ _ hl2' w3 ek fun σ3 F3 H3 b1 b2 b3 w4 => ?_
        rw [wipe_length] at b1
        have b4 : ∀ j, j ∉ vs → σ3[j]? = (wipe σ vs)[j]? := fun j hj => b3 j fun z => hj (htv j z)
        have b5 : ∀ j, j ∉ vs → σ3[j]? = σ[j]? := fun j hj => (b4 j hj).trans (wipe_out hj)
        refine ⟨wipe_eq b1 b5, fun s H0 C cl fp => ?_⟩
        refine (Classical.choose_spec (ht s H0 C cl fp)).2 B _ σ3 ρ2 F3 H3 _ b2 w4 ?_
        cases et : ft ρ2 with
        | bad => rw [et] at h'; exact h'.elim
        | ex _ _ => rw [et] at h'; exact h'.elim
        | ok b ρ3 =>
          rw [et] at h'
          intro hl3 F4 H4 w5
          cases b with
          | false =>
            simp only at h'
            exact iteF ⟨wipeS ρ3 vs, F4, acc, by rw [wipeS_length]; exact b1.symm.trans hl3, fun j hj hlt => wipeS_at.2 hj (by rw [wipeS_length] at hlt; exact hlt), back hl3 b1 b4 w5, h'⟩
          | true =>
            simp only at h'
            refine iteT fun s H0 C cl fp => (Classical.choose_spec (he s H0 C cl fp)).2 B _ σ3 ρ3 F4 H4 _ hl3 w5 ?_
            cases ee : fe ρ3 with
            | bad => rw [ee] at h'; exact h'.elim
            | ex _ _ => rw [ee] at h'; exact h'.elim
            | ok r ρ4 =>
              rw [ee] at h'
              simp only at h'
              intro hl4 y F5 H5 w6
              cases er : r.d? with
              | none => rw [er] at h'; exact h'.elim
              | some yd =>
                rw [er] at h'
                simp only at h'
                cases es : szOk (acc.length + 1) with
                | false => rw [es] at h'; exact h'.elim
                | true =>
                  rw [es] at h'
                  simp only at h'
                  obtain ⟨F6, w7, _⟩ := w6.freeze er
                  obtain ⟨us, q1, q2, q3⟩ := W.app1 w7
                  exact ⟨us, q1, by rw [q2]; exact szOk_le es, wipeS ρ4 vs, F6, acc ++ [yd], by rw [wipeS_length]; exact b1.symm.trans hl4, fun j hj hlt => wipeS_at.2 hj (by rw [wipeS_length] at hlt; exact hlt), back hl4 b1 b4 q3, h'⟩
    · have : n = ds.length := by omega
      subst this
      rw [List.drop_length] at h'
      unfold compO at h'
      rw [st] at h'
      refine .inl ⟨f2 (Nat.le_refl _), h' hl2 _ F' H' ?_⟩
      refine w'.wk (.same (Wk.app (Wk.refl _) ?_))
      refine Wk.zip (by rw [wipe_length]; exact hl2) (wipe_length _ _).symm rfl fun j => ?_
      by_cases hj : j ∈ vs
      · by_cases hlt : j < ρ'.length
        · exact .inl (hu j hj hlt)
        · exact .inr ⟨by rw [List.getElem?_eq_none (by omega), List.getElem?_eq_none (by rw [wipe_length]; omega)], rfl⟩
      · exact .inr ⟨(wipe_out hj).symm, rfl⟩
theorem ev_compO (i : Nat) {iter elt tg : Expr} {ifs : List Expr} {scope : Scope} {own : List (Str × Nat)} {tv : List Nat} {φ : List D → List D} {k : Sl → Env → Option Env} {ft : M Bool} {fe : M Sl} {pos : Pos} (hN : X.N.Nodup) (hi : EvIO X tg iter i φ) (ok : BlkOk X.N X.env.scope scope own)
    (hg : Blk X scope fun Y => Tg Y tv tg k) (ht : Blk X scope fun Y => EvTs Y E0 ifs ft) (he : Blk X scope fun Y => Ev Y E0 elt fe) (htv : ∀ i ∈ tv, i ∈ own.map (·.2) := by decide) (hiv : i ∉ own.map (·.2) := by decide) (hc : X.calm = true := by rfl) (hs : ∀ x, foldedSetIterable iter X.env x = pure x := by intro _; rfl) :
    Ev X E (.ListComp elt [⟨tg, iter, ifs, 0⟩] scope pos) (mCompO i φ (own.map (·.2)) k ft fe) := by
  obtain ⟨wi, g, tt, te, a, b, c, d, r⟩ := compO_run i hi hg ht he htv hiv
  exact ⟨_, pe_lc hc hN a ok b c d hs, r⟩
theorem ss_setCompO (l : Nat) (i : Nat) {pn : List Nat} {y : Str} {py : Pos} {iter elt tg : Expr} {ifs : List Expr} {scope : Scope} {own : List (Str × Nat)} {tv : List Nat} {φ : List D → List D} {k : Sl → Env → Option Env} {ft : M Bool} {fe : M Sl} {pos spos : Pos} (hN : X.N.Nodup) (hi : EvIO X tg iter i φ)
    (ok : BlkOk X.N X.env.scope scope own) (hg : Blk X scope fun Y => Tg Y tv tg k) (ht : Blk X scope fun Y => EvTs Y E0 ifs ft) (he : Blk X scope fun Y => Ev Y E0 elt fe) (hsw : swapsWith (.ListComp elt [⟨tg, iter, ifs, 0⟩] scope pos) (some (.Name y py)) spos.line X.env = pure true) (hpn : l ∉ pn := by decide)
    (htv : ∀ i ∈ tv, i ∈ own.map (·.2) := by decide) (hiv : i ∉ own.map (·.2) := by decide) (hy : X.N[l]? = some y := by rfl) (hyl : X.env.scope.names.lookup y = some .local := by rfl) (hc : X.calm = true := by rfl) (hs : ∀ x, foldedSetIterable iter X.env x = pure x := by intro _; rfl) :
    Ss X E pn (.Assign [.Name y py] (.ListComp elt [⟨tg, iter, ifs, 0⟩] scope pos) spos) (mSet l (mCompO i φ (own.map (·.2)) k ft fe)) := by
  obtain ⟨wi, g, tt, te, a, b, c, d, r⟩ := compO_run i hi hg ht he htv hiv
  exact ⟨_, ps_setLc hc hN hy hyl hsw a ok b c d hs, fun B ts σ ρ F H D hl w h => r B ts σ ρ F H _ hl w (post_set hpn h)⟩
/-! ### return of what a name owns -/
def mRetO (i : Nat) : Ms := fun ρ => match ρ[i]? with
  | some s => match s.there with
    | true => .rt s (ρ.set i .und)
    | false => .bad
  | none => .bad
theorem ss_retO (i : Nat) {pn : List Nat} {x : Str} {p pos : Pos} (hN : X.N[i]? = some x := by rfl) (hv : Vis X.env.scope x := by first | exact Or.inl rfl | exact Or.inr (Or.inl rfl) | exact Or.inr (Or.inr rfl)) (hd : (x == ("__debug__" : Str)) = false := by decide)
    (hcd : (x == ("__classdict__" : Str)) = false := by decide) : Ss X E pn (.Return (some (.Name x p)) pos) (mRetO i) := by
  refine ⟨_, ps_ret (pe_var hN hv hd hcd), fun B ts σ ρ F H D hl w h => ?_⟩
  unfold mRetO at h
  cases e : ρ[i]? with
  | none => rw [e] at h; exact h.elim
  | some s =>
    rw [e] at h
    simp only at h
    cases e2 : s.there with
    | false => rw [e2] at h; exact h.elim
    | true =>
      rw [e2] at h
      obtain ⟨o, l, h1, w1, k⟩ := w.at hl e
      obtain ⟨v, rfl⟩ := w1.there e2
      refine ⟨v, h1, h v σ F H rfl (set_len hl) (Pins.refl _ _) ?_⟩
      exact k (ts' := (some v, s) :: ts) ((w1.und (o := some v)).perm (.refl _))
end
end
end Fx

set_option Elab.async false
set_option linter.all false
set_option maxRecDepth 100000
namespace Fx
open PySem PySem.Spec PyProof.Rows L2
noncomputable section
/-! ### locking a dict -/
def Lkd (F G : Hp) : Prop := ∀ b u, F b = some u → G b = some u ∨ ∃ xs, (u = .dK xs ∨ ∃ o, u = .frz o (.dK xs)) ∧ Rd G b (.dK xs)
section
variable {K : Fg} {F G : Hp}
theorem Lkd.rdT {a : Addr} {xs : List V} (e : Lkd F G) (h : Rd F a (.tup xs)) : Rd G a (.tup xs) := by
  rcases h with h | ⟨o, h⟩
  · rcases e _ _ h with q | ⟨ys, q, _⟩
    · exact .inl q
    · rcases q with q | ⟨_, q⟩ <;> cases q
  · rcases e _ _ h with q | ⟨ys, q, _⟩
    · exact .inr ⟨o, q⟩
    · rcases q with q | ⟨_, q⟩ <;> cases q
theorem Lkd.rdL {a : Addr} {xs : List V} (e : Lkd F G) (h : Rd F a (.lst xs)) : Rd G a (.lst xs) := by
  rcases h with h | ⟨o, h⟩
  · rcases e _ _ h with q | ⟨ys, q, _⟩
    · exact .inl q
    · rcases q with q | ⟨_, q⟩ <;> cases q
  · rcases e _ _ h with q | ⟨ys, q, _⟩
    · exact .inr ⟨o, q⟩
    · rcases q with q | ⟨_, q⟩ <;> cases q
theorem Lkd.rdK {a : Addr} {xs : List (Key × V)} (e : Lkd F G) (h : Rd F a (.dK xs)) : Rd G a (.dK xs) := by
  rcases h with h | ⟨o, h⟩
  · rcases e _ _ h with q | ⟨ys, q, r⟩
    · exact .inl q
    · rcases q with q | ⟨_, q⟩
      · cases q; exact r
      · cases q
  · rcases e _ _ h with q | ⟨ys, q, r⟩
    · exact .inr ⟨o, q⟩
    · rcases q with q | ⟨_, q⟩
      · cases q
      · cases q; exact r
theorem Lkd.sqt {a : Addr} {xs : List V} (e : Lkd F G) (h : SqT K F a xs) : SqT K G a xs := by
  rcases h with h | h
  · exact .inl (e.rdT h)
  · exact .inr h
theorem Lkd.tupF {a : Addr} {xs : List V} (e : Lkd F G) (h : F a = some (.tup xs)) : G a = some (.tup xs) := by
  rcases e _ _ h with q | ⟨ys, q, _⟩
  · exact q
  · rcases q with q | ⟨_, q⟩ <;> cases q
theorem Lkd.sql {a : Addr} {xs : List V} (e : Lkd F G) (h : SqL K F a xs) : SqL K G a xs := by
  rcases h with h | h
  · exact .inl (e.rdL h)
  · exact .inr h
theorem Lkd.lst {a : Addr} {xs : List V} (e : Lkd F G) (h : F a = some (.lst xs)) : G a = some (.lst xs) := by
  rcases e _ _ h with q | ⟨ys, q, _⟩
  · exact q
  · rcases q with q | ⟨_, q⟩ <;> cases q
mutual
theorem Rp.lkd (e : Lkd F G) : ∀ {v : V} {d : D}, Rp K F v d → Rp K G v d
  | _, _, .non => .non
  | _, _, .bl b => .bl b
  | _, _, .int i => .int i
  | _, _, .str x => .str x
  | _, _, .lst h t => .lst (e.lst h) (RpL.lkd e t)
  | _, _, .tup h t => .tup (e.tupF h) (RpL.lkd e t)
  | _, _, .dK h t => .dK (e.rdK h) (RpK.lkd e t)
theorem RpL.lkd (e : Lkd F G) : ∀ {vs : List V} {ds : List D}, RpL K F vs ds → RpL K G vs ds
  | _, _, .nil => .nil
  | _, _, .cons h t => .cons (Rp.lkd e h) (RpL.lkd e t)
theorem RpK.lkd (e : Lkd F G) : ∀ {vs : List (Key × V)} {ds : List (Key × D)}, RpK K F vs ds → RpK K G vs ds
  | _, _, .nil => .nil
  | _, _, .cons h t => .cons (Rp.lkd e h) (RpK.lkd e t)
end
theorem RpT.lkd (e : Lkd F G) : ∀ {vs : List (List Key × V)} {ds : List (List Key × D)}, RpT K F vs ds → RpT K G vs ds
  | _, _, .nil => .nil
  | _, _, .cons h t => .cons (Rp.lkd e h) (RpT.lkd e t)
end
section
variable {K : Fg} {mg : Str → Option Value} {F G H H' : Hp}
mutual
theorem SlR.lkd (e : Lkd F G) : ∀ {o : Option V} {s : Sl} {fp : List Addr}, SlR K mg F H o s fp → (∀ a ∈ fp, H' a = H a) → SlR K mg G H' o s fp
  | _, _, _, .und, _ => .und
  | _, _, _, .val h, _ => .val (h.lkd e)
  | _, _, _, .lst h t, k => .lst ((k _ (by simp)).trans h) (t.lkd e)
  | _, _, _, .dK h t, k => .dK ((k _ (by simp)).trans h) (t.lkd e)
  | _, _, _, .dT h t, k => .dT ((k _ (by simp)).trans h) (t.lkd e)
  | _, _, _, .scr h, _ => .scr (e.sql h)
  | _, _, _, .obj h c t, k => .obj ((k _ (by simp)).trans h) c (SlRF.lkd e t fun a ha => k a (List.mem_cons_of_mem _ ha))
theorem SlRF.lkd (e : Lkd F G) : ∀ {vs : List (Str × V)} {ss : List (Str × Sl)} {fp : List Addr}, SlRF K mg F H vs ss fp → (∀ a ∈ fp, H' a = H a) → SlRF K mg G H' vs ss fp
  | _, _, _, .nil, _ => .nil
  | _, _, _, .cons h t, k => .cons (SlR.lkd e h fun a ha => k a (List.mem_append_left _ ha)) (SlRF.lkd e t fun a ha => k a (List.mem_append_right _ ha))
end
theorem SlRs.lkd (e : Lkd F G) : ∀ {l : List Sv} {fp : List Addr}, SlRs K mg F H l fp → (∀ a ∈ fp, H' a = H a) → SlRs K mg G H' l fp
  | _, _, .nil, _ => .nil
  | _, _, .cons h t, k => .cons (h.lkd e fun a ha => k a (List.mem_append_left _ ha)) (SlRs.lkd e t fun a ha => k a (List.mem_append_right _ ha))
/-- a dict that is frozen is locked, and let go again -/
theorem W.lockK {B : Bs} {l : List Sv} {a : Addr} {xs : List (Key × V)} {od : Obj} (w : W K mg B l F H) (h : F a = some (.dK xs)) : ∃ B', W K mg B' l (upd F a (.frz od (.dK xs))) (upd H a (.frz od (.dK xs))) ∧ B'.F0 a = some (.frz od (.dK xs)) ∧
    ∀ {l' : List Sv} {F' H' : Hp}, W K mg B' l' F' H' → H' a = some (.frz od (.dK xs)) ∧ W K mg B l' (upd F' a (.dK xs)) (upd H' a (.dK xs)) := by
  have hH := w.fh _ _ h
  obtain ⟨fp, s, nd, hn, kk⟩ := W.frame (l := l) (m := []) (by rw [List.append_nil]; exact w)
  have out : ∀ b ∈ fp, b ≠ a := fun b hb z => by
    have := (hn b hb).1
    rw [z, h] at this; cases this
  have lk : Lkd F (upd F a (.frz od (.dK xs))) := fun b u e => by
    by_cases q : b = a
    · subst q
      rw [h] at e; cases e
      exact .inr ⟨xs, .inl rfl, .inr ⟨od, upd_same⟩⟩
    · exact .inl (by rw [upd_ne q]; exact e)
  refine ⟨⟨upd F a (.frz od (.dK xs)), upd H a (.frz od (.dK xs)), fp⟩, ?_, upd_same, fun {l' F' H'} w' => ?_⟩
  · refine W.start (fun b u e => ?_) (s.lkd lk fun b hb => upd_ne (out b hb)) nd fun b hb => ?_
    · by_cases q : b = a
      · subst q; rw [upd_same] at e ⊢; exact e
      · rw [upd_ne q] at e ⊢; exact w.fh _ _ e
    · rw [upd_ne (out b hb), upd_ne (out b hb)]; exact hn b hb
  · have ha : H' a = some (.frz od (.dK xs)) := w'.fr a _ upd_same fun z => out a z rfl
    have hF : F' a = some (.frz od (.dK xs)) := w'.f0 _ _ upd_same
    refine ⟨ha, ?_⟩
    obtain ⟨fq, s', nd', hn'⟩ := w'.sl
    have out' : ∀ b ∈ fq, b ≠ a := fun b hb z => by
      have := (hn' b hb).1
      rw [z, hF] at this; cases this
    have lk' : Lkd F' (upd F' a (.dK xs)) := fun b u e => by
      by_cases q : b = a
      · subst q
        rw [hF] at e; cases e
        exact .inr ⟨xs, .inr ⟨od, rfl⟩, .inl upd_same⟩
      · exact .inl (by rw [upd_ne q]; exact e)
    have w2 : W K mg ⟨F, H, fp⟩ l' (upd F' a (.dK xs)) (upd H' a (.dK xs)) := by
      refine ⟨fun b u e => ?_, fun b u e => ?_, fun b hb h0 hx => ?_, fun b u e hx => ?_, fun b hb => ?_, fq, s'.lkd lk' fun b hb => upd_ne (out' b hb), nd', fun b hb => ?_⟩
      · by_cases q : b = a
        · subst q; rw [upd_same] at e ⊢; exact e
        · rw [upd_ne q] at e ⊢; exact w'.fh _ _ e
      · by_cases q : b = a
        · subst q; have e' : F b = some u := e; rw [h] at e'; cases e'; exact upd_same
        · rw [upd_ne q]; exact w'.f0 _ _ (by show upd F a _ b = _; rw [upd_ne q]; exact e)
      · have h0' : F b = none := h0
        have q : b ≠ a := fun z => by rw [z, h] at h0'; cases h0'
        exact fun u e => w'.nw b (by show upd H a _ b ≠ none; rw [upd_ne q]; exact hb) (by show upd F a _ b = none; rw [upd_ne q]; exact h0) hx u (by rw [upd_ne q] at e; exact e)
      · by_cases q : b = a
        · subst q; have e' : H b = some u := e; rw [hH] at e'; cases e'; exact upd_same
        · rw [upd_ne q]; exact w'.fr b u (by show upd H a _ b = _; rw [upd_ne q]; exact e) hx
      · by_cases q : b = a
        · subst q; rw [upd_same]; simp
        · rw [upd_ne q]; exact w'.gr b (by show upd H a _ b ≠ none; rw [upd_ne q]; exact hb)
      · have q := out' b hb
        obtain ⟨q1, q2, q3⟩ := hn' b hb
        refine ⟨by rw [upd_ne q]; exact q1, by rw [upd_ne q]; exact q2, ?_⟩
        rcases q3 with z | z
        · exact .inl z
        · refine .inr ?_
          have z' : upd H a (.frz od (.dK xs)) b = none := z
          rw [upd_ne q] at z'; exact z'
    have w3 := kk w2
    rw [List.append_nil] at w3
    exact w3
end
/-! ### keys -/
def keyEq : D → D → Bool
  | .int i, .int j => decide (i = j)
  | .str x, .str y => decide (x = y)
  | _, _ => false
def lookD : List (D × D) → D → Option D
  | [], _ => none
  | (k, v) :: r, b => if keyEq k b = true then some v else lookD r b
def keyOf : D → Option Key
  | .int i => some (.inl i)
  | .str x => some (.inr x)
  | _ => none
theorem keyOf_kD {d : D} {k : Key} (h : keyOf d = some k) : d = kD k := by
  cases d <;> first | (cases h; rfl) | cases h
theorem keyEq_kD (k k' : Key) : keyEq (kD k) (kD k') = decide (k = k') := by
  cases k <;> cases k' <;> simp [keyEq, kD]
theorem Rp.key {K : Fg} {F : Hp} {v : V} {d : D} {k : Key} (r : Rp K F v d) (h : keyOf d = some k) : v = kV k := by
  cases d with
  | int i => cases h; cases r; rfl
  | str x => cases h; cases r; rfl
  | _ => cases h
abbrev dkD (es : List (Key × D)) : List (D × D) := es.map fun p => (kD p.1, p.2)
section
variable {K : Fg} {F : Hp}
theorem RpK.length : ∀ {xs : List (Key × V)} {ds : List (Key × D)}, RpK K F xs ds → xs.length = ds.length
  | _, _, .nil => rfl
  | _, _, .cons _ t => congrArg (· + 1) (RpK.length t)
theorem RpK.look {k : Key} : ∀ {xs : List (Key × V)} {ds : List (Key × D)} {d : D}, RpK K F xs ds → lookD (dkD ds) (kD k) = some d → ∃ v, valV xs k = some v ∧ Rp K F v d
  | _, _, _, .nil, h => by cases h
  | _, _, d, .cons (k := k1) (v := v1) h t, e => by
    unfold dkD at e
    rw [List.map_cons] at e
    unfold lookD at e
    simp only [keyEq_kD] at e
    by_cases q : k1 = k
    · simp only [q, decide_true, if_true, Option.some.injEq] at e
      subst e
      exact ⟨v1, valV_pos q, h⟩
    · simp only [q, decide_false, Bool.false_eq_true, if_false] at e
      obtain ⟨v, a, b⟩ := RpK.look t e
      exact ⟨v, by rw [valV_neg q]; exact a, b⟩
theorem RpK.lookN {k : Key} : ∀ {xs : List (Key × V)} {ds : List (Key × D)}, RpK K F xs ds → lookD (dkD ds) (kD k) = none → valV xs k = none
  | _, _, .nil, h => valV_nil
  | _, _, .cons (k := k1) (v := v1) h t, e => by
    unfold dkD at e
    rw [List.map_cons] at e
    unfold lookD at e
    simp only [keyEq_kD] at e
    by_cases q : k1 = k
    · simp only [q, decide_true, if_true] at e
      cases e
    · simp only [q, decide_false, Bool.false_eq_true, if_false] at e
      rw [valV_neg q]; exact RpK.lookN t e
theorem RpK.get {i : Nat} : ∀ {xs : List (Key × V)} {ds : List (Key × D)} {p : Key × D}, RpK K F xs ds → ds[i]? = some p → ∃ v, xs[i]? = some (p.1, v) ∧ Rp K F v p.2 := by
  induction i with
  | zero =>
    intro xs ds p r e
    cases r with
    | nil => cases e
    | cons h t =>
      have : _ = p := Option.some.inj e
      subst this
      exact ⟨_, rfl, h⟩
  | succ i ih =>
    intro xs ds p r e
    cases r with
    | nil => cases e
    | cons h t => exact ih t e
/-- in its place, or at the end -/
def putD {κ : Type} [DecidableEq κ] (es : List (κ × D)) (k : κ) (d : D) : List (κ × D) :=
  if (es.any fun p => decide (p.1 = k)) = true then es.map (fun p => if p.1 = k then (p.1, d) else p) else es ++ [(k, d)]
theorem RpK.any {k : Key} : ∀ {xs : List (Key × V)} {ds : List (Key × D)}, RpK K F xs ds → (xs.any fun p => decide (p.1 = k)) = ds.any fun p => decide (p.1 = k)
  | _, _, .nil => rfl
  | _, _, .cons _ t => by rw [List.any_cons, List.any_cons, RpK.any t]
theorem RpK.upd {k : Key} {v : V} {d : D} (r : Rp K F v d) : ∀ {xs : List (Key × V)} {ds : List (Key × D)}, RpK K F xs ds → RpK K F (xs.map fun p => if p.1 = k then (p.1, v) else p) (ds.map fun p => if p.1 = k then (p.1, d) else p)
  | _, _, .nil => .nil
  | _, _, .cons (k := k1) (v := v1) (d := d1) h t => by
    rw [List.map_cons, List.map_cons]
    by_cases q : k1 = k
    · simp only [q, if_true]
      exact .cons r (RpK.upd r t)
    · simp only [q, if_false]
      exact .cons h (RpK.upd r t)
theorem RpK.app {k : Key} {v : V} {d : D} (r : Rp K F v d) : ∀ {xs : List (Key × V)} {ds : List (Key × D)}, RpK K F xs ds → RpK K F (xs ++ [(k, v)]) (ds ++ [(k, d)])
  | _, _, .nil => .cons r .nil
  | _, _, .cons h t => .cons h (RpK.app r t)
theorem RpK.put {k : Key} {v : V} {d : D} (r : Rp K F v d) {xs : List (Key × V)} {ds : List (Key × D)} (h : RpK K F xs ds) : RpK K F (putK xs k v) (putD ds k d) := by
  unfold putK putD
  rw [h.any]
  split
  · exact h.upd r
  · exact h.app r
end
section
variable {X : Cx} {E : XK}
/-! ### d[k], of data -/
def rDGet : R2 := fun x y H Q => ∃ a v, x = .ref a ∧ DGet H a y (some v) ∧ Q v H
def gIxD (a b : D) : Option Sl := match a with
  | .dict es => match keyOf b with
    | some _ => (lookD es b).map .val
    | none => none
  | _ => none
theorem opl_ixD : OpL X rDGet gIxD := by
  intro B l F H v u a b rc Q w ra rb hg q
  unfold gIxD at hg
  split at hg
  · rename_i es
    cases ek : keyOf b with
    | none => rw [ek] at hg; cases hg
    | some k =>
      rw [ek] at hg
      simp only at hg
      cases el : lookD es b with
      | none => rw [el] at hg; cases hg
      | some d =>
        rw [el] at hg
        cases hg
        have hb := keyOf_kD ek
        subst hb
        have hu := rb.key ek
        subst hu
        cases ra with
        | dK h r =>
          obtain ⟨v', e1, e2⟩ := r.look el
          exact ⟨_, v', rfl, .inl ⟨_, k, Same.rd w.fh h, rfl, e1.symm⟩, q _ F H (w.more e2)⟩
  · cases hg
theorem ev_dget {a b : Expr} {fa fb : M Sl} {pos : Pos} (hu : X.A.units + 64 < cLine) (ha : Ev X E a fa) (hb : Ev X E b fb) (hs : NoSl b := by exact fun _ _ => rfl) : Ev X E (.Subscript a b pos) (mBin gIxD fa fb) :=
  ev_two opl_ixD ha hb fun pa pb => pe_dget (by omega) pa pb hs
/-! ### {} and d[k] = v -/
def mNewK : M Sl := fun ρ => .ok (.dK []) ρ
theorem ev_newK {pos : Pos} : Ev X E (.Dict [] [] pos) mNewK :=
  ⟨_, pe_dnewK, fun B ts σ ρ F H Q hl w h => fun p hp => h hl _ F _ (w.own hp (.dK upd_same .nil))⟩
def mSetK (i : Nat) (fi fe : M Sl) : Ms := fun ρ => (fe ρ).st fun r ρ1 => match r.d? with
  | some d => match ρ1[i]? with
    | some (.dK _) => (fi ρ1).st fun ri ρ2 => match ri with
      | .val b => match keyOf b with
        | some k => match ρ2[i]? with
          | some (.dK es) => match szOk (es.length + 1) with
            | true => .nx (ρ2.set i (.dK (putD es k d)))
            | false => .bad
          | _ => .bad
        | none => .bad
      | _ => .bad
    | _ => .bad
  | none => .bad
theorem ss_setK (i : Nat) {pn : List Nat} {x : Str} {px pt pos : Pos} {b e : Expr} {fi fe : M Sl} (hu : X.A.units + 64 < cLine) (he : Ev X E e fe) (hb : Ev X E b fi) (hN : X.N[i]? = some x := by rfl) (hv : Vis X.env.scope x := by first | exact Or.inl rfl | exact Or.inr (Or.inl rfl) | exact Or.inr (Or.inr rfl))
    (hd : (x == ("__debug__" : Str)) = false := by decide) (hcd : (x == ("__classdict__" : Str)) = false := by decide)
    (hs : swapsWith e (some (.Subscript (.Name x px) b pt)) pos.line X.env = pure false := by rfl) : Ss X E pn (.Assign [.Subscript (.Name x px) b pt] e pos) (mSetK i fi fe) := by
  obtain ⟨te, pe, qe⟩ := he
  obtain ⟨tb, pb, qb⟩ := hb
  refine ⟨_, ps_dput (by omega) (pe_var hN hv hd hcd) pb pe hs, fun B ts σ ρ F H D hl w h => qe B ts σ ρ F H _ hl w ?_⟩
  unfold mSetK Rs.st at h
  cases e1 : fe ρ with
  | bad => rw [e1] at h; exact h.elim
  | ex x ρ1 => rw [e1] at h; exact fun hl c dx F H w q => h c dx σ F H rfl hl (Pins.refl _ _) w q
  | ok r ρ1 =>
    rw [e1] at h
    simp only at h
    intro hl1 v F1 H1 w1
    cases da : r.d? with
    | none => rw [da] at h; exact h.elim
    | some d =>
      rw [da] at h
      simp only at h
      obtain ⟨F2, w2, _⟩ := w1.freeze da
      cases e0 : ρ1[i]? with
      | none => rw [e0] at h; exact h.elim
      | some s =>
        rw [e0] at h
        cases s with
        | dK ds0 =>
          simp only at h
          obtain ⟨o, l, g1, w3, _⟩ := W.at (ts := (some v, .val d) :: ts) w2 hl1 e0
          obtain ⟨p, vs0, rfl, _⟩ := w3.dK
          refine ⟨_, g1, qb B ((some v, .val d) :: ts) σ ρ1 F2 H1 _ hl1 w2 ?_⟩
          cases e2 : fi ρ1 with
          | bad => rw [e2] at h; exact h.elim
          | ex x ρ2 => rw [e2] at h; exact fun hl c dx F H w q => h c dx σ F H rfl hl (Pins.refl _ _) w.tail q
          | ok ri ρ2 =>
            rw [e2] at h
            simp only at h
            intro hl2 u F3 H3 w4
            cases ri with
            | val d0 =>
              simp only at h
              cases ek : keyOf d0 with
              | none => rw [ek] at h; exact h.elim
              | some k =>
                rw [ek] at h
                simp only at h
                cases e3 : ρ2[i]? with
                | none => rw [e3] at h; exact h.elim
                | some s2 =>
                  rw [e3] at h
                  cases s2 with
                  | dK es =>
                    simp only at h
                    cases e4 : szOk (es.length + 1) with
                    | false => rw [e4] at h; exact h.elim
                    | true =>
                      rw [e4] at h
                      have ku := w4.val.key ek
                      subst ku
                      have w5 := w4.tail
                      have rv : Rp X.K F3 v d := W.val w5
                      obtain ⟨o2, l2, g2, w6, kk⟩ := W.at (ts := ts) w5.tail hl2 e3
                      rw [g1] at g2
                      cases g2
                      obtain ⟨p', vs, e5, hp, rp, _⟩ := w6.dK
                      cases e5
                      have hz : vs.length < sizeLine := by
                        have := szOk_le e4
                        rw [rp.length]; omega
                      refine ⟨_, _, rfl, DPut.k hp hz, ?_⟩
                      refine h σ F3 _ rfl (set_len hl2) (Pins.refl _ _) (kk ?_)
                      exact w6.put (.dK hp rp) (.dK upd_same (rp.put rv))
                  | _ => exact h.elim
            | _ => exact h.elim
        | _ => exact h.elim
/-! ### for k in d, d a name -/
def dkeys (es : List (D × D)) : List D := es.map (·.1)
theorem feed_keys {B : Bs} {a : Addr} {o : Obj} {xs : List (Key × V)} {ds : List (Key × D)} (hB : B.F0 a = some (.frz o (.dK xs))) (hl : xs.length = ds.length) (hk : ∀ (i : Nat) (p : Key × D), ds[i]? = some p → ∃ v, xs[i]? = some (p.1, v)) : Feed X B (Itk a o xs) (dkeys (dkD ds)) [] := by
  intro i l F H w
  have h1 : H a = some (.frz o (.dK xs)) := w.fh _ _ (w.f0 _ _ hB)
  have len : (dkeys (dkD ds)).length = ds.length := by unfold dkeys dkD; rw [List.length_map, List.length_map]
  refine ⟨fun d hd => ?_, fun hi => ⟨h1, by rw [len] at hi; omega⟩⟩
  unfold dkeys dkD at hd
  rw [List.getElem?_map, List.getElem?_map] at hd
  cases e : ds[i]? with
  | none => rw [e] at hd; cases hd
  | some p =>
    rw [e] at hd
    have hd' : kD p.1 = d := Option.some.inj hd
    subst hd'
    obtain ⟨v, ev⟩ := hk i p e
    refine ⟨⟨h1, (List.getElem?_eq_some_iff.mp ev).1⟩, fun x H' hy => ?_⟩
    obtain ⟨rfl, k, v', ev', rfl⟩ := hy
    rw [ev] at ev'
    cases ev'
    refine ⟨F, w.more ?_⟩
    cases p.1 with
    | inl i => exact .int i
    | inr x => exact .str x
def dk? (i : Nat) (ρ : Env) : Option (List (D × D)) := match pk i ρ with
  | some (.dict es) => some es
  | _ => none
def noEx : So → So
  | .ex _ _ => .bad
  | s => s
def mForK (i : Nat) (k : Sl → Env → Option Env) (body : Ms) : Ms := fun ρ => match dk? i ρ with
  | some es => noEx (loopM k body (dkeys es) (ρ.set i (.val (.dict es))))
  | none => .bad
/-- a name's dict, frozen -/
theorem W.dict {K : Fg} {mg : Str → Option Value} {B : Bs} {ts : List Sv} {σ : L2.St} {ρ : Env} {F H : Hp} {i : Nat} {es : List (D × D)} (w : W K mg B (ts ++ zp σ ρ) F H) (hl : σ.length = ρ.length) (h : dk? i ρ = some es) :
    ∃ a F' xs ds, σ[i]? = some (some (.ref a)) ∧ W K mg B (ts ++ zp σ (ρ.set i (.val (.dict es)))) F' H ∧ es = dkD ds ∧ Rd F' a (.dK xs) ∧ RpK K F' xs ds := by
  unfold dk? pk at h
  cases e : ρ[i]? with
  | none => rw [e] at h; cases h
  | some s =>
    rw [e] at h
    simp only at h
    cases e2 : s.d? with
    | none => rw [e2] at h; cases h
    | some d =>
      rw [e2] at h
      cases d with
      | dict es' =>
        cases h
        obtain ⟨o, l, h1, w1, k⟩ := w.at hl e
        obtain ⟨F', w2, sf⟩ := w1.freeze e2
        obtain ⟨v, rfl, r⟩ := w2.valO
        cases r with
        | dK hr rr => exact ⟨_, F', _, _, h1, k w2, rfl, hr, rr⟩
      | _ => cases h
theorem RpK.keys {K : Fg} {F : Hp} {xs : List (Key × V)} {ds : List (Key × D)} (r : RpK K F xs ds) : ∀ (i : Nat) (p : Key × D), ds[i]? = some p → ∃ v, xs[i]? = some (p.1, v) := fun i p h => let ⟨v, a, _⟩ := r.get h; ⟨v, a⟩
def tOrS (t u : TS) : TS := fun D σ H => t D σ H ∨ u D σ H
theorem ps_or {st : Stmt} {t u : TS} (h : PS X st t) (h2 : PS X st u) : PS X st (tOrS t u) := ⟨fun pins s σ H D I q => q.elim (h.run pins s σ H D I) (h2.run pins s σ H D I)⟩
def tOrE (t u : TE) : TE := fun σ H Q => t σ H Q ∨ u σ H Q
theorem pe_or' {e : Expr} {t u : TE} (h : PE X e t) (h2 : PE X e u) : PE X e (tOrE t u) := ⟨fun pins s σ H Q I q => q.elim (h.run pins s σ H Q I) (h2.run pins s σ H Q I)⟩
theorem keys_irun {i : Nat} {B : Bs} {ts : List Sv} {σ : L2.St} {ρ : Env} {F H : Hp} {a : Addr} {o : Obj} {xs : List (Key × V)} {ds : List (Key × D)} (hs : σ[i]? = some (some (.ref a))) (hl : σ.length = ρ.length) (w : WX X B (ts ++ zp σ ρ) F H) (hB : B.F0 a = some (.frz o (.dK xs))) (r : RpK X.K F xs ds) :
    ∀ R, IPost X E B ts σ (.ok (dkeys (dkD ds)) ρ) R → iKeys (fun σ H Q => ∃ v, σ[i]? = some (some v) ∧ Q v H) σ H R := fun R hR =>
  ⟨_, hs, a, o, rfl, .inl ⟨xs, w.fh _ _ (w.f0 _ _ hB), hR hl _ [] F H w (feed_keys hB r.length r.keys)⟩⟩
theorem W.atB {K : Fg} {mg : Str → Option Value} {B : Bs} {l : List Sv} {F H : Hp} (w : W K mg B l F H) : ∃ B', W K mg B' l F H ∧ B'.F0 = F ∧ ∀ {l' : List Sv} {F' H' : Hp}, W K mg B' l' F' H' → W K mg B l' F' H' := by
  obtain ⟨fp, s, nd, hn, kk⟩ := W.frame (l := l) (m := []) (by rw [List.append_nil]; exact w)
  exact ⟨⟨F, H, fp⟩, W.start w.fh s nd hn, rfl, fun {l' F' H'} w' => by have := kk w'; rw [List.append_nil] at this; exact this⟩

theorem ss_forK (i : Nat) {pn tv : List Nat} {tg : Expr} {x : Str} {px : Pos} {body : List Stmt} {k : Sl → Env → Option Env} {g : Ms} {pos : Pos} (hp : PassesOwn (model X.prog X.w) X.A X.env X.xe) (hg : Tg X tv tg k) (hb : SsB X E pn body g) (htv : ∀ i ∈ pn, i ∉ tv := by decide) (hN : X.N[i]? = some x := by rfl) (hv : Vis X.env.scope x := by first | exact Or.inl rfl | exact Or.inr (Or.inl rfl) | exact Or.inr (Or.inr rfl))
    (hd : (x == ("__debug__" : Str)) = false := by decide) (hcd : (x == ("__classdict__" : Str)) = false := by decide) (hc : X.calm = true := by rfl)
    (hs : ∀ z, foldedSetIterable (.Name x px) X.env z = pure z := by intro _; rfl) : Ss X E pn (.For tg (.Name x px) body [] pos) (mForK i k g) := by
  obtain ⟨tg', pg, qg⟩ := hg
  obtain ⟨tb, pb, qb⟩ := hb
  have pf := ps_for hp hc (pi_keys (tg := tg) (pe_var (pos := px) hN hv hd hcd)) pg pb hs (pos := pos)
  refine ⟨_, ps_or (ps_lock pf) pf, fun B ts σ ρ F H D hl w h => ?_⟩
  unfold mForK at h
  cases e1 : dk? i ρ with
  | none => rw [e1] at h; exact h.elim
  | some es =>
    rw [e1] at h
    simp only at h
    obtain ⟨a, F1, xs, ds, h1, w1, rfl, hr, rp⟩ := w.dict hl e1
    rcases hr with hr | ⟨o, hr⟩
    · refine .inl ⟨a, .dK xs, w1.fh _ _ hr, True.intro, fun od => ?_⟩
      obtain ⟨B', w2, hB, kk⟩ := w1.lockK (od := od) hr
      refine for_run (E := E) qg qb htv (m := .ok (dkeys (dkD ds)) (ρ.set i (.val (.dict (dkD ds))))) (keys_irun h1 (set_len hl) w2 hB (rp.lkd fun b u e => ?_)) ?_
      · by_cases q : b = a
        · subst q
          rw [hr] at e; cases e
          exact .inr ⟨xs, .inl rfl, .inr ⟨od, upd_same⟩⟩
        · exact .inl (by rw [upd_ne q]; exact e)
      · show SPost X E B' ts pn σ _ (loopM k g (dkeys (dkD ds)) (ρ.set i (.val (.dict (dkD ds)))))
        cases em : loopM k g (dkeys (dkD ds)) (ρ.set i (.val (.dict (dkD ds)))) with
        | bad => rw [em] at h; exact h.elim
        | nx ρ2 => rw [em] at h; exact fun σ' F' H' a1 a2 a3 w' => ⟨(kk w').1, h σ' _ _ a1 a2 a3 (kk w').2⟩
        | bk ρ2 => rw [em] at h; exact fun σ' F' H' a1 a2 a3 w' => ⟨(kk w').1, h σ' _ _ a1 a2 a3 (kk w').2⟩
        | ct ρ2 => rw [em] at h; exact fun σ' F' H' a1 a2 a3 w' => ⟨(kk w').1, h σ' _ _ a1 a2 a3 (kk w').2⟩
        | rt r ρ2 => rw [em] at h; exact fun v σ' F' H' a1 a2 a3 w' => ⟨(kk w').1, h v σ' _ _ a1 a2 a3 (kk w').2⟩
        | ex e ρ2 => rw [em] at h; exact h.elim
    · obtain ⟨B', w2, hB, kk⟩ := w1.atB
      refine .inr (for_run (E := E) qg qb htv (m := .ok (dkeys (dkD ds)) (ρ.set i (.val (.dict (dkD ds))))) (keys_irun h1 (set_len hl) w2 (by rw [hB]; exact hr) rp) ?_)
      show SPost X E B' ts pn σ _ (loopM k g (dkeys (dkD ds)) (ρ.set i (.val (.dict (dkD ds)))))
      cases em : loopM k g (dkeys (dkD ds)) (ρ.set i (.val (.dict (dkD ds)))) with
      | bad => rw [em] at h; exact h.elim
      | nx ρ2 => rw [em] at h; exact fun σ' F' H' a1 a2 a3 w' => h σ' _ _ a1 a2 a3 (kk w')
      | bk ρ2 => rw [em] at h; exact fun σ' F' H' a1 a2 a3 w' => h σ' _ _ a1 a2 a3 (kk w')
      | ct ρ2 => rw [em] at h; exact fun σ' F' H' a1 a2 a3 w' => h σ' _ _ a1 a2 a3 (kk w')
      | rt r ρ2 => rw [em] at h; exact fun v σ' F' H' a1 a2 a3 w' => h v σ' _ _ a1 a2 a3 (kk w')
      | ex e ρ2 => rw [em] at h; exact h.elim
def noExR : Rs Sl → Rs Sl
  | .ex _ _ => .bad
  | s => s
def mCompK (i : Nat) (vs : List Nat) (k : Sl → Env → Option Env) (tt : M Bool) (fe : M Sl) : M Sl := fun ρ => match dk? i ρ with
  | some es => noExR (compM vs k tt fe (dkeys es) [] (wipeS (ρ.set i (.val (.dict es))) vs))
  | none => .bad
theorem ev_compK (i : Nat) {elt tg : Expr} {x : Str} {px : Pos} {ifs : List Expr} {scope : Scope} {own : List (Str × Nat)} {tv : List Nat} {k : Sl → Env → Option Env} {ft : M Bool} {fe : M Sl} {pos : Pos} (hnd : X.N.Nodup) (ok : BlkOk X.N X.env.scope scope own)
    (hg : Blk X scope fun Y => Tg Y tv tg k) (ht : Blk X scope fun Y => EvTs Y E0 ifs ft) (he : Blk X scope fun Y => Ev Y E0 elt fe) (htv : ∀ i ∈ tv, i ∈ own.map (·.2) := by decide) (hN : X.N[i]? = some x := by rfl) (hv : Vis X.env.scope x := by first | exact Or.inl rfl | exact Or.inr (Or.inl rfl) | exact Or.inr (Or.inr rfl))
    (hd : (x == ("__debug__" : Str)) = false := by decide) (hcd : (x == ("__classdict__" : Str)) = false := by decide) (hc : X.calm = true := by rfl) (hs : ∀ z, foldedSetIterable (.Name x px) X.env z = pure z := by intro _; rfl) :
    Ev X E (.ListComp elt [⟨tg, .Name x px, ifs, 0⟩] scope pos) (mCompK i (own.map (·.2)) k ft fe) := by
  have pg : Blk X scope fun Y => PG Y tg (cG X hg) := fun s H' C cl fp => ⟨fun pins s1 σ H v u Q I r h => (Classical.choose_spec (hg s H' C cl fp)).1.run pins s1 σ H v u Q I r (h s H' C cl fp)⟩
  have pt : Blk X scope fun Y => PTs Y ifs (cT X ht) := fun s H' C cl fp => ⟨fun pins s1 σ H Q I h => (Classical.choose_spec (ht s H' C cl fp)).1.run pins s1 σ H Q I (h s H' C cl fp)⟩
  have pe : Blk X scope fun Y => PE Y elt (cE X he) := fun s H' C cl fp => ⟨fun pins s1 σ H Q I h => (Classical.choose_spec (he s H' C cl fp)).1.run pins s1 σ H Q I (h s H' C cl fp)⟩
  have pf := pe_lc (pos := pos) hc hnd (pi_keys (tg := tg) (pe_var (pos := px) hN hv hd hcd)) ok pg pt pe hs
  refine ⟨_, pe_or' (pe_lock pf) pf, fun B ts σ ρ F H Q hl w h => ?_⟩
  unfold mCompK at h
  cases e1 : dk? i ρ with
  | none => rw [e1] at h; exact h.elim
  | some es =>
    rw [e1] at h
    simp only at h
    obtain ⟨a, F1, xs, ds, h1, w1, rfl, hr, rp⟩ := w.dict hl e1
    rcases hr with hr | ⟨o, hr⟩
    · refine .inl ⟨a, .dK xs, w1.fh _ _ hr, True.intro, fun od => ?_⟩
      obtain ⟨B', w2, hB, kk⟩ := w1.lockK (od := od) hr
      refine comp_core (E := E) hg ht he htv (m := .ok (dkeys (dkD ds)) (ρ.set i (.val (.dict (dkD ds))))) (keys_irun h1 (set_len hl) w2 hB (rp.lkd fun b u e => ?_)) ?_
      · by_cases q : b = a
        · subst q
          rw [hr] at e; cases e
          exact .inr ⟨xs, .inl rfl, .inr ⟨od, upd_same⟩⟩
        · exact .inl (by rw [upd_ne q]; exact e)
      · show EPost X E B' ts σ (compM (own.map (·.2)) k ft fe (dkeys (dkD ds)) [] (wipeS (ρ.set i (.val (.dict (dkD ds)))) (own.map (·.2)))) _
        cases em : compM (own.map (·.2)) k ft fe (dkeys (dkD ds)) [] (wipeS (ρ.set i (.val (.dict (dkD ds)))) (own.map (·.2))) with
        | bad => rw [em] at h; exact h.elim
        | ex e ρ2 => rw [em] at h; exact h.elim
        | ok r ρ2 => rw [em] at h; exact fun hl2 v F' H' w' => ⟨(kk w').1, h hl2 v _ _ (kk w').2⟩
    · obtain ⟨B', w2, hB, kk⟩ := w1.atB
      refine .inr (comp_core (E := E) hg ht he htv (m := .ok (dkeys (dkD ds)) (ρ.set i (.val (.dict (dkD ds))))) (keys_irun h1 (set_len hl) w2 (by rw [hB]; exact hr) rp) ?_)
      show EPost X E B' ts σ (compM (own.map (·.2)) k ft fe (dkeys (dkD ds)) [] (wipeS (ρ.set i (.val (.dict (dkD ds)))) (own.map (·.2)))) _
      cases em : compM (own.map (·.2)) k ft fe (dkeys (dkD ds)) [] (wipeS (ρ.set i (.val (.dict (dkD ds)))) (own.map (·.2))) with
      | bad => rw [em] at h; exact h.elim
      | ex e ρ2 => rw [em] at h; exact h.elim
      | ok r ρ2 => rw [em] at h; exact fun hl2 v F' H' w' => h hl2 v _ _ (kk w')
end
end
end Fx

set_option Elab.async false
set_option linter.all false
set_option maxRecDepth 100000
namespace Fx
open PySem PySem.Spec PyProof.Rows L2
noncomputable section
/-! ### defs with defaults -/
section
variable {P : Program} {w : World} {K : Fg} {mg : Str → Option Value} {base : Heap}
theorem fn_okD {x qual : Str} {st : Stmt} {f : Addr} {fd : FuncData} {N ps : List Str} {k : Nat} {pn : List Nat} {g : Ms} {dvs : List V} (F : FunD K x qual (defArgs st) (defBody st) (defScope st) dvs [] f fd) (S : FnScope N ps (defScope st)) (hpn : ∀ i ∈ pn, i < ps.length := by decide) (hN : ps.length ≤ N.length := by decide)
    (hb : ∀ (cdv : Value) (A : Around) (outer : List PySem.Env) (s : Shared) (H : Hp) (E : XK), Room k (A.deeper (envOfC qual (defScope st) s.heap.objs.size f cdv)) →
      SsB (cxOf CX0 P w K mg base N qual (defScope st) f cdv A outer s H E).nox E pn (defBody st) g) : FnOk P w K mg base CX0 (k + 1) f fd ps (SpF K mg ps.length (mFn N.length ps.length pn g)) := by
  refine FunD.ok F S (fun vs H Q E h => h.1) fun cdv A outer s H vs Q E hr h => ?_
  obtain ⟨t, pt, qt⟩ := hb cdv A outer s H E hr
  refine ⟨t, pt.nox, ?_⟩
  obtain ⟨hv, F0, rs, fp, hrs, fh, a, nd, hn, h⟩ := h
  have ew := start_zp (N := N) hv hrs
  have w0 : W K mg ⟨F0, H, fp⟩ (zp (L2.start N vs) (rs ++ List.replicate (N.length - ps.length) .und)) F0 H := by
    rw [ew]
    refine W.start fh ?_ nd hn
    have := a.app (slRs_und (K := K) (mg := mg) (F := F0) (H := H) (o := none) (N.length - ps.length))
    rw [List.append_nil] at this
    exact this
  have hl : (L2.start N vs).length = (rs ++ List.replicate (N.length - ps.length) Sl.und).length := by
    unfold L2.start
    rw [List.length_append, List.length_append, List.length_map, List.length_replicate, List.length_replicate]; omega
  refine qt ⟨F0, H, fp⟩ [] (L2.start N vs) _ F0 H _ hl w0 ?_
  unfold mFn at h
  cases e : g (rs ++ List.replicate (N.length - ps.length) .und) with
  | nx ρ =>
    rw [e] at h
    intro σ' F' H' h1 h2 p w1
    exact h .non F' H' (backP_len ..) (W.more (start_back hv hpn hN h1 h2 p w1) .non)
  | rt r ρ =>
    rw [e] at h
    intro v σ' F' H' h1 h2 p w1
    exact h v F' H' (backP_len ..) (start_back (ts := [(some v, r)]) hv hpn hN h1 h2 p w1)
  | ex x ρ =>
    rw [e] at h
    intro c dx σ' F' H' h1 h2 p w1 q
    exact h c dx F' H' (backP_len ..) (start_back (ts := []) hv hpn hN h1 h2 p w1) q
  | bk ρ => rw [e] at h; exact h.elim
  | ct ρ => rw [e] at h; exact h.elim
  | bad => rw [e] at h; exact h.elim
theorem fn_mkD {x qual : Str} {st : Stmt} {f : Addr} {fd : FuncData} {N ps : List Str} {k nN n : Nat} {pn : List Nat} {g : Ms} {dvs : List V} (F : FunD K x qual (defArgs st) (defBody st) (defScope st) dvs [] f fd) (S : FnScope N ps (defScope st)) (hN' : N.length = nN) (hn' : ps.length = n) (hpn : ∀ i ∈ pn, i < n) (hN : n ≤ nN)
    (hb : ∀ (cdv : Value) (A : Around) (outer : List PySem.Env) (s : Shared) (H : Hp) (E : XK), Room k (A.deeper (envOfC qual (defScope st) s.heap.objs.size f cdv)) →
      SsB (cxOf CX0 P w K mg base N qual (defScope st) f cdv A outer s H E).nox E pn (defBody st) g) : FnOk P w K mg base CX0 (k + 1) f fd ps (SpF K mg n (mFn nN n pn g)) := by
  subst hN' hn'
  exact fn_okD F S hpn hN hb
theorem fun_mkD {x qual : Str} {st : Stmt} {f T : Addr} {oc ocT : Value} {od an odT : Option Addr} {osl slT : Array (Option Value)} {kV doc pm cdv ct : Value} {its : Array Value} {nT : Nat} {dvs : List V} (l : K.lookup f = some ⟨oc, od, .func (PySem.W.fnOf x qual (defArgs st) (defBody st) (defScope st) (.ref T) kV doc pm an cdv ct), osl⟩)
    (c : PySem.W.codeIn K cdv qual = true) (k : PySem.W.keepIn K (.ref f) = true) (lT : K.lookup T = some ⟨ocT, odT, .seq its nT, slT⟩) (hv : Vals dvs its.toList) (hd : dvs ≠ []) : FunD K x qual (defArgs st) (defBody st) (defScope st) dvs [] f (PySem.W.fnOf x qual (defArgs st) (defBody st) (defScope st) (.ref T) kV doc pm an cdv ct) :=
  ⟨⟨oc, od, .ref T, kV, doc, pm, an, cdv, ct, osl, rfl, l, c, .inr ⟨hd, T, _, its.toList, nT, rfl, lT, by simp, hv⟩, .inl rfl⟩, k⟩
theorem binds_full {x qual : Str} {st : Stmt} {f : Addr} {fd : FuncData} {dvs : List V} {ps : List Str} (F : FunD K x qual (defArgs st) (defBody st) (defScope st) dvs [] f fd) (hd : dvs ≠ [])
    (h : ∀ (T : Addr) (kV doc pm : Value) (an : Option Addr) (cdv ct : Value) (us its : List Value), us.length = ps.length → its.length = dvs.length →
      ∃ k, bindArgs (PySem.W.fnOf x qual (defArgs st) (defBody st) (defScope st) (.ref T) kV doc pm an cdv ct) ⟨us, []⟩ = seqItems? (.ref T) >>= k ∧ k (some its.toArray) = pure (ps.zip us)) : Binds K fd ps [] := by
  obtain ⟨ds, v, b⟩ := FunD.binds1 (ps := ps) F ps.length dvs.length hd (by omega) fun T kV doc pm an cdv ct us its h1 h2 => by
    obtain ⟨k, e1, e2⟩ := h T kV doc pm an cdv ct us its h1 h2
    exact ⟨k, e1, by rw [e2, List.drop_eq_nil_of_le (by omega), List.append_nil]⟩
  rw [List.drop_length] at v
  cases v
  exact b
end
section
variable {X : Cx} {E : XK}
/-! a call that leaves the last ones out -/
def mDfl (dd : List D) (fs : M (List Sl)) : M (List Sl) := fun ρ => (fs ρ).bd fun rs ρ1 => .ok (rs ++ dd.map Sl.val) ρ1
theorem mk_app {vs us : List V} {rs ss : List Sl} (h : vs.length = rs.length) : mk (vs ++ us) (rs ++ ss) = mk vs rs ++ mk us ss := by
  unfold mk
  rw [List.map_append, List.zip_append (by rw [List.length_map]; exact h)]
theorem W.mores {K : Fg} {mg : Str → Option Value} {B : Bs} {F H : Hp} : ∀ {vs : List V} {dd : List D} {m : List Sv}, RpL K F vs dd → W K mg B m F H → W K mg B (Fx.mk vs (dd.map Sl.val) ++ m) F H
  | _, _, _, .nil, w => w
  | _, _, _, .cons r t, w => (W.mores t w).more r
theorem W.mid {K : Fg} {mg : Str → Option Value} {B : Bs} {F H : Hp} {vs : List V} {dd : List D} {l m : List Sv} (r : RpL K F vs dd) (w : W K mg B (l ++ m) F H) : W K mg B (l ++ Fx.mk vs (dd.map Sl.val) ++ m) F H := by
  have := W.mores r w
  refine this.perm ?_
  rw [List.append_assoc]
  exact List.perm_append_comm_assoc _ _ _
theorem ev_callD {CX : CXT} {k n : Nat} {f : Addr} {fd : FuncData} {ps : List Str} {m : List Sl → Fo} {x : Str} {p pos : Pos} {e : Expr} {es : List Expr} {mv : List (Option Nat)} {fs : M (List Sl)} {dvs : List V} {ds : List Value} (dd : List D)
    (F : FnOk X.prog X.w X.K X.mg X.base CX k f fd ps (SpF X.K X.mg n m)) (hr : Room k X.A) (hmm : ∀ rs, rs.length = n → match m rs with | .rt _ ps => ps.length = n | .ex _ ps => ps.length = n | .bad => True)
    (hm : X.mg x = some (.ref f)) (hk : PySem.W.keepIn X.K (.ref f) = true) (hb : Binds X.K fd ps ds) (hd : Vals dvs ds) (rd : ∀ F, RpL X.K F dvs dd) (hx : Passes CX X E) (ha : EvA X E (e :: es) mv fs) (hn : (mv ++ List.replicate dd.length none).length = n := by rfl) (hg : Gl X x := by rfl)
    (hdb : (x == ("__debug__" : Str)) = false := by decide) (he : starEach (e :: es) X.env = (false, eval e X.env) :: starEach es X.env := by rfl) (hpl : (backTo pos (starEach es X.env)).any (·.1) = false := by rfl) :
    Ev X E (.Call (.Name x p) (e :: es) [] pos) (mCall m (mv ++ List.replicate dd.length none) (mDfl dd fs)) := by
  obtain ⟨t, pt, qt⟩ := ha
  refine ⟨_, pe_call F hr hg hm hk hb hd hx pt hdb he hpl, ?_⟩
  have q2 : ∀ (B : Bs) (ts : List Sv) (σ : L2.St) (ρ : Env) (F H : Hp) (Q : List V → Hp → Prop), σ.length = ρ.length → WX X B (ts ++ zp σ ρ) F H → APost X E B ts σ (mv ++ List.replicate dd.length none) (mDfl dd fs ρ) Q → t σ H fun vs H1 => Q (vs ++ dvs) H1 := by
    intro B ts σ ρ F H Q hl w h
    refine qt B ts σ ρ F H _ hl w ?_
    unfold mDfl Rs.bd at h
    cases e1 : fs ρ with
    | bad => rw [e1] at h; exact h.elim
    | ex x ρ1 => rw [e1] at h; exact h
    | ok rs ρ1 =>
      rw [e1] at h
      simp only at h
      intro hl1 vs F1 H1 hvs hmv hp w1
      have ld : dvs.length = dd.length := (rd F1).length
      refine h hl1 (vs ++ dvs) F1 H1 (by rw [List.length_append, List.length_append, List.length_map, hvs, ld]) (by rw [List.length_append, List.length_append, List.length_map, List.length_replicate, hmv]) (fun a i ha => ?_) ?_
      · by_cases q : a < mv.length
        · rw [List.getElem?_append_left q] at ha
          obtain ⟨v, e1, e2⟩ := hp a i ha
          exact ⟨v, by rw [List.getElem?_append_left (List.getElem?_eq_some_iff.mp e1).1]; exact e1, e2⟩
        · rw [List.getElem?_append_right (by omega)] at ha
          have := List.getElem?_eq_some_iff.mp ha
          obtain ⟨z, hz⟩ := this
          rw [List.getElem_replicate] at hz
          cases hz
      · rw [mk_app hvs, List.append_assoc, ← List.append_assoc]
        exact W.mid (rd F1) w1
  have q3 := call_run hmm hn q2
  intro B ts σ ρ F H Q hl w h
  have := q3 B ts σ ρ F H Q hl w h
  show t σ H fun vs H1 => SpF X.K X.mg n m (vs ++ dvs) H1 Q E
  have e : (fun vs H1 => SpF X.K X.mg n m ((vs ++ dvs) ++ []) H1 Q E) = fun vs H1 => SpF X.K X.mg n m (vs ++ dvs) H1 Q E := by
    funext vs H1; rw [List.append_nil]
  rw [← e]
  exact this
/-! ### while -/
def whileN (c : M Bool) (g : Ms) : Nat → Ms
  | 0, _ => .bad
  | n + 1, ρ => (c ρ).st fun b ρ1 => match b with
    | true => match g ρ1 with
      | .nx ρ2 => whileN c g n ρ2
      | .ct ρ2 => whileN c g n ρ2
      | .bk ρ2 => .nx ρ2
      | .rt r ρ2 => .rt r ρ2
      | .ex e ρ2 => .ex e ρ2
      | .bad => .bad
    | false => .nx ρ1
def So.isBad : So → Prop
  | .bad => True
  | _ => False
def mWhile (c : M Bool) (g : Ms) : Ms := fun ρ => @dite _ (∃ n, ¬ (whileN c g n ρ).isBad) (Classical.propDecidable _) (fun h => whileN c g (Classical.choose h) ρ) fun _ => .bad
theorem ss_while {pn : List Nat} {c : Expr} {body : List Stmt} {fc : M Bool} {g : Ms} {pos : Pos} (hp : PassesOwn (model X.prog X.w) X.A X.env X.xe) (hc : EvT X E c fc) (hb : SsB X E pn body g) : Ss X E pn (.While c body [] pos) (mWhile fc g) := by
  obtain ⟨tc, pc, qc⟩ := hc
  obtain ⟨tb, pb, qb⟩ := hb
  refine ⟨_, ps_while hp pc pb, fun B ts σ ρ F H D hl w h => ?_⟩
  have hN : ∃ n, SPost X E B ts pn σ D (whileN fc g n ρ) := by
    unfold mWhile at h
    split at h
    · exact ⟨_, h⟩
    · exact h.elim
  obtain ⟨n, h⟩ := hN
  refine ⟨fun m σ1 H1 => ∃ ρ1 F1, σ1.length = σ.length ∧ σ1.length = ρ1.length ∧ Pins pn σ σ1 ∧ WX X B (ts ++ zp σ1 ρ1) F1 H1 ∧ SPost X E B ts pn σ D (whileN fc g m ρ1), ⟨n, ρ, F, rfl, hl, Pins.refl _ _, w, h⟩, ?_⟩
  rintro m σ1 H1 ⟨ρ1, F1, a1, a2, a3, w1, h1⟩
  cases m with
  | zero => exact h1.elim
  | succ m =>
    unfold whileN at h1
    refine qc B ts σ1 ρ1 F1 H1 _ a2 w1 ?_
    cases e1 : fc ρ1 with
    | bad => rw [e1] at h1; exact h1.elim
    | ex x ρ2 =>
      rw [e1] at h1
      exact fun hl2 c dx F2 H2 w2 q => h1 c dx σ1 F2 H2 a1 hl2 a3 w2 q
    | ok b ρ2 =>
      rw [e1] at h1
      intro hl2 F2 H2 w2
      cases b with
      | false =>
        rw [if_neg Bool.false_ne_true]
        exact h1 σ1 F2 H2 a1 hl2 a3 w2
      | true =>
        rw [if_pos rfl]
        refine ⟨fun σ' H' => ∃ ρ' F', σ'.length = σ.length ∧ σ'.length = ρ'.length ∧ Pins pn σ σ' ∧ WX X B (ts ++ zp σ' ρ') F' H' ∧ SPost X E B ts pn σ D (whileN fc g m ρ'), fun σ' H' q => ⟨m, Nat.lt_succ_self m, q⟩, ?_⟩
        refine qb B ts σ1 ρ2 F2 H2 _ hl2 w2 ?_
        simp only [Rs.st] at h1
        cases e2 : g ρ2 with
        | nx ρ3 =>
          rw [e2] at h1
          exact fun σ' F' H' b1 b2 b3 w3 => ⟨ρ3, F', b1.trans a1, b2, a3.trans b3, w3, h1⟩
        | ct ρ3 =>
          rw [e2] at h1
          exact fun σ' F' H' b1 b2 b3 w3 => ⟨ρ3, F', b1.trans a1, b2, a3.trans b3, w3, h1⟩
        | bk ρ3 =>
          rw [e2] at h1
          exact fun σ' F' H' b1 b2 b3 w3 => h1 σ' F' H' (b1.trans a1) b2 (a3.trans b3) w3
        | rt r ρ3 =>
          rw [e2] at h1
          exact fun v σ' F' H' b1 b2 b3 w3 => h1 v σ' F' H' (b1.trans a1) b2 (a3.trans b3) w3
        | ex x ρ3 =>
          rw [e2] at h1
          exact fun c dx σ' F' H' b1 b2 b3 w3 q => h1 c dx σ' F' H' (b1.trans a1) b2 (a3.trans b3) w3 q
        | bad => rw [e2] at h1; exact h1.elim
end
end
end Fx

set_option Elab.async false
set_option linter.all false
set_option maxRecDepth 100000
namespace Fx
open PySem PySem.Spec PyProof.Rows L2
noncomputable section
/-! ### zip(a tuple, a list) -/
def ItzM (K : Fg) (a b : Addr) : It :=
  ⟨fun i H => ∃ (l m : List V) (v u : V), SqT K H a l ∧ SqL K H b m ∧ l[i]? = some v ∧ m[i]? = some u,
    fun i H r H' => ∃ (T : Addr) (v u : V), r = .ref T ∧ H T = none ∧ H' = upd H T (.tup [v, u]) ∧ (∀ l, SqT K H a l → l[i]? = some v) ∧ ∀ m, SqL K H b m → m[i]? = some u,
    fun i H => ∃ l m : List V, SqT K H a l ∧ SqL K H b m ∧ (l.length ≤ i ∨ m.length ≤ i)⟩
theorem zm_lt {N c : Nat} (hc : c ∈ ([N + 4, N + 2, N + 3, N, N + 1] : List Nat)) : N ≤ c ∧ c < N + 5 := by
  simp only [List.mem_cons, List.not_mem_nil, or_false] at hc
  omega
theorem drawsT_at {P : Program} {w : World} {A : Around} (hh : A.handled = none) {it c : Addr} (ne : c ≠ it) {xs : Array Value} {i : Nat} {h : Heap} (hi : h.IsTupleIter it c i) (hc : h.IsTuple c xs) :
    ∃ n Pv St, Draws P w A it [it, c] n Pv St ∧ i ≤ n ∧ St i h ∧ (xs.size ≤ i → n = i) := by
  by_cases e : xs.size ≤ i
  · refine ⟨i, fun _ _ => False, fun j h => j = i ∧ h.IsTupleIter it c i ∧ h.IsTuple c xs, ⟨fun _ _ st => ?_, fun _ _ _ st k => ?_, fun j s Q E lt st hQ => ?_, fun s Q E st hE => ?_⟩, Nat.le_refl _, ⟨rfl, hi, hc⟩, fun _ => rfl⟩
    · obtain ⟨o, ho, _⟩ := st.2.1
      exact ⟨o, ho⟩
    · exact ⟨st.1, st.2.1.at fun o q => k it (by simp) o q, st.2.2.at fun o q => k c (by simp) o q⟩
    · exact absurd st.1 (Nat.ne_of_lt lt)
    · exact wpAny_nextOf_tuple_end hh st.2.1 st.2.2 (by simpa using e) hE
  · exact ⟨_, _, _, Draws.tuple hh it c ne xs, by omega, ⟨hi, hc⟩, fun q => absurd q e⟩
theorem drawsL_at {P : Program} {w : World} {A : Around} (hh : A.handled = none) {it c : Addr} (ne : c ≠ it) {xs : Array Value} {i : Nat} {h : Heap} (hi : h.IsListIter it c i) (hc : h.IsList c xs) :
    ∃ n Pv St, Draws P w A it [it, c] n Pv St ∧ i ≤ n ∧ St i h ∧ (xs.size ≤ i → n = i) := by
  by_cases e : xs.size ≤ i
  · refine ⟨i, fun _ _ => False, fun j h => j = i ∧ h.IsListIter it c i ∧ h.IsList c xs, ⟨fun _ _ st => ?_, fun _ _ _ st k => ?_, fun j s Q E lt st hQ => ?_, fun s Q E st hE => ?_⟩, Nat.le_refl _, ⟨rfl, hi, hc⟩, fun _ => rfl⟩
    · obtain ⟨o, ho, _⟩ := st.2.1
      exact ⟨o, ho⟩
    · exact ⟨st.1, st.2.1.at fun o q => k it (by simp) o q, st.2.2.at fun o q => k c (by simp) o q⟩
    · exact absurd st.1 (Nat.ne_of_lt lt)
    · exact wpAny_nextOf_list_end hh st.2.1 st.2.2 (by simpa using e) hE
  · exact ⟨_, _, _, Draws.list hh it c ne xs, by omega, ⟨hi, hc⟩, fun q => absurd q e⟩
theorem turn_zipM {P : Program} {w : World} {K : Fg} {elts : List Expr} {kk : Nat} {tpos : Pos} {a b N : Addr} (ha : a < N) (hb : b < N) :
    Turn P w K (.Tuple elts kk tpos) (ItzM K a b) [N + 4, N + 2, N + 3, N, N + 1] (N + 4) (fun i h => IsZip h (N + 4) (N + 2) (N + 3) .none ∧ IsTupOf2 h (N + 2) (.ref N) (.ref (N + 1)) ∧ (∃ x y, IsTupOf2 h (N + 3) x y) ∧ h.IsTupleIter N a i ∧ h.IsListIter (N + 1) b i) where
  mem := by simp
  obj := fun i h st c hc => by
    obtain ⟨k1, k2, ⟨x, y, k3⟩, ⟨o1, e1, _, d1⟩, ⟨o2, e2, _, d2⟩⟩ := st
    simp only [List.mem_cons, List.not_mem_nil, or_false] at hc
    rcases hc with q | q | q | q | q <;> rw [q]
    · exact ⟨_, k1, fun v e => nomatch e⟩
    · exact ⟨_, k2, fun v e => nomatch e⟩
    · exact ⟨_, k3, fun v e => nomatch e⟩
    · exact ⟨o1, e1, fun v e => by rw [d1] at e; cases e⟩
    · exact ⟨o2, e2, fun v e => by rw [d2] at e; cases e⟩
  keep := fun i h h' st k => by
    obtain ⟨k1, k2, ⟨x, y, k3⟩, j1, j2⟩ := st
    exact ⟨k _ (by simp) _ k1, k _ (by simp) _ k2, ⟨x, y, k _ (by simp) _ k3⟩, j1.at fun o e => k N (by simp) o e, j2.at fun o e => k (N + 1) (by simp) o e⟩
  item := by
    intro X g1 g2 g3 hc i pins s σ H E I hf st hg
    subst g1 g2 g3
    obtain ⟨k1, k2, ⟨x0, y0, k3⟩, j1, j2⟩ := st
    obtain ⟨l, m, x, y, qx, qy, gx, gy⟩ := hg
    obtain ⟨is, ra, pa, _⟩ := I.tuple qx
    obtain ⟨js, rb, pb, _⟩ := I.list qy
    obtain ⟨u, hu, ru⟩ := ra.get gx
    obtain ⟨v, hv, rv⟩ := rb.get gy
    have S := zip_sep2 (N := N) (fp1 := [a]) (fp2 := [b]) (by simpa using ha) (by simpa using hb)
    have la : i < is.toArray.size := by simpa using (List.getElem?_eq_some_iff.mp hu).1
    have lb : i < js.toArray.size := by simpa using (List.getElem?_eq_some_iff.mp hv).1
    have zl : N + 4 < s.heap.objs.size := Heap.lt_size k1
    refine wpAny_pyNext_zipD2_item S (Draws.tuple (prog := X.prog) (w := X.w) (A := X.A.in1) (I.ok.hd hc) N a (Nat.ne_of_lt ha) is.toArray) (Draws.list (prog := X.prog) (w := X.w) (A := X.A.in1) (I.ok.hd hc) (N + 1) b (Nat.ne_of_lt (Nat.lt_succ_of_lt hb)) js.toArray) k1 k2 k3 ⟨j1, pa⟩ ⟨j2, pb.isList⟩ la lb fun u' v' h' tk hu' hv' z1 z3 t1 t2 nT sz hk => ?_
    have eu : u' = u := Option.some.inj (hu'.symm.trans (by simpa using hu))
    have ev : v' = v := Option.some.inj (hv'.symm.trans (by simpa using hv))
    subst eu ev
    refine ⟨_, rfl, wpAny_letOwnedTupleGo_zip (s := { s with heap := h', toks := tk }) z1 fun h'' z'' sb => ?_⟩
    have nT2 : h''.get? s.heap.objs.size = some { cls := .type "tuple", data := .seq #[u', v'] } := (sb.2 _ (Nat.ne_of_gt zl)).trans nT
    have new : ObjOk X.prog X.w (upd H s.heap.objs.size (.tup [x, y])) h'' s.heap.objs.size (.tup [x, y]) :=
      ⟨show 2 ≤ sizeLine by decide, [u', v'], .cons ru (.cons rv .nil), ⟨_, nT2, rfl, _, rfl⟩⟩
    have I1 : Inv X pins σ (upd H s.heap.objs.size (.tup [x, y])) { s with heap := h'', toks := tk } :=
      I.turnedNew (ch := [N + 4, N + 2, N + 3, N, N + 1]) (fun c o hn e => (sb.2 c (fun q => hn (by simp [q]))).trans (hk c o (fun q => hn (by simp [q])) (fun q => hn (by simp [q])) (fun q => hn (by simp [q])) (fun q => hn (by simp [q])) e)) hf (Nat.le_refl _) new
    refine ⟨.ref s.heap.objs.size, _, I1, rfl, ⟨_, x, y, rfl, I.hok.fresh (Nat.le_refl _), rfl, fun l2 e => by rw [I.tuple_inj e qx]; exact gx, fun l2 e => by rw [I.list_inj e qy]; exact gy⟩, ⟨z'', (sb.2 _ S.TIz).trans (hk _ _ S.TIz S.TITO S.TIi1 S.TIi2 k2), ⟨u', v', (sb.2 _ S.TOz).trans z3⟩, t1.1.at fun o e => (sb.2 _ S.zi1.symm).trans e, t2.1.at fun o e => (sb.2 _ S.zi2.symm).trans e⟩, fun c hcm => ?_⟩
    have lt : c < s.heap.objs.size := by
      have h5 := (zm_lt hcm).2
      have zl' : (N + 4 : Nat) < s.heap.objs.size := zl
      exact Nat.lt_of_le_of_lt (Nat.le_of_lt_succ h5) zl'
    rw [upd_ne (Nat.ne_of_lt lt)]
    exact (hf c hcm).1
  done := by
    intro X g1 g2 g3 hc i pins s σ H E I hf st hg
    subst g1 g2 g3
    obtain ⟨k1, k2, ⟨x0, y0, k3⟩, j1, j2⟩ := st
    obtain ⟨l, m, qx, qy, hend⟩ := hg
    obtain ⟨is, ra, pa, _⟩ := I.tuple qx
    obtain ⟨js, rb, pb, _⟩ := I.list qy
    have e1 := ra.length
    have e2 := rb.length
    have S := zip_sep2 (N := N) (fp1 := [a]) (fp2 := [b]) (by simpa using ha) (by simpa using hb)
    have pa' : s.heap.IsTuple a is.toArray := pa
    obtain ⟨n1, P1, S1, D1, le1, st1, ed1⟩ := drawsT_at (P := X.prog) (w := X.w) (A := X.A.in1) (I.ok.hd hc) (Nat.ne_of_lt ha) j1 pa'
    obtain ⟨n2, P2, S2, D2, le2, st2, ed2⟩ := drawsL_at (P := X.prog) (w := X.w) (A := X.A.in1) (I.ok.hd hc) (Nat.ne_of_lt (Nat.lt_succ_of_lt hb)) j2 pb.isList
    have hn : i = n1 ∨ i = n2 := hend.imp (fun q => (ed1 (by rw [List.size_toArray]; omega)).symm) fun q => (ed2 (by rw [List.size_toArray]; omega)).symm
    exact wpAny_pyNext_zipD2_end S D1 D2 k1 k2 k3 st1 st2 le1 le2 hn fun h' tk hk => ⟨rfl, I.turnedL (ch := [N + 4, N + 2, N + 3, N, N + 1]) (fun c o hn e => hk c o (fun q => hn (by simp [q])) (fun q => hn (by simp [q])) (fun q => hn (by simp [q])) (fun q => hn (by simp [q])) e) hf⟩
  self := fun A i s Q E st h => wpAny_pyIter_zip st.1 h
def iZipM (K : Fg) (ta : TA) : TI := fun σ H R => ta σ H fun vs H1 => ∃ a b l m, vs = [.ref a, .ref b] ∧ SqT K H1 a l ∧ SqL K H1 b m ∧ R (ItzM K a b) H1
theorem pi_zipM {X : Cx} {e e2 : Expr} {ta : TA} {p pos tpos : Pos} {elts : List Expr} {kk : Nat} (hg : Gl X "zip") (hm : X.mg "zip" = none) (pa : PA X [e, e2] ta) (hs : starEach [e, e2] X.env = (false, eval e X.env) :: starEach [e2] X.env := by rfl) (hpl : (backTo pos (starEach [e2] X.env)).any (·.1) = false := by rfl) : PI X (.Tuple elts kk tpos) (.Call (.Name "zip" p) [e, e2] [] pos) (iZipM X.K ta) := by
  refine ⟨fun pins s σ H R I h => Call_ (ld_blt I hg hm PyProof.Rows.boot_zip (PyProof.Rows.callWith_type1 (thn (pa.run pos pins s σ H _ I h) fun us s1 ⟨vs, H1, I1, r1, a, b, l, m, ex, qx, qy, q⟩ => ?_) hs hpl))⟩
  subst ex
  cases r1 with
  | cons r rr =>
    cases rr with
    | cons r' rr =>
      cases rr
      cases r
      cases r'
      obtain ⟨is, ra, pa, _⟩ := I1.tuple qx
      obtain ⟨js, rb, pb, _⟩ := I1.list qy
      have pa' : s1.heap.IsTuple a is.toArray := pa
      have al : a < s1.heap.objs.size := by obtain ⟨_, e, _⟩ := id pa'; exact Heap.lt_size e
      refine zip_begins2 (begins_tuple a is.toArray) (begins_list b js.toArray) pa' pb.isList fun h' hz hTI hTO h1 h2 hsz hk => wpAny_pyIter_zip hz ?_
      have I2 : Inv X pins σ H1 { s1 with heap := h' } := I1.kept (t' := s1.toks) hk
      refine ⟨s1.heap.objs.size + 4, [s1.heap.objs.size + 4, s1.heap.objs.size + 2, s1.heap.objs.size + 3, s1.heap.objs.size, s1.heap.objs.size + 1], _, _, H1, rfl, I2, turn_zipM al pb.lt, ⟨hz, hTI, ⟨_, _, hTO⟩, ⟨_, h1, rfl, rfl⟩, ⟨_, h2, rfl, rfl⟩⟩, fun c hc => ?_, q⟩
      have le := (zm_lt hc).1
      exact I1.fpOk le (I1.hok.fresh le)
section
variable {X : Cx} {E : XK}
theorem feed_zipM {B : Bs} {a b : Addr} {ds es : List D} : Feed X B (ItzM X.K a b) (zipD ds es) [(some (.ref a), .val (.tuple ds)), (some (.ref b), .val (.list es))] := by
  intro i l F H w
  cases W.val w with
  | tup h r =>
    rename_i xs
    cases W.val (W.tail w) with
    | lst h' r' =>
      rename_i ys
      have q : SqT X.K H a xs := Same.tq w.fh h
      have q' : SqL X.K H b ys := SqL.of (w.fh _ _ h')
      refine ⟨fun d hd => ?_, fun hi => ⟨xs, ys, q, q', ?_⟩⟩
      · unfold zipD at hd
        rw [List.getElem?_zipWith] at hd
        cases hx : ds[i]? with
        | none => rw [hx] at hd; cases hd
        | some x =>
          cases hy : es[i]? with
          | none => rw [hx, hy] at hd; cases hd
          | some y =>
            rw [hx, hy] at hd
            have hd' : PyData.tuple [x, y] = d := Option.some.inj hd
            subst hd'
            obtain ⟨v, e1, e2⟩ := r.get hx
            obtain ⟨u, e3, e4⟩ := r'.get hy
            refine ⟨⟨xs, ys, v, u, q, q', e1, e3⟩, fun z H' hz => ?_⟩
            obtain ⟨T, v', u', rfl, hT, rfl, h1, h2⟩ := hz
            have a1 : v = v' := Option.some.inj (e1.symm.trans (h1 xs q))
            have a2 : u = u' := Option.some.inj (e3.symm.trans (h2 ys q'))
            subst a1 a2
            exact ⟨_, W.new_tup w (.cons e2 (.cons e4 .nil)) hT⟩
      · unfold zipD at hi
        rw [List.length_zipWith] at hi
        rw [r.length, r'.length]
        omega
def mZipM (fs : M (List Sl)) : M (List D) := fun ρ => (fs ρ).bd fun rs ρ1 => match dAll rs with
  | some [.tuple xs, .list ys] => .ok (zipD xs ys) ρ1
  | _ => .bad
theorem ei_zipM {e e2 : Expr} {elts : List Expr} {kk : Nat} {tpos p pos : Pos} {mv : List (Option Nat)} {fs : M (List Sl)} (hm : X.mg "zip" = none) (ha : EvA X E [e, e2] mv fs) (hg : Gl X "zip" := by rfl) (hs : starEach [e, e2] X.env = (false, eval e X.env) :: starEach [e2] X.env := by rfl) (hpl : (backTo pos (starEach [e2] X.env)).any (·.1) = false := by rfl) : EvI X E (.Tuple elts kk tpos) (.Call (.Name "zip" p) [e, e2] [] pos) (mZipM fs) := by
  obtain ⟨t, pt, qt⟩ := ha
  refine ⟨_, pi_zipM hg hm pt hs hpl, fun B ts σ ρ F H R hl w h => qt B ts σ ρ F H _ hl w ?_⟩
  unfold mZipM Rs.bd at h
  cases e1 : fs ρ with
  | bad => rw [e1] at h; exact h.elim
  | ex x ρ1 => rw [e1] at h; exact h
  | ok rs ρ1 =>
    rw [e1] at h
    simp only at h
    intro hl1 vs F1 H1 hvs _ _ w1
    split at h
    · rename_i xs ys e2
      obtain ⟨F2, w2, s2, r2⟩ := w1.datas hvs e2
      cases r2 with
      | cons rp rt =>
        cases rt with
        | cons rq rt =>
          cases rt
          cases rp with
          | tup h1 h2 =>
            cases rq with
            | lst h3 h4 => exact ⟨_, _, _, _, rfl, Same.tq w2.fh h1, SqL.of (w2.fh _ _ h3), h hl1 _ [_, _] F2 H1 ((w2.more (.lst h3 h4)).more (.tup h1 h2)) feed_zipM⟩
    · exact h.elim
end
end
end Fx

set_option Elab.async false
set_option linter.all false
set_option maxRecDepth 100000
namespace Fx
open PySem PySem.Spec PyProof.Rows L2
noncomputable section
section
variable {X : Cx} {E : XK}
/-! ### min and slices of what a name owns -/
def mMinO (i : Nat) : M Sl := fun ρ => match pk i ρ with
  | some d => match gMin [d] with
    | some (.val (.int n)) => .ok (.val (.int n)) ρ
    | _ => .bad
  | none => .bad
theorem ev_minO (i : Nat) {x : Str} {p pos p2 : Pos} (hc : X.calm = true) (hu : X.A.units + 64 < cLine) (hm : X.mg "min" = none) (hg : Gl X "min" := by rfl) (hN : X.N[i]? = some x := by rfl) (hv : Vis X.env.scope x := by first | exact Or.inl rfl | exact Or.inr (Or.inl rfl) | exact Or.inr (Or.inr rfl))
    (hd : (x == ("__debug__" : Str)) = false := by decide) (hcd : (x == ("__classdict__" : Str)) = false := by decide) (he : starEach [.Name x p2] X.env = (false, eval (.Name x p2) X.env) :: starEach [] X.env := by rfl) : Ev X E (.Call (.Name "min" p) [.Name x p2] [] pos) (mMinO i) := by
  refine ⟨_, pe_callB (cr_minD hc hu) hg hm boot_min (pa_cons (pe_var hN hv hd hcd) pa_nil he) (by decide) (by decide) he rfl, fun B ts σ ρ F H Q hl w h => ?_⟩
  unfold mMinO at h
  cases e1 : pk i ρ with
  | none => rw [e1] at h; exact h.elim
  | some d =>
    rw [e1] at h
    simp only at h
    obtain ⟨v, F', h1, s1, s2, r⟩ := w.peek hl e1
    split at h
    · rename_i n eg
      refine ⟨v, h1, ?_⟩
      unfold gMin at eg
      split at eg
      · rename_i d es ed
        cases ed
        by_cases ok : okMin (d :: es) = true
        · rw [if_pos ok] at eg
          have em : PySem.W.minD d es = .int n := Sl.val.inj (Option.some.inj eg)
          cases r with
          | lst h2 r2 =>
            refine ⟨F', _, d, es, _, rfl, s2, s2 _ _ h2, r2, ok, fun u ru => ?_⟩
            rw [em] at ru
            cases ru
            exact h hl _ F H (w.more (.int _))
        · rw [if_neg ok] at eg; cases eg
      · cases eg
    · exact h.elim
def mSliceO (i : Nat) (fl fh : M (Option Int)) : M Sl := fun ρ => match ρ[i]? with
  | some (.lst _) => (fl ρ).bd fun lo ρ2 => (fh ρ2).bd fun hi ρ3 => match ρ3[i]? with
    | some (.lst xs) => .ok (.lst (cutL xs lo hi)) ρ3
    | _ => .bad
  | _ => .bad
theorem ev_sliceO (i : Nat) {x : Str} {lo hi : Option Expr} {fl fh : M (Option Int)} {px p2 pos : Pos} (hl : EvO X E lo fl) (hh : EvO X E hi fh) (hN : X.N[i]? = some x := by rfl) (hv : Vis X.env.scope x := by first | exact Or.inl rfl | exact Or.inr (Or.inl rfl) | exact Or.inr (Or.inr rfl))
    (hd : (x == ("__debug__" : Str)) = false := by decide) (hcd : (x == ("__classdict__" : Str)) = false := by decide) : Ev X E (.Subscript (.Name x px) (.Slice lo hi none p2) pos) (mSliceO i fl fh) := by
  obtain ⟨tl, ptl, qtl⟩ := hl
  obtain ⟨th, pth, qth⟩ := hh
  refine ⟨_, pe_slice sl_P (pe_var hN hv hd hcd) ptl pth, fun B ts σ ρ F H Q hl w h => ?_⟩
  unfold mSliceO Rs.bd at h
  cases e0 : ρ[i]? with
  | none => rw [e0] at h; exact h.elim
  | some s =>
    rw [e0] at h
    cases s with
    | lst ds0 =>
      simp only at h
      obtain ⟨o, l, h1, w1, _⟩ := w.at hl e0
      obtain ⟨p, vs0, rfl, _⟩ := w1.lst
      refine ⟨_, h1, qtl B ts σ ρ F H _ hl w ?_⟩
      cases e2 : fl ρ with
      | bad => rw [e2] at h; exact h.elim
      | ex x ρ2 => rw [e2] at h; exact h
      | ok lo' ρ2 =>
        rw [e2] at h
        simp only at h
        intro hl2 F2 H2 w2
        refine qth B ts σ ρ2 F2 H2 _ hl2 w2 ?_
        cases e3 : fh ρ2 with
        | bad => rw [e3] at h; exact h.elim
        | ex x ρ3 => rw [e3] at h; exact h
        | ok hi' ρ3 =>
          rw [e3] at h
          simp only at h
          intro hl3 F3 H3 w3
          cases e4 : ρ3[i]? with
          | none => rw [e4] at h; exact h.elim
          | some s1 =>
            rw [e4] at h
            cases s1 with
            | lst ds =>
              simp only at h
              obtain ⟨o2, l2, h2, w4, _⟩ := W.at w3 hl3 e4
              rw [h1] at h2
              cases h2
              obtain ⟨p', vs, e5, hp, rp, _⟩ := w4.lst
              cases e5
              exact .inl ⟨_, _, rfl, SqL.of hp, fun q hq => h hl3 _ _ _ (w3.new_lst (rp.cut lo' hi') hq)⟩
            | _ => exact h.elim
    | _ => exact h.elim
end
end
end Fx

set_option Elab.async false
set_option linter.all false
set_option maxRecDepth 100000
namespace Fx
open PySem PySem.Spec PyProof.Rows L2
noncomputable section
/-! ### a def that is called no deeper -/
theorem fn_bad {P : Program} {w : World} {K : Fg} {mg : Str → Option Value} {base : Heap} {CX : CXT} {k n : Nat} {f : Addr} {fd : FuncData} {ps : List Str} : FnOk P w K mg base CX k f fd ps (SpF K mg n (fun _ => .bad)) :=
  ⟨fun vs H Q E ⟨_, _, _, _, _, _, _, _, _, h⟩ => h.elim, fun _ _ _ _ _ _ _ _ _ _ _ _ _ ⟨_, _, _, _, _, _, _, _, _, h⟩ => h.elim⟩
section
variable {X : Cx} {E : XK}
/-! ### list(range(n)) -/
def gLRg : D → Option Sl
  | .int j => if tru (0 ≤ j ∧ j ≤ 1000000) = true then some (.lst ((List.range j.toNat).map fun i => .int ((i : Nat) : Int))) else none
  | _ => none
def rLRg : V → Hp → VK → Prop := fun x H Q => ∃ j : Int, x = .int j ∧ (0 ≤ j ∧ j ≤ 1000000) ∧ ∀ p, H p = none → Q (.ref p) (upd H p (.lst ((List.range j.toNat).map fun i => .int ((i : Nat) : Int))))
theorem ul_lrg : UnL X rLRg gLRg := by
  intro B l F H v a rc Q w r hg q
  unfold gLRg at hg
  split at hg
  · rename_i j
    split at hg
    · rename_i h
      cases hg
      cases r
      refine ⟨j, rfl, tru_iff.mp h, fun p hp => q _ F _ (w.new_lst ?_ hp)⟩
      have go : ∀ xs : List Nat, RpL X.K F (xs.map fun i => V.int ((i : Nat) : Int)) (xs.map fun i => PyData.int ((i : Nat) : Int)) := fun xs => by
        induction xs with
        | nil => exact .nil
        | cons x xs ih => exact .cons (.int _) ih
      exact go _
    · cases hg
  · cases hg
theorem pe_lrg {a : Expr} {ta : TE} {p p2 q pos : Pos} (hg : Gl X "list") (hm : X.mg "list" = none) (hg2 : Gl X "range") (hm2 : X.mg "range" = none) (ha : PE X a ta) (hc : X.calm = true) (na : starEach [a] X.env = (false, eval a X.env) :: starEach [] X.env) :
    PE X (.Call (.Name "list" p) [.Call (.Name "range" p2) [a] [] q] [] pos) (tUn rLRg ta) := by
  refine ⟨fun pins s σ H Q I h => Call_ (ld_blt I hg hm boot_list (PyProof.Rows.callWith_type1 (PyProof.Rows.args_cons ?_ rfl) rfl rfl))⟩
  refine Call_ (ld_blt I hg2 hm2 boot_range (PyProof.Rows.callWith_type1 (PyProof.Rows.args_cons (thn (ha.run pins s σ H _ I h) fun v s1 ⟨x, H1, I1, r1, j, ex, hj, k⟩ => PyProof.Rows.args_nil ?_) na) na rfl))
  subst ex
  obtain ⟨t, rfl⟩ := r1
  refine call_range_1 (PyProof.Rows.args_nil ?_)
  have I2 : Inv X pins σ H1 { s1 with heap := s1.heap.push { cls := .type "range", data := .fields #[.int 0 s1.toks, .int j t, .int 1 (s1.toks + 1)] }, toks := s1.toks + 1 + 1 } := I1.kept fun b o e => Heap.get?_push_of_some _ e
  refine call_list_range (I1.ok.hd hc) (IsRange.new ..) (small_one (by omega) (by omega) (by omega) (by omega)) (n := j.toNat) (by rw [rangeSize_one]; split <;> omega) (by omega) fun h' tk acc' c' hk e it => ?_
  have vs : Vals ((List.range j.toNat).map fun i => V.int ((i : Nat) : Int)) acc'.toList := by
    have := vals_of_get acc'.toList (fun i => V.int ((i : Nat) : Int)) fun i u hu => by
      obtain ⟨t, rfl⟩ := it.2 i u (by simpa using hu)
      exact ⟨t, by congr 1; omega⟩
    rw [Array.length_toList, it.1] at this
    exact this
  exact ⟨.ref _, _, I2.laid (t' := tk) hk (Nat.le_refl _) (show ObjOk X.prog X.w _ h' _ (.lst _) from ⟨by rw [List.length_map, List.length_range]; show j.toNat ≤ sizeLine; unfold sizeLine; omega, acc'.toList, c', vs, e⟩), rfl, k _ (I2.hok.fresh (Nat.le_refl _))⟩
theorem ev_lrg {a : Expr} {fa : M Sl} {p p2 q pos : Pos} (hm : X.mg "list" = none) (hm2 : X.mg "range" = none) (ha : Ev X E a fa) (hg : Gl X "list" := by rfl) (hg2 : Gl X "range" := by rfl) (hc : X.calm = true := by rfl) (na : starEach [a] X.env = (false, eval a X.env) :: starEach [] X.env := by rfl) :
    Ev X E (.Call (.Name "list" p) [.Call (.Name "range" p2) [a] [] q] [] pos) (mUn gLRg fa) :=
  ev_one (r := rLRg) ul_lrg ha fun pa => pe_lrg hg hm hg2 hm2 pa hc na
end
end
end Fx

set_option Elab.async false
set_option linter.all false
set_option maxRecDepth 100000
namespace Fx
open PySem PySem.Spec PyProof.Rows L2
noncomputable section
section
variable {X : Cx} {E : XK}
/-! ### isinstance(x, (T, S)) -/
def isiD2 (T S : String) (d : D) : Option Bool := match isiD T d with
  | some true => some true
  | some false => isiD S d
  | none => none
def gIsi2 (T S : String) (d : D) : Option Sl := (isiD2 T S d).map fun b => .val (.bool b)
theorem kit_any2 {K : Fg} {T S : String} {d : D} {b : Bool} (h : isiD2 T S d = some b) : PySem.W.kitAny K (.type (tyD d)) [.type T, .type S] = some b := by
  unfold isiD2 at h
  cases e : isiD T d with
  | none => rw [e] at h; cases h
  | some x =>
    rw [e] at h
    cases x with
    | true =>
      cases h
      exact kitAny_cons (b := true) (kit_ty e) (fun q => nomatch q) fun _ => rfl
    | false =>
      simp only at h
      refine kitAny_cons (b := false) (kit_ty e) (fun _ => ?_) fun q => nomatch q
      cases b with
      | true => exact kitAny_cons (b := true) (kit_ty h) (fun q => nomatch q) fun _ => rfl
      | false => exact kitAny_cons (b := false) (kit_ty h) (fun _ => rfl) fun q => nomatch q
theorem ev_isi2 {T S : String} {x y : Str} {a : Expr} {fa : M Sl} {kk : Nat} {p pos p2 p3 tpos : Pos} (ha : Ev X E a fa) (hm : X.mg "isinstance" = none) (hm2 : X.mg x = none) (hm3 : X.mg y = none) (hv : bootBuiltins x = some (.type T)) (hv3 : bootBuiltins y = some (.type S)) (hg : Gl X "isinstance" := by rfl) (hg2 : Gl X x := by rfl) (hg3 : Gl X y := by rfl) (hn2 : x ≠ "__name__" := by decide) (hn3 : y ≠ "__name__" := by decide) (hdb2 : (x == ("__debug__" : Str)) = false := by decide) (hdb3 : (y == ("__debug__" : Str)) = false := by decide)
    (he : starEach [a, .Tuple [.Name x p2, .Name y p3] kk tpos] X.env = (false, eval a X.env) :: starEach [.Tuple [.Name x p2, .Name y p3] kk tpos] X.env := by rfl) (he2 : starEach [.Tuple [.Name x p2, .Name y p3] kk tpos] X.env = (false, eval (.Tuple [.Name x p2, .Name y p3] kk tpos) X.env) :: starEach [] X.env := by rfl)
    (he3 : starEach [.Name x p2, .Name y p3] X.env = (false, eval (.Name x p2) X.env) :: starEach [.Name y p3] X.env := by rfl) (he4 : starEach [.Name y p3] X.env = (false, eval (.Name y p3) X.env) :: starEach [] X.env := by rfl)
    (hpl : (backTo pos (starEach [.Tuple [.Name x p2, .Name y p3] kk tpos] X.env)).any (·.1) = false := by rfl) :
    Ev X E (.Call (.Name "isinstance" p) [a, .Tuple [.Name x p2, .Name y p3] kk tpos] [] pos) (mUn (gIsi2 T S) fa) := by
  obtain ⟨ta, pa, qa⟩ := ha
  refine ⟨_, pe_callB call_isiT hg hm (by decide +kernel) (pa_cons pa (pa_cons (pe_tup (pa_cons (pe_bltn (v := .ty T) hg2 hm2 hv rfl hn2 hdb2) (pa_cons (pe_bltn (v := .ty S) hg3 hm3 hv3 rfl hn3 hdb3) pa_nil he4) he3)) pa_nil he2) he) (by decide) (by decide) he hpl, fun B ts σ ρ F H Q hl w h => qa B ts σ ρ F H _ hl w ?_⟩
  unfold mUn Rs.bd at h
  cases e1 : fa ρ with
  | bad => rw [e1] at h; exact h.elim
  | ex x ρ1 => rw [e1] at h; exact h
  | ok ra ρ1 =>
    rw [e1] at h
    simp only at h
    intro hl1 v F1 H1 w1
    cases da : ra.d? with
    | none => rw [da] at h; exact h.elim
    | some d =>
      rw [da] at h
      simp only at h
      obtain ⟨F3, w3, s3⟩ := w1.freeze da
      unfold gIsi2 at h
      cases e2 : isiD2 T S d with
      | none => rw [e2] at h; exact h.elim
      | some b =>
        rw [e2] at h
        refine ⟨by show 2 ≤ sizeLine; rw [sizeLine_eq]; omega, fun q hq => ?_⟩
        have w4 := w3.lay (o := .tup [.ty T, .ty S]) hq
        exact ⟨v, q, [.ty T, .ty S], _, [.type T, .type S], b, rfl, upd_same, .cons (.ty T) (.cons (.ty S) .nil), Rp.ty w4.fh w4.val, kit_any2 e2, h hl1 _ _ _ (w4.tail.more (.bl b))⟩
/-! ### x.pop(i) -/
def gPopAt : Sl → List D → Option (Sl × Sl)
  | .lst ds, [.int i] => if tru (0 ≤ i ∧ i < 2 ^ 63) = true then (match ds[i.toNat]? with
    | some d => some (.lst (ds.eraseIdx i.toNat), .val d)
    | none => none) else none
  | _, _ => none
theorem RpL.erase {K : Fg} {F : Hp} : ∀ {vs : List V} {ds : List D} (_ : RpL K F vs ds) (i : Nat), RpL K F (vs.eraseIdx i) (ds.eraseIdx i)
  | _, _, .nil, _ => .nil
  | _, _, .cons _ t, 0 => t
  | _, _, .cons r t, i + 1 => .cons r (RpL.erase t i)
theorem ml_popAt : MtL X rPopAt gPopAt := by
  intro B l F H v vs s s' ds rc Q w r hg q
  unfold gPopAt at hg
  split at hg
  · rename_i es i
    by_cases h : tru (0 ≤ i ∧ i < 2 ^ 63) = true
    · rw [if_pos h] at hg
      have hi := tru_iff.mp h
      cases ed : es[i.toNat]? with
      | none => rw [ed] at hg; cases hg
      | some d =>
        rw [ed] at hg
        cases hg
        cases r with
        | cons r0 t =>
          cases t
          cases r0
          obtain ⟨p, us, e, hp, rp, _⟩ := w.lst
          cases e
          obtain ⟨u, eu, ru⟩ := rp.get ed
          have hlt := (List.getElem?_eq_some_iff.mp eu).1
          refine ⟨_, us, i, i.toNat, u, rfl, rfl, hp, by omega, hi.2, ?_, eu, q _ F _ (W.more ?_ ru)⟩
          · unfold seqIndex?
            have h0 : ¬ i < 0 := by omega
            have : (decide (0 ≤ i) && decide (i < (us.length : Int))) = true := by rw [Bool.and_eq_true, decide_eq_true_eq, decide_eq_true_eq]; omega
            simp only [h0, if_false]
            rw [if_pos this]
          · exact w.put (.lst hp rp) (.lst upd_same (rp.erase _))
    · rw [if_neg h] at hg; cases hg
  · cases hg
/-! ### x[::-1], x's own list -/
theorem RpL.rev {K : Fg} {F : Hp} {vs : List V} {ds : List D} (h : RpL K F vs ds) : RpL K F vs.reverse ds.reverse := by
  have go : ∀ {vs : List V} {ds : List D}, RpL K F vs ds → ∀ {us : List V} {es : List D}, RpL K F us es → RpL K F (vs.reverse ++ us) (ds.reverse ++ es) := by
    intro vs ds h
    induction vs generalizing ds with
    | nil => intro us es k; cases h; exact k
    | cons v vs ih =>
      intro us es k
      cases h with
      | cons r t =>
        rw [List.reverse_cons, List.reverse_cons, List.append_assoc, List.append_assoc]
        exact ih t (.cons r k)
  have := go h .nil
  rwa [List.append_nil, List.append_nil] at this
def mRevO (i : Nat) : M Sl := fun ρ => match ρ[i]? with
  | some (.lst ds) => .ok (.lst ds.reverse) ρ
  | _ => .bad
theorem ev_revO (i : Nat) {x : Str} {k : Nat} {px p1 p2 p3 pos : Pos} (hN : X.N[i]? = some x := by rfl) (hv : Vis X.env.scope x := by first | exact Or.inl rfl | exact Or.inr (Or.inl rfl) | exact Or.inr (Or.inr rfl))
    (hd : (x == ("__debug__" : Str)) = false := by decide) (hcd : (x == ("__classdict__" : Str)) = false := by decide) : Ev X E (.Subscript (.Name x px) (.Slice none none (some (.UnaryOp .USub (.Constant (.int 1) k p1) p2)) p3) pos) (mRevO i) := by
  refine ⟨_, pe_revL (pe_var hN hv hd hcd), fun B ts σ ρ F H Q hl w h => ?_⟩
  unfold mRevO at h
  split at h
  · rename_i ds e
    obtain ⟨o, l, h1, w1, _⟩ := w.at hl e
    obtain ⟨a, vs, rfl, hp, rp, _⟩ := w1.lst
    exact ⟨_, h1, _, _, rfl, SqL.of hp, fun p hp' => h hl _ _ _ (w.new_lst rp.rev hp')⟩
  · exact h.elim
end
end
end Fx

set_option Elab.async false
set_option linter.all false
set_option maxRecDepth 100000
namespace Fx
open PySem PySem.Spec PyProof.Rows L2
noncomputable section
/-! ### sorted(a tuple) -/
theorem collect_tup {prog : Program} {w : World} {A : Around} {E : Value → Shared → Prop} {s : Shared} {c : Addr} {us : List Value} {R : List Value → Shared → Prop} (hc : s.heap.IsTuple c us.toArray) (hz : us.length ≤ sizeLine)
    (k : R us { s with heap := (s.heap.push (seqObj "list" #[] 0)).update s.heap.objs.size (Obj.mapSeq (· ++ us.toArray)) }) : wpAny (model prog w) A (collect (.ref c)) R E s := by
  obtain ⟨ob, hb, hk, m, hd⟩ := id hc
  have hb' : (s.heap.push (seqObj "list" #[] 0)).get? c = some ob := Heap.get?_push_of_some _ hb
  have new : (s.heap.push (seqObj "list" #[] 0)).get? s.heap.objs.size = some (seqObj "list" #[] 0) := Heap.get?_push_size _ rfl
  unfold collect
  refine wpAny_bind (wpAny_runValue (codeAny_builtin entry_proto_collect' (?_ : wpAny _ _ (newList [] >>= fun l => again (.builtin "list.__iadd__" ⟨[l, .ref c], []⟩)) _ _ s)))
  refine wpAny_bind (wpAny_newList (wpAny_pure ⟨Code.quiet_builtin _ (by decide +kernel), codeAny_builtin entry_list_iadd' (?_ : wpAny _ _ (Builtin.List.listExtendWith (.ref s.heap.objs.size) (.ref c) (.ref s.heap.objs.size)) _ _ { s with heap := s.heap.push (seqObj "list" #[] 0) })⟩))
  unfold Builtin.List.listExtendWith
  refine wpAny_bind (wpAny_typeOf (T := "tuple") ⟨ob, hb', hk⟩ ?_)
  rw [if_pos (by rw [show (Value.type "tuple" == Value.type "tuple") = true from rfl]; simp)]
  refine wpAny_bind (listItems_at hb' hd (wpAny_bind (listItems_at (xs := #[]) (n := 0) new rfl ?_)))
  rw [if_neg (by simp)]
  refine wpAny_bind (listUpdate_at (xs := #[]) (n := 0) new rfl (wpAny_pure ?_) (Nat.zero_le _) (by show (#[] ++ us.toArray).size ≤ sizeLine + 1; simp only [Array.size_append, List.size_toArray, List.length_nil]; omega))
  refine (?_ : wpAny (model prog w) A (load s.heap.objs.size >>= fun o => match o.data with | .seq xs _ => pure xs.toList | _ => unsupported "internal:collect") R E { s with heap := (s.heap.push (seqObj "list" #[] 0)).update s.heap.objs.size (Obj.mapSeq (· ++ us.toArray)) })
  refine wpAny_bind (wpAny_load (get?_update_seq new _) (?_ : wpAny _ _ (pure ((#[] : Array Value) ++ us.toArray).toList) R E _))
  have : ((#[] : Array Value) ++ us.toArray).toList = us := by simp
  rw [this]
  exact wpAny_pure k
open PySem.W PySem.Calls in
theorem sorted_tup {prog : Program} {w : World} {A : Around} {E : Value → Shared → Prop} {s : Shared} {c : Addr} {us : List Value} {bs : List PyData} {R : Value → PyData → Prop} {Q : Value → Shared → Prop} (hc : s.heap.IsTuple c us.toArray) (e : PySem.W.EachIs R us bs) (er : PySem.W.EachIs (fun v b => ∃ as, Reads s.heap v (id b) as) us bs) (hal : PySem.W.AllAlike (bs.map id)) (hk : PySem.W.Sortable (bs.map id)) (hL : bs.length ≤ sizeLine)
    (hu : ∀ b ∈ bs, A.units + 2 + (id b).depth < cLine) (k : ∀ out, out.length = bs.length → PySem.W.EachIs R out (bs.mergeSort (PySem.W.dataLe false id)) → Q (.ref (s.heap.objs.size + 1)) { s with heap := sortedAll s.heap us (List.toArray out) }) : wpAny (model prog w) A (call (.builtin "sorted") [.ref c]) Q E s := by
  have hu2 : us.length ≤ sizeLine := by rw [e.length]; exact hL
  have er2 : PySem.W.EachIs (fun v b => ∃ as, Reads (PySem.W.sortingHeap (PySem.W.copyHeap s.heap us) (s.heap.objs.size + 1) us) v (id b) as) us bs := er.mono fun _ _ ⟨as, r⟩ => ⟨as, PyProof.Rows.Reads.keeps (fun _ _ => PySem.W.sorting_copy_old) r⟩
  have S := PySem.W.SortsAt.data (prog := prog) (w := w) (A := A.in1.in1) (s := { s with heap := PySem.W.sortingHeap (PySem.W.copyHeap s.heap us) (s.heap.objs.size + 1) us }) (PySem.W.each_map (R := fun v d => ∃ as, Reads (PySem.W.sortingHeap (PySem.W.copyHeap s.heap us) (s.heap.objs.size + 1) us) v d as) id er2) hal hk (PySem.W.bound_map hu)
  have q := k _ (by rw [PySem.W.sortVals_length false rfl]; exact e.length) (PySem.W.sortVals_data false e er2 hal)
  refine call_function_entry_kw kind_sorted plain_sorted entry_sorted (args_sorted1 _) ?_
  unfold Builtin.«sorted»
  refine wpAny_bind (m := checkCount "sorted" 1 1 _) (wpAny_pure (wpAny_bind (collect_tup hc hu2 (wpAny_bind (wpAny_newList ?_ hu2)))))
  have hsz : ((s.heap.push (seqObj "list" #[] 0)).update s.heap.objs.size (Obj.mapSeq (· ++ us.toArray))).objs.size = s.heap.objs.size + 1 := by rw [Heap.size_update, PyProof.Rows.size_push']
  refine (?_ : wpAny _ _ _ _ _ { s with heap := PySem.W.copyHeap s.heap us })
  rw [hsz]
  refine wpAny_bind (wpAny_holding (wpAny_call_entry_kw slot_list_sort ⟨_, PySem.W.copyHeap_at s.heap us, rfl⟩ entry_list_sort ?body (args_list_sort _)))
  case body =>
    refine wpAny_mono (PySem.W.list_sort_vals (prog := prog) (w := w) (A := A.in1.in1) (s := { s with heap := PySem.W.copyHeap s.heap us }) (P := fun f s' => f = .done (.ret .none) ∧ Q (.ref (s.heap.objs.size + 1)) s') (PySem.W.copyHeap_at s.heap us) S hu2 ⟨rfl, q⟩) (fun f s' hf => ?_) fun _ _ x => x
    obtain ⟨rfl, hq⟩ := hf
    exact ⟨_, rfl, wpAny_pure ⟨_, rfl, hq⟩⟩
section
variable {X : Cx} {E : XK}
def rSortDT (K : Fg) : List V → Hp → VK → Prop := fun vs H Q => ∃ F a ds xs, vs = [V.ref a] ∧ Same F H ∧ SqT K H a xs ∧ RpL K F xs ds ∧ okSort ds = true ∧ ∀ ys p, RpL K F ys (sortD ds) → H p = none → Q (.ref p) (upd H p (.lst ys))
theorem cr_sortDT (hu : X.A.units + 64 < cLine) : CallR X (.builtin "sorted") (rSortDT X.K) := by
  intro pins s σ H vs us Q I r ⟨F, a, ds, xs, e, sf, hs, rp, ok, q⟩
  subst e
  obtain ⟨its, rv, hl, _⟩ := I.tuple hs
  rw [Vals.ref1 r]
  obtain ⟨h1, h2, h3, h4, h5⟩ := okSort_of ok
  obtain ⟨as, rs⟩ := RpL.reads I sf h1 rp rv
  have er : PySem.W.EachIs (fun v d => ∃ as, Reads s.heap v (id d) as) its ds := PySem.W.readsAll_each id (by simpa using rs)
  have hl' : s.heap.IsTuple a its.toArray := hl
  refine sorted_tup (R := fun v d => ∃ x, Rp X.K F x d ∧ RelV x v) hl' (rp_each rv rp) er (by simpa using h3) (by simpa using h4) h5 (fun d hd => ?_) fun out hlen ho => ?_
  · have := depth_get hd
    show X.A.units + 2 + d.depth < cLine
    omega
  · obtain ⟨ep, he'⟩ := PyProof.Rows.sortedAll_at s.heap its out.toArray
    obtain ⟨ys, hv, hy⟩ := each_rp ho
    have hle : ys.length ≤ sizeLine := by rw [hv.length, hlen]; exact h5
    exact ⟨.ref _, upd H (s.heap.objs.size + 1) (.lst ys), I.laid (t' := s.toks) (fun _ _ => PyProof.Rows.sortedAll_old) (Nat.le_succ _) ⟨hle, out, ep, hv, he'⟩, rfl, q ys _ hy (I.hok.fresh (Nat.le_succ _))⟩
def rSortDA (K : Fg) : List V → Hp → VK → Prop := fun vs H Q => rSortD K vs H Q ∨ rSortDT K vs H Q
theorem cr_sortDA (hu : X.A.units + 64 < cLine) : CallR X (.builtin "sorted") (rSortDA X.K) := by
  intro pins s σ H vs us Q I r h
  rcases h with h | h
  · exact cr_sortD hu pins s σ H vs us Q I r h
  · exact cr_sortDT hu pins s σ H vs us Q I r h
def gSortedA (ds : List D) : Option Sl := match ds with
  | [.list es] => if okSort es = true then some (.lst (sortD es)) else none
  | [.tuple es] => if okSort es = true then some (.lst (sortD es)) else none
  | _ => none
theorem cl_sortedA : CallL X (rSortDA X.K) gSortedA := by
  intro B l F H vs ds rc Q w r hg q
  unfold gSortedA at hg
  split at hg
  · rename_i es
    by_cases h : okSort es = true
    · rw [if_pos h] at hg
      cases hg
      cases r with
      | cons r0 t =>
        cases t
        cases r0 with
        | lst h1 r1 => exact .inl ⟨F, _, es, _, rfl, w.fh, SqL.of (w.fh _ _ h1), r1, h, fun ys p hy hp => q _ F _ (w.new_lst hy hp)⟩
    · rw [if_neg h] at hg; cases hg
  · rename_i es
    by_cases h : okSort es = true
    · rw [if_pos h] at hg
      cases hg
      cases r with
      | cons r0 t =>
        cases t
        cases r0 with
        | tup h1 r1 => exact .inr ⟨F, _, es, _, rfl, w.fh, Same.tq w.fh h1, r1, h, fun ys p hy hp => q _ F _ (w.new_lst hy hp)⟩
    · rw [if_neg h] at hg; cases hg
  · cases hg
end
end
end Fx

set_option Elab.async false
set_option linter.all false
set_option maxRecDepth 100000
namespace Fx
open PySem PySem.Spec PyProof.Rows L2
noncomputable section
/-! ### dicts with keys that are tuples of numbers and texts, owned by a name -/
def kAll : List D → Option (List Key)
  | [] => some []
  | d :: ds => match keyOf d, kAll ds with
    | some k, some ks => some (k :: ks)
    | _, _ => none
def tkOf : D → Option (List Key)
  | .tuple ds => kAll ds
  | _ => none
theorem kAll_map : ∀ {ds : List D} {ks : List Key}, kAll ds = some ks → ds = ks.map kD
  | [], ks, h => by cases h; rfl
  | d :: ds, ks, h => by
    unfold kAll at h
    cases e1 : keyOf d with
    | none => rw [e1] at h; cases h
    | some k =>
      cases e2 : kAll ds with
      | none => rw [e1, e2] at h; cases h
      | some l =>
        rw [e1, e2] at h
        cases h
        rw [List.map_cons, ← keyOf_kD e1, ← kAll_map e2]
section
variable {K : Fg} {F : Hp}
theorem Rp.ofKey {v : V} {k : Key} (r : Rp K F v (kD k)) : v = kV k := by
  cases k with
  | inl i => cases r; rfl
  | inr x => cases r; rfl
theorem Rp.toKey (k : Key) : Rp K F (kV k) (kD k) := by
  cases k with
  | inl i => exact .int i
  | inr x => exact .str x
theorem RpL.ofKeys : ∀ {vs : List V} {ks : List Key}, RpL K F vs (ks.map kD) → vs = ks.map kV
  | [], [], _ => rfl
  | _ :: _, [], r => by cases r
  | [], _ :: _, r => by cases r
  | v :: vs, k :: ks, r => by
    cases r with
    | cons h t => rw [List.map_cons, h.ofKey, ofKeys t]
theorem RpL.toKeys : ∀ (ks : List Key), RpL K F (ks.map kV) (ks.map kD)
  | [] => .nil
  | k :: ks => .cons (.toKey k) (toKeys ks)
theorem Rp.tkey {v : V} {d : D} {k : List Key} (r : Rp K F v d) (h : tkOf d = some k) : ∃ b, v = .ref b ∧ F b = some (.tup (k.map kV)) := by
  cases d with
  | tuple ds =>
    have e := kAll_map (show kAll ds = some k from h)
    subst e
    cases r with
    | tup h1 h2 => exact ⟨_, rfl, by rw [h1, h2.ofKeys]⟩
  | _ => cases h
theorem RpT.length : ∀ {xs : List (List Key × V)} {ds : List (List Key × D)}, RpT K F xs ds → xs.length = ds.length
  | _, _, .nil => rfl
  | _, _, .cons _ t => congrArg (· + 1) (RpT.length t)
def lookT (es : List (List Key × D)) (k : List Key) : Option D := match es with
  | [] => none
  | (a, d) :: r => if a = k then some d else lookT r k
theorem RpT.look {k : List Key} : ∀ {xs : List (List Key × V)} {ds : List (List Key × D)}, RpT K F xs ds → match lookT ds k with
    | some d => ∃ v, valV xs k = some v ∧ Rp K F v d
    | none => valV xs k = none
  | _, _, .nil => valV_nil
  | _, _, .cons (k := k1) (v := v1) (d := d1) h t => by
    unfold lookT
    by_cases q : k1 = k
    · rw [if_pos q]
      exact ⟨v1, valV_pos q, h⟩
    · rw [if_neg q]
      have := RpT.look (k := k) t
      rw [valV_neg q]
      exact this
theorem RpT.any {k : List Key} : ∀ {xs : List (List Key × V)} {ds : List (List Key × D)}, RpT K F xs ds → (xs.any fun p => decide (p.1 = k)) = ds.any fun p => decide (p.1 = k)
  | _, _, .nil => rfl
  | _, _, .cons _ t => by rw [List.any_cons, List.any_cons, RpT.any t]
theorem RpT.upd {k : List Key} {v : V} {d : D} (r : Rp K F v d) : ∀ {xs : List (List Key × V)} {ds : List (List Key × D)}, RpT K F xs ds → RpT K F (xs.map fun p => if p.1 = k then (p.1, v) else p) (ds.map fun p => if p.1 = k then (p.1, d) else p)
  | _, _, .nil => .nil
  | _, _, .cons (k := k1) (v := v1) (d := d1) h t => by
    rw [List.map_cons, List.map_cons]
    by_cases q : k1 = k
    · simp only [q, if_true]
      exact .cons r (RpT.upd r t)
    · simp only [q, if_false]
      exact .cons h (RpT.upd r t)
theorem RpT.app {k : List Key} {v : V} {d : D} (r : Rp K F v d) : ∀ {xs : List (List Key × V)} {ds : List (List Key × D)}, RpT K F xs ds → RpT K F (xs ++ [(k, v)]) (ds ++ [(k, d)])
  | _, _, .nil => .cons r .nil
  | _, _, .cons h t => .cons h (RpT.app r t)
theorem RpT.put {k : List Key} {v : V} {d : D} (r : Rp K F v d) {xs : List (List Key × V)} {ds : List (List Key × D)} (h : RpT K F xs ds) : RpT K F (putK xs k v) (putD ds k d) := by
  unfold putK putD
  rw [h.any]
  split
  · exact h.upd r
  · exact h.app r
end
section
variable {X : Cx} {E : XK}
/-! {} -/
def mNewT : M Sl := fun ρ => .ok (.dT []) ρ
theorem ev_newT {pos : Pos} : Ev X E (.Dict [] [] pos) mNewT :=
  ⟨_, pe_dnewT, fun B ts σ ρ F H Q hl w h => fun p hp => h hl _ F _ (w.own hp (.dT upd_same .nil))⟩
/-! d[k] = v -/
def mSetT (i : Nat) (fi fe : M Sl) : Ms := fun ρ => (fe ρ).st fun r ρ1 => match r.d? with
  | some d => match ρ1[i]? with
    | some (.dT _) => (fi ρ1).st fun ri ρ2 => match ri with
      | .val b => match tkOf b with
        | some k => match ρ2[i]? with
          | some (.dT es) => match szOk (es.length + 1) with
            | true => .nx (ρ2.set i (.dT (putD es k d)))
            | false => .bad
          | _ => .bad
        | none => .bad
      | _ => .bad
    | _ => .bad
  | none => .bad
theorem ss_setT (i : Nat) {pn : List Nat} {x : Str} {px pt pos : Pos} {b e : Expr} {fi fe : M Sl} (hu : X.A.units + 64 < cLine) (he : Ev X E e fe) (hb : Ev X E b fi) (hN : X.N[i]? = some x := by rfl) (hv : Vis X.env.scope x := by first | exact Or.inl rfl | exact Or.inr (Or.inl rfl) | exact Or.inr (Or.inr rfl))
    (hd : (x == ("__debug__" : Str)) = false := by decide) (hcd : (x == ("__classdict__" : Str)) = false := by decide)
    (hs : swapsWith e (some (.Subscript (.Name x px) b pt)) pos.line X.env = pure false := by rfl) : Ss X E pn (.Assign [.Subscript (.Name x px) b pt] e pos) (mSetT i fi fe) := by
  obtain ⟨te, pe, qe⟩ := he
  obtain ⟨tb, pb, qb⟩ := hb
  refine ⟨_, ps_dput (by omega) (pe_var hN hv hd hcd) pb pe hs, fun B ts σ ρ F H D hl w h => qe B ts σ ρ F H _ hl w ?_⟩
  unfold mSetT Rs.st at h
  cases e1 : fe ρ with
  | bad => rw [e1] at h; exact h.elim
  | ex x ρ1 => rw [e1] at h; exact fun hl c dx F H w q => h c dx σ F H rfl hl (Pins.refl _ _) w q
  | ok r ρ1 =>
    rw [e1] at h
    simp only at h
    intro hl1 v F1 H1 w1
    cases da : r.d? with
    | none => rw [da] at h; exact h.elim
    | some d =>
      rw [da] at h
      simp only at h
      obtain ⟨F2, w2, _⟩ := w1.freeze da
      cases e0 : ρ1[i]? with
      | none => rw [e0] at h; exact h.elim
      | some s =>
        rw [e0] at h
        cases s with
        | dT ds0 =>
          simp only at h
          obtain ⟨o, l, g1, w3, _⟩ := W.at (ts := (some v, .val d) :: ts) w2 hl1 e0
          obtain ⟨p, vs0, rfl, _⟩ := w3.dT
          refine ⟨_, g1, qb B ((some v, .val d) :: ts) σ ρ1 F2 H1 _ hl1 w2 ?_⟩
          cases e2 : fi ρ1 with
          | bad => rw [e2] at h; exact h.elim
          | ex x ρ2 => rw [e2] at h; exact fun hl c dx F H w q => h c dx σ F H rfl hl (Pins.refl _ _) w.tail q
          | ok ri ρ2 =>
            rw [e2] at h
            simp only at h
            intro hl2 u F3 H3 w4
            cases ri with
            | val d0 =>
              simp only at h
              cases ek : tkOf d0 with
              | none => rw [ek] at h; exact h.elim
              | some k =>
                rw [ek] at h
                simp only at h
                cases e3 : ρ2[i]? with
                | none => rw [e3] at h; exact h.elim
                | some s2 =>
                  rw [e3] at h
                  cases s2 with
                  | dT es =>
                    simp only at h
                    cases e4 : szOk (es.length + 1) with
                    | false => rw [e4] at h; exact h.elim
                    | true =>
                      rw [e4] at h
                      obtain ⟨b, ku, kb⟩ := w4.val.tkey ek
                      subst ku
                      have hb3 := w4.fh _ _ kb
                      have w5 := w4.tail
                      have rv : Rp X.K F3 v d := W.val w5
                      obtain ⟨o2, l2, g2, w6, kk⟩ := W.at (ts := ts) w5.tail hl2 e3
                      rw [g1] at g2
                      cases g2
                      obtain ⟨p', vs, e5, hp, rp, _⟩ := w6.dT
                      cases e5
                      have hz : vs.length < sizeLine := by
                        have := szOk_le e4
                        rw [rp.length]; omega
                      refine ⟨_, _, rfl, DPut.t hp hb3 hz, ?_⟩
                      refine h σ F3 _ rfl (set_len hl2) (Pins.refl _ _) (kk ?_)
                      exact w6.put (.dT hp rp) (.dT upd_same (rp.put rv))
                  | _ => exact h.elim
            | _ => exact h.elim
        | _ => exact h.elim
/-! d[k] -/
def mGetT (i : Nat) (fb : M Sl) : M Sl := fun ρ => match ρ[i]? with
  | some (.dT _) => (fb ρ).bd fun rb ρ1 => match rb with
    | .val b => match tkOf b with
      | some k => match ρ1[i]? with
        | some (.dT es) => match lookT es k with
          | some d => .ok (.val d) ρ1
          | none => .bad
        | _ => .bad
      | none => .bad
    | _ => .bad
  | _ => .bad
theorem ev_getT (i : Nat) {x : Str} {px pos : Pos} {b : Expr} {fb : M Sl} (hu : X.A.units + 64 < cLine) (hb : Ev X E b fb) (hN : X.N[i]? = some x := by rfl) (hv : Vis X.env.scope x := by first | exact Or.inl rfl | exact Or.inr (Or.inl rfl) | exact Or.inr (Or.inr rfl))
    (hd : (x == ("__debug__" : Str)) = false := by decide) (hcd : (x == ("__classdict__" : Str)) = false := by decide) (hs : NoSl b := by exact fun _ _ => rfl) : Ev X E (.Subscript (.Name x px) b pos) (mGetT i fb) := by
  obtain ⟨tb, pb, qb⟩ := hb
  refine ⟨_, pe_dget (by omega) (pe_var hN hv hd hcd) pb hs, fun B ts σ ρ F H Q hl w h => ?_⟩
  unfold mGetT Rs.bd at h
  cases e0 : ρ[i]? with
  | none => rw [e0] at h; exact h.elim
  | some s =>
    rw [e0] at h
    cases s with
    | dT ds0 =>
      simp only at h
      obtain ⟨o, l, g1, w3, _⟩ := W.at w hl e0
      obtain ⟨p, vs0, rfl, _⟩ := w3.dT
      refine ⟨_, g1, qb B ts σ ρ F H _ hl w ?_⟩
      cases e2 : fb ρ with
      | bad => rw [e2] at h; exact h.elim
      | ex x ρ2 => rw [e2] at h; exact h
      | ok ri ρ2 =>
        rw [e2] at h
        simp only at h
        intro hl2 u F3 H3 w4
        cases ri with
        | val d0 =>
          simp only at h
          cases ek : tkOf d0 with
          | none => rw [ek] at h; exact h.elim
          | some k =>
            rw [ek] at h
            simp only at h
            cases e3 : ρ2[i]? with
            | none => rw [e3] at h; exact h.elim
            | some s2 =>
              rw [e3] at h
              cases s2 with
              | dT es =>
                simp only at h
                cases e4 : lookT es k with
                | none => rw [e4] at h; exact h.elim
                | some d =>
                  rw [e4] at h
                  obtain ⟨b, ku, kb⟩ := w4.val.tkey ek
                  subst ku
                  have hb3 := w4.fh _ _ kb
                  have w5 := w4.tail
                  obtain ⟨o2, l2, g2, w6, kk⟩ := W.at w5 hl2 e3
                  rw [g1] at g2
                  cases g2
                  obtain ⟨p', vs, e5, hp, rp, _⟩ := w6.dT
                  cases e5
                  have lk := rp.look (k := k)
                  rw [e4] at lk
                  obtain ⟨v, lv, rv⟩ := lk
                  exact ⟨_, v, rfl, by have := DGet.t hp hb3; rw [lv] at this; exact this, h hl2 _ _ _ (w5.more rv)⟩
              | _ => exact h.elim
        | _ => exact h.elim
    | _ => exact h.elim
/-! k in d, k not in d -/
def mHasT (neg : Bool) (fb : M Sl) (i : Nat) : M Sl := fun ρ => (fb ρ).bd fun rb ρ1 => match rb with
    | .val b => match tkOf b with
      | some k => match ρ1[i]? with
        | some (.dT es) => .ok (.val (.bool (xor neg (lookT es k).isSome))) ρ1
        | _ => .bad
      | none => .bad
    | _ => .bad
theorem has_run (i : Nat) {x : Str} {px : Pos} {b : Expr} {tb td : TE} {neg : Bool} {fb : M Sl} (qb : Run X E tb fb) (hN : X.N[i]? = some x) (c : TE) (hc : ∀ σ H Q, (tb σ H fun y H1 => (∃ v, σ[i]? = some (some v) ∧ ∃ a o, v = .ref a ∧ DGet H1 a y o ∧ Q (.bl (xor neg o.isSome)) H1)) → c σ H Q) : Run X E c (mHasT neg fb i) := by
  intro B ts σ ρ F H Q hl w h
  refine hc σ H Q (qb B ts σ ρ F H _ hl w ?_)
  unfold mHasT Rs.bd at h
  cases e2 : fb ρ with
  | bad => rw [e2] at h; exact h.elim
  | ex x ρ2 => rw [e2] at h; exact h
  | ok ri ρ2 =>
    rw [e2] at h
    simp only at h
    intro hl2 u F3 H3 w4
    cases ri with
    | val d0 =>
      simp only at h
      cases ek : tkOf d0 with
      | none => rw [ek] at h; exact h.elim
      | some k =>
        rw [ek] at h
        simp only at h
        cases e3 : ρ2[i]? with
        | none => rw [e3] at h; exact h.elim
        | some s2 =>
          rw [e3] at h
          cases s2 with
          | dT es =>
            simp only at h
            obtain ⟨b, ku, kb⟩ := w4.val.tkey ek
            subst ku
            have hb3 := w4.fh _ _ kb
            have w5 := w4.tail
            obtain ⟨o2, l2, g2, w6, kk⟩ := W.at w5 hl2 e3
            obtain ⟨p', vs, e5, hp, rp, _⟩ := w6.dT
            subst e5
            have lk := rp.look (k := k)
            have ee : (valV vs k).isSome = (lookT es k).isSome := by
              cases e4 : lookT es k with
              | none => rw [e4] at lk; rw [show valV vs k = none from lk]; rfl
              | some d =>
                rw [e4] at lk
                obtain ⟨v, lv, _⟩ := lk
                rw [lv]; rfl
            refine ⟨_, g2, _, _, rfl, DGet.t hp hb3, ?_⟩
            rw [ee]
            exact h hl2 _ _ _ (w5.more (.bl _))
          | _ => exact h.elim
    | _ => exact h.elim
theorem ev_inT (i : Nat) {x : Str} {px pos : Pos} {b : Expr} {fb : M Sl} (hu : X.A.units + 64 < cLine) (hb : Ev X E b fb) (hN : X.N[i]? = some x := by rfl) (hv : Vis X.env.scope x := by first | exact Or.inl rfl | exact Or.inr (Or.inl rfl) | exact Or.inr (Or.inr rfl))
    (hd : (x == ("__debug__" : Str)) = false := by decide) (hcd : (x == ("__classdict__" : Str)) = false := by decide) (hm : behindInMarks .In (.Name x px) = false := by rfl) : Ev X E (.Compare b [.In] [.Name x px] pos) (mHasT false fb i) := by
  obtain ⟨tb, pb, qb⟩ := hb
  refine ⟨_, pe_cmp (pc_din (by omega) pb (pe_var hN hv hd hcd)) hm, has_run i (px := px) (b := b) (td := tb) qb hN _ fun σ H Q h => ?_⟩
  unfold tDIn tVar
  simpa using h
theorem ev_ninT (i : Nat) {x : Str} {px pos : Pos} {b : Expr} {fb : M Sl} (hu : X.A.units + 64 < cLine) (hb : Ev X E b fb) (hN : X.N[i]? = some x := by rfl) (hv : Vis X.env.scope x := by first | exact Or.inl rfl | exact Or.inr (Or.inl rfl) | exact Or.inr (Or.inr rfl))
    (hd : (x == ("__debug__" : Str)) = false := by decide) (hcd : (x == ("__classdict__" : Str)) = false := by decide) (hm : behindInMarks .NotIn (.Name x px) = false := by rfl) : Ev X E (.Compare b [.NotIn] [.Name x px] pos) (mHasT true fb i) := by
  obtain ⟨tb, pb, qb⟩ := hb
  refine ⟨_, pe_cmp (pc_dnotin (by omega) pb (pe_var hN hv hd hcd)) hm, has_run i (px := px) (b := b) (td := tb) qb hN _ fun σ H Q h => ?_⟩
  unfold tDNotIn tVar
  simpa using h
theorem et_inT (i : Nat) {x : Str} {px pos : Pos} {b : Expr} {fb : M Sl} (hu : X.A.units + 64 < cLine) (hb : Ev X E b fb) (hN : X.N[i]? = some x := by rfl) (hv : Vis X.env.scope x := by first | exact Or.inl rfl | exact Or.inr (Or.inl rfl) | exact Or.inr (Or.inr rfl))
    (hd : (x == ("__debug__" : Str)) = false := by decide) (hcd : (x == ("__classdict__" : Str)) = false := by decide) (hm : behindInMarks .In (.Name x px) = false := by rfl) : EvT X E (.Compare b [.In] [.Name x px] pos) (mTst (mHasT false fb i)) := by
  obtain ⟨tb, pb, qb⟩ := hb
  have q : Run X E (tDIn tb (tVar i)) (mHasT false fb i) := has_run i (px := px) (b := b) (td := tb) qb hN _ fun σ H Q h => by
    unfold tDIn tVar
    simpa using h
  exact ⟨_, pt_cmp (pc_din (by omega) pb (pe_var hN hv hd hcd)) hm, fun B ts σ ρ F H Q hl w h => q B ts σ ρ F H _ hl w (post_tst h)⟩
theorem et_ninT (i : Nat) {x : Str} {px pos : Pos} {b : Expr} {fb : M Sl} (hu : X.A.units + 64 < cLine) (hb : Ev X E b fb) (hN : X.N[i]? = some x := by rfl) (hv : Vis X.env.scope x := by first | exact Or.inl rfl | exact Or.inr (Or.inl rfl) | exact Or.inr (Or.inr rfl))
    (hd : (x == ("__debug__" : Str)) = false := by decide) (hcd : (x == ("__classdict__" : Str)) = false := by decide) (hm : behindInMarks .NotIn (.Name x px) = false := by rfl) : EvT X E (.Compare b [.NotIn] [.Name x px] pos) (mTst (mHasT true fb i)) := by
  obtain ⟨tb, pb, qb⟩ := hb
  have q : Run X E (tDNotIn tb (tVar i)) (mHasT true fb i) := has_run i (px := px) (b := b) (td := tb) qb hN _ fun σ H Q h => by
    unfold tDNotIn tVar
    simpa using h
  exact ⟨_, pt_cmp (pc_dnotin (by omega) pb (pe_var hN hv hd hcd)) hm, fun B ts σ ρ F H Q hl w h => q B ts σ ρ F H _ hl w (post_tst h)⟩
/-! list(d) -/
def keysT (es : List (List Key × D)) : List D := es.map fun p => .tuple (p.1.map kD)
def mListT (i : Nat) : M Sl := fun ρ => match ρ[i]? with
  | some (.dT es) => .ok (.lst (keysT es)) ρ
  | _ => .bad
theorem W.keysIn {K : Fg} {mg : Str → Option Value} {B : Bs} {l : List Sv} {H : Hp} : ∀ {xs : List (List Key × V)} {ds : List (List Key × D)} {bs : List Addr} {F : Hp}, W K mg B l F H → RpT K F xs ds → IsKeys H xs bs → ∃ F', W K mg B l F' H ∧ Same F F' ∧ RpL K F' (bs.map V.ref) (keysT ds)
  | [], [], bs, F, w, _, k => by
    cases k
    exact ⟨F, w, Same.refl _, .nil⟩
  | [], _ :: _, _, _, _, r, _ => by cases r
  | _ :: _, [], _, _, _, r, _ => by cases r
  | x :: xs, d :: ds, bs, F, w, r, k => by
    cases r with
    | cons h t =>
      cases k with
      | @cons _ b _ bs hb kt =>
        obtain ⟨F1, w1, s1, e1⟩ := w.tupIn hb
        obtain ⟨F2, w2, s2, r2⟩ := W.keysIn w1 (t.mono s1) kt
        exact ⟨F2, w2, s1.trans s2, .cons (.tup (s2 _ _ e1) (RpL.toKeys _)) r2⟩
theorem ev_listT (i : Nat) {x : Str} {p pos p2 : Pos} (hm : X.mg "list" = none) (hg : Gl X "list" := by rfl) (hN : X.N[i]? = some x := by rfl) (hv : Vis X.env.scope x := by first | exact Or.inl rfl | exact Or.inr (Or.inl rfl) | exact Or.inr (Or.inr rfl))
    (hd : (x == ("__debug__" : Str)) = false := by decide) (hcd : (x == ("__classdict__" : Str)) = false := by decide) (hc : X.calm = true := by rfl) (he : starEach [.Name x p2] X.env = (false, eval (.Name x p2) X.env) :: starEach [] X.env := by rfl) : Ev X E (.Call (.Name "list" p) [.Name x p2] [] pos) (mListT i) := by
  refine ⟨_, pe_callTy (call_list_dT hc) hg hm boot_list (pa_cons (pe_var hN hv hd hcd) pa_nil he) (by decide) (by decide) he rfl, fun B ts σ ρ F H Q hl w h => ?_⟩
  unfold mListT at h
  split at h
  · rename_i es e
    obtain ⟨o, l, h1, w1, k⟩ := w.at hl e
    obtain ⟨a, vs, rfl, hp, rp, _⟩ := w1.dT
    refine ⟨_, h1, _, _, rfl, .inl hp, fun q bs hq hk => ?_⟩
    obtain ⟨F', w2, _, r2⟩ := W.keysIn w rp hk
    exact h hl _ _ _ (w2.new_lst r2 hq)
  · exact h.elim
/-! k in d, k not in d, with numbers or texts for keys -/
def mHasK (neg : Bool) (fb : M Sl) (i : Nat) : M Sl := fun ρ => (fb ρ).bd fun rb ρ1 => match rb with
    | .val b => match keyOf b with
      | some _ => match ρ1[i]? with
        | some (.dK es) => .ok (.val (.bool (xor neg (lookD (dkD es) b).isSome))) ρ1
        | _ => .bad
      | none => .bad
    | _ => .bad
theorem hasK_run (i : Nat) {tb : TE} {neg : Bool} {x : Str} {fb : M Sl} (qb : Run X E tb fb) (hN : X.N[i]? = some x) (c : TE) (hc : ∀ σ H Q, (tb σ H fun y H1 => (∃ v, σ[i]? = some (some v) ∧ ∃ a o, v = .ref a ∧ DGet H1 a y o ∧ Q (.bl (xor neg o.isSome)) H1)) → c σ H Q) : Run X E c (mHasK neg fb i) := by
  intro B ts σ ρ F H Q hl w h
  refine hc σ H Q (qb B ts σ ρ F H _ hl w ?_)
  unfold mHasK Rs.bd at h
  cases e2 : fb ρ with
  | bad => rw [e2] at h; exact h.elim
  | ex x ρ2 => rw [e2] at h; exact h
  | ok ri ρ2 =>
    rw [e2] at h
    simp only at h
    intro hl2 u F3 H3 w4
    cases ri with
    | val d0 =>
      simp only at h
      cases ek : keyOf d0 with
      | none => rw [ek] at h; exact h.elim
      | some k =>
        rw [ek] at h
        simp only at h
        cases e3 : ρ2[i]? with
        | none => rw [e3] at h; exact h.elim
        | some s2 =>
          rw [e3] at h
          cases s2 with
          | dK es =>
            simp only at h
            have hk := keyOf_kD ek
            subst hk
            have ku := w4.val.key ek
            subst ku
            have w5 := w4.tail
            obtain ⟨o2, l2, g2, w6, kk⟩ := W.at w5 hl2 e3
            obtain ⟨p', vs, e5, hp, rp, _⟩ := w6.dK
            subst e5
            have ee : (valV vs k).isSome = (lookD (dkD es) (kD k)).isSome := by
              cases e4 : lookD (dkD es) (kD k) with
              | none => rw [rp.lookN e4]; rfl
              | some d =>
                obtain ⟨v, lv, _⟩ := rp.look e4
                rw [lv]; rfl
            refine ⟨_, g2, _, _, rfl, DGet.k hp, ?_⟩
            rw [ee]
            exact h hl2 _ _ _ (w5.more (.bl _))
          | _ => exact h.elim
    | _ => exact h.elim
theorem ev_inK (i : Nat) {x : Str} {px pos : Pos} {b : Expr} {fb : M Sl} (hu : X.A.units + 64 < cLine) (hb : Ev X E b fb) (hN : X.N[i]? = some x := by rfl) (hv : Vis X.env.scope x := by first | exact Or.inl rfl | exact Or.inr (Or.inl rfl) | exact Or.inr (Or.inr rfl))
    (hd : (x == ("__debug__" : Str)) = false := by decide) (hcd : (x == ("__classdict__" : Str)) = false := by decide) (hm : behindInMarks .In (.Name x px) = false := by rfl) : Ev X E (.Compare b [.In] [.Name x px] pos) (mHasK false fb i) := by
  obtain ⟨tb, pb, qb⟩ := hb
  refine ⟨_, pe_cmp (pc_din (by omega) pb (pe_var hN hv hd hcd)) hm, hasK_run i qb hN _ fun σ H Q h => ?_⟩
  unfold tDIn tVar
  simpa using h
theorem ev_ninK (i : Nat) {x : Str} {px pos : Pos} {b : Expr} {fb : M Sl} (hu : X.A.units + 64 < cLine) (hb : Ev X E b fb) (hN : X.N[i]? = some x := by rfl) (hv : Vis X.env.scope x := by first | exact Or.inl rfl | exact Or.inr (Or.inl rfl) | exact Or.inr (Or.inr rfl))
    (hd : (x == ("__debug__" : Str)) = false := by decide) (hcd : (x == ("__classdict__" : Str)) = false := by decide) (hm : behindInMarks .NotIn (.Name x px) = false := by rfl) : Ev X E (.Compare b [.NotIn] [.Name x px] pos) (mHasK true fb i) := by
  obtain ⟨tb, pb, qb⟩ := hb
  refine ⟨_, pe_cmp (pc_dnotin (by omega) pb (pe_var hN hv hd hcd)) hm, hasK_run i qb hN _ fun σ H Q h => ?_⟩
  unfold tDNotIn tVar
  simpa using h
theorem et_inK (i : Nat) {x : Str} {px pos : Pos} {b : Expr} {fb : M Sl} (hu : X.A.units + 64 < cLine) (hb : Ev X E b fb) (hN : X.N[i]? = some x := by rfl) (hv : Vis X.env.scope x := by first | exact Or.inl rfl | exact Or.inr (Or.inl rfl) | exact Or.inr (Or.inr rfl))
    (hd : (x == ("__debug__" : Str)) = false := by decide) (hcd : (x == ("__classdict__" : Str)) = false := by decide) (hm : behindInMarks .In (.Name x px) = false := by rfl) : EvT X E (.Compare b [.In] [.Name x px] pos) (mTst (mHasK false fb i)) := by
  obtain ⟨tb, pb, qb⟩ := hb
  have q : Run X E (tDIn tb (tVar i)) (mHasK false fb i) := hasK_run i qb hN _ fun σ H Q h => by
    unfold tDIn tVar
    simpa using h
  exact ⟨_, pt_cmp (pc_din (by omega) pb (pe_var hN hv hd hcd)) hm, fun B ts σ ρ F H Q hl w h => q B ts σ ρ F H _ hl w (post_tst h)⟩
theorem et_ninK (i : Nat) {x : Str} {px pos : Pos} {b : Expr} {fb : M Sl} (hu : X.A.units + 64 < cLine) (hb : Ev X E b fb) (hN : X.N[i]? = some x := by rfl) (hv : Vis X.env.scope x := by first | exact Or.inl rfl | exact Or.inr (Or.inl rfl) | exact Or.inr (Or.inr rfl))
    (hd : (x == ("__debug__" : Str)) = false := by decide) (hcd : (x == ("__classdict__" : Str)) = false := by decide) (hm : behindInMarks .NotIn (.Name x px) = false := by rfl) : EvT X E (.Compare b [.NotIn] [.Name x px] pos) (mTst (mHasK true fb i)) := by
  obtain ⟨tb, pb, qb⟩ := hb
  have q : Run X E (tDNotIn tb (tVar i)) (mHasK true fb i) := hasK_run i qb hN _ fun σ H Q h => by
    unfold tDNotIn tVar
    simpa using h
  exact ⟨_, pt_cmp (pc_dnotin (by omega) pb (pe_var hN hv hd hcd)) hm, fun B ts σ ρ F H Q hl w h => q B ts σ ρ F H _ hl w (post_tst h)⟩
/-! what is fresh is handed on as it is -/
def mArgF (fa : M Sl) (fr : M (List Sl)) : M (List Sl) := fun ρ => (fa ρ).bd fun ra ρ1 => (fr ρ1).bd fun rs ρ2 => .ok (ra :: rs) ρ2
theorem ea_fresh {e : Expr} {es : List Expr} {mv : List (Option Nat)} {fa : M Sl} {fr : M (List Sl)} (ha : Ev X E e fa) (hr : EvA X E es mv fr) (hs : starEach (e :: es) X.env = (false, eval e X.env) :: starEach es X.env := by rfl) : EvA X E (e :: es) (none :: mv) (mArgF fa fr) := by
  obtain ⟨ta, pa, qa⟩ := ha
  obtain ⟨tb, pb, qb⟩ := hr
  refine ⟨_, pa_cons pa pb hs, fun B ts σ ρ F H Q hl w h => ?_⟩
  refine qa B ts σ ρ F H _ hl w ?_
  unfold mArgF Rs.bd at h
  cases e1 : fa ρ with
  | bad => rw [e1] at h; exact h.elim
  | ex x ρ1 => rw [e1] at h; exact h
  | ok ra ρ1 =>
    rw [e1] at h
    intro hl1 v F1 H1 w1
    refine qb B ((some v, ra) :: ts) σ ρ1 F1 H1 _ hl1 w1 ?_
    simp only at h
    cases e2 : fr ρ1 with
    | bad => rw [e2] at h; exact h.elim
    | ex x ρ2 =>
      rw [e2] at h
      exact fun hl2 c dx F2 H2 w2 q => h hl2 c dx F2 H2 w2.tail q
    | ok rs ρ2 =>
      rw [e2] at h
      simp only at h
      intro hl2 vs F2 H2 hvs hmv hp w2
      refine h hl2 (v :: vs) F2 H2 (congrArg (· + 1) hvs) (congrArg (· + 1) hmv) (fun j i hj => ?_) (w2.perm List.perm_middle)
      cases j with
      | zero => simp at hj
      | succ j => exact hp j i (by simpa using hj)
end
end
end Fx

set_option Elab.async false
set_option linter.all false
set_option maxRecDepth 100000
namespace Fx
open PySem PySem.Spec PyProof.Rows L2
noncomputable section
/-! ### set(list of ints), with what its order rests on -/
abbrev bareSet (w : World) : Obj := { cls := .type "set", dict := none, data := .set #[] 0 (.fresh 0 0 (!w.params.followText "set-order")) }
section
variable {P : Program} {w : World} {A : Around} {E : Value → Shared → Prop} {s : Shared}
set_option maxHeartbeats 3200000 in
theorem set_listI {l : Addr} {its : Array Value} (zs : List Int) {Q : Value → Shared → Prop} (nh : A.handled = none) (il : s.heap.IsList l its) (ia : IntsAre its.toList zs) (sm : zs.length + 1 < scanBound)
    (fin : ∀ (g : Heap) (tk c : Nat), SetR w g s.heap.objs.size (fun j => decide (j ∈ zs)) c → c ≤ zs.length → (∀ b o, s.heap.get? b = some o → g.get? b = some o) → Q (.ref s.heap.objs.size) { s with heap := g, toks := tk }) :
    wpAny (model P w) A (call (.type "set") [.ref l]) Q E s := by
  have sz : its.size = zs.length := by have := ia.length; rwa [Array.length_toList] at this
  obtain ⟨mc, mt, mro⟩ := F.called_set.mro
  have m1 := F.called_set.made
  have m2 := F.called_set.sub
  have m3 := F.called_set.notType
  have m4 := F.called_set.canCreate
  have m5 := F.typeCall_set_1 (.ref l)
  refine wpAny_call (codeAny_of_tree (show wpAny _ _ (callAny (.type "set") _) _ _ _ from wpAny_pure ⟨Code.quiet_builtin _ (by decide +kernel), codeAny_builtin F.entry_type_call ?_⟩))
  rw [Around.under_plain (weight_type_call_type "set" [.ref l] []) rfl]; repeat (any_goals (first | assumption | wp_step))
  let g0 : Heap := s.heap.push (bareSet w)
  have at0 : g0.get? s.heap.objs.size = some (bareSet w) := Heap.get?_push_size _ rfl
  refine codeAny_mono (code_set_led1 (.ref l) (E := E) (Q₁ := fun v t => v = .ref s.heap.objs.size ∧ t = { s with heap := g0 }) ⟨rfl, rfl⟩) fun res t ht => ?_
  cases res with
  | error e => exact ht
  | ok fl =>
    cases fl with
    | ret v =>
      obtain ⟨rfl, rfl⟩ := ht
      have ty : Shared.TypeIs { s with heap := g0 } (.ref s.heap.objs.size) "set" := ⟨_, at0, rfl⟩
      have n1 := F.called_set.init.lookup
      have n2 := F.called_set.init.bind (.ref s.heap.objs.size)
      repeat (any_goals (first | assumption | wp_step))
      refine codeAny_mono (codeAny_call_builtin (R := wants (fun r u => r = .none ∧ ∃ g tk c, u = { s with heap := g, toks := tk } ∧ SetR w g s.heap.objs.size (fun j => decide (j ∈ zs)) c ∧ c ≤ zs.length ∧ ∀ b o, s.heap.get? b = some o → g.get? b = some o) E) F.called_set.init.plain F.entry_set_init (check_set_init_1 ty ?_)) fun res2 u hu => ?_
      · obtain ⟨⟨c1, c2, c3, c4⟩, ol, e1, nl, e2⟩ := il
        simp only at e1 e2
        subst e1 e2
        have ll : g0.get? l = some { cls := .type "list", dict := c2, data := .seq its nl, slots := c4 } := Heap.get?_push_of_some _ ol
        have f1 := F.sub_list_set
        have f2 := F.sub_list_frozenset
        have f3 : (Value.type "list" == Value.type "dict") = false := by decide
        have il0 : g0.IsList l its := ⟨_, ll, rfl, nl, rfl⟩
        unfold Builtin.«set.__init__» noKeywords Builtin.Frozenset.updateFrom; generalize hy : pyIter = yy; wp_walk
        subst hy; refine wpAny_pyIter_list il0 (wpAny_bind (wpAny_runValue ?_))
        have lS : l < s.heap.objs.size := Heap.lt_size ol
        have size0 : g0.objs.size = s.heap.objs.size + 1 := Heap.size_push ..
        have far : l ≠ g0.objs.size := by rw [size0]; exact Nat.ne_of_lt (Nat.lt_succ_of_lt lS)
        have out : s.heap.objs.size ∉ [g0.objs.size, l] := by
          rw [size0]; simp only [List.mem_cons, List.not_mem_nil, or_false, not_or]; exact And.intro (Nat.ne_of_lt (Nat.lt_succ_self _)) (Nat.ne_of_gt lS)
        have vals : ∀ (i : Nat) (v : Value), its[i]? = some v → ∃ k t, zs[i]? = some k ∧ v = .int k t := fun i v hv => by
          have lt : i < zs.length := by rw [← sz]; exact (Array.getElem?_eq_some_iff.mp hv).1
          obtain ⟨t, e⟩ := PyProof.Rows.IntsAre.int_at ia i v (by rw [Array.getElem?_toList]; exact hv)
          exact ⟨zs[i], t, List.getElem?_eq_getElem lt, by rw [e, List.getD_eq_getElem?_getD, List.getElem?_eq_getElem lt]; rfl⟩
        refine set_update_ints ((Walks.list (by simp [nh] : A.in1.in1.in1.handled = none) _ l far its).toS) s.heap.objs.size out zs sz sm vals (its.size - 0) 0 _ (by omega) (Nat.zero_le _) ⟨⟨_, Heap.get?_push_size _ rfl, rfl, rfl⟩, il0.push _⟩ ⟨0, Nat.le_refl 0, setR_new_at (Heap.get?_push_of_some _ at0)⟩ fun t c mv cl R => ?_
        obtain ⟨g, gg, dr, tk, os⟩ := t
        cases (show gg = s.gens from mv.gens); cases (show dr = s.drawn from mv.drawn); cases (show os = s.os from mv.os)
        rw [sz] at cl
        refine wpAny_pure (show wpAny _ _ (ret Value.none) _ _ _ from wpAny_pure ⟨rfl, g, tk, c, rfl, R, cl, fun b o e => ?_⟩)
        have lb : b < s.heap.objs.size := Heap.lt_size e
        refine mv.heap b o ?_ (Heap.get?_push_of_some _ (Heap.get?_push_of_some _ e))
        show b ∉ [s.heap.objs.size, g0.objs.size]
        rw [size0]; simp only [List.mem_cons, List.not_mem_nil, or_false, not_or]; exact And.intro (Nat.ne_of_lt lb) (Nat.ne_of_lt (Nat.lt_succ_of_lt lb))
      · cases res2 with
        | error e => exact hu
        | ok fl2 =>
          cases fl2 with
          | ret r =>
            obtain ⟨rfl, g, tk, c, rfl, R, cl, kp⟩ := hu
            repeat (any_goals (first | assumption | wp_step))
            exact fin _ _ _ R cl kp
          | _ => exact hu.elim
    | _ => exact ht.elim
end
/-! ### the numbers of a list, rising, each once -/
def insU (x : Int) : List Int → List Int
  | [] => [x]
  | y :: l => if x < y then x :: y :: l else if x = y then y :: l else y :: insU x l
def sortU : List Int → List Int
  | [] => []
  | x :: l => insU x (sortU l)
theorem insU_mem {x z : Int} : ∀ {l : List Int}, z ∈ insU x l ↔ z = x ∨ z ∈ l
  | [] => by simp [insU]
  | y :: l => by
    unfold insU
    split
    · simp
    · split
      · rename_i h
        subst h
        simp
      · rw [List.mem_cons, insU_mem, List.mem_cons]
        constructor
        · rintro (h | h | h)
          · exact .inr (.inl h)
          · exact .inl h
          · exact .inr (.inr h)
        · rintro (h | h | h)
          · exact .inr (.inl h)
          · exact .inl h
          · exact .inr (.inr h)
theorem insU_pw {x : Int} : ∀ {l : List Int}, l.Pairwise (· < ·) → (insU x l).Pairwise (· < ·)
  | [], _ => List.pairwise_singleton ..
  | y :: l, h => by
    have hc := List.pairwise_cons.mp h
    unfold insU
    split
    · rename_i q
      refine List.pairwise_cons.mpr ⟨fun z hz => ?_, h⟩
      rcases List.mem_cons.mp hz with e | e
      · omega
      · have := hc.1 z e
        omega
    · split
      · exact h
      · refine List.pairwise_cons.mpr ⟨fun z hz => ?_, insU_pw hc.2⟩
        rcases insU_mem.mp hz with e | e
        · omega
        · exact hc.1 z e
theorem sortU_mem {z : Int} : ∀ {l : List Int}, z ∈ sortU l ↔ z ∈ l
  | [] => Iff.rfl
  | x :: l => by
    show z ∈ insU x (sortU l) ↔ _
    rw [insU_mem, sortU_mem, List.mem_cons]
theorem insU_len {x : Int} : ∀ l : List Int, (insU x l).length ≤ l.length + 1
  | [] => Nat.le_refl _
  | y :: l => by
    have := insU_len (x := x) l
    unfold insU
    split
    · exact Nat.le_refl _
    · split
      · exact Nat.le_succ _
      · rw [List.length_cons, List.length_cons]; omega
theorem sortU_len : ∀ l : List Int, (sortU l).length ≤ l.length
  | [] => Nat.le_refl _
  | x :: l => Nat.le_trans (insU_len _) (Nat.succ_le_succ (sortU_len l))
theorem sortU_pw : ∀ l : List Int, (sortU l).Pairwise (· < ·)
  | [] => .nil
  | x :: l => insU_pw (sortU_pw l)
theorem rising_eq {l m : List Int} (hl : l.Pairwise (· < ·)) (hm : m.Pairwise (· < ·)) (h : ∀ z, z ∈ l ↔ z ∈ m) : l = m := by
  have nd : ∀ {k : List Int}, k.Pairwise (· < ·) → k.Nodup := fun q => q.imp fun {a b} r e => by omega
  refine List.Perm.eq_of_pairwise (le := (· < ·)) (fun a b _ _ h1 h2 => ?_) hl hm ((List.perm_ext_iff_of_nodup (nd hl) (nd hm)).mpr h)
  exact absurd h2 (by omega)
/-! ### sorted(set(ints)) -/
def tSortSet (K : Fg) : V → Hp → VK → Prop := fun x H1 Q => ∃ (l : Addr) (ns : List Int), x = .ref l ∧ (SqL K H1 l (ns.map V.int) ∨ SqT K H1 l (ns.map V.int)) ∧ ns.length ≤ 60 ∧ ∀ p, H1 p = none → Q (.ref p) (upd H1 p (.lst ((sortU ns).map V.int)))
section
variable {X : Cx} {E : XK}
theorem pe_sortSet {a : Expr} {ta : TE} {p p2 q pos : Pos} (hg : Gl X "sorted") (hm : X.mg "sorted" = none) (hg2 : Gl X "set") (hm2 : X.mg "set" = none) (ha : PE X a ta) (hc : X.calm = true := by rfl)
    (na : starEach [a] X.env = (false, eval a X.env) :: starEach [] X.env := by rfl) : PE X (.Call (.Name "sorted" p) [.Call (.Name "set" p2) [a] [] q] [] pos) (tUn (tSortSet X.K) ta) := by
  refine ⟨fun pins s σ H Q I h => ?_⟩
  refine Call_ (ld_blt I hg hm boot_sorted ?_)
  refine PyProof.Rows.callWith_builtin1 (PyProof.Rows.args_cons ?_ rfl) rfl rfl
  refine Call_ (ld_blt I hg2 hm2 boot_set ?_)
  refine PyProof.Rows.callWith_type1 (PyProof.Rows.args_cons (thn (ha.run pins s σ H _ I h) fun v s1 ⟨x, H1, I1, r1, q1⟩ => PyProof.Rows.args_nil ?_) na) na rfl
  obtain ⟨l, ns, rfl, hq, hl, q1⟩ := q1
  cases r1
  have go : ∀ (g : Heap) (tk c : Nat), SetR X.w g s1.heap.objs.size (fun j => decide (j ∈ ns)) c → c ≤ ns.length → (∀ b o, s1.heap.get? b = some o → g.get? b = some o) →
      wpAny (model X.prog X.w) X.A (call (.builtin "sorted") [.ref s1.heap.objs.size]) (fun v s' => ∃ x H', Inv X pins σ H' s' ∧ RelV x v ∧ Q x H') X.xe { s1 with heap := g, toks := tk } := fun g tk c R cl kp => by
    have I2 : Inv X pins σ H1 { s1 with heap := g, toks := tk } := I1.kept fun b o e => kp b o e
    refine L2.sorted_set R (I2.ok.hd hc) (by omega) fun t b out k zs k1 k2 k3 nb at1 ii pw me _ => ?_
    have ez : zs = sortU ns := rising_eq pw (sortU_pw ns) fun z => by rw [me z, sortU_mem, decide_eq_true_eq]
    subst ez
    have small : ((sortU ns).map V.int).length ≤ sizeLine := by
      rw [List.length_map, sizeLine_eq]
      have := sortU_len ns
      omega
    have none1 : H1 b = none := I2.hok.fresh nb
    have J : Inv X pins σ (upd H1 b (.lst ((sortU ns).map V.int))) { ({ s1 with heap := g, toks := tk } : Shared) with heap := t.heap, gens := t.gens, drawn := t.drawn, toks := t.toks } :=
      I2.call (ch := []) (Un.laid k1 nb none1) (I2.hok.laid k1 nb ⟨small, out.toList, k, vals_of_ints ii, at1⟩) (by rw [k2]; exact I2.bare) (fun _ z => nomatch z)
    have et : t = { ({ s1 with heap := g, toks := tk } : Shared) with heap := t.heap, gens := t.gens, drawn := t.drawn, toks := t.toks } := by
      cases t; cases s1; cases k3; rfl
    rw [et]
    exact ⟨.ref b, _, J, rfl, q1 b none1⟩
  rcases hq with hq | hq
  · obtain ⟨its, r, pl, hz⟩ := I1.list hq
    exact set_listI ns (I1.ok.hd hc) pl.isList (by simpa using RZ.intsAre_vals r) (by unfold scanBound; omega) fun g tk c R cl kp => PyProof.Rows.args_nil (go g tk c R cl kp)
  · obtain ⟨its, r, pl, hz⟩ := I1.tuple hq
    exact L2.call_set_tupI ns (I1.ok.hd hc) pl (by simpa using RZ.intsAre_vals r) (by unfold scanBound; omega) fun g tk c R cl kp => PyProof.Rows.args_nil (go g tk c R cl kp)
def gSortSet (a : D) : Option Sl := match a with
  | .list es => match intL? es with
    | some ns => if tru (ns.length ≤ 60) = true then some (.lst ((sortU ns).map .int)) else none
    | none => none
  | .tuple es => match intL? es with
    | some ns => if tru (ns.length ≤ 60) = true then some (.lst ((sortU ns).map .int)) else none
    | none => none
  | _ => none
theorem ul_sortSet : UnL X (tSortSet X.K) gSortSet := by
  intro B l F H v a rc Q w r hg q
  unfold gSortSet at hg
  split at hg
  · rename_i es
    cases e : intL? es with
    | none => rw [e] at hg; cases hg
    | some ns =>
      rw [e] at hg
      simp only at hg
      by_cases h : tru (ns.length ≤ 60) = true
      · rw [if_pos h] at hg
        cases hg
        cases r with
        | lst h1 r1 =>
          obtain ⟨a, _⟩ := intL_of e r1
          subst a
          exact ⟨_, ns, rfl, .inl (SqL.of (w.fh _ _ h1)), tru_iff.mp h, fun p hp => q _ _ _ (w.new_lst (rpl_ints _) hp)⟩
      · rw [if_neg h] at hg; cases hg
  · rename_i es
    cases e : intL? es with
    | none => rw [e] at hg; cases hg
    | some ns =>
      rw [e] at hg
      simp only at hg
      by_cases h : tru (ns.length ≤ 60) = true
      · rw [if_pos h] at hg
        cases hg
        cases r with
        | tup h1 r1 =>
          obtain ⟨a, _⟩ := intL_of e r1
          subst a
          exact ⟨_, ns, rfl, .inr (SqT.of (w.fh _ _ h1)), tru_iff.mp h, fun p hp => q _ _ _ (w.new_lst (rpl_ints _) hp)⟩
      · rw [if_neg h] at hg; cases hg
  · cases hg
theorem ev_sortSet {a : Expr} {fa : M Sl} {p p2 q pos : Pos} (hm : X.mg "sorted" = none) (hm2 : X.mg "set" = none) (ha : Ev X E a fa) (hg : Gl X "sorted" := by rfl) (hg2 : Gl X "set" := by rfl) (hc : X.calm = true := by rfl)
    (na : starEach [a] X.env = (false, eval a X.env) :: starEach [] X.env := by rfl) : Ev X E (.Call (.Name "sorted" p) [.Call (.Name "set" p2) [a] [] q] [] pos) (mUn gSortSet fa) :=
  ev_one (r := tSortSet X.K) ul_sortSet ha fun pa => pe_sortSet hg hm hg2 hm2 pa hc na
end
end
end Fx

set_option Elab.async false
set_option linter.all false
set_option maxRecDepth 100000
namespace Fx
open PySem PySem.Spec PyProof.Rows L2
noncomputable section
/-! ### t[::-1] of a tuple -/
section
variable {prog : Program} {w : World} {A : Around} {E : Value → Shared → Prop} {s : Shared}
theorem places_rev (n : Nat) : Builtin.Slice.slicePlaces ((n : Int) - 1) (-1) (-1) = n := by
  unfold Builtin.Slice.slicePlaces
  rw [if_neg (by decide)]
  by_cases h : (n : Int) - 1 > -1
  · rw [if_pos h, show (- -1 : Int) = 1 by decide, Int.ediv_one]; omega
  · rw [if_neg h]; omega
theorem applied_rev {sl : Addr} {vl vu vs : Value} {n : Nat} {Q : Int × Int × Nat → Shared → Prop} (is : s.heap.IsSliceOf sl vl vu vs) (p1 : IsPart vl none) (p2 : IsPart vu none) (p3 : IsPart vs (some (-1)))
    (h : Q ((n : Int) - 1, -1, n) s) : wpAny (model prog w) A (Builtin.Slice.sliceApplied (.ref sl) (pure (n : Int))) Q E s := by
  obtain ⟨os, g1, g2, g3⟩ := id is
  unfold Builtin.Slice.sliceApplied Builtin.Slice.sliceFields
  refine wpAny_bind (wpAny_bind (wpAny_field g1 g3 (x := vl) rfl (wpAny_bind (wpAny_field g1 g3 (x := vu) rfl (wpAny_bind (wpAny_field g1 g3 (x := vs) rfl (wpAny_pure ?_)))))))
  refine wpAny_bind (HT.slicePart_ p3 (show wpAny _ _ (if ((-1 : Int) == 0) = true then _ else _) _ _ s from ?_))
  rw [if_neg (by decide)]; refine wpAny_bind (HT.slicePart_ p1 (wpAny_bind (HT.slicePart_ p2 (wpAny_bind (wpAny_pure ?_)))))
  show wpAny _ _ (pure ((n : Int) - 1, (-1 : Int), Builtin.Slice.slicePlaces ((n : Int) - 1) (-1) (-1))) _ _ s
  rw [places_rev]; exact wpAny_pure h
theorem pick_rev (xs : Array Value) : ((List.range xs.size).filterMap fun (m : Nat) => xs[((xs.size : Int) - 1 + (m : Int) * -1).toNat]?).toArray = xs.toList.reverse.toArray := by
  have e : (fun (m : Nat) => xs[((xs.size : Int) - 1 + (m : Int) * -1).toNat]?) = fun m => xs[xs.size - 1 - m]? := by
    funext m
    rw [show ((xs.size : Int) - 1 + (m : Int) * -1).toNat = xs.size - 1 - m by omega]
  have q := PySem.W.krv_pick xs
  unfold slicePick at q
  rw [PySem.W.krv_bounds] at q
  have q2 : ((sliceRange ((xs.size : Int) - 1) (-1) (-1)).filterMap (xs[·]?)).toArray = xs.toList.reverse.toArray := q
  rw [PySem.W.krv_sliceRange, List.filterMap_map] at q2
  rw [e]
  exact q2
theorem getItem_tuple_rev {t sl : Addr} {its : Array Value} {vl vu vs : Value} {Q : Value → Shared → Prop} (it : IsTup s.heap t its) (is : s.heap.IsSliceOf sl vl vu vs) (p1 : IsPart vl none) (p2 : IsPart vu none) (p3 : IsPart vs (some (-1)))
    (h : Q (.ref s.heap.objs.size) { s with heap := s.heap.push { cls := .type "tuple", data := .seq its.toList.reverse.toArray } }) (sz : its.size ≤ sizeLine) : wpAny (model prog w) A (getItem (.ref t) (.ref sl)) Q E s := by
  have ok : sizeOk (.seq its.toList.reverse.toArray) := by
    show its.toList.reverse.toArray.size ≤ sizeLine
    rw [List.size_toArray, List.length_reverse, Array.length_toList]; exact sz
  obtain ⟨os, g1, g2, g3⟩ := id is
  have ty : s.TypeIs (.ref sl) "slice" := ⟨os, g1, g2⟩
  unfold getItem; try with_reducible refine wpAny_holding ?_
  first | refine wpAny_bind (wpAny_pure ?_) | skip
  refine wpAny_bind (wpAny_sequenceKey it.typeIs (by decide) (wpAny_bind (wpAny_callSpecial?_slot (name := Str.ofString "__getitem__") it.typeIs PyProof.Rows.slot_tuple_getitem (wpAny_call_entry PyProof.Rows.slot_tuple_getitem it.typeIs entry_tuple_getitem ?_ (args_tuple_getitem _ _)))))
  refine (show wpAny _ _ (Builtin.Tuple.tupleItemsOf (.ref t) >>= _) _ _ s from wpAny_bind (tupleItemsOf_ it (wpAny_bind (wpAny_typeOf ty ?_))))
  rw [if_pos (by decide)]; refine wpAny_bind (applied_rev is p1 p2 p3 ?_)
  have no : ¬ ((((its.size : Int) - 1) == 0 && (-1 : Int) == 1 && its.size == its.size) = true) := by
    rw [show ((-1 : Int) == 1) = false from rfl, Bool.and_false, Bool.false_and]; exact Bool.false_ne_true
  show wpAny _ _ (if (((its.size : Int) - 1) == 0 && (-1 : Int) == 1 && its.size == its.size) = true then _ else _) _ _ s
  rw [if_neg no, pick_rev]
  first
    | exact wpAny_bind (m := Builtin.Tuple.tupleExact _) (wpAny_newObj_type (wpAny_pure (show _ from ⟨_, rfl, wpAny_pure h⟩)) ok)
    | exact wpAny_bind (m := Builtin.Tuple.tupleExact _) (wpAny_newObj_type (wpAny_bind (wpAny_pure (wpAny_pure (show _ from ⟨_, rfl, wpAny_pure h⟩)))) ok)
    | exact wpAny_bind (wpAny_bind (m := Builtin.Tuple.tupleExact _) (wpAny_newObj_type (wpAny_pure (wpAny_pure (show _ from ⟨_, rfl, wpAny_pure h⟩))) ok))
    | exact wpAny_bind (wpAny_bind (m := Builtin.Tuple.tupleExact _) (wpAny_newObj_type (wpAny_pure (show _ from ⟨_, rfl, wpAny_pure h⟩)) ok))
end
section
variable {X : Cx} {E : XK}
def kRevT (K : Fg) : V → Hp → VK → Prop := fun x H Q => ∃ a xs, x = .ref a ∧ SqT K H a xs ∧ ∀ p, H p = none → Q (.ref p) (upd H p (.tup xs.reverse))
theorem pe_revT {e : Expr} {te : TE} {k : Nat} {p1 p2 p3 pos : Pos} (he : PE X e te) : PE X (.Subscript e (.Slice none none (some (.UnaryOp .USub (.Constant (.int 1) k p1) p2)) p3) pos) (tUn (kRevT X.K) te) := by
  refine ⟨fun pins s σ H Q I h => Subscript_ (thn (he.run pins s σ H _ I h) fun v s1 ⟨x, H1, I1, r1, q1⟩ => ?_)⟩
  obtain ⟨a, xs, ex, hx, q⟩ := q1
  subst ex; cases r1
  have st : PO X (some (.UnaryOp .USub (.Constant (.int 1) k p1) p2)) (tPart (tUn (rU fun i => .int (-i)) (tC (.int 1)))) := po_some (pe_un un_neg pe_int)
  refine wpAny_Slice (thn (po_none.run pins s1 σ H1 (fun o H2 => o = none ∧ H2 = H1) I1 ⟨rfl, rfl⟩) fun vl s2 ⟨l, H2, I2, w1, a1, a2⟩ => ?_)
  subst a1 a2; refine thn (po_none.run pins s2 σ H2 (fun o H3 => o = none ∧ H3 = H2) I2 ⟨rfl, rfl⟩) fun vu s3 ⟨u, H3, I3, w2, b1, b2⟩ => ?_
  subst b1 b2; refine thn (st.run pins s3 σ H3 (fun o H4 => o = some (-1) ∧ H4 = H3) I3 ⟨1, rfl, -1, rfl, rfl, rfl⟩) fun vs s4 ⟨o, H4, I4, w3, c1, c2⟩ => ?_
  subst c1 c2; have I5 : Inv X pins σ H4 { s4 with heap := s4.heap.push { cls := .type "slice", data := .fields #[vl, vu, vs] } } := I4.kept (t' := s4.toks) fun b ob z => Heap.get?_push_of_some _ z
  obtain ⟨its, r, it, hz⟩ := I5.tuple hx
  have len := r.length
  refine (show wpAny (model X.prog X.w) X.A (subscriptTail e (.Slice none none (some (.UnaryOp .USub (.Constant (.int 1) k p1) p2)) p3) (.ref a) (.ref s4.heap.objs.size)) (EP X pins σ Q) X.xe { s4 with heap := s4.heap.push { cls := .type "slice", data := .fields #[vl, vu, vs] } } from ?_)
  refine tail_any (ops := [.ref a, .ref s4.heap.objs.size]) (IsTup.typeIs it) (PyProof.Rows.slot_tuple_getitem.lookup) ?_ (by with_unfolding_all rfl)
  refine getItem_tuple_rev it (Heap.IsSliceOf.new _ vl vu vs) w1 w2 w3 ?_ (by rw [List.size_toArray]; omega)
  exact ⟨.ref _, _, I5.laid (t' := s4.toks) (o := .tup xs.reverse) (fun b ob z => Heap.get?_push_of_some _ z) (Nat.le_refl _) ⟨by rw [List.length_reverse]; exact hz, _, r.reverse, ⟨_, Heap.get?_push_size _ rfl, rfl, 0, rfl⟩⟩, rfl, q _ (I5.hok.fresh (Nat.le_refl _))⟩
def gRevT (a : D) : Option Sl := match a with
  | .tuple es => some (.val (.tuple es.reverse))
  | _ => none
theorem ul_revT : UnL X (kRevT X.K) gRevT := by
  intro B l F H v a rc Q w r hg q
  unfold gRevT at hg
  split at hg
  · cases hg
    cases r with
    | tup h1 r1 => exact ⟨_, _, rfl, Same.tq w.fh h1, fun p hp => q _ _ _ (w.new_tup r1.rev hp)⟩
  · cases hg
theorem ev_revT {a : Expr} {fa : M Sl} {k : Nat} {p1 p2 p3 pos : Pos} (ha : Ev X E a fa) : Ev X E (.Subscript a (.Slice none none (some (.UnaryOp .USub (.Constant (.int 1) k p1) p2)) p3) pos) (mUn gRevT fa) :=
  ev_one (r := kRevT X.K) ul_revT ha fun pa => pe_revT pa
end
end
end Fx

set_option Elab.async false
set_option linter.all false
set_option maxRecDepth 100000
namespace Fx
open PySem PySem.Spec PyProof.Rows L2
noncomputable section
section
variable {X : Cx} {E : XK}
/-! ### a statement that is never reached -/
theorem ss_never {pn : List Nat} {st : Stmt} : Ss X E pn st (fun _ => .bad) := ⟨fun _ _ _ => False, ⟨fun _ _ _ _ _ _ h => h.elim⟩, fun B ts σ ρ F H D hl w h => h⟩
/-! ### sorted(d), d with numbers for keys -/
def dInts : List (D × D) → Option (List Int)
  | [] => some []
  | (.int i, _) :: r => match dInts r with
    | some ns => some (i :: ns)
    | none => none
  | _ :: _ => none
def sortI (ns : List Int) : List Int := ns.mergeSort fun a b => decide (a ≤ b)
def gSortK : List D → Option Sl
  | [.dict es] => match dInts es with
    | some ns => if tru (ns.length < 64) = true then some (.lst ((sortI ns).map .int)) else none
    | none => none
  | _ => none
theorem dInts_keys {K : Fg} {F : Hp} : ∀ {xs : List (Key × V)} {ds : List (Key × D)} {ns : List Int}, RpK K F xs ds → dInts (ds.map fun p => (kD p.1, p.2)) = some ns → xs.map (·.1) = ns.map Sum.inl
  | _, _, ns, .nil, h => by cases h; rfl
  | _, _, ns, .cons (k := k) (vs := vs) (ds := ds) h t, e => by
    rw [List.map_cons] at e
    cases k with
    | inr x => cases e
    | inl i =>
      have e' : (match dInts (ds.map fun p => (kD p.1, p.2)) with | some ns => some (i :: ns) | none => none) = some ns := e
      cases q : dInts (ds.map fun p => (kD p.1, p.2)) with
      | none => rw [q] at e'; cases e'
      | some ms =>
        rw [q] at e'
        cases e'
        rw [List.map_cons, List.map_cons, dInts_keys t q]
theorem sortI_eq {ns ys : List Int} (p : ys.Perm ns) (h : ys.Pairwise (· ≤ ·)) : ys = sortI ns := by
  have q : (sortI ns).Pairwise (· ≤ ·) := (List.pairwise_mergeSort (fun a b c h1 h2 => by simp at *; omega) (fun a b => by simp; omega) ns).imp fun {a b} h => by simpa using h
  exact List.Perm.eq_of_pairwise (fun a b _ _ h1 h2 => by omega) h q (p.trans (List.mergeSort_perm ns _).symm)
theorem cl_sortK (X : Cx) : CallL X (fun xs H Q => ∃ (a : Addr) (kvs : List (Key × V)) (ks : List Int), xs = [.ref a] ∧ Rd H a (.dK kvs) ∧ kvs.map (·.1) = ks.map Sum.inl ∧ ks.length < 64 ∧ ∀ (ys : List Int) (p : Addr), ys.Perm ks → ys.Pairwise (· ≤ ·) → H p = none → Q (.ref p) (upd H p (.lst (ys.map V.int)))) gSortK := by
  intro B l F H vs ds rc Q w r hg q
  unfold gSortK at hg
  split at hg
  · rename_i es
    cases e : dInts es with
    | none => rw [e] at hg; cases hg
    | some ns =>
      rw [e] at hg
      simp only at hg
      by_cases h : tru (ns.length < 64) = true
      · rw [if_pos h] at hg
        cases hg
        cases r with
        | cons r0 t =>
          cases t
          cases r0 with
          | dK h1 r1 =>
            refine ⟨_, _, ns, rfl, Same.rd w.fh h1, dInts_keys r1 e, tru_iff.mp h, fun ys p py pw hp => ?_⟩
            rw [sortI_eq py pw]
            exact q _ _ _ (w.new_lst (rpl_ints _) hp)
      · rw [if_neg h] at hg; cases hg
  · cases hg
end
end
end Fx

set_option Elab.async false
set_option linter.all false
set_option maxRecDepth 100000
namespace Fx
open PySem L2
noncomputable section
/-! ### typed results -/
inductive R (α : Type) where
  | ok (a : α)
  | ex (e : Exn)
  | bad
inductive Out (σ τ : Type) where
  | nx (s : σ)
  | rt (r : τ)
section
variable {α β γ δ σ τ : Type}
def R.bind (p : R α) (k : α → R β) : R β := match p with
  | .ok a => k a
  | .ex e => .ex e
  | .bad => .bad
@[simp] theorem R.bind_ok (a : α) (k : α → R β) : (R.ok a).bind k = k a := rfl
@[simp] theorem R.bind_ex (e : Exn) (k : α → R β) : (R.ex e).bind k = .ex e := rfl
@[simp] theorem R.bind_bad (k : α → R β) : (R.bad).bind k = .bad := rfl
@[simp] theorem R.bind_assoc (p : R α) (k : α → R β) (l : β → R γ) : (p.bind k).bind l = p.bind fun a => (k a).bind l := by cases p <;> rfl
@[simp] theorem R.bind_id (p : R α) : (p.bind fun a => .ok a) = p := by cases p <;> rfl
def Out.go (o : Out σ τ) (f : σ → R β) (g : τ → R β) : R β := match o with
  | .nx s => f s
  | .rt r => g r
@[simp] theorem Out.go_nx (s : σ) (f : σ → R β) (g : τ → R β) : (Out.nx s).go f g = f s := rfl
@[simp] theorem Out.go_rt (r : τ) (f : σ → R β) (g : τ → R β) : (Out.rt r).go f g = g r := rfl
def R.ofO : Option α → R α
  | some a => .ok a
  | none => .bad
@[simp] theorem R.ofO_some (a : α) : R.ofO (some a) = .ok a := rfl
def foldR (f : α → σ → R σ) : List α → σ → R σ
  | [], s => .ok s
  | a :: l, s => (f a s).bind (foldR f l)
def loopR (f : α → σ → R (Out σ τ)) : List α → σ → R (Out σ τ)
  | [], s => .ok (.nx s)
  | a :: l, s => (f a s).bind fun o => o.go (loopR f l) fun r => .ok (.rt r)
/-- what is left of a comprehension's item: no exception -/
def R.calm (p : R α) : R α := match p with
  | .ex _ => .bad
  | p => p
@[simp] theorem R.calm_ok (a : α) : (R.ok a).calm = .ok a := rfl
def compR (t : α → R Bool) (f : α → R β) : List α → List β → R (List β)
  | [], acc => .ok acc
  | a :: l, acc => (t a).calm.bind fun b => if b = true then (f a).calm.bind fun y => if szOk (acc.length + 1) = true then compR t f l (acc ++ [y]) else .bad else compR t f l acc
def compS (t : α → σ → R Bool) (f : α → σ → R (β × σ)) : List α → List β → σ → R (List β × σ)
  | [], acc, s => .ok (acc, s)
  | a :: l, acc, s => (t a s).calm.bind fun b => if b = true then (f a s).calm.bind fun y => if szOk (acc.length + 1) = true then compS t f l (acc ++ [y.1]) y.2 else .bad else compS t f l acc s
end

/-! ### what is known of the slots -/
inductive Cell where
  | any
  | dat (d : D)
  | own (s : Sl)
def Cell.ok : Cell → Sl → Prop
  | .any, _ => True
  | .dat d, s => s.d? = some d
  | .own s', s => s = s'
inductive Rel : List Cell → Env → Prop
  | nil {ρ : Env} : Rel [] ρ
  | cons {c : Cell} {s : Sl} {Γ : List Cell} {ρ : Env} : c.ok s → Rel Γ ρ → Rel (c :: Γ) (s :: ρ)
inductive Wc : List Cell → List Cell → Prop
  | nil {Γ : List Cell} : Wc Γ []
  | any {c : Cell} {Γ Δ : List Cell} : Wc Γ Δ → Wc (c :: Γ) (.any :: Δ)
  | keep {c : Cell} {Γ Δ : List Cell} : Wc Γ Δ → Wc (c :: Γ) (c :: Δ)
  | frz {s : Sl} {d : D} {Γ Δ : List Cell} : s.d? = some d → Wc Γ Δ → Wc (.own s :: Γ) (.dat d :: Δ)
theorem Wc.refl : ∀ Γ : List Cell, Wc Γ Γ
  | [] => .nil
  | _ :: Γ => .keep (Wc.refl Γ)
theorem Rel.wk : ∀ {Γ Δ : List Cell} {ρ : Env}, Rel Γ ρ → Wc Γ Δ → Rel Δ ρ
  | _, _, _, _, .nil => .nil
  | _, _, _, .cons _ t, .any w => .cons trivial (t.wk w)
  | _, _, _, .cons h t, .keep w => .cons h (t.wk w)
  | _, _, _, .cons h t, .frz e w => .cons (by
      have h' := h
      unfold Cell.ok at h' ⊢
      rw [h']; exact e) (t.wk w)
theorem Rel.get : ∀ {Γ : List Cell} {ρ : Env} {i : Nat} {c : Cell}, Rel Γ ρ → Γ[i]? = some c → ∃ s, ρ[i]? = some s ∧ c.ok s
  | _, _, _, _, .nil, e => by simp at e
  | _, _, 0, _, .cons h _, e => by simp at e; subst e; exact ⟨_, rfl, h⟩
  | _, _, i + 1, c, .cons _ t, e => by
    obtain ⟨s, a, b⟩ := Rel.get (i := i) (c := c) t (by simpa using e)
    exact ⟨s, by simpa using a, b⟩
theorem Rel.set : ∀ {Γ : List Cell} {ρ : Env} {i : Nat} {c : Cell} {s : Sl}, Rel Γ ρ → c.ok s → Rel (Γ.set i c) (ρ.set i s)
  | _, _, _, _, _, .nil, _ => .nil
  | _, _, 0, _, _, .cons _ t, k => .cons k t
  | _, _, i + 1, _, _, .cons h t, k => .cons h (Rel.set t k)
/-- the slot is put, the cell stays -/
theorem Rel.put : ∀ {Γ : List Cell} {ρ : Env} {i : Nat} {c : Cell} {s : Sl}, Rel Γ ρ → Γ[i]? = some c → c.ok s → Rel Γ (ρ.set i s)
  | _, _, _, _, _, .nil, e, _ => by simp at e
  | _, _, 0, _, _, .cons _ t, e, k => by simp at e; subst e; exact .cons k t
  | _, _, i + 1, _, _, .cons h t, e, k => .cons h (Rel.put t (by simpa using e) k)
theorem Rel.app : ∀ {Γ : List Cell} {ρ : Env} (ρ' : Env), Rel Γ ρ → Rel Γ (ρ ++ ρ')
  | _, _, _, .nil => .nil
  | _, _, ρ', .cons h t => .cons h (t.app ρ')
def wipeC (Γ : List Cell) : List Nat → List Cell
  | [] => Γ
  | v :: vs => (wipeC Γ vs).set v .any
theorem Rel.wipe {Γ : List Cell} {ρ : Env} (h : Rel Γ ρ) : ∀ vs : List Nat, Rel (wipeC Γ vs) (wipeS ρ vs)
  | [] => h
  | v :: vs => by
    unfold wipeC wipeS
    exact (h.wipe vs).set trivial

/-! ### the judgements -/
section
variable {α β γ δ σ τ : Type}
def TM (Γ : List Cell) (f : M β) (p : R α) (c : α → β → Prop) (Δ : α → List Cell) : Prop := ∀ ρ, Rel Γ ρ → match p with
  | .ok v => ∃ s ρ', f ρ = .ok s ρ' ∧ c v s ∧ Rel (Δ v) ρ'
  | .ex e => ∃ ρ', f ρ = .ex e ρ'
  | .bad => True
def TV (Γ : List Cell) (f : M β) (c : β → Prop) : Prop := ∀ ρ, Rel Γ ρ → ∃ s ρ', f ρ = .ok s ρ' ∧ c s ∧ Rel Γ ρ'
abbrev isD (d : D) : Sl → Prop := fun s => s.d? = some d
abbrev isS (t : Sl) : Sl → Prop := fun s => s = t
abbrev isA (ds : List D) : List Sl → Prop := fun rs => rs = ds.map Sl.val
abbrev isB (b : Bool) : Bool → Prop := fun c => c = b
abbrev isL (ds : List D) : List D → Prop := fun es => es = ds
def TS (Γ : List Cell) (g : Ms) (p : R β) (post : β → So → Prop) : Prop := ∀ ρ, Rel Γ ρ → match p with
  | .ok v => post v (g ρ)
  | .ex e => ∃ ρ', g ρ = .ex e ρ'
  | .bad => True
def pNx (Δ : σ → List Cell) : σ → So → Prop := fun s o => ∃ ρ', o = .nx ρ' ∧ Rel (Δ s) ρ'
def pRt (c : τ → Sl → Prop) (Δ : τ → List Cell) : τ → So → Prop := fun r o => ∃ s ρ', o = .rt s ρ' ∧ c r s ∧ Rel (Δ r) ρ'
def pMx (Δ : σ → List Cell) (c : τ → Sl → Prop) (Δr : τ → List Cell) : Out σ τ → So → Prop
  | .nx s, o => pNx Δ s o
  | .rt r, o => pRt c Δr r o
def TF (m : List Sl → Fo) (as : List Cell) (p : R α) (c : α → Sl → Prop) (cs : α → List Cell) : Prop := ∀ ss, Rel as ss → ss.length = as.length → match p with
  | .ok v => ∃ s ps, m ss = .rt s ps ∧ c v s ∧ Rel (cs v) ps
  | .ex e => ∃ ps, m ss = .ex e ps
  | .bad => True
variable {Γ Γ' : List Cell}
theorem tm_of {f : M β} {c : β → Prop} (h : TV Γ f c) : TM Γ f (.ok ()) (fun _ => c) (fun _ => Γ) := fun ρ r => h ρ r
theorem tm_val {f : M β} {c : α → β → Prop} {v : α} (h : TV Γ f (c v)) : TM Γ f (.ok v) c (fun _ => Γ) := fun ρ r => h ρ r
theorem tm_cv {f : M β} {p q : R α} {c : α → β → Prop} {Δ : α → List Cell} (h : TM Γ f p c Δ) (e : p = q) : TM Γ f q c Δ := e ▸ h
theorem tm_bind {f : M β} {K : β → M δ} {p : R α} {q : α → R γ} {c : α → β → Prop} {Δ : α → List Cell} {c' : γ → δ → Prop} {Δ' : γ → List Cell} (h : TM Γ f p c Δ) (k : ∀ v b, c v b → TM (Δ v) (K b) (q v) c' Δ') : TM Γ (fun ρ => (f ρ).bd K) (p.bind q) c' Δ' := by
  intro ρ r
  have h1 := h ρ r
  cases p with
  | ok v =>
    obtain ⟨s, ρ', e, hc, hr⟩ := h1
    have h2 := k v s hc ρ' hr
    simp only [R.bind_ok, e, Rs.bd]
    exact h2
  | ex e =>
    obtain ⟨ρ', e⟩ := h1
    simp only [R.bind_ex, e, Rs.bd]
    exact ⟨_, rfl⟩
  | bad => trivial
theorem tv_bind {f : M β} {K : β → M δ} {c : β → Prop} {c' : δ → Prop} (h : TV Γ f c) (k : ∀ b, c b → TV Γ (K b) c') : TV Γ (fun ρ => (f ρ).bd K) c' := by
  intro ρ r
  obtain ⟨s, ρ', e, hc, hr⟩ := h ρ r
  obtain ⟨t, ρ2, e2, hc2, hr2⟩ := k s hc ρ' hr
  exact ⟨t, ρ2, by simp only [e, Rs.bd]; exact e2, hc2, hr2⟩
theorem tm_wk {f : M β} {p : R α} {c : α → β → Prop} {Δ : α → List Cell} (w : Wc Γ Γ') (h : TM Γ' f p c Δ) : TM Γ f p c Δ := fun ρ r => h ρ (r.wk w)
/-- the value and what it leaves, packed -/
theorem tm_pack {f : M β} {p : R α} {c : α → β → Prop} {Δ : α → List Cell} {c' : γ → β → Prop} {Δ' : γ → List Cell} (k : α → γ) (h : TM Γ f p c Δ) (hc : ∀ v b, c v b → c' (k v) b) (hΔ : ∀ v, Wc (Δ v) (Δ' (k v))) : TM Γ f (p.bind fun v => .ok (k v)) c' Δ' := by
  intro ρ r
  have h1 := h ρ r
  cases p with
  | ok v =>
    obtain ⟨s, ρ', e, q, hr⟩ := h1
    exact ⟨s, ρ', e, hc _ _ q, hr.wk (hΔ v)⟩
  | ex e => exact h1
  | bad => trivial

/-! ### an operation -/
def OpF (o : Option Sl) (q : R γ) (c : γ → Sl → Prop) : Prop := match q with
  | .ok v => ∃ r, o = some r ∧ c v r
  | .ex _ => False
  | .bad => True
theorem opF_t {o : Option Sl} {v : γ} {c : γ → Sl → Prop} {r : Sl} (h : o = some r) (hc : c v r) : OpF o (.ok v) c := ⟨r, h, hc⟩
def opO (o : Option Sl) (ρ : Env) : Rs Sl := match o with
  | some r => .ok r ρ
  | none => .bad
theorem OpF.tm {o : Option Sl} {q : R γ} {c : γ → Sl → Prop} (h : OpF o q c) {f : M Sl} (e : ∀ ρ, f ρ = opO o ρ) : TM Γ f q c (fun _ => Γ) := by
  intro ρ r
  cases q with
  | ok v =>
    obtain ⟨s, e1, hc⟩ := h
    exact ⟨s, ρ, by rw [e, e1]; rfl, hc, r⟩
  | ex e => exact h.elim
  | bad => trivial
/-! names and constants -/
theorem tv_var (i : Nat) {d : D} (h : Γ[i]? = some (.dat d)) : TV Γ (mVar i) (isD d) := by
  intro ρ r
  obtain ⟨s, e, hs⟩ := r.get h
  have hs' : s.d? = some d := hs
  exact ⟨.val d, ρ.set i (.val d), by unfold mVar; rw [e]; simp only [hs'], rfl, r.put h rfl⟩
theorem tv_c (d : D) : TV Γ (mC d) (isD d) := fun ρ r => ⟨_, ρ, rfl, rfl, r⟩
/-! two operands -/
theorem tv_bin {g : D → D → Option Sl} {fa fb : M Sl} {a b : D} {c : Sl → Prop} {r : Sl} (ha : TV Γ fa (isD a)) (hb : TV Γ fb (isD b)) (ho : g a b = some r) (hc : c r) : TV Γ (mBin g fa fb) c := by
  refine tv_bind ha fun ra ea => tv_bind hb fun rb eb ρ r => ?_
  have ea' : ra.d? = some a := ea
  have eb' : rb.d? = some b := eb
  exact ⟨_, ρ, by simp only [ea', eb', ho], hc, r⟩
theorem bin_leaf {g : D → D → Option Sl} {ra rb : Sl} {a b : D} {q : R γ} {c : γ → Sl → Prop} (ea : isD a ra) (eb : isD b rb) (ho : OpF (g a b) q c) : TM Γ (fun ρ2 => match ra.d?, rb.d? with
  | some a, some b => match g a b with
    | some r => .ok r ρ2
    | none => .bad
  | _, _ => .bad) q c (fun _ => Γ) := by
  have ea' : ra.d? = some a := ea
  have eb' : rb.d? = some b := eb
  exact ho.tm fun ρ => by simp only [ea', eb']; unfold opO; cases g a b <;> rfl
/-- both are values; the operation may fail -/
theorem te_vv {g : D → D → Option Sl} {fa fb : M Sl} {a b : D} {q : R γ} {c : γ → Sl → Prop} (ha : TV Γ fa (isD a)) (hb : TV Γ fb (isD b)) (ho : OpF (g a b) q c) : TM Γ (mBin g fa fb) q c (fun _ => Γ) :=
  tm_bind (tm_of ha) fun _ ra ea => tm_bind (tm_of hb) fun _ rb eb => bin_leaf ea eb ho
theorem te_ev {g : D → D → Option Sl} {fa fb : M Sl} {pa : R α} {da : α → D} {b : α → D} {q : α → R γ} {c : γ → Sl → Prop} (ha : TM Γ fa pa (fun v => isD (da v)) (fun _ => Γ)) (hb : ∀ v : α, TV Γ fb (isD (b v))) (ho : ∀ v, OpF (g (da v) (b v)) (q v) c) : TM Γ (mBin g fa fb) (pa.bind q) c (fun _ => Γ) :=
  tm_bind ha fun v ra ea => tm_bind (tm_of (hb v)) fun _ rb eb => bin_leaf ea eb (ho v)
theorem te_ve {g : D → D → Option Sl} {fa fb : M Sl} {pb : R β} {a : D} {db : β → D} {q : β → R γ} {c : γ → Sl → Prop} (ha : TV Γ fa (isD a)) (hb : TM Γ fb pb (fun v => isD (db v)) (fun _ => Γ)) (ho : ∀ v, OpF (g a (db v)) (q v) c) : TM Γ (mBin g fa fb) (pb.bind q) c (fun _ => Γ) :=
  show TM Γ (mBin g fa fb) ((R.ok ()).bind fun _ => pb.bind q) c (fun _ => Γ) from tm_bind (tm_of ha) fun _ ra ea => tm_bind hb fun v rb eb => bin_leaf ea eb (ho v)
theorem te_ee {g : D → D → Option Sl} {fa fb : M Sl} {pa : R α} {pb : α → R β} {da : α → D} {db : α → β → D} {q : α → β → R γ} {c : γ → Sl → Prop} (ha : TM Γ fa pa (fun v => isD (da v)) (fun _ => Γ)) (hb : ∀ v, TM Γ fb (pb v) (fun w => isD (db v w)) (fun _ => Γ)) (ho : ∀ v w, OpF (g (da v) (db v w)) (q v w) c) : TM Γ (mBin g fa fb) (pa.bind fun v => (pb v).bind (q v)) c (fun _ => Γ) :=
  tm_bind ha fun v ra ea => tm_bind (hb v) fun w rb eb => bin_leaf ea eb (ho v w)
/-- with states -/
theorem te_st {g : D → D → Option Sl} {fa fb : M Sl} {pa : R α} {pb : α → R β} {da : α → D} {db : α → β → D} {q : α → β → R γ} {c0 : γ → Sl → Prop} {c : δ → Sl → Prop} {Δa : α → List Cell} {Δb : α → β → List Cell} {Δ : δ → List Cell} (pk : α → β → γ → δ)
    (ha : TM Γ fa pa (fun v => isD (da v)) Δa) (hb : ∀ v, TM (Δa v) fb (pb v) (fun w => isD (db v w)) (Δb v)) (ho : ∀ v w, OpF (g (da v) (db v w)) (q v w) c0) (hc : ∀ v w z s, c0 z s → c (pk v w z) s) (hΔ : ∀ v w z, Wc (Δb v w) (Δ (pk v w z))) :
    TM Γ (mBin g fa fb) (pa.bind fun v => (pb v).bind fun w => (q v w).bind fun z => .ok (pk v w z)) c Δ :=
  tm_bind ha fun v ra ea => tm_bind (hb v) fun w rb eb => tm_pack (pk v w) (bin_leaf ea eb (ho v w)) (hc v w) (hΔ v w)
/-! one operand -/
theorem tv_un {g : D → Option Sl} {fa : M Sl} {a : D} {c : Sl → Prop} {r : Sl} (ha : TV Γ fa (isD a)) (ho : g a = some r) (hc : c r) : TV Γ (mUn g fa) c := by
  refine tv_bind ha fun ra ea ρ r => ?_
  have ea' : ra.d? = some a := ea
  exact ⟨_, ρ, by simp only [ea', ho], hc, r⟩
theorem un_leaf {g : D → Option Sl} {ra : Sl} {a : D} {q : R γ} {c : γ → Sl → Prop} (ea : isD a ra) (ho : OpF (g a) q c) : TM Γ (fun ρ1 => match ra.d? with
  | some a => match g a with
    | some r => .ok r ρ1
    | none => .bad
  | _ => .bad) q c (fun _ => Γ) := by
  have ea' : ra.d? = some a := ea
  exact ho.tm fun ρ => by simp only [ea']; unfold opO; cases g a <;> rfl
theorem te_uv {g : D → Option Sl} {fa : M Sl} {a : D} {q : R γ} {c : γ → Sl → Prop} (ha : TV Γ fa (isD a)) (ho : OpF (g a) q c) : TM Γ (mUn g fa) q c (fun _ => Γ) :=
  tm_bind (tm_of ha) fun _ ra ea => un_leaf ea ho
theorem te_ue {g : D → Option Sl} {fa : M Sl} {pa : R α} {da : α → D} {q : α → R γ} {c : γ → Sl → Prop} (ha : TM Γ fa pa (fun v => isD (da v)) (fun _ => Γ)) (ho : ∀ v, OpF (g (da v)) (q v) c) : TM Γ (mUn g fa) (pa.bind q) c (fun _ => Γ) :=
  tm_bind ha fun v ra ea => un_leaf ea (ho v)
theorem te_us {g : D → Option Sl} {fa : M Sl} {pa : R α} {da : α → D} {q : α → R γ} {c0 : γ → Sl → Prop} {c : δ → Sl → Prop} {Δa : α → List Cell} {Δ : δ → List Cell} (pk : α → γ → δ) (ha : TM Γ fa pa (fun v => isD (da v)) Δa) (ho : ∀ v, OpF (g (da v)) (q v) c0) (hc : ∀ v z s, c0 z s → c (pk v z) s) (hΔ : ∀ v z, Wc (Δa v) (Δ (pk v z))) :
    TM Γ (mUn g fa) (pa.bind fun v => (q v).bind fun z => .ok (pk v z)) c Δ :=
  tm_bind ha fun v ra ea => tm_pack (pk v) (un_leaf ea (ho v)) (hc v) (hΔ v)
/-- some data that a text's maker takes for another type -/
theorem te_as {f : M Sl} {pa : R α} {d : α → D} {q : α → R γ} {e : γ → D} {Δ : List Cell} (h : TM Γ f pa (fun v => isD (d v)) (fun _ => Δ)) (ho : ∀ v, match q v with | .ok z => d v = e z | .ex _ => False | .bad => True) : TM Γ f (pa.bind q) (fun z => isD (e z)) (fun _ => Δ) := by
  intro ρ r
  have h1 := h ρ r
  cases pa with
  | ok v =>
    obtain ⟨s, ρ', e1, e2, e3⟩ := h1
    have h2 := ho v
    simp only [R.bind_ok]
    cases eq : q v with
    | ok z => rw [eq] at h2; exact ⟨s, ρ', e1, by rw [← h2]; exact e2, e3⟩
    | ex _ => rw [eq] at h2; exact h2.elim
    | bad => trivial
  | ex e => exact h1
  | bad => trivial
theorem te_asV {f : M Sl} {d : D} {q : R γ} {e : γ → D} (h : TV Γ f (isD d)) (ho : match q with | .ok z => d = e z | .ex _ => False | .bad => True) : TM Γ f q (fun z => isD (e z)) (fun _ => Γ) :=
  te_as (tm_of h) fun _ => ho
/-! arguments -/
theorem ta_nil : TV Γ (fun ρ => .ok [] ρ) (isA []) := fun ρ r => ⟨[], ρ, rfl, rfl, r⟩
theorem ta_cons {fa : M Sl} {fr : M (List Sl)} {d : D} {ds : List D} (ha : TV Γ fa (isD d)) (hr : TV Γ fr (isA ds)) : TV Γ (mArg fa fr) (isA (d :: ds)) := by
  refine tv_bind ha fun ra ea => tv_bind hr fun rs er ρ r => ?_
  have ea' : ra.d? = some d := ea
  have er' : rs = ds.map Sl.val := er
  exact ⟨.val d :: rs, ρ, by simp only [ea'], by rw [er']; rfl, r⟩
/-- the first one alone is none -/
theorem ta_ev {fa : M Sl} {fr : M (List Sl)} {pa : R α} {d : α → D} {ds : α → List D} {Δ : α → List Cell} (ha : TM Γ fa pa (fun v => isD (d v)) Δ) (hr : ∀ v, TV (Δ v) fr (isA (ds v))) : TM Γ (mArg fa fr) pa (fun v => isA (d v :: ds v)) Δ := by
  have := tm_bind (K := fun ra ρ1 => (fr ρ1).bd fun rs ρ2 => match ra.d? with
    | some a => .ok (.val a :: rs) ρ2
    | none => .bad) (q := fun v => R.ok v) (c' := fun v => isA (d v :: ds v)) (Δ' := Δ) ha fun v ra ea => by
      intro ρ r
      obtain ⟨rs, ρ', e, h1, h2⟩ := hr v ρ r
      have ea' : ra.d? = some (d v) := ea
      have h1' : rs = (ds v).map Sl.val := h1
      exact ⟨.val (d v) :: rs, ρ', by simp only [e, Rs.bd, ea'], by rw [h1']; rfl, h2⟩
  rw [R.bind_id] at this
  exact this
/-- the rest is none -/
theorem ta_ve {fa : M Sl} {fr : M (List Sl)} {pr : R α} {d : D} {c : α → List Sl → Prop} {c' : α → List Sl → Prop} {Δ : α → List Cell} (ha : TV Γ fa (isD d)) (hr : TM Γ fr pr c Δ) (hc : ∀ v rs, c v rs → c' v (.val d :: rs)) : TM Γ (mArg fa fr) pr c' Δ := by
  intro ρ r
  obtain ⟨ra, ρ', e, ea, h2⟩ := ha ρ r
  have ea' : ra.d? = some d := ea
  have h1 := hr ρ' h2
  cases pr with
  | ok v =>
    obtain ⟨rs, ρ2, e2, q1, q2⟩ := h1
    exact ⟨.val d :: rs, ρ2, by unfold mArg; simp only [e, Rs.bd, e2, ea'], hc v rs q1, q2⟩
  | ex x =>
    obtain ⟨ρ2, e2⟩ := h1
    exact ⟨ρ2, by unfold mArg; simp only [e, Rs.bd, e2]⟩
  | bad => trivial
theorem ta_ee {fa : M Sl} {fr : M (List Sl)} {pa : R α} {pr : α → R β} {d : α → D} {c : α → β → List Sl → Prop} {c' : δ → List Sl → Prop} {Δa : α → List Cell} {Δr : α → β → List Cell} {Δ : δ → List Cell} (pk : α → β → δ)
    (ha : TM Γ fa pa (fun v => isD (d v)) Δa) (hr : ∀ v, TM (Δa v) fr (pr v) (c v) (Δr v)) (hc : ∀ v w rs, c v w rs → c' (pk v w) (.val (d v) :: rs)) (hΔ : ∀ v w, Wc (Δr v w) (Δ (pk v w))) :
    TM Γ (mArg fa fr) (pa.bind fun v => (pr v).bind fun w => .ok (pk v w)) c' Δ :=
  tm_bind ha fun v ra ea => by
    intro ρ r
    have h1 := hr v ρ r
    have ea' : ra.d? = some (d v) := ea
    cases e : pr v with
    | ok w =>
      rw [e] at h1
      obtain ⟨rs, ρ', e2, q1, q2⟩ := h1
      exact ⟨.val (d v) :: rs, ρ', by simp only [e2, Rs.bd, ea'], hc v w rs q1, q2.wk (hΔ v w)⟩
    | ex x =>
      rw [e] at h1
      obtain ⟨ρ', e2⟩ := h1
      exact ⟨ρ', by simp only [e2, Rs.bd]⟩
    | bad => trivial
/-- a name's own object is handed on -/
theorem ta_own (i : Nat) {fr : M (List Sl)} {pr : R α} {c : α → List Sl → Prop} {c' : α → List Sl → Prop} {s0 : Sl} {s : α → Sl} {Δ : α → List Cell} (h0 : Γ[i]? = some (.own s0)) (ht : s0.there = true) (hr : TM Γ fr pr c Δ) (hs : ∀ v, (Δ v)[i]? = some (.own (s v))) (ht2 : ∀ v, (s v).there = true) (hc : ∀ v rs, c v rs → c' v (s v :: rs)) :
    TM Γ (mArgO i fr) pr c' (fun v => (Δ v).set i .any) := by
  intro ρ r
  obtain ⟨t, e, ht'⟩ := r.get h0
  have ht'' : t = s0 := ht'
  subst ht''
  have h1 := hr ρ r
  cases pr with
  | ok v =>
    obtain ⟨rs, ρ', e2, q1, q2⟩ := h1
    obtain ⟨t2, e3, h3⟩ := q2.get (hs v)
    have h3' : t2 = s v := h3
    subst h3'
    exact ⟨_, ρ'.set i .und, by unfold mArgO; simp only [e, ht, e2, Rs.bd, e3, ht2 v], hc v rs q1, q2.set trivial⟩
  | ex x =>
    obtain ⟨ρ', e2⟩ := h1
    exact ⟨ρ', by unfold mArgO; simp only [e, ht, e2, Rs.bd]⟩
  | bad => trivial
theorem dAll_vals : ∀ ds : List D, dAll (ds.map Sl.val) = some ds
  | [] => rfl
  | d :: ds => by
    show (match (Sl.val d).d?, dAll (ds.map Sl.val) with | some d, some ds => some (d :: ds) | _, _ => none) = _
    rw [dAll_vals ds]; rfl
/-! displays, built-ins -/
theorem tv_tup {fs : M (List Sl)} {ds : List D} (h : TV Γ fs (isA ds)) (hn : szOk ds.length = true) : TV Γ (mTup fs) (isD (.tuple ds)) := by
  refine tv_bind h fun rs er ρ r => ?_
  have er' : rs = ds.map Sl.val := er
  subst er'
  exact ⟨.val (.tuple ds), ρ, by simp only [dAll_vals, hn], rfl, r⟩
theorem tv_lst {fs : M (List Sl)} {ds : List D} (h : TV Γ fs (isA ds)) (hn : szOk ds.length = true) : TV Γ (mLst fs) (isS (.lst ds)) := by
  refine tv_bind h fun rs er ρ r => ?_
  have er' : rs = ds.map Sl.val := er
  subst er'
  exact ⟨.lst ds, ρ, by simp only [dAll_vals, hn], rfl, r⟩
theorem te_tup {fs : M (List Sl)} {p : R α} {ds : α → List D} {Δ : α → List Cell} (h : TM Γ fs p (fun v => isA (ds v)) Δ) (hn : ∀ v, szOk (ds v).length = true) : TM Γ (mTup fs) p (fun v => isD (.tuple (ds v))) Δ := by
  have := tm_bind (K := fun rs ρ1 => match dAll rs with
    | some ds => match szOk ds.length with
      | true => .ok (.val (.tuple ds)) ρ1
      | false => .bad
    | none => .bad) (q := fun v => R.ok v) (c' := fun v => isD (.tuple (ds v))) (Δ' := Δ) h fun v rs er => by
      intro ρ r
      have er' : rs = (ds v).map Sl.val := er
      subst er'
      exact ⟨.val (.tuple (ds v)), ρ, by simp only [dAll_vals, hn v], rfl, r⟩
  rw [R.bind_id] at this
  exact this
theorem te_lst {fs : M (List Sl)} {p : R α} {ds : α → List D} {Δ : α → List Cell} (h : TM Γ fs p (fun v => isA (ds v)) Δ) (hn : ∀ v, szOk (ds v).length = true) : TM Γ (mLst fs) p (fun v => isS (.lst (ds v))) Δ := by
  have := tm_bind (K := fun rs ρ1 => match dAll rs with
    | some ds => match szOk ds.length with
      | true => .ok (.lst ds) ρ1
      | false => .bad
    | none => .bad) (q := fun v => R.ok v) (c' := fun v => isS (.lst (ds v))) (Δ' := Δ) h fun v rs er => by
      intro ρ r
      have er' : rs = (ds v).map Sl.val := er
      subst er'
      exact ⟨.lst (ds v), ρ, by simp only [dAll_vals, hn v], rfl, r⟩
  rw [R.bind_id] at this
  exact this
theorem tv_cb {g : List D → Option Sl} {fs : M (List Sl)} {ds : List D} {c : Sl → Prop} {r : Sl} (h : TV Γ fs (isA ds)) (ho : g ds = some r) (hc : c r) : TV Γ (mCB g fs) c := by
  refine tv_bind h fun rs er ρ r => ?_
  have er' : rs = ds.map Sl.val := er
  subst er'
  exact ⟨_, ρ, by simp only [dAll_vals, ho], hc, r⟩
theorem cb_leaf {g : List D → Option Sl} {rs : List Sl} {ds : List D} {q : R γ} {c : γ → Sl → Prop} (er : isA ds rs) (ho : OpF (g ds) q c) : TM Γ (fun ρ1 => match dAll rs with
  | some ds => match g ds with
    | some r => .ok r ρ1
    | none => .bad
  | none => .bad) q c (fun _ => Γ) := by
  have er' : rs = ds.map Sl.val := er
  subst er'
  exact ho.tm fun ρ => by simp only [dAll_vals]; unfold opO; cases g ds <;> rfl
theorem te_cbV {g : List D → Option Sl} {fs : M (List Sl)} {ds : List D} {q : R γ} {c : γ → Sl → Prop} (h : TV Γ fs (isA ds)) (ho : OpF (g ds) q c) : TM Γ (mCB g fs) q c (fun _ => Γ) :=
  tm_bind (tm_of h) fun _ rs er => cb_leaf er ho
theorem te_cb {g : List D → Option Sl} {fs : M (List Sl)} {p : R α} {ds : α → List D} {q : α → R γ} {c : γ → Sl → Prop} {Δ : List Cell} (h : TM Γ fs p (fun v => isA (ds v)) (fun _ => Δ)) (ho : ∀ v, OpF (g (ds v)) (q v) c) : TM Γ (mCB g fs) (p.bind q) c (fun _ => Δ) :=
  tm_bind h fun v rs er => cb_leaf er (ho v)
theorem te_cbS {g : List D → Option Sl} {fs : M (List Sl)} {p : R α} {ds : α → List D} {q : α → R γ} {c0 : γ → Sl → Prop} {c : δ → Sl → Prop} {Δa : α → List Cell} {Δ : δ → List Cell} (pk : α → γ → δ) (h : TM Γ fs p (fun v => isA (ds v)) Δa) (ho : ∀ v, OpF (g (ds v)) (q v) c0) (hc : ∀ v z s, c0 z s → c (pk v z) s) (hΔ : ∀ v z, Wc (Δa v) (Δ (pk v z))) :
    TM Γ (mCB g fs) (p.bind fun v => (q v).bind fun z => .ok (pk v z)) c Δ :=
  tm_bind h fun v rs er => tm_pack (pk v) (cb_leaf er (ho v)) (hc v) (hΔ v)
end
end
end Fx

set_option Elab.async false
set_option linter.all false
set_option maxRecDepth 100000
namespace Fx
open PySem L2
noncomputable section
section
variable {α β γ δ σ τ : Type} {Γ Γ' : List Cell}
/-! ### tests -/
theorem val_b {s : Sl} {b : Bool} (h : s.d? = some (.bool b)) : s = .val (.bool b) := by
  cases s <;> simp [Sl.d?] at h
  subst h; rfl
theorem tb_tstV {f : M Sl} {b : Bool} (h : TV Γ f (isD (.bool b))) : TV Γ (mTst f) (isB b) := by
  intro ρ r
  obtain ⟨s, ρ', e, hs, hr⟩ := h ρ r
  have := val_b hs
  subst this
  exact ⟨b, ρ', by unfold mTst; rw [e]; rfl, rfl, hr⟩
theorem tb_tst {f : M Sl} {p : R α} {b : α → Bool} {Δ : α → List Cell} (h : TM Γ f p (fun v => isD (.bool (b v))) Δ) : TM Γ (mTst f) p (fun v => isB (b v)) Δ := by
  intro ρ r
  have h1 := h ρ r
  cases p with
  | ok v =>
    obtain ⟨s, ρ', e, hs, hr⟩ := h1
    have := val_b hs
    subst this
    exact ⟨_, ρ', by unfold mTst; rw [e]; rfl, rfl, hr⟩
  | ex x =>
    obtain ⟨ρ', e⟩ := h1
    exact ⟨ρ', by unfold mTst; rw [e]; rfl⟩
  | bad => trivial
theorem tb_notV {f : M Bool} {b : Bool} (h : TV Γ f (isB b)) : TV Γ (mNot f) (isB (!b)) := by
  refine tv_bind h fun rb eb ρ r => ⟨_, ρ, rfl, ?_, r⟩
  have : rb = b := eb
  rw [this]
theorem tb_not {f : M Bool} {p : R α} {b : α → Bool} {Δ : α → List Cell} (h : TM Γ f p (fun v => isB (b v)) Δ) : TM Γ (mNot f) p (fun v => isB (!b v)) Δ := by
  have := tm_bind (K := fun b ρ1 => Rs.ok (!b) ρ1) (q := fun v => R.ok v) (c' := fun v => isB (!b v)) (Δ' := Δ) h fun v rb eb ρ r => ⟨_, ρ, rfl, by
    have : rb = b v := eb
    rw [this], r⟩
  rw [R.bind_id] at this
  exact this
theorem tv_notV {f : M Sl} {b : Bool} (h : TV Γ f (isD (.bool b))) : TV Γ (mNotV f) (isD (.bool (!b))) := by
  intro ρ r
  obtain ⟨s, ρ', e, hs, hr⟩ := tb_tstV h ρ r
  have hs' : s = b := hs
  subst hs'
  have e' : tst (f ρ) = .ok s ρ' := e
  exact ⟨_, ρ', by unfold mNotV; rw [e']; rfl, rfl, hr⟩
theorem te_notV {f : M Sl} {p : R Bool} {Δ : List Cell} (h : TM Γ f p (fun v => isD (.bool v)) (fun _ => Δ)) : TM Γ (mNotV f) (p.bind fun v => .ok (!v)) (fun v => isD (.bool v)) (fun _ => Δ) := by
  have := tm_bind (K := fun b ρ1 => Rs.ok (Sl.val (.bool (!b))) ρ1) (q := fun v => R.ok (!v)) (c' := fun v => isD (.bool v)) (Δ' := fun _ => Δ) (tb_tst h) fun v rb eb ρ r => ⟨_, ρ, rfl, by
    have : rb = v := eb
    rw [this]; rfl, r⟩
  exact this
theorem tb_andV {f g : M Bool} {a b : Bool} (ha : TV Γ f (isB a)) (hb : TV Γ g (isB b)) : TV Γ (mAnd f g) (isB (a && b)) := by
  refine tv_bind ha fun ra ea => ?_
  have : ra = a := ea
  subst this
  cases ra with
  | false => exact fun ρ r => ⟨_, ρ, rfl, rfl, r⟩
  | true =>
    intro ρ r
    obtain ⟨s, ρ', e, hs, hr⟩ := hb ρ r
    exact ⟨s, ρ', by simpa using e, by simpa using hs, hr⟩
theorem tb_orV {f g : M Bool} {a b : Bool} (ha : TV Γ f (isB a)) (hb : TV Γ g (isB b)) : TV Γ (mOr f g) (isB (a || b)) := by
  refine tv_bind ha fun ra ea => ?_
  have : ra = a := ea
  subst this
  cases ra with
  | true => exact fun ρ r => ⟨_, ρ, rfl, rfl, r⟩
  | false =>
    intro ρ r
    obtain ⟨s, ρ', e, hs, hr⟩ := hb ρ r
    exact ⟨s, ρ', by simpa using e, by simpa using hs, hr⟩
theorem tb_and {f g : M Bool} {pa pb : R Bool} (ha : TM Γ f pa isB (fun _ => Γ)) (hb : TM Γ g pb isB (fun _ => Γ)) : TM Γ (mAnd f g) (pa.bind fun a => if a = true then pb else .ok false) isB (fun _ => Γ) :=
  tm_bind ha fun v ra ea => by
    have : ra = v := ea
    subst this
    cases ra with
    | false => exact fun ρ r => ⟨_, ρ, rfl, rfl, r⟩
    | true => exact hb
theorem tb_or {f g : M Bool} {pa pb : R Bool} (ha : TM Γ f pa isB (fun _ => Γ)) (hb : TM Γ g pb isB (fun _ => Γ)) : TM Γ (mOr f g) (pa.bind fun a => if a = true then .ok true else pb) isB (fun _ => Γ) :=
  tm_bind ha fun v ra ea => by
    have : ra = v := ea
    subst this
    cases ra with
    | true => exact fun ρ r => ⟨_, ρ, rfl, rfl, r⟩
    | false => exact hb
/-- with states: the second one draws -/
theorem tb_andS {f g : M Bool} {a : Bool} {pb : R (Bool × σ)} {s : σ} {Δ : σ → List Cell} (ha : TV Γ f (isB a)) (hb : TM Γ g pb (fun v => isB v.1) (fun v => Δ v.2)) (h0 : Wc Γ (Δ s)) : TM Γ (mAnd f g) (if a = true then pb else .ok (false, s)) (fun v => isB v.1) (fun v => Δ v.2) := by
  intro ρ r
  obtain ⟨ra, ρ1, e, ea, h1⟩ := ha ρ r
  have : ra = a := ea
  subst this
  cases ra with
  | false => exact ⟨false, ρ1, by unfold mAnd; rw [e]; rfl, rfl, h1.wk h0⟩
  | true =>
    have h2 := hb ρ1 h1
    simp only [if_true]
    cases pb with
    | ok v =>
      obtain ⟨s, ρ', e2, q⟩ := h2
      exact ⟨s, ρ', by unfold mAnd; rw [e]; exact e2, q⟩
    | ex x =>
      obtain ⟨ρ', e2⟩ := h2
      exact ⟨ρ', by unfold mAnd; rw [e]; exact e2⟩
    | bad => trivial
theorem val_any {s : Sl} {d : D} (h : s.d? = some d) : True := trivial
theorem tv_andV {f g : M Sl} {a b : Bool} (ha : TV Γ f (isD (.bool a))) (hb : TV Γ g (isD (.bool b))) : TV Γ (mAndV f g) (isD (.bool (a && b))) := by
  intro ρ r
  obtain ⟨s, ρ', e, hs, hr⟩ := tb_tstV ha ρ r
  have hs' : s = a := hs
  subst hs'
  have e' : tst (f ρ) = .ok s ρ' := e
  cases s with
  | false => exact ⟨_, ρ', by unfold mAndV; rw [e']; rfl, rfl, hr⟩
  | true =>
    obtain ⟨t, ρ2, e2, ht, hr2⟩ := hb ρ' hr
    exact ⟨t, ρ2, by unfold mAndV; rw [e']; exact e2, ht, hr2⟩
theorem tv_orV {f g : M Sl} {a b : Bool} (ha : TV Γ f (isD (.bool a))) (hb : TV Γ g (isD (.bool b))) : TV Γ (mOrV f g) (isD (.bool (a || b))) := by
  intro ρ r
  obtain ⟨s, ρ', e, hs, hr⟩ := tb_tstV ha ρ r
  have hs' : s = a := hs
  subst hs'
  have e' : tst (f ρ) = .ok s ρ' := e
  cases s with
  | true => exact ⟨_, ρ', by unfold mOrV; rw [e']; rfl, rfl, hr⟩
  | false =>
    obtain ⟨t, ρ2, e2, ht, hr2⟩ := hb ρ' hr
    exact ⟨t, ρ2, by unfold mOrV; rw [e']; exact e2, ht, hr2⟩
theorem te_andV {f g : M Sl} {pa pb : R Bool} (ha : TM Γ f pa (fun v => isD (.bool v)) (fun _ => Γ)) (hb : TM Γ g pb (fun v => isD (.bool v)) (fun _ => Γ)) : TM Γ (mAndV f g) (pa.bind fun a => if a = true then pb else .ok false) (fun v => isD (.bool v)) (fun _ => Γ) :=
  tm_bind (tb_tst ha) fun v ra ea => by
    have : ra = v := ea
    subst this
    cases ra with
    | false => exact fun ρ r => ⟨_, ρ, rfl, rfl, r⟩
    | true => exact hb
theorem te_orV {f g : M Sl} {pa pb : R Bool} (ha : TM Γ f pa (fun v => isD (.bool v)) (fun _ => Γ)) (hb : TM Γ g pb (fun v => isD (.bool v)) (fun _ => Γ)) : TM Γ (mOrV f g) (pa.bind fun a => if a = true then .ok true else pb) (fun v => isD (.bool v)) (fun _ => Γ) :=
  tm_bind (tb_tst ha) fun v ra ea => by
    have : ra = v := ea
    subst this
    cases ra with
    | true => exact fun ρ r => ⟨_, ρ, rfl, rfl, r⟩
    | false => exact hb
/-! a if c else b -/
theorem tv_if {c : M Bool} {f g : M Sl} {b : Bool} {x y : α} {e : α → Sl → Prop} (hc : TV Γ c (isB b)) (h1 : TV Γ f (e x)) (h2 : TV Γ g (e y)) : TV Γ (mIf c f g) (e (if b = true then x else y)) := by
  refine tv_bind hc fun rb eb => ?_
  have : rb = b := eb
  subst this
  cases rb with
  | true => exact h1
  | false => exact h2
theorem te_if {c : M Bool} {f g : M Sl} {pc : R β} {b : β → Bool} {p1 p2 : β → R α} {Δc : β → List Cell} {e : α → Sl → Prop} {Δ : α → List Cell} (hc : TM Γ c pc (fun v => isB (b v)) Δc) (h1 : ∀ v, TM (Δc v) f (p1 v) e Δ) (h2 : ∀ v, TM (Δc v) g (p2 v) e Δ) : TM Γ (mIf c f g) (pc.bind fun v => if b v = true then p1 v else p2 v) e Δ :=
  tm_bind hc fun v rb eb => by
    have : rb = b v := eb
    subst this
    cases q : b v with
    | true => simp only [if_true]; exact h1 v
    | false => simp only [Bool.false_eq_true, if_false]; exact h2 v
theorem te_ifV {c : M Bool} {f g : M Sl} {b : Bool} {p1 p2 : R α} {e : α → Sl → Prop} {Δ : α → List Cell} (hc : TV Γ c (isB b)) (h1 : TM Γ f p1 e Δ) (h2 : TM Γ g p2 e Δ) : TM Γ (mIf c f g) (if b = true then p1 else p2) e Δ :=
  te_if (tm_of hc) (fun _ => h1) (fun _ => h2)

/-! ### statements -/
theorem ts_wk0 {g : Ms} {p : R β} {post : β → So → Prop} (w : Wc Γ Γ') (h : TS Γ' g p post) : TS Γ g p post := fun ρ r => h ρ (r.wk w)
theorem ts_cv {g : Ms} {p q : R β} {post : β → So → Prop} (h : TS Γ g p post) (e : p = q) : TS Γ g q post := e ▸ h
theorem ts_setD (i : Nat) {f : M Sl} {p : R α} {d : α → D} {Δ : α → List Cell} (h : TM Γ f p (fun v => isD (d v)) Δ) : TS Γ (mSet i f) p (pNx fun v => (Δ v).set i (.dat (d v))) := by
  intro ρ r
  have h1 := h ρ r
  cases p with
  | ok v =>
    obtain ⟨s, ρ', e, hs, hr⟩ := h1
    exact ⟨_, by unfold mSet; rw [e]; rfl, hr.set hs⟩
  | ex x =>
    obtain ⟨ρ', e⟩ := h1
    exact ⟨ρ', by unfold mSet; rw [e]; rfl⟩
  | bad => trivial
theorem ts_setS (i : Nat) {f : M Sl} {p : R α} {t : α → Sl} {Δ : α → List Cell} (h : TM Γ f p (fun v => isS (t v)) Δ) : TS Γ (mSet i f) p (pNx fun v => (Δ v).set i (.own (t v))) := by
  intro ρ r
  have h1 := h ρ r
  cases p with
  | ok v =>
    obtain ⟨s, ρ', e, hs, hr⟩ := h1
    exact ⟨_, by unfold mSet; rw [e]; rfl, hr.set hs⟩
  | ex x =>
    obtain ⟨ρ', e⟩ := h1
    exact ⟨ρ', by unfold mSet; rw [e]; rfl⟩
  | bad => trivial
theorem ts_drop {f : M Sl} {p : R α} {c : α → Sl → Prop} {Δ : α → List Cell} (h : TM Γ f p c Δ) : TS Γ (mDrop f) p (pNx Δ) := by
  intro ρ r
  have h1 := h ρ r
  cases p with
  | ok v =>
    obtain ⟨s, ρ', e, hs, hr⟩ := h1
    exact ⟨_, by unfold mDrop; rw [e]; rfl, hr⟩
  | ex x =>
    obtain ⟨ρ', e⟩ := h1
    exact ⟨ρ', by unfold mDrop; rw [e]; rfl⟩
  | bad => trivial
theorem ts_nop : TS Γ (fun ρ => .nx ρ) (.ok ()) (pNx fun _ => Γ) := fun ρ r => ⟨ρ, rfl, r⟩
theorem ts_ret {f : M Sl} {p : R α} {c : α → Sl → Prop} {Δ Δr : α → List Cell} (h : TM Γ f p c Δ) (hw : ∀ v, Wc (Δ v) (Δr v)) : TS Γ (mRet f) p (pRt c Δr) := by
  intro ρ r
  have h1 := h ρ r
  cases p with
  | ok v =>
    obtain ⟨s, ρ', e, hs, hr⟩ := h1
    exact ⟨s, ρ', by unfold mRet; rw [e]; rfl, hs, hr.wk (hw v)⟩
  | ex x =>
    obtain ⟨ρ', e⟩ := h1
    exact ⟨ρ', by unfold mRet; rw [e]; rfl⟩
  | bad => trivial
theorem ts_retP {f : M Sl} {p : R α} {c0 : α → Sl → Prop} {c : τ → Sl → Prop} {Δ : α → List Cell} {Δr : τ → List Cell} (k : α → τ) (h : TM Γ f p c0 Δ) (hc : ∀ v s, c0 v s → c (k v) s) (hw : ∀ v, Wc (Δ v) (Δr (k v))) : TS Γ (mRet f) (p.bind fun v => .ok (k v)) (pRt c Δr) :=
  ts_ret (tm_pack k h hc hw) fun v => Wc.refl _
theorem ts_retV {f : M Sl} {c : τ → Sl → Prop} {Δr : τ → List Cell} (v : τ) (h : TV Γ f (c v)) (hw : Wc Γ (Δr v)) : TS Γ (mRet f) (.ok v) (pRt c Δr) := by
  intro ρ r
  obtain ⟨s, ρ', e, hs, hr⟩ := h ρ r
  exact ⟨s, ρ', by unfold mRet; rw [e]; rfl, hs, hr.wk hw⟩
theorem ts_retN {c : τ → Sl → Prop} {Δr : τ → List Cell} (v : τ) (hc : c v (.val .none)) (hw : Wc Γ (Δr v)) : TS Γ (fun ρ => .rt (.val .none) ρ) (.ok v) (pRt c Δr) := fun ρ r => ⟨_, ρ, rfl, hc, r.wk hw⟩
theorem ts_retO (i : Nat) {c : τ → Sl → Prop} {Δr : τ → List Cell} {s : Sl} (v : τ) (h : Γ[i]? = some (.own s)) (ht : s.there = true) (hc : c v s) (hw : Wc (Γ.set i .any) (Δr v)) : TS Γ (mRetO i) (.ok v) (pRt c Δr) := by
  intro ρ r
  obtain ⟨t, e, h'⟩ := r.get h
  have h'' : t = s := h'
  subst h''
  exact ⟨t, ρ.set i .und, by unfold mRetO; simp only [e, ht], hc, (Rel.set (c := .any) r trivial).wk hw⟩
theorem ts_seq {g1 g2 : Ms} {p1 : R α} {p2 : α → R β} {Δ : α → List Cell} {post : β → So → Prop} (h1 : TS Γ g1 p1 (pNx Δ)) (h2 : ∀ v, TS (Δ v) g2 (p2 v) post) : TS Γ (mSeq g1 g2) (p1.bind p2) post := by
  intro ρ r
  have h := h1 ρ r
  cases p1 with
  | ok v =>
    obtain ⟨ρ', e, hr⟩ := h
    have := h2 v ρ' hr
    have e2 : mSeq g1 g2 ρ = g2 ρ' := by unfold mSeq; rw [e]; rfl
    simp only [R.bind_ok, e2]
    exact this
  | ex x =>
    obtain ⟨ρ', e⟩ := h
    exact ⟨ρ', by unfold mSeq; rw [e]; rfl⟩
  | bad => trivial
theorem ts_seqR {g1 g2 : Ms} {p1 : R (Out σ τ)} {p2 : σ → R τ} {Δ : σ → List Cell} {c : τ → Sl → Prop} {Δr : τ → List Cell} (h1 : TS Γ g1 p1 (pMx Δ c Δr)) (h2 : ∀ v, TS (Δ v) g2 (p2 v) (pRt c Δr)) : TS Γ (mSeq g1 g2) (p1.bind fun o => o.go p2 .ok) (pRt c Δr) := by
  intro ρ r
  have h := h1 ρ r
  cases p1 with
  | ok v =>
    cases v with
    | nx v =>
      obtain ⟨ρ', e, hr⟩ := h
      have := h2 v ρ' hr
      have e2 : mSeq g1 g2 ρ = g2 ρ' := by unfold mSeq; rw [e]; rfl
      simp only [R.bind_ok, Out.go_nx, e2]
      exact this
    | rt v =>
      obtain ⟨s, ρ', e, hs, hr⟩ := h
      exact ⟨s, ρ', by unfold mSeq; rw [e]; rfl, hs, hr⟩
  | ex x =>
    obtain ⟨ρ', e⟩ := h
    exact ⟨ρ', by unfold mSeq; rw [e]; rfl⟩
  | bad => trivial
theorem ts_seqM {g1 g2 : Ms} {p1 : R (Out σ τ)} {p2 : σ → R (Out γ τ)} {Δ : σ → List Cell} {Δ2 : γ → List Cell} {c : τ → Sl → Prop} {Δr : τ → List Cell} (h1 : TS Γ g1 p1 (pMx Δ c Δr)) (h2 : ∀ v, TS (Δ v) g2 (p2 v) (pMx Δ2 c Δr)) : TS Γ (mSeq g1 g2) (p1.bind fun o => o.go p2 fun r => .ok (.rt r)) (pMx Δ2 c Δr) := by
  intro ρ r
  have h := h1 ρ r
  cases p1 with
  | ok v =>
    cases v with
    | nx v =>
      obtain ⟨ρ', e, hr⟩ := h
      have := h2 v ρ' hr
      have e2 : mSeq g1 g2 ρ = g2 ρ' := by unfold mSeq; rw [e]; rfl
      simp only [R.bind_ok, Out.go_nx, e2]
      exact this
    | rt v =>
      obtain ⟨s, ρ', e, hs, hr⟩ := h
      exact ⟨s, ρ', by unfold mSeq; rw [e]; rfl, hs, hr⟩
  | ex x =>
    obtain ⟨ρ', e⟩ := h
    exact ⟨ρ', by unfold mSeq; rw [e]; rfl⟩
  | bad => trivial
/-- a block's end: what it leaves, packed -/
theorem ts_end {g : Ms} {p : R α} {Δ : α → List Cell} {Δ' : σ → List Cell} (k : α → σ) (h : TS Γ g p (pNx Δ)) (hw : ∀ v, Wc (Δ v) (Δ' (k v))) : TS Γ g (p.bind fun v => .ok (k v)) (pNx Δ') := by
  intro ρ r
  have h1 := h ρ r
  cases p with
  | ok v =>
    obtain ⟨ρ', e, hr⟩ := h1
    exact ⟨ρ', e, hr.wk (hw v)⟩
  | ex x => exact h1
  | bad => trivial
theorem ts_mxN {g : Ms} {p : R σ} {Δ : σ → List Cell} {c : τ → Sl → Prop} {Δr : τ → List Cell} (h : TS Γ g p (pNx Δ)) : TS Γ g (p.bind fun v => .ok (.nx v)) (pMx Δ c Δr) := by
  intro ρ r
  have h1 := h ρ r
  cases p with
  | ok v => exact h1
  | ex x => exact h1
  | bad => trivial
theorem ts_mxR {g : Ms} {p : R τ} {Δ : σ → List Cell} {c : τ → Sl → Prop} {Δr : τ → List Cell} (h : TS Γ g p (pRt c Δr)) : TS Γ g (p.bind fun v => .ok (.rt v)) (pMx Δ c Δr) := by
  intro ρ r
  have h1 := h ρ r
  cases p with
  | ok v => exact h1
  | ex x => exact h1
  | bad => trivial
theorem ts_if {c : M Bool} {f g : Ms} {pc : R β} {b : β → Bool} {p1 p2 : β → R α} {Δc : β → List Cell} {post : α → So → Prop} (hc : TM Γ c pc (fun v => isB (b v)) Δc) (h1 : ∀ v, TS (Δc v) f (p1 v) post) (h2 : ∀ v, TS (Δc v) g (p2 v) post) : TS Γ (mIfS c f g) (pc.bind fun v => if b v = true then p1 v else p2 v) post := by
  intro ρ r
  have h := hc ρ r
  cases pc with
  | ok v =>
    obtain ⟨s, ρ', e, hs, hr⟩ := h
    have hs' : s = b v := hs
    subst hs'
    simp only [R.bind_ok]
    cases q : b v with
    | true =>
      have e2 : mIfS c f g ρ = f ρ' := by unfold mIfS; rw [e, q]; rfl
      simp only [if_true, e2]
      exact h1 v ρ' hr
    | false =>
      have e2 : mIfS c f g ρ = g ρ' := by unfold mIfS; rw [e, q]; rfl
      simp only [Bool.false_eq_true, if_false, e2]
      exact h2 v ρ' hr
  | ex x =>
    obtain ⟨ρ', e⟩ := h
    exact ⟨ρ', by unfold mIfS; rw [e]; rfl⟩
  | bad => trivial
theorem ts_ifV {c : M Bool} {f g : Ms} {b : Bool} {p1 p2 : R α} {post : α → So → Prop} (hc : TV Γ c (isB b)) (h1 : TS Γ f p1 post) (h2 : TS Γ g p2 post) : TS Γ (mIfS c f g) (if b = true then p1 else p2) post :=
  ts_if (tm_of hc) (fun _ => h1) (fun _ => h2)
/-- an if that returns, and the rest -/
theorem ts_ifR {c : M Bool} {f g : Ms} {pc : R β} {b : β → Bool} {p1 p2 : β → R τ} {Δc : β → List Cell} {cr : τ → Sl → Prop} {Δr : τ → List Cell} (hc : TM Γ c pc (fun v => isB (b v)) Δc) (h1 : ∀ v, TS (Δc v) f (p1 v) (pRt cr Δr)) (h2 : ∀ v, TS (Δc v) g (p2 v) (pRt cr Δr)) : TS Γ (mSeq (mIfS c f (fun ρ => .nx ρ)) g) (pc.bind fun v => if b v = true then p1 v else p2 v) (pRt cr Δr) := by
  intro ρ r
  have h := hc ρ r
  cases pc with
  | ok v =>
    obtain ⟨s, ρ', e, hs, hr⟩ := h
    have hs' : s = b v := hs
    subst hs'
    simp only [R.bind_ok]
    cases q : b v with
    | true =>
      have e2 : mSeq (mIfS c f (fun ρ => .nx ρ)) g ρ = (f ρ').bd g := by unfold mSeq mIfS; rw [e, q]; rfl
      simp only [if_true, e2]
      have h3 := h1 v ρ' hr
      cases e3 : p1 v with
      | ok w =>
        rw [e3] at h3
        obtain ⟨s, ρ2, e4, q2⟩ := h3
        exact ⟨s, ρ2, by rw [e4]; rfl, q2⟩
      | ex x =>
        rw [e3] at h3
        obtain ⟨ρ2, e4⟩ := h3
        exact ⟨ρ2, by rw [e4]; rfl⟩
      | bad => trivial
    | false =>
      have e2 : mSeq (mIfS c f (fun ρ => .nx ρ)) g ρ = g ρ' := by unfold mSeq mIfS; rw [e, q]; rfl
      simp only [Bool.false_eq_true, if_false, e2]
      exact h2 v ρ' hr
  | ex x =>
    obtain ⟨ρ', e⟩ := h
    exact ⟨ρ', by unfold mSeq mIfS; rw [e]; rfl⟩
  | bad => trivial
/-! ### targets -/
def TK (k : Sl → Env → Option Env) (d : D) (Γ Γ' : List Cell) : Prop := ∀ ρ, Rel Γ ρ → ∃ ρ', k (.val d) ρ = some ρ' ∧ Rel Γ' ρ'
def TKL (k : List D → Env → Option Env) (ds : List D) (Γ Γ' : List Cell) : Prop := ∀ ρ, Rel Γ ρ → ∃ ρ', k ds ρ = some ρ' ∧ Rel Γ' ρ'
theorem tk_name (i : Nat) (d : D) : TK (kName i) d Γ (Γ.set i (.dat d)) := fun ρ r => ⟨_, rfl, r.set rfl⟩
theorem tkl_nil : TKL kNil [] Γ Γ := fun ρ r => ⟨ρ, rfl, r⟩
theorem tkl_cons {k : Sl → Env → Option Env} {kr : List D → Env → Option Env} {d : D} {ds : List D} {Γ1 Γ2 : List Cell} (h : TK k d Γ Γ1) (hr : TKL kr ds Γ1 Γ2) : TKL (kCons k kr) (d :: ds) Γ Γ2 := by
  intro ρ r
  obtain ⟨ρ1, e1, r1⟩ := h ρ r
  obtain ⟨ρ2, e2, r2⟩ := hr ρ1 r1
  exact ⟨ρ2, by unfold kCons; simp only [e1]; exact e2, r2⟩
theorem tk_tup {kr : List D → Env → Option Env} {n : Nat} {ds : List D} {Γ1 : List Cell} (h : TKL kr ds Γ Γ1) (hn : ds.length = n) : TK (kTup n kr) (.tuple ds) Γ Γ1 := by
  intro ρ r
  obtain ⟨ρ1, e1, r1⟩ := h ρ r
  exact ⟨ρ1, by unfold kTup; simp only [hn, if_true]; exact e1, r1⟩
theorem ts_asgT {f : M Sl} {p : R α} {d : α → D} {Δ Δ' : α → List Cell} {k : Sl → Env → Option Env} (h : TM Γ f p (fun v => isD (d v)) Δ) (hk : ∀ v, TK k (d v) (Δ v) (Δ' v)) : TS Γ (mAsgT f k) p (pNx Δ') := by
  intro ρ r
  have h1 := h ρ r
  cases p with
  | ok v =>
    obtain ⟨s, ρ', e, hs, hr⟩ := h1
    have hs' : s.d? = some (d v) := hs
    obtain ⟨ρ2, e2, r2⟩ := hk v ρ' hr
    exact ⟨ρ2, by unfold mAsgT; rw [e]; simp only [Rs.st, hs', e2], r2⟩
  | ex x =>
    obtain ⟨ρ', e⟩ := h1
    exact ⟨ρ', by unfold mAsgT; rw [e]; rfl⟩
  | bad => trivial
/-! ### loops -/
theorem loop_fold {k : Sl → Env → Option Env} {body : Ms} {e : α → D} {Inv : σ → List Cell} {Γk : α → σ → List Cell} {pb : α → σ → R σ} (hk : ∀ x s, TK k (e x) (Inv s) (Γk x s)) (hb : ∀ x s, TS (Γk x s) body (pb x s) (pNx Inv)) :
    ∀ (xs : List α) (s : σ), TS (Inv s) (loopM k body (xs.map e)) (foldR pb xs s) (pNx Inv)
  | [], s => fun ρ r => ⟨ρ, rfl, r⟩
  | x :: xs, s => by
    intro ρ r
    obtain ⟨ρ1, e1, r1⟩ := hk x s ρ r
    have h := hb x s ρ1 r1
    rw [show foldR pb (x :: xs) s = (pb x s).bind (foldR pb xs) from rfl]
    rw [List.map_cons]
    unfold loopM
    simp only [e1]
    cases q : pb x s with
    | ok s' =>
      rw [q] at h
      obtain ⟨ρ2, e2, r2⟩ := h
      simp only [R.bind_ok, e2]
      exact loop_fold hk hb xs s' ρ2 r2
    | ex x =>
      rw [q] at h
      obtain ⟨ρ2, e2⟩ := h
      simp only [R.bind_ex, e2]
      exact ⟨_, rfl⟩
    | bad => trivial
theorem loop_mix {k : Sl → Env → Option Env} {body : Ms} {e : α → D} {Inv : σ → List Cell} {Γk : α → σ → List Cell} {pb : α → σ → R (Out σ τ)} {c : τ → Sl → Prop} {Δr : τ → List Cell} (hk : ∀ x s, TK k (e x) (Inv s) (Γk x s)) (hb : ∀ x s, TS (Γk x s) body (pb x s) (pMx Inv c Δr)) :
    ∀ (xs : List α) (s : σ), TS (Inv s) (loopM k body (xs.map e)) (loopR pb xs s) (pMx Inv c Δr)
  | [], s => fun ρ r => ⟨ρ, rfl, r⟩
  | x :: xs, s => by
    intro ρ r
    obtain ⟨ρ1, e1, r1⟩ := hk x s ρ r
    have h := hb x s ρ1 r1
    rw [show loopR pb (x :: xs) s = (pb x s).bind fun o => o.go (loopR pb xs) fun r => .ok (.rt r) from rfl]
    rw [List.map_cons]
    unfold loopM
    simp only [e1]
    cases q : pb x s with
    | ok o =>
      rw [q] at h
      cases o with
      | nx s' =>
        obtain ⟨ρ2, e2, r2⟩ := h
        simp only [R.bind_ok, Out.go_nx, e2]
        exact loop_mix hk hb xs s' ρ2 r2
      | rt v =>
        obtain ⟨t, ρ2, e2, h2⟩ := h
        simp only [R.bind_ok, Out.go_rt, e2]
        exact ⟨t, ρ2, rfl, h2⟩
    | ex x =>
      rw [q] at h
      obtain ⟨ρ2, e2⟩ := h
      simp only [R.bind_ex, e2]
      exact ⟨_, rfl⟩
    | bad => trivial
theorem st_bind {f : M δ} {K : δ → Ms} {p : R α} {q : α → R β} {c : α → δ → Prop} {Δ : α → List Cell} {post : β → So → Prop} (h : TM Γ f p c Δ) (k : ∀ v b, c v b → TS (Δ v) (K b) (q v) post) : TS Γ (fun ρ => (f ρ).st K) (p.bind q) post := by
  intro ρ r
  have h1 := h ρ r
  cases p with
  | ok v =>
    obtain ⟨s, ρ', e, hc, hr⟩ := h1
    have h2 := k v s hc ρ' hr
    simp only [R.bind_ok, e, Rs.st]
    exact h2
  | ex e =>
    obtain ⟨ρ', e⟩ := h1
    simp only [R.bind_ex, e, Rs.st]
    exact ⟨_, rfl⟩
  | bad => trivial
theorem ts_for {fi : M (List D)} {k : Sl → Env → Option Env} {body : Ms} {pi : R β} {xs : β → List α} {e : α → D} {Δi : β → List Cell} {Inv : σ → List Cell} {Γk : α → σ → List Cell} {pb : α → σ → R σ} (s0 : β → σ)
    (hi : TM Γ fi pi (fun v => isL ((xs v).map e)) Δi) (hw : ∀ v, Wc (Δi v) (Inv (s0 v))) (hk : ∀ x s, TK k (e x) (Inv s) (Γk x s)) (hb : ∀ x s, TS (Γk x s) body (pb x s) (pNx Inv)) : TS Γ (mFor fi k body) (pi.bind fun v => foldR pb (xs v) (s0 v)) (pNx Inv) :=
  st_bind hi fun v ds hd => by
    have hd' : ds = (xs v).map e := hd
    subst hd'
    exact ts_wk0 (hw v) (loop_fold hk hb (xs v) (s0 v))
theorem ts_forM {fi : M (List D)} {k : Sl → Env → Option Env} {body : Ms} {pi : R β} {xs : β → List α} {e : α → D} {Δi : β → List Cell} {Inv : σ → List Cell} {Γk : α → σ → List Cell} {pb : α → σ → R (Out σ τ)} {c : τ → Sl → Prop} {Δr : τ → List Cell} (s0 : β → σ)
    (hi : TM Γ fi pi (fun v => isL ((xs v).map e)) Δi) (hw : ∀ v, Wc (Δi v) (Inv (s0 v))) (hk : ∀ x s, TK k (e x) (Inv s) (Γk x s)) (hb : ∀ x s, TS (Γk x s) body (pb x s) (pMx Inv c Δr)) : TS Γ (mFor fi k body) (pi.bind fun v => loopR pb (xs v) (s0 v)) (pMx Inv c Δr) :=
  st_bind hi fun v ds hd => by
    have hd' : ds = (xs v).map e := hd
    subst hd'
    exact ts_wk0 (hw v) (loop_mix hk hb (xs v) (s0 v))
/-! what is walked is a name's own list -/
def LkC (Γ : List Cell) (i : Nat) (es : List D) : Prop := Γ[i]? = some (.own (.lst es)) ∨ Γ[i]? = some (.dat (.list es))
theorem LkC.lk {i : Nat} {es : List D} {ρ : Env} (h : LkC Γ i es) (r : Rel Γ ρ) : lk i ρ = some es := by
  unfold Fx.lk
  rcases h with h | h
  · obtain ⟨s, e, h2⟩ := r.get h
    have h2' : s = .lst es := h2
    rw [e, h2']
  · obtain ⟨s, e, h2⟩ := r.get h
    have h2' : s.d? = some (.list es) := h2
    rw [e]
    cases s with
    | lst ds => simp [Sl.d?] at h2'; rw [h2']
    | val d => simp [Sl.d?] at h2'; rw [h2']
    | _ => simp [Sl.d?] at h2'
theorem LkC.stay {i : Nat} {es : List D} {ρ : Env} (h : LkC Γ i es) (r : Rel Γ ρ) : stay i es ρ = true := by
  unfold Fx.stay; exact tru_iff.mpr (h.lk r)
theorem loopO_fold (i : Nat) {es : List D} {k : Sl → Env → Option Env} {body : Ms} {e : α → D} {Inv : σ → List Cell} {Γk : α → σ → List Cell} {pb : α → σ → R σ} (hl : ∀ s, LkC (Inv s) i es) (hk : ∀ x s, TK k (e x) (Inv s) (Γk x s)) (hb : ∀ x s, TS (Γk x s) body (pb x s) (pNx Inv)) :
    ∀ (xs : List α) (s : σ), TS (Inv s) (loopO i es k body (xs.map e)) (foldR pb xs s) (pNx Inv)
  | [], s => fun ρ r => ⟨ρ, by show (match Fx.stay i es ρ with | true => So.nx ρ | false => So.bad) = _; rw [(hl s).stay r], r⟩
  | x :: xs, s => by
    intro ρ r
    obtain ⟨ρ1, e1, r1⟩ := hk x s ρ r
    have h := hb x s ρ1 r1
    rw [show foldR pb (x :: xs) s = (pb x s).bind (foldR pb xs) from rfl]
    rw [List.map_cons]
    unfold loopO
    simp only [e1, (hl s).stay r]
    cases q : pb x s with
    | ok s' =>
      rw [q] at h
      obtain ⟨ρ2, e2, r2⟩ := h
      simp only [R.bind_ok, e2]
      exact loopO_fold i hl hk hb xs s' ρ2 r2
    | ex x =>
      rw [q] at h
      obtain ⟨ρ2, e2⟩ := h
      simp only [R.bind_ex, e2]
      exact ⟨_, rfl⟩
    | bad => trivial
theorem loopO_mix (i : Nat) {es : List D} {k : Sl → Env → Option Env} {body : Ms} {e : α → D} {Inv : σ → List Cell} {Γk : α → σ → List Cell} {pb : α → σ → R (Out σ τ)} {c : τ → Sl → Prop} {Δr : τ → List Cell} (hl : ∀ s, LkC (Inv s) i es) (hk : ∀ x s, TK k (e x) (Inv s) (Γk x s)) (hb : ∀ x s, TS (Γk x s) body (pb x s) (pMx Inv c Δr)) :
    ∀ (xs : List α) (s : σ), TS (Inv s) (loopO i es k body (xs.map e)) (loopR pb xs s) (pMx Inv c Δr)
  | [], s => fun ρ r => ⟨ρ, by show (match Fx.stay i es ρ with | true => So.nx ρ | false => So.bad) = _; rw [(hl s).stay r], r⟩
  | x :: xs, s => by
    intro ρ r
    obtain ⟨ρ1, e1, r1⟩ := hk x s ρ r
    have h := hb x s ρ1 r1
    rw [show loopR pb (x :: xs) s = (pb x s).bind fun o => o.go (loopR pb xs) fun r => .ok (.rt r) from rfl]
    rw [List.map_cons]
    unfold loopO
    simp only [e1, (hl s).stay r]
    cases q : pb x s with
    | ok o =>
      rw [q] at h
      cases o with
      | nx s' =>
        obtain ⟨ρ2, e2, r2⟩ := h
        simp only [R.bind_ok, Out.go_nx, e2]
        exact loopO_mix i hl hk hb xs s' ρ2 r2
      | rt v =>
        obtain ⟨t, ρ2, e2, h2⟩ := h
        simp only [R.bind_ok, Out.go_rt, e2]
        exact ⟨t, ρ2, rfl, h2⟩
    | ex x =>
      rw [q] at h
      obtain ⟨ρ2, e2⟩ := h
      simp only [R.bind_ex, e2]
      exact ⟨_, rfl⟩
    | bad => trivial
theorem ts_forO (i : Nat) {φ : List D → List D} {es : List D} {k : Sl → Env → Option Env} {body : Ms} {xs : List α} {e : α → D} {Inv : σ → List Cell} {Γk : α → σ → List Cell} {pb : α → σ → R σ} (s0 : σ) (hφ : φ es = xs.map e)
    (hw : Wc Γ (Inv s0)) (hl : ∀ s, LkC (Inv s) i es) (hk : ∀ x s, TK k (e x) (Inv s) (Γk x s)) (hb : ∀ x s, TS (Γk x s) body (pb x s) (pNx Inv)) : TS Γ (mForO i φ k body) (foldR pb xs s0) (pNx Inv) := by
  refine ts_wk0 hw fun ρ r => ?_
  have := loopO_fold i hl hk hb xs s0 ρ r
  unfold mForO
  simp only [(hl s0).lk r, hφ]
  exact this
theorem ts_forOM (i : Nat) {φ : List D → List D} {es : List D} {k : Sl → Env → Option Env} {body : Ms} {xs : List α} {e : α → D} {Inv : σ → List Cell} {Γk : α → σ → List Cell} {pb : α → σ → R (Out σ τ)} {c : τ → Sl → Prop} {Δr : τ → List Cell} (s0 : σ) (hφ : φ es = xs.map e)
    (hw : Wc Γ (Inv s0)) (hl : ∀ s, LkC (Inv s) i es) (hk : ∀ x s, TK k (e x) (Inv s) (Γk x s)) (hb : ∀ x s, TS (Γk x s) body (pb x s) (pMx Inv c Δr)) : TS Γ (mForO i φ k body) (loopR pb xs s0) (pMx Inv c Δr) := by
  refine ts_wk0 hw fun ρ r => ?_
  have := loopO_mix i hl hk hb xs s0 ρ r
  unfold mForO
  simp only [(hl s0).lk r, hφ]
  exact this
/-! ### comprehensions -/
theorem calm_x {α β γ : Type} {p : R α} {f : M β} {c : α → β → Prop} {Δ : α → List Cell} (h : TM Γ f p c Δ) {ρ : Env} (r : Rel Γ ρ) : (∃ v s ρ', p = .ok v ∧ f ρ = .ok s ρ' ∧ c v s ∧ Rel (Δ v) ρ') ∨ p.calm = .bad := by
  have h1 := h ρ r
  cases p with
  | ok v =>
    obtain ⟨s, ρ', q⟩ := h1
    exact .inl ⟨v, s, ρ', rfl, q⟩
  | ex e => exact .inr rfl
  | bad => exact .inr rfl
theorem comp_runT {vs : List Nat} {k : Sl → Env → Option Env} {tt : M Bool} {fe : M Sl} {e : α → D} {Γk : α → List Cell} {pt : α → R Bool} {pe : α → R β} {ce : β → Sl → Prop} {e' : β → D}
    (hk : ∀ x, TK k (e x) Γ (Γk x)) (ht : ∀ x, TM (Γk x) tt (pt x) isB (fun _ => Γk x)) (he : ∀ x, TM (Γk x) fe (pe x) ce (fun _ => Γk x)) (hce : ∀ v s, ce v s → s.d? = some (e' v)) (hw : ∀ x, wipeC (Γk x) vs = Γ) :
    ∀ (xs : List α) (acc : List β), TM Γ (compM vs k tt fe (xs.map e) (acc.map e')) (compR pt pe xs acc) (fun zs => isS (.lst (zs.map e'))) (fun _ => Γ)
  | [], acc => fun ρ r => ⟨_, ρ, rfl, rfl, r⟩
  | x :: xs, acc => by
    intro ρ r
    obtain ⟨ρ1, e1, r1⟩ := hk x ρ r
    have wp : ∀ ρ', Rel (Γk x) ρ' → Rel Γ (wipeS ρ' vs) := fun ρ' r' => by have := r'.wipe vs; rw [hw x] at this; exact this
    rw [List.map_cons]
    unfold compM compR
    simp only [e1]
    rcases calm_x (γ := Unit) (ht x) r1 with ⟨b, s, ρ2, q1, q2, q3, r2⟩ | q
    · have : s = b := q3
      subst this
      rw [q1]
      simp only [q2, R.calm_ok, R.bind_ok]
      cases s with
      | false =>
        simp only [Bool.false_eq_true, if_false]
        exact comp_runT hk ht he hce hw xs acc _ (wp _ r2)
      | true =>
        simp only [if_true]
        rcases calm_x (γ := Unit) (he x) r2 with ⟨y, t, ρ3, q4, q5, q6, r3⟩ | q
        · rw [q4]
          simp only [q5, R.calm_ok, R.bind_ok, hce _ _ q6, List.length_map]
          cases hz : szOk (acc.length + 1) with
          | false => simp only [Bool.false_eq_true, if_false]
          | true =>
            simp only [if_true]
            have := comp_runT hk ht he hce hw xs (acc ++ [y]) _ (wp _ r3)
            rw [List.map_append] at this
            exact this
        · rw [q]; trivial
    · rw [q]; trivial
theorem tm_comp {vs : List Nat} {fi : M (List D)} {k : Sl → Env → Option Env} {tt : M Bool} {fe : M Sl} {e : α → D} {Γk : α → List Cell} {pi : R δ} {xs : δ → List α} {pt : α → R Bool} {pe : α → R β} {ce : β → Sl → Prop} (e' : β → D)
    (hi : TM Γ fi pi (fun v => isL ((xs v).map e)) (fun _ => Γ)) (h0 : wipeC Γ vs = Γ) (hk : ∀ x, TK k (e x) Γ (Γk x)) (ht : ∀ x, TM (Γk x) tt (pt x) isB (fun _ => Γk x)) (he : ∀ x, TM (Γk x) fe (pe x) ce (fun _ => Γk x)) (hce : ∀ v s, ce v s → s.d? = some (e' v)) (hw : ∀ x, wipeC (Γk x) vs = Γ) :
    TM Γ (mComp vs fi k tt fe) (pi.bind fun v => compR pt pe (xs v) []) (fun zs => isS (.lst (zs.map e'))) (fun _ => Γ) :=
  tm_bind hi fun v ds hd => by
    have hd' : ds = (xs v).map e := hd
    subst hd'
    intro ρ r
    have := comp_runT hk ht he hce hw (xs v) [] (wipeS ρ vs) (by have := r.wipe vs; rw [h0] at this; exact this)
    exact this
theorem compS_run {vs : List Nat} {k : Sl → Env → Option Env} {tt : M Bool} {fe : M Sl} {e : α → D} {Inv : σ → List Cell} {Γk : α → σ → List Cell} {Γe : α → β × σ → List Cell} {pt : α → σ → R Bool} {pe : α → σ → R (β × σ)} {ce : β → Sl → Prop} {e' : β → D}
    (hk : ∀ x s, TK k (e x) (Inv s) (Γk x s)) (ht : ∀ x s, TM (Γk x s) tt (pt x s) isB (fun _ => Γk x s)) (he : ∀ x s, TM (Γk x s) fe (pe x s) (fun v => ce v.1) (Γe x)) (hce : ∀ v s, ce v s → s.d? = some (e' v)) (hw : ∀ x s, wipeC (Γk x s) vs = Inv s) (hw2 : ∀ x v, wipeC (Γe x v) vs = Inv v.2) :
    ∀ (xs : List α) (acc : List β) (s : σ), TM (Inv s) (compM vs k tt fe (xs.map e) (acc.map e')) (compS pt pe xs acc s) (fun zs => isS (.lst (zs.1.map e'))) (fun zs => Inv zs.2)
  | [], acc, s => fun ρ r => ⟨_, ρ, rfl, rfl, r⟩
  | x :: xs, acc, s => by
    intro ρ r
    obtain ⟨ρ1, e1, r1⟩ := hk x s ρ r
    have wp : ∀ ρ', Rel (Γk x s) ρ' → Rel (Inv s) (wipeS ρ' vs) := fun ρ' r' => by have := r'.wipe vs; rw [hw x s] at this; exact this
    have wp2 : ∀ v ρ', Rel (Γe x v) ρ' → Rel (Inv v.2) (wipeS ρ' vs) := fun v ρ' r' => by have := r'.wipe vs; rw [hw2 x v] at this; exact this
    rw [List.map_cons]
    unfold compM compS
    simp only [e1]
    rcases calm_x (γ := Unit) (ht x s) r1 with ⟨b, s1, ρ2, q1, q2, q3, r2⟩ | q
    · have : s1 = b := q3
      subst this
      rw [q1]
      simp only [q2, R.calm_ok, R.bind_ok]
      cases s1 with
      | false =>
        simp only [Bool.false_eq_true, if_false]
        exact compS_run hk ht he hce hw hw2 xs acc s _ (wp _ r2)
      | true =>
        simp only [if_true]
        rcases calm_x (γ := Unit) (he x s) r2 with ⟨y, t, ρ3, q4, q5, q6, r3⟩ | q
        · rw [q4]
          simp only [q5, R.calm_ok, R.bind_ok, hce _ _ q6, List.length_map]
          cases hz : szOk (acc.length + 1) with
          | false => simp only [Bool.false_eq_true, if_false]
          | true =>
            simp only [if_true]
            have := compS_run hk ht he hce hw hw2 xs (acc ++ [y.1]) y.2 _ (wp2 _ _ r3)
            rw [List.map_append] at this
            exact this
        · rw [q]; trivial
    · rw [q]; trivial
theorem tm_compS {vs : List Nat} {fi : M (List D)} {k : Sl → Env → Option Env} {tt : M Bool} {fe : M Sl} {e : α → D} {Inv : σ → List Cell} {Γk : α → σ → List Cell} {Γe : α → β × σ → List Cell} {pi : R δ} {xs : δ → List α} {Δi : δ → List Cell} {pt : α → σ → R Bool} {pe : α → σ → R (β × σ)} {ce : β → Sl → Prop} (e' : β → D) (s0 : δ → σ)
    (hi : TM Γ fi pi (fun v => isL ((xs v).map e)) Δi) (hi2 : ∀ v, Wc (Δi v) (Inv (s0 v))) (h0 : ∀ s, wipeC (Inv s) vs = Inv s) (hk : ∀ x s, TK k (e x) (Inv s) (Γk x s)) (ht : ∀ x s, TM (Γk x s) tt (pt x s) isB (fun _ => Γk x s)) (he : ∀ x s, TM (Γk x s) fe (pe x s) (fun v => ce v.1) (Γe x)) (hce : ∀ v s, ce v s → s.d? = some (e' v)) (hw : ∀ x s, wipeC (Γk x s) vs = Inv s) (hw2 : ∀ x v, wipeC (Γe x v) vs = Inv v.2) :
    TM Γ (mComp vs fi k tt fe) (pi.bind fun v => compS pt pe (xs v) [] (s0 v)) (fun zs => isS (.lst (zs.1.map e'))) (fun zs => Inv zs.2) :=
  tm_bind hi fun v ds hd => by
    have hd' : ds = (xs v).map e := hd
    subst hd'
    intro ρ r
    exact compS_run hk ht he hce hw hw2 (xs v) [] (s0 v) (wipeS ρ vs) (by have := (r.wk (hi2 v)).wipe vs; rw [h0] at this; exact this)
theorem compO_run2 (i : Nat) {es : List D} {vs : List Nat} {k : Sl → Env → Option Env} {tt : M Bool} {fe : M Sl} {e : α → D} {Γk : α → List Cell} {pt : α → R Bool} {pe : α → R β} {ce : β → Sl → Prop} {e' : β → D} (hl : LkC Γ i es)
    (hk : ∀ x, TK k (e x) Γ (Γk x)) (ht : ∀ x, TM (Γk x) tt (pt x) isB (fun _ => Γk x)) (he : ∀ x, TM (Γk x) fe (pe x) ce (fun _ => Γk x)) (hce : ∀ v s, ce v s → s.d? = some (e' v)) (hw : ∀ x, wipeC (Γk x) vs = Γ) :
    ∀ (xs : List α) (acc : List β), TM Γ (compO i es vs k tt fe (xs.map e) (acc.map e')) (compR pt pe xs acc) (fun zs => isS (.lst (zs.map e'))) (fun _ => Γ)
  | [], acc => fun ρ r => ⟨_, ρ, by show (match Fx.stay i es ρ with | true => Rs.ok _ ρ | false => Rs.bad) = _; rw [hl.stay r], rfl, r⟩
  | x :: xs, acc => by
    intro ρ r
    obtain ⟨ρ1, e1, r1⟩ := hk x ρ r
    have wp : ∀ ρ', Rel (Γk x) ρ' → Rel Γ (wipeS ρ' vs) := fun ρ' r' => by have := r'.wipe vs; rw [hw x] at this; exact this
    rw [List.map_cons]
    unfold compO compR
    simp only [e1, hl.stay r]
    rcases calm_x (γ := Unit) (ht x) r1 with ⟨b, s, ρ2, q1, q2, q3, r2⟩ | q
    · have : s = b := q3
      subst this
      rw [q1]
      simp only [q2, R.calm_ok, R.bind_ok]
      cases s with
      | false =>
        simp only [Bool.false_eq_true, if_false]
        exact compO_run2 i hl hk ht he hce hw xs acc _ (wp _ r2)
      | true =>
        simp only [if_true]
        rcases calm_x (γ := Unit) (he x) r2 with ⟨y, t, ρ3, q4, q5, q6, r3⟩ | q
        · rw [q4]
          simp only [q5, R.calm_ok, R.bind_ok, hce _ _ q6, List.length_map]
          cases hz : szOk (acc.length + 1) with
          | false => simp only [Bool.false_eq_true, if_false]
          | true =>
            simp only [if_true]
            have := compO_run2 i hl hk ht he hce hw xs (acc ++ [y]) _ (wp _ r3)
            rw [List.map_append] at this
            exact this
        · rw [q]; trivial
    · rw [q]; trivial
theorem tm_compO (i : Nat) {φ : List D → List D} {es : List D} {vs : List Nat} {k : Sl → Env → Option Env} {tt : M Bool} {fe : M Sl} {e : α → D} {xs : List α} {Γk : α → List Cell} {pt : α → R Bool} {pe : α → R β} {ce : β → Sl → Prop} (e' : β → D) (hφ : φ es = xs.map e) (hl : LkC Γ i es) (h0 : wipeC Γ vs = Γ)
    (hk : ∀ x, TK k (e x) Γ (Γk x)) (ht : ∀ x, TM (Γk x) tt (pt x) isB (fun _ => Γk x)) (he : ∀ x, TM (Γk x) fe (pe x) ce (fun _ => Γk x)) (hce : ∀ v s, ce v s → s.d? = some (e' v)) (hw : ∀ x, wipeC (Γk x) vs = Γ) :
    TM Γ (mCompO i φ vs k tt fe) (compR pt pe xs []) (fun zs => isS (.lst (zs.map e'))) (fun _ => Γ) := by
  intro ρ r
  have := compO_run2 i hl hk ht he hce hw xs [] (wipeS ρ vs) (by have := r.wipe vs; rw [h0] at this; exact this)
  unfold mCompO
  simp only [hl.lk r, hφ]
  exact this
end
end
end Fx

set_option Elab.async false
set_option linter.all false
set_option maxRecDepth 100000
namespace Fx
open PySem L2
noncomputable section
/-! ### own defs -/
def Cell.isAny : Cell → Bool
  | .any => true
  | _ => false
/-- cells of a def's end: only what is handed on is known -/
def okP (pn : List Nat) : Nat → Nat → List Cell → Bool
  | _, _, [] => true
  | _, 0, _ :: _ => false
  | i, n + 1, c :: Γ => (c.isAny || decide (i ∈ pn)) && okP pn (i + 1) n Γ
theorem rel_back {pn : List Nat} : ∀ {Γ : List Cell} {ρ : Env} (i n : Nat), Rel Γ ρ → okP pn i n Γ = true → Rel Γ (backP pn i n ρ)
  | [], _, _, _, _, _ => .nil
  | c :: Γ, _, i, 0, _, h => by simp [okP] at h
  | c :: Γ, _, i, n + 1, .cons (s := s) (ρ := ρ) k t, h => by
    unfold okP at h
    rw [Bool.and_eq_true] at h
    unfold backP
    refine .cons ?_ (rel_back (i + 1) n t h.2)
    by_cases q : i ∈ pn
    · rw [if_pos q]; exact k
    · have h1 := h.1
      have : c.isAny = true := by simpa [q] using h1
      cases c with
      | any => exact trivial
      | _ => simp [Cell.isAny] at this
theorem rel_start {as : List Cell} {ss : List Sl} (r : Rel as ss) (h : ss.length = as.length) (k : Nat) : Rel (as ++ List.replicate k .any) (ss ++ List.replicate k .und) := by
  induction as generalizing ss with
  | nil =>
    have : ss = [] := List.eq_nil_of_length_eq_zero h
    subst this
    rw [List.nil_append, List.nil_append]
    clear h r
    induction k with
    | zero => exact .nil
    | succ k ih => exact .cons trivial ih
  | cons c as ih =>
    cases r with
    | cons q t => exact .cons q (ih t (by simpa using h))
section
variable {α β γ δ σ τ : Type} {Γ Γ' : List Cell}
theorem tf_mk {nN n : Nat} {pn : List Nat} {g : Ms} {as : List Cell} {p : R α} {c : α → Sl → Prop} {cs : α → List Cell} (h : TS (as ++ List.replicate (nN - n) .any) g p (pRt c cs)) (hp : ∀ v, okP pn 0 n (cs v) = true) : TF (mFn nN n pn g) as p c cs := by
  intro ss r hl
  have h1 := h _ (rel_start r hl (nN - n))
  cases p with
  | ok v =>
    obtain ⟨s, ρ, e, hs, hr⟩ := h1
    exact ⟨s, _, by unfold mFn; rw [e], hs, rel_back 0 n hr (hp v)⟩
  | ex x =>
    obtain ⟨ρ, e⟩ := h1
    exact ⟨_, by unfold mFn; rw [e]⟩
  | bad => trivial
/-- the end falls off -/
theorem tf_mkN {nN n : Nat} {pn : List Nat} {g : Ms} {as : List Cell} {p : R α} {c : α → Sl → Prop} {cs : α → List Cell} (h : TS (as ++ List.replicate (nN - n) .any) g p (pNx cs)) (hc : ∀ v, c v (.val .none)) (hp : ∀ v, okP pn 0 n (cs v) = true) : TF (mFn nN n pn g) as p c cs := by
  intro ss r hl
  have h1 := h _ (rel_start r hl (nN - n))
  cases p with
  | ok v =>
    obtain ⟨ρ, e, hr⟩ := h1
    exact ⟨_, _, by unfold mFn; rw [e], hc v, rel_back 0 n hr (hp v)⟩
  | ex x =>
    obtain ⟨ρ, e⟩ := h1
    exact ⟨_, by unfold mFn; rw [e]⟩
  | bad => trivial
theorem tf_mkM {nN n : Nat} {pn : List Nat} {g : Ms} {as : List Cell} {p : R (Out σ τ)} {c : τ → Sl → Prop} {Δ : σ → List Cell} {cs : τ → List Cell} (k : σ → τ) (h : TS (as ++ List.replicate (nN - n) .any) g p (pMx Δ c cs)) (hc : ∀ s, c (k s) (.val .none)) (hw : ∀ s, Wc (Δ s) (cs (k s))) (hp : ∀ v, okP pn 0 n (cs v) = true) : TF (mFn nN n pn g) as (p.bind fun o => o.go (fun s => .ok (k s)) .ok) c cs := by
  intro ss r hl
  have h1 := h _ (rel_start r hl (nN - n))
  cases p with
  | ok v =>
    cases v with
    | nx s =>
      obtain ⟨ρ, e, hr⟩ := h1
      exact ⟨_, _, by unfold mFn; rw [e], hc s, rel_back 0 n (hr.wk (hw s)) (hp _)⟩
    | rt v =>
      obtain ⟨s, ρ, e, hs, hr⟩ := h1
      exact ⟨s, _, by unfold mFn; rw [e], hs, rel_back 0 n hr (hp v)⟩
  | ex x =>
    obtain ⟨ρ, e⟩ := h1
    exact ⟨_, by unfold mFn; rw [e]⟩
  | bad => trivial
theorem tf_cv {m : List Sl → Fo} {as : List Cell} {p q : R α} {c : α → Sl → Prop} {cs : α → List Cell} (h : TF m as p c cs) (e : p = q) : TF m as q c cs := e ▸ h
/-! calls -/
def noOwn : List (Option Nat) → Bool
  | [] => true
  | none :: mv => noOwn mv
  | some _ :: _ => false
theorem putBack_no : ∀ {mv : List (Option Nat)} (ps : List Sl) (ρ : Env), noOwn mv = true → putBack mv ps ρ = ρ
  | [], _, _, _ => by unfold putBack; rfl
  | none :: mv, [], _, _ => by unfold putBack; rfl
  | none :: mv, _ :: ps, ρ, h => by unfold putBack; exact putBack_no ps ρ (by simpa [noOwn] using h)
  | some _ :: _, _, _, h => by simp [noOwn] at h
def putC : List (Option Nat) → List Cell → List Cell → List Cell
  | some i :: mv, c :: cs, Γ => putC mv cs (Γ.set i c)
  | none :: mv, _ :: cs, Γ => putC mv cs Γ
  | some i :: mv, [], Γ => putC mv [] (Γ.set i .any)
  | none :: mv, [], Γ => putC mv [] Γ
  | [], _, Γ => Γ
theorem Rel.setAny : ∀ {Γ : List Cell} {ρ : Env} {i : Nat}, Rel Γ ρ → Rel (Γ.set i .any) ρ
  | _, _, _, .nil => .nil
  | _, _, 0, .cons _ t => .cons trivial t
  | _, _, _ + 1, .cons h t => .cons h t.setAny
theorem rel_putBack : ∀ {mv : List (Option Nat)} {cs : List Cell} {ps : List Sl} {Γ : List Cell} {ρ : Env}, Rel cs ps → Rel Γ ρ → Rel (putC mv cs Γ) (putBack mv ps ρ)
  | [], cs, ps, _, _, _, r => by unfold putC putBack; exact r
  | some i :: mv, _, _, Γ, ρ, .cons k t, r => by unfold putC putBack; exact rel_putBack t (r.set k)
  | none :: mv, _, _, Γ, ρ, .cons k t, r => by unfold putC putBack; exact rel_putBack t r
  | some i :: mv, _, [], Γ, ρ, .nil, r => by
    have h := rel_putBack (mv := mv) (cs := []) (ps := []) (Γ := Γ.set i .any) (ρ := ρ) .nil r.setAny
    have e : putBack mv [] ρ = ρ := by cases mv with | nil => rfl | cons o _ => cases o <;> rfl
    rw [e] at h
    have e2 : putBack (some i :: mv) [] ρ = ρ := rfl
    rw [e2]
    unfold putC
    exact h
  | some i :: mv, _, s :: ps, Γ, ρ, .nil, r => by
    unfold putC putBack
    exact rel_putBack (ps := ps) .nil (Rel.set (c := .any) r trivial)
  | none :: mv, _, [], Γ, ρ, .nil, r => by
    have h := rel_putBack (mv := mv) (cs := []) (ps := []) (Γ := Γ) (ρ := ρ) .nil r
    have e : putBack mv [] ρ = ρ := by cases mv with | nil => rfl | cons o _ => cases o <;> rfl
    rw [e] at h
    have e2 : putBack (none :: mv) [] ρ = ρ := rfl
    rw [e2]
    unfold putC
    exact h
  | none :: mv, _, s :: ps, Γ, ρ, .nil, r => by unfold putC putBack; exact rel_putBack (ps := ps) .nil r
abbrev isR (as : List Cell) : List Sl → Prop := fun rs => Rel as rs ∧ rs.length = as.length
theorem isR_vals : ∀ ds : List D, isR (ds.map Cell.dat) (ds.map Sl.val)
  | [] => ⟨.nil, rfl⟩
  | d :: ds => ⟨.cons rfl (isR_vals ds).1, congrArg (· + 1) (isR_vals ds).2⟩
theorem isR_own {s : Sl} {as : List Cell} {rs : List Sl} (h : isR as rs) : isR (.own s :: as) (s :: rs) := ⟨.cons rfl h.1, congrArg (· + 1) h.2⟩
theorem isR_dat {d : D} {as : List Cell} {rs : List Sl} (h : isR as rs) : isR (.dat d :: as) (.val d :: rs) := ⟨.cons rfl h.1, congrArg (· + 1) h.2⟩
theorem call_leaf {m : List Sl → Fo} {mv : List (Option Nat)} {rs : List Sl} {as : List Cell} {p : R α} {c : α → Sl → Prop} {cs : α → List Cell} (hf : TF m as p c cs) (hr : isR as rs) : TM Γ (fun ρ1 => match m rs with
  | .rt r ps => .ok r (putBack mv ps ρ1)
  | .ex e ps => .ex e (putBack mv ps ρ1)
  | .bad => .bad) p c (fun v => putC mv (cs v) Γ) := by
  intro ρ r
  have h := hf rs hr.1 hr.2
  cases p with
  | ok v =>
    obtain ⟨s, ps, e, hs, hps⟩ := h
    exact ⟨s, _, by simp only [e], hs, rel_putBack hps r⟩
  | ex x =>
    obtain ⟨ps, e⟩ := h
    exact ⟨putBack mv ps ρ, by simp only [e]⟩
  | bad => trivial
theorem putC_no : ∀ {mv : List (Option Nat)} (cs Γ : List Cell), noOwn mv = true → putC mv cs Γ = Γ
  | [], _, _, _ => by unfold putC; rfl
  | none :: mv, [], _, h => by unfold putC; exact putC_no [] _ (by simpa [noOwn] using h)
  | none :: mv, _ :: cs, Γ, h => by unfold putC; exact putC_no cs Γ (by simpa [noOwn] using h)
  | some _ :: _, _, _, h => by simp [noOwn] at h
/-- all arguments are values -/
theorem te_callV {m : List Sl → Fo} {mv : List (Option Nat)} {fs : M (List Sl)} {ds : List D} {as : List Cell} {p : R α} {c : α → Sl → Prop} {cs : α → List Cell} (hf : TF m as p c cs) (ha : TV Γ fs (isA ds)) (has : ds.map Cell.dat = as) (hm : noOwn mv = true) : TM Γ (mCall m mv fs) p c (fun _ => Γ) := by
  have := tm_bind (K := fun rs ρ1 => match m rs with
    | .rt r ps => .ok r (putBack mv ps ρ1)
    | .ex e ps => .ex e (putBack mv ps ρ1)
    | .bad => .bad) (q := fun _ => p) (c' := c) (Δ' := fun _ => Γ) (tm_of ha) fun _ rs er => by
      have er' : rs = ds.map Sl.val := er
      subst er'
      subst has
      have := call_leaf (mv := mv) (Γ := Γ) hf (isR_vals ds)
      simp only [putC_no _ _ hm] at this
      exact this
  exact this
theorem te_callE {m : List Sl → Fo} {mv : List (Option Nat)} {fs : M (List Sl)} {pa : R β} {ds : β → List D} {as : β → List Cell} {p : β → R α} {c : α → Sl → Prop} {cs : β → α → List Cell} {Δ : List Cell} (hf : ∀ w, TF m (as w) (p w) c (cs w)) (ha : TM Γ fs pa (fun w => isA (ds w)) (fun _ => Δ)) (has : ∀ w, (ds w).map Cell.dat = as w) (hm : noOwn mv = true) : TM Γ (mCall m mv fs) (pa.bind p) c (fun _ => Δ) :=
  tm_bind ha fun w rs er => by
    have er' : rs = (ds w).map Sl.val := er
    subst er'
    have h1 := hf w
    rw [← has w] at h1
    have := call_leaf (mv := mv) (Γ := Δ) h1 (isR_vals (ds w))
    simp only [putC_no _ _ hm] at this
    exact this
/-- something is handed on, nothing else draws -/
theorem te_callO {m : List Sl → Fo} {mv : List (Option Nat)} {fs : M (List Sl)} {as Δ : List Cell} {p : R α} {c : α → Sl → Prop} {cs : α → List Cell} (hf : TF m as p c cs) (ha : TM Γ fs (.ok ()) (fun _ : Unit => isR as) (fun _ => Δ)) : TM Γ (mCall m mv fs) p c (fun v => putC mv (cs v) Δ) := by
  have := tm_bind (K := fun rs ρ1 => match m rs with
    | .rt r ps => .ok r (putBack mv ps ρ1)
    | .ex e ps => .ex e (putBack mv ps ρ1)
    | .bad => .bad) (q := fun _ => p) (c' := c) (Δ' := fun v => putC mv (cs v) Δ) ha fun _ rs er => call_leaf hf er
  exact this
theorem te_callOE {m : List Sl → Fo} {mv : List (Option Nat)} {fs : M (List Sl)} {pa : R β} {as : β → List Cell} {p : β → R α} {c0 : α → Sl → Prop} {c : δ → Sl → Prop} {cs : β → α → List Cell} {Δa : β → List Cell} {Δ : δ → List Cell} (pk : β → α → δ) (hf : ∀ w, TF m (as w) (p w) c0 (cs w)) (ha : TM Γ fs pa (fun w => isR (as w)) Δa) (hc : ∀ w v s, c0 v s → c (pk w v) s) (hΔ : ∀ w v, Wc (putC mv (cs w v) (Δa w)) (Δ (pk w v))) : TM Γ (mCall m mv fs) (pa.bind fun w => (p w).bind fun v => .ok (pk w v)) c Δ :=
  tm_bind ha fun w rs er => tm_pack (pk w) (call_leaf (hf w) er) (hc w) (hΔ w)
/-! arguments of which some are handed on -/
theorem tr_of {fs : M (List Sl)} {ds : List D} (h : TV Γ fs (isA ds)) : TM Γ fs (.ok ()) (fun _ : Unit => isR (ds.map Cell.dat)) (fun _ => Γ) := by
  intro ρ r
  obtain ⟨rs, ρ', e, h1, h2⟩ := h ρ r
  have h1' : rs = ds.map Sl.val := h1
  subst h1'
  exact ⟨_, ρ', e, isR_vals ds, h2⟩
theorem tr_ofE {fs : M (List Sl)} {p : R α} {ds : α → List D} {Δ : α → List Cell} (h : TM Γ fs p (fun v => isA (ds v)) Δ) : TM Γ fs p (fun v => isR ((ds v).map Cell.dat)) Δ := by
  intro ρ r
  have h1 := h ρ r
  cases p with
  | ok v =>
    obtain ⟨rs, ρ', e, h1, h2⟩ := h1
    have h1' : rs = (ds v).map Sl.val := h1
    subst h1'
    exact ⟨_, ρ', e, isR_vals (ds v), h2⟩
  | ex x => exact h1
  | bad => trivial
theorem tr_v {fa : M Sl} {fr : M (List Sl)} {pr : R α} {d : D} {as : α → List Cell} {Δ : α → List Cell} (ha : TV Γ fa (isD d)) (hr : TM Γ fr pr (fun v => isR (as v)) Δ) : TM Γ (mArg fa fr) pr (fun v => isR (.dat d :: as v)) Δ :=
  ta_ve ha hr fun _ _ h => isR_dat h
theorem tr_e {fa : M Sl} {fr : M (List Sl)} {pa : R α} {d : α → D} {as : α → List Cell} {Δa Δr : α → List Cell} (ha : TM Γ fa pa (fun v => isD (d v)) Δa) (hr : ∀ v, TM (Δa v) fr (.ok ()) (fun _ : Unit => isR (as v)) (fun _ => Δr v)) : TM Γ (mArg fa fr) pa (fun v => isR (.dat (d v) :: as v)) Δr := by
  have := ta_ee (c' := fun v => isR (.dat (d v) :: as v)) (Δ := Δr) (fun v _ => v) ha hr (fun v w rs h => isR_dat h) (fun v w => Wc.refl _)
  have e : (pa.bind fun v => (R.ok ()).bind fun w => R.ok ((fun v _ => v) v w)) = pa := by cases pa <;> rfl
  rw [e] at this
  exact this
theorem tr_own (i : Nat) {fr : M (List Sl)} {pr : R α} {as : α → List Cell} {s0 : Sl} {s : α → Sl} {Δ : α → List Cell} (h0 : Γ[i]? = some (.own s0)) (ht : s0.there = true) (hr : TM Γ fr pr (fun v => isR (as v)) Δ) (hs : ∀ v, (Δ v)[i]? = some (.own (s v))) (ht2 : ∀ v, (s v).there = true) :
    TM Γ (mArgO i fr) pr (fun v => isR (.own (s v) :: as v)) (fun v => (Δ v).set i .any) :=
  ta_own i h0 ht hr hs ht2 fun _ _ h => isR_own h
/-! ### frozen where it is fresh -/
theorem tv_f {f : M Sl} {t : Sl} {d : D} (h : TV Γ f (isS t)) (e : t.d? = some d) : TV Γ f (isD d) := by
  intro ρ r
  obtain ⟨s, ρ', e1, hs, hr⟩ := h ρ r
  have hs' : s = t := hs
  exact ⟨s, ρ', e1, by rw [hs']; exact e, hr⟩
theorem te_f {f : M Sl} {p : R α} {t : α → Sl} {d : α → D} {Δ : α → List Cell} (h : TM Γ f p (fun v => isS (t v)) Δ) (e : ∀ v, (t v).d? = some (d v)) : TM Γ f p (fun v => isD (d v)) Δ := by
  intro ρ r
  have h1 := h ρ r
  cases p with
  | ok v =>
    obtain ⟨s, ρ', e1, hs, hr⟩ := h1
    have hs' : s = t v := hs
    exact ⟨s, ρ', e1, by rw [hs']; exact e v, hr⟩
  | ex x => exact h1
  | bad => trivial
/-! ### what is walked -/
theorem ti_seqV {f : M Sl} {d : D} {ds : List D} (h : TV Γ f (isD d)) (hs : D.seq? d = some ds) : TV Γ (mSeqI f) (isL ds) := by
  refine tv_bind h fun s es ρ r => ?_
  have es' : s.d? = some d := es
  exact ⟨ds, ρ, by simp only [es', hs], rfl, r⟩
theorem ti_seq {f : M Sl} {p : R α} {d : α → D} {ds : α → List D} {Δ : α → List Cell} (h : TM Γ f p (fun v => isD (d v)) Δ) (hs : ∀ v, D.seq? (d v) = some (ds v)) : TM Γ (mSeqI f) p (fun v => isL (ds v)) Δ := by
  intro ρ r
  have h1 := h ρ r
  cases p with
  | ok v =>
    obtain ⟨s, ρ', e, es, hr⟩ := h1
    have es' : s.d? = some (d v) := es
    exact ⟨ds v, ρ', by unfold mSeqI; simp only [e, Rs.bd, es', hs v], rfl, hr⟩
  | ex x =>
    obtain ⟨ρ', e⟩ := h1
    exact ⟨ρ', by unfold mSeqI; simp only [e, Rs.bd]⟩
  | bad => trivial
def irange (a b : Int) : List Int := (List.range (b - a).toNat).map fun i => a + (i : Nat)
def rg1 (j : Int) : R (List Int) := if rgOk j = true then .ok (irange 0 j) else .bad
def rg2 (i j : Int) : R (List Int) := if rgOk i = true then (if rgOk j = true then .ok (irange i j) else .bad) else .bad
theorem irange_int (a b : Int) : (irange a b).map PyData.int = rgD a b := by
  unfold irange rgD; rw [List.map_map]; rfl
theorem rg1_leaf {rs : List Sl} {j : Int} (h : isA [.int j] rs) : TM Γ (fun ρ1 => match rs with
  | [.val (.int j)] => match rgOk j with
    | true => .ok ((List.range j.toNat).map fun i => .int (0 + (i : Nat))) ρ1
    | false => .bad
  | _ => .bad) (rg1 j) (fun xs => isL (xs.map PyData.int)) (fun _ => Γ) := by
  intro ρ r
  have h' : rs = [.val (.int j)] := h
  subst h'
  unfold rg1
  cases q : rgOk j with
  | true =>
    simp only [if_true]
    refine ⟨_, ρ, by simp only [q]; rfl, ?_, r⟩
    show _ = (irange 0 j).map PyData.int
    rw [irange_int]; unfold rgD; simp
  | false => simp only [Bool.false_eq_true, if_false]
theorem ti_rg1V {fs : M (List Sl)} {j : Int} (h : TV Γ fs (isA [.int j])) : TM Γ (mRg1 fs) (rg1 j) (fun xs => isL (xs.map PyData.int)) (fun _ => Γ) := by
  have := tm_bind (q := fun _ : Unit => rg1 j) (tm_of h) fun _ rs er => rg1_leaf er
  exact this
theorem ti_rg1 {fs : M (List Sl)} {p : R α} {j : α → Int} {Δ : List Cell} (h : TM Γ fs p (fun v => isA [.int (j v)]) (fun _ => Δ)) : TM Γ (mRg1 fs) (p.bind fun v => rg1 (j v)) (fun xs => isL (xs.map PyData.int)) (fun _ => Δ) :=
  tm_bind h fun v rs er => rg1_leaf er
theorem ti_rg1S {fs : M (List Sl)} {p : R α} {j : α → Int} {Δ : α → List Cell} (h : TM Γ fs p (fun v => isA [.int (j v)]) Δ) : TM Γ (mRg1 fs) (p.bind fun v => (rg1 (j v)).bind fun xs => .ok (xs, v)) (fun z => isL (z.1.map PyData.int)) (fun z => Δ z.2) :=
  tm_bind h fun v rs er => tm_pack (fun xs => (xs, v)) (rg1_leaf er) (fun _ _ h => h) (fun _ => Wc.refl _)
theorem rg2_leaf {rs : List Sl} {i j : Int} (h : isA [.int i, .int j] rs) : TM Γ (fun ρ1 => match rs with
  | [.val (.int i), .val (.int j)] => match rgOk i, rgOk j with
    | true, true => .ok (rgD i j) ρ1
    | _, _ => .bad
  | _ => .bad) (rg2 i j) (fun xs => isL (xs.map PyData.int)) (fun _ => Γ) := by
  intro ρ r
  have h' : rs = [.val (.int i), .val (.int j)] := h
  subst h'
  unfold rg2
  cases q : rgOk i with
  | true =>
    simp only [if_true]
    cases q2 : rgOk j with
    | true =>
      simp only [if_true]
      exact ⟨rgD i j, ρ, by simp only [q, q2], (irange_int i j).symm, r⟩
    | false => simp only [Bool.false_eq_true, if_false]
  | false => simp only [Bool.false_eq_true, if_false]
theorem ti_rg2V {fs : M (List Sl)} {i j : Int} (h : TV Γ fs (isA [.int i, .int j])) : TM Γ (mRg2 fs) (rg2 i j) (fun xs => isL (xs.map PyData.int)) (fun _ => Γ) := by
  have := tm_bind (q := fun _ : Unit => rg2 i j) (tm_of h) fun _ rs er => rg2_leaf er
  exact this
theorem ti_rg2 {fs : M (List Sl)} {p : R α} {i j : α → Int} {Δ : List Cell} (h : TM Γ fs p (fun v => isA [.int (i v), .int (j v)]) (fun _ => Δ)) : TM Γ (mRg2 fs) (p.bind fun v => rg2 (i v) (j v)) (fun xs => isL (xs.map PyData.int)) (fun _ => Δ) :=
  tm_bind h fun v rs er => rg2_leaf er
/-- enumerate, zip -/
def ienum {α : Type} : Nat → List α → List (Int × α)
  | _, [] => []
  | n, a :: l => ((n : Int), a) :: ienum (n + 1) l
def eP2 (ea : α → D) (eb : β → D) : α × β → D := fun x => .tuple [ea x.1, eb x.2]
def eP3 (ea : α → D) (eb : β → D) (ec : γ → D) : α × β × γ → D := fun x => .tuple [ea x.1, eb x.2.1, ec x.2.2]
def eP4 (ea : α → D) (eb : β → D) (ec : γ → D) (ed : δ → D) : α × β × γ × δ → D := fun x => .tuple [ea x.1, eb x.2.1, ec x.2.2.1, ed x.2.2.2]
def eL (e : α → D) : List α → D := fun xs => .list (xs.map e)
def eT (e : α → D) : List α → D := fun xs => .tuple (xs.map e)
def eO (e : α → D) : Option α → D
  | none => .none
  | some a => e a
theorem enumD_map (e : α → D) (xs : List α) : enumD (xs.map e) = (ienum 0 xs).map (eP2 PyData.int e) := by
  have go : ∀ (xs : List α) (n : Nat), ((List.range' n xs.length).zipWith (fun i d => PyData.tuple [.int (i : Nat), d]) (xs.map e)) = (ienum n xs).map (eP2 PyData.int e) := by
    intro xs
    induction xs with
    | nil => intro n; rfl
    | cons a l ih =>
      intro n
      rw [List.length_cons, List.range'_succ, List.map_cons, List.zipWith_cons_cons, ih (n + 1)]
      rfl
  unfold enumD
  rw [List.length_map, List.range_eq_range']
  exact go xs 0
theorem ti_enum {fs : M (List Sl)} {p : R α} {d : α → D} {xs : α → List β} {e : β → D} {Δ : α → List Cell} (h : TM Γ fs p (fun v => isA [d v]) Δ) (hs : ∀ v, D.seq? (d v) = some ((xs v).map e)) : TM Γ (mEnum fs) p (fun v => isL ((ienum 0 (xs v)).map (eP2 PyData.int e))) Δ := by
  intro ρ r
  have h1 := h ρ r
  cases p with
  | ok v =>
    obtain ⟨s, ρ', e1, es, hr⟩ := h1
    have es' : s = [.val (d v)] := es
    subst es'
    exact ⟨_, ρ', by unfold mEnum; simp only [e1, Rs.bd]; rw [show dAll [Sl.val (d v)] = some [d v] from rfl]; simp only [hs v], (enumD_map e (xs v)), hr⟩
  | ex x =>
    obtain ⟨ρ', e1⟩ := h1
    exact ⟨ρ', by unfold mEnum; simp only [e1, Rs.bd]⟩
  | bad => trivial
theorem enumO (e : α → D) (xs : List α) : enumD (xs.map e) = (ienum 0 xs).map (eP2 PyData.int e) := enumD_map e xs
theorem zipD_map (e : α → D) (e' : β → D) : ∀ (xs : List α) (ys : List β), zipD (xs.map e) (ys.map e') = (xs.zip ys).map (eP2 e e')
  | [], _ => rfl
  | _ :: _, [] => rfl
  | x :: xs, y :: ys => by
    have := zipD_map e e' xs ys
    unfold zipD at this ⊢
    rw [List.map_cons, List.map_cons, List.zipWith_cons_cons, this]
    rfl
theorem ti_zipL {fs : M (List Sl)} {xs : List α} {ys : List β} {e : α → D} {e' : β → D} (h : TV Γ fs (isA [eL e xs, eL e' ys])) : TV Γ (mZip fs) (isL ((xs.zip ys).map (eP2 e e'))) := by
  refine tv_bind h fun rs er ρ r => ?_
  have er' : rs = [.val (eL e xs), .val (eL e' ys)] := er
  subst er'
  exact ⟨_, ρ, rfl, zipD_map e e' xs ys, r⟩
theorem ti_zipT {fs : M (List Sl)} {xs : List α} {ys : List β} {e : α → D} {e' : β → D} (h : TV Γ fs (isA [eT e xs, eT e' ys])) : TV Γ (mZip fs) (isL ((xs.zip ys).map (eP2 e e'))) := by
  refine tv_bind h fun rs er ρ r => ?_
  have er' : rs = [.val (eT e xs), .val (eT e' ys)] := er
  subst er'
  exact ⟨_, ρ, rfl, zipD_map e e' xs ys, r⟩
/-! ### slices -/
theorem tp_none : TV Γ mNoPart (fun o => o = none) := fun ρ r => ⟨none, ρ, rfl, rfl, r⟩
theorem tp_some {f : M Sl} {i : Int} (h : TV Γ f (isD (.int i))) : TV Γ (mPart f) (fun o => o = some i) := by
  refine tv_bind h fun s es ρ r => ?_
  have es' : s.d? = some (.int i) := es
  have : s = .val (.int i) := by
    cases s <;> simp [Sl.d?] at es'
    subst es'; rfl
  subst this
  exact ⟨_, ρ, rfl, rfl, r⟩
def cutT {α : Type} (xs : List α) (lo hi : Option Int) : List α := (xs.drop (HT.sIx xs.length 0 lo)).take (HT.sIx xs.length xs.length hi - HT.sIx xs.length 0 lo)
theorem cutL_map (e : α → D) (xs : List α) (lo hi : Option Int) : cutL (xs.map e) lo hi = (cutT xs lo hi).map e := by
  unfold cutL cutT
  rw [List.length_map, List.map_take, List.map_drop]
theorem tv_slice {fa : M Sl} {fl fh : M (Option Int)} {a : D} {lo hi : Option Int} {c : Sl → Prop} {s : Sl} (ha : TV Γ fa (isD a)) (hl : TV Γ fl (fun o => o = lo)) (hh : TV Γ fh (fun o => o = hi)) (hg : gSl a lo hi = some s) (hc : c s) : TV Γ (mSlice fa fl fh) c := by
  refine tv_bind ha fun ra ea => tv_bind hl fun l el => tv_bind hh fun h eh ρ r => ?_
  have ea' : ra.d? = some a := ea
  subst el
  subst eh
  exact ⟨s, ρ, by simp only [ea', hg], hc, r⟩
theorem te_slice {fa : M Sl} {fl fh : M (Option Int)} {pa : R α} {a : α → D} {lo hi : Option Int} {c : α → Sl → Prop} {s : α → Sl} {Δ : α → List Cell} (ha : TM Γ fa pa (fun v => isD (a v)) Δ) (hl : ∀ v, TV (Δ v) fl (fun o => o = lo)) (hh : ∀ v, TV (Δ v) fh (fun o => o = hi)) (hg : ∀ v, gSl (a v) lo hi = some (s v)) (hc : ∀ v, c v (s v)) : TM Γ (mSlice fa fl fh) pa c Δ := by
  have := tm_bind (K := fun ra ρ1 => (fl ρ1).bd fun lo ρ2 => (fh ρ2).bd fun hi ρ3 => match ra.d? with
    | some a => match gSl a lo hi with
      | some r => .ok r ρ3
      | none => .bad
    | none => .bad) (q := fun v => R.ok v) (c' := c) (Δ' := Δ) ha fun v ra ea => by
      intro ρ r
      obtain ⟨l, ρ1, e1, q1, r1⟩ := hl v ρ r
      obtain ⟨h, ρ2, e2, q2, r2⟩ := hh v ρ1 r1
      have ea' : ra.d? = some (a v) := ea
      subst q1
      subst q2
      exact ⟨s v, ρ2, by simp only [e1, e2, Rs.bd, ea', hg v], hc v, r2⟩
  rw [R.bind_id] at this
  exact this
/-! ### what a name owns, looked at -/
theorem tv_lenO (i : Nat) {ds : List D} {n : Int} (h : Γ[i]? = some (.own (.lst ds))) (hn : (ds.length : Int) = n) : TV Γ (mLenO i) (isD (.int n)) := by
  intro ρ r
  obtain ⟨s, e, hs⟩ := r.get h
  have hs' : s = .lst ds := hs
  subst hs'
  exact ⟨.val (.int ds.length), ρ, by unfold mLenO; simp only [e], by rw [← hn]; rfl, r⟩
theorem te_ixO (i : Nat) {fb : M Sl} {xs : List α} {e : α → D} {k : Int} (h : Γ[i]? = some (.own (.lst (xs.map e)))) (hb : TV Γ fb (isD (.int k))) (hm : ∀ (k : Int), L2.atI (xs.map e) k = (L2.atI xs k).map e) : TM Γ (mIxO i fb) (.ofO (L2.atI xs k)) (fun v => isD (e v)) (fun _ => Γ) := by
  intro ρ r
  obtain ⟨s, e1, hs⟩ := r.get h
  have hs' : s = .lst (xs.map e) := hs
  subst hs'
  obtain ⟨rb, ρ1, e2, eb, r1⟩ := hb ρ r
  obtain ⟨s, e3, hs⟩ := r1.get h
  have hs' : s = .lst (xs.map e) := hs
  subst hs'
  have eb' : rb.d? = some (.int k) := eb
  have : rb = .val (.int k) := by
    cases rb <;> simp [Sl.d?] at eb'
    subst eb'; rfl
  subst this
  cases q : L2.atI xs k with
  | none => trivial
  | some v =>
    refine ⟨.val (e v), ρ1, ?_, rfl, r1⟩
    unfold mIxO
    simp only [e1, e2, Rs.bd, e3, hm, q, Option.map_some]
theorem atI_map (e : α → D) (xs : List α) (k : Int) : L2.atI (xs.map e) k = (L2.atI xs k).map e := by
  unfold L2.atI
  rw [List.length_map]
  cases ixN xs.length k with
  | none => rfl
  | some j => simp
/-- a place of fixed form -/
theorem tv_ixO (i : Nat) {fb : M Sl} {ds : List D} {k : Int} {d : D} (h : Γ[i]? = some (.own (.lst ds))) (hb : TV Γ fb (isD (.int k))) (hk : L2.atI ds k = some d) : TV Γ (mIxO i fb) (isD d) := by
  intro ρ r
  obtain ⟨s, e1, hs⟩ := r.get h
  have hs' : s = .lst ds := hs
  subst hs'
  obtain ⟨rb, ρ1, e2, eb, r1⟩ := hb ρ r
  obtain ⟨s, e3, hs⟩ := r1.get h
  have hs' : s = .lst ds := hs
  subst hs'
  have eb' : rb.d? = some (.int k) := eb
  have : rb = .val (.int k) := by
    cases rb <;> simp [Sl.d?] at eb'
    subst eb'; rfl
  subst this
  exact ⟨.val d, ρ1, by unfold mIxO; simp only [e1, e2, Rs.bd, e3, hk], rfl, r1⟩
def setR {α : Type} (xs : List α) (k : Int) (v : α) : R (List α) := match ixN xs.length k with
  | some j => .ok (xs.set j v)
  | none => .bad
theorem ts_setIx (i : Nat) {fi fe : M Sl} {xs : List α} {e : α → D} {k : Int} {v : α} (h : Γ[i]? = some (.own (.lst (xs.map e)))) (he : TV Γ fe (isD (e v))) (hi : TV Γ fi (isD (.int k))) : TS Γ (mSetIx i fi fe) (setR xs k v) (pNx fun ys => Γ.set i (.own (.lst (ys.map e)))) := by
  intro ρ r
  obtain ⟨re, ρ0, e0, ee, r0⟩ := he ρ r
  obtain ⟨s, e1, hs⟩ := r0.get h
  have hs' : s = .lst (xs.map e) := hs
  subst hs'
  obtain ⟨rb, ρ1, e2, eb, r1⟩ := hi ρ0 r0
  obtain ⟨s, e3, hs⟩ := r1.get h
  have hs' : s = .lst (xs.map e) := hs
  subst hs'
  have ee' : re.d? = some (e v) := ee
  have eb' : rb.d? = some (.int k) := eb
  have : rb = .val (.int k) := by
    cases rb <;> simp [Sl.d?] at eb'
    subst eb'; rfl
  subst this
  unfold setR
  cases q : ixN xs.length k with
  | none => trivial
  | some j =>
    refine ⟨ρ1.set i (.lst ((xs.set j v).map e)), ?_, r1.set rfl⟩
    unfold mSetIx
    simp only [e0, Rs.st, ee', e1, e2, e3, List.length_map, q, List.map_set]
/-- a method of an own list, as a statement -/
def OpM (o : Option (Sl × Sl)) (q : R γ) (s : γ → Sl) (c : γ → Sl → Prop) : Prop := match q with
  | .ok v => ∃ r, o = some (s v, r) ∧ c v r
  | .ex _ => False
  | .bad => True
theorem te_meth (i : Nat) {T : String} {g : Sl → List D → Option (Sl × Sl)} {fs : M (List Sl)} {s : Sl} {ds : List D} {q : R γ} {s' : γ → Sl} {c : γ → Sl → Prop} (h : Γ[i]? = some (.own s)) (hT : (s.ty == T) = true) (ha : TV Γ fs (isA ds)) (ho : OpM (g s ds) q s' c) : TM Γ (mMeth i T g fs) q c (fun v => Γ.set i (.own (s' v))) := by
  intro ρ r
  obtain ⟨t, e1, ht⟩ := r.get h
  have ht' : t = s := ht
  subst ht'
  obtain ⟨rs, ρ1, e2, er, r1⟩ := ha ρ r
  have er' : rs = ds.map Sl.val := er
  subst er'
  obtain ⟨t2, e3, ht2⟩ := r1.get h
  have ht2' : t2 = t := ht2
  subst ht2'
  cases q with
  | ok v =>
    obtain ⟨rr, e4, hc⟩ := ho
    exact ⟨rr, ρ1.set i (s' v), by unfold mMeth; simp only [e1, hT, e2, Rs.bd, dAll_vals, e3, e4], hc, r1.set rfl⟩
  | ex _ => exact ho.elim
  | bad => trivial
theorem te_methE (i : Nat) {T : String} {g : Sl → List D → Option (Sl × Sl)} {fs : M (List Sl)} {pa : R α} {s : Sl} {s1 : α → Sl} {ds : α → List D} {q : α → R γ} {s' : α → γ → Sl} {c0 : α → γ → Sl → Prop} {c : δ → Sl → Prop} {Δa : α → List Cell} {Δ : δ → List Cell} (pk : α → γ → δ) (h : Γ[i]? = some (.own s)) (hT : (s.ty == T) = true) (ha : TM Γ fs pa (fun w => isA (ds w)) Δa) (h1 : ∀ w, (Δa w)[i]? = some (.own (s1 w)))
    (ho : ∀ w, OpM (g (s1 w) (ds w)) (q w) (s' w) (c0 w)) (hc : ∀ w v r, c0 w v r → c (pk w v) r) (hΔ : ∀ w v, Wc ((Δa w).set i (.own (s' w v))) (Δ (pk w v))) : TM Γ (mMeth i T g fs) (pa.bind fun w => (q w).bind fun v => .ok (pk w v)) c Δ := by
  intro ρ r
  obtain ⟨t, e1, ht⟩ := r.get h
  have ht' : t = s := ht
  subst ht'
  have hh := ha ρ r
  cases pa with
  | ok w =>
    obtain ⟨rs, ρ1, e2, er, r1⟩ := hh
    have er' : rs = (ds w).map Sl.val := er
    subst er'
    obtain ⟨t2, e3, ht2⟩ := r1.get (h1 w)
    have ht2' : t2 = s1 w := ht2
    subst ht2'
    have ho' := ho w
    simp only [R.bind_ok]
    cases eq : q w with
    | ok v =>
      rw [eq] at ho'
      obtain ⟨rr, e4, hcc⟩ := ho'
      exact ⟨rr, ρ1.set i (s' w v), by unfold mMeth; simp only [e1, hT, e2, Rs.bd, dAll_vals, e3, e4], hc _ _ _ hcc, Rel.wk (Rel.set (c := .own (s' w v)) r1 rfl) (hΔ w v)⟩
    | ex _ => rw [eq] at ho'; exact ho'.elim
    | bad => trivial
  | ex x =>
    obtain ⟨ρ', e2⟩ := hh
    exact ⟨ρ', by unfold mMeth; simp only [e1, hT, e2, Rs.bd]⟩
  | bad => trivial
/-- comparisons of what a name owns -/
theorem Rel.pk {i : Nat} {d : D} {ρ : Env} (r : Rel Γ ρ) (h : Γ[i]? = some (.dat d) ∨ ∃ s, Γ[i]? = some (.own s) ∧ s.d? = some d) : pk i ρ = some d := by
  unfold Fx.pk
  rcases h with h | ⟨s, h, e⟩
  · obtain ⟨t, e1, ht⟩ := r.get h
    rw [e1]; exact ht
  · obtain ⟨t, e1, ht⟩ := r.get h
    have ht' : t = s := ht
    rw [e1, ht']; exact e
abbrev PkC (Γ : List Cell) (i : Nat) (d : D) : Prop := Γ[i]? = some (.dat d) ∨ ∃ s, Γ[i]? = some (.own s) ∧ s.d? = some d
theorem te_OL {g : D → D → Option Sl} (i : Nat) {fb : M Sl} {a b : D} {q : R γ} {c : γ → Sl → Prop} (h : PkC Γ i a) (hb : TV Γ fb (isD b)) (ho : OpF (g a b) q c) : TM Γ (mBinOL g i fb) q c (fun _ => Γ) := by
  intro ρ r
  obtain ⟨rb, ρ1, e2, eb, r1⟩ := hb ρ r
  have eb' : rb.d? = some b := eb
  cases q with
  | ok v =>
    obtain ⟨s, e3, hc⟩ := ho
    exact ⟨s, ρ1, by unfold mBinOL; simp only [r.pk h, e2, Rs.bd, r1.pk h, eb', e3], hc, r1⟩
  | ex _ => exact ho.elim
  | bad => trivial
theorem tv_OL {g : D → D → Option Sl} (i : Nat) {fb : M Sl} {a b : D} {c : Sl → Prop} {s : Sl} (h : PkC Γ i a) (hb : TV Γ fb (isD b)) (ho : g a b = some s) (hc : c s) : TV Γ (mBinOL g i fb) c := by
  intro ρ r
  obtain ⟨rb, ρ1, e2, eb, r1⟩ := hb ρ r
  have eb' : rb.d? = some b := eb
  exact ⟨s, ρ1, by unfold mBinOL; simp only [r.pk h, e2, Rs.bd, r1.pk h, eb', ho], hc, r1⟩
theorem tv_OR {g : D → D → Option Sl} (i : Nat) {fa : M Sl} {a b : D} {c : Sl → Prop} {s : Sl} (ha : TV Γ fa (isD a)) (h : PkC Γ i b) (ho : g a b = some s) (hc : c s) : TV Γ (mBinOR g fa i) c := by
  intro ρ r
  obtain ⟨ra, ρ1, e2, ea, r1⟩ := ha ρ r
  have ea' : ra.d? = some a := ea
  exact ⟨s, ρ1, by unfold mBinOR; simp only [r1.pk h, e2, Rs.bd, ea', ho], hc, r1⟩
theorem te_OR {g : D → D → Option Sl} (i : Nat) {fa : M Sl} {pa : R α} {a : α → D} {b : D} {q : α → R γ} {c : γ → Sl → Prop} (ha : TM Γ fa pa (fun v => isD (a v)) (fun _ => Γ)) (h : PkC Γ i b) (ho : ∀ v, OpF (g (a v) b) (q v) c) : TM Γ (mBinOR g fa i) (pa.bind q) c (fun _ => Γ) := by
  intro ρ r
  have hh := ha ρ r
  cases pa with
  | ok v =>
    obtain ⟨ra, ρ1, e2, ea, r1⟩ := hh
    have ea' : ra.d? = some (a v) := ea
    have ho' := ho v
    simp only [R.bind_ok]
    cases eq : q v with
    | ok w =>
      rw [eq] at ho'
      obtain ⟨s, e3, hc⟩ := ho'
      exact ⟨s, ρ1, by unfold mBinOR; simp only [r1.pk h, e2, Rs.bd, ea', e3], hc, r1⟩
    | ex _ => rw [eq] at ho'; exact ho'.elim
    | bad => trivial
  | ex x =>
    obtain ⟨ρ1, e2⟩ := hh
    exact ⟨ρ1, by unfold mBinOR; simp only [e2, Rs.bd]⟩
  | bad => trivial
theorem tv_OO {g : D → D → Option Sl} (i j : Nat) {a b : D} {c : Sl → Prop} {s : Sl} (h : PkC Γ i a) (h2 : PkC Γ j b) (ho : g a b = some s) (hc : c s) : TV Γ (mBinOO g i j) c := fun ρ r =>
  ⟨s, ρ, by unfold mBinOO; simp only [r.pk h, r.pk h2, ho], hc, r⟩
theorem tv_isiO {T : String} (i : Nat) {d : D} {b : Bool} (h : PkC Γ i d) (ho : isiD T d = some b) : TV Γ (mIsiO T i) (isD (.bool b)) := fun ρ r =>
  ⟨.val (.bool b), ρ, by unfold mIsiO; simp only [r.pk h, ho], rfl, r⟩
/-! a op b op c -/
theorem tv_chain {g g' : D → D → Option Sl} {fa fb fc : M Sl} {a b c : D} {x y : Bool} (ha : TV Γ fa (isD a)) (hb : TV Γ fb (isD b)) (hc : TV Γ fc (isD c)) (ho : g a b = some (.val (.bool x))) (ho2 : g' b c = some (.val (.bool y))) : TV Γ (mChain g g' fa fb fc) (isD (.bool (x && y))) := by
  intro ρ r
  obtain ⟨ra, ρ1, e1, ea, r1⟩ := ha ρ r
  obtain ⟨rb, ρ2, e2, eb, r2⟩ := hb ρ1 r1
  obtain ⟨rc, ρ3, e3, ec, r3⟩ := hc ρ2 r2
  have ea' : ra.d? = some a := ea
  have eb' : rb.d? = some b := eb
  have ec' : rc.d? = some c := ec
  unfold mChain
  cases x with
  | true => exact ⟨.val (.bool y), ρ3, by simp only [e1, e2, e3, Rs.bd, ea', eb', ec', ho, ho2], rfl, r3⟩
  | false => exact ⟨.val (.bool false), ρ2, by simp only [e1, e2, Rs.bd, ea', eb', ho], rfl, r2⟩
theorem te_chainM {g g' : D → D → Option Sl} {fa fb fc : M Sl} {pb : R α} {a c : D} {b : α → D} {x y : α → Bool} (ha : TV Γ fa (isD a)) (hb : TM Γ fb pb (fun v => isD (b v)) (fun _ => Γ)) (hc : TV Γ fc (isD c)) (ho : ∀ v, g a (b v) = some (.val (.bool (x v)))) (ho2 : ∀ v, g' (b v) c = some (.val (.bool (y v)))) : TM Γ (mChain g g' fa fb fc) (pb.bind fun v => .ok (x v && y v)) (fun v => isD (.bool v)) (fun _ => Γ) := by
  intro ρ r
  obtain ⟨ra, ρ1, e1, ea, r1⟩ := ha ρ r
  have hh := hb ρ1 r1
  have ea' : ra.d? = some a := ea
  cases pb with
  | ok v =>
    obtain ⟨rb, ρ2, e2, eb, r2⟩ := hh
    obtain ⟨rc, ρ3, e3, ec, r3⟩ := hc ρ2 r2
    have eb' : rb.d? = some (b v) := eb
    have ec' : rc.d? = some c := ec
    have h1 := ho v
    have h2 := ho2 v
    unfold mChain
    simp only [R.bind_ok]
    cases q : x v with
    | true => rw [q] at h1; exact ⟨.val (.bool (y v)), ρ3, by simp only [e1, e2, e3, Rs.bd, ea', eb', ec', h1, h2], by simp [isD, Sl.d?], r3⟩
    | false => rw [q] at h1; exact ⟨.val (.bool false), ρ2, by simp only [e1, e2, Rs.bd, ea', eb', h1], by simp [isD, Sl.d?], r2⟩
  | ex e =>
    obtain ⟨ρ', e2⟩ := hh
    exact ⟨ρ', by unfold mChain; simp only [e1, e2, Rs.bd]⟩
  | bad => trivial
end
end
end Fx

set_option Elab.async false
set_option linter.all false
set_option maxRecDepth 100000
namespace Fx
open PySem L2
noncomputable section
/-! ### equality -/
structure Ec {α : Type} (e : α → D) (n : Nat) : Prop where
  pln : ∀ a, (e a).plain = true
  dep : ∀ a, (e a).depth ≤ n
  eqv : ∀ a b, PyData.eqv (e a) (e b) = true ↔ a = b
structure Nn {α : Type} (e : α → D) : Prop where
  nn : ∀ a, isNoneD (e a) = false
section
variable {α β γ δ : Type} {n m k l : Nat} {e : α → D} {e2 : β → D} {e3 : γ → D} {e4 : δ → D}
theorem ec_int : Ec PyData.int 0 := ⟨fun _ => by simp [PyData.plain], fun _ => by simp [PyData.depth], fun a b => by simp [PyData.eqv]⟩
theorem ec_bool : Ec PyData.bool 0 := ⟨fun _ => by simp [PyData.plain], fun _ => by simp [PyData.depth], fun a b => by simp [PyData.eqv]⟩
theorem ec_str : Ec PyData.str 0 := ⟨fun _ => by simp [PyData.plain], fun _ => by simp [PyData.depth], fun a b => by simp [PyData.eqv]⟩
theorem ec_all (h : Ec e n) : ∀ xs : List α, PyData.plainAll (xs.map e) = true ∧ PyData.depthAll (xs.map e) ≤ n
  | [] => by simp [PyData.plainAll, PyData.depthAll]
  | x :: xs => by
    have := ec_all h xs
    rw [List.map_cons, PyData.plainAll, PyData.depthAll, h.pln x, this.1]
    exact ⟨rfl, Nat.max_le.mpr ⟨h.dep x, this.2⟩⟩
theorem ec_eqvAll (h : Ec e n) : ∀ xs ys : List α, PyData.eqvAll (xs.map e) (ys.map e) = true ↔ xs = ys
  | [], [] => by simp [PyData.eqvAll]
  | x :: xs, [] => by simp [PyData.eqvAll]
  | [], y :: ys => by simp [PyData.eqvAll]
  | x :: xs, y :: ys => by
    rw [List.map_cons, List.map_cons, PyData.eqvAll, Bool.and_eq_true, h.eqv, ec_eqvAll h xs ys]
    simp
theorem ec_L (h : Ec e n) : Ec (eL e) (n + 1) := ⟨fun a => by unfold eL; rw [PyData.plain]; exact (ec_all h a).1, fun a => by unfold eL; rw [PyData.depth]; have := (ec_all h a).2; omega, fun a b => by unfold eL; rw [PyData.eqv]; exact ec_eqvAll h a b⟩
theorem ec_T (h : Ec e n) : Ec (eT e) (n + 1) := ⟨fun a => by unfold eT; rw [PyData.plain]; exact (ec_all h a).1, fun a => by unfold eT; rw [PyData.depth]; have := (ec_all h a).2; omega, fun a b => by unfold eT; rw [PyData.eqv]; exact ec_eqvAll h a b⟩
theorem ec_P2 (h : Ec e n) (h2 : Ec e2 m) : Ec (eP2 e e2) (max n m + 1) := by
  refine ⟨fun a => ?_, fun a => ?_, fun a b => ?_⟩
  · unfold eP2; simp [PyData.plain, PyData.plainAll, h.pln, h2.pln]
  · unfold eP2
    have := h.dep a.1
    have := h2.dep a.2
    simp [PyData.depth, PyData.depthAll]; omega
  · unfold eP2
    simp [PyData.eqv, PyData.eqvAll, h.eqv, h2.eqv, Prod.ext_iff]
theorem ec_P3 (h : Ec e n) (h2 : Ec e2 m) (h3 : Ec e3 k) : Ec (eP3 e e2 e3) (max n (max m k) + 1) := by
  refine ⟨fun a => ?_, fun a => ?_, fun a b => ?_⟩
  · unfold eP3; simp [PyData.plain, PyData.plainAll, h.pln, h2.pln, h3.pln]
  · unfold eP3
    have := h.dep a.1
    have := h2.dep a.2.1
    have := h3.dep a.2.2
    simp [PyData.depth, PyData.depthAll]; omega
  · unfold eP3
    simp [PyData.eqv, PyData.eqvAll, h.eqv, h2.eqv, h3.eqv, Prod.ext_iff]
theorem ec_P4 (h : Ec e n) (h2 : Ec e2 m) (h3 : Ec e3 k) (h4 : Ec e4 l) : Ec (eP4 e e2 e3 e4) (max n (max m (max k l)) + 1) := by
  refine ⟨fun a => ?_, fun a => ?_, fun a b => ?_⟩
  · unfold eP4; simp [PyData.plain, PyData.plainAll, h.pln, h2.pln, h3.pln, h4.pln]
  · unfold eP4
    have := h.dep a.1
    have := h2.dep a.2.1
    have := h3.dep a.2.2.1
    have := h4.dep a.2.2.2
    simp [PyData.depth, PyData.depthAll]; omega
  · unfold eP4
    simp [PyData.eqv, PyData.eqvAll, h.eqv, h2.eqv, h3.eqv, h4.eqv, Prod.ext_iff]
def eF2 (ea : α → D) (eb : β → D) : α × β → D := fun x => .list [ea x.1, eb x.2]
def eF3 (ea : α → D) (eb : β → D) (ec : γ → D) : α × β × γ → D := fun x => .list [ea x.1, eb x.2.1, ec x.2.2]
theorem ec_F2 (h : Ec e n) (h2 : Ec e2 m) : Ec (eF2 e e2) (max n m + 1) := by
  refine ⟨fun a => ?_, fun a => ?_, fun a b => ?_⟩
  · unfold eF2; simp [PyData.plain, PyData.plainAll, h.pln, h2.pln]
  · unfold eF2
    have := h.dep a.1
    have := h2.dep a.2
    simp [PyData.depth, PyData.depthAll]; omega
  · unfold eF2
    simp [PyData.eqv, PyData.eqvAll, h.eqv, h2.eqv, Prod.ext_iff]
theorem ec_F3 (h : Ec e n) (h2 : Ec e2 m) (h3 : Ec e3 k) : Ec (eF3 e e2 e3) (max n (max m k) + 1) := by
  refine ⟨fun a => ?_, fun a => ?_, fun a b => ?_⟩
  · unfold eF3; simp [PyData.plain, PyData.plainAll, h.pln, h2.pln, h3.pln]
  · unfold eF3
    have := h.dep a.1
    have := h2.dep a.2.1
    have := h3.dep a.2.2
    simp [PyData.depth, PyData.depthAll]; omega
  · unfold eF3
    simp [PyData.eqv, PyData.eqvAll, h.eqv, h2.eqv, h3.eqv, Prod.ext_iff]
theorem nn_F2 : Nn (eF2 e e2) := ⟨fun _ => rfl⟩
theorem nn_F3 : Nn (eF3 e e2 e3) := ⟨fun _ => rfl⟩
theorem nn_int : Nn PyData.int := ⟨fun _ => rfl⟩
theorem nn_bool : Nn PyData.bool := ⟨fun _ => rfl⟩
theorem nn_str : Nn PyData.str := ⟨fun _ => rfl⟩
theorem nn_L : Nn (eL e) := ⟨fun _ => rfl⟩
theorem nn_T : Nn (eT e) := ⟨fun _ => rfl⟩
theorem nn_P2 : Nn (eP2 e e2) := ⟨fun _ => rfl⟩
theorem nn_P3 : Nn (eP3 e e2 e3) := ⟨fun _ => rfl⟩
theorem nn_P4 : Nn (eP4 e e2 e3 e4) := ⟨fun _ => rfl⟩
theorem ec_O (h : Ec e n) (hn : Nn e) : Ec (eO e) n := by
  refine ⟨fun a => ?_, fun a => ?_, fun a b => ?_⟩
  · cases a with
    | none => simp [eO, PyData.plain]
    | some a => exact h.pln a
  · cases a with
    | none => simp [eO, PyData.depth]
    | some a => exact h.dep a
  · have q1 : ∀ a, PyData.eqv .none (e a) = false := fun a => by
      have := hn.nn a
      cases q : e a <;> rw [q] at this <;> first | (simp [isNoneD] at this; done) | simp [PyData.eqv]
    have q2 : ∀ a, PyData.eqv (e a) .none = false := fun a => by
      have := hn.nn a
      cases q : e a <;> rw [q] at this <;> first | (simp [isNoneD] at this; done) | simp [PyData.eqv]
    cases a with
    | none => cases b with
      | none => simp [eO, PyData.eqv]
      | some b => simp [eO, q1]
    | some a => cases b with
      | none => simp [eO, q2]
      | some b => simpa [eO] using h.eqv a b
theorem ec_pl (h : Ec e n) (hn : n ≤ 40) (a : α) : pl (e a) = true := by
  unfold pl
  rw [h.pln a, decide_eq_true (Nat.le_trans (h.dep a) hn)]; rfl
theorem ec_dec [DecidableEq α] (h : Ec e n) (a b : α) : PyData.eqv (e a) (e b) = decide (a = b) := by
  rw [Bool.eq_iff_iff, h.eqv, decide_eq_true_eq]
theorem o_eq [DecidableEq α] (h : Ec e n) (a b : α) (hn : n ≤ 40 := by decide) : gEq (e a) (e b) = some (.val (.bool (decide (a = b)))) := by
  unfold gEq okEq; rw [ec_pl h hn a, ec_pl h hn b, ec_dec h]; rfl
theorem o_ne [DecidableEq α] (h : Ec e n) (a b : α) (hn : n ≤ 40 := by decide) : gNe (e a) (e b) = some (.val (.bool (!decide (a = b)))) := by
  unfold gNe okEq; rw [ec_pl h hn a, ec_pl h hn b, ec_dec h]; rfl
theorem any_mem [DecidableEq α] (h : Ec e n) (a : α) : ∀ xs : List α, ((xs.map e).any fun z => PyData.eqv z (e a)) = decide (a ∈ xs)
  | [] => rfl
  | x :: xs => by
    rw [List.map_cons, List.any_cons, any_mem h a xs, ec_dec h, Bool.eq_iff_iff]
    simp only [Bool.or_eq_true, decide_eq_true_eq, List.mem_cons]
    constructor
    · rintro (rfl | h)
      · exact .inl rfl
      · exact .inr h
    · rintro (rfl | h)
      · exact .inl rfl
      · exact .inr h
theorem o_inL [DecidableEq α] (h : Ec e n) (a : α) (xs : List α) (hn : n + 1 ≤ 40 := by decide) : gIn (e a) (eL e xs) = some (.val (.bool (decide (a ∈ xs)))) := by
  unfold gIn okIn; rw [ec_pl h (by omega) a, ec_pl (ec_L h) hn xs]; unfold eL seqD; simp only [any_mem h]; rfl
theorem o_inT [DecidableEq α] (h : Ec e n) (a : α) (xs : List α) (hn : n + 1 ≤ 40 := by decide) : gIn (e a) (eT e xs) = some (.val (.bool (decide (a ∈ xs)))) := by
  unfold gIn okIn; rw [ec_pl h (by omega) a, ec_pl (ec_T h) hn xs]; unfold eT seqD; simp only [any_mem h]; rfl
theorem o_ninL [DecidableEq α] (h : Ec e n) (a : α) (xs : List α) (hn : n + 1 ≤ 40 := by decide) : gNin (e a) (eL e xs) = some (.val (.bool (!decide (a ∈ xs)))) := by
  unfold gNin okIn; rw [ec_pl h (by omega) a, ec_pl (ec_L h) hn xs]; unfold eL seqD; simp only [any_mem h]; rfl
theorem o_ninT [DecidableEq α] (h : Ec e n) (a : α) (xs : List α) (hn : n + 1 ≤ 40 := by decide) : gNin (e a) (eT e xs) = some (.val (.bool (!decide (a ∈ xs)))) := by
  unfold gNin okIn; rw [ec_pl h (by omega) a, ec_pl (ec_T h) hn xs]; unfold eT seqD; simp only [any_mem h]; rfl
theorem o_isN (hn : Nn e) (a : Option α) : gIsN (eO e a) .none = some (.val (.bool a.isNone)) := by
  cases a with
  | none => rfl
  | some a => show some (Sl.val (.bool (isNoneD (e a)))) = _; rw [hn.nn a]; rfl
theorem o_notN (hn : Nn e) (a : Option α) : gNotN (eO e a) .none = some (.val (.bool a.isSome)) := by
  cases a with
  | none => rfl
  | some a => show some (Sl.val (.bool (!isNoneD (e a)))) = _; rw [hn.nn a]; rfl
end
/-! ### the order -/
structure Od {α : Type} (e : α → D) (lt : α → α → Bool) : Prop where
  al : ∀ a b, PySem.W.alike (e a) (e b) = true
  lt : ∀ a b, PySem.W.dataLt (e a) (e b) = lt a b
def ltI (a b : Int) : Bool := decide (a < b)
def ltL {α : Type} [DecidableEq α] (lt : α → α → Bool) : List α → List α → Bool
  | [], [] => false
  | [], _ :: _ => true
  | _ :: _, [] => false
  | x :: xs, y :: ys => if x = y then ltL lt xs ys else lt x y
def ltP {α β : Type} [DecidableEq α] (lt : α → α → Bool) (lt2 : β → β → Bool) (x y : α × β) : Bool := if x.1 = y.1 then lt2 x.2 y.2 else lt x.1 y.1
section
variable {α β γ δ : Type} {n m k l : Nat} {e : α → D} {e2 : β → D} {e3 : γ → D} {e4 : δ → D} {lt : α → α → Bool} {lt2 : β → β → Bool} {lt3 : γ → γ → Bool} {lt4 : δ → δ → Bool} [DecidableEq α] [DecidableEq β] [DecidableEq γ] [DecidableEq δ]
theorem od_int : Od PyData.int ltI := ⟨fun _ _ => by simp [PySem.W.alike], fun a b => PySem.W.dataLt_int a b⟩
theorem od_all (h : Od e lt) : ∀ xs ys : List α, PySem.W.alikeAll (xs.map e) (ys.map e) = true
  | [], _ => by simp [PySem.W.alikeAll]
  | _ :: _, [] => by simp [PySem.W.alikeAll]
  | x :: xs, y :: ys => by rw [List.map_cons, List.map_cons, PySem.W.alikeAll, h.al, od_all h xs ys]; rfl
abbrev lxx (a b : List D) : Bool := PyProof.Rows.lexLt PyProof.Rows.itemOrd (PySem.W.keyToksAll a) (PySem.W.keyToksAll b)
theorem lx_cons (he : Ec e n) (h : Od e lt) (x y : α) (a b : List D) : lxx (e x :: a) (e y :: b) = if x = y then lxx a b else lt x y := by
  unfold lxx
  by_cases q : x = y
  · rw [if_pos q, PySem.W.dataLt_all_yes (h.al x y) ((he.eqv x y).mpr q)]
  · rw [if_neg q, PySem.W.dataLt_all_no (h.al x y) (by
      cases z : PyData.eqv (e x) (e y) with
      | false => rfl
      | true => exact absurd ((he.eqv x y).mp z) q), h.lt]
theorem lx_nil : lxx [] [] = false := by
  unfold lxx
  exact PyProof.Rows.lex_irrefl _
theorem lx_lst (he : Ec e n) (h : Od e lt) : ∀ xs ys : List α, lxx (xs.map e) (ys.map e) = ltL lt xs ys
  | [], [] => lx_nil
  | [], y :: ys => by
    unfold lxx
    rw [List.map_cons, List.map_nil, PySem.W.toks_all_cons, PySem.W.keyToksAll]
    rfl
  | x :: xs, [] => by
    unfold lxx
    rw [List.map_cons, List.map_nil, PySem.W.toks_all_cons, PySem.W.keyToksAll]
    rfl
  | x :: xs, y :: ys => by
    rw [List.map_cons, List.map_cons, lx_cons he h, lx_lst he h xs ys]
    rfl
theorem od_L (he : Ec e n) (h : Od e lt) : Od (eL e) (ltL lt) := ⟨fun a b => by unfold eL; rw [PySem.W.alike]; exact od_all h a b, fun a b => by unfold eL; rw [PySem.W.dataLt_list]; exact lx_lst he h a b⟩
theorem od_T (he : Ec e n) (h : Od e lt) : Od (eT e) (ltL lt) := ⟨fun a b => by unfold eT; rw [PySem.W.alike]; exact od_all h a b, fun a b => by unfold eT; rw [PySem.W.dataLt_tuple]; exact lx_lst he h a b⟩
theorem od_P2 (he : Ec e n) (h : Od e lt) (he2 : Ec e2 m) (h2 : Od e2 lt2) : Od (eP2 e e2) (ltP lt lt2) := by
  refine ⟨fun a b => by unfold eP2; simp [PySem.W.alike, PySem.W.alikeAll, h.al, h2.al], fun a b => ?_⟩
  unfold eP2 ltP
  rw [PySem.W.dataLt_tuple]
  show lxx _ _ = _
  rw [lx_cons he h, lx_cons he2 h2, lx_nil]
  by_cases q : a.1 = b.1
  · rw [if_pos q, if_pos q]
    by_cases q2 : a.2 = b.2
    · rw [if_pos q2, q2, ← h2.lt]
      unfold PySem.W.dataLt
      exact (PyProof.Rows.lex_irrefl _).symm
    · rw [if_neg q2]
  · rw [if_neg q, if_neg q]
theorem od_irr (h : Od e lt) (a : α) : lt a a = false := by
  rw [← h.lt]
  unfold PySem.W.dataLt
  exact PyProof.Rows.lex_irrefl _
theorem od_P3 (he : Ec e n) (h : Od e lt) (he2 : Ec e2 m) (h2 : Od e2 lt2) (he3 : Ec e3 k) (h3 : Od e3 lt3) : Od (eP3 e e2 e3) (ltP lt (ltP lt2 lt3)) := by
  refine ⟨fun a b => by unfold eP3; simp [PySem.W.alike, PySem.W.alikeAll, h.al, h2.al, h3.al], fun a b => ?_⟩
  unfold eP3
  simp only [ltP]
  rw [PySem.W.dataLt_tuple]
  show lxx _ _ = _
  rw [lx_cons he h, lx_cons he2 h2, lx_cons he3 h3, lx_nil]
  by_cases q : a.1 = b.1
  · rw [if_pos q, if_pos q]
    by_cases q2 : a.2.1 = b.2.1
    · rw [if_pos q2, if_pos q2]
      by_cases q3 : a.2.2 = b.2.2
      · rw [if_pos q3, q3]; exact (od_irr h3 _).symm
      · rw [if_neg q3]
    · rw [if_neg q2, if_neg q2]
  · rw [if_neg q, if_neg q]
theorem od_P4 (he : Ec e n) (h : Od e lt) (he2 : Ec e2 m) (h2 : Od e2 lt2) (he3 : Ec e3 k) (h3 : Od e3 lt3) (he4 : Ec e4 l) (h4 : Od e4 lt4) : Od (eP4 e e2 e3 e4) (ltP lt (ltP lt2 (ltP lt3 lt4))) := by
  refine ⟨fun a b => by unfold eP4; simp [PySem.W.alike, PySem.W.alikeAll, h.al, h2.al, h3.al, h4.al], fun a b => ?_⟩
  unfold eP4
  simp only [ltP]
  rw [PySem.W.dataLt_tuple]
  show lxx _ _ = _
  rw [lx_cons he h, lx_cons he2 h2, lx_cons he3 h3, lx_cons he4 h4, lx_nil]
  by_cases q : a.1 = b.1
  · rw [if_pos q, if_pos q]
    by_cases q2 : a.2.1 = b.2.1
    · rw [if_pos q2, if_pos q2]
      by_cases q3 : a.2.2.1 = b.2.2.1
      · rw [if_pos q3, if_pos q3]
        by_cases q4 : a.2.2.2 = b.2.2.2
        · rw [if_pos q4, q4]; exact (od_irr h4 _).symm
        · rw [if_neg q4]
      · rw [if_neg q3, if_neg q3]
    · rw [if_neg q2, if_neg q2]
  · rw [if_neg q, if_neg q]
/-! ### sorted, min, max -/
def sortT (lt : α → α → Bool) (xs : List α) : List α := xs.mergeSort fun a b => !lt b a
theorem sortD_map (h : Od e lt) (xs : List α) : sortD (xs.map e) = (sortT lt xs).map e := by
  unfold sortD sortT
  refine (List.map_mergeSort fun a _ b _ => ?_).symm
  rw [PySem.W.dataLe_eq]
  show (!lt b a) = !PySem.W.dataLt (e b) (e a)
  rw [h.lt]
def sortR {α : Type} (e : α → D) (lt : α → α → Bool) (xs : List α) : R (List α) := if okSort (xs.map e) = true then .ok (sortT lt xs) else .bad
theorem o_sorted (h : Od e lt) (xs : List α) : OpF (gSorted [eL e xs]) (sortR e lt xs) (fun zs => isS (.lst (zs.map e))) := by
  unfold sortR eL gSorted
  by_cases q : okSort (xs.map e) = true
  · rw [if_pos q]
    exact ⟨_, by simp only [q, if_true]; rfl, by rw [sortD_map h]⟩
  · rw [if_neg q]; trivial
def minT (lt : α → α → Bool) (x : α) (xs : List α) : α := xs.foldl (fun a y => if lt y a = true then y else a) x
def maxT (lt : α → α → Bool) (x : α) (xs : List α) : α := xs.foldl (fun a y => if lt a y = true then y else a) x
theorem minD_map (h : Od e lt) : ∀ (xs : List α) (x : α), PySem.W.minD (e x) (xs.map e) = e (minT lt x xs)
  | [], _ => rfl
  | y :: xs, x => by
    have := minD_map h xs (if lt y x = true then y else x)
    unfold PySem.W.minD minT at this ⊢
    rw [List.map_cons, List.foldl_cons, List.foldl_cons, h.lt, ← this]
    by_cases q : lt y x = true
    · rw [if_pos q, if_pos q]
    · rw [if_neg q, if_neg q]
theorem maxD_map (h : Od e lt) : ∀ (xs : List α) (x : α), PySem.W.maxD (e x) (xs.map e) = e (maxT lt x xs)
  | [], _ => rfl
  | y :: xs, x => by
    have := maxD_map h xs (if lt x y = true then y else x)
    unfold PySem.W.maxD maxT at this ⊢
    rw [List.map_cons, List.foldl_cons, List.foldl_cons, h.lt, ← this]
    by_cases q : lt x y = true
    · rw [if_pos q, if_pos q]
    · rw [if_neg q, if_neg q]
def minR {α : Type} (lt : α → α → Bool) : List α → R α
  | [] => .bad
  | x :: xs => .ok (minT lt x xs)
def maxR {α : Type} (lt : α → α → Bool) : List α → R α
  | [] => .bad
  | x :: xs => .ok (maxT lt x xs)
theorem okMin_map (he : Ec e n) (h : Od e lt) (hn : Nn e) (x : α) (xs : List α) (hk : n ≤ 40) : okMin ((x :: xs).map e) = true := by
  have q := ec_all he (x :: xs)
  unfold okMin
  rw [List.map_cons]
  simp only [← List.map_cons, q.1, Bool.true_and, Bool.and_eq_true, decide_eq_true_eq, List.all_eq_true]
  refine ⟨⟨by omega, fun a ha b hb => ?_⟩, fun a ha => ?_⟩
  · obtain ⟨a, _, rfl⟩ := List.mem_map.mp ha
    obtain ⟨b, _, rfl⟩ := List.mem_map.mp hb
    exact h.al a b
  · obtain ⟨a, _, rfl⟩ := List.mem_map.mp ha
    rw [hn.nn a]; rfl
theorem o_min (he : Ec e n) (h : Od e lt) (hn : Nn e) (xs : List α) (hk : n ≤ 40 := by decide) : OpF (gMin [eL e xs]) (minR lt xs) (fun z => isD (e z)) := by
  cases xs with
  | nil => trivial
  | cons x xs =>
    have q := okMin_map he h hn x xs hk
    rw [List.map_cons] at q
    refine ⟨.val (e (minT lt x xs)), ?_, rfl⟩
    unfold eL gMin
    rw [List.map_cons]
    simp only [q, if_true, minD_map h]
theorem o_max (he : Ec e n) (h : Od e lt) (hn : Nn e) (xs : List α) (hk : n ≤ 40 := by decide) : OpF (gMax [eL e xs]) (maxR lt xs) (fun z => isD (e z)) := by
  cases xs with
  | nil => trivial
  | cons x xs =>
    have q := okMin_map he h hn x xs hk
    rw [List.map_cons] at q
    refine ⟨.val (e (maxT lt x xs)), ?_, rfl⟩
    unfold eL gMax
    rw [List.map_cons]
    simp only [q, if_true, maxD_map h]
/-- <, <=, >, >= of data -/
def ltR {α : Type} (e : α → D) (lt : α → α → Bool) (a b : α) : R Bool := if okLt (e a) (e b) = true then .ok (lt a b) else .bad
def leR' {α : Type} (e : α → D) (lt : α → α → Bool) (a b : α) : R Bool := if okLt (e a) (e b) = true then .ok (!lt b a) else .bad
theorem ltD_od (h : Od e lt) (a b : α) : ltD (e a) (e b) = lt a b := by
  rw [← h.lt]
  unfold ltD
  split
  · rename_i i j h1 h2; rw [h1, h2, PySem.W.dataLt_int]
  · rfl
theorem o_ltT (h : Od e lt) (a b : α) : OpF (gLt (e a) (e b)) (ltR e lt a b) (fun z => isD (.bool z)) := by
  unfold ltR gLt
  by_cases q : okLt (e a) (e b) = true
  · rw [if_pos q, if_pos q]; exact ⟨_, rfl, by rw [ltD_od h]; rfl⟩
  · rw [if_neg q, if_neg q]; trivial
theorem okLt_od (he : Ec e n) (h : Od e lt) (hn : Nn e) (hk : n ≤ 40) (a b : α) : okLt (e a) (e b) = true := by
  have h1 := ec_pl he hk a
  have h2 := ec_pl he hk b
  have h3 := h.al a b
  have h4 := hn.nn a
  unfold okLt
  split
  · rfl
  · rw [h1, h2, h3]
    cases q : e a <;> rw [q] at h4 <;> first | (simp [isNoneD] at h4; done) | rfl
theorem o_ltV (he : Ec e n) (h : Od e lt) (hn : Nn e) (a b : α) (hk : n ≤ 40 := by decide) : gLt (e a) (e b) = some (.val (.bool (lt a b))) := by
  unfold gLt; rw [if_pos (okLt_od he h hn hk a b), ltD_od h]
theorem o_gtV (he : Ec e n) (h : Od e lt) (hn : Nn e) (a b : α) (hk : n ≤ 40 := by decide) : gGt (e a) (e b) = some (.val (.bool (lt b a))) := by
  unfold gGt; rw [if_pos (okLt_od he h hn hk a b), ltD_od h]
end
/-! ### numbers -/
section
variable (a b : Int)
theorem o_add : gAdd (.int a) (.int b) = some (.val (.int (a + b))) := rfl
theorem o_sub : gSub (.int a) (.int b) = some (.val (.int (a - b))) := rfl
theorem o_neg : gNeg (.int a) = some (.val (.int (-a))) := rfl
theorem o_lt : gLt (.int a) (.int b) = some (.val (.bool (decide (a < b)))) := rfl
theorem o_le : gLe (.int a) (.int b) = some (.val (.bool (decide (a ≤ b)))) := rfl
theorem o_gt : gGt (.int a) (.int b) = some (.val (.bool (decide (b < a)))) := rfl
theorem o_ge : gGe (.int a) (.int b) = some (.val (.bool (decide (b ≤ a)))) := rfl
def mulR : R Int := if tru (CMulA a b) = true then .ok (a * b) else .bad
def modR : R Int := if tru (0 < b) = true then .ok (a % b) else .bad
def divR : R Int := if tru (CDivW a b) = true then .ok (a / b) else .bad
def powR : R Int := if tru (CPow a b) = true then .ok (a ^ b.toNat) else .bad
def shlR : R Int := if tru (CPow a b) = true then .ok (a * 2 ^ b.toNat) else .bad
def shrR : R Int := if tru (0 ≤ b) = true then .ok (a / 2 ^ b.toNat) else .bad
abbrev cI : Int → Sl → Prop := fun z => isD (.int z)
abbrev cB : Bool → Sl → Prop := fun z => isD (.bool z)
theorem opF_if {p : Bool} {z : Int} : OpF (if p = true then some (Sl.val (.int z)) else none) (if p = true then R.ok z else .bad) cI := by
  cases p
  · trivial
  · exact ⟨_, rfl, rfl⟩
theorem o_mul : OpF (gMul (.int a) (.int b)) (mulR a b) cI := opF_if
theorem o_mulS : OpF (gMulS (.int a) (.int b)) (mulR a b) cI := opF_if
theorem o_mod : OpF (gMod (.int a) (.int b)) (modR a b) cI := opF_if
theorem o_div : OpF (gDiv (.int a) (.int b)) (divR a b) cI := opF_if
theorem o_pow : OpF (gPow (.int a) (.int b)) (powR a b) cI := opF_if
theorem o_shl : OpF (gShl (.int a) (.int b)) (shlR a b) cI := opF_if
theorem o_shr : OpF (gShr (.int a) (.int b)) (shrR a b) cI := opF_if
theorem o_and : gAnd (.int a) (.int b) = some (.val (.int (Builtin.bitAnd a b))) := rfl
theorem o_max2 : gMax2 [.int a, .int b] = some (.val (.int (if b > a then b else a))) := rfl
theorem o_min2 : gMin2 [.int a, .int b] = some (.val (.int (if b < a then b else a))) := rfl
theorem o_int1 : gInt1 [.int a] = some (.val (.int a)) := rfl
def b2 (b : Bool) : Int := if b then 1 else 0
theorem o_intB (x : Bool) : gInt1 [.bool x] = some (.val (.int (b2 x))) := rfl
theorem o_isB (x y : Bool) : gIsB (.bool x) (.bool y) = some (.val (.bool (decide (x = y)))) := rfl
theorem o_notB (x y : Bool) : gNotB (.bool x) (.bool y) = some (.val (.bool (!decide (x = y)))) := rfl
end
/-! ### lists and tuples -/
section
variable {α β γ : Type} {e : α → D}
def szR {α : Type} (n : Nat) (x : α) : R α := if szOk n = true then .ok x else .bad
theorem opF_sz {n : Nat} {s : Sl} {x : α} {c : α → Sl → Prop} (h : c x s) : OpF (if szOk n = true then some s else none) (szR n x) c := by
  unfold szR
  cases szOk n
  · trivial
  · exact ⟨_, rfl, h⟩
def catR (xs ys : List α) : R (List α) := szR (xs.length + ys.length) (xs ++ ys)
theorem o_catT (xs ys : List α) : OpF (gAdd (eT e xs) (eT e ys)) (catR xs ys) (fun z => isD (eT e z)) := by
  have : OpF (if szOk ((xs.map e).length + (ys.map e).length) = true then some (Sl.val (.tuple (xs.map e ++ ys.map e))) else none) (catR xs ys) (fun z => isD (eT e z)) := by
    rw [List.length_map, List.length_map]
    exact opF_sz (by unfold eT; rw [List.map_append]; rfl)
  exact this
theorem o_catL (xs ys : List α) : OpF (gAdd (eL e xs) (eL e ys)) (catR xs ys) (fun z => isS (.lst (z.map e))) := by
  have : OpF (if szOk ((xs.map e).length + (ys.map e).length) = true then some (Sl.lst (xs.map e ++ ys.map e)) else none) (catR xs ys) (fun z => isS (.lst (z.map e))) := by
    rw [List.length_map, List.length_map]
    exact opF_sz (by rw [List.map_append])
  exact this
def repR (xs : List α) (k : Int) : R (List α) := if tru (-(2 ^ 63) ≤ k ∧ k < 2 ^ 63) = true then szR (xs.length * k.toNat) (List.replicate k.toNat xs).flatten else .bad
theorem rep_map (xs : List α) (e : α → D) : ∀ k : Nat, (List.replicate k (xs.map e)).flatten = ((List.replicate k xs).flatten).map e
  | 0 => rfl
  | k + 1 => by rw [List.replicate_succ, List.replicate_succ, List.flatten_cons, List.flatten_cons, List.map_append, rep_map xs e k]
theorem o_repL (xs : List α) (k : Int) : OpF (gMulS (eL e xs) (.int k)) (repR xs k) (fun z => isS (.lst (z.map e))) := by
  unfold repR szR eL gMulS
  simp only [List.length_map]
  by_cases q : tru (-(2 ^ 63) ≤ k ∧ k < 2 ^ 63) = true
  · by_cases q2 : szOk (xs.length * k.toNat) = true
    · rw [if_pos q, if_pos q2, if_pos ⟨q, q2⟩]
      exact ⟨_, rfl, by rw [rep_map]⟩
    · rw [if_pos q, if_neg q2]; trivial
  · rw [if_neg q]; trivial
def repTR (xs : List α) (k : Int) : R (List α) := if tru (xs ≠ [] ∧ 2 ≤ k ∧ k ≤ 1000 ∧ xs.length ≤ 1000) = true then .ok (List.replicate k.toNat xs).flatten else .bad
theorem o_repT (xs : List α) (k : Int) : OpF (gMulS (eT e xs) (.int k)) (repTR xs k) (fun z => isD (eT e z)) := by
  unfold repTR eT gMulS
  have h : tru ((xs.map e) ≠ [] ∧ 2 ≤ k ∧ k ≤ 1000 ∧ (xs.map e).length ≤ 1000) = tru (xs ≠ [] ∧ 2 ≤ k ∧ k ≤ 1000 ∧ xs.length ≤ 1000) := by
    rw [Bool.eq_iff_iff, tru_iff, tru_iff, List.length_map]
    simp
  simp only [h]
  cases q : tru (xs ≠ [] ∧ 2 ≤ k ∧ k ≤ 1000 ∧ xs.length ≤ 1000) with
  | true => exact ⟨_, rfl, by rw [rep_map]; rfl⟩
  | false => trivial
theorem o_ixL (xs : List α) (i : Int) : OpF (gIx (eL e xs) (.int i)) (.ofO (L2.atI xs i)) (fun z => isD (e z)) := by
  unfold eL gIx
  simp only [atI_map]
  cases L2.atI xs i with
  | none => trivial
  | some v => exact ⟨_, rfl, rfl⟩
theorem o_ixT (xs : List α) (i : Int) : OpF (gIx (eT e xs) (.int i)) (.ofO (L2.atI xs i)) (fun z => isD (e z)) := by
  unfold eT gIx
  simp only [atI_map]
  cases L2.atI xs i with
  | none => trivial
  | some v => exact ⟨_, rfl, rfl⟩
theorem o_lenL (xs : List α) : gLen [eL e xs] = some (.val (.int (xs.length : Nat))) := by unfold eL gLen; simp only [List.length_map]
theorem o_lenT (xs : List α) : gLen [eT e xs] = some (.val (.int (xs.length : Nat))) := by unfold eT gLen; simp only [List.length_map]
theorem o_listL (xs : List α) : gListC [eL e xs] = some (.lst (xs.map e)) := rfl
theorem o_listT (xs : List α) : gListC [eT e xs] = some (.lst (xs.map e)) := rfl
theorem o_tupL (xs : List α) : gTupC (eL e xs) = some (.val (eT e xs)) := rfl
theorem o_tupT (xs : List α) : gTupC (eT e xs) = some (.val (eT e xs)) := rfl
theorem intL_map : ∀ ns : List Int, intL? (ns.map .int) = some ns
  | [] => rfl
  | n :: ns => by rw [List.map_cons]; unfold intL?; simp only [intL_map ns]
theorem boolL_map : ∀ ns : List Bool, boolL? (ns.map .bool) = some ns
  | [] => rfl
  | n :: ns => by rw [List.map_cons]; unfold boolL?; simp only [boolL_map ns]
theorem o_sum (ns : List Int) : gSum [eL PyData.int ns] = some (.val (.int ns.sum)) := by unfold eL gSum; simp only [intL_map]
theorem o_all (ns : List Bool) : gAll [eL PyData.bool ns] = some (.val (.bool (ns.all id))) := by unfold eL gAll; simp only [boolL_map]
def lenSetR (ns : List Int) : R Int := if tru (ns.length ≤ 4000) = true then .ok (setLen ns : Nat) else .bad
theorem o_lenSet (ns : List Int) : OpF (gLenSet (eL PyData.int ns)) (lenSetR ns) cI := by
  unfold lenSetR eL gLenSet
  simp only [intL_map]
  cases tru (ns.length ≤ 4000) with
  | true => exact ⟨_, rfl, rfl⟩
  | false => trivial
theorem o_slL (xs : List α) (lo hi : Option Int) : gSl (eL e xs) lo hi = some (.lst ((cutT xs lo hi).map e)) := by unfold eL gSl; simp only [cutL_map]
theorem o_slT (xs : List α) (lo hi : Option Int) : gSl (eT e xs) lo hi = some (.val (eT e (cutT xs lo hi))) := by unfold eT gSl; simp only [cutL_map]
/-! methods -/
def appR (xs : List α) (x : α) : R (List α) := szR (xs.length + 1) (xs ++ [x])
theorem om_append (xs : List α) (x : α) : OpM (gAppend (.lst (xs.map e)) [e x]) (appR xs x) (fun z => .lst (z.map e)) (fun _ => isD .none) := by
  unfold gAppend appR szR
  simp only [List.length_map]
  cases szOk (xs.length + 1) with
  | true => exact ⟨.val .none, by simp only [if_true, List.map_append]; rfl, rfl⟩
  | false => trivial
def insR (xs : List α) (i : Int) (x : α) : R (List α) := if szOk (xs.length + 1) = true ∧ tru (0 ≤ i ∧ i < 2 ^ 63) = true then .ok (xs.take i.toNat ++ [x] ++ xs.drop i.toNat) else .bad
theorem om_insert (xs : List α) (i : Int) (x : α) : OpM (gInsert (.lst (xs.map e)) [.int i, e x]) (insR xs i x) (fun z => .lst (z.map e)) (fun _ => isD .none) := by
  unfold gInsert insR
  simp only [List.length_map]
  by_cases q : szOk (xs.length + 1) = true ∧ tru (0 ≤ i ∧ i < 2 ^ 63) = true
  · rw [if_pos q, if_pos q]
    exact ⟨.val .none, by simp only [List.map_append, List.map_take, List.map_drop]; rfl, rfl⟩
  · rw [if_neg q, if_neg q]; trivial
def extR (xs ys : List α) : R (List α) := szR (xs.length + ys.length) (xs ++ ys)
theorem om_extend (xs ys : List α) : OpM (gExtend (.lst (xs.map e)) [eL e ys]) (extR xs ys) (fun z => .lst (z.map e)) (fun _ => isD .none) := by
  unfold gExtend extR szR eL
  simp only [List.length_map]
  cases szOk (xs.length + ys.length) with
  | true => exact ⟨.val .none, by simp only [if_true, List.map_append], rfl⟩
  | false => trivial
end
/-! isinstance -/
theorem isi_tt (ds : List D) : isiD "tuple" (.tuple ds) = some true := (by decide +kernel : kitB "tuple" "tuple" = some true)
theorem isi_tuple (ds : List D) : isiD "tuple" (.tuple ds) = some true := (by decide +kernel : kitB "tuple" "tuple" = some true)
theorem isi_list (ds : List D) : isiD "list" (.list ds) = some true := (by decide +kernel : kitB "list" "list" = some true)
theorem isi_int (i : Int) : isiD "int" (.int i) = some true := (by decide +kernel : kitB "int" "int" = some true)
theorem isi_int_bool (i : Int) : isiD "bool" (.int i) = some false := (by decide +kernel : kitB "int" "bool" = some false)
theorem isi_bool (i : Bool) : isiD "bool" (.bool i) = some true := (by decide +kernel : kitB "bool" "bool" = some true)
theorem isi_bool_int (i : Bool) : isiD "int" (.bool i) = some true := (by decide +kernel : kitB "bool" "int" = some true)
theorem isi_str (i : Str) : isiD "str" (.str i) = some true := (by decide +kernel : kitB "str" "str" = some true)
theorem isi_none (T : String) (h : kitB "NoneType" T = some false) : isiD T .none = some false := h
theorem q_isiT {T : String} {d : D} {b : Bool} (h : isiD T d = some b) : gIsi T d = some (.val (.bool b)) := by unfold gIsi; rw [h]; rfl
theorem q_isiO {α : Type} {T : String} (e : α → D) (h : ∀ a, isiD T (e a) = some true) (hn : kitB "NoneType" T = some false) (o : Option α) : gIsi T (eO e o) = some (.val (.bool o.isSome)) := by
  cases o with
  | none => exact q_isiT (show isiD T .none = some false from hn)
  | some a => exact q_isiT (h a)
theorem q_isiO_tuple {α : Type} (e : α → D) (h : ∀ a, isiD "tuple" (e a) = some true) (o : Option α) : gIsi "tuple" (eO e o) = some (.val (.bool o.isSome)) := q_isiO e h (by decide +kernel) o
theorem q_isiO_list {α : Type} (e : α → D) (h : ∀ a, isiD "list" (e a) = some true) (o : Option α) : gIsi "list" (eO e o) = some (.val (.bool o.isSome)) := q_isiO e h (by decide +kernel) o
theorem q_isiO_int {α : Type} (e : α → D) (h : ∀ a, isiD "int" (e a) = some true) (o : Option α) : gIsi "int" (eO e o) = some (.val (.bool o.isSome)) := q_isiO e h (by decide +kernel) o
theorem q_isiO_bool {α : Type} (e : α → D) (h : ∀ a, isiD "bool" (e a) = some true) (o : Option α) : gIsi "bool" (eO e o) = some (.val (.bool o.isSome)) := q_isiO e h (by decide +kernel) o
def isiR (T : String) (d : D) : R Bool := .ofO (isiD T d)
theorem q_isi (T : String) (d : D) : OpF (gIsi T d) (isiR T d) cB := by
  unfold isiR gIsi
  cases isiD T d with
  | none => trivial
  | some b => exact ⟨_, rfl, rfl⟩
theorem isi_ll (ds : List D) : isiD "list" (.list ds) = some true := (by decide +kernel : kitB "list" "list" = some true)
end
end Fx
namespace Fx
open PySem L2
noncomputable section
section
variable {α β γ δ σ τ : Type} {Γ Γ' : List Cell} {e : α → D}
theorem sz_lit {n : Nat} (h : Nat.ble n 1000 = true) : szOk n = true := by
  have := Nat.le_of_ble_eq_true h
  unfold szOk; exact tru_iff.mpr (by omega)
theorem sz_of {n : Nat} (h : n ≤ 1000000) : szOk n = true := by
  unfold szOk; exact tru_iff.mpr (by omega)
def atR {α : Type} (xs : List α) (i : Int) : R α := .ofO (L2.atI xs i)
theorem q_ixL (e : α → D) (xs : List α) (i : Int) : OpF (gIx (eL e xs) (.int i)) (atR xs i) (fun z => isD (e z)) := o_ixL xs i
theorem q_ixT (e : α → D) (xs : List α) (i : Int) : OpF (gIx (eT e xs) (.int i)) (atR xs i) (fun z => isD (e z)) := o_ixT xs i
theorem q_ixO (i : Nat) {fb : M Sl} (e : α → D) (xs : List α) {k : Int} (h : Γ[i]? = some (.own (.lst (xs.map e)))) (hb : TV Γ fb (isD (.int k))) : TM Γ (mIxO i fb) (atR xs k) (fun v => isD (e v)) (fun _ => Γ) := te_ixO i h hb (atI_map e xs)
theorem o_ix0 (a : D) (l : List D) : gIx (.tuple (a :: l)) (.int 0) = some (.val a) := by
  unfold gIx L2.atI ixN; simp
theorem o_ix1 (a b : D) (l : List D) : gIx (.tuple (a :: b :: l)) (.int 1) = some (.val b) := by
  have h : (1 : Int) < ((l.length + 1 + 1 : Nat) : Int) := by omega
  simp only [gIx, L2.atI, ixN, List.length_cons]
  rw [if_pos (by decide), if_pos h]; rfl
theorem o_ix2 (a b c : D) (l : List D) : gIx (.tuple (a :: b :: c :: l)) (.int 2) = some (.val c) := by
  have h : (2 : Int) < ((l.length + 1 + 1 + 1 : Nat) : Int) := by omega
  simp only [gIx, L2.atI, ixN, List.length_cons]
  rw [if_pos (by decide), if_pos h]; rfl
theorem o_ix3 (a b c d : D) (l : List D) : gIx (.tuple (a :: b :: c :: d :: l)) (.int 3) = some (.val d) := by
  have h : (3 : Int) < ((l.length + 1 + 1 + 1 + 1 : Nat) : Int) := by omega
  simp only [gIx, L2.atI, ixN, List.length_cons]
  rw [if_pos (by decide), if_pos h]; rfl
theorem l_ix0 (a : D) (l : List D) : gIx (.list (a :: l)) (.int 0) = some (.val a) := o_ix0 a l
theorem l_ix1 (a b : D) (l : List D) : gIx (.list (a :: b :: l)) (.int 1) = some (.val b) := o_ix1 a b l
theorem l_ix2 (a b c : D) (l : List D) : gIx (.list (a :: b :: c :: l)) (.int 2) = some (.val c) := o_ix2 a b c l
theorem a_ix0 (a : D) (l : List D) : L2.atI (a :: l) 0 = some a := by unfold L2.atI ixN; simp
theorem a_ix1 (a b : D) (l : List D) : L2.atI (a :: b :: l) 1 = some b := by
  have := o_ix1 a b l
  simp only [gIx] at this
  cases q : L2.atI (a :: b :: l) 1 <;> rw [q] at this <;> simp at this ⊢; exact this
theorem a_ix2 (a b c : D) (l : List D) : L2.atI (a :: b :: c :: l) 2 = some c := by
  have := o_ix2 a b c l
  simp only [gIx] at this
  cases q : L2.atI (a :: b :: c :: l) 2 <;> rw [q] at this <;> simp at this ⊢; exact this
/-! with the result's form -/
theorem tv_binD {g : D → D → Option Sl} {fa fb : M Sl} {a b d : D} (ha : TV Γ fa (isD a)) (hb : TV Γ fb (isD b)) (ho : g a b = some (.val d)) : TV Γ (mBin g fa fb) (isD d) := tv_bin ha hb ho rfl
theorem tv_unD {g : D → Option Sl} {fa : M Sl} {a d : D} (ha : TV Γ fa (isD a)) (ho : g a = some (.val d)) : TV Γ (mUn g fa) (isD d) := tv_un ha ho rfl
theorem tv_cbD {g : List D → Option Sl} {fs : M (List Sl)} {ds : List D} {d : D} (h : TV Γ fs (isA ds)) (ho : g ds = some (.val d)) : TV Γ (mCB g fs) (isD d) := tv_cb h ho rfl
theorem tv_cbS {g : List D → Option Sl} {fs : M (List Sl)} {ds es : List D} (h : TV Γ fs (isA ds)) (ho : g ds = some (.lst es)) : TV Γ (mCB g fs) (isS (.lst es)) := tv_cb h ho rfl
theorem tv_slD {fa : M Sl} {fl fh : M (Option Int)} {a d : D} {lo hi : Option Int} (ha : TV Γ fa (isD a)) (hl : TV Γ fl (fun o => o = lo)) (hh : TV Γ fh (fun o => o = hi)) (hg : gSl a lo hi = some (.val d)) : TV Γ (mSlice fa fl fh) (isD d) := tv_slice ha hl hh hg rfl
theorem tv_slS {fa : M Sl} {fl fh : M (Option Int)} {a : D} {es : List D} {lo hi : Option Int} (ha : TV Γ fa (isD a)) (hl : TV Γ fl (fun o => o = lo)) (hh : TV Γ fh (fun o => o = hi)) (hg : gSl a lo hi = some (.lst es)) : TV Γ (mSlice fa fl fh) (isS (.lst es)) := tv_slice ha hl hh hg rfl
theorem tv_OLD {g : D → D → Option Sl} (i : Nat) {fb : M Sl} {a b d : D} (h : PkC Γ i a) (hb : TV Γ fb (isD b)) (ho : g a b = some (.val d)) : TV Γ (mBinOL g i fb) (isD d) := tv_OL i h hb ho rfl
theorem tv_ORD {g : D → D → Option Sl} (i : Nat) {fa : M Sl} {a b d : D} (ha : TV Γ fa (isD a)) (h : PkC Γ i b) (ho : g a b = some (.val d)) : TV Γ (mBinOR g fa i) (isD d) := tv_OR i ha h ho rfl
theorem tv_OOD {g : D → D → Option Sl} (i j : Nat) {a b d : D} (h : PkC Γ i a) (h2 : PkC Γ j b) (ho : g a b = some (.val d)) : TV Γ (mBinOO g i j) (isD d) := tv_OO i j h h2 ho rfl
theorem opF_D {o : Option Sl} (e : γ → D) (z : γ) (h : o = some (.val (e z))) : OpF o (.ok z) (fun z => isD (e z)) := ⟨_, h, rfl⟩
theorem opF_S {o : Option Sl} (t : γ → Sl) (z : γ) (h : o = some (t z)) : OpF o (.ok z) (fun z => isS (t z)) := ⟨_, h, rfl⟩
/-- to or from None -/
theorem as_some (e : γ → D) (o : Option γ) : match R.ofO o with | .ok z => eO e o = e z | .ex _ => False | .bad => True := by
  cases o <;> first | trivial | rfl
/-! arguments, in their form -/
theorem ta_veA {fa : M Sl} {fr : M (List Sl)} {pr : R α} {d : D} {ds : α → List D} {Δ : α → List Cell} (ha : TV Γ fa (isD d)) (hr : TM Γ fr pr (fun v => isA (ds v)) Δ) : TM Γ (mArg fa fr) pr (fun v => isA (d :: ds v)) Δ :=
  ta_ve ha hr fun v rs h => by
    have h' : rs = (ds v).map Sl.val := h
    rw [h']; rfl
theorem ta_eeA {fa : M Sl} {fr : M (List Sl)} {pa : R α} {pr : α → R β} {d : α → D} {ds : α → β → List D} {ds' : α × β → List D} {Δa : α → List Cell} {Δr : α → β → List Cell} {Δ : α × β → List Cell}
    (ha : TM Γ fa pa (fun v => isD (d v)) Δa) (hr : ∀ v, TM (Δa v) fr (pr v) (fun w => isA (ds v w)) (Δr v)) (hc : ∀ v w, ds' (v, w) = d v :: ds v w) (hΔ : ∀ v w, Wc (Δr v w) (Δ (v, w))) :
    TM Γ (mArg fa fr) (pa.bind fun v => (pr v).bind fun w => .ok (v, w)) (fun z => isA (ds' z)) Δ :=
  ta_ee (fun v w => (v, w)) ha hr (fun v w rs h => by
    have h' : rs = (ds v w).map Sl.val := h
    show _ = (ds' (v, w)).map Sl.val
    rw [h', hc]; rfl) hΔ
theorem tr_eeR {fa : M Sl} {fr : M (List Sl)} {pa : R α} {pr : α → R β} {d : α → D} {as : α → β → List Cell} {as' : α × β → List Cell} {Δa : α → List Cell} {Δr : α → β → List Cell} {Δ : α × β → List Cell}
    (ha : TM Γ fa pa (fun v => isD (d v)) Δa) (hr : ∀ v, TM (Δa v) fr (pr v) (fun w => isR (as v w)) (Δr v)) (hc : ∀ v w, as' (v, w) = .dat (d v) :: as v w) (hΔ : ∀ v w, Wc (Δr v w) (Δ (v, w))) :
    TM Γ (mArg fa fr) (pa.bind fun v => (pr v).bind fun w => .ok (v, w)) (fun z => isR (as' z)) Δ :=
  ta_ee (fun v w => (v, w)) ha hr (fun v w rs h => by
    show isR (as' (v, w)) _
    rw [hc]; exact isR_dat h) hΔ
/-- the end of a mixed block -/
theorem ts_endM {g : Ms} {p : R (Out α τ)} {Δ : α → List Cell} {Δ' : σ → List Cell} {c : τ → Sl → Prop} {Δr : τ → List Cell} (k : α → σ) (h : TS Γ g p (pMx Δ c Δr)) (hw : ∀ v, Wc (Δ v) (Δ' (k v))) : TS Γ g (p.bind fun o => o.go (fun v => .ok (.nx (k v))) fun r => .ok (.rt r)) (pMx Δ' c Δr) := by
  intro ρ r
  have h1 := h ρ r
  cases p with
  | ok v =>
    cases v with
    | nx v =>
      obtain ⟨ρ', e, hr⟩ := h1
      exact ⟨ρ', e, hr.wk (hw v)⟩
    | rt v => exact h1
  | ex x => exact h1
  | bad => trivial
theorem ts_ifM {c : M Bool} {f g : Ms} {pc : R β} {b : β → Bool} {p1 : β → R τ} {p2 : β → R (Out σ τ)} {Δc : β → List Cell} {cr : τ → Sl → Prop} {Δ : σ → List Cell} {Δr : τ → List Cell} (hc : TM Γ c pc (fun v => isB (b v)) Δc) (h1 : ∀ v, TS (Δc v) f (p1 v) (pRt cr Δr)) (h2 : ∀ v, TS (Δc v) g (p2 v) (pMx Δ cr Δr)) : TS Γ (mSeq (mIfS c f (fun ρ => .nx ρ)) g) (pc.bind fun v => if b v = true then (p1 v).bind (fun r => .ok (.rt r)) else p2 v) (pMx Δ cr Δr) := by
  intro ρ r
  have h := hc ρ r
  cases pc with
  | ok v =>
    obtain ⟨s, ρ', e, hs, hr⟩ := h
    have hs' : s = b v := hs
    subst hs'
    simp only [R.bind_ok]
    cases q : b v with
    | true =>
      have e2 : mSeq (mIfS c f (fun ρ => .nx ρ)) g ρ = (f ρ').bd g := by unfold mSeq mIfS; rw [e, q]; rfl
      simp only [if_true, e2]
      have h3 := h1 v ρ' hr
      cases e3 : p1 v with
      | ok w =>
        rw [e3] at h3
        obtain ⟨s, ρ2, e4, q2⟩ := h3
        exact ⟨s, ρ2, by rw [e4]; rfl, q2⟩
      | ex x =>
        rw [e3] at h3
        obtain ⟨ρ2, e4⟩ := h3
        exact ⟨ρ2, by rw [e4]; rfl⟩
      | bad => trivial
    | false =>
      have e2 : mSeq (mIfS c f (fun ρ => .nx ρ)) g ρ = g ρ' := by unfold mSeq mIfS; rw [e, q]; rfl
      simp only [Bool.false_eq_true, if_false, e2]
      exact h2 v ρ' hr
  | ex x =>
    obtain ⟨ρ', e⟩ := h
    exact ⟨ρ', by unfold mSeq mIfS; rw [e]; rfl⟩
  | bad => trivial
/-- a place of an own list of fixed form is put -/
theorem ts_setFx (i : Nat) {fi fe : M Sl} {p : R α} {d : α → D} {ds : α → List D} {es : α → List D} {k : Int} {j : Nat} {Δ : α → List Cell} (he : TM Γ fe p (fun v => isD (d v)) Δ) (h : ∀ v, (Δ v)[i]? = some (.own (.lst (ds v)))) (hi : ∀ v, TV (Δ v) fi (isD (.int k))) (hk : ∀ v, ixN (ds v).length k = some j) (hs : ∀ v, (ds v).set j (d v) = es v) : TS Γ (mSetIx i fi fe) p (pNx fun v => (Δ v).set i (.own (.lst (es v)))) := by
  intro ρ r
  have h0 := he ρ r
  cases p with
  | ok v =>
    obtain ⟨re, ρ0, e0, ee, r0⟩ := h0
    obtain ⟨s, e1, hs1⟩ := r0.get (h v)
    have hs1' : s = .lst (ds v) := hs1
    subst hs1'
    obtain ⟨rb, ρ1, e2, eb, r1⟩ := hi v ρ0 r0
    obtain ⟨s, e3, hs2⟩ := r1.get (h v)
    have hs2' : s = .lst (ds v) := hs2
    subst hs2'
    have ee' : re.d? = some (d v) := ee
    have eb' : rb.d? = some (.int k) := eb
    have : rb = .val (.int k) := by
      cases rb <;> simp [Sl.d?] at eb'
      subst eb'; rfl
    subst this
    refine ⟨ρ1.set i (.lst (es v)), ?_, r1.set rfl⟩
    unfold mSetIx
    simp only [e0, Rs.st, ee', e1, e2, e3, hk v, hs v]
  | ex x =>
    obtain ⟨ρ', e⟩ := h0
    exact ⟨ρ', by unfold mSetIx; simp only [e, Rs.st]⟩
  | bad => trivial
theorem tv_listScr (i : Nat) {ns : List Int} (h : Γ[i]? = some (.own (.scr ns))) : TV Γ (mListScr i) (isS (.lst (ns.map PyData.int))) := by
  intro ρ r
  obtain ⟨s, e, hs⟩ := r.get h
  have hs' : s = .scr ns := hs
  subst hs'
  exact ⟨_, ρ, by unfold mListScr; simp only [e], rfl, r⟩
end
/-! raw data -/
section
def eqDR (a b : D) : R Bool := if okEq a b = true then .ok (PyData.eqv a b) else .bad
def neDR (a b : D) : R Bool := if okEq a b = true then .ok (!PyData.eqv a b) else .bad
theorem opF_ifB {p : Bool} {z : Bool} : OpF (if p = true then some (Sl.val (.bool z)) else none) (if p = true then R.ok z else .bad) cB := by
  cases p
  · trivial
  · exact ⟨_, rfl, rfl⟩
theorem q_eqD (a b : D) : OpF (gEq a b) (eqDR a b) cB := opF_ifB
theorem q_neD (a b : D) : OpF (gNe a b) (neDR a b) cB := opF_ifB
end
end
end Fx

set_option Elab.async false
set_option linter.all false
set_option maxRecDepth 100000
namespace Fx
open PySem L2
noncomputable section
/-! ### dicts by numbers or texts -/
section
variable {α β γ δ σ τ κ : Type} {Γ Γ' : List Cell} {e : β → D}
/-- keys of one kind -/
structure Kc {κ : Type} (k : κ → Key) : Prop where
  inj : ∀ a b, k a = k b → a = b
abbrev kI : Int → Key := fun i => .inl i
abbrev kS : Str → Key := fun i => .inr i
theorem kc_I : Kc kI := ⟨fun _ _ h => by cases h; rfl⟩
theorem kc_S : Kc kS := ⟨fun _ _ h => by cases h; rfl⟩
def enK (k : κ → Key) (e : β → D) (xs : List (κ × β)) : List (Key × D) := xs.map fun p => (k p.1, e p.2)
def eK (k : κ → Key) (e : β → D) (xs : List (κ × β)) : D := .dict ((enK k e xs).map fun p => (kD p.1, p.2))
def getK [DecidableEq κ] : List (κ × β) → κ → Option β
  | [], _ => none
  | p :: l, k => if p.1 = k then some p.2 else getK l k
theorem look_K [DecidableEq κ] {k : κ → Key} (h : Kc k) (a : κ) : ∀ xs : List (κ × β), lookD ((enK k e xs).map fun p => (kD p.1, p.2)) (kD (k a)) = (getK xs a).map e
  | [] => rfl
  | p :: xs => by
    have ih := look_K h a xs
    unfold enK at ih ⊢
    rw [List.map_cons, List.map_cons]
    unfold lookD getK
    rw [keyEq_kD]
    by_cases q : p.1 = a
    · rw [if_pos q, q]; simp
    · rw [if_neg q]
      have : ¬ k p.1 = k a := fun z => q (h.inj _ _ z)
      simp only [this, decide_false, Bool.false_eq_true, if_false]
      exact ih
theorem keyOf_k (k : Key) : keyOf (kD k) = some k := by
  cases k <;> rfl
def getR [DecidableEq κ] (xs : List (κ × β)) (a : κ) : R β := .ofO (getK xs a)
theorem o_getK [DecidableEq κ] {k : κ → Key} (h : Kc k) (e : β → D) (xs : List (κ × β)) (a : κ) : OpF (gIxD (eK k e xs) (kD (k a))) (getR xs a) (fun z => isD (e z)) := by
  unfold gIxD eK getR
  simp only [keyOf_k, look_K h]
  cases getK xs a with
  | none => trivial
  | some v => exact ⟨_, rfl, rfl⟩
def putK [DecidableEq κ] (xs : List (κ × β)) (a : κ) (v : β) : List (κ × β) := if (xs.any fun p => decide (p.1 = a)) = true then xs.map (fun p => if p.1 = a then (p.1, v) else p) else xs ++ [(a, v)]
theorem putD_K [DecidableEq κ] {k : κ → Key} (h : Kc k) (xs : List (κ × β)) (a : κ) (v : β) : putD (enK k e xs) (k a) (e v) = enK k e (putK xs a v) := by
  have iff : ∀ b, decide (k b = k a) = decide (b = a) := fun b => by
    by_cases q : b = a
    · subst q; simp
    · have : ¬ k b = k a := fun z => q (h.inj _ _ z)
      simp [q, this]
  have any : ((enK k e xs).any fun p => decide (p.1 = k a)) = xs.any fun p => decide (p.1 = a) := by
    unfold enK
    rw [List.any_map]
    congr 1
    funext p
    exact iff p.1
  unfold putD putK
  rw [any]
  split
  · unfold enK
    rw [List.map_map, List.map_map]
    congr 1
    funext p
    show (if k p.1 = k a then (k p.1, e v) else (k p.1, e p.2)) = _
    by_cases q : p.1 = a
    · simp [q]
    · have : ¬ k p.1 = k a := fun z => q (h.inj _ _ z)
      simp [q, this]
  · unfold enK; rw [List.map_append]; rfl
theorem tv_newK {k : κ → Key} (e : β → D) : TV Γ mNewK (isS (.dK (enK k e []))) := fun ρ r => ⟨_, ρ, rfl, rfl, r⟩
def setKR [DecidableEq κ] (xs : List (κ × β)) (a : κ) (v : β) : R (List (κ × β)) := szR (xs.length + 1) (putK xs a v)
theorem val_of {s : Sl} {k : Key} (h : s.d? = some (kD k)) : s = .val (kD k) := by
  cases s <;> cases k <;> simp [Sl.d?, kD] at h <;> subst h <;> rfl
theorem ts_setK [DecidableEq κ] (i : Nat) {fi fe : M Sl} {k : κ → Key} (hk : Kc k) (e : β → D) {pe : R α} {v : α → β} {xs : α → List (κ × β)} {a : α → κ} {Δ : α → List Cell} {Δ' : γ → List Cell} (pk : α → List (κ × β) → γ) (he : TM Γ fe pe (fun w => isD (e (v w))) Δ) (h : ∀ w, (Δ w)[i]? = some (.own (.dK (enK k e (xs w))))) (hi : ∀ w, TV (Δ w) fi (isD (kD (k (a w))))) (hΔ : ∀ w ys, Wc ((Δ w).set i (.own (.dK (enK k e ys)))) (Δ' (pk w ys))) :
    TS Γ (mSetK i fi fe) (pe.bind fun w => (setKR (xs w) (a w) (v w)).bind fun ys => .ok (pk w ys)) (pNx Δ') := by
  intro ρ r
  have h0 := he ρ r
  cases pe with
  | ok w =>
    obtain ⟨re, ρ0, e0, ee, r0⟩ := h0
    obtain ⟨s, e1, hs⟩ := r0.get (h w)
    have hs' : s = .dK (enK k e (xs w)) := hs
    subst hs'
    obtain ⟨rb, ρ1, e2, eb, r1⟩ := hi w ρ0 r0
    obtain ⟨s, e3, hs⟩ := r1.get (h w)
    have hs' : s = .dK (enK k e (xs w)) := hs
    subst hs'
    have ee' : re.d? = some (e (v w)) := ee
    have eb' := val_of eb
    subst eb'
    have hl : (enK k e (xs w)).length = (xs w).length := by unfold enK; rw [List.length_map]
    simp only [R.bind_ok]
    unfold setKR szR
    cases q : szOk ((xs w).length + 1) with
    | false => trivial
    | true =>
      simp only [if_true, R.bind_ok]
      refine ⟨ρ1.set i (.dK (enK k e (putK (xs w) (a w) (v w)))), ?_, Rel.wk (Rel.set (c := .own (.dK (enK k e (putK (xs w) (a w) (v w))))) r1 rfl) (hΔ w _)⟩
      unfold mSetK
      simp only [e0, Rs.st, ee', e1, e2, keyOf_k, e3, hl, q, putD_K hk]
  | ex x =>
    obtain ⟨ρ', e⟩ := h0
    exact ⟨ρ', by unfold mSetK; simp only [e, Rs.st]⟩
  | bad => trivial
theorem dkeys_K (k : κ → Key) (e : β → D) (xs : List (κ × β)) : dkeys ((enK k e xs).map fun p => (kD p.1, p.2)) = xs.map fun p => kD (k p.1) := by
  unfold dkeys enK
  rw [List.map_map, List.map_map]; rfl
theorem Rel.dk {i : Nat} {ρ : Env} {k : κ → Key} {xs : List (κ × β)} (r : Rel Γ ρ) (h : Γ[i]? = some (.dat (eK k e xs))) : dk? i ρ = some ((enK k e xs).map fun p => (kD p.1, p.2)) := by
  unfold dk?
  rw [r.pk (.inl h)]
  rfl
def foldK (f : α → σ → R σ) (l : List α) (s : σ) : R σ := (foldR f l s).calm
def loopK (f : α → σ → R (Out σ τ)) (l : List α) (s : σ) : R (Out σ τ) := (loopR f l s).calm
theorem ts_forK (i : Nat) {k : κ → Key} {xs : List (κ × β)} {kt : Sl → Env → Option Env} {body : Ms} {Inv : σ → List Cell} {Γk : κ → σ → List Cell} {pb : κ → σ → R σ} (s0 : σ) (h : ∀ s, (Inv s)[i]? = some (.dat (eK k e xs))) (hw : Wc Γ (Inv s0)) (hk : ∀ x s, TK kt (kD (k x)) (Inv s) (Γk x s)) (hb : ∀ x s, TS (Γk x s) body (pb x s) (pNx Inv)) :
    TS Γ (mForK i kt body) (foldK pb (xs.map (·.1)) s0) (pNx Inv) := by
  refine ts_wk0 hw fun ρ r => ?_
  have r2 : Rel (Inv s0) (ρ.set i (.val (eK k e xs))) := r.put (h s0) rfl
  have := loop_fold (e := fun x => kD (k x)) hk hb (xs.map (·.1)) s0 _ r2
  rw [List.map_map] at this
  unfold mForK
  simp only [r.dk (h s0), dkeys_K]
  unfold foldK
  cases q : foldR pb (xs.map (·.1)) s0 with
  | ok s =>
    rw [q] at this
    obtain ⟨ρ', e1, r'⟩ := this
    refine ⟨ρ', ?_, r'⟩
    have e1' : loopM kt body (xs.map fun p => kD (k p.1)) (ρ.set i (.val (.dict ((enK k e xs).map fun p => (kD p.1, p.2))))) = .nx ρ' := e1
    rw [e1']; rfl
  | ex _ => trivial
  | bad => trivial
theorem ts_forKM (i : Nat) {k : κ → Key} {xs : List (κ × β)} {kt : Sl → Env → Option Env} {body : Ms} {Inv : σ → List Cell} {Γk : κ → σ → List Cell} {pb : κ → σ → R (Out σ τ)} {c : τ → Sl → Prop} {Δr : τ → List Cell} (s0 : σ) (h : ∀ s, (Inv s)[i]? = some (.dat (eK k e xs))) (hw : Wc Γ (Inv s0)) (hk : ∀ x s, TK kt (kD (k x)) (Inv s) (Γk x s)) (hb : ∀ x s, TS (Γk x s) body (pb x s) (pMx Inv c Δr)) :
    TS Γ (mForK i kt body) (loopK pb (xs.map (·.1)) s0) (pMx Inv c Δr) := by
  refine ts_wk0 hw fun ρ r => ?_
  have r2 : Rel (Inv s0) (ρ.set i (.val (eK k e xs))) := r.put (h s0) rfl
  have := loop_mix (e := fun x => kD (k x)) hk hb (xs.map (·.1)) s0 _ r2
  rw [List.map_map] at this
  unfold mForK
  simp only [r.dk (h s0), dkeys_K]
  unfold loopK
  cases q : loopR pb (xs.map (·.1)) s0 with
  | ok o =>
    rw [q] at this
    cases o with
    | nx s =>
      obtain ⟨ρ', e1, r'⟩ := this
      refine ⟨ρ', ?_, r'⟩
      have e1' : loopM kt body (xs.map fun p => kD (k p.1)) (ρ.set i (.val (.dict ((enK k e xs).map fun p => (kD p.1, p.2))))) = .nx ρ' := e1
      rw [e1']; rfl
    | rt v =>
      obtain ⟨t, ρ', e1, r'⟩ := this
      refine ⟨t, ρ', ?_, r'⟩
      have e1' : loopM kt body (xs.map fun p => kD (k p.1)) (ρ.set i (.val (.dict ((enK k e xs).map fun p => (kD p.1, p.2))))) = .rt t ρ' := e1
      rw [e1']; rfl
  | ex _ => trivial
  | bad => trivial
theorem tm_compK (i : Nat) {k : κ → Key} {vs : List Nat} {kt : Sl → Env → Option Env} {tt : M Bool} {fe : M Sl} {xs : List (κ × β)} {Γk : κ → List Cell} {pt : κ → R Bool} {pe : κ → R γ} {ce : γ → Sl → Prop} (e' : γ → D) (h : Γ[i]? = some (.dat (eK k e xs))) (h0 : wipeC Γ vs = Γ) (hk : ∀ x, TK kt (kD (k x)) Γ (Γk x)) (ht : ∀ x, TM (Γk x) tt (pt x) isB (fun _ => Γk x)) (he : ∀ x, TM (Γk x) fe (pe x) ce (fun _ => Γk x)) (hce : ∀ v s, ce v s → s.d? = some (e' v)) (hw : ∀ x, wipeC (Γk x) vs = Γ) :
    TM Γ (mCompK i vs kt tt fe) (compR pt pe (xs.map (·.1)) []).calm (fun zs => isS (.lst (zs.map e'))) (fun _ => Γ) := by
  intro ρ r
  have r2 : Rel Γ (ρ.set i (.val (eK k e xs))) := r.put h rfl
  have := comp_runT (e := fun x => kD (k x)) hk ht he hce hw (xs.map (·.1)) [] (wipeS (ρ.set i (.val (eK k e xs))) vs) (by have := r2.wipe vs; rw [h0] at this; exact this)
  rw [List.map_map] at this
  unfold mCompK
  simp only [r.dk h, dkeys_K]
  cases q : compR pt pe (xs.map (·.1)) [] with
  | ok s =>
    rw [q] at this
    obtain ⟨t, ρ', e1, h2⟩ := this
    refine ⟨t, ρ', ?_, h2⟩
    have e1' : compM vs kt tt fe (xs.map fun p => kD (k p.1)) [] (wipeS (ρ.set i (.val (.dict ((enK k e xs).map fun p => (kD p.1, p.2))))) vs) = .ok t ρ' := e1
    rw [e1']; rfl
  | ex _ => trivial
  | bad => trivial
end
end
end Fx

set_option Elab.async false
set_option linter.all false
set_option maxRecDepth 100000
namespace Fx
open PySem L2
noncomputable section
section
variable {α β γ δ σ τ : Type} {Γ Γ' : List Cell}
/-! ### while -/
def whileT (c : σ → R Bool) (f : σ → R σ) : Nat → σ → R σ
  | 0, _ => .bad
  | n + 1, s => (c s).bind fun b => if b = true then (f s).bind (whileT c f n) else .ok s
def R.isBad {α : Type} : R α → Prop
  | .bad => True
  | _ => False
def whileR (c : σ → R Bool) (f : σ → R σ) (s : σ) : R σ := @dite _ (∃ n, ¬ (whileT c f n s).isBad) (Classical.propDecidable _) (fun h => whileT c f (Classical.choose h) s) fun _ => .bad
theorem whileT_more {c : σ → R Bool} {f : σ → R σ} : ∀ (n : Nat) (s : σ) (k : Nat), ¬ (whileT c f n s).isBad → whileT c f (n + k) s = whileT c f n s
  | 0, s, k, h => absurd trivial h
  | n + 1, s, k, h => by
    rw [show n + 1 + k = (n + k) + 1 by omega]
    unfold whileT at h ⊢
    cases e : c s with
    | ok b =>
      rw [e] at h
      simp only [R.bind_ok] at h ⊢
      cases b with
      | false => rfl
      | true =>
        simp only [if_true] at h ⊢
        cases e2 : f s with
        | ok s' =>
          rw [e2] at h
          exact whileT_more n s' k h
        | ex x => rfl
        | bad => rfl
    | ex x => rfl
    | bad => rfl
theorem whileR_of {c : σ → R Bool} {f : σ → R σ} {n : Nat} {s : σ} (h : ¬ (whileT c f n s).isBad) : whileR c f s = whileT c f n s := by
  unfold whileR
  have hh : ∃ n, ¬ (whileT c f n s).isBad := ⟨n, h⟩
  rw [dif_pos hh]
  have h2 := Classical.choose_spec hh
  generalize Classical.choose hh = m at h2
  rcases Nat.le_total n m with q | q
  · obtain ⟨k, rfl⟩ := Nat.exists_eq_add_of_le q
    exact whileT_more n s k h
  · obtain ⟨k, rfl⟩ := Nat.exists_eq_add_of_le q
    exact (whileT_more m s k h2).symm
theorem whileN_more {c : M Bool} {g : Ms} : ∀ (n : Nat) (ρ : Env) (k : Nat), ¬ (whileN c g n ρ).isBad → whileN c g (n + k) ρ = whileN c g n ρ
  | 0, s, k, h => absurd trivial h
  | n + 1, ρ, k, h => by
    rw [show n + 1 + k = (n + k) + 1 by omega]
    unfold whileN at h ⊢
    cases e : c ρ with
    | ok b ρ1 =>
      rw [e] at h
      simp only [Rs.st] at h ⊢
      cases b with
      | false => rfl
      | true =>
        simp only at h ⊢
        cases e2 : g ρ1 with
        | nx ρ2 => rw [e2] at h; exact whileN_more n ρ2 k h
        | ct ρ2 => rw [e2] at h; exact whileN_more n ρ2 k h
        | bk ρ2 => rfl
        | rt r ρ2 => rfl
        | ex x ρ2 => rfl
        | bad => rfl
    | ex x ρ1 => rfl
    | bad => rfl
theorem mWhile_of {c : M Bool} {g : Ms} {n : Nat} {ρ : Env} (h : ¬ (whileN c g n ρ).isBad) : mWhile c g ρ = whileN c g n ρ := by
  unfold mWhile
  have hh : ∃ n, ¬ (whileN c g n ρ).isBad := ⟨n, h⟩
  rw [dif_pos hh]
  have h2 := Classical.choose_spec hh
  generalize Classical.choose hh = m at h2
  rcases Nat.le_total n m with q | q
  · obtain ⟨k, rfl⟩ := Nat.exists_eq_add_of_le q
    exact whileN_more n ρ k h
  · obtain ⟨k, rfl⟩ := Nat.exists_eq_add_of_le q
    exact (whileN_more m ρ k h2).symm
theorem while_run {fc : M Bool} {g : Ms} {pc : σ → R Bool} {pb : σ → R σ} {Inv : σ → List Cell} (hc : ∀ s, TM (Inv s) fc (pc s) isB (fun _ => Inv s)) (hb : ∀ s, TS (Inv s) g (pb s) (pNx Inv)) :
    ∀ (n : Nat) (s : σ), TS (Inv s) (whileN fc g n) (whileT pc pb n s) (pNx Inv)
  | 0, s => fun ρ r => trivial
  | n + 1, s => by
    intro ρ r
    have h := hc s ρ r
    unfold whileT whileN
    cases e : pc s with
    | ok b =>
      rw [e] at h
      obtain ⟨b', ρ1, e1, hb1, r1⟩ := h
      have : b' = b := hb1
      subst this
      simp only [R.bind_ok, e1, Rs.st]
      cases b' with
      | false => exact ⟨ρ1, rfl, r1⟩
      | true =>
        simp only [if_true]
        have h2 := hb s ρ1 r1
        cases e2 : pb s with
        | ok s' =>
          rw [e2] at h2
          obtain ⟨ρ2, e3, r2⟩ := h2
          simp only [R.bind_ok, e3]
          exact while_run hc hb n s' ρ2 r2
        | ex x =>
          rw [e2] at h2
          obtain ⟨ρ2, e3⟩ := h2
          simp only [R.bind_ex, e3]
          exact ⟨_, rfl⟩
        | bad => trivial
    | ex x =>
      rw [e] at h
      obtain ⟨ρ1, e1⟩ := h
      simp only [R.bind_ex, e1, Rs.st]
      exact ⟨_, rfl⟩
    | bad => trivial
theorem ts_while {fc : M Bool} {g : Ms} {pc : σ → R Bool} {pb : σ → R σ} {Inv : σ → List Cell} (s0 : σ) (hw : Wc Γ (Inv s0)) (hc : ∀ s, TM (Inv s) fc (pc s) isB (fun _ => Inv s)) (hb : ∀ s, TS (Inv s) g (pb s) (pNx Inv)) : TS Γ (mWhile fc g) (whileR pc pb s0) (pNx Inv) := by
  refine ts_wk0 hw fun ρ r => ?_
  by_cases hh : ∃ n, ¬ (whileT pc pb n s0).isBad
  · obtain ⟨n, h⟩ := hh
    rw [whileR_of h]
    have := while_run hc hb n s0 ρ r
    have nb : ¬ (whileN fc g n ρ).isBad := by
      cases e : whileT pc pb n s0 with
      | ok s => rw [e] at this; obtain ⟨ρ', e1, _⟩ := this; rw [e1]; exact fun z => z
      | ex x => rw [e] at this; obtain ⟨ρ', e1⟩ := this; rw [e1]; exact fun z => z
      | bad => rw [e] at h; exact absurd trivial h
    rw [mWhile_of nb]
    exact this
  · unfold whileR
    rw [dif_neg hh]
    trivial
/-! ### calls that leave the last ones out -/
theorem ta_dfl {fs : M (List Sl)} {ds dd : List D} (h : TV Γ fs (isA ds)) : TV Γ (mDfl dd fs) (isA (ds ++ dd)) := by
  refine tv_bind h fun rs er ρ r => ?_
  have er' : rs = ds.map Sl.val := er
  subst er'
  exact ⟨_, ρ, rfl, by unfold isA; rw [List.map_append], r⟩
theorem ta_dflE {fs : M (List Sl)} {p : R α} {ds : α → List D} {dd : List D} {Δ : α → List Cell} (h : TM Γ fs p (fun v => isA (ds v)) Δ) : TM Γ (mDfl dd fs) p (fun v => isA (ds v ++ dd)) Δ := by
  have := tm_bind (K := fun rs ρ1 => Rs.ok (rs ++ dd.map Sl.val) ρ1) (q := fun v => R.ok v) (c' := fun v => isA (ds v ++ dd)) (Δ' := Δ) h fun v rs er => by
    intro ρ r
    have er' : rs = (ds v).map Sl.val := er
    subst er'
    exact ⟨_, ρ, rfl, by show _ = (ds v ++ dd).map Sl.val; rw [List.map_append], r⟩
  rw [R.bind_id] at this
  exact this
/-- an own list, read as data, with a right side that may fail -/
theorem te_OLE {g : D → D → Option Sl} (i : Nat) {fb : M Sl} {pb : R α} {a : D} {b : α → D} {q : α → R γ} {c : γ → Sl → Prop} (h : PkC Γ i a) (hb : TM Γ fb pb (fun v => isD (b v)) (fun _ => Γ)) (ho : ∀ v, OpF (g a (b v)) (q v) c) : TM Γ (mBinOL g i fb) (pb.bind q) c (fun _ => Γ) := by
  intro ρ r
  have hh := hb ρ r
  cases pb with
  | ok v =>
    obtain ⟨rb, ρ1, e2, eb, r1⟩ := hh
    have eb' : rb.d? = some (b v) := eb
    have ho' := ho v
    simp only [R.bind_ok]
    cases eq : q v with
    | ok w =>
      rw [eq] at ho'
      obtain ⟨s, e3, hc⟩ := ho'
      exact ⟨s, ρ1, by unfold mBinOL; simp only [r.pk h, e2, Rs.bd, r1.pk h, eb', e3], hc, r1⟩
    | ex _ => rw [eq] at ho'; exact ho'.elim
    | bad => trivial
  | ex x =>
    obtain ⟨ρ1, e2⟩ := hh
    exact ⟨ρ1, by unfold mBinOL; simp only [r.pk h, e2, Rs.bd]⟩
  | bad => trivial
end
end
end Fx

set_option Elab.async false
set_option linter.all false
set_option maxRecDepth 100000
namespace Fx
open PySem L2
noncomputable section
section
variable {α β : Type} {Γ : List Cell}
theorem ti_zipM {fs : M (List Sl)} {xs : List α} {ys : List β} {e : α → D} {e' : β → D} (h : TV Γ fs (isA [eT e xs, eL e' ys])) : TV Γ (mZipM fs) (isL ((xs.zip ys).map (eP2 e e'))) := by
  refine tv_bind h fun rs er ρ r => ?_
  have er' : rs = [.val (eT e xs), .val (eL e' ys)] := er
  subst er'
  exact ⟨_, ρ, rfl, zipD_map e e' xs ys, r⟩
theorem te_minO (i : Nat) {xs : List Int} (h : PkC Γ i (eL PyData.int xs)) : TM Γ (mMinO i) (minR ltI xs) (fun v => isD (.int v)) (fun _ => Γ) := by
  intro ρ r
  have o := o_min (lt := ltI) ec_int od_int nn_int xs
  cases e : minR ltI xs with
  | bad => trivial
  | ex x => rw [e] at o; exact o.elim
  | ok v =>
    rw [e] at o
    obtain ⟨s, e1, e2⟩ := o
    have e2' : s.d? = some (.int v) := e2
    have e3 : s = .val (.int v) := by
      unfold eL gMin at e1
      split at e1
      · split at e1
        · cases e1
          have : PyData.int v = _ := (Option.some.inj e2').symm
          rw [this]
        · cases e1
      · cases e1
    subst e3
    exact ⟨.val (.int v), ρ, by unfold mMinO; simp only [r.pk h, e1], rfl, r⟩
theorem tv_sliceO (i : Nat) {α : Type} {fl fh : M (Option Int)} {xs : List α} {e : α → D} {lo hi : Option Int} (h : Γ[i]? = some (.own (.lst (xs.map e)))) (hl : TV Γ fl (fun o => o = lo)) (hh : TV Γ fh (fun o => o = hi)) : TV Γ (mSliceO i fl fh) (isS (.lst ((cutT xs lo hi).map e))) := by
  intro ρ r
  obtain ⟨s, e1, hs⟩ := r.get h
  have hs' : s = .lst (xs.map e) := hs
  subst hs'
  obtain ⟨l, ρ1, e2, q2, r1⟩ := hl ρ r
  obtain ⟨h', ρ2, e3, q3, r2⟩ := hh ρ1 r1
  subst q2 q3
  obtain ⟨s, e4, hs⟩ := r2.get h
  have hs' : s = .lst (xs.map e) := hs
  subst hs'
  exact ⟨.lst (cutL (xs.map e) l h'), ρ2, by unfold mSliceO; simp only [e1, e2, e3, e4, Rs.bd], by rw [cutL_map], r2⟩
end
end
end Fx

set_option Elab.async false
set_option linter.all false
set_option maxRecDepth 100000
namespace Fx
open PySem L2
noncomputable section
section
variable {α β : Type} {Γ : List Cell}
/-! ### data of any kind, taken as of one kind -/
abbrev AsOf {γ : Type} (p : R γ) (q : γ → Prop) : Prop := match p with
  | .ok z => q z
  | .ex _ => False
  | .bad => True
def asIR : D → R Int
  | .int i => .ok i
  | _ => .bad
theorem as_int (d : D) : AsOf (asIR d) (fun z => (fun z : Fx.D => z) d = PyData.int z) := by
  cases d <;> first | trivial | rfl
def asTR : D → R (List D)
  | .tuple xs => .ok xs
  | _ => .bad
theorem as_tup (d : D) : AsOf (asTR d) (fun z => (fun z : Fx.D => z) d = eT (fun z : Fx.D => z) z) := by
  cases d <;> first | trivial | (show PyData.tuple _ = PyData.tuple _; rw [List.map_id'])
def asLR : D → R (List D)
  | .list xs => .ok xs
  | _ => .bad
theorem as_lst (d : D) : AsOf (asLR d) (fun z => (fun z : Fx.D => z) d = eL (fun z : Fx.D => z) z) := by
  cases d <;> first | trivial | (show PyData.list _ = PyData.list _; rw [List.map_id'])
def asSR : D → R Str
  | .str i => .ok i
  | _ => .bad
theorem as_str (d : D) : AsOf (asSR d) (fun z => (fun z : Fx.D => z) d = PyData.str z) := by
  cases d <;> first | trivial | rfl
def intsD : List D → Option (List Int)
  | [] => some []
  | .int i :: l => (intsD l).map (i :: ·)
  | _ => none
theorem intsD_eq : ∀ {l : List D} {z : List Int}, intsD l = some z → l = z.map PyData.int
  | [], z, h => by cases h; rfl
  | .int i :: l, z, h => by
    unfold intsD at h
    cases e : intsD l with
    | none => rw [e] at h; cases h
    | some y =>
      rw [e] at h
      cases h
      rw [intsD_eq e]; rfl
  | .none :: _, _, h => by cases h
  | .bool _ :: _, _, h => by cases h
  | .str _ :: _, _, h => by cases h
  | .list _ :: _, _, h => by cases h
  | .tuple _ :: _, _, h => by cases h
  | .dict _ :: _, _, h => by cases h
def asTIR : D → R (List Int)
  | .tuple xs => .ofO (intsD xs)
  | _ => .bad
theorem as_tint (d : D) : AsOf (asTIR d) (fun z => (fun z : Fx.D => z) d = eT PyData.int z) := by
  cases d with
  | tuple xs =>
    show AsOf (R.ofO (intsD xs)) (fun z => PyData.tuple xs = eT PyData.int z)
    cases e : intsD xs with
    | none => trivial
    | some z => show PyData.tuple xs = PyData.tuple _; rw [intsD_eq e]
  | _ => trivial
def asP2R : D → R (Fx.D × Fx.D)
  | .tuple [a, b] => .ok (a, b)
  | _ => .bad
theorem as_p2 : ∀ d : D, AsOf (asP2R d) (fun z => (fun z : Fx.D => z) d = eP2 (fun z : Fx.D => z) (fun z : Fx.D => z) z)
  | .tuple [_, _] => rfl
  | .tuple [] => trivial
  | .tuple [_] => trivial
  | .tuple (_ :: _ :: _ :: _) => trivial
  | .none => trivial
  | .bool _ => trivial
  | .int _ => trivial
  | .str _ => trivial
  | .list _ => trivial
  | .dict _ => trivial
def asP3R : D → R (Fx.D × Fx.D × Fx.D)
  | .tuple [a, b, c] => .ok (a, b, c)
  | _ => .bad
theorem as_p3 : ∀ d : D, AsOf (asP3R d) (fun z => (fun z : Fx.D => z) d = eP3 (fun z : Fx.D => z) (fun z : Fx.D => z) (fun z : Fx.D => z) z)
  | .tuple [_, _, _] => rfl
  | .tuple [] => trivial
  | .tuple [_] => trivial
  | .tuple [_, _] => trivial
  | .tuple (_ :: _ :: _ :: _ :: _) => trivial
  | .none => trivial
  | .bool _ => trivial
  | .int _ => trivial
  | .str _ => trivial
  | .list _ => trivial
  | .dict _ => trivial
/-! ### isinstance(x, (T, S)) -/
def isi2R (T S : String) (d : D) : R Bool := .ofO (isiD2 T S d)
theorem q_isi2 (T S : String) (d : D) : OpF (gIsi2 T S d) (isi2R T S d) cB := by
  unfold isi2R gIsi2
  cases isiD2 T S d with
  | none => trivial
  | some b => exact ⟨_, rfl, rfl⟩
/-! ### list(range(n)) -/
def lrgR (j : Int) : R (List Int) := if tru (0 ≤ j ∧ j ≤ 1000000) = true then .ok ((List.range j.toNat).map fun i => ((i : Nat) : Int)) else .bad
theorem o_lrg (j : Int) : OpF (gLRg (.int j)) (lrgR j) (fun z => isS (.lst (z.map PyData.int))) := by
  unfold lrgR gLRg
  by_cases h : tru (0 ≤ j ∧ j ≤ 1000000) = true
  · rw [if_pos h]
    refine ⟨_, if_pos h, ?_⟩
    show _ = _
    rw [List.map_map]
    rfl
  · rw [if_neg h]; trivial
/-! ### sorted of a list or a tuple -/
theorem o_sortedL [DecidableEq α] {e : α → D} {lt : α → α → Bool} (h : Od e lt) (xs : List α) : OpF (gSortedA [eL e xs]) (sortR e lt xs) (fun zs => isS (.lst (zs.map e))) := o_sorted h xs
theorem o_sortedT [DecidableEq α] {e : α → D} {lt : α → α → Bool} (h : Od e lt) (xs : List α) : OpF (gSortedA [eT e xs]) (sortR e lt xs) (fun zs => isS (.lst (zs.map e))) := o_sorted h xs
/-! ### a and b, where b draws -/
theorem tb_andSE {σ : Type} {f g : M Bool} {pa : R Bool} {pb : R (Bool × σ)} {s : σ} {Δ : σ → List Cell} (ha : TM Γ f pa isB (fun _ => Γ)) (hb : TM Γ g pb (fun v => isB v.1) (fun v => Δ v.2)) (h0 : Wc Γ (Δ s)) : TM Γ (mAnd f g) (pa.bind fun a => if a = true then pb else .ok (false, s)) (fun v => isB v.1) (fun v => Δ v.2) :=
  tm_bind ha fun v ra ea => by
    have : ra = v := ea
    subst this
    cases ra with
    | false => exact fun ρ r => ⟨_, ρ, rfl, rfl, r.wk h0⟩
    | true => exact hb
/-! ### list(x) of data of any kind -/
def listDR : D → R (List D)
  | .tuple xs => .ok xs
  | .list xs => .ok xs
  | _ => .bad
theorem q_listD (d : D) : OpF (gListC [d]) (listDR d) (fun z => isS (.lst (z.map fun z : Fx.D => z))) := by
  cases d with
  | tuple xs => exact ⟨_, rfl, by show Sl.lst _ = Sl.lst (List.map _ _); rw [List.map_id']⟩
  | list xs => exact ⟨_, rfl, by show Sl.lst _ = Sl.lst (List.map _ _); rw [List.map_id']⟩
  | _ => trivial
/-! ### x[k] = e, where e may fail or draw -/
theorem ts_setIxE {γ : Type} (i : Nat) {fi fe : M Sl} {pe : R γ} {Δ : γ → List Cell} {xs : γ → List α} {e : α → D} {y : γ → α} {k : Int} (he : TM Γ fe pe (fun v => isD (e (y v))) Δ) (h : ∀ v, (Δ v)[i]? = some (.own (.lst ((xs v).map e)))) (hi : ∀ v, TV (Δ v) fi (isD (.int k))) :
    TS Γ (mSetIx i fi fe) (pe.bind fun v => (setR (xs v) k (y v)).bind fun ys => .ok (v, ys)) (pNx fun w => (Δ w.1).set i (.own (.lst (w.2.map e)))) := by
  intro ρ r
  have h1 := he ρ r
  cases pe with
  | bad => trivial
  | ex x =>
    obtain ⟨ρ1, e1⟩ := h1
    exact ⟨ρ1, by unfold mSetIx; rw [e1]; rfl⟩
  | ok v =>
    obtain ⟨s, ρ1, e1, es, r1⟩ := h1
    have q := ts_setIx (fe := fun ρ => .ok s ρ) i (h v) (fun ρ r => ⟨s, ρ, rfl, es, r⟩) (hi v) ρ1 r1
    have eq : mSetIx i fi fe ρ = mSetIx i fi (fun ρ => .ok s ρ) ρ1 := by
      unfold mSetIx
      rw [e1]
    rw [eq]
    simp only [R.bind_ok]
    cases e2 : setR (xs v) k (y v) with
    | ok ys => rw [e2] at q; exact q
    | ex x => rw [e2] at q; exact q
    | bad => trivial
/-! ### x.pop(k) as a statement -/
theorem erase_map (e : α → D) : ∀ (l : List α) (i : Nat), (l.map e).eraseIdx i = (l.eraseIdx i).map e
  | [], _ => rfl
  | _ :: _, 0 => rfl
  | a :: l, i + 1 => congrArg (e a :: ·) (erase_map e l i)
def popR (xs : List α) (k : Int) : R (List α) := if tru (0 ≤ k ∧ k < 2 ^ 63) = true ∧ k.toNat < xs.length then .ok (xs.eraseIdx k.toNat) else .bad
theorem om_pop {e : α → D} (xs : List α) (k : Int) : OpM (gPopAt (.lst (xs.map e)) [.int k]) (popR xs k) (fun z => .lst (z.map e)) (fun _ _ => True) := by
  unfold popR
  by_cases q : tru (0 ≤ k ∧ k < 2 ^ 63) = true ∧ k.toNat < xs.length
  · rw [if_pos q]
    have e1 : (xs.map e)[k.toNat]? = some (e xs[k.toNat]) := by rw [List.getElem?_map, List.getElem?_eq_getElem q.2]; rfl
    refine ⟨.val (e xs[k.toNat]), ?_, trivial⟩
    unfold gPopAt
    simp only
    rw [if_pos q.1, e1]
    simp only [erase_map]
  · rw [if_neg q]; trivial
/-! ### x[k] of one's own, where k draws -/
theorem te_ixOE {γ : Type} (i : Nat) {fb : M Sl} {pb : R γ} {k : γ → Int} {Δ : γ → List Cell} {xs : List α} {e : α → D} (h : Γ[i]? = some (.own (.lst (xs.map e)))) (hb : TM Γ fb pb (fun v => isD (.int (k v))) Δ) (h2 : ∀ v, (Δ v)[i]? = some (.own (.lst (xs.map e)))) :
    TM Γ (mIxO i fb) (pb.bind fun v => (atR xs (k v)).bind fun z => .ok (z, v)) (fun w => isD (e w.1)) (fun w => Δ w.2) := by
  intro ρ r
  have h1 := hb ρ r
  obtain ⟨s0, e0, hs⟩ := r.get h
  have hs' : s0 = .lst (xs.map e) := hs
  subst hs'
  cases pb with
  | bad => trivial
  | ex x =>
    obtain ⟨ρ1, e1⟩ := h1
    exact ⟨ρ1, by unfold mIxO; simp only [e0, e1, Rs.bd]⟩
  | ok v =>
    obtain ⟨s, ρ1, e1, es, r1⟩ := h1
    obtain ⟨t0, e3, ht⟩ := r1.get (h2 v)
    have ht' : t0 = .lst (xs.map e) := ht
    subst ht'
    have q := q_ixO (Γ := Δ v) (fb := fun ρ => .ok s ρ) i e xs (k := k v) (h2 v) (fun ρ r => ⟨s, ρ, rfl, es, r⟩) ρ1 r1
    have eq : mIxO i fb ρ = mIxO i (fun ρ => .ok s ρ) ρ1 := by
      unfold mIxO
      simp only [e0, e1, e3, Rs.bd]
    rw [eq]
    simp only [R.bind_ok]
    cases e2 : atR xs (k v) with
    | ok z => rw [e2] at q; exact q
    | ex x => rw [e2] at q; exact q
    | bad => trivial
/-! ### tuple(x) of data of any kind -/
theorem q_tupD (d : D) : OpF (gTupC d) (listDR d) (fun z => isD (eT (fun z : Fx.D => z) z)) := by
  cases d with
  | tuple xs => exact ⟨_, rfl, by show some (PyData.tuple _) = some (PyData.tuple (List.map _ _)); rw [List.map_id']⟩
  | list xs => exact ⟨_, rfl, by show some (PyData.tuple _) = some (PyData.tuple (List.map _ _)); rw [List.map_id']⟩
  | _ => trivial
/-! ### len and place of data of any kind -/
def lenDR (d : D) : R Int := match gLen [d] with
  | some (.val (.int n)) => .ok n
  | _ => .bad
theorem q_lenD (d : D) : OpF (gLen [d]) (lenDR d) (fun z => isD (.int z)) := by
  unfold lenDR
  split
  · rename_i n e
    exact ⟨_, e, rfl⟩
  · trivial
def ixDR (d : D) (k : Int) : R D := match gIx d (.int k) with
  | some (.val z) => .ok z
  | _ => .bad
theorem q_ixD (d : D) (k : Int) : OpF (gIx d (.int k)) (ixDR d k) (fun z => isD ((fun z : Fx.D => z) z)) := by
  unfold ixDR
  split
  · rename_i z e
    exact ⟨_, e, rfl⟩
  · trivial
/-! ### text + text -/
def catSR (x y : Str) : R Str := match gAdd (.str x) (.str y) with
  | some (.val (.str z)) => .ok z
  | _ => .bad
theorem o_catS (x y : Str) : OpF (gAdd (.str x) (.str y)) (catSR x y) (fun z => isD (.str z)) := by
  unfold catSR
  split
  · rename_i z e
    exact ⟨_, e, rfl⟩
  · trivial
end
end
end Fx

set_option Elab.async false
set_option linter.all false
set_option maxRecDepth 100000
namespace Fx
open PySem L2
noncomputable section
section
variable {Γ : List Cell}
/-! ### x[::-1] of one's own -/
theorem tv_revO (i : Nat) {α : Type} {xs : List α} {e : α → D} (h : Γ[i]? = some (.own (.lst (xs.map e)))) : TV Γ (mRevO i) (isS (.lst (xs.reverse.map e))) := by
  intro ρ r
  obtain ⟨s, e1, hs⟩ := r.get h
  have hs' : s = .lst (xs.map e) := hs
  subst hs'
  exact ⟨.lst (xs.map e).reverse, ρ, by unfold mRevO; simp only [e1], by rw [List.map_reverse], r⟩
end
section
variable {α β γ δ κ : Type} {Γ : List Cell} {e : β → D} {kf : κ → List Key} {ke : κ → D}
/-! ### dicts with tuples for keys -/
structure Kt (kf : κ → List Key) (ke : κ → D) : Prop where
  inj : ∀ a b, kf a = kf b → a = b
  eq : ∀ a, ke a = .tuple ((kf a).map kD)
theorem kAll_kD : ∀ ks : List Key, kAll (ks.map kD) = some ks
  | [] => rfl
  | k :: ks => by
    rw [List.map_cons]
    unfold kAll
    rw [show keyOf (kD k) = some k by cases k <;> rfl, kAll_kD ks]
theorem Kt.tk (h : Kt kf ke) (a : κ) : tkOf (ke a) = some (kf a) := by
  rw [h.eq]
  exact kAll_kD _
def enT (kf : κ → List Key) (e : β → D) (xs : List (κ × β)) : List (List Key × D) := xs.map fun p => (kf p.1, e p.2)
theorem look_T [DecidableEq κ] (h : Kt kf ke) (a : κ) : ∀ xs : List (κ × β), lookT (enT kf e xs) (kf a) = (getK xs a).map e
  | [] => rfl
  | p :: xs => by
    have ih := look_T h a xs
    show lookT ((kf p.1, e p.2) :: enT kf e xs) (kf a) = _
    unfold lookT getK
    by_cases q : p.1 = a
    · rw [if_pos (by rw [q]), if_pos q]; rfl
    · rw [if_neg (fun z => q (h.inj _ _ z)), if_neg q]; exact ih
theorem putD_T [DecidableEq κ] (h : Kt kf ke) (xs : List (κ × β)) (a : κ) (v : β) : putD (enT kf e xs) (kf a) (e v) = enT kf e (putK xs a v) := by
  have iff : ∀ b, decide (kf b = kf a) = decide (b = a) := fun b => by
    by_cases q : b = a
    · subst q; simp
    · rw [decide_eq_false q, decide_eq_false fun z => q (h.inj _ _ z)]
  have any : ((enT kf e xs).any fun p => decide (p.1 = kf a)) = xs.any fun p => decide (p.1 = a) := by
    unfold enT
    rw [List.any_map]
    exact congrArg (fun g => xs.any g) (funext fun p => iff p.1)
  unfold putD putK
  rw [any]
  split
  · unfold enT
    rw [List.map_map, List.map_map]
    refine congrArg (fun g => xs.map g) (funext fun p => ?_)
    show (if kf p.1 = kf a then (kf p.1, e v) else (kf p.1, e p.2)) = _
    by_cases q : p.1 = a
    · simp [q]
    · rw [if_neg fun z => q (h.inj _ _ z)]
      simp [q]
  · unfold enT; rw [List.map_append]; rfl
theorem enT_len (xs : List (κ × β)) : (enT kf e xs).length = xs.length := by unfold enT; rw [List.length_map]
theorem tv_newT (kf : κ → List Key) (e : β → D) : TV Γ mNewT (isS (.dT (enT kf e []))) := fun ρ r => ⟨_, ρ, rfl, rfl, r⟩
theorem val_tk {s : Sl} {d : D} {k : List Key} (h : s.d? = some d) (q : tkOf d = some k) : s = .val d := by
  cases s with
  | val d' => cases h; rfl
  | lst ds => cases h; cases q
  | dK ds => cases h; cases q
  | _ => cases h
theorem ts_setT [DecidableEq κ] (i : Nat) {fi fe : M Sl} (hk : Kt kf ke) (e : β → D) {pe : R α} {pi : α → R δ} {v : α → β} {xs0 : α → List (κ × β)} {xs : α → δ → List (κ × β)} {a : α → δ → κ} {Δ : α → List Cell} {Δ2 : α → δ → List Cell} {Δ' : γ → List Cell} (pk : α → δ → List (κ × β) → γ) (he : TM Γ fe pe (fun w => isD (e (v w))) Δ)
    (h0 : ∀ w, (Δ w)[i]? = some (.own (.dT (enT kf e (xs0 w))))) (hi : ∀ w, TM (Δ w) fi (pi w) (fun u => isD (ke (a w u))) (Δ2 w)) (h : ∀ w u, (Δ2 w u)[i]? = some (.own (.dT (enT kf e (xs w u))))) (hΔ : ∀ w u ys, Wc ((Δ2 w u).set i (.own (.dT (enT kf e ys)))) (Δ' (pk w u ys))) :
    TS Γ (mSetT i fi fe) (pe.bind fun w => (pi w).bind fun u => (setKR (xs w u) (a w u) (v w)).bind fun ys => .ok (pk w u ys)) (pNx Δ') := by
  intro ρ r
  have q0 := he ρ r
  cases pe with
  | ok w =>
    obtain ⟨re, ρ0, e0, ee, r0⟩ := q0
    obtain ⟨s, e1, hs⟩ := r0.get (h0 w)
    have hs' : s = .dT (enT kf e (xs0 w)) := hs
    subst hs'
    have ee' : re.d? = some (e (v w)) := ee
    have q1 := hi w ρ0 r0
    simp only [R.bind_ok]
    cases e2 : pi w with
    | ok u =>
      rw [e2] at q1
      obtain ⟨rb, ρ1, e3, eb, r1⟩ := q1
      obtain ⟨s, e4, hs⟩ := r1.get (h w u)
      have hs' : s = .dT (enT kf e (xs w u)) := hs
      subst hs'
      have eb' := val_tk eb (hk.tk _)
      subst eb'
      simp only [R.bind_ok]
      unfold setKR szR
      cases q : szOk ((xs w u).length + 1) with
      | false => trivial
      | true =>
        simp only [if_true, R.bind_ok]
        refine ⟨ρ1.set i (.dT (enT kf e (putK (xs w u) (a w u) (v w)))), ?_, Rel.wk (Rel.set (c := .own (.dT (enT kf e (putK (xs w u) (a w u) (v w))))) r1 rfl) (hΔ w u _)⟩
        unfold mSetT
        simp only [e0, Rs.st, ee', e1, e3, hk.tk, e4, enT_len, q, putD_T hk]
    | ex x =>
      rw [e2] at q1
      obtain ⟨ρ', e3⟩ := q1
      exact ⟨ρ', by unfold mSetT; simp only [e0, Rs.st, ee', e1, e3]⟩
    | bad => trivial
  | ex x =>
    obtain ⟨ρ', e⟩ := q0
    exact ⟨ρ', by unfold mSetT; simp only [e, Rs.st]⟩
  | bad => trivial
theorem te_getT [DecidableEq κ] (i : Nat) {fb : M Sl} (hk : Kt kf ke) (e : β → D) {xs : List (κ × β)} {a : κ} (h : Γ[i]? = some (.own (.dT (enT kf e xs)))) (hb : TV Γ fb (isD (ke a))) : TM Γ (mGetT i fb) (getR xs a) (fun z => isD (e z)) (fun _ => Γ) := by
  intro ρ r
  obtain ⟨s, e1, hs⟩ := r.get h
  have hs' : s = .dT (enT kf e xs) := hs
  subst hs'
  obtain ⟨rb, ρ1, e2, eb, r1⟩ := hb ρ r
  have eb' := val_tk eb (hk.tk _)
  subst eb'
  obtain ⟨s, e3, hs⟩ := r1.get h
  have hs' : s = .dT (enT kf e xs) := hs
  subst hs'
  have lk := look_T (e := e) hk a xs
  unfold getR
  cases q : getK xs a with
  | none => trivial
  | some z =>
    rw [q] at lk
    exact ⟨.val (e z), ρ1, by unfold mGetT; simp only [e1, e2, Rs.bd, hk.tk, e3, lk, Option.map_some], rfl, r1⟩
theorem tv_hasT [DecidableEq κ] (neg : Bool) (i : Nat) {fb : M Sl} (hk : Kt kf ke) {xs : List (κ × β)} {a : κ} (h : Γ[i]? = some (.own (.dT (enT kf e xs)))) (hb : TV Γ fb (isD (ke a))) : TV Γ (mHasT neg fb i) (isD (.bool (xor neg (getK xs a).isSome))) := by
  intro ρ r
  obtain ⟨rb, ρ1, e2, eb, r1⟩ := hb ρ r
  have eb' := val_tk eb (hk.tk _)
  subst eb'
  obtain ⟨s, e3, hs⟩ := r1.get h
  have hs' : s = .dT (enT kf e xs) := hs
  subst hs'
  have lk := look_T (e := e) hk a xs
  exact ⟨.val (.bool (xor neg (getK xs a).isSome)), ρ1, by unfold mHasT; simp only [e2, Rs.bd, hk.tk, e3, lk, Option.isSome_map], rfl, r1⟩
theorem tv_listT (i : Nat) (hk : Kt kf ke) {xs : List (κ × β)} (h : Γ[i]? = some (.own (.dT (enT kf e xs)))) : TV Γ (mListT i) (isS (.lst ((xs.map (·.1)).map ke))) := by
  intro ρ r
  obtain ⟨s, e3, hs⟩ := r.get h
  have hs' : s = .dT (enT kf e xs) := hs
  subst hs'
  refine ⟨.lst (keysT (enT kf e xs)), ρ, by unfold mListT; simp only [e3], ?_, r⟩
  show Sl.lst _ = Sl.lst _
  unfold keysT enT
  rw [List.map_map, List.map_map]
  exact congrArg (fun g => Sl.lst (xs.map g)) (funext fun p => (hk.eq p.1).symm)
def kII (p : Int × Int) : List Key := [.inl p.1, .inl p.2]
theorem kt_II : Kt kII (eP2 PyData.int PyData.int) := ⟨fun a b h => by
  obtain ⟨x, y⟩ := a
  obtain ⟨z, w⟩ := b
  unfold kII at h
  simp only [List.cons.injEq, Sum.inl.injEq, and_true] at h
  rw [h.1, h.2], fun _ => rfl⟩
def eY (k : List Key) : D := .tuple (k.map kD)
theorem kt_Y : Kt (fun k : List Key => k) eY := ⟨fun _ _ h => h, fun _ => rfl⟩
/-! what is fresh is handed on -/
theorem tr_fresh {fa : M Sl} {fr : M (List Sl)} {pr : R α} {s : Sl} {as : α → List Cell} {Δ : α → List Cell} (ha : TV Γ fa (isS s)) (hr : TM Γ fr pr (fun v => isR (as v)) Δ) : TM Γ (mArgF fa fr) pr (fun v => isR (.own s :: as v)) Δ := by
  intro ρ r
  obtain ⟨s1, ρ1, e1, hs, r1⟩ := ha ρ r
  have hs' : s1 = s := hs
  subst hs'
  have q := hr ρ1 r1
  cases pr with
  | bad => trivial
  | ex x =>
    obtain ⟨ρ2, e2⟩ := q
    exact ⟨ρ2, by unfold mArgF; simp only [e1, e2, Rs.bd]⟩
  | ok v =>
    obtain ⟨rs, ρ2, e2, q2, r2⟩ := q
    exact ⟨_, ρ2, by unfold mArgF; simp only [e1, e2, Rs.bd], isR_own q2, r2⟩
end
end
end Fx

set_option Elab.async false
set_option linter.all false
set_option maxRecDepth 100000
namespace Fx
open PySem L2
noncomputable section
section
variable {α : Type} {Γ : List Cell} {e : α → D}
theorem o_revT (e : α → D) (xs : List α) : gRevT (eT e xs) = some (.val (eT e xs.reverse)) := by
  show some (Sl.val (.tuple (xs.map e).reverse)) = _
  rw [← List.map_reverse]; rfl
def sortSetR (xs : List Int) : R (List Int) := if tru (xs.length ≤ 60) = true then .ok (sortU xs) else .bad
theorem o_sortSetL (xs : List Int) : OpF (gSortSet (eL PyData.int xs)) (sortSetR xs) (fun z => isS (.lst (z.map PyData.int))) := by
  unfold gSortSet eL sortSetR
  simp only [intL_map]
  by_cases h : tru (xs.length ≤ 60) = true
  · rw [if_pos h, if_pos h]; exact ⟨_, rfl, rfl⟩
  · rw [if_neg h, if_neg h]; trivial
theorem o_sortSetT (xs : List Int) : OpF (gSortSet (eT PyData.int xs)) (sortSetR xs) (fun z => isS (.lst (z.map PyData.int))) := by
  unfold gSortSet eT sortSetR
  simp only [intL_map]
  by_cases h : tru (xs.length ≤ 60) = true
  · rw [if_pos h, if_pos h]; exact ⟨_, rfl, rfl⟩
  · rw [if_neg h, if_neg h]; trivial
/-! a list or a tuple of ints -/
def eZ (z : Bool × List Int) : D := match z.1 with
  | true => eL PyData.int z.2
  | false => eT PyData.int z.2
theorem o_sortSetZ (z : Bool × List Int) : OpF (gSortSet (eZ z)) (sortSetR z.2) (fun z => isS (.lst (z.map PyData.int))) := by
  obtain ⟨b, xs⟩ := z
  cases b with
  | true => exact o_sortSetL xs
  | false => exact o_sortSetT xs
theorem seq_Z (z : Bool × List Int) : D.seq? (eZ z) = some (z.2.map PyData.int) := by
  obtain ⟨b, xs⟩ := z
  cases b <;> rfl
theorem o_listZ (z : Bool × List Int) : gListC [eZ z] = some (.lst (z.2.map PyData.int)) := by
  obtain ⟨b, xs⟩ := z
  cases b <;> rfl
def memB {α : Type} [DecidableEq α] (x : α) (l : List α) : Bool := decide (x ∈ l)
theorem memB_iff {α : Type} [DecidableEq α] {x : α} {l : List α} : memB x l = true ↔ x ∈ l := by
  unfold memB
  rw [decide_eq_true_eq]
def keysX {κ β : Type} (xs : List (κ × β)) : List κ := xs.map (·.1)
theorem tv_listX {κ β : Type} {kf : κ → List Key} {ke : κ → D} {e : β → D} (i : Nat) (hk : Kt kf ke) {xs : List (κ × β)} (h : Γ[i]? = some (.own (.dT (enT kf e xs)))) : TV Γ (mListT i) (isS (.lst ((keysX xs).map ke))) := tv_listT i hk h
end
section
variable {α β σ δ : Type} {Γ : List Cell}
/-! ### a comprehension of which the test draws -/
def compT (t : α → σ → R (Bool × σ)) (f : α → σ → R (β × σ)) : List α → List β → σ → R (List β × σ)
  | [], acc, s => .ok (acc, s)
  | a :: l, acc, s => (t a s).calm.bind fun b => if b.1 = true then (f a b.2).calm.bind fun y => if szOk (acc.length + 1) = true then compT t f l (acc ++ [y.1]) y.2 else .bad else compT t f l acc b.2
theorem compT_run {vs : List Nat} {k : Sl → Env → Option Env} {tt : M Bool} {fe : M Sl} {e : α → D} {Inv : σ → List Cell} {Γk : α → σ → List Cell} {Γt : α → Bool × σ → List Cell} {Γe : α → β × σ → List Cell} {pt : α → σ → R (Bool × σ)} {pe : α → σ → R (β × σ)} {ce : β → Sl → Prop} {e' : β → D}
    (hk : ∀ x s, TK k (e x) (Inv s) (Γk x s)) (ht : ∀ x s, TM (Γk x s) tt (pt x s) (fun v => isB v.1) (Γt x)) (he : ∀ x v, TM (Γt x v) fe (pe x v.2) (fun v => ce v.1) (Γe x)) (hce : ∀ v s, ce v s → s.d? = some (e' v)) (hw : ∀ x v, wipeC (Γt x v) vs = Inv v.2) (hw2 : ∀ x v, wipeC (Γe x v) vs = Inv v.2) :
    ∀ (xs : List α) (acc : List β) (s : σ), TM (Inv s) (compM vs k tt fe (xs.map e) (acc.map e')) (compT pt pe xs acc s) (fun zs => isS (.lst (zs.1.map e'))) (fun zs => Inv zs.2)
  | [], acc, s => fun ρ r => ⟨_, ρ, rfl, rfl, r⟩
  | x :: xs, acc, s => by
    intro ρ r
    obtain ⟨ρ1, e1, r1⟩ := hk x s ρ r
    have wp : ∀ v ρ', Rel (Γt x v) ρ' → Rel (Inv v.2) (wipeS ρ' vs) := fun v ρ' r' => by have := r'.wipe vs; rw [hw x v] at this; exact this
    have wp2 : ∀ v ρ', Rel (Γe x v) ρ' → Rel (Inv v.2) (wipeS ρ' vs) := fun v ρ' r' => by have := r'.wipe vs; rw [hw2 x v] at this; exact this
    rw [List.map_cons]
    unfold compM compT
    simp only [e1]
    rcases calm_x (γ := Unit) (ht x s) r1 with ⟨b, s1, ρ2, q1, q2, q3, r2⟩ | q
    · obtain ⟨b, s2⟩ := b
      have : s1 = b := q3
      subst this
      rw [q1]
      simp only [q2, R.calm_ok, R.bind_ok]
      cases s1 with
      | false =>
        simp only [Bool.false_eq_true, if_false]
        exact compT_run hk ht he hce hw hw2 xs acc s2 _ (wp _ _ r2)
      | true =>
        simp only [if_true]
        rcases calm_x (γ := Unit) (he x (true, s2)) r2 with ⟨y, t, ρ3, q4, q5, q6, r3⟩ | q
        · rw [q4]
          simp only [q5, R.calm_ok, R.bind_ok, hce _ _ q6, List.length_map]
          cases hz : szOk (acc.length + 1) with
          | false => simp only [Bool.false_eq_true, if_false]
          | true =>
            simp only [if_true]
            have := compT_run hk ht he hce hw hw2 xs (acc ++ [y.1]) y.2 _ (wp2 _ _ r3)
            rw [List.map_append] at this
            exact this
        · rw [q]; trivial
    · rw [q]; trivial
theorem tm_compT {vs : List Nat} {fi : M (List D)} {k : Sl → Env → Option Env} {tt : M Bool} {fe : M Sl} {e : α → D} {Inv : σ → List Cell} {Γk : α → σ → List Cell} {Γt : α → Bool × σ → List Cell} {Γe : α → β × σ → List Cell} {pi : R δ} {xs : δ → List α} {Δi : δ → List Cell} {pt : α → σ → R (Bool × σ)} {pe : α → σ → R (β × σ)} {ce : β → Sl → Prop} (e' : β → D) (s0 : δ → σ)
    (hi : TM Γ fi pi (fun v => isL ((xs v).map e)) Δi) (hi2 : ∀ v, Wc (Δi v) (Inv (s0 v))) (h0 : ∀ s, wipeC (Inv s) vs = Inv s) (hk : ∀ x s, TK k (e x) (Inv s) (Γk x s)) (ht : ∀ x s, TM (Γk x s) tt (pt x s) (fun v => isB v.1) (Γt x)) (he : ∀ x v, TM (Γt x v) fe (pe x v.2) (fun v => ce v.1) (Γe x)) (hce : ∀ v s, ce v s → s.d? = some (e' v)) (hw : ∀ x v, wipeC (Γt x v) vs = Inv v.2) (hw2 : ∀ x v, wipeC (Γe x v) vs = Inv v.2) :
    TM Γ (mComp vs fi k tt fe) (pi.bind fun v => compT pt pe (xs v) [] (s0 v)) (fun zs => isS (.lst (zs.1.map e'))) (fun zs => Inv zs.2) :=
  tm_bind hi fun v ds hd => by
    have hd' : ds = (xs v).map e := hd
    subst hd'
    intro ρ r
    exact compT_run hk ht he hce hw hw2 (xs v) [] (s0 v) (wipeS ρ vs) (by have := (r.wk (hi2 v)).wipe vs; rw [h0] at this; exact this)
end
end
end Fx

set_option Elab.async false
set_option linter.all false
set_option maxRecDepth 100000
namespace Fx
open PySem L2
noncomputable section
section
variable {α β κ σ τ : Type} {Γ : List Cell} {e : β → D}
/-! ### a or b, a and b, where b draws -/
theorem tb_orG {f g : M Bool} {pa : R Bool} {pb : R τ} {bv : τ → Bool} {sv : τ → σ} {Δb : τ → List Cell} {Δ : σ → List Cell} {s0 : σ} (ha : TM Γ f pa isB (fun _ => Γ)) (hb : TM Γ g pb (fun v => isB (bv v)) Δb) (h0 : Wc Γ (Δ s0)) (hs : ∀ v, Wc (Δb v) (Δ (sv v))) :
    TM Γ (mOr f g) (pa.bind fun a => if a = true then .ok (true, s0) else pb.bind fun v => .ok (bv v, sv v)) (fun v => isB v.1) (fun v => Δ v.2) :=
  tm_bind ha fun v ra ea => by
    have : ra = v := ea
    subst this
    cases ra with
    | true => exact fun ρ r => ⟨_, ρ, rfl, rfl, r.wk h0⟩
    | false => exact tm_pack (fun v => (bv v, sv v)) hb (fun _ _ h => h) hs
theorem tb_andG {f g : M Bool} {pa : R Bool} {pb : R τ} {bv : τ → Bool} {sv : τ → σ} {Δb : τ → List Cell} {Δ : σ → List Cell} {s0 : σ} (ha : TM Γ f pa isB (fun _ => Γ)) (hb : TM Γ g pb (fun v => isB (bv v)) Δb) (h0 : Wc Γ (Δ s0)) (hs : ∀ v, Wc (Δb v) (Δ (sv v))) :
    TM Γ (mAnd f g) (pa.bind fun a => if a = true then pb.bind fun v => .ok (bv v, sv v) else .ok (false, s0)) (fun v => isB v.1) (fun v => Δ v.2) :=
  tm_bind ha fun v ra ea => by
    have : ra = v := ea
    subst this
    cases ra with
    | false => exact fun ρ r => ⟨_, ρ, rfl, rfl, r.wk h0⟩
    | true => exact tm_pack (fun v => (bv v, sv v)) hb (fun _ _ h => h) hs
/-! ### k in d, d one's own, numbers or texts for keys -/
theorem tv_hasK [DecidableEq κ] {k : κ → Key} (neg : Bool) (i : Nat) {fb : M Sl} (hk : Kc k) {xs : List (κ × β)} {a : κ} (h : Γ[i]? = some (.own (.dK (enK k e xs)))) (hb : TV Γ fb (isD (kD (k a)))) : TV Γ (mHasK neg fb i) (isD (.bool (xor neg (getK xs a).isSome))) := by
  intro ρ r
  obtain ⟨rb, ρ1, e2, eb, r1⟩ := hb ρ r
  have eb' := val_of eb
  subst eb'
  obtain ⟨s, e3, hs⟩ := r1.get h
  have hs' : s = .dK (enK k e xs) := hs
  subst hs'
  have lk : lookD (dkD (enK k e xs)) (kD (k a)) = (getK xs a).map e := look_K hk a xs
  exact ⟨.val (.bool (xor neg (getK xs a).isSome)), ρ1, by unfold mHasK; simp only [e2, Rs.bd, keyOf_k, e3, lk, Option.isSome_map], rfl, r1⟩
/-! ### sorted(d) -/
theorem sortI_T (ns : List Int) : sortI ns = sortT ltI ns := by
  unfold sortI sortT
  refine congrArg (fun g => ns.mergeSort g) (funext fun a => funext fun b => ?_)
  show decide (a ≤ b) = !decide (b < a)
  by_cases h : a ≤ b
  · rw [decide_eq_true h, decide_eq_false (by omega)]; rfl
  · rw [decide_eq_false h, decide_eq_true (by omega)]; rfl
def sortKR (xs : List (Int × β)) : R (List Int) := if tru (xs.length < 64) = true then .ok (sortT ltI (keysX xs)) else .bad
theorem dInts_map : ∀ xs : List (Int × β), dInts ((enK kI e xs).map fun p => (kD p.1, p.2)) = some (keysX xs)
  | [] => rfl
  | x :: xs => by
    show (match dInts ((enK kI e xs).map fun p => (kD p.1, p.2)) with | some ns => some (x.1 :: ns) | none => none) = _
    rw [dInts_map xs]; rfl
theorem o_sortK (e : β → D) (xs : List (Int × β)) : OpF (gSortK [eK kI e xs]) (sortKR xs) (fun z => isS (.lst (z.map PyData.int))) := by
  unfold gSortK eK sortKR
  simp only [dInts_map]
  have : (keysX xs).length = xs.length := by unfold keysX; rw [List.length_map]
  rw [this]
  by_cases h : tru (xs.length < 64) = true
  · rw [if_pos h, if_pos h, ← sortI_T]; exact ⟨_, rfl, rfl⟩
  · rw [if_neg h, if_neg h]; trivial
theorem ts_never {γ : Type} (post : γ → So → Prop) : TS Γ (fun _ => .bad) (.bad : R γ) post := fun _ _ => trivial
/-! data taken apart -/
def asDR (d : D) : R D := .ok d
theorem as_D (d : D) : AsOf (asDR d) (fun z => (fun z : Fx.D => z) d = (fun z : Fx.D => z) z) := rfl
section
variable {γ δ : Type} {ra : D → R α} {rb : D → R β} {rc : D → R δ} {ea : α → D} {eb : β → D} {ec : δ → D}
def asP3G (ra : D → R α) (rb : D → R β) (rc : D → R δ) (d : D) : R (α × β × δ) := (asP3R d).bind fun t => (ra t.1).bind fun a => (rb t.2.1).bind fun b => (rc t.2.2).bind fun c => .ok (a, b, c)
theorem asOf_bind {p : R α} {k : α → R β} {q : β → Prop} {q0 : α → Prop} (h : AsOf p q0) (hk : ∀ z, q0 z → AsOf (k z) q) : AsOf (p.bind k) q := by
  cases p with
  | ok z => exact hk z h
  | ex _ => exact h.elim
  | bad => trivial
theorem as_p3G (ha : ∀ d, AsOf (ra d) (fun z => (fun z : Fx.D => z) d = ea z)) (hb : ∀ d, AsOf (rb d) (fun z => (fun z : Fx.D => z) d = eb z)) (hc : ∀ d, AsOf (rc d) (fun z => (fun z : Fx.D => z) d = ec z)) (d : D) : AsOf (asP3G ra rb rc d) (fun z => (fun z : Fx.D => z) d = eP3 ea eb ec z) :=
  asOf_bind (as_p3 d) fun t ht => asOf_bind (ha t.1) fun a e1 => asOf_bind (hb t.2.1) fun b e2 => asOf_bind (hc t.2.2) fun c e3 => by
    show d = _
    have ht' : d = eP3 (fun z : Fx.D => z) (fun z : Fx.D => z) (fun z : Fx.D => z) t := ht
    rw [ht']
    obtain ⟨t1, t2, t3⟩ := t
    have e1' : t1 = ea a := e1
    have e2' : t2 = eb b := e2
    have e3' : t3 = ec c := e3
    subst e1' e2' e3'
    rfl
end
end
end
end Fx

set_option Elab.async false
set_option linter.all false
set_option maxRecDepth 100000
namespace Fx
open PySem L2
noncomputable section
/-! ### what a typed function ends with -/
def Ok {α : Type} (p : R α) (Q : α → Prop) : Prop := ∃ v, p = .ok v ∧ Q v
section
variable {α β γ σ τ : Type}
theorem Ok.ret {v : α} {Q : α → Prop} (h : Q v) : Ok (.ok v) Q := ⟨v, rfl, h⟩
theorem Ok.bind {p : R α} {f : α → R β} {Q : α → Prop} {Q' : β → Prop} (h : Ok p Q) (k : ∀ v, Q v → Ok (f v) Q') : Ok (p.bind f) Q' := by
  obtain ⟨v, rfl, hv⟩ := h
  exact k v hv
theorem Ok.mono {p : R α} {Q Q' : α → Prop} (h : Ok p Q) (k : ∀ v, Q v → Q' v) : Ok p Q' := by
  obtain ⟨v, e, hv⟩ := h
  exact ⟨v, e, k v hv⟩
theorem Ok.eq {p : R α} {v : α} (e : p = .ok v) : Ok p (· = v) := ⟨v, e, rfl⟩
theorem Ok.bindE {p : R α} {f : α → R β} {v : α} {Q' : β → Prop} (e : p = .ok v) (k : Ok (f v) Q') : Ok (p.bind f) Q' := by rw [e]; exact k
theorem Ok.get {p : R α} {v : α} (h : Ok p (· = v)) : p = .ok v := by
  obtain ⟨w, e, rfl⟩ := h
  exact e
theorem ok_fold {f : α → σ → R σ} (I : Nat → σ → Prop) : ∀ (l : List α) (i : Nat) (s : σ), I i s → (∀ j a s, l[j]? = some a → I (i + j) s → Ok (f a s) (I (i + j + 1))) → Ok (foldR f l s) (I (i + l.length))
  | [], i, s, h, _ => ⟨s, rfl, h⟩
  | a :: l, i, s, h, k => by
    refine Ok.bind (k 0 a s rfl h) fun s' h' => ?_
    have := ok_fold I l (i + 1) s' h' fun j a s e hi => by
      have := k (j + 1) a s (by simpa using e) (by rw [show i + (j + 1) = i + 1 + j by omega]; exact hi)
      rw [show i + 1 + j + 1 = i + (j + 1) + 1 by omega]; exact this
    rw [List.length_cons, show i + (l.length + 1) = i + 1 + l.length by omega]
    exact this
theorem ok_fold0 {f : α → σ → R σ} (I : σ → Prop) {l : List α} {s : σ} (h : I s) (k : ∀ a ∈ l, ∀ s, I s → Ok (f a s) I) : Ok (foldR f l s) I :=
  ok_fold (fun _ => I) l 0 s h fun j a s e hi => k a (List.mem_of_getElem? e) s hi
theorem ok_loop {f : α → σ → R (Out σ τ)} (I : Nat → σ → Prop) : ∀ (l : List α) (i : Nat) (s : σ), I i s → (∀ j a s, l[j]? = some a → I (i + j) s → ∃ s', f a s = .ok (.nx s') ∧ I (i + j + 1) s') → ∃ s', loopR f l s = .ok (.nx s') ∧ I (i + l.length) s'
  | [], i, s, h, _ => ⟨s, rfl, h⟩
  | a :: l, i, s, h, k => by
    obtain ⟨s', e, h'⟩ := k 0 a s rfl h
    obtain ⟨s2, e2, h2⟩ := ok_loop I l (i + 1) s' h' fun j a s e hi => by
      have := k (j + 1) a s (by simpa using e) (by rw [show i + (j + 1) = i + 1 + j by omega]; exact hi)
      rw [show i + 1 + j + 1 = i + (j + 1) + 1 by omega]; exact this
    refine ⟨s2, ?_, by rw [List.length_cons, show i + (l.length + 1) = i + 1 + l.length by omega]; exact h2⟩
    show (f a s).bind _ = _
    rw [e]
    exact e2
theorem ok_loop0 {f : α → σ → R (Out σ τ)} (I : σ → Prop) {l : List α} {s : σ} (h : I s) (k : ∀ a ∈ l, ∀ s, I s → ∃ s', f a s = .ok (.nx s') ∧ I s') : ∃ s', loopR f l s = .ok (.nx s') ∧ I s' :=
  ok_loop (fun _ => I) l 0 s h fun j a s e hi => k a (List.mem_of_getElem? e) s hi
/-- a search: the first item that returns -/
def outO {τ : Type} (o : Option τ) : Out Unit τ := match o with
  | some r => .rt r
  | none => .nx ()
theorem loop_find {f : α → Unit → R (Out Unit τ)} (g : α → Option τ) : ∀ (l : List α), (∀ a ∈ l, f a () = .ok (outO (g a))) → loopR f l () = .ok (outO (l.findSome? g))
  | [], _ => rfl
  | a :: l, h => by
    show (f a ()).bind _ = _
    rw [h a (List.mem_cons_self ..), List.findSome?_cons]
    cases g a with
    | some r => rfl
    | none => exact loop_find g l fun b hb => h b (List.mem_cons_of_mem _ hb)
theorem fold_pure {f : α → σ → R σ} (g : σ → α → σ) : ∀ (l : List α) (s : σ), (∀ a ∈ l, ∀ s, f a s = .ok (g s a)) → foldR f l s = .ok (l.foldl g s)
  | [], _, _ => rfl
  | a :: l, s, h => by
    show (f a s).bind _ = _
    rw [h a (List.mem_cons_self ..) s]
    exact fold_pure g l _ fun b hb => h b (List.mem_cons_of_mem _ hb)
theorem szOk_le' {n : Nat} (h : n ≤ 1000000) : szOk n = true := sz_of h
theorem comp_accN {t : α → R Bool} {f : α → R β} (tb : α → Bool) (g : α → β) : ∀ (l : List α) (acc : List β), acc.length + l.length ≤ 1000000 → (∀ a ∈ l, t a = .ok (tb a) ∧ (tb a = true → f a = .ok (g a))) → compR t f l acc = .ok (acc ++ (l.filter tb).map g)
  | [], acc, _, _ => by simp [compR]
  | a :: l, acc, hl, h => by
    obtain ⟨h1, h2⟩ := h a (List.mem_cons_self ..)
    rw [List.length_cons] at hl
    unfold compR
    rw [h1]
    simp only [R.calm_ok, R.bind_ok]
    cases e : tb a with
    | true =>
      rw [if_pos rfl, h2 e]
      simp only [R.calm_ok, R.bind_ok]
      rw [if_pos (sz_of (by omega)), comp_accN tb g l _ (by rw [List.length_append]; simp; omega) fun b hb => h b (List.mem_cons_of_mem _ hb), List.filter_cons_of_pos e]
      simp
    | false =>
      rw [if_neg (by simp), comp_accN tb g l _ (by omega) fun b hb => h b (List.mem_cons_of_mem _ hb), List.filter_cons_of_neg (by simp [e])]
theorem comp_ok {t : α → R Bool} {f : α → R β} (tb : α → Bool) (g : α → β) {l : List α} (hl : l.length ≤ 1000000) (h : ∀ a ∈ l, t a = .ok (tb a) ∧ (tb a = true → f a = .ok (g a))) : compR t f l [] = .ok ((l.filter tb).map g) := by
  rw [comp_accN tb g l [] (by simpa using hl) h]; rfl
theorem comp_map' {f : α → R β} (g : α → β) {l : List α} (hl : l.length ≤ 1000000) (h : ∀ a ∈ l, f a = .ok (g a)) : compR (fun _ => .ok true) f l [] = .ok (l.map g) := by
  rw [comp_ok (fun _ => true) g hl fun a ha => ⟨rfl, fun _ => h a ha⟩]
  rw [List.filter_eq_self.mpr fun _ _ => rfl]
theorem comp_filter {t : α → R Bool} (tb : α → Bool) {l : List α} (hl : l.length ≤ 1000000) (h : ∀ a ∈ l, t a = .ok (tb a)) : compR t (fun a => .ok a) l [] = .ok (l.filter tb) := by
  have := comp_ok (f := fun a => R.ok a) tb (fun a => a) hl fun a ha => ⟨h a ha, fun _ => rfl⟩
  rw [this, List.map_id']
theorem ok_compS_acc {f : α → σ → R (β × σ)} (I : σ → Prop) (P : α → β → Prop) : ∀ (l : List α) (acc : List β) (s : σ), acc.length + l.length ≤ 1000000 → I s → (∀ a ∈ l, ∀ s, I s → Ok (f a s) fun v => P a v.1 ∧ I v.2) →
    Ok (compS (fun _ _ => .ok true) f l acc s) fun v => (∃ ys, v.1 = acc ++ ys ∧ ys.length = l.length ∧ ∀ (j : Nat) (a : α) (y : β), l[j]? = some a → ys[j]? = some y → P a y) ∧ I v.2
  | [], acc, s, _, h, _ => ⟨(acc, s), rfl, ⟨[], by simp, rfl, fun j a y e => by simp at e⟩, h⟩
  | a :: l, acc, s, hl, h, k => by
    obtain ⟨⟨y, s'⟩, e, hp, hi⟩ := k a (List.mem_cons_self ..) s h
    rw [List.length_cons] at hl
    unfold compS
    simp only [R.calm_ok, R.bind_ok, if_true]
    rw [e]
    simp only [R.calm_ok, R.bind_ok]
    rw [if_pos (sz_of (by omega))]
    refine (ok_compS_acc I P l (acc ++ [y]) s' (by rw [List.length_append]; simp; omega) hi fun b hb => k b (List.mem_cons_of_mem _ hb)).mono fun v hv => ?_
    obtain ⟨⟨ys, e1, e2, e3⟩, e4⟩ := hv
    refine ⟨⟨y :: ys, by rw [e1, List.append_assoc]; rfl, congrArg (· + 1) e2, fun j b z hj hz => ?_⟩, e4⟩
    cases j with
    | zero =>
      simp at hj hz
      subst hj
      subst hz
      exact hp
    | succ j => exact e3 j b z (by simpa using hj) (by simpa using hz)
theorem ok_compS {f : α → σ → R (β × σ)} (I : σ → Prop) (P : α → β → Prop) {l : List α} {s : σ} (hl : l.length ≤ 1000000) (h : I s) (k : ∀ a ∈ l, ∀ s, I s → Ok (f a s) fun v => P a v.1 ∧ I v.2) :
    Ok (compS (fun _ _ => .ok true) f l [] s) fun v => (v.1.length = l.length ∧ ∀ (j : Nat) (a : α) (y : β), l[j]? = some a → v.1[j]? = some y → P a y) ∧ I v.2 :=
  (ok_compS_acc I P l [] s (by simpa using hl) h k).mono fun v hv => by
    obtain ⟨⟨ys, e1, e2, e3⟩, e4⟩ := hv
    rw [List.nil_append] at e1
    rw [e1]
    exact ⟨⟨e2, e3⟩, e4⟩
theorem ok_compSA {f : α → σ → R (β × σ)} (I : σ → Prop) (P : β → Prop) {l : List α} {s : σ} (hl : l.length ≤ 1000000) (h : I s) (k : ∀ a ∈ l, ∀ s, I s → Ok (f a s) fun v => P v.1 ∧ I v.2) :
    Ok (compS (fun _ _ => .ok true) f l [] s) fun v => (v.1.length = l.length ∧ ∀ y ∈ v.1, P y) ∧ I v.2 :=
  (ok_compS I (fun _ => P) hl h k).mono fun v hv => by
    obtain ⟨⟨e1, e2⟩, e3⟩ := hv
    refine ⟨⟨e1, fun y hy => ?_⟩, e3⟩
    obtain ⟨j, hj, rfl⟩ := List.mem_iff_getElem.mp hy
    exact e2 j l[j] _ (List.getElem?_eq_getElem (by omega)) (List.getElem?_eq_getElem hj)
/-! ### operations that work -/
def nth [Inhabited α] (l : List α) (i : Int) : α := l.getD i.toNat default
theorem atR_ok [Inhabited α] {l : List α} {i : Int} (h0 : 0 ≤ i) (h1 : i < l.length) : atR l i = .ok (nth l i) := by
  unfold atR nth L2.atI ixN
  rw [if_pos h0, if_pos h1]
  have h : i.toNat < l.length := by omega
  simp [h, List.getD_eq_getElem?_getD]
theorem nth_mem [Inhabited α] {l : List α} {i : Int} (h0 : 0 ≤ i) (h1 : i < l.length) : nth l i ∈ l := by
  unfold nth
  have h : i.toNat < l.length := by omega
  simp [h, List.getD_eq_getElem?_getD]
theorem nth_nat [Inhabited α] {l : List α} {i : Nat} (h : i < l.length) : nth l (i : Nat) = l[i] := by
  unfold nth
  simp [h, List.getD_eq_getElem?_getD]
theorem mulR_l {a b : Int} (h1 : -(2 ^ 60) ≤ a) (h2 : a ≤ 2 ^ 62) : mulR a b = .ok (a * b) := by
  have : CMulA a b := Or.inl (Or.inl ⟨by omega, by omega⟩)
  unfold mulR
  rw [if_pos (tru_iff.mpr this)]
theorem mulR_r {a b : Int} (h1 : -(2 ^ 60) ≤ b) (h2 : b ≤ 2 ^ 62) : mulR a b = .ok (a * b) := by
  have : CMulA a b := Or.inl (Or.inr ⟨by omega, by omega⟩)
  unfold mulR
  rw [if_pos (tru_iff.mpr this)]
theorem modR_ok {a b : Int} (h : 0 < b) : modR a b = .ok (a % b) := by
  unfold modR
  rw [if_pos (tru_iff.mpr h)]
theorem divR_ok {a b : Int} (h : 0 < b) (h2 : b ≤ 10 ^ 30) : divR a b = .ok (a / b) := by
  have h3 : b.natAbs.log2 < 100 := (Nat.log2_lt (by omega)).mpr (by omega)
  have : CDivW a b := ⟨h, Nat.lt_trans h3 (by decide)⟩
  unfold divR
  rw [if_pos (tru_iff.mpr this)]
theorem powR_ok {a b : Int} (h : 0 ≤ b) (h2 : b ≤ 1000) (h3 : a.natAbs < 1000) : powR a b = .ok (a ^ b.toNat) := by
  unfold powR
  have : a.natAbs < 2 ^ 64 := by omega
  rw [if_pos (tru_iff.mpr ⟨h, by omega, this⟩)]
theorem rg1_ok {n : Int} (h : n ≤ 1000000) (h2 : -1000000 ≤ n := by omega) : rg1 n = .ok (irange 0 n) := by
  unfold rg1 rgOk
  rw [if_pos (tru_iff.mpr ⟨by omega, by omega⟩)]
theorem rg2_ok {a b : Int} (h : a ≤ 1000000) (h2 : -1000000 ≤ a) (h3 : b ≤ 1000000) (h4 : -1000000 ≤ b) : rg2 a b = .ok (irange a b) := by
  unfold rg2 rgOk
  rw [if_pos (tru_iff.mpr ⟨by omega, by omega⟩), if_pos (tru_iff.mpr ⟨by omega, by omega⟩)]
theorem appR_ok {l : List α} {x : α} (h : l.length < 1000000) : appR l x = .ok (l ++ [x]) := by
  unfold appR szR; rw [if_pos (sz_of (by omega))]
theorem extR_ok {l m : List α} (h : l.length + m.length ≤ 1000000) : extR l m = .ok (l ++ m) := by
  unfold extR szR; rw [if_pos (sz_of h)]
theorem catR_ok {l m : List α} (h : l.length + m.length ≤ 1000000) : catR l m = .ok (l ++ m) := by
  unfold catR szR; rw [if_pos (sz_of h)]
theorem insR_ok {l : List α} {i : Int} {x : α} (h : l.length < 1000000) (h0 : 0 ≤ i) (h1 : i ≤ 1000000) : insR l i x = .ok (l.take i.toNat ++ [x] ++ l.drop i.toNat) := by
  unfold insR
  rw [if_pos ⟨sz_of (by omega), tru_iff.mpr ⟨h0, by omega⟩⟩]
theorem setR_ok {l : List α} {i : Int} {x : α} (h0 : 0 ≤ i) (h1 : i < l.length) : setR l i x = .ok (l.set i.toNat x) := by
  unfold setR ixN
  rw [if_pos h0, if_pos h1]
theorem mem_irange {a b x : Int} : x ∈ irange a b ↔ a ≤ x ∧ x < b := by
  unfold irange
  rw [List.mem_map]
  constructor
  · rintro ⟨i, hi, rfl⟩
    have := List.mem_range.mp hi
    omega
  · rintro ⟨h1, h2⟩
    exact ⟨(x - a).toNat, List.mem_range.mpr (by omega), by omega⟩
theorem irange_len (a b : Int) : (irange a b).length = (b - a).toNat := by
  unfold irange; rw [List.length_map, List.length_range]
theorem irange_get {a b : Int} {j : Nat} {x : Int} (h : (irange a b)[j]? = some x) : x = a + (j : Nat) ∧ a + (j : Nat) < b := by
  unfold irange at h
  rw [List.getElem?_map] at h
  have hj : j < (b - a).toNat := by
    by_cases q : j < (b - a).toNat
    · exact q
    · rw [List.getElem?_eq_none (by simpa using q)] at h; cases h
  rw [List.getElem?_range hj] at h
  have h' : a + ((j : Nat) : Int) = x := Option.some.inj h
  constructor <;> omega
theorem irange_getE {a b : Int} {j : Nat} (h : j < (b - a).toNat) : (irange a b)[j]? = some (a + (j : Nat)) := by
  unfold irange
  rw [List.getElem?_map, List.getElem?_range h]; rfl
theorem irange_nodup (a b : Int) : (irange a b).Nodup := by
  unfold irange
  refine List.Pairwise.map _ ?_ List.nodup_range
  intro x y h e
  exact h (by omega)
end
end
end Fx

set_option Elab.async false
set_option linter.all false
set_option maxRecDepth 100000
namespace Fx
open PySem L2
noncomputable section
/-! ### orders, least ones, sorting -/
structure Tot {α : Type} (lt : α → α → Bool) : Prop where
  irr : ∀ a, lt a a = false
  tr : ∀ a b c, lt a b = true → lt b c = true → lt a c = true
  tri : ∀ a b, lt a b = false → lt b a = false → a = b
section
variable {α β : Type} {lt : α → α → Bool} {lt2 : β → β → Bool}
theorem Tot.asym (h : Tot lt) {a b : α} (q : lt a b = true) : lt b a = false := by
  cases e : lt b a with
  | false => rfl
  | true =>
    have := h.tr _ _ _ q e
    rw [h.irr] at this; cases this
/-- not less, the other way about -/
theorem Tot.le_tr (h : Tot lt) {a b c : α} (h1 : lt b a = false) (h2 : lt c b = false) : lt c a = false := by
  cases e : lt c a with
  | false => rfl
  | true =>
    exfalso
    cases q : lt a b with
    | true =>
      have := h.tr _ _ _ e q
      rw [h2] at this; cases this
    | false =>
      have := h.tri a b q h1
      subst this
      rw [h2] at e; cases e
theorem tot_I : Tot ltI := ⟨fun a => by simp [ltI], fun a b c h1 h2 => by simp [ltI] at *; omega, fun a b h1 h2 => by simp [ltI] at *; omega⟩
theorem tot_P [DecidableEq α] (h : Tot lt) (h2 : Tot lt2) : Tot (ltP lt lt2) := by
  refine ⟨fun a => by simp [ltP, h2.irr], fun a b c q1 q2 => ?_, fun a b q1 q2 => ?_⟩
  · unfold ltP at *
    by_cases e1 : a.1 = b.1
    · rw [if_pos e1] at q1
      by_cases e2 : b.1 = c.1
      · rw [if_pos e2] at q2
        rw [if_pos (e1.trans e2)]
        exact h2.tr _ _ _ q1 q2
      · rw [if_neg e2] at q2
        rw [if_neg (by rw [e1]; exact e2), e1]
        exact q2
    · rw [if_neg e1] at q1
      by_cases e2 : b.1 = c.1
      · rw [if_neg (by rw [← e2]; exact e1), ← e2]
        exact q1
      · rw [if_neg e2] at q2
        have q := h.tr _ _ _ q1 q2
        rw [if_neg (by
          intro e
          rw [e] at q
          rw [h.irr] at q; cases q)]
        exact q
  · unfold ltP at *
    by_cases e1 : a.1 = b.1
    · rw [if_pos e1] at q1
      rw [if_pos e1.symm] at q2
      exact Prod.ext e1 (h2.tri _ _ q1 q2)
    · rw [if_neg e1] at q1
      rw [if_neg (fun e => e1 e.symm)] at q2
      exact absurd (h.tri _ _ q1 q2) e1
theorem tot_L [DecidableEq α] (h : Tot lt) : Tot (ltL lt) := by
  have irr : ∀ a : List α, ltL lt a a = false := by
    intro a
    induction a with
    | nil => rfl
    | cons x xs ih => unfold ltL; rw [if_pos rfl]; exact ih
  have tri : ∀ a b : List α, ltL lt a b = false → ltL lt b a = false → a = b := by
    intro a
    induction a with
    | nil => intro b q1 q2; cases b with
      | nil => rfl
      | cons y ys => simp [ltL] at q1
    | cons x xs ih => intro b q1 q2; cases b with
      | nil => simp [ltL] at q2
      | cons y ys =>
        unfold ltL at q1 q2
        by_cases e : x = y
        · rw [if_pos e] at q1
          rw [if_pos e.symm] at q2
          rw [e, ih ys q1 q2]
        · rw [if_neg e] at q1
          rw [if_neg (fun z => e z.symm)] at q2
          exact absurd (h.tri _ _ q1 q2) e
  refine ⟨irr, ?_, tri⟩
  intro a
  induction a with
  | nil => intro b c q1 q2; cases c with
    | nil => cases b <;> simp [ltL] at q2
    | cons z zs => rfl
  | cons x xs ih => intro b c q1 q2; cases b with
    | nil => simp [ltL] at q1
    | cons y ys => cases c with
      | nil => simp [ltL] at q2
      | cons z zs =>
        unfold ltL at q1 q2 ⊢
        by_cases e1 : x = y
        · rw [if_pos e1] at q1
          by_cases e2 : y = z
          · rw [if_pos e2] at q2
            rw [if_pos (e1.trans e2)]
            exact ih _ _ q1 q2
          · rw [if_neg e2] at q2
            rw [if_neg (by rw [e1]; exact e2), e1]
            exact q2
        · rw [if_neg e1] at q1
          by_cases e2 : y = z
          · rw [if_neg (by rw [← e2]; exact e1), ← e2]
            exact q1
          · rw [if_neg e2] at q2
            have q := h.tr _ _ _ q1 q2
            rw [if_neg (by
              intro e
              rw [e] at q
              rw [h.irr] at q; cases q)]
            exact q
theorem minT_mem (x : α) (xs : List α) : minT lt x xs ∈ x :: xs := by
  induction xs generalizing x with
  | nil => simp [minT]
  | cons y ys ih =>
    have := ih (if lt y x = true then y else x)
    unfold minT at this ⊢
    rw [List.foldl_cons]
    rcases List.mem_cons.mp this with q | q
    · rw [q]; split <;> simp
    · exact List.mem_cons_of_mem _ (List.mem_cons_of_mem _ q)
theorem minT_le (h : Tot lt) (x : α) (xs : List α) : ∀ y ∈ x :: xs, lt y (minT lt x xs) = false := by
  induction xs generalizing x with
  | nil =>
    intro y hy
    have : y = x := by simpa using hy
    subst this
    exact h.irr y
  | cons z zs ih =>
    intro y hy
    have i := ih (if lt z x = true then z else x)
    have e : minT lt x (z :: zs) = minT lt (if lt z x = true then z else x) zs := rfl
    rw [e]
    rcases List.mem_cons.mp hy with rfl | hy
    · have i0 := i _ (List.mem_cons_self ..)
      by_cases q : lt z y = true
      · simp only [if_pos q] at i0 ⊢
        exact h.le_tr i0 (h.asym q)
      · simp only [if_neg q] at i0 ⊢
        exact i0
    · rcases List.mem_cons.mp hy with rfl | hy
      · have i0 := i _ (List.mem_cons_self ..)
        by_cases q : lt y x = true
        · simp only [if_pos q] at i0 ⊢
          exact i0
        · simp only [if_neg q] at i0 ⊢
          exact h.le_tr i0 (by simpa using q)
      · exact i y (List.mem_cons_of_mem _ hy)
def least (lt : α → α → Bool) : List α → Option α
  | [] => none
  | x :: xs => some (minT lt x xs)
theorem least_iff (h : Tot lt) {L : List α} {m : α} : least lt L = some m ↔ m ∈ L ∧ ∀ y ∈ L, lt y m = false := by
  cases L with
  | nil => simp [least]
  | cons x xs =>
    have h1 := minT_mem (lt := lt) x xs
    have h2 := minT_le h x xs
    constructor
    · intro e
      have e' : minT lt x xs = m := Option.some.inj e
      subst e'
      exact ⟨h1, h2⟩
    · rintro ⟨q1, q2⟩
      show some _ = some _
      rw [h.tri _ _ (q2 _ h1) (h2 _ q1)]
theorem least_none {L : List α} : least lt L = none ↔ L = [] := by
  cases L <;> simp [least]
theorem least_congr (h : Tot lt) {L M : List α} (q : ∀ x, x ∈ L ↔ x ∈ M) : least lt L = least lt M := by
  cases e : least lt M with
  | none =>
    have := least_none.mp e
    subst this
    rw [least_none]
    cases L with
    | nil => rfl
    | cons x xs => exact absurd ((q x).mp (List.mem_cons_self ..)) (by simp)
  | some m =>
    obtain ⟨h1, h2⟩ := (least_iff h).mp e
    exact (least_iff h).mpr ⟨(q m).mpr h1, fun y hy => h2 y ((q y).mp hy)⟩
theorem minR_least {L : List α} : minR lt L = .ofO (least lt L) := by cases L <;> rfl
theorem sortT_perm (L : List α) : (sortT lt L).Perm L := List.mergeSort_perm _ _
theorem sortT_pw (h : Tot lt) (L : List α) : (sortT lt L).Pairwise fun a b => lt b a = false := by
  refine (List.pairwise_mergeSort (le := fun a b => !lt b a) ?_ ?_ L).imp fun q => by simpa using q
  · intro a b c q1 q2
    have q1' : lt b a = false := by simpa using q1
    have q2' : lt c b = false := by simpa using q2
    simpa using h.le_tr q1' q2'
  · intro a b
    cases e : lt b a with
    | false => simp
    | true => simp [h.asym e]
theorem sortT_eq (h : Tot lt) {L M : List α} (p : L.Perm M) : sortT lt L = sortT lt M :=
  List.Perm.eq_of_pairwise (fun a b _ _ h1 h2 => h.tri _ _ h2 h1) (sortT_pw h L) (sortT_pw h M) ((sortT_perm L).trans (p.trans (sortT_perm M).symm))
theorem sortT_head (h : Tot lt) (L : List α) : (sortT lt L).head? = least lt L := by
  cases e : sortT lt L with
  | nil =>
    have : L = [] := by
      have := (sortT_perm (lt := lt) L).length_eq
      rw [e] at this
      exact List.length_eq_zero_iff.mp this.symm
    subst this; rfl
  | cons m L' =>
    symm
    refine (least_iff h).mpr ⟨(sortT_perm (lt := lt) L).mem_iff.mp (by rw [e]; exact List.mem_cons_self ..), fun y hy => ?_⟩
    have hy' := (sortT_perm (lt := lt) L).mem_iff.mpr hy
    have p := sortT_pw h L
    rw [e] at p hy'
    rcases List.mem_cons.mp hy' with q | q
    · subst q; exact h.irr y
    · exact (List.pairwise_cons.mp p).1 y q
theorem sorted_id (h : Tot lt) {L : List α} (p : L.Pairwise fun a b => lt b a = false) : sortT lt L = L :=
  List.Perm.eq_of_pairwise (fun a b _ _ h1 h2 => h.tri _ _ h2 h1) (sortT_pw h L) p (sortT_perm L)
theorem atR_head (L : List α) : atR L 0 = .ofO L.head? := by
  cases L with
  | nil => rfl
  | cons x l => unfold atR L2.atI ixN; simp
end
/-! sorting works -/
structure NoTN {α : Type} (e : α → D) : Prop where
  ok : ∀ a, noTN (e a) = true
structure Tup1 {α : Type} (e : α → D) : Prop where
  ok : ∀ a, isTup1 (e a) = true
section
variable {α β γ δ : Type} {n : Nat} {e : α → D} {lt : α → α → Bool} {e2 : β → D} {e3 : γ → D} {e4 : δ → D}
theorem t1_P2 : Tup1 (eP2 e e2) := ⟨fun _ => rfl⟩
theorem t1_P3 : Tup1 (eP3 e e2 e3) := ⟨fun _ => rfl⟩
theorem t1_P4 : Tup1 (eP4 e e2 e3 e4) := ⟨fun _ => rfl⟩
theorem nt_int : NoTN PyData.int := ⟨fun _ => rfl⟩
theorem okSort_map (he : Ec e n) (h : Od e lt) (hk : n ≤ 40) (hs : Tup1 e ∨ NoTN e) {xs : List α} (hl : xs.length ≤ 1000000) : okSort (xs.map e) = true := by
  have q := ec_all he xs
  unfold okSort
  simp only [q.1, Bool.true_and, Bool.and_eq_true, decide_eq_true_eq, List.all_eq_true, Bool.or_eq_true]
  refine ⟨⟨⟨by omega, fun a ha b hb => ?_⟩, ?_⟩, sz_of (by rw [List.length_map]; exact hl)⟩
  · obtain ⟨a, _, rfl⟩ := List.mem_map.mp ha
    obtain ⟨b, _, rfl⟩ := List.mem_map.mp hb
    exact h.al a b
  · rcases hs with hs | hs
    · left
      intro a ha
      obtain ⟨a, _, rfl⟩ := List.mem_map.mp ha
      exact hs.ok a
    · right
      intro a ha
      obtain ⟨a, _, rfl⟩ := List.mem_map.mp ha
      exact hs.ok a
theorem sortR_ok (he : Ec e n) (h : Od e lt) (hs : Tup1 e ∨ NoTN e) {xs : List α} (hl : xs.length ≤ 1000000) (hk : n ≤ 40 := by decide) : sortR e lt xs = .ok (sortT lt xs) := by
  unfold sortR
  rw [if_pos (okSort_map he h hk hs hl)]
end
end
end Fx

set_option Elab.async false
set_option linter.all false
set_option maxRecDepth 100000
namespace Law
open PySem PySem.Spec PyProof.Rows L2 Fx
def topS (i : Nat) : Stmt := PySem.Challenge.pw_hinthunt_k03_first_orders_beside.main.body.getD i (.Pass ⟨0, 0, 0, 0⟩)
abbrev s_is_within : Stmt := topS 4
theorem sc_is_within : FnScope ["thing", "low", "high"] ["thing", "low", "high"] (defScope s_is_within) := ⟨rfl, rfl, rfl, by decide +kernel, rfl, by decide +kernel, by decide +kernel⟩
abbrev s_free_spots : Stmt := topS 6
theorem sc_free_spots : FnScope ["table", "bars", "barred", "found", "step", "had", "order", "there", "spot"] ["table", "bars"] (defScope s_free_spots) := ⟨rfl, rfl, rfl, by decide +kernel, rfl, by decide +kernel, by decide +kernel⟩
abbrev s_counts_from : Stmt := topS 7
theorem sc_counts_from : FnScope ["free", "step", "left", "known", "some", "spot"] ["free", "step", "left", "known"] (defScope s_counts_from) := ⟨rfl, rfl, rfl, by decide +kernel, rfl, by decide +kernel, by decide +kernel⟩
abbrev s_order_at : Stmt := topS 8
theorem sc_order_at : FnScope ["table", "number", "bars", "free", "known", "left", "found", "ahead", "step", "spot", "one", "ways"] ["table", "number", "bars"] (defScope s_order_at) := ⟨rfl, rfl, rfl, by decide +kernel, rfl, by decide +kernel, by decide +kernel⟩
abbrev s_mated : Stmt := topS 9
theorem sc_mated : FnScope ["free", "mates", "step", "tried", "spot"] ["free", "mates", "step", "tried"] (defScope s_mated) := ⟨rfl, rfl, rfl, by decide +kernel, rfl, by decide +kernel, by decide +kernel⟩
abbrev s_why_none : Stmt := topS 10
theorem sc_why_none : FnScope ["free", "mates", "spot", "step", "tried", "steps"] ["free"] (defScope s_why_none) := ⟨rfl, rfl, rfl, by decide +kernel, rfl, by decide +kernel, by decide +kernel⟩
abbrev s_first_beside : Stmt := topS 11
theorem sc_first_beside : FnScope ["table", "bars", "why"] ["table", "bars"] (defScope s_first_beside) := ⟨rfl, rfl, rfl, by decide +kernel, rfl, by decide +kernel, by decide +kernel⟩
abbrev s_bars_so : Stmt := topS 12
theorem sc_bars_so : FnScope ["table", "steps", "spots", "bars", "many", "row", "one", "k", "free", "step", "spot"] ["table", "steps", "spots", "bars"] (defScope s_bars_so) := ⟨rfl, rfl, rfl, by decide +kernel, rfl, by decide +kernel, by decide +kernel⟩
abbrev s_l_draw : Stmt := topS 14
theorem sc_l_draw : FnScope ["tape", "many", "prime", "cell", "found"] ["tape", "many"] (defScope s_l_draw) := ⟨rfl, rfl, rfl, by decide +kernel, rfl, by decide +kernel, by decide +kernel⟩
abbrev s_l_any_order : Stmt := topS 15
theorem sc_l_any_order : FnScope ["tape", "many", "found", "k"] ["tape", "many"] (defScope s_l_any_order) := ⟨rfl, rfl, rfl, by decide +kernel, rfl, by decide +kernel, by decide +kernel⟩
abbrev s_l_apart : Stmt := topS 16
theorem sc_l_apart : FnScope ["tape", "spots", "teams", "own", "steps", "k", "step"] ["tape", "spots", "teams"] (defScope s_l_apart) := ⟨rfl, rfl, rfl, by decide +kernel, rfl, by decide +kernel, by decide +kernel⟩
abbrev s_l_a_table : Stmt := topS 17
theorem sc_l_a_table : FnScope ["tape", "spots", "teams", "way", "team", "table", "k"] ["tape", "spots", "teams"] (defScope s_l_a_table) := ⟨rfl, rfl, rfl, by decide +kernel, rfl, by decide +kernel, by decide +kernel⟩
abbrev s_l_a_bars : Stmt := topS 18
theorem sc_l_a_bars : FnScope ["tape", "spots", "most", "found", "k"] ["tape", "spots", "most"] (defScope s_l_a_bars) := ⟨rfl, rfl, rfl, by decide +kernel, rfl, by decide +kernel, by decide +kernel⟩
abbrev s_l_free : Stmt := topS 19
theorem sc_l_free : FnScope ["table", "bars", "spots", "found", "step", "had", "own", "spot"] ["table", "bars"] (defScope s_l_free) := ⟨rfl, rfl, rfl, by decide +kernel, rfl, by decide +kernel, by decide +kernel⟩
abbrev s_l_goes : Stmt := topS 20
theorem sc_l_goes : FnScope ["table", "bars", "order", "free", "step"] ["table", "bars", "order"] (defScope s_l_goes) := ⟨rfl, rfl, rfl, by decide +kernel, rfl, by decide +kernel, by decide +kernel⟩
abbrev s_l_all_orders : Stmt := topS 21
theorem sc_l_all_orders : FnScope ["spots", "found", "k", "longer", "own", "spot"] ["spots"] (defScope s_l_all_orders) := ⟨rfl, rfl, rfl, by decide +kernel, rfl, by decide +kernel, by decide +kernel⟩
abbrev s_law : Stmt := topS 22
theorem sc_law : FnScope ["script", "tape", "turn", "spots", "table", "bars", "some", "own", "found", "word", "steps", "few", "free", "k", "spot"] ["script"] (defScope s_law) := ⟨rfl, rfl, rfl, by decide +kernel, rfl, by decide +kernel, by decide +kernel⟩
/-! ### the mirrors -/
noncomputable def g_is_within : Ms :=
 (mRet (mAndV (mIsi "int" (mVar 0)) (mAndV (mNotV (mIsi "bool" (mVar 0))) (mAndV (mBin gLe (mVar 1) (mVar 0)) (mBin gLe (mVar 0) (mVar 2))))))
noncomputable def m_is_within : List Sl → Fo := mFn 3 3 [] g_is_within
noncomputable def e_free_spots1 : M Sl :=
 (mBin gIx (mVar 6) (mVar 4))
noncomputable def t_free_spots1 : M Bool :=
 (mTst (mBin gEq (mVar 7) (mVar 4)))
noncomputable def e_free_spots2 : M Sl :=
 (mVar 8)
noncomputable def t_free_spots2 : M Bool :=
 (mTst (mBin gNin (mVar 8) (mVar 5)))
noncomputable def e_free_spots3 : M Sl :=
 (mVar 8)
noncomputable def b_free_spots1 : Ms :=
 (mSeq (mSet 5 (mBin gAdd (mComp [6] (mSeqI (mVar 0)) (kName 6) mYes e_free_spots1) (mComp [7, 8] (mSeqI (mVar 2)) (kTup 2 (kCons (kName 7) (kCons (kName 8) kNil))) t_free_spots1 e_free_spots2))) (mDrop (mMeth 3 "list" gAppend (mArg (mComp [8] (mRg1 (mArg (mCB gLen (mArg (mBin gIx (mVar 0) (mC (.int 0))) (fun ρ => .ok [] ρ))) (fun ρ => .ok [] ρ))) (kName 8) t_free_spots2 e_free_spots3) (fun ρ => .ok [] ρ)))))
noncomputable def g_free_spots : Ms :=
 (mSeq (mSet 2 (mIf (mTst (mBin gIsN (mVar 1) (mC .none))) (mTup (fun ρ => .ok [] ρ)) (mVar 1))) (mSeq (mSet 3 (mLst (fun ρ => .ok [] ρ))) (mSeq (mFor (mRg1 (mArg (mCB gLen (mArg (mBin gIx (mVar 0) (mC (.int 0))) (fun ρ => .ok [] ρ))) (fun ρ => .ok [] ρ))) (kName 4)
 b_free_spots1) (mRetO 3))))
noncomputable def m_free_spots : List Sl → Fo := mFn 9 2 [] g_free_spots
noncomputable def t_counts_from1 (rr : List Sl → Fo) : M Bool :=
 (mTst (mBin gEq (mBin gAnd (mBin gShr (mVar 2) (mVar 5)) (mC (.int 1))) (mC (.int 1))))
noncomputable def e_counts_from1 (rr : List Sl → Fo) : M Sl :=
 (mVar 5)
noncomputable def e_counts_from2 (rr : List Sl → Fo) : M Sl :=
 (mCall rr [none, none, none, some 3] (mArg (mVar 0) (mArg (mBin gAdd (mVar 1) (mC (.int 1))) (mArg (mBin gSub (mVar 2) (mBin gShl (mC (.int 1)) (mVar 5))) (mArgO 3 (fun ρ => .ok [] ρ))))))
noncomputable def g_counts_from (rr : List Sl → Fo) : Ms :=
 (mSeq (mIfS (mTst (mBin gEq (mVar 1) (mCB gLen (mArg (mVar 0) (fun ρ => .ok [] ρ)))))
 (mRet (mC (.int 1)))
 (fun ρ => .nx ρ)) (mSeq (mIfS (mTst (mHasT true (mTup (mArg (mVar 1) (mArg (mVar 2) (fun ρ => .ok [] ρ)))) 3))
 (mSeq (mSet 4 (mComp [5] (mSeqI (mBin gIx (mVar 0) (mVar 1))) (kName 5) (t_counts_from1 rr) (e_counts_from1 rr))) (mSetT 3 (mTup (mArg (mVar 1) (mArg (mVar 2) (fun ρ => .ok [] ρ)))) (mCB gSum (mArg (mComp [5] (mSeqI (mVar 4)) (kName 5) mYes (e_counts_from2 rr)) (fun ρ => .ok [] ρ)))))
 (fun ρ => .nx ρ)) (mRet (mGetT 3 (mTup (mArg (mVar 1) (mArg (mVar 2) (fun ρ => .ok [] ρ))))))))
noncomputable def m_counts_from : Nat → List Sl → Fo
  | 0 => fun _ => .bad
  | n + 1 => mFn 6 4 [3] (g_counts_from (m_counts_from n))
theorem ml_counts_from : ∀ (n : Nat) (rs : List Sl), rs.length = 4 → match m_counts_from n rs with | .rt _ ps => ps.length = 4 | .ex _ ps => ps.length = 4 | .bad => True
  | 0, _, _ => trivial
  | n + 1, rs, h => mFn_len (g := g_counts_from (m_counts_from n)) (pn := [3]) rs h
noncomputable def t_order_at1 : M Bool :=
 (mTst (mBin gEq (mBin gAnd (mBin gShr (mVar 5) (mVar 10)) (mC (.int 1))) (mC (.int 1))))
noncomputable def e_order_at1 : M Sl :=
 (mVar 10)
noncomputable def b_order_at1 : Ms :=
 (mSeq (mSet 11 (mCall (m_counts_from 10) [none, none, none, some 4] (mArg (mVar 3) (mArg (mBin gAdd (mVar 8) (mC (.int 1))) (mArg (mBin gSub (mVar 5) (mBin gShl (mC (.int 1)) (mVar 9))) (mArgO 4 (fun ρ => .ok [] ρ))))))) (mIfS (mAnd (mTst (mBin gEq (mLenO 6) (mVar 8))) (mTst (mBin gLt (mVar 7) (mVar 11))))
 (mSeq (mDrop (mMeth 6 "list" gAppend (mArg (mVar 9) (fun ρ => .ok [] ρ)))) (mSet 5 (mBin gSub (mVar 5) (mBin gShl (mC (.int 1)) (mVar 9)))))
 (mIfS (mTst (mBin gEq (mLenO 6) (mVar 8)))
 (mSet 7 (mBin gSub (mVar 7) (mVar 11)))
 (fun ρ => .nx ρ))))
noncomputable def b_order_at2 : Ms :=
 (mFor (mSeqI (mComp [10] (mSeqI (mBin gIx (mVar 3) (mVar 8))) (kName 10) t_order_at1 e_order_at1)) (kName 9)
 b_order_at1)
noncomputable def g_order_at : Ms :=
 (mSeq (mSet 3 (mCall m_free_spots [none, none] (mArg (mVar 0) (mArg (mVar 2) (fun ρ => .ok [] ρ))))) (mSeq (mSet 4 mNewT) (mSeq (mSet 5 (mBin gSub (mBin gShl (mC (.int 1)) (mCB gLen (mArg (mVar 3) (fun ρ => .ok [] ρ)))) (mC (.int 1)))) (mSeq (mIfS (mNot (mTst (mCall m_is_within [none, none, none] (mArg (mVar 1) (mArg (mC (.int 0)) (mArg (mBin gSub (mCall (m_counts_from 10) [none, none, none, some 4] (mArg (mVar 3) (mArg (mC (.int 0)) (mArg (mVar 5) (mArgO 4 (fun ρ => .ok [] ρ)))))) (mC (.int 1))) (fun ρ => .ok [] ρ)))))))
 (fun _ => .bad)
 (fun ρ => .nx ρ)) (mSeq (mSet 6 (mLst (fun ρ => .ok [] ρ))) (mSeq (mSet 7 (mVar 1)) (mSeq (mFor (mRg1 (mArg (mCB gLen (mArg (mVar 3) (fun ρ => .ok [] ρ))) (fun ρ => .ok [] ρ))) (kName 8)
 b_order_at2) (mRet (mUn gTupC (mVar 6))))))))))
noncomputable def m_order_at : List Sl → Fo := mFn 12 3 [] g_order_at
noncomputable def b_mated1 (rr : List Sl → Fo) : Ms :=
 (mIfS (mTst (mHasK true (mVar 4) 3))
 (mSeq (mSetK 3 (mVar 4) (mC (.bool true))) (mIfS (mOr (mTst (mBin gIsN (mIxO 1 (mVar 4)) (mC .none))) (mTst (mCall rr [none, some 1, none, some 3] (mArg (mVar 0) (mArgO 1 (mArg (mIxO 1 (mVar 4)) (mArgO 3 (fun ρ => .ok [] ρ))))))))
 (mSeq (mSetIx 1 (mVar 4) (mVar 2)) (mRet (mC (.bool true))))
 (fun ρ => .nx ρ)))
 (fun ρ => .nx ρ))
noncomputable def g_mated (rr : List Sl → Fo) : Ms :=
 (mSeq (mFor (mSeqI (mBin gIx (mVar 0) (mVar 2))) (kName 4)
 (b_mated1 rr)) (mRet (mC (.bool false))))
noncomputable def m_mated : Nat → List Sl → Fo
  | 0 => fun _ => .bad
  | n + 1 => mFn 5 4 [1, 3] (g_mated (m_mated n))
theorem ml_mated : ∀ (n : Nat) (rs : List Sl), rs.length = 4 → match m_mated n rs with | .rt _ ps => ps.length = 4 | .ex _ ps => ps.length = 4 | .bad => True
  | 0, _, _ => trivial
  | n + 1, rs, h => mFn_len (g := g_mated (m_mated n)) (pn := [1, 3]) rs h
noncomputable def e_why_none1 : M Sl :=
 (mC .none)
noncomputable def e_why_none2 : M Sl :=
 (mIxO 1 (mVar 2))
noncomputable def b_why_none1 : Ms :=
 (mSeq (mSet 4 mNewK) (mIfS (mNot (mTst (mCall (m_mated 10) [none, some 1, none, some 4] (mArg (mVar 0) (mArgO 1 (mArg (mVar 3) (mArgO 4 (fun ρ => .ok [] ρ))))))))
 (mSeq (mSet 5 (mBin gAdd (mCompK 4 [2] (kName 2) mYes e_why_none2) (mLst (mArg (mVar 3) (fun ρ => .ok [] ρ))))) (mRet (mTup (mArg (mUn gTupC (mCB gSorted (mArg (mVar 5) (fun ρ => .ok [] ρ)))) (mArg (mUn gTupC (mCB gSortK (mArg (mVar 4) (fun ρ => .ok [] ρ)))) (fun ρ => .ok [] ρ))))))
 (fun ρ => .nx ρ)))
noncomputable def g_why_none : Ms :=
 (mSeq (mSet 1 (mComp [2] (mSeqI (mVar 0)) (kName 2) mYes e_why_none1)) (mSeq (mFor (mRg1 (mArg (mCB gLen (mArg (mVar 0) (fun ρ => .ok [] ρ))) (fun ρ => .ok [] ρ))) (kName 3)
 b_why_none1) (mRet (mC .none))))
noncomputable def m_why_none : List Sl → Fo := mFn 6 1 [] g_why_none
noncomputable def g_first_beside : Ms :=
 (mSeq (mSet 2 (mCall m_why_none [none] (mArg (mCall m_free_spots [none, none] (mArg (mVar 0) (mArg (mVar 1) (fun ρ => .ok [] ρ)))) (fun ρ => .ok [] ρ)))) (mSeq (mIfS (mTst (mBin gNotN (mVar 2) (mC .none)))
 (mRet (mTup (mArg (mC (.str "bars")) (mArg (mBin gIx (mVar 2) (mC (.int 0))) (mArg (mBin gIx (mVar 2) (mC (.int 1))) (fun ρ => .ok [] ρ))))))
 (fun ρ => .nx ρ)) (mRet (mTup (mArg (mC (.str "order")) (mArg (mCall m_order_at [none, none, none] (mArg (mVar 0) (mArg (mC (.int 0)) (mArg (mVar 1) (fun ρ => .ok [] ρ))))) (fun ρ => .ok [] ρ)))))))
noncomputable def m_first_beside : List Sl → Fo := mFn 3 2 [] g_first_beside
noncomputable def e_bars_so1 : M Sl :=
 (mCall m_is_within [none, none, none] (mArg (mVar 6) (mArg (mC (.int 0)) (mArg (mBin gSub (mVar 4) (mC (.int 1))) (fun ρ => .ok [] ρ)))))
noncomputable def e_bars_so2 : M Sl :=
 (mBin gLt (mBin gIx (mVar 5) (mBin gSub (mVar 7) (mC (.int 1)))) (mBin gIx (mVar 5) (mVar 7)))
noncomputable def b_bars_so1 : Ms :=
 (mSeq (mIfS (mNot (mTst (mCB gAll (mArg (mComp [6] (mSeqI (mVar 5)) (kName 6) mYes e_bars_so1) (fun ρ => .ok [] ρ)))))
 (mRet (mC (.bool false)))
 (fun ρ => .nx ρ)) (mIfS (mNot (mTst (mCB gAll (mArg (mComp [7] (mRg2 (mArg (mC (.int 1)) (mArg (mCB gLen (mArg (mVar 5) (fun ρ => .ok [] ρ))) (fun ρ => .ok [] ρ)))) (kName 7) mYes e_bars_so2) (fun ρ => .ok [] ρ)))))
 (mRet (mC (.bool false)))
 (fun ρ => .nx ρ)))
noncomputable def t_bars_so1 : M Bool :=
 (mTst (mBin gNin (mVar 10) (mVar 2)))
noncomputable def e_bars_so3 : M Sl :=
 (mVar 10)
noncomputable def t_bars_so2 : M Bool :=
 (mTst (mBin gNe (mComp [10] (mSeqI (mBin gIx (mVar 8) (mVar 9))) (kName 10) t_bars_so1 e_bars_so3) (mLst (fun ρ => .ok [] ρ))))
noncomputable def e_bars_so4 : M Sl :=
 (mVar 9)
noncomputable def g_bars_so : Ms :=
 (mSeq (mSet 4 (mCB gLen (mArg (mBin gIx (mVar 0) (mC (.int 0))) (fun ρ => .ok [] ρ)))) (mSeq (mFor (mSeqI (mTup (mArg (mVar 1) (mArg (mVar 2) (fun ρ => .ok [] ρ))))) (kName 5)
 b_bars_so1) (mSeq (mIfS (mTst (mBin gGe (mCB gLen (mArg (mVar 2) (fun ρ => .ok [] ρ))) (mCB gLen (mArg (mVar 1) (fun ρ => .ok [] ρ)))))
 (mRet (mC (.bool false)))
 (fun ρ => .nx ρ)) (mSeq (mSet 8 (mCall m_free_spots [none, none] (mArg (mVar 0) (mArg (mVar 3) (fun ρ => .ok [] ρ))))) (mRet (mBin gEq (mComp [9] (mSeqI (mVar 1)) (kName 9) t_bars_so2 e_bars_so4) (mLst (fun ρ => .ok [] ρ))))))))
noncomputable def m_bars_so : List Sl → Fo := mFn 11 4 [] g_bars_so
noncomputable def g_l_draw : Ms :=
 (mSeq (mSet 2 (mC (.int 2305843009213693951))) (mSeq (mIfS (mTst (mBin gLt (mIxO 0 (mC (.int 2))) (mVar 1)))
 (mSeq (mSet 3 (mC (.int 0))) (mSeq (mIfS (mTst (mBin gGt (mCB gLen (mArg (mIxO 0 (mC (.int 0))) (fun ρ => .ok [] ρ))) (mC (.int 0))))
 (mSet 3 (mBin gIx (mIxO 0 (mC (.int 0))) (mBin gMod (mIxO 0 (mC (.int 1))) (mCB gLen (mArg (mIxO 0 (mC (.int 0))) (fun ρ => .ok [] ρ))))))
 (fun ρ => .nx ρ)) (mSeq (mIfS (mOr (mTst (mBin gGe (mIxO 0 (mC (.int 1))) (mCB gLen (mArg (mIxO 0 (mC (.int 0))) (fun ρ => .ok [] ρ))))) (mTst (mBin gLt (mVar 3) (mBin gPow (mC (.int 10)) (mC (.int 18))))))
 (mSeq (mSet 3 (mBin gMod (mBin gAdd (mVar 3) (mBin gMul (mC (.int 1000003)) (mIxO 0 (mC (.int 1))))) (mVar 2))) (mSeq (mSet 3 (mBin gMod (mBin gAdd (mBin gAdd (mBin gMul (mVar 3) (mVar 3)) (mBin gMul (mC (.int 1181783497276652981)) (mVar 3))) (mC (.int 2049848353892358983))) (mVar 2))) (mSet 3 (mBin gMod (mBin gAdd (mBin gMul (mVar 3) (mVar 3)) (mC (.int 1442695040888963407))) (mVar 2)))))
 (fun ρ => .nx ρ)) (mSeq (mSetIx 0 (mC (.int 1)) (mBin gAdd (mIxO 0 (mC (.int 1))) (mC (.int 1)))) (mSetIx 0 (mC (.int 2)) (mVar 3))))))
 (fun ρ => .nx ρ)) (mSeq (mSet 4 (mBin gMod (mIxO 0 (mC (.int 2))) (mVar 1))) (mSeq (mSetIx 0 (mC (.int 2)) (mBin gDiv (mIxO 0 (mC (.int 2))) (mVar 1))) (mRet (mVar 4))))))
noncomputable def m_l_draw : List Sl → Fo := mFn 5 2 [0] g_l_draw
noncomputable def b_l_any_order1 : Ms :=
 (mDrop (mMeth 2 "list" gInsert (mArg (mCall m_l_draw [some 0, none] (mArgO 0 (mArg (mBin gAdd (mVar 3) (mC (.int 1))) (fun ρ => .ok [] ρ)))) (mArg (mVar 3) (fun ρ => .ok [] ρ)))))
noncomputable def g_l_any_order : Ms :=
 (mSeq (mSet 2 (mLst (fun ρ => .ok [] ρ))) (mSeq (mFor (mRg1 (mArg (mVar 1) (fun ρ => .ok [] ρ))) (kName 3)
 b_l_any_order1) (mRet (mUn gTupC (mVar 2)))))
noncomputable def m_l_any_order : List Sl → Fo := mFn 4 2 [0] g_l_any_order
noncomputable def e_l_apart1 : M Sl :=
 (mBin gIx (mVar 3) (mBin gMod (mBin gAdd (mVar 5) (mVar 6)) (mVar 1)))
noncomputable def e_l_apart2 : M Sl :=
 (mUn gTupC (mComp [5] (mRg1 (mArg (mVar 1) (fun ρ => .ok [] ρ))) (kName 5) mYes e_l_apart1))
noncomputable def g_l_apart : Ms :=
 (mSeq (mSet 3 (mCall m_l_any_order [some 0, none] (mArgO 0 (mArg (mVar 1) (fun ρ => .ok [] ρ))))) (mSeq (mSet 4 (mSlice (mCall m_l_any_order [some 0, none] (mArgO 0 (mArg (mVar 1) (fun ρ => .ok [] ρ)))) mNoPart (mPart (mVar 2)))) (mRet (mUn gTupC (mComp [6] (mSeqI (mVar 4)) (kName 6) mYes e_l_apart2)))))
noncomputable def m_l_apart : List Sl → Fo := mFn 7 3 [0] g_l_apart
noncomputable def e_l_a_table1 : M Sl :=
 (mCall m_l_any_order [some 0, none] (mArgO 0 (mArg (mVar 1) (fun ρ => .ok [] ρ))))
noncomputable def g_l_a_table : Ms :=
 (mSeq (mSet 3 (mCall m_l_draw [some 0, none] (mArgO 0 (mArg (mC (.int 3)) (fun ρ => .ok [] ρ))))) (mSeq (mIfS (mOr (mTst (mBin gEq (mVar 3) (mC (.int 0)))) (mTst (mBin gGt (mVar 2) (mVar 1))))
 (mRet (mUn gTupC (mComp [4] (mRg1 (mArg (mVar 2) (fun ρ => .ok [] ρ))) (kName 4) mYes e_l_a_table1)))
 (fun ρ => .nx ρ)) (mSeq (mSet 5 (mCall m_l_apart [some 0, none, none] (mArgO 0 (mArg (mVar 1) (mArg (mVar 2) (fun ρ => .ok [] ρ)))))) (mSeq (mIfS (mTst (mBin gEq (mVar 3) (mC (.int 2))))
 (mSeq (mSet 6 (mCall m_l_draw [some 0, none] (mArgO 0 (mArg (mVar 2) (fun ρ => .ok [] ρ))))) (mSet 5 (mBin gAdd (mBin gAdd (mSlice (mVar 5) mNoPart (mPart (mVar 6))) (mTup (mArg (mCall m_l_any_order [some 0, none] (mArgO 0 (mArg (mVar 1) (fun ρ => .ok [] ρ)))) (fun ρ => .ok [] ρ)))) (mSlice (mVar 5) (mPart (mBin gAdd (mVar 6) (mC (.int 1)))) mNoPart))))
 (fun ρ => .nx ρ)) (mRet (mVar 5))))))
noncomputable def m_l_a_table : List Sl → Fo := mFn 7 3 [0] g_l_a_table
noncomputable def b_l_a_bars1 : Ms :=
 (mSetT 3 (mTup (mArg (mCall m_l_draw [some 0, none] (mArgO 0 (mArg (mVar 1) (fun ρ => .ok [] ρ)))) (mArg (mCall m_l_draw [some 0, none] (mArgO 0 (mArg (mBin gIx (mLst (mArg (mVar 1) (mArg (mC (.int 2)) (fun ρ => .ok [] ρ)))) (mBin gDiv (mCall m_l_draw [some 0, none] (mArgO 0 (mArg (mC (.int 3)) (fun ρ => .ok [] ρ)))) (mC (.int 2)))) (fun ρ => .ok [] ρ)))) (fun ρ => .ok [] ρ)))) (mC (.bool true)))
noncomputable def g_l_a_bars : Ms :=
 (mSeq (mSet 3 mNewT) (mSeq (mFor (mRg1 (mArg (mCall m_l_draw [some 0, none] (mArgO 0 (mArg (mBin gAdd (mVar 2) (mC (.int 1))) (fun ρ => .ok [] ρ)))) (fun ρ => .ok [] ρ))) (kName 4)
 b_l_a_bars1) (mRet (mUn gTupC (mListT 3)))))
noncomputable def m_l_a_bars : List Sl → Fo := mFn 5 3 [0] g_l_a_bars
noncomputable def e_l_free1 : M Sl :=
 (mBin gIx (mVar 6) (mVar 4))
noncomputable def t_l_free1 : M Bool :=
 (mAnd (mTst (mBin gNin (mVar 7) (mVar 5))) (mTst (mBin gNin (mTup (mArg (mVar 4) (mArg (mVar 7) (fun ρ => .ok [] ρ)))) (mVar 1))))
noncomputable def e_l_free2 : M Sl :=
 (mVar 7)
noncomputable def b_l_free1 : Ms :=
 (mSeq (mSet 5 (mComp [6] (mSeqI (mVar 0)) (kName 6) mYes e_l_free1)) (mDrop (mMeth 3 "list" gAppend (mArg (mComp [7] (mSeqI (mVar 2)) (kName 7) t_l_free1 e_l_free2) (fun ρ => .ok [] ρ)))))
noncomputable def g_l_free : Ms :=
 (mSeq (mSet 2 (mUn gLRg (mCB gLen (mArg (mBin gIx (mVar 0) (mC (.int 0))) (fun ρ => .ok [] ρ))))) (mSeq (mSet 3 (mLst (fun ρ => .ok [] ρ))) (mSeq (mFor (mRg1 (mArg (mCB gLen (mArg (mBin gIx (mVar 0) (mC (.int 0))) (fun ρ => .ok [] ρ))) (fun ρ => .ok [] ρ))) (kName 4)
 b_l_free1) (mRetO 3))))
noncomputable def m_l_free : List Sl → Fo := mFn 8 2 [] g_l_free
noncomputable def t_l_goes1 : M Bool :=
 (mTst (mBin gNin (mBin gIx (mVar 2) (mVar 4)) (mBin gIx (mVar 3) (mVar 4))))
noncomputable def e_l_goes1 : M Sl :=
 (mVar 4)
noncomputable def g_l_goes : Ms :=
 (mSeq (mSet 3 (mCall m_l_free [none, none] (mArg (mVar 0) (mArg (mVar 1) (fun ρ => .ok [] ρ))))) (mRet (mBin gEq (mComp [4] (mRg1 (mArg (mCB gLen (mArg (mVar 2) (fun ρ => .ok [] ρ))) (fun ρ => .ok [] ρ))) (kName 4) t_l_goes1 e_l_goes1) (mLst (fun ρ => .ok [] ρ)))))
noncomputable def m_l_goes : List Sl → Fo := mFn 5 3 [] g_l_goes
noncomputable def t_l_all_orders1 : M Bool :=
 (mTst (mBin gNin (mVar 5) (mVar 4)))
noncomputable def e_l_all_orders1 : M Sl :=
 (mBin gAdd (mVar 4) (mTup (mArg (mVar 5) (fun ρ => .ok [] ρ))))
noncomputable def b_l_all_orders1 : Ms :=
 (mDrop (mMeth 3 "list" gExtend (mArg (mComp [5] (mRg1 (mArg (mVar 0) (fun ρ => .ok [] ρ))) (kName 5) t_l_all_orders1 e_l_all_orders1) (fun ρ => .ok [] ρ))))
noncomputable def b_l_all_orders2 : Ms :=
 (mSeq (mSet 3 (mLst (fun ρ => .ok [] ρ))) (mSeq (mFor (mSeqI (mVar 1)) (kName 4)
 b_l_all_orders1) (mSet 1 (mVar 3))))
noncomputable def g_l_all_orders : Ms :=
 (mSeq (mSet 1 (mLst (mArg (mTup (fun ρ => .ok [] ρ)) (fun ρ => .ok [] ρ)))) (mSeq (mFor (mRg1 (mArg (mVar 0) (fun ρ => .ok [] ρ))) (kName 2)
 b_l_all_orders2) (mRet (mVar 1))))
noncomputable def m_l_all_orders : List Sl → Fo := mFn 6 1 [] g_l_all_orders
noncomputable def t_law1 : M Bool :=
 (mTst (mCall m_l_goes [none, none, none] (mArg (mVar 4) (mArg (mVar 5) (mArg (mVar 7) (fun ρ => .ok [] ρ))))))
noncomputable def e_law1 : M Sl :=
 (mVar 7)
noncomputable def t_law2 : M Bool :=
 (mTst (mBin gNin (mVar 14) (mVar 11)))
noncomputable def e_law2 : M Sl :=
 (mVar 14)
noncomputable def b_law1 : Ms :=
 (mIfS (mTst (mBin gNe (mComp [14] (mSeqI (mBin gIx (mVar 12) (mVar 13))) (kName 14) t_law2 e_law2) (mLst (fun ρ => .ok [] ρ))))
 (mRet (mC (.bool false)))
 (fun ρ => .nx ρ))
noncomputable def b_law2 : Ms :=
 (mSeq (mSet 3 (mBin gAdd (mC (.int 2)) (mCall m_l_draw [some 1, none] (mArgO 1 (mArg (mC (.int 5)) (fun ρ => .ok [] ρ)))))) (mSeq (mSet 4 (mCall m_l_a_table [some 1, none, none] (mArgO 1 (mArg (mVar 3) (mArg (mBin gAdd (mC (.int 1)) (mCall m_l_draw [some 1, none] (mArgO 1 (mArg (mVar 3) (fun ρ => .ok [] ρ))))) (fun ρ => .ok [] ρ)))))) (mSeq (mSet 5 (mCall m_l_a_bars [some 1, none, none] (mArgO 1 (mArg (mVar 3) (mArg (mBin gIx (mLst (mArg (mC (.int 0)) (mArg (mC (.int 4)) (mArg (mC (.int 20)) (fun ρ => .ok [] ρ))))) (mCall m_l_draw [some 1, none] (mArgO 1 (mArg (mC (.int 3)) (fun ρ => .ok [] ρ))))) (fun ρ => .ok [] ρ)))))) (mSeq (mSet 6 (mComp [7] (mSeqI (mCall m_l_all_orders [none] (mArg (mVar 3) (fun ρ => .ok [] ρ)))) (kName 7) t_law1 e_law1)) (mSeq (mSet 8 (mCall m_first_beside [none, none] (mArg (mVar 4) (mArg (mVar 5) (fun ρ => .ok [] ρ))))) (mSeq (mIfS (mTst (mBin gNe (mVar 6) (mLst (fun ρ => .ok [] ρ))))
 (mIfS (mTst (mBin gNe (mVar 8) (mTup (mArg (mC (.str "order")) (mArg (mBin gIx (mVar 6) (mC (.int 0))) (fun ρ => .ok [] ρ))))))
 (mRet (mC (.bool false)))
 (fun ρ => .nx ρ))
 (mSeq (mAsgT (mVar 8) (kTup 3 (kCons (kName 9) (kCons (kName 10) (kCons (kName 11) kNil))))) (mSeq (mSet 12 (mCall m_l_free [none, none] (mArg (mVar 4) (mArg (mVar 5) (fun ρ => .ok [] ρ))))) (mSeq (mIfS (mOr (mTst (mBin gNe (mVar 9) (mC (.str "bars")))) (mOr (mTst (mBin gGe (mCB gLen (mArg (mVar 11) (fun ρ => .ok [] ρ))) (mCB gLen (mArg (mVar 10) (fun ρ => .ok [] ρ))))) (mTst (mBin gNe (mCB gListC (mArg (mVar 10) (fun ρ => .ok [] ρ))) (mUn gSortSet (mVar 10))))))
 (mRet (mC (.bool false)))
 (fun ρ => .nx ρ)) (mSeq (mIfS (mTst (mBin gNe (mCB gListC (mArg (mVar 11) (fun ρ => .ok [] ρ))) (mUn gSortSet (mVar 11))))
 (mRet (mC (.bool false)))
 (fun ρ => .nx ρ)) (mSeq (mFor (mSeqI (mVar 10)) (kName 13)
 b_law1) (mIfS (mTst (mBin gNotB (mCall m_bars_so [none, none, none, none] (mArg (mVar 4) (mArg (mVar 10) (mArg (mVar 11) (mArg (mVar 5) (fun ρ => .ok [] ρ)))))) (mC (.bool true))))
 (mRet (mC (.bool false)))
 (fun ρ => .nx ρ)))))))) (mIfS (mOr (mTst (mBin gNe (mCall m_first_beside [none, none] (mArg (mVar 4) (mArg (mVar 5) (fun ρ => .ok [] ρ)))) (mVar 8))) (mAnd (mTst (mBin gEq (mVar 5) (mTup (fun ρ => .ok [] ρ)))) (mTst (mBin gNe (mCall m_first_beside ([none] ++ List.replicate 1 none) (mDfl [.none] (mArg (mVar 4) (fun ρ => .ok [] ρ)))) (mVar 8)))))
 (mRet (mC (.bool false)))
 (fun ρ => .nx ρ))))))))
noncomputable def g_law : Ms :=
 (mSeq (mSet 1 (mLst (mArg (mListScr 0) (mArg (mC (.int 0)) (mArg (mC (.int 0)) (fun ρ => .ok [] ρ)))))) (mSeq (mFor (mRg1 (mArg (mC (.int 5)) (fun ρ => .ok [] ρ))) (kName 2)
 b_law2) (mRet (mC (.bool true)))))
noncomputable def m_law : List Sl → Fo := mFn 15 1 [] g_law
noncomputable def p_is_within (thing : Int) (low : Int) (high : Int) : R Bool :=
 R.ok (true && ((!false) && ((decide (low ≤ thing)) && (decide (thing ≤ high)))))
set_option maxHeartbeats 1000000 in
theorem t_is_within (thing : Int) (low : Int) (high : Int) : TF m_is_within [.dat (PyData.int thing), .dat (PyData.int low), .dat (PyData.int high)] (p_is_within thing low high) (fun v : Bool => isD (PyData.bool v)) (fun v : Bool => []) :=
 tf_cv (tf_mk (ts_retV (c := fun v : Bool => isD (PyData.bool v)) (Δr := fun v : Bool => []) (true && ((!false) && ((decide (low ≤ thing)) && (decide (thing ≤ high))))) (tv_andV (tv_unD (tv_var 0 rfl) (q_isiT (isi_int _))) (tv_andV (tv_notV (tv_unD (tv_var 0 rfl) (q_isiT (isi_int_bool _)))) (tv_andV (tv_binD (tv_var 1 rfl) (tv_var 0 rfl) (o_le low thing)) (tv_binD (tv_var 0 rfl) (tv_var 2 rfl) (o_le thing high))))) Wc.nil) (fun _ => rfl)) rfl
noncomputable def q_free_spots1 (table : (List (List Int))) (barred : (List (Int × Int))) (x6 : Int) (s7 : ((List (List Int)))) : R ((List (List Int))) :=
 ((compR (fun x8 => R.ok true) (fun x8 => atR x8 x6) table []).bind fun x10 => (compR (fun x9 => R.ok ((decide (x9.1 = x6)))) (fun x9 => R.ok x9.2) barred []).bind fun y11 => catR x10 y11).bind fun (had12 : (List Int)) =>
 (((((atR table 0).bind fun x14 => R.ok ((x14.length : Int))).bind fun v16 => rg1 v16).bind fun z18 => compR (fun x17 => R.ok ((!decide (x17 ∈ had12)))) (fun x17 => R.ok x17) z18 []).bind fun x20 => (appR s7 x20).bind fun v21 => R.ok v21).bind fun (u23 : (List (List Int))) => R.ok u23
set_option maxHeartbeats 1000000 in
theorem tq_free_spots1 (table : (List (List Int))) (barred : (List (Int × Int))) (x6 : Int) (s7 : ((List (List Int)))) : TS [.dat ((eT (eT PyData.int)) table), .any, .dat ((eT (eP2 PyData.int PyData.int)) barred), .own (.lst (s7.map (eL PyData.int))), .dat (PyData.int x6), .any, .any, .any, .any] b_free_spots1 (q_free_spots1 table barred x6 s7) (pNx (fun s24 : ((List (List Int))) => [.dat ((eT (eT PyData.int)) table), .any, .dat ((eT (eP2 PyData.int PyData.int)) barred), .own (.lst (s24.map (eL PyData.int))), .any, .any, .any, .any, .any])) :=
 ts_cv (ts_seq (ts_setD 5 (te_f (te_ee (te_f (tm_comp (Γ := [.dat ((eT (eT PyData.int)) table), .any, .dat ((eT (eP2 PyData.int PyData.int)) barred), .own (.lst (s7.map (eL PyData.int))), .dat (PyData.int x6), .any, .any, .any, .any]) (Γk := fun x8 => [.dat ((eT (eT PyData.int)) table), .any, .dat ((eT (eP2 PyData.int PyData.int)) barred), .own (.lst (s7.map (eL PyData.int))), .dat (PyData.int x6), .any, .dat ((eT PyData.int) x8), .any, .any]) (e := (eT PyData.int)) PyData.int (xs := fun _ : Unit => table) (tm_of (ti_seqV (tv_var 0 rfl) rfl)) rfl (fun x8 => (tk_name 6 _)) (fun x8 => (tm_val (c := isB) (v := true) (fun ρ r => ⟨_, ρ, rfl, rfl, r⟩))) (fun x8 => (te_vv (tv_var 6 rfl) (tv_var 4 rfl) (q_ixT PyData.int x8 x6))) (fun _ _ h => h) (fun _ => rfl)) (fun _ => rfl)) (fun x10 => (te_f (tm_comp (Γ := [.dat ((eT (eT PyData.int)) table), .any, .dat ((eT (eP2 PyData.int PyData.int)) barred), .own (.lst (s7.map (eL PyData.int))), .dat (PyData.int x6), .any, .any, .any, .any]) (Γk := fun x9 => [.dat ((eT (eT PyData.int)) table), .any, .dat ((eT (eP2 PyData.int PyData.int)) barred), .own (.lst (s7.map (eL PyData.int))), .dat (PyData.int x6), .any, .any, .dat (PyData.int x9.1), .dat (PyData.int x9.2)]) (e := (eP2 PyData.int PyData.int)) PyData.int (xs := fun _ : Unit => barred) (tm_of (ti_seqV (tv_var 2 rfl) rfl)) rfl (fun x9 => (tk_tup (tkl_cons (tk_name 7 _) (tkl_cons (tk_name 8 _) tkl_nil)) rfl)) (fun x9 => (tm_val (c := isB) (v := (decide (x9.1 = x6))) (tb_tstV (tv_binD (tv_var 7 rfl) (tv_var 4 rfl) (o_eq ec_int x9.1 x6))))) (fun x9 => (tm_val (c := fun (z : Int) => isD (PyData.int z)) (v := x9.2) (tv_var 8 rfl))) (fun _ _ h => h) (fun _ => rfl)) (fun _ => rfl))) (fun x10 y11 => (o_catL (e := PyData.int) x10 y11))) (fun _ => rfl)))
 (fun had12 => (ts_end (fun (u23 : (List (List Int))) => u23) (ts_drop (te_methE 3 (Δa := fun (x20 : (List Int)) => [.dat ((eT (eT PyData.int)) table), .any, .dat ((eT (eP2 PyData.int PyData.int)) barred), .own (.lst (s7.map (eL PyData.int))), .dat (PyData.int x6), .dat ((eL PyData.int) had12), .any, .any, .any]) (ds := (fun (x20 : (List Int)) => [(eL PyData.int) x20])) (c := fun _ => isD .none) (Δ := fun (w22 : (List (List Int))) => [.dat ((eT (eT PyData.int)) table), .any, .dat ((eT (eP2 PyData.int PyData.int)) barred), .own (.lst (w22.map (eL PyData.int))), .dat (PyData.int x6), .dat ((eL PyData.int) had12), .any, .any, .any]) (fun (x20 : (List Int)) (v21 : (List (List Int))) => v21) rfl rfl (ta_ev (d := (fun (a19 : (List Int)) => (eL PyData.int) a19)) (ds := (fun (a19 : (List Int)) => [])) (te_f (tm_comp (Γ := [.dat ((eT (eT PyData.int)) table), .any, .dat ((eT (eP2 PyData.int PyData.int)) barred), .own (.lst (s7.map (eL PyData.int))), .dat (PyData.int x6), .dat ((eL PyData.int) had12), .any, .any, .any]) (Γk := fun x17 => [.dat ((eT (eT PyData.int)) table), .any, .dat ((eT (eP2 PyData.int PyData.int)) barred), .own (.lst (s7.map (eL PyData.int))), .dat (PyData.int x6), .dat ((eL PyData.int) had12), .any, .any, .dat (PyData.int x17)]) (e := PyData.int) PyData.int (xs := fun (z18 : (List Int)) => z18) (ti_rg1 (j := fun (v16 : Int) => v16) (ta_ev (d := (fun (a15 : Int) => PyData.int a15)) (ds := (fun (a15 : Int) => [])) (te_cb (ta_ev (d := (fun (a13 : (List Int)) => (eT PyData.int) a13)) (ds := (fun (a13 : (List Int)) => [])) (te_vv (tv_var 0 rfl) (tv_c _) (q_ixT (eT PyData.int) table 0)) (fun a13 => ta_nil)) (fun x14 => (opF_D PyData.int ((x14.length : Int)) (o_lenT (e := PyData.int) x14)))) (fun a15 => ta_nil))) rfl (fun x17 => (tk_name 8 _)) (fun x17 => (tm_val (c := isB) (v := (!decide (x17 ∈ had12))) (tb_tstV (tv_binD (tv_var 8 rfl) (tv_var 5 rfl) (o_ninL ec_int x17 had12))))) (fun x17 => (tm_val (c := fun (z : Int) => isD (PyData.int z)) (v := x17) (tv_var 8 rfl))) (fun _ _ h => h) (fun _ => rfl)) (fun _ => rfl)) (fun a19 => ta_nil)) (fun _ => rfl) (fun x20 => (om_append (e := (eL PyData.int)) s7 x20)) (fun _ _ _ h => h) (fun _ _ => (Wc.keep (Wc.any (Wc.keep (Wc.keep (Wc.keep (Wc.keep (Wc.any (Wc.any (Wc.any Wc.nil)))))))))))) (fun u23 => (Wc.keep (Wc.any (Wc.keep (Wc.keep (Wc.any (Wc.any (Wc.any (Wc.any (Wc.any Wc.nil))))))))))))) rfl
noncomputable def p_free_spots (table : (List (List Int))) (bars : (Option (List (Int × Int)))) : R (List (List Int)) :=
 (if bars.isNone = true then R.ok ([]) else R.ofO bars).bind fun (barred1 : (List (Int × Int))) =>
 ((((atR table 0).bind fun x3 => R.ok ((x3.length : Int))).bind fun v5 => rg1 v5).bind fun z26 => foldR (q_free_spots1 table barred1) z26 (([] : (List (List Int))))).bind fun (s25 : ((List (List Int)))) =>
 R.ok s25
set_option maxHeartbeats 1000000 in
theorem t_free_spots (table : (List (List Int))) (bars : (Option (List (Int × Int)))) : TF m_free_spots [.dat ((eT (eT PyData.int)) table), .dat ((eO (eT (eP2 PyData.int PyData.int))) bars)] (p_free_spots table bars) (fun v : (List (List Int)) => isS (.lst (v.map (eL PyData.int)))) (fun v : (List (List Int)) => []) :=
 tf_cv (tf_mk (ts_seq (ts_setD 2 (te_ifV (e := fun (z : (List (Int × Int))) => isD ((eT (eP2 PyData.int PyData.int)) z)) (tb_tstV (tv_binD (tv_var 1 rfl) (tv_c _) (o_isN nn_T bars))) (tm_val (c := fun (z : (List (Int × Int))) => isD ((eT (eP2 PyData.int PyData.int)) z)) (v := []) (tv_tup ta_nil (sz_lit rfl))) (te_asV (tv_var 1 rfl) (as_some (eT (eP2 PyData.int PyData.int)) bars))))
 (fun barred1 => (ts_seq (ts_setS 3 (tm_of (tv_lst ta_nil (sz_lit rfl))))
 (fun _ => (ts_seq (ts_for (xs := fun (z26 : (List Int)) => z26) (e := PyData.int) (Inv := (fun s7 : ((List (List Int))) => [.dat ((eT (eT PyData.int)) table), .any, .dat ((eT (eP2 PyData.int PyData.int)) barred1), .own (.lst (s7.map (eL PyData.int))), .any, .any, .any, .any, .any])) (fun (z26 : (List Int)) => (([] : (List (List Int))) : ((List (List Int))))) (ti_rg1 (j := fun (v5 : Int) => v5) (ta_ev (d := (fun (a4 : Int) => PyData.int a4)) (ds := (fun (a4 : Int) => [])) (te_cb (ta_ev (d := (fun (a2 : (List Int)) => (eT PyData.int) a2)) (ds := (fun (a2 : (List Int)) => [])) (te_vv (tv_var 0 rfl) (tv_c _) (q_ixT (eT PyData.int) table 0)) (fun a2 => ta_nil)) (fun x3 => (opF_D PyData.int ((x3.length : Int)) (o_lenT (e := PyData.int) x3)))) (fun a4 => ta_nil))) (fun z26 => (Wc.keep (Wc.any (Wc.keep (Wc.keep (Wc.any (Wc.any (Wc.any (Wc.any (Wc.any Wc.nil)))))))))) (fun x6 s7 => (tk_name 4 _)) (fun x6 s7 => tq_free_spots1 table barred1 x6 s7))
 (fun s25 => (ts_retO 3 (c := fun v : (List (List Int)) => isS (.lst (v.map (eL PyData.int)))) (Δr := fun v : (List (List Int)) => []) s25 rfl rfl rfl Wc.nil))))))) (fun _ => rfl)) rfl
noncomputable def r_counts_from (pr : (List (List Int)) → Int → Int → (List ((Int × Int) × Int)) → R (Int × (List ((Int × Int) × Int)))) (free : (List (List Int))) (step : Int) (left' : Int) (known : (List ((Int × Int) × Int))) : R (Int × (List ((Int × Int) × Int))) :=
 if (decide (step = (free.length : Int))) = true then R.ok (1, known)
 else (if (xor true (getK known ((step, left'))).isSome) = true then ((atR free step).bind fun z6 => compR (fun x3 => ((shrR left' x3).bind fun x4 => R.ok ((Builtin.bitAnd x4 1))).bind fun x5 => R.ok ((decide (x5 = 1)))) (fun x3 => R.ok x3) z6 []).bind fun (some'7 : (List Int)) =>
 (((compS (fun x8 s9 => R.ok true) (fun x8 s9 => (((shlR 1 x8).bind fun x10 => R.ok ((left' - x10))).bind fun w12 => (pr free ((step + 1)) w12 s9).bind fun v13 => R.ok v13).bind fun z15 => R.ok (z15.1, z15.2)) some'7 [] known).bind fun x19 => R.ok (x19.1.sum, x19.2)).bind fun x22 => (setKR x22.2 ((step, left')) x22.1).bind fun known24 => R.ok known24).bind fun (known26 : (List ((Int × Int) × Int))) => R.ok known26
 else R.ok known).bind fun (s27 : ((List ((Int × Int) × Int)))) =>
 (getR s27 ((step, left'))).bind fun r29 => R.ok (r29, s27)
noncomputable def p_counts_from : Nat → (List (List Int)) → Int → Int → (List ((Int × Int) × Int)) → R (Int × (List ((Int × Int) × Int)))
  | 0 => fun _ _ _ _ => .bad
  | kk + 1 => r_counts_from (p_counts_from kk)
set_option maxHeartbeats 1000000 in
theorem tr_counts_from (rr : List Sl → Fo) (pr : (List (List Int)) → Int → Int → (List ((Int × Int) × Int)) → R (Int × (List ((Int × Int) × Int)))) (hr : ∀ (free : (List (List Int))) (step : Int) (left' : Int) (known : (List ((Int × Int) × Int))), TF rr [.dat ((eL (eL PyData.int)) free), .dat (PyData.int step), .dat (PyData.int left'), .own (.dT (enT kII PyData.int known))] (pr free step left' known) (fun v : (Int × (List ((Int × Int) × Int))) => isD (PyData.int v.1)) (fun v : (Int × (List ((Int × Int) × Int))) => [.any, .any, .any, .own (.dT (enT kII PyData.int v.2))])) (free : (List (List Int))) (step : Int) (left' : Int) (known : (List ((Int × Int) × Int))) : TF (mFn 6 4 [3] (g_counts_from rr)) [.dat ((eL (eL PyData.int)) free), .dat (PyData.int step), .dat (PyData.int left'), .own (.dT (enT kII PyData.int known))] (r_counts_from pr free step left' known) (fun v : (Int × (List ((Int × Int) × Int))) => isD (PyData.int v.1)) (fun v : (Int × (List ((Int × Int) × Int))) => [.any, .any, .any, .own (.dT (enT kII PyData.int v.2))]) :=
 tf_cv (tf_mk (ts_ifR (b := fun (_ : Unit) => (decide (step = (free.length : Int)))) (tm_of (tb_tstV (tv_binD (tv_var 1 rfl) (tv_cbD (ta_cons (tv_var 0 rfl) ta_nil) (o_lenL (e := (eL PyData.int)) free)) (o_eq ec_int step ((free.length : Int)))))) (fun _ => (ts_retV (c := fun v : (Int × (List ((Int × Int) × Int))) => isD (PyData.int v.1)) (Δr := fun v : (Int × (List ((Int × Int) × Int))) => [.any, .any, .any, .own (.dT (enT kII PyData.int v.2))]) (1, known) (tv_c _) (Wc.any (Wc.any (Wc.any (Wc.keep Wc.nil))))))
 (fun _ => (ts_seq (ts_if (post := pNx (fun s28 : ((List ((Int × Int) × Int))) => [.any, .dat (PyData.int step), .dat (PyData.int left'), .own (.dT (enT kII PyData.int s28)), .any, .any])) (b := fun (_ : Unit) => (xor true (getK known ((step, left'))).isSome)) (tm_of (tb_tstV (tv_hasT true 3 kt_II (e := PyData.int) (xs := known) (a := (step, left')) rfl (tv_tup (ta_cons (tv_var 1 rfl) (ta_cons (tv_var 2 rfl) ta_nil)) (sz_lit rfl))))) (fun _ => (ts_seq (ts_setD 4 (te_f (tm_comp (Γ := [.dat ((eL (eL PyData.int)) free), .dat (PyData.int step), .dat (PyData.int left'), .own (.dT (enT kII PyData.int known)), .any, .any]) (Γk := fun x3 => [.dat ((eL (eL PyData.int)) free), .dat (PyData.int step), .dat (PyData.int left'), .own (.dT (enT kII PyData.int known)), .any, .dat (PyData.int x3)]) (e := PyData.int) PyData.int (xs := fun (z6 : (List Int)) => z6) (ti_seq (te_vv (tv_var 0 rfl) (tv_var 1 rfl) (q_ixL (eL PyData.int) free step)) (fun _ => rfl)) rfl (fun x3 => (tk_name 5 _)) (fun x3 => (tb_tst (te_ev (te_ev (te_vv (tv_var 2 rfl) (tv_var 5 rfl) (o_shr left' x3)) (fun x4 => (tv_c _)) (fun x4 => (opF_D PyData.int ((Builtin.bitAnd x4 1)) (o_and x4 1)))) (fun x5 => (tv_c _)) (fun x5 => (opF_D PyData.bool ((decide (x5 = 1))) (o_eq ec_int x5 1)))))) (fun x3 => (tm_val (c := fun (z : Int) => isD (PyData.int z)) (v := x3) (tv_var 5 rfl))) (fun _ _ h => h) (fun _ => rfl)) (fun _ => rfl)))
 (fun some'7 => (ts_end (fun (known26 : (List ((Int × Int) × Int))) => known26) (ts_setT 3 kt_II PyData.int (v := fun (x22 : (Int × (List ((Int × Int) × Int)))) => x22.1) (xs0 := fun (x22 : (Int × (List ((Int × Int) × Int)))) => x22.2) (xs := fun (x22 : (Int × (List ((Int × Int) × Int)))) (_ : Unit) => x22.2) (a := fun (x22 : (Int × (List ((Int × Int) × Int)))) (_ : Unit) => (step, left')) (Δ := fun (x22 : (Int × (List ((Int × Int) × Int)))) => [.dat ((eL (eL PyData.int)) free), .dat (PyData.int step), .dat (PyData.int left'), .own (.dT (enT kII PyData.int x22.2)), .dat ((eL PyData.int) some'7), .any]) (Δ2 := fun (x22 : (Int × (List ((Int × Int) × Int)))) (_ : Unit) => [.dat ((eL (eL PyData.int)) free), .dat (PyData.int step), .dat (PyData.int left'), .own (.dT (enT kII PyData.int x22.2)), .dat ((eL PyData.int) some'7), .any]) (Δ' := fun (w25 : (List ((Int × Int) × Int))) => [.dat ((eL (eL PyData.int)) free), .dat (PyData.int step), .dat (PyData.int left'), .own (.dT (enT kII PyData.int w25)), .dat ((eL PyData.int) some'7), .any]) (fun (x22 : (Int × (List ((Int × Int) × Int)))) (_ : Unit) (known24 : (List ((Int × Int) × Int))) => known24) (te_cbS (Δa := fun (x19 : ((List Int) × ((List ((Int × Int) × Int))))) => [.dat ((eL (eL PyData.int)) free), .dat (PyData.int step), .dat (PyData.int left'), .own (.dT (enT kII PyData.int x19.2)), .dat ((eL PyData.int) some'7), .any]) (ds := (fun (x19 : ((List Int) × ((List ((Int × Int) × Int))))) => [(eL PyData.int) x19.1])) (c := fun (w21 : (Int × (List ((Int × Int) × Int)))) => isD (PyData.int w21.1)) (Δ := fun (w21 : (Int × (List ((Int × Int) × Int)))) => [.dat ((eL (eL PyData.int)) free), .dat (PyData.int step), .dat (PyData.int left'), .own (.dT (enT kII PyData.int w21.2)), .dat ((eL PyData.int) some'7), .any]) (fun (x19 : ((List Int) × ((List ((Int × Int) × Int))))) (z20 : Int) => (z20, x19.2)) (ta_ev (d := (fun (a18 : ((List Int) × ((List ((Int × Int) × Int))))) => (eL PyData.int) a18.1)) (ds := (fun (a18 : ((List Int) × ((List ((Int × Int) × Int))))) => [])) (te_f (tm_compS (Inv := fun s9 : ((List ((Int × Int) × Int))) => [.dat ((eL (eL PyData.int)) free), .dat (PyData.int step), .dat (PyData.int left'), .own (.dT (enT kII PyData.int s9)), .dat ((eL PyData.int) some'7), .any]) (Γk := fun x8 s9 => [.dat ((eL (eL PyData.int)) free), .dat (PyData.int step), .dat (PyData.int left'), .own (.dT (enT kII PyData.int s9)), .dat ((eL PyData.int) some'7), .dat (PyData.int x8)]) (Γe := fun x8 v16 => [.dat ((eL (eL PyData.int)) free), .dat (PyData.int step), .dat (PyData.int left'), .own (.dT (enT kII PyData.int v16.2)), .dat ((eL PyData.int) some'7), .dat (PyData.int x8)]) (ce := fun (z : Int) => isD (PyData.int z)) (e := PyData.int) PyData.int (xs := fun _ : Unit => some'7) (fun _ : Unit => (known : ((List ((Int × Int) × Int))))) (tm_of (ti_seqV (tv_var 4 rfl) rfl)) (fun _ : Unit => (Wc.keep (Wc.keep (Wc.keep (Wc.keep (Wc.keep (Wc.any Wc.nil))))))) (fun _ => rfl) (fun x8 s9 => (tk_name 5 _)) (fun x8 s9 => (tm_val (c := isB) (v := true) (fun ρ r => ⟨_, ρ, rfl, rfl, r⟩))) (fun x8 s9 => (tm_pack (Δ := fun (z15 : (Int × (List ((Int × Int) × Int)))) => [.dat ((eL (eL PyData.int)) free), .dat (PyData.int step), .dat (PyData.int left'), .own (.dT (enT kII PyData.int z15.2)), .dat ((eL PyData.int) some'7), .dat (PyData.int x8)]) (c' := fun (z : Int × ((List ((Int × Int) × Int)))) => isD (PyData.int z.1)) (Δ' := fun v16 : Int × ((List ((Int × Int) × Int))) => [.dat ((eL (eL PyData.int)) free), .dat (PyData.int step), .dat (PyData.int left'), .own (.dT (enT kII PyData.int v16.2)), .dat ((eL PyData.int) some'7), .dat (PyData.int x8)]) (fun (z15 : (Int × (List ((Int × Int) × Int)))) => (z15.1, z15.2)) (te_callOE (mv := [none, none, none, some 3]) (pa := (shlR 1 x8).bind fun x10 => R.ok ((left' - x10))) (Δa := fun (w12 : Int) => [.dat ((eL (eL PyData.int)) free), .dat (PyData.int step), .dat (PyData.int left'), .any, .dat ((eL PyData.int) some'7), .dat (PyData.int x8)]) (as := fun (w12 : Int) => [.dat ((eL (eL PyData.int)) free), .dat (PyData.int ((step + 1))), .dat (PyData.int w12), .own (.dT (enT kII PyData.int s9))]) (c := fun (z14 : (Int × (List ((Int × Int) × Int)))) => isD (PyData.int z14.1)) (Δ := fun (z14 : (Int × (List ((Int × Int) × Int)))) => [.dat ((eL (eL PyData.int)) free), .dat (PyData.int step), .dat (PyData.int left'), .own (.dT (enT kII PyData.int z14.2)), .dat ((eL PyData.int) some'7), .dat (PyData.int x8)]) (fun (_ : Int) (v13 : (Int × (List ((Int × Int) × Int)))) => v13) (fun w12 => hr free ((step + 1)) w12 s9) (tr_v (tv_var 0 rfl) (tr_v (tv_binD (tv_var 1 rfl) (tv_c _) (o_add step 1)) (tr_e (Δa := fun (a11 : Int) => [.dat ((eL (eL PyData.int)) free), .dat (PyData.int step), .dat (PyData.int left'), .own (.dT (enT kII PyData.int s9)), .dat ((eL PyData.int) some'7), .dat (PyData.int x8)]) (Δr := fun (a11 : Int) => [.dat ((eL (eL PyData.int)) free), .dat (PyData.int step), .dat (PyData.int left'), .any, .dat ((eL PyData.int) some'7), .dat (PyData.int x8)]) (d := (fun (a11 : Int) => PyData.int a11)) (as := fun (a11 : Int) => [.own (.dT (enT kII PyData.int s9))]) (te_ve (tv_var 2 rfl) (te_vv (tv_c _) (tv_var 5 rfl) (o_shl 1 x8)) (fun x10 => (opF_D PyData.int ((left' - x10)) (o_sub left' x10)))) (fun a11 => (tr_own 3 rfl rfl (tr_of ta_nil) (fun _ => rfl) (fun _ => rfl)))))) (fun _ _ _ h => h) (fun _ _ => (Wc.keep (Wc.keep (Wc.keep (Wc.keep (Wc.keep (Wc.keep Wc.nil)))))))) (fun _ _ h => h) (fun _ => (Wc.keep (Wc.keep (Wc.keep (Wc.keep (Wc.keep (Wc.keep Wc.nil))))))))) (fun _ _ h => h) (fun _ _ => rfl) (fun _ _ => rfl)) (fun _ => rfl)) (fun a18 => ta_nil)) (fun x19 => (opF_D PyData.int x19.1.sum (o_sum x19.1))) (fun _ _ _ h => h) (fun _ _ => (Wc.keep (Wc.keep (Wc.keep (Wc.keep (Wc.keep (Wc.any Wc.nil)))))))) (fun _ => rfl) (fun x22 => (tm_of (tv_tup (ta_cons (tv_var 1 rfl) (ta_cons (tv_var 2 rfl) ta_nil)) (sz_lit rfl)))) (fun _ _ => rfl) (fun _ _ _ => (Wc.keep (Wc.keep (Wc.keep (Wc.keep (Wc.keep (Wc.any Wc.nil)))))))) (fun known26 => (Wc.any (Wc.keep (Wc.keep (Wc.keep (Wc.any (Wc.any Wc.nil)))))))))))
 (fun _ => (ts_end (fun _ : Unit => known) ts_nop (fun _ => (Wc.any (Wc.keep (Wc.keep (Wc.keep (Wc.any (Wc.any Wc.nil))))))))))
 (fun s27 => (ts_retP (c := fun v : (Int × (List ((Int × Int) × Int))) => isD (PyData.int v.1)) (Δr := fun v : (Int × (List ((Int × Int) × Int))) => [.any, .any, .any, .own (.dT (enT kII PyData.int v.2))]) (fun (r29 : Int) => (r29, s27)) (te_getT 3 kt_II PyData.int (xs := s27) (a := (step, left')) rfl (tv_tup (ta_cons (tv_var 1 rfl) (ta_cons (tv_var 2 rfl) ta_nil)) (sz_lit rfl))) (fun _ _ h => h) (fun _ => (Wc.any (Wc.any (Wc.any (Wc.keep Wc.nil)))))))))) (fun _ => rfl)) rfl
theorem t_counts_from : ∀ (kk : Nat) (free : (List (List Int))) (step : Int) (left' : Int) (known : (List ((Int × Int) × Int))), TF (m_counts_from kk) [.dat ((eL (eL PyData.int)) free), .dat (PyData.int step), .dat (PyData.int left'), .own (.dT (enT kII PyData.int known))] (p_counts_from kk free step left' known) (fun v : (Int × (List ((Int × Int) × Int))) => isD (PyData.int v.1)) (fun v : (Int × (List ((Int × Int) × Int))) => [.any, .any, .any, .own (.dT (enT kII PyData.int v.2))])
  | 0, _, _, _, _ => fun _ _ _ => trivial
  | kk + 1, free, step, left', known => tr_counts_from (m_counts_from kk) (p_counts_from kk) (t_counts_from kk) free step left' known
noncomputable def q_order_at1 (free : (List (List Int))) (step : Int) (x24 : Int) (s25 : ((List ((Int × Int) × Int)) × Int × (List Int) × Int)) : R ((List ((Int × Int) × Int)) × Int × (List Int) × Int) :=
 (((shlR 1 x24).bind fun x26 => R.ok ((s25.2.1 - x26))).bind fun w28 => (p_counts_from 10 free ((step + 1)) w28 s25.1).bind fun v29 => R.ok v29).bind fun (ways31 : (Int × (List ((Int × Int) × Int)))) =>
 if ((decide ((s25.2.2.1.length : Int) = step)) && (decide (s25.2.2.2 < ways31.1))) = true then (appR s25.2.2.1 x24).bind fun (u33 : (List Int)) =>
 ((shlR 1 x24).bind fun x34 => R.ok ((s25.2.1 - x34))).bind fun (left'35 : Int) => R.ok (ways31.2, left'35, u33, s25.2.2.2)
 else if (decide ((s25.2.2.1.length : Int) = step)) = true then R.ok (ways31.2, s25.2.1, s25.2.2.1, (s25.2.2.2 - ways31.1))
 else R.ok (ways31.2, s25.2.1, s25.2.2.1, s25.2.2.2)
set_option maxHeartbeats 1000000 in
theorem tq_order_at1 (free : (List (List Int))) (step : Int) (x24 : Int) (s25 : ((List ((Int × Int) × Int)) × Int × (List Int) × Int)) : TS [.any, .any, .any, .dat ((eL (eL PyData.int)) free), .own (.dT (enT kII PyData.int s25.1)), .dat (PyData.int s25.2.1), .own (.lst (s25.2.2.1.map PyData.int)), .dat (PyData.int s25.2.2.2), .dat (PyData.int step), .dat (PyData.int x24), .any, .any] b_order_at1 (q_order_at1 free step x24 s25) (pNx (fun s37 : ((List ((Int × Int) × Int)) × Int × (List Int) × Int) => [.any, .any, .any, .dat ((eL (eL PyData.int)) free), .own (.dT (enT kII PyData.int s37.1)), .dat (PyData.int s37.2.1), .own (.lst (s37.2.2.1.map PyData.int)), .dat (PyData.int s37.2.2.2), .dat (PyData.int step), .any, .any, .any])) :=
 ts_cv (ts_seq (ts_setD 11 (te_callOE (mv := [none, none, none, some 4]) (pa := (shlR 1 x24).bind fun x26 => R.ok ((s25.2.1 - x26))) (Δa := fun (w28 : Int) => [.any, .any, .any, .dat ((eL (eL PyData.int)) free), .any, .dat (PyData.int s25.2.1), .own (.lst (s25.2.2.1.map PyData.int)), .dat (PyData.int s25.2.2.2), .dat (PyData.int step), .dat (PyData.int x24), .any, .any]) (as := fun (w28 : Int) => [.dat ((eL (eL PyData.int)) free), .dat (PyData.int ((step + 1))), .dat (PyData.int w28), .own (.dT (enT kII PyData.int s25.1))]) (c := fun (z30 : (Int × (List ((Int × Int) × Int)))) => isD (PyData.int z30.1)) (Δ := fun (z30 : (Int × (List ((Int × Int) × Int)))) => [.any, .any, .any, .dat ((eL (eL PyData.int)) free), .own (.dT (enT kII PyData.int z30.2)), .dat (PyData.int s25.2.1), .own (.lst (s25.2.2.1.map PyData.int)), .dat (PyData.int s25.2.2.2), .dat (PyData.int step), .dat (PyData.int x24), .any, .any]) (fun (_ : Int) (v29 : (Int × (List ((Int × Int) × Int)))) => v29) (fun w28 => t_counts_from 10 free ((step + 1)) w28 s25.1) (tr_v (tv_var 3 rfl) (tr_v (tv_binD (tv_var 8 rfl) (tv_c _) (o_add step 1)) (tr_e (Δa := fun (a27 : Int) => [.any, .any, .any, .dat ((eL (eL PyData.int)) free), .own (.dT (enT kII PyData.int s25.1)), .dat (PyData.int s25.2.1), .own (.lst (s25.2.2.1.map PyData.int)), .dat (PyData.int s25.2.2.2), .dat (PyData.int step), .dat (PyData.int x24), .any, .any]) (Δr := fun (a27 : Int) => [.any, .any, .any, .dat ((eL (eL PyData.int)) free), .any, .dat (PyData.int s25.2.1), .own (.lst (s25.2.2.1.map PyData.int)), .dat (PyData.int s25.2.2.2), .dat (PyData.int step), .dat (PyData.int x24), .any, .any]) (d := (fun (a27 : Int) => PyData.int a27)) (as := fun (a27 : Int) => [.own (.dT (enT kII PyData.int s25.1))]) (te_ve (tv_var 5 rfl) (te_vv (tv_c _) (tv_var 9 rfl) (o_shl 1 x24)) (fun x26 => (opF_D PyData.int ((s25.2.1 - x26)) (o_sub s25.2.1 x26)))) (fun a27 => (tr_own 4 rfl rfl (tr_of ta_nil) (fun _ => rfl) (fun _ => rfl)))))) (fun _ _ _ h => h) (fun _ _ => (Wc.any (Wc.any (Wc.any (Wc.keep (Wc.keep (Wc.keep (Wc.keep (Wc.keep (Wc.keep (Wc.keep (Wc.any (Wc.any Wc.nil)))))))))))))))
 (fun ways31 => (ts_if (b := fun (_ : Unit) => ((decide ((s25.2.2.1.length : Int) = step)) && (decide (s25.2.2.2 < ways31.1)))) (tm_of (tb_andV (tb_tstV (tv_binD (tv_lenO 6 rfl (congrArg Int.ofNat (List.length_map ..))) (tv_var 8 rfl) (o_eq ec_int ((s25.2.2.1.length : Int)) step))) (tb_tstV (tv_binD (tv_var 7 rfl) (tv_var 11 rfl) (o_lt s25.2.2.2 ways31.1))))) (fun _ => (ts_seq (ts_drop (te_meth 6 rfl rfl (ta_cons (tv_var 9 rfl) ta_nil) (om_append (e := PyData.int) s25.2.2.1 x24)))
 (fun u33 => (ts_end (fun (left'35 : Int) => (ways31.2, left'35, u33, s25.2.2.2)) (ts_setD 5 (te_ve (tv_var 5 rfl) (te_vv (tv_c _) (tv_var 9 rfl) (o_shl 1 x24)) (fun x34 => (opF_D PyData.int ((s25.2.1 - x34)) (o_sub s25.2.1 x34))))) (fun left'35 => (Wc.any (Wc.any (Wc.any (Wc.keep (Wc.keep (Wc.keep (Wc.keep (Wc.keep (Wc.keep (Wc.any (Wc.any (Wc.any Wc.nil)))))))))))))))))
 (fun _ => (ts_if (b := fun (_ : Unit) => (decide ((s25.2.2.1.length : Int) = step))) (tm_of (tb_tstV (tv_binD (tv_lenO 6 rfl (congrArg Int.ofNat (List.length_map ..))) (tv_var 8 rfl) (o_eq ec_int ((s25.2.2.1.length : Int)) step)))) (fun _ => (ts_end (fun (_ : Unit) => (ways31.2, s25.2.1, s25.2.2.1, (s25.2.2.2 - ways31.1))) (ts_setD 7 (tm_of (tv_binD (tv_var 7 rfl) (tv_var 11 rfl) (o_sub s25.2.2.2 ways31.1)))) (fun _ => (Wc.any (Wc.any (Wc.any (Wc.keep (Wc.keep (Wc.keep (Wc.keep (Wc.keep (Wc.keep (Wc.any (Wc.any (Wc.any Wc.nil)))))))))))))))
 (fun _ => (ts_end (fun _ : Unit => (ways31.2, s25.2.1, s25.2.2.1, s25.2.2.2)) ts_nop (fun _ => (Wc.any (Wc.any (Wc.any (Wc.keep (Wc.keep (Wc.keep (Wc.keep (Wc.keep (Wc.keep (Wc.any (Wc.any (Wc.any Wc.nil)))))))))))))))))))) rfl
noncomputable def q_order_at2 (free : (List (List Int))) (x18 : Int) (s19 : ((List ((Int × Int) × Int)) × Int × (List Int) × Int)) : R ((List ((Int × Int) × Int)) × Int × (List Int) × Int) :=
 (((atR free x18).bind fun z23 => compR (fun x20 => ((shrR s19.2.1 x20).bind fun x21 => R.ok ((Builtin.bitAnd x21 1))).bind fun x22 => R.ok ((decide (x22 = 1)))) (fun x20 => R.ok x20) z23 []).bind fun z39 => foldR (q_order_at1 free x18) z39 ((s19.1, s19.2.1, s19.2.2.1, s19.2.2.2))).bind fun (s38 : ((List ((Int × Int) × Int)) × Int × (List Int) × Int)) => R.ok (s38.1, s38.2.1, s38.2.2.1, s38.2.2.2)
set_option maxHeartbeats 1000000 in
theorem tq_order_at2 (free : (List (List Int))) (x18 : Int) (s19 : ((List ((Int × Int) × Int)) × Int × (List Int) × Int)) : TS [.any, .any, .any, .dat ((eL (eL PyData.int)) free), .own (.dT (enT kII PyData.int s19.1)), .dat (PyData.int s19.2.1), .own (.lst (s19.2.2.1.map PyData.int)), .dat (PyData.int s19.2.2.2), .dat (PyData.int x18), .any, .any, .any] b_order_at2 (q_order_at2 free x18 s19) (pNx (fun s40 : ((List ((Int × Int) × Int)) × Int × (List Int) × Int) => [.any, .any, .any, .dat ((eL (eL PyData.int)) free), .own (.dT (enT kII PyData.int s40.1)), .dat (PyData.int s40.2.1), .own (.lst (s40.2.2.1.map PyData.int)), .dat (PyData.int s40.2.2.2), .any, .any, .any, .any])) :=
 ts_cv (ts_end (fun (s38 : ((List ((Int × Int) × Int)) × Int × (List Int) × Int)) => (s38.1, s38.2.1, s38.2.2.1, s38.2.2.2)) (ts_for (xs := fun (z39 : (List Int)) => z39) (e := PyData.int) (Inv := (fun s25 : ((List ((Int × Int) × Int)) × Int × (List Int) × Int) => [.any, .any, .any, .dat ((eL (eL PyData.int)) free), .own (.dT (enT kII PyData.int s25.1)), .dat (PyData.int s25.2.1), .own (.lst (s25.2.2.1.map PyData.int)), .dat (PyData.int s25.2.2.2), .dat (PyData.int x18), .any, .any, .any])) (fun (z39 : (List Int)) => ((s19.1, s19.2.1, s19.2.2.1, s19.2.2.2) : ((List ((Int × Int) × Int)) × Int × (List Int) × Int))) (ti_seq (te_f (tm_comp (Γ := [.any, .any, .any, .dat ((eL (eL PyData.int)) free), .own (.dT (enT kII PyData.int s19.1)), .dat (PyData.int s19.2.1), .own (.lst (s19.2.2.1.map PyData.int)), .dat (PyData.int s19.2.2.2), .dat (PyData.int x18), .any, .any, .any]) (Γk := fun x20 => [.any, .any, .any, .dat ((eL (eL PyData.int)) free), .own (.dT (enT kII PyData.int s19.1)), .dat (PyData.int s19.2.1), .own (.lst (s19.2.2.1.map PyData.int)), .dat (PyData.int s19.2.2.2), .dat (PyData.int x18), .any, .dat (PyData.int x20), .any]) (e := PyData.int) PyData.int (xs := fun (z23 : (List Int)) => z23) (ti_seq (te_vv (tv_var 3 rfl) (tv_var 8 rfl) (q_ixL (eL PyData.int) free x18)) (fun _ => rfl)) rfl (fun x20 => (tk_name 10 _)) (fun x20 => (tb_tst (te_ev (te_ev (te_vv (tv_var 5 rfl) (tv_var 10 rfl) (o_shr s19.2.1 x20)) (fun x21 => (tv_c _)) (fun x21 => (opF_D PyData.int ((Builtin.bitAnd x21 1)) (o_and x21 1)))) (fun x22 => (tv_c _)) (fun x22 => (opF_D PyData.bool ((decide (x22 = 1))) (o_eq ec_int x22 1)))))) (fun x20 => (tm_val (c := fun (z : Int) => isD (PyData.int z)) (v := x20) (tv_var 10 rfl))) (fun _ _ h => h) (fun _ => rfl)) (fun _ => rfl)) (fun _ => rfl)) (fun z39 => (Wc.any (Wc.any (Wc.any (Wc.keep (Wc.keep (Wc.keep (Wc.keep (Wc.keep (Wc.keep (Wc.any (Wc.any (Wc.any Wc.nil))))))))))))) (fun x24 s25 => (tk_name 9 _)) (fun x24 s25 => tq_order_at1 free x18 x24 s25)) (fun s38 => (Wc.any (Wc.any (Wc.any (Wc.keep (Wc.keep (Wc.keep (Wc.keep (Wc.keep (Wc.any (Wc.any (Wc.any (Wc.any Wc.nil)))))))))))))) rfl
noncomputable def p_order_at (table : (List (List Int))) (number : Int) (bars : (Option (List (Int × Int)))) : R (List Int) :=
 (p_free_spots table bars).bind fun (free1 : (List (List Int))) =>
 ((shlR 1 ((free1.length : Int))).bind fun x2 => R.ok ((x2 - 1))).bind fun (left'3 : Int) =>
 (((p_counts_from 10 free1 0 left'3 (([] : (List ((Int × Int) × Int))))).bind fun x9 => R.ok ((x9.1 - 1), x9.2)).bind fun w14 => (p_is_within number 0 w14.1).bind fun v15 => R.ok (v15, w14.2)).bind fun b17 => if (!b17.1) = true then R.bad
 else ((rg1 ((free1.length : Int))).bind fun z42 => foldR (q_order_at2 free1) z42 ((b17.2, left'3, ([] : (List Int)), number))).bind fun (s41 : ((List ((Int × Int) × Int)) × Int × (List Int) × Int)) =>
 R.ok s41.2.2.1
set_option maxHeartbeats 1000000 in
theorem t_order_at (table : (List (List Int))) (number : Int) (bars : (Option (List (Int × Int)))) : TF m_order_at [.dat ((eT (eT PyData.int)) table), .dat (PyData.int number), .dat ((eO (eT (eP2 PyData.int PyData.int))) bars)] (p_order_at table number bars) (fun v : (List Int) => isD ((eT PyData.int) v)) (fun v : (List Int) => []) :=
 tf_cv (tf_mk (ts_seq (ts_setD 3 (te_f (te_callV (t_free_spots table bars) (ta_cons (tv_var 0 rfl) (ta_cons (tv_var 2 rfl) ta_nil)) rfl rfl) (fun _ => rfl)))
 (fun free1 => (ts_seq (ts_setS 4 (tm_of (tv_newT kII PyData.int)))
 (fun _ => (ts_seq (ts_setD 5 (te_ev (te_vv (tv_c _) (tv_cbD (ta_cons (tv_var 3 rfl) ta_nil) (o_lenL (e := (eL PyData.int)) free1)) (o_shl 1 ((free1.length : Int)))) (fun x2 => (tv_c _)) (fun x2 => (opF_D PyData.int ((x2 - 1)) (o_sub x2 1)))))
 (fun left'3 => (ts_ifR (b := fun (b17 : (Bool × (List ((Int × Int) × Int)))) => (!b17.1)) (tb_not (tb_tst (te_callOE (mv := [none, none, none]) (pa := (p_counts_from 10 free1 0 left'3 (([] : (List ((Int × Int) × Int))))).bind fun x9 => R.ok ((x9.1 - 1), x9.2)) (Δa := fun (w14 : (Int × (List ((Int × Int) × Int)))) => [.dat ((eT (eT PyData.int)) table), .dat (PyData.int number), .dat ((eO (eT (eP2 PyData.int PyData.int))) bars), .dat ((eL (eL PyData.int)) free1), .own (.dT (enT kII PyData.int w14.2)), .dat (PyData.int left'3), .any, .any, .any, .any, .any, .any]) (as := fun (w14 : (Int × (List ((Int × Int) × Int)))) => [.dat (PyData.int number), .dat (PyData.int 0), .dat (PyData.int w14.1)]) (c := fun (z16 : (Bool × (List ((Int × Int) × Int)))) => isD (PyData.bool z16.1)) (Δ := fun (z16 : (Bool × (List ((Int × Int) × Int)))) => [.dat ((eT (eT PyData.int)) table), .dat (PyData.int number), .dat ((eO (eT (eP2 PyData.int PyData.int))) bars), .dat ((eL (eL PyData.int)) free1), .own (.dT (enT kII PyData.int z16.2)), .dat (PyData.int left'3), .any, .any, .any, .any, .any, .any]) (fun (w14 : (Int × (List ((Int × Int) × Int)))) (v15 : Bool) => (v15, w14.2)) (fun w14 => t_is_within number 0 w14.1) (tr_v (tv_var 1 rfl) (tr_v (tv_c _) (tr_e (Δa := fun (a13 : (Int × (List ((Int × Int) × Int)))) => [.dat ((eT (eT PyData.int)) table), .dat (PyData.int number), .dat ((eO (eT (eP2 PyData.int PyData.int))) bars), .dat ((eL (eL PyData.int)) free1), .own (.dT (enT kII PyData.int a13.2)), .dat (PyData.int left'3), .any, .any, .any, .any, .any, .any]) (Δr := fun (a13 : (Int × (List ((Int × Int) × Int)))) => [.dat ((eT (eT PyData.int)) table), .dat (PyData.int number), .dat ((eO (eT (eP2 PyData.int PyData.int))) bars), .dat ((eL (eL PyData.int)) free1), .own (.dT (enT kII PyData.int a13.2)), .dat (PyData.int left'3), .any, .any, .any, .any, .any, .any]) (d := (fun (a13 : (Int × (List ((Int × Int) × Int)))) => PyData.int a13.1)) (as := fun (a13 : (Int × (List ((Int × Int) × Int)))) => []) (te_st (Δa := fun (x9 : (Int × (List ((Int × Int) × Int)))) => [.dat ((eT (eT PyData.int)) table), .dat (PyData.int number), .dat ((eO (eT (eP2 PyData.int PyData.int))) bars), .dat ((eL (eL PyData.int)) free1), .own (.dT (enT kII PyData.int x9.2)), .dat (PyData.int left'3), .any, .any, .any, .any, .any, .any]) (Δb := fun (x9 : (Int × (List ((Int × Int) × Int)))) (_ : Unit) => [.dat ((eT (eT PyData.int)) table), .dat (PyData.int number), .dat ((eO (eT (eP2 PyData.int PyData.int))) bars), .dat ((eL (eL PyData.int)) free1), .own (.dT (enT kII PyData.int x9.2)), .dat (PyData.int left'3), .any, .any, .any, .any, .any, .any]) (da := (fun (x9 : (Int × (List ((Int × Int) × Int)))) => PyData.int x9.1)) (db := (fun (x9 : (Int × (List ((Int × Int) × Int)))) (_ : Unit) => PyData.int 1)) (c := fun (w12 : (Int × (List ((Int × Int) × Int)))) => isD (PyData.int w12.1)) (Δ := fun (w12 : (Int × (List ((Int × Int) × Int)))) => [.dat ((eT (eT PyData.int)) table), .dat (PyData.int number), .dat ((eO (eT (eP2 PyData.int PyData.int))) bars), .dat ((eL (eL PyData.int)) free1), .own (.dT (enT kII PyData.int w12.2)), .dat (PyData.int left'3), .any, .any, .any, .any, .any, .any]) (fun (x9 : (Int × (List ((Int × Int) × Int)))) (_ : Unit) (z11 : Int) => (z11, x9.2)) (te_callO (mv := [none, none, none, some 4]) (t_counts_from 10 free1 0 left'3 (([] : (List ((Int × Int) × Int))))) (tr_v (tv_var 3 rfl) (tr_v (tv_c _) (tr_v (tv_var 5 rfl) (tr_own 4 rfl rfl (tr_of ta_nil) (fun _ => rfl) (fun _ => rfl)))))) (fun x9 => (tm_of (tv_c _))) (fun x9 _ => (opF_D PyData.int ((x9.1 - 1)) (o_sub x9.1 1))) (fun _ _ _ _ h => h) (fun _ _ _ => (Wc.keep (Wc.keep (Wc.keep (Wc.keep (Wc.keep (Wc.keep (Wc.any (Wc.any (Wc.any (Wc.any (Wc.any (Wc.any Wc.nil)))))))))))))) (fun a13 => (tr_of ta_nil))))) (fun _ _ _ h => h) (fun _ _ => (Wc.keep (Wc.keep (Wc.keep (Wc.keep (Wc.keep (Wc.keep (Wc.any (Wc.any (Wc.any (Wc.any (Wc.any (Wc.any Wc.nil)))))))))))))))) (fun b17 => (ts_never _))
 (fun b17 => (ts_seq (ts_setS 6 (tm_of (tv_lst ta_nil (sz_lit rfl))))
 (fun _ => (ts_seq (ts_setD 7 (tm_of (tv_var 1 rfl)))
 (fun _ => (ts_seq (ts_for (xs := fun (z42 : (List Int)) => z42) (e := PyData.int) (Inv := (fun s19 : ((List ((Int × Int) × Int)) × Int × (List Int) × Int) => [.any, .any, .any, .dat ((eL (eL PyData.int)) free1), .own (.dT (enT kII PyData.int s19.1)), .dat (PyData.int s19.2.1), .own (.lst (s19.2.2.1.map PyData.int)), .dat (PyData.int s19.2.2.2), .any, .any, .any, .any])) (fun (z42 : (List Int)) => ((b17.2, left'3, ([] : (List Int)), number) : ((List ((Int × Int) × Int)) × Int × (List Int) × Int))) (ti_rg1V (ta_cons (tv_cbD (ta_cons (tv_var 3 rfl) ta_nil) (o_lenL (e := (eL PyData.int)) free1)) ta_nil)) (fun z42 => (Wc.any (Wc.any (Wc.any (Wc.keep (Wc.keep (Wc.keep (Wc.keep (Wc.keep (Wc.any (Wc.any (Wc.any (Wc.any Wc.nil))))))))))))) (fun x18 s19 => (tk_name 8 _)) (fun x18 s19 => tq_order_at2 free1 x18 s19))
 (fun s41 => (ts_wk0 (Wc.any (Wc.any (Wc.any (Wc.keep (Wc.keep (Wc.keep (Wc.frz rfl (Wc.keep (Wc.any (Wc.any (Wc.any (Wc.any Wc.nil)))))))))))) (ts_retV (c := fun v : (List Int) => isD ((eT PyData.int) v)) (Δr := fun v : (List Int) => []) s41.2.2.1 (tv_unD (tv_var 6 rfl) (o_tupL (e := PyData.int) s41.2.2.1)) Wc.nil)))))))))))))))) (fun _ => rfl)) rfl
noncomputable def q_mated1 (pr : (List (List Int)) → (List (Option Int)) → Int → (List (Int × Bool)) → R (Bool × (List (Option Int)) × (List (Int × Bool)))) (free : (List (List Int))) (step : Int) (x1 : Int) (s2 : ((List (Option Int)) × (List (Int × Bool)))) : R (Out ((List (Option Int)) × (List (Int × Bool))) (Bool × (List (Option Int)) × (List (Int × Bool)))) :=
 if (xor true (getK s2.2 x1).isSome) = true then ((setKR s2.2 x1 true).bind fun tried5 => R.ok tried5).bind fun (tried7 : (List (Int × Bool))) =>
 (((atR s2.1 x1).bind fun x8 => R.ok x8.isNone).bind fun a16 => if a16 = true then R.ok (true, (s2.1, tried7)) else (((atR s2.1 x1).bind fun o9 => R.ofO o9).bind fun w11 => (pr free s2.1 w11 tried7).bind fun v12 => R.ok v12).bind fun z14 => R.ok (z14.1, (z14.2.1, z14.2.2))).bind fun b17 => if b17.1 = true then (setR b17.2.1 x1 ((some step))).bind fun (mates18 : (List (Option Int))) =>
 R.ok (.rt (true, mates18, b17.2.2))
 else R.ok (.nx (b17.2.1, b17.2.2))
 else R.ok (.nx (s2.1, s2.2))
set_option maxHeartbeats 1000000 in
theorem tq_mated1 (rr : List Sl → Fo) (pr : (List (List Int)) → (List (Option Int)) → Int → (List (Int × Bool)) → R (Bool × (List (Option Int)) × (List (Int × Bool)))) (hr : ∀ (free : (List (List Int))) (mates : (List (Option Int))) (step : Int) (tried : (List (Int × Bool))), TF rr [.dat ((eL (eL PyData.int)) free), .own (.lst (mates.map (eO PyData.int))), .dat (PyData.int step), .own (.dK (enK kI PyData.bool tried))] (pr free mates step tried) (fun v : (Bool × (List (Option Int)) × (List (Int × Bool))) => isD (PyData.bool v.1)) (fun v : (Bool × (List (Option Int)) × (List (Int × Bool))) => [.any, .own (.lst (v.2.1.map (eO PyData.int))), .any, .own (.dK (enK kI PyData.bool v.2.2))])) (free : (List (List Int))) (step : Int) (x1 : Int) (s2 : ((List (Option Int)) × (List (Int × Bool)))) : TS [.dat ((eL (eL PyData.int)) free), .own (.lst (s2.1.map (eO PyData.int))), .dat (PyData.int step), .own (.dK (enK kI PyData.bool s2.2)), .dat (PyData.int x1)] (b_mated1 rr) (q_mated1 pr free step x1 s2) (pMx (fun s19 : ((List (Option Int)) × (List (Int × Bool))) => [.dat ((eL (eL PyData.int)) free), .own (.lst (s19.1.map (eO PyData.int))), .dat (PyData.int step), .own (.dK (enK kI PyData.bool s19.2)), .any]) (fun v : (Bool × (List (Option Int)) × (List (Int × Bool))) => isD (PyData.bool v.1)) (fun v : (Bool × (List (Option Int)) × (List (Int × Bool))) => [.any, .own (.lst (v.2.1.map (eO PyData.int))), .any, .own (.dK (enK kI PyData.bool v.2.2))])) :=
 ts_cv (ts_if (b := fun (_ : Unit) => (xor true (getK s2.2 x1).isSome)) (tm_of (tb_tstV (tv_hasK true 3 kc_I (e := PyData.bool) (xs := s2.2) (a := x1) rfl (tv_var 4 rfl)))) (fun _ => (ts_seq (ts_setK 3 kc_I PyData.bool (v := fun (_ : Unit) => true) (xs := fun (_ : Unit) => s2.2) (a := fun (_ : Unit) => x1) (Δ := fun (_ : Unit) => [.dat ((eL (eL PyData.int)) free), .own (.lst (s2.1.map (eO PyData.int))), .dat (PyData.int step), .own (.dK (enK kI PyData.bool s2.2)), .dat (PyData.int x1)]) (Δ' := fun (w6 : (List (Int × Bool))) => [.dat ((eL (eL PyData.int)) free), .own (.lst (s2.1.map (eO PyData.int))), .dat (PyData.int step), .own (.dK (enK kI PyData.bool w6)), .dat (PyData.int x1)]) (fun (_ : Unit) (tried5 : (List (Int × Bool))) => tried5) (tm_of (tv_c _)) (fun _ => rfl) (fun _ => (tv_var 4 rfl)) (fun _ _ => (Wc.keep (Wc.keep (Wc.keep (Wc.keep (Wc.keep Wc.nil)))))))
 (fun tried7 => (ts_if (b := fun (b17 : (Bool × ((List (Option Int)) × (List (Int × Bool))))) => b17.1) (tb_orG (bv := fun (z14 : (Bool × (List (Option Int)) × (List (Int × Bool)))) => z14.1) (sv := fun (z14 : (Bool × (List (Option Int)) × (List (Int × Bool)))) => (z14.2.1, z14.2.2)) (Δb := fun (z14 : (Bool × (List (Option Int)) × (List (Int × Bool)))) => [.dat ((eL (eL PyData.int)) free), .own (.lst (z14.2.1.map (eO PyData.int))), .dat (PyData.int step), .own (.dK (enK kI PyData.bool z14.2.2)), .dat (PyData.int x1)]) (Δ := fun (q15 : ((List (Option Int)) × (List (Int × Bool)))) => [.dat ((eL (eL PyData.int)) free), .own (.lst (q15.1.map (eO PyData.int))), .dat (PyData.int step), .own (.dK (enK kI PyData.bool q15.2)), .dat (PyData.int x1)]) (s0 := (s2.1, tried7)) (tb_tst (te_ev (q_ixO 1 (eO PyData.int) s2.1 rfl (tv_var 4 rfl)) (fun x8 => (tv_c _)) (fun x8 => (opF_D PyData.bool x8.isNone (o_isN nn_int x8))))) (tb_tst (te_callOE (mv := [none, some 1, none, some 3]) (pa := (atR s2.1 x1).bind fun o9 => R.ofO o9) (Δa := fun (w11 : Int) => [.dat ((eL (eL PyData.int)) free), .any, .dat (PyData.int step), .any, .dat (PyData.int x1)]) (as := fun (w11 : Int) => [.dat ((eL (eL PyData.int)) free), .own (.lst (s2.1.map (eO PyData.int))), .dat (PyData.int w11), .own (.dK (enK kI PyData.bool tried7))]) (c := fun (z13 : (Bool × (List (Option Int)) × (List (Int × Bool)))) => isD (PyData.bool z13.1)) (Δ := fun (z13 : (Bool × (List (Option Int)) × (List (Int × Bool)))) => [.dat ((eL (eL PyData.int)) free), .own (.lst (z13.2.1.map (eO PyData.int))), .dat (PyData.int step), .own (.dK (enK kI PyData.bool z13.2.2)), .dat (PyData.int x1)]) (fun (_ : Int) (v12 : (Bool × (List (Option Int)) × (List (Int × Bool)))) => v12) (fun w11 => hr free s2.1 w11 tried7) (tr_v (tv_var 0 rfl) (tr_own 1 rfl rfl (tr_e (Δa := fun (a10 : Int) => [.dat ((eL (eL PyData.int)) free), .own (.lst (s2.1.map (eO PyData.int))), .dat (PyData.int step), .own (.dK (enK kI PyData.bool tried7)), .dat (PyData.int x1)]) (Δr := fun (a10 : Int) => [.dat ((eL (eL PyData.int)) free), .own (.lst (s2.1.map (eO PyData.int))), .dat (PyData.int step), .any, .dat (PyData.int x1)]) (d := (fun (a10 : Int) => PyData.int a10)) (as := fun (a10 : Int) => [.own (.dK (enK kI PyData.bool tried7))]) (te_as (q_ixO 1 (eO PyData.int) s2.1 rfl (tv_var 4 rfl)) (fun o9 => as_some PyData.int o9)) (fun a10 => (tr_own 3 rfl rfl (tr_of ta_nil) (fun _ => rfl) (fun _ => rfl)))) (fun _ => rfl) (fun _ => rfl))) (fun _ _ _ h => h) (fun _ _ => (Wc.keep (Wc.keep (Wc.keep (Wc.keep (Wc.keep Wc.nil)))))))) (Wc.keep (Wc.keep (Wc.keep (Wc.keep (Wc.keep Wc.nil))))) (fun _ => (Wc.keep (Wc.keep (Wc.keep (Wc.keep (Wc.keep Wc.nil))))))) (fun b17 => (ts_seq (ts_setIx 1 (xs := b17.2.1) (e := (eO PyData.int)) (v := (some step)) rfl (tv_var 2 rfl) (tv_var 4 rfl))
 (fun mates18 => (ts_mxR (ts_retV (c := fun v : (Bool × (List (Option Int)) × (List (Int × Bool))) => isD (PyData.bool v.1)) (Δr := fun v : (Bool × (List (Option Int)) × (List (Int × Bool))) => [.any, .own (.lst (v.2.1.map (eO PyData.int))), .any, .own (.dK (enK kI PyData.bool v.2.2))]) (true, mates18, b17.2.2) (tv_c _) (Wc.any (Wc.keep (Wc.any (Wc.keep Wc.nil)))))))))
 (fun b17 => (ts_mxN (ts_end (fun _ : Unit => (b17.2.1, b17.2.2)) ts_nop (fun _ => (Wc.keep (Wc.keep (Wc.keep (Wc.keep (Wc.any Wc.nil)))))))))))))
 (fun _ => (ts_mxN (ts_end (fun _ : Unit => (s2.1, s2.2)) ts_nop (fun _ => (Wc.keep (Wc.keep (Wc.keep (Wc.keep (Wc.any Wc.nil)))))))))) rfl
noncomputable def r_mated (pr : (List (List Int)) → (List (Option Int)) → Int → (List (Int × Bool)) → R (Bool × (List (Option Int)) × (List (Int × Bool)))) (free : (List (List Int))) (mates : (List (Option Int))) (step : Int) (tried : (List (Int × Bool))) : R (Bool × (List (Option Int)) × (List (Int × Bool))) :=
 ((atR free step).bind fun z21 => loopR (q_mated1 pr free step) z21 ((mates, tried))).bind fun o => o.go (fun (s20 : ((List (Option Int)) × (List (Int × Bool)))) => R.ok (false, s20.1, s20.2)) R.ok
noncomputable def p_mated : Nat → (List (List Int)) → (List (Option Int)) → Int → (List (Int × Bool)) → R (Bool × (List (Option Int)) × (List (Int × Bool)))
  | 0 => fun _ _ _ _ => .bad
  | kk + 1 => r_mated (p_mated kk)
set_option maxHeartbeats 1000000 in
theorem tr_mated (rr : List Sl → Fo) (pr : (List (List Int)) → (List (Option Int)) → Int → (List (Int × Bool)) → R (Bool × (List (Option Int)) × (List (Int × Bool)))) (hr : ∀ (free : (List (List Int))) (mates : (List (Option Int))) (step : Int) (tried : (List (Int × Bool))), TF rr [.dat ((eL (eL PyData.int)) free), .own (.lst (mates.map (eO PyData.int))), .dat (PyData.int step), .own (.dK (enK kI PyData.bool tried))] (pr free mates step tried) (fun v : (Bool × (List (Option Int)) × (List (Int × Bool))) => isD (PyData.bool v.1)) (fun v : (Bool × (List (Option Int)) × (List (Int × Bool))) => [.any, .own (.lst (v.2.1.map (eO PyData.int))), .any, .own (.dK (enK kI PyData.bool v.2.2))])) (free : (List (List Int))) (mates : (List (Option Int))) (step : Int) (tried : (List (Int × Bool))) : TF (mFn 5 4 [1, 3] (g_mated rr)) [.dat ((eL (eL PyData.int)) free), .own (.lst (mates.map (eO PyData.int))), .dat (PyData.int step), .own (.dK (enK kI PyData.bool tried))] (r_mated pr free mates step tried) (fun v : (Bool × (List (Option Int)) × (List (Int × Bool))) => isD (PyData.bool v.1)) (fun v : (Bool × (List (Option Int)) × (List (Int × Bool))) => [.any, .own (.lst (v.2.1.map (eO PyData.int))), .any, .own (.dK (enK kI PyData.bool v.2.2))]) :=
 tf_cv (tf_mk (ts_seqR (ts_forM (xs := fun (z21 : (List Int)) => z21) (e := PyData.int) (Inv := (fun s2 : ((List (Option Int)) × (List (Int × Bool))) => [.dat ((eL (eL PyData.int)) free), .own (.lst (s2.1.map (eO PyData.int))), .dat (PyData.int step), .own (.dK (enK kI PyData.bool s2.2)), .any])) (fun (z21 : (List Int)) => ((mates, tried) : ((List (Option Int)) × (List (Int × Bool))))) (ti_seq (te_vv (tv_var 0 rfl) (tv_var 2 rfl) (q_ixL (eL PyData.int) free step)) (fun _ => rfl)) (fun z21 => (Wc.keep (Wc.keep (Wc.keep (Wc.keep (Wc.any Wc.nil)))))) (fun x1 s2 => (tk_name 4 _)) (fun x1 s2 => tq_mated1 rr pr hr free step x1 s2)) (fun s20 => (ts_retV (c := fun v : (Bool × (List (Option Int)) × (List (Int × Bool))) => isD (PyData.bool v.1)) (Δr := fun v : (Bool × (List (Option Int)) × (List (Int × Bool))) => [.any, .own (.lst (v.2.1.map (eO PyData.int))), .any, .own (.dK (enK kI PyData.bool v.2.2))]) (false, s20.1, s20.2) (tv_c _) (Wc.any (Wc.keep (Wc.any (Wc.keep Wc.nil))))))) (fun _ => rfl)) rfl
theorem t_mated : ∀ (kk : Nat) (free : (List (List Int))) (mates : (List (Option Int))) (step : Int) (tried : (List (Int × Bool))), TF (m_mated kk) [.dat ((eL (eL PyData.int)) free), .own (.lst (mates.map (eO PyData.int))), .dat (PyData.int step), .own (.dK (enK kI PyData.bool tried))] (p_mated kk free mates step tried) (fun v : (Bool × (List (Option Int)) × (List (Int × Bool))) => isD (PyData.bool v.1)) (fun v : (Bool × (List (Option Int)) × (List (Int × Bool))) => [.any, .own (.lst (v.2.1.map (eO PyData.int))), .any, .own (.dK (enK kI PyData.bool v.2.2))])
  | 0, _, _, _, _ => fun _ _ _ => trivial
  | kk + 1, free, mates, step, tried => tr_mated (m_mated kk) (p_mated kk) (t_mated kk) free mates step tried
noncomputable def q_why_none1 (free : (List (List Int))) (x3 : Int) (s4 : ((List (Option Int)))) : R (Out ((List (Option Int))) (Option ((List Int) × (List Int)))) :=
 (p_mated 10 free s4 x3 (([] : (List (Int × Bool))))).bind fun b5 => if (!b5.1) = true then (((compR (fun x6 => R.ok true) (fun x6 => (atR b5.2.1 x6).bind fun o7 => R.ofO o7) (b5.2.2.map (·.1)) []).calm).bind fun x8 => catR x8 ([x3])).bind fun (steps9 : (List Int)) =>
 ((((sortR PyData.int ltI steps9).bind fun x10 => R.ok x10).bind fun a12 => ((sortKR b5.2.2).bind fun x11 => R.ok x11).bind fun a14 => R.ok (a12, a14)).bind fun o16 => R.ok (some ((o16.1, o16.2)))).bind fun r => R.ok (.rt r)
 else R.ok (.nx b5.2.1)
set_option maxHeartbeats 1000000 in
theorem tq_why_none1 (free : (List (List Int))) (x3 : Int) (s4 : ((List (Option Int)))) : TS [.dat ((eL (eL PyData.int)) free), .own (.lst (s4.map (eO PyData.int))), .any, .dat (PyData.int x3), .any, .any] b_why_none1 (q_why_none1 free x3 s4) (pMx (fun s18 : ((List (Option Int))) => [.dat ((eL (eL PyData.int)) free), .own (.lst (s18.map (eO PyData.int))), .any, .any, .any, .any]) (fun v : (Option ((List Int) × (List Int))) => isD ((eO (eP2 (eT PyData.int) (eT PyData.int))) v)) (fun v : (Option ((List Int) × (List Int))) => [])) :=
 ts_cv (ts_seq (ts_setS 4 (tm_of (tv_newK (k := kI) PyData.bool)))
 (fun _ => (ts_if (b := fun (b5 : (Bool × (List (Option Int)) × (List (Int × Bool)))) => (!b5.1)) (tb_not (tb_tst (te_callO (mv := [none, some 1, none, some 4]) (t_mated 10 free s4 x3 (([] : (List (Int × Bool))))) (tr_v (tv_var 0 rfl) (tr_own 1 rfl rfl (tr_v (tv_var 3 rfl) (tr_own 4 rfl rfl (tr_of ta_nil) (fun _ => rfl) (fun _ => rfl))) (fun _ => rfl) (fun _ => rfl)))))) (fun b5 => (ts_wk0 (Wc.keep (Wc.keep (Wc.any (Wc.keep (Wc.frz rfl (Wc.any Wc.nil)))))) (ts_seq (ts_setD 5 (te_f (te_ev (te_f (tm_compK 4 (Γ := [.dat ((eL (eL PyData.int)) free), .own (.lst (b5.2.1.map (eO PyData.int))), .any, .dat (PyData.int x3), .dat ((eK kI PyData.bool) b5.2.2), .any]) (Γk := fun x6 => [.dat ((eL (eL PyData.int)) free), .own (.lst (b5.2.1.map (eO PyData.int))), .dat (PyData.int x6), .dat (PyData.int x3), .dat ((eK kI PyData.bool) b5.2.2), .any]) (k := kI) (e := PyData.bool) (xs := b5.2.2) PyData.int rfl rfl (fun x6 => (tk_name 2 _)) (fun x6 => (tm_val (c := isB) (v := true) (fun ρ r => ⟨_, ρ, rfl, rfl, r⟩))) (fun x6 => (te_as (q_ixO 1 (eO PyData.int) b5.2.1 rfl (tv_var 2 rfl)) (fun o7 => as_some PyData.int o7))) (fun _ _ h => h) (fun _ => rfl)) (fun _ => rfl)) (fun x8 => (tv_f (tv_lst (ta_cons (tv_var 3 rfl) ta_nil) (sz_lit rfl)) rfl)) (fun x8 => (o_catL (e := PyData.int) x8 ([x3])))) (fun _ => rfl)))
 (fun steps9 => (ts_mxR (ts_ret (c := fun v : (Option ((List Int) × (List Int))) => isD ((eO (eP2 (eT PyData.int) (eT PyData.int))) v)) (Δr := fun v : (Option ((List Int) × (List Int))) => []) (tm_pack (fun (o16 : ((List Int) × (List Int))) => some ((o16.1, o16.2))) (Δ' := fun _ => _) (c' := fun v => isD ((eO (eP2 (eT PyData.int) (eT PyData.int))) v)) (te_tup (ta_eeA (Δa := fun (a12 : (List Int)) => [.dat ((eL (eL PyData.int)) free), .own (.lst (b5.2.1.map (eO PyData.int))), .any, .dat (PyData.int x3), .dat ((eK kI PyData.bool) b5.2.2), .dat ((eL PyData.int) steps9)]) (Δr := fun (a12 : (List Int)) (a14 : (List Int)) => [.dat ((eL (eL PyData.int)) free), .own (.lst (b5.2.1.map (eO PyData.int))), .any, .dat (PyData.int x3), .dat ((eK kI PyData.bool) b5.2.2), .dat ((eL PyData.int) steps9)]) (d := (fun (a12 : (List Int)) => (eT PyData.int) a12)) (ds := (fun (a12 : (List Int)) (a14 : (List Int)) => [(eT PyData.int) a14])) (ds' := fun (z15 : (List Int) × (List Int)) => [(eT PyData.int) z15.1, (eT PyData.int) z15.2]) (Δ := fun (z15 : (List Int) × (List Int)) => [.dat ((eL (eL PyData.int)) free), .own (.lst (b5.2.1.map (eO PyData.int))), .any, .dat (PyData.int x3), .dat ((eK kI PyData.bool) b5.2.2), .dat ((eL PyData.int) steps9)]) (te_ue (te_f (te_cbV (ta_cons (tv_var 5 rfl) ta_nil) (o_sorted od_int steps9)) (fun _ => rfl)) (fun x10 => (opF_D (eT PyData.int) x10 (o_tupL (e := PyData.int) x10)))) (fun a12 => (ta_ev (d := (fun (a13 : (List Int)) => (eT PyData.int) a13)) (ds := (fun (a13 : (List Int)) => [])) (te_ue (te_f (te_cbV (ta_cons (tv_var 4 rfl) ta_nil) (o_sortK PyData.bool b5.2.2)) (fun _ => rfl)) (fun x11 => (opF_D (eT PyData.int) x11 (o_tupL (e := PyData.int) x11)))) (fun a13 => ta_nil))) (fun _ _ => rfl) (fun _ _ => (Wc.keep (Wc.keep (Wc.any (Wc.keep (Wc.keep (Wc.keep Wc.nil)))))))) (fun _ => (sz_lit rfl))) (fun _ _ h => h) (fun _ => Wc.refl _)) (fun _ => Wc.nil)))))))
 (fun b5 => (ts_mxN (ts_end (fun _ : Unit => b5.2.1) ts_nop (fun _ => (Wc.keep (Wc.keep (Wc.any (Wc.any (Wc.any (Wc.any Wc.nil))))))))))))) rfl
noncomputable def p_why_none (free : (List (List Int))) : R (Option ((List Int) × (List Int))) :=
 (compR (fun x1 => R.ok true) (fun x1 => R.ok none) free []).bind fun (mates2 : (List (Option Int))) =>
 ((rg1 ((free.length : Int))).bind fun z20 => loopR (q_why_none1 free) z20 mates2).bind fun o => o.go (fun (s19 : ((List (Option Int)))) => R.ok none) R.ok
set_option maxHeartbeats 1000000 in
theorem t_why_none (free : (List (List Int))) : TF m_why_none [.dat ((eL (eL PyData.int)) free)] (p_why_none free) (fun v : (Option ((List Int) × (List Int))) => isD ((eO (eP2 (eT PyData.int) (eT PyData.int))) v)) (fun v : (Option ((List Int) × (List Int))) => []) :=
 tf_cv (tf_mk (ts_seq (ts_setS 1 (tm_comp (Γ := [.dat ((eL (eL PyData.int)) free), .any, .any, .any, .any, .any]) (Γk := fun x1 => [.dat ((eL (eL PyData.int)) free), .any, .dat ((eL PyData.int) x1), .any, .any, .any]) (e := (eL PyData.int)) (eO PyData.int) (xs := fun _ : Unit => free) (tm_of (ti_seqV (tv_var 0 rfl) rfl)) rfl (fun x1 => (tk_name 2 _)) (fun x1 => (tm_val (c := isB) (v := true) (fun ρ r => ⟨_, ρ, rfl, rfl, r⟩))) (fun x1 => (tm_val (c := fun (z : (Option Int)) => isD ((eO PyData.int) z)) (v := none) (tv_c _))) (fun _ _ h => h) (fun _ => rfl)))
 (fun mates2 => (ts_seqR (ts_forM (xs := fun (z20 : (List Int)) => z20) (e := PyData.int) (Inv := (fun s4 : ((List (Option Int))) => [.dat ((eL (eL PyData.int)) free), .own (.lst (s4.map (eO PyData.int))), .any, .any, .any, .any])) (fun (z20 : (List Int)) => (mates2 : ((List (Option Int))))) (ti_rg1V (ta_cons (tv_cbD (ta_cons (tv_var 0 rfl) ta_nil) (o_lenL (e := (eL PyData.int)) free)) ta_nil)) (fun z20 => (Wc.keep (Wc.keep (Wc.any (Wc.any (Wc.any (Wc.any Wc.nil))))))) (fun x3 s4 => (tk_name 3 _)) (fun x3 s4 => tq_why_none1 free x3 s4)) (fun s19 => (ts_retV (c := fun v : (Option ((List Int) × (List Int))) => isD ((eO (eP2 (eT PyData.int) (eT PyData.int))) v)) (Δr := fun v : (Option ((List Int) × (List Int))) => []) none (tv_c _) Wc.nil))))) (fun _ => rfl)) rfl
noncomputable def p_first_beside (table : (List (List Int))) (bars : (Option (List (Int × Int)))) : R Fx.D :=
 ((p_free_spots table bars).bind fun w2 => p_why_none w2).bind fun (why3 : (Option ((List Int) × (List Int)))) =>
 if why3.isSome = true then (((R.ofO why3).bind fun x5 => R.ok x5.1).bind fun a7 => ((R.ofO why3).bind fun x6 => R.ok x6.2).bind fun a9 => R.ok (a7, a9)).bind fun r11 => R.ok ((eP3 PyData.str (eT PyData.int) (eT PyData.int)) ((("bars" : Str), r11.1, r11.2)))
 else (p_order_at table 0 bars).bind fun r13 => R.ok ((eP2 PyData.str (eT PyData.int)) ((("order" : Str), r13)))
set_option maxHeartbeats 1000000 in
theorem t_first_beside (table : (List (List Int))) (bars : (Option (List (Int × Int)))) : TF m_first_beside [.dat ((eT (eT PyData.int)) table), .dat ((eO (eT (eP2 PyData.int PyData.int))) bars)] (p_first_beside table bars) (fun v : Fx.D => isD ((fun z : Fx.D => z) v)) (fun v : Fx.D => []) :=
 tf_cv (tf_mk (ts_seq (ts_setD 2 (te_callE (fun w2 => t_why_none w2) (ta_ev (d := (fun (a1 : (List (List Int))) => (eL (eL PyData.int)) a1)) (ds := (fun (a1 : (List (List Int))) => [])) (te_f (te_callV (t_free_spots table bars) (ta_cons (tv_var 0 rfl) (ta_cons (tv_var 1 rfl) ta_nil)) rfl rfl) (fun _ => rfl)) (fun a1 => ta_nil)) (fun _ => rfl) rfl))
 (fun why3 => (ts_ifR (b := fun (_ : Unit) => why3.isSome) (tm_of (tb_tstV (tv_binD (tv_var 2 rfl) (tv_c _) (o_notN nn_P2 why3)))) (fun _ => (ts_retP (c := fun v : Fx.D => isD ((fun z : Fx.D => z) v)) (Δr := fun v : Fx.D => []) (fun (r11 : ((List Int) × (List Int))) => ((eP3 PyData.str (eT PyData.int) (eT PyData.int)) ((("bars" : Str), r11.1, r11.2)))) (te_tup (ta_veA (d := PyData.str (("bars" : Str))) (ds := (fun (z : ((List Int) × (List Int))) => [(eT PyData.int) z.1, (eT PyData.int) z.2])) (tv_c _) (ta_eeA (Δa := fun (a7 : (List Int)) => [.dat ((eT (eT PyData.int)) table), .dat ((eO (eT (eP2 PyData.int PyData.int))) bars), .dat ((eO (eP2 (eT PyData.int) (eT PyData.int))) why3)]) (Δr := fun (a7 : (List Int)) (a9 : (List Int)) => [.dat ((eT (eT PyData.int)) table), .dat ((eO (eT (eP2 PyData.int PyData.int))) bars), .dat ((eO (eP2 (eT PyData.int) (eT PyData.int))) why3)]) (d := (fun (a7 : (List Int)) => (eT PyData.int) a7)) (ds := (fun (a7 : (List Int)) (a9 : (List Int)) => [(eT PyData.int) a9])) (ds' := fun (z10 : (List Int) × (List Int)) => [(eT PyData.int) z10.1, (eT PyData.int) z10.2]) (Δ := fun (z10 : (List Int) × (List Int)) => [.dat ((eT (eT PyData.int)) table), .dat ((eO (eT (eP2 PyData.int PyData.int))) bars), .dat ((eO (eP2 (eT PyData.int) (eT PyData.int))) why3)]) (te_ev (te_asV (tv_var 2 rfl) (as_some (eP2 (eT PyData.int) (eT PyData.int)) why3)) (fun x5 => (tv_c _)) (fun x5 => (opF_D (eT PyData.int) x5.1 (o_ix0 _ _)))) (fun a7 => (ta_ev (d := (fun (a8 : (List Int)) => (eT PyData.int) a8)) (ds := (fun (a8 : (List Int)) => [])) (te_ev (te_asV (tv_var 2 rfl) (as_some (eP2 (eT PyData.int) (eT PyData.int)) why3)) (fun x6 => (tv_c _)) (fun x6 => (opF_D (eT PyData.int) x6.2 (o_ix1 _ _ _)))) (fun a8 => ta_nil))) (fun _ _ => rfl) (fun _ _ => (Wc.keep (Wc.keep (Wc.keep Wc.nil)))))) (fun _ => (sz_lit rfl))) (fun _ _ h => h) (fun _ => Wc.nil)))
 (fun _ => (ts_retP (c := fun v : Fx.D => isD ((fun z : Fx.D => z) v)) (Δr := fun v : Fx.D => []) (fun (r13 : (List Int)) => ((eP2 PyData.str (eT PyData.int)) ((("order" : Str), r13)))) (te_tup (ta_veA (d := PyData.str (("order" : Str))) (ds := (fun (z : (List Int)) => [(eT PyData.int) z])) (tv_c _) (ta_ev (d := (fun (a12 : (List Int)) => (eT PyData.int) a12)) (ds := (fun (a12 : (List Int)) => [])) (te_callV (t_order_at table 0 bars) (ta_cons (tv_var 0 rfl) (ta_cons (tv_c _) (ta_cons (tv_var 1 rfl) ta_nil))) rfl rfl) (fun a12 => ta_nil))) (fun _ => (sz_lit rfl))) (fun _ _ h => h) (fun _ => Wc.nil)))))) (fun _ => rfl)) rfl
noncomputable def q_bars_so1 (table : (List (List Int))) (steps : (List Int)) (spots : (List Int)) (bars : (Option (List (Int × Int)))) (many : Int) (x4 : (List Int)) (s5 : Unit) : R (Out Unit Bool) :=
 ((compR (fun x6 => R.ok true) (fun x6 => p_is_within x6 0 ((many - 1))) x4 []).bind fun x8 => R.ok ((x8.all id))).bind fun b9 => if (!b9) = true then (R.ok false).bind (fun r => R.ok (.rt r))
 else (((rg2 1 ((x4.length : Int))).bind fun z13 => compR (fun x10 => R.ok true) (fun x10 => (atR x4 ((x10 - 1))).bind fun x11 => (atR x4 x10).bind fun y12 => R.ok ((decide (x11 < y12)))) z13 []).bind fun x15 => R.ok ((x15.all id))).bind fun b16 => if (!b16) = true then R.ok (.rt false)
 else R.ok (.nx ())
set_option maxHeartbeats 1000000 in
theorem tq_bars_so1 (table : (List (List Int))) (steps : (List Int)) (spots : (List Int)) (bars : (Option (List (Int × Int)))) (many : Int) (x4 : (List Int)) (s5 : Unit) : TS [.dat ((eT (eT PyData.int)) table), .dat ((eT PyData.int) steps), .dat ((eT PyData.int) spots), .dat ((eO (eT (eP2 PyData.int PyData.int))) bars), .dat (PyData.int many), .dat ((eT PyData.int) x4), .any, .any, .any, .any, .any] b_bars_so1 (q_bars_so1 table steps spots bars many x4 s5) (pMx (fun s17 : Unit => [.dat ((eT (eT PyData.int)) table), .dat ((eT PyData.int) steps), .dat ((eT PyData.int) spots), .dat ((eO (eT (eP2 PyData.int PyData.int))) bars), .dat (PyData.int many), .any, .any, .any, .any, .any, .any]) (fun v : Bool => isD (PyData.bool v)) (fun v : Bool => [])) :=
 ts_cv (ts_ifM (b := fun (b9 : Bool) => (!b9)) (tb_not (tb_tst (te_cb (ta_ev (d := (fun (a7 : (List Bool)) => (eL PyData.bool) a7)) (ds := (fun (a7 : (List Bool)) => [])) (te_f (tm_comp (Γ := [.dat ((eT (eT PyData.int)) table), .dat ((eT PyData.int) steps), .dat ((eT PyData.int) spots), .dat ((eO (eT (eP2 PyData.int PyData.int))) bars), .dat (PyData.int many), .dat ((eT PyData.int) x4), .any, .any, .any, .any, .any]) (Γk := fun x6 => [.dat ((eT (eT PyData.int)) table), .dat ((eT PyData.int) steps), .dat ((eT PyData.int) spots), .dat ((eO (eT (eP2 PyData.int PyData.int))) bars), .dat (PyData.int many), .dat ((eT PyData.int) x4), .dat (PyData.int x6), .any, .any, .any, .any]) (e := PyData.int) PyData.bool (xs := fun _ : Unit => x4) (tm_of (ti_seqV (tv_var 5 rfl) rfl)) rfl (fun x6 => (tk_name 6 _)) (fun x6 => (tm_val (c := isB) (v := true) (fun ρ r => ⟨_, ρ, rfl, rfl, r⟩))) (fun x6 => (te_callV (t_is_within x6 0 ((many - 1))) (ta_cons (tv_var 6 rfl) (ta_cons (tv_c _) (ta_cons (tv_binD (tv_var 4 rfl) (tv_c _) (o_sub many 1)) ta_nil))) rfl rfl)) (fun _ _ h => h) (fun _ => rfl)) (fun _ => rfl)) (fun a7 => ta_nil)) (fun x8 => (opF_D PyData.bool ((x8.all id)) (o_all x8)))))) (fun b9 => (ts_retV (c := fun v : Bool => isD (PyData.bool v)) (Δr := fun v : Bool => []) false (tv_c _) Wc.nil))
 (fun b9 => (ts_if (b := fun (b16 : Bool) => (!b16)) (tb_not (tb_tst (te_cb (ta_ev (d := (fun (a14 : (List Bool)) => (eL PyData.bool) a14)) (ds := (fun (a14 : (List Bool)) => [])) (te_f (tm_comp (Γ := [.dat ((eT (eT PyData.int)) table), .dat ((eT PyData.int) steps), .dat ((eT PyData.int) spots), .dat ((eO (eT (eP2 PyData.int PyData.int))) bars), .dat (PyData.int many), .dat ((eT PyData.int) x4), .any, .any, .any, .any, .any]) (Γk := fun x10 => [.dat ((eT (eT PyData.int)) table), .dat ((eT PyData.int) steps), .dat ((eT PyData.int) spots), .dat ((eO (eT (eP2 PyData.int PyData.int))) bars), .dat (PyData.int many), .dat ((eT PyData.int) x4), .any, .dat (PyData.int x10), .any, .any, .any]) (e := PyData.int) PyData.bool (xs := fun (z13 : (List Int)) => z13) (ti_rg2V (ta_cons (tv_c _) (ta_cons (tv_cbD (ta_cons (tv_var 5 rfl) ta_nil) (o_lenT (e := PyData.int) x4)) ta_nil))) rfl (fun x10 => (tk_name 7 _)) (fun x10 => (tm_val (c := isB) (v := true) (fun ρ r => ⟨_, ρ, rfl, rfl, r⟩))) (fun x10 => (te_ee (te_vv (tv_var 5 rfl) (tv_binD (tv_var 7 rfl) (tv_c _) (o_sub x10 1)) (q_ixT PyData.int x4 ((x10 - 1)))) (fun x11 => (te_vv (tv_var 5 rfl) (tv_var 7 rfl) (q_ixT PyData.int x4 x10))) (fun x11 y12 => (opF_D PyData.bool ((decide (x11 < y12))) (o_lt x11 y12))))) (fun _ _ h => h) (fun _ => rfl)) (fun _ => rfl)) (fun a14 => ta_nil)) (fun x15 => (opF_D PyData.bool ((x15.all id)) (o_all x15)))))) (fun b16 => (ts_mxR (ts_retV (c := fun v : Bool => isD (PyData.bool v)) (Δr := fun v : Bool => []) false (tv_c _) Wc.nil)))
 (fun b16 => (ts_mxN (ts_end (fun _ : Unit => ()) ts_nop (fun _ => (Wc.keep (Wc.keep (Wc.keep (Wc.keep (Wc.keep (Wc.any (Wc.any (Wc.any (Wc.any (Wc.any (Wc.any Wc.nil)))))))))))))))))) rfl
noncomputable def p_bars_so (table : (List (List Int))) (steps : (List Int)) (spots : (List Int)) (bars : (Option (List (Int × Int)))) : R Bool :=
 ((atR table 0).bind fun x2 => R.ok ((x2.length : Int))).bind fun (many3 : Int) =>
 (loopR (q_bars_so1 table steps spots bars many3) ([((steps, spots)).1, ((steps, spots)).2]) (())).bind fun o => o.go (fun (s18 : Unit) => if (decide ((steps.length : Int) ≤ (spots.length : Int))) = true then R.ok false
 else (p_free_spots table bars).bind fun (free21 : (List (List Int))) =>
 (compR (fun x22 => ((atR free21 x22).bind fun z24 => compR (fun x23 => R.ok ((!decide (x23 ∈ spots)))) (fun x23 => R.ok x23) z24 []).bind fun x25 => R.ok ((!decide (x25 = ([] : (List Int)))))) (fun x22 => R.ok x22) steps []).bind fun x26 => R.ok ((decide (x26 = ([] : (List Int)))))) R.ok
set_option maxHeartbeats 1000000 in
theorem t_bars_so (table : (List (List Int))) (steps : (List Int)) (spots : (List Int)) (bars : (Option (List (Int × Int)))) : TF m_bars_so [.dat ((eT (eT PyData.int)) table), .dat ((eT PyData.int) steps), .dat ((eT PyData.int) spots), .dat ((eO (eT (eP2 PyData.int PyData.int))) bars)] (p_bars_so table steps spots bars) (fun v : Bool => isD (PyData.bool v)) (fun v : Bool => []) :=
 tf_cv (tf_mk (ts_seq (ts_setD 4 (te_cb (ta_ev (d := (fun (a1 : (List Int)) => (eT PyData.int) a1)) (ds := (fun (a1 : (List Int)) => [])) (te_vv (tv_var 0 rfl) (tv_c _) (q_ixT (eT PyData.int) table 0)) (fun a1 => ta_nil)) (fun x2 => (opF_D PyData.int ((x2.length : Int)) (o_lenT (e := PyData.int) x2)))))
 (fun many3 => (ts_seqR (ts_forM (xs := fun _ : Unit => [((steps, spots)).1, ((steps, spots)).2]) (e := (eT PyData.int)) (Inv := (fun s5 : Unit => [.dat ((eT (eT PyData.int)) table), .dat ((eT PyData.int) steps), .dat ((eT PyData.int) spots), .dat ((eO (eT (eP2 PyData.int PyData.int))) bars), .dat (PyData.int many3), .any, .any, .any, .any, .any, .any])) (fun _ : Unit => (() : Unit)) (tm_of (ti_seqV (tv_tup (ta_cons (tv_var 1 rfl) (ta_cons (tv_var 2 rfl) ta_nil)) (sz_lit rfl)) rfl)) (fun _ => (Wc.keep (Wc.keep (Wc.keep (Wc.keep (Wc.keep (Wc.any (Wc.any (Wc.any (Wc.any (Wc.any (Wc.any Wc.nil)))))))))))) (fun x4 s5 => (tk_name 5 _)) (fun x4 s5 => tq_bars_so1 table steps spots bars many3 x4 s5)) (fun s18 => (ts_ifR (b := fun (_ : Unit) => (decide ((steps.length : Int) ≤ (spots.length : Int)))) (tm_of (tb_tstV (tv_binD (tv_cbD (ta_cons (tv_var 2 rfl) ta_nil) (o_lenT (e := PyData.int) spots)) (tv_cbD (ta_cons (tv_var 1 rfl) ta_nil) (o_lenT (e := PyData.int) steps)) (o_ge ((spots.length : Int)) ((steps.length : Int)))))) (fun _ => (ts_retV (c := fun v : Bool => isD (PyData.bool v)) (Δr := fun v : Bool => []) false (tv_c _) Wc.nil))
 (fun _ => (ts_seq (ts_setD 8 (te_f (te_callV (t_free_spots table bars) (ta_cons (tv_var 0 rfl) (ta_cons (tv_var 3 rfl) ta_nil)) rfl rfl) (fun _ => rfl)))
 (fun free21 => (ts_ret (c := fun v : Bool => isD (PyData.bool v)) (Δr := fun v : Bool => []) (te_ev (te_f (tm_comp (Γ := [.dat ((eT (eT PyData.int)) table), .dat ((eT PyData.int) steps), .dat ((eT PyData.int) spots), .dat ((eO (eT (eP2 PyData.int PyData.int))) bars), .dat (PyData.int many3), .any, .any, .any, .dat ((eL (eL PyData.int)) free21), .any, .any]) (Γk := fun x22 => [.dat ((eT (eT PyData.int)) table), .dat ((eT PyData.int) steps), .dat ((eT PyData.int) spots), .dat ((eO (eT (eP2 PyData.int PyData.int))) bars), .dat (PyData.int many3), .any, .any, .any, .dat ((eL (eL PyData.int)) free21), .dat (PyData.int x22), .any]) (e := PyData.int) PyData.int (xs := fun _ : Unit => steps) (tm_of (ti_seqV (tv_var 1 rfl) rfl)) rfl (fun x22 => (tk_name 9 _)) (fun x22 => (tb_tst (te_ev (te_f (tm_comp (Γ := [.dat ((eT (eT PyData.int)) table), .dat ((eT PyData.int) steps), .dat ((eT PyData.int) spots), .dat ((eO (eT (eP2 PyData.int PyData.int))) bars), .dat (PyData.int many3), .any, .any, .any, .dat ((eL (eL PyData.int)) free21), .dat (PyData.int x22), .any]) (Γk := fun x23 => [.dat ((eT (eT PyData.int)) table), .dat ((eT PyData.int) steps), .dat ((eT PyData.int) spots), .dat ((eO (eT (eP2 PyData.int PyData.int))) bars), .dat (PyData.int many3), .any, .any, .any, .dat ((eL (eL PyData.int)) free21), .dat (PyData.int x22), .dat (PyData.int x23)]) (e := PyData.int) PyData.int (xs := fun (z24 : (List Int)) => z24) (ti_seq (te_vv (tv_var 8 rfl) (tv_var 9 rfl) (q_ixL (eL PyData.int) free21 x22)) (fun _ => rfl)) rfl (fun x23 => (tk_name 10 _)) (fun x23 => (tm_val (c := isB) (v := (!decide (x23 ∈ spots))) (tb_tstV (tv_binD (tv_var 10 rfl) (tv_var 2 rfl) (o_ninT ec_int x23 spots))))) (fun x23 => (tm_val (c := fun (z : Int) => isD (PyData.int z)) (v := x23) (tv_var 10 rfl))) (fun _ _ h => h) (fun _ => rfl)) (fun _ => rfl)) (fun x25 => (tv_f (tv_lst ta_nil (sz_lit rfl)) rfl)) (fun x25 => (opF_D PyData.bool ((!decide (x25 = ([] : (List Int))))) (o_ne (ec_L ec_int) x25 (([] : (List Int))))))))) (fun x22 => (tm_val (c := fun (z : Int) => isD (PyData.int z)) (v := x22) (tv_var 9 rfl))) (fun _ _ h => h) (fun _ => rfl)) (fun _ => rfl)) (fun x26 => (tv_f (tv_lst ta_nil (sz_lit rfl)) rfl)) (fun x26 => (opF_D PyData.bool ((decide (x26 = ([] : (List Int))))) (o_eq (ec_L ec_int) x26 (([] : (List Int))))))) (fun _ => Wc.nil)))))))))) (fun _ => rfl)) rfl
noncomputable def p_l_draw (tape : ((List Int) × Int × Int)) (many : Int) : R (Int × ((List Int) × Int × Int)) :=
 (if (decide (tape.2.2 < many)) = true then (if (decide (0 < (tape.1.length : Int))) = true then ((modR tape.2.1 ((tape.1.length : Int))).bind fun x3 => atR tape.1 x3).bind fun (cell4 : Int) => R.ok cell4
 else R.ok 0).bind fun (s5 : (Int)) =>
 ((if (decide ((tape.1.length : Int) ≤ tape.2.1)) = true then R.ok true else (powR 10 18).bind fun x7 => R.ok ((decide (s5 < x7)))).bind fun b9 => if b9 = true then (((mulR 1000003 tape.2.1).bind fun x10 => R.ok ((s5 + x10))).bind fun x11 => modR x11 2305843009213693951).bind fun (cell12 : Int) =>
 ((((mulR cell12 cell12).bind fun x13 => (mulR 1181783497276652981 cell12).bind fun y14 => R.ok ((x13 + y14))).bind fun x15 => R.ok ((x15 + 2049848353892358983))).bind fun x16 => modR x16 2305843009213693951).bind fun (cell17 : Int) =>
 (((mulR cell17 cell17).bind fun x18 => R.ok ((x18 + 1442695040888963407))).bind fun x19 => modR x19 2305843009213693951).bind fun (cell20 : Int) => R.ok cell20
 else R.ok s5).bind fun (s21 : (Int)) =>
 R.ok (((tape.1, (tape.2.1 + 1), tape.2.2)).1, ((tape.1, (tape.2.1 + 1), tape.2.2)).2.1, s21)
 else R.ok tape).bind fun (s25 : (((List Int) × Int × Int))) =>
 (modR s25.2.2 many).bind fun (found27 : Int) =>
 (divR s25.2.2 many).bind fun (x28 : Int) =>
 R.ok (found27, (s25.1, s25.2.1, x28))
set_option maxHeartbeats 1000000 in
theorem t_l_draw (tape : ((List Int) × Int × Int)) (many : Int) : TF m_l_draw [.own (.lst [(eL PyData.int) tape.1, PyData.int tape.2.1, PyData.int tape.2.2]), .dat (PyData.int many)] (p_l_draw tape many) (fun v : (Int × ((List Int) × Int × Int)) => isD (PyData.int v.1)) (fun v : (Int × ((List Int) × Int × Int)) => [.own (.lst [(eL PyData.int) v.2.1, PyData.int v.2.2.1, PyData.int v.2.2.2])]) :=
 tf_cv (tf_mk (ts_seq (ts_setD 2 (tm_of (tv_c _)))
 (fun _ => (ts_seq (ts_if (post := pNx (fun s26 : (((List Int) × Int × Int)) => [.own (.lst [(eL PyData.int) s26.1, PyData.int s26.2.1, PyData.int s26.2.2]), .dat (PyData.int many), .any, .any, .any])) (b := fun (_ : Unit) => (decide (tape.2.2 < many))) (tm_of (tb_tstV (tv_binD (tv_ixO 0 rfl (tv_c _) (a_ix2 _ _ _ _)) (tv_var 1 rfl) (o_lt tape.2.2 many)))) (fun _ => (ts_seq (ts_setD 3 (tm_of (tv_c _)))
 (fun _ => (ts_seq (ts_if (post := pNx (fun s6 : (Int) => [.own (.lst [(eL PyData.int) tape.1, PyData.int tape.2.1, PyData.int tape.2.2]), .dat (PyData.int many), .dat (PyData.int 2305843009213693951), .dat (PyData.int s6), .any])) (b := fun (_ : Unit) => (decide (0 < (tape.1.length : Int)))) (tm_of (tb_tstV (tv_binD (tv_cbD (ta_cons (tv_ixO 0 rfl (tv_c _) (a_ix0 _ _)) ta_nil) (o_lenL (e := PyData.int) tape.1)) (tv_c _) (o_gt ((tape.1.length : Int)) 0)))) (fun _ => (ts_end (fun (cell4 : Int) => cell4) (ts_setD 3 (te_ve (tv_ixO 0 rfl (tv_c _) (a_ix0 _ _)) (te_vv (tv_ixO 0 rfl (tv_c _) (a_ix1 _ _ _)) (tv_cbD (ta_cons (tv_ixO 0 rfl (tv_c _) (a_ix0 _ _)) ta_nil) (o_lenL (e := PyData.int) tape.1)) (o_mod tape.2.1 ((tape.1.length : Int)))) (fun x3 => (q_ixL PyData.int tape.1 x3)))) (fun cell4 => (Wc.keep (Wc.keep (Wc.keep (Wc.keep (Wc.any Wc.nil))))))))
 (fun _ => (ts_end (fun _ : Unit => 0) ts_nop (fun _ => (Wc.keep (Wc.keep (Wc.keep (Wc.keep (Wc.any Wc.nil)))))))))
 (fun s5 => (ts_seq (ts_if (post := pNx (fun s22 : (Int) => [.own (.lst [(eL PyData.int) tape.1, PyData.int tape.2.1, PyData.int tape.2.2]), .dat (PyData.int many), .any, .dat (PyData.int s22), .any])) (b := fun (b9 : Bool) => b9) (tb_or (tm_val (c := isB) (v := (decide ((tape.1.length : Int) ≤ tape.2.1))) (tb_tstV (tv_binD (tv_ixO 0 rfl (tv_c _) (a_ix1 _ _ _)) (tv_cbD (ta_cons (tv_ixO 0 rfl (tv_c _) (a_ix0 _ _)) ta_nil) (o_lenL (e := PyData.int) tape.1)) (o_ge tape.2.1 ((tape.1.length : Int)))))) (tb_tst (te_ve (tv_var 3 rfl) (te_vv (tv_c _) (tv_c _) (o_pow 10 18)) (fun x7 => (opF_D PyData.bool ((decide (s5 < x7))) (o_lt s5 x7)))))) (fun b9 => (ts_seq (ts_setD 3 (te_ev (te_ve (tv_var 3 rfl) (te_vv (tv_c _) (tv_ixO 0 rfl (tv_c _) (a_ix1 _ _ _)) (o_mul 1000003 tape.2.1)) (fun x10 => (opF_D PyData.int ((s5 + x10)) (o_add s5 x10)))) (fun x11 => (tv_var 2 rfl)) (fun x11 => (o_mod x11 2305843009213693951))))
 (fun cell12 => (ts_seq (ts_setD 3 (te_ev (te_ev (te_ee (te_vv (tv_var 3 rfl) (tv_var 3 rfl) (o_mul cell12 cell12)) (fun x13 => (te_vv (tv_c _) (tv_var 3 rfl) (o_mul 1181783497276652981 cell12))) (fun x13 y14 => (opF_D PyData.int ((x13 + y14)) (o_add x13 y14)))) (fun x15 => (tv_c _)) (fun x15 => (opF_D PyData.int ((x15 + 2049848353892358983)) (o_add x15 2049848353892358983)))) (fun x16 => (tv_var 2 rfl)) (fun x16 => (o_mod x16 2305843009213693951))))
 (fun cell17 => (ts_end (fun (cell20 : Int) => cell20) (ts_setD 3 (te_ev (te_ev (te_vv (tv_var 3 rfl) (tv_var 3 rfl) (o_mul cell17 cell17)) (fun x18 => (tv_c _)) (fun x18 => (opF_D PyData.int ((x18 + 1442695040888963407)) (o_add x18 1442695040888963407)))) (fun x19 => (tv_var 2 rfl)) (fun x19 => (o_mod x19 2305843009213693951)))) (fun cell20 => (Wc.keep (Wc.keep (Wc.any (Wc.keep (Wc.any Wc.nil))))))))))))
 (fun b9 => (ts_end (fun _ : Unit => s5) ts_nop (fun _ => (Wc.keep (Wc.keep (Wc.any (Wc.keep (Wc.any Wc.nil)))))))))
 (fun s21 => (ts_seq (ts_setFx (ds := fun (_ : Unit) => [(eL PyData.int) tape.1, PyData.int tape.2.1, PyData.int tape.2.2]) (es := fun (_ : Unit) => [(eL PyData.int) tape.1, PyData.int ((tape.2.1 + 1)), PyData.int tape.2.2]) 0 (tm_of (tv_binD (tv_ixO 0 rfl (tv_c _) (a_ix1 _ _ _)) (tv_c _) (o_add tape.2.1 1))) (fun _ => rfl) (fun _ => tv_c _) (j := 1) (fun _ => rfl) (fun _ => rfl))
 (fun _ => (ts_end (fun (_ : Unit) => (((tape.1, (tape.2.1 + 1), tape.2.2)).1, ((tape.1, (tape.2.1 + 1), tape.2.2)).2.1, s21)) (ts_setFx (ds := fun (_ : Unit) => [(eL PyData.int) (((tape.1, (tape.2.1 + 1), tape.2.2)).1), PyData.int (((tape.1, (tape.2.1 + 1), tape.2.2)).2.1), PyData.int (((tape.1, (tape.2.1 + 1), tape.2.2)).2.2)]) (es := fun (_ : Unit) => [(eL PyData.int) (((tape.1, (tape.2.1 + 1), tape.2.2)).1), PyData.int (((tape.1, (tape.2.1 + 1), tape.2.2)).2.1), PyData.int s21]) 0 (tm_of (tv_var 3 rfl)) (fun _ => rfl) (fun _ => tv_c _) (j := 2) (fun _ => rfl) (fun _ => rfl)) (fun _ => (Wc.keep (Wc.keep (Wc.any (Wc.any (Wc.any Wc.nil))))))))))))))))
 (fun _ => (ts_end (fun _ : Unit => tape) ts_nop (fun _ => (Wc.keep (Wc.keep (Wc.any (Wc.any (Wc.any Wc.nil)))))))))
 (fun s25 => (ts_seq (ts_setD 4 (te_vv (tv_ixO 0 rfl (tv_c _) (a_ix2 _ _ _ _)) (tv_var 1 rfl) (o_mod s25.2.2 many)))
 (fun found27 => (ts_seq (ts_setFx (ds := fun (x28 : Int) => [(eL PyData.int) s25.1, PyData.int s25.2.1, PyData.int s25.2.2]) (es := fun (x28 : Int) => [(eL PyData.int) s25.1, PyData.int s25.2.1, PyData.int x28]) 0 (te_vv (tv_ixO 0 rfl (tv_c _) (a_ix2 _ _ _ _)) (tv_var 1 rfl) (o_div s25.2.2 many)) (fun _ => rfl) (fun _ => tv_c _) (j := 2) (fun _ => rfl) (fun _ => rfl))
 (fun x28 => (ts_retV (c := fun v : (Int × ((List Int) × Int × Int)) => isD (PyData.int v.1)) (Δr := fun v : (Int × ((List Int) × Int × Int)) => [.own (.lst [(eL PyData.int) v.2.1, PyData.int v.2.2.1, PyData.int v.2.2.2])]) (found27, (s25.1, s25.2.1, x28)) (tv_var 4 rfl) (Wc.keep Wc.nil)))))))))) (fun _ => rfl)) rfl
noncomputable def q_l_any_order1 (many : Int) (x1 : Int) (s2 : (((List Int) × Int × Int) × (List Int))) : R (((List Int) × Int × Int) × (List Int)) :=
 ((p_l_draw s2.1 ((x1 + 1))).bind fun x4 => (insR s2.2 x4.1 x1).bind fun v5 => R.ok (v5, x4.2)).bind fun (u7 : ((List Int) × ((List Int) × Int × Int))) => R.ok (u7.2, u7.1)
set_option maxHeartbeats 1000000 in
theorem tq_l_any_order1 (many : Int) (x1 : Int) (s2 : (((List Int) × Int × Int) × (List Int))) : TS [.own (.lst [(eL PyData.int) s2.1.1, PyData.int s2.1.2.1, PyData.int s2.1.2.2]), .dat (PyData.int many), .own (.lst (s2.2.map PyData.int)), .dat (PyData.int x1)] b_l_any_order1 (q_l_any_order1 many x1 s2) (pNx (fun s8 : (((List Int) × Int × Int) × (List Int)) => [.own (.lst [(eL PyData.int) s8.1.1, PyData.int s8.1.2.1, PyData.int s8.1.2.2]), .dat (PyData.int many), .own (.lst (s8.2.map PyData.int)), .any])) :=
 ts_cv (ts_end (fun (u7 : ((List Int) × ((List Int) × Int × Int))) => (u7.2, u7.1)) (ts_drop (te_methE 2 (Δa := fun (x4 : (Int × ((List Int) × Int × Int))) => [.own (.lst [(eL PyData.int) x4.2.1, PyData.int x4.2.2.1, PyData.int x4.2.2.2]), .dat (PyData.int many), .own (.lst (s2.2.map PyData.int)), .dat (PyData.int x1)]) (ds := (fun (x4 : (Int × ((List Int) × Int × Int))) => [PyData.int x4.1, PyData.int x1])) (c := fun _ => isD .none) (Δ := fun (w6 : ((List Int) × ((List Int) × Int × Int))) => [.own (.lst [(eL PyData.int) w6.2.1, PyData.int w6.2.2.1, PyData.int w6.2.2.2]), .dat (PyData.int many), .own (.lst (w6.1.map PyData.int)), .dat (PyData.int x1)]) (fun (x4 : (Int × ((List Int) × Int × Int))) (v5 : (List Int)) => (v5, x4.2)) rfl rfl (ta_ev (d := (fun (a3 : (Int × ((List Int) × Int × Int))) => PyData.int a3.1)) (ds := (fun (a3 : (Int × ((List Int) × Int × Int))) => [PyData.int x1])) (te_callO (mv := [some 0, none]) (t_l_draw s2.1 ((x1 + 1))) (tr_own 0 rfl rfl (tr_of (ta_cons (tv_binD (tv_var 3 rfl) (tv_c _) (o_add x1 1)) ta_nil)) (fun _ => rfl) (fun _ => rfl))) (fun a3 => (ta_cons (tv_var 3 rfl) ta_nil))) (fun _ => rfl) (fun x4 => (om_insert (e := PyData.int) s2.2 x4.1 x1)) (fun _ _ _ h => h) (fun _ _ => (Wc.keep (Wc.keep (Wc.keep (Wc.keep Wc.nil))))))) (fun u7 => (Wc.keep (Wc.keep (Wc.keep (Wc.any Wc.nil)))))) rfl
noncomputable def p_l_any_order (tape : ((List Int) × Int × Int)) (many : Int) : R ((List Int) × ((List Int) × Int × Int)) :=
 ((rg1 many).bind fun z10 => foldR (q_l_any_order1 many) z10 ((tape, ([] : (List Int))))).bind fun (s9 : (((List Int) × Int × Int) × (List Int))) =>
 R.ok (s9.2, s9.1)
set_option maxHeartbeats 1000000 in
theorem t_l_any_order (tape : ((List Int) × Int × Int)) (many : Int) : TF m_l_any_order [.own (.lst [(eL PyData.int) tape.1, PyData.int tape.2.1, PyData.int tape.2.2]), .dat (PyData.int many)] (p_l_any_order tape many) (fun v : ((List Int) × ((List Int) × Int × Int)) => isD ((eT PyData.int) v.1)) (fun v : ((List Int) × ((List Int) × Int × Int)) => [.own (.lst [(eL PyData.int) v.2.1, PyData.int v.2.2.1, PyData.int v.2.2.2])]) :=
 tf_cv (tf_mk (ts_seq (ts_setS 2 (tm_of (tv_lst ta_nil (sz_lit rfl))))
 (fun _ => (ts_seq (ts_for (xs := fun (z10 : (List Int)) => z10) (e := PyData.int) (Inv := (fun s2 : (((List Int) × Int × Int) × (List Int)) => [.own (.lst [(eL PyData.int) s2.1.1, PyData.int s2.1.2.1, PyData.int s2.1.2.2]), .dat (PyData.int many), .own (.lst (s2.2.map PyData.int)), .any])) (fun (z10 : (List Int)) => ((tape, ([] : (List Int))) : (((List Int) × Int × Int) × (List Int)))) (ti_rg1V (ta_cons (tv_var 1 rfl) ta_nil)) (fun z10 => (Wc.keep (Wc.keep (Wc.keep (Wc.any Wc.nil))))) (fun x1 s2 => (tk_name 3 _)) (fun x1 s2 => tq_l_any_order1 many x1 s2))
 (fun s9 => (ts_wk0 (Wc.keep (Wc.keep (Wc.frz rfl (Wc.any Wc.nil)))) (ts_retV (c := fun v : ((List Int) × ((List Int) × Int × Int)) => isD ((eT PyData.int) v.1)) (Δr := fun v : ((List Int) × ((List Int) × Int × Int)) => [.own (.lst [(eL PyData.int) v.2.1, PyData.int v.2.2.1, PyData.int v.2.2.2])]) (s9.2, s9.1) (tv_unD (tv_var 2 rfl) (o_tupL (e := PyData.int) s9.2)) (Wc.keep Wc.nil))))))) (fun _ => rfl)) rfl
noncomputable def p_l_apart (tape : ((List Int) × Int × Int)) (spots : Int) (teams : Int) : R ((List (List Int)) × ((List Int) × Int × Int)) :=
 (p_l_any_order tape spots).bind fun (own1 : ((List Int) × ((List Int) × Int × Int))) =>
 (p_l_any_order own1.2 spots).bind fun (steps3 : ((List Int) × ((List Int) × Int × Int))) =>
 ((compR (fun x4 => R.ok true) (fun x4 => ((rg1 spots).bind fun z7 => compR (fun x5 => R.ok true) (fun x5 => (modR ((x5 + x4)) spots).bind fun x6 => atR own1.1 x6) z7 []).bind fun x8 => R.ok x8) ((cutT steps3.1 none (some teams))) []).bind fun x9 => R.ok x9).bind fun r10 => R.ok (r10, steps3.2)
set_option maxHeartbeats 1000000 in
theorem t_l_apart (tape : ((List Int) × Int × Int)) (spots : Int) (teams : Int) : TF m_l_apart [.own (.lst [(eL PyData.int) tape.1, PyData.int tape.2.1, PyData.int tape.2.2]), .dat (PyData.int spots), .dat (PyData.int teams)] (p_l_apart tape spots teams) (fun v : ((List (List Int)) × ((List Int) × Int × Int)) => isD ((eT (eT PyData.int)) v.1)) (fun v : ((List (List Int)) × ((List Int) × Int × Int)) => [.own (.lst [(eL PyData.int) v.2.1, PyData.int v.2.2.1, PyData.int v.2.2.2])]) :=
 tf_cv (tf_mk (ts_seq (ts_setD 3 (te_callO (mv := [some 0, none]) (t_l_any_order tape spots) (tr_own 0 rfl rfl (tr_of (ta_cons (tv_var 1 rfl) ta_nil)) (fun _ => rfl) (fun _ => rfl))))
 (fun own1 => (ts_seq (ts_setD 4 (te_slice (c := fun (x2 : ((List Int) × ((List Int) × Int × Int))) => isD ((eT PyData.int) (cutT x2.1 none (some teams)))) (te_callO (mv := [some 0, none]) (t_l_any_order own1.2 spots) (tr_own 0 rfl rfl (tr_of (ta_cons (tv_var 1 rfl) ta_nil)) (fun _ => rfl) (fun _ => rfl))) (fun _ => tp_none) (fun _ => (tp_some (tv_var 2 rfl))) (fun x2 => (o_slT (e := PyData.int) x2.1 none (some teams))) (fun _ => rfl)))
 (fun steps3 => (ts_retP (c := fun v : ((List (List Int)) × ((List Int) × Int × Int)) => isD ((eT (eT PyData.int)) v.1)) (Δr := fun v : ((List (List Int)) × ((List Int) × Int × Int)) => [.own (.lst [(eL PyData.int) v.2.1, PyData.int v.2.2.1, PyData.int v.2.2.2])]) (fun (r10 : (List (List Int))) => (r10, steps3.2)) (te_ue (te_f (tm_comp (Γ := [.own (.lst [(eL PyData.int) steps3.2.1, PyData.int steps3.2.2.1, PyData.int steps3.2.2.2]), .dat (PyData.int spots), .dat (PyData.int teams), .dat ((eT PyData.int) own1.1), .dat ((eT PyData.int) ((cutT steps3.1 none (some teams)))), .any, .any]) (Γk := fun x4 => [.own (.lst [(eL PyData.int) steps3.2.1, PyData.int steps3.2.2.1, PyData.int steps3.2.2.2]), .dat (PyData.int spots), .dat (PyData.int teams), .dat ((eT PyData.int) own1.1), .dat ((eT PyData.int) ((cutT steps3.1 none (some teams)))), .any, .dat (PyData.int x4)]) (e := PyData.int) (eT PyData.int) (xs := fun _ : Unit => (cutT steps3.1 none (some teams))) (tm_of (ti_seqV (tv_var 4 rfl) rfl)) rfl (fun x4 => (tk_name 6 _)) (fun x4 => (tm_val (c := isB) (v := true) (fun ρ r => ⟨_, ρ, rfl, rfl, r⟩))) (fun x4 => (te_ue (te_f (tm_comp (Γ := [.own (.lst [(eL PyData.int) steps3.2.1, PyData.int steps3.2.2.1, PyData.int steps3.2.2.2]), .dat (PyData.int spots), .dat (PyData.int teams), .dat ((eT PyData.int) own1.1), .dat ((eT PyData.int) ((cutT steps3.1 none (some teams)))), .any, .dat (PyData.int x4)]) (Γk := fun x5 => [.own (.lst [(eL PyData.int) steps3.2.1, PyData.int steps3.2.2.1, PyData.int steps3.2.2.2]), .dat (PyData.int spots), .dat (PyData.int teams), .dat ((eT PyData.int) own1.1), .dat ((eT PyData.int) ((cutT steps3.1 none (some teams)))), .dat (PyData.int x5), .dat (PyData.int x4)]) (e := PyData.int) PyData.int (xs := fun (z7 : (List Int)) => z7) (ti_rg1V (ta_cons (tv_var 1 rfl) ta_nil)) rfl (fun x5 => (tk_name 5 _)) (fun x5 => (tm_val (c := isB) (v := true) (fun ρ r => ⟨_, ρ, rfl, rfl, r⟩))) (fun x5 => (te_ve (tv_var 3 rfl) (te_vv (tv_binD (tv_var 5 rfl) (tv_var 6 rfl) (o_add x5 x4)) (tv_var 1 rfl) (o_mod ((x5 + x4)) spots)) (fun x6 => (q_ixT PyData.int own1.1 x6)))) (fun _ _ h => h) (fun _ => rfl)) (fun _ => rfl)) (fun x8 => (opF_D (eT PyData.int) x8 (o_tupL (e := PyData.int) x8))))) (fun _ _ h => h) (fun _ => rfl)) (fun _ => rfl)) (fun x9 => (opF_D (eT (eT PyData.int)) x9 (o_tupL (e := (eT PyData.int)) x9)))) (fun _ _ h => h) (fun _ => (Wc.keep Wc.nil))))))) (fun _ => rfl)) rfl
noncomputable def p_l_a_table (tape : ((List Int) × Int × Int)) (spots : Int) (teams : Int) : R ((List (List Int)) × ((List Int) × Int × Int)) :=
 (p_l_draw tape 3).bind fun (way1 : (Int × ((List Int) × Int × Int))) =>
 if ((decide (way1.1 = 0)) || (decide (spots < teams))) = true then (((rg1 teams).bind fun z7 => compS (fun x3 s4 => R.ok true) (fun x3 s4 => (p_l_any_order s4 spots).bind fun z5 => R.ok (z5.1, z5.2)) z7 [] way1.2).bind fun x8 => R.ok (x8.1, x8.2)).bind fun r11 => R.ok (r11.1, r11.2)
 else (p_l_apart way1.2 spots teams).bind fun (table12 : ((List (List Int)) × ((List Int) × Int × Int))) =>
 (if (decide (way1.1 = 2)) = true then (p_l_draw table12.2 teams).bind fun (k14 : (Int × ((List Int) × Int × Int))) =>
 (((p_l_any_order k14.2 spots).bind fun y17 => (catR ((cutT table12.1 none (some k14.1))) ([y17.1])).bind fun z18 => R.ok (z18, y17.2)).bind fun x20 => (catR x20.1 ((cutT table12.1 (some ((k14.1 + 1))) none))).bind fun z22 => R.ok (z22, x20.2)).bind fun (table24 : ((List (List Int)) × ((List Int) × Int × Int))) => R.ok (table24.2, table24.1)
 else R.ok (table12.2, table12.1)).bind fun (s25 : (((List Int) × Int × Int) × (List (List Int)))) =>
 R.ok (s25.2, s25.1)
set_option maxHeartbeats 1000000 in
theorem t_l_a_table (tape : ((List Int) × Int × Int)) (spots : Int) (teams : Int) : TF m_l_a_table [.own (.lst [(eL PyData.int) tape.1, PyData.int tape.2.1, PyData.int tape.2.2]), .dat (PyData.int spots), .dat (PyData.int teams)] (p_l_a_table tape spots teams) (fun v : ((List (List Int)) × ((List Int) × Int × Int)) => isD ((eT (eT PyData.int)) v.1)) (fun v : ((List (List Int)) × ((List Int) × Int × Int)) => [.own (.lst [(eL PyData.int) v.2.1, PyData.int v.2.2.1, PyData.int v.2.2.2])]) :=
 tf_cv (tf_mk (ts_seq (ts_setD 3 (te_callO (mv := [some 0, none]) (t_l_draw tape 3) (tr_own 0 rfl rfl (tr_of (ta_cons (tv_c _) ta_nil)) (fun _ => rfl) (fun _ => rfl))))
 (fun way1 => (ts_ifR (b := fun (_ : Unit) => ((decide (way1.1 = 0)) || (decide (spots < teams)))) (tm_of (tb_orV (tb_tstV (tv_binD (tv_var 3 rfl) (tv_c _) (o_eq ec_int way1.1 0))) (tb_tstV (tv_binD (tv_var 2 rfl) (tv_var 1 rfl) (o_gt teams spots))))) (fun _ => (ts_retP (c := fun v : ((List (List Int)) × ((List Int) × Int × Int)) => isD ((eT (eT PyData.int)) v.1)) (Δr := fun v : ((List (List Int)) × ((List Int) × Int × Int)) => [.own (.lst [(eL PyData.int) v.2.1, PyData.int v.2.2.1, PyData.int v.2.2.2])]) (fun (r11 : ((List (List Int)) × ((List Int) × Int × Int))) => (r11.1, r11.2)) (te_us (Δa := fun (x8 : ((List (List Int)) × (((List Int) × Int × Int)))) => [.own (.lst [(eL PyData.int) x8.2.1, PyData.int x8.2.2.1, PyData.int x8.2.2.2]), .dat (PyData.int spots), .dat (PyData.int teams), .dat (PyData.int way1.1), .any, .any, .any]) (da := (fun (x8 : ((List (List Int)) × (((List Int) × Int × Int)))) => (eL (eT PyData.int)) x8.1)) (c := fun (w10 : ((List (List Int)) × ((List Int) × Int × Int))) => isD ((eT (eT PyData.int)) w10.1)) (Δ := fun (w10 : ((List (List Int)) × ((List Int) × Int × Int))) => [.own (.lst [(eL PyData.int) w10.2.1, PyData.int w10.2.2.1, PyData.int w10.2.2.2]), .dat (PyData.int spots), .dat (PyData.int teams), .dat (PyData.int way1.1), .any, .any, .any]) (fun (x8 : ((List (List Int)) × (((List Int) × Int × Int)))) (z9 : (List (List Int))) => (z9, x8.2)) (te_f (tm_compS (Inv := fun s4 : (((List Int) × Int × Int)) => [.own (.lst [(eL PyData.int) s4.1, PyData.int s4.2.1, PyData.int s4.2.2]), .dat (PyData.int spots), .dat (PyData.int teams), .dat (PyData.int way1.1), .any, .any, .any]) (Γk := fun x3 s4 => [.own (.lst [(eL PyData.int) s4.1, PyData.int s4.2.1, PyData.int s4.2.2]), .dat (PyData.int spots), .dat (PyData.int teams), .dat (PyData.int way1.1), .dat (PyData.int x3), .any, .any]) (Γe := fun x3 v6 => [.own (.lst [(eL PyData.int) v6.2.1, PyData.int v6.2.2.1, PyData.int v6.2.2.2]), .dat (PyData.int spots), .dat (PyData.int teams), .dat (PyData.int way1.1), .dat (PyData.int x3), .any, .any]) (ce := fun (z : (List Int)) => isD ((eT PyData.int) z)) (e := PyData.int) (eT PyData.int) (xs := fun (z7 : (List Int)) => z7) (fun (z7 : (List Int)) => (way1.2 : (((List Int) × Int × Int)))) (ti_rg1V (ta_cons (tv_var 2 rfl) ta_nil)) (fun (z7 : (List Int)) => (Wc.keep (Wc.keep (Wc.keep (Wc.keep (Wc.any (Wc.any (Wc.any Wc.nil)))))))) (fun _ => rfl) (fun x3 s4 => (tk_name 4 _)) (fun x3 s4 => (tm_val (c := isB) (v := true) (fun ρ r => ⟨_, ρ, rfl, rfl, r⟩))) (fun x3 s4 => (tm_pack (Δ := fun (z5 : ((List Int) × ((List Int) × Int × Int))) => [.own (.lst [(eL PyData.int) z5.2.1, PyData.int z5.2.2.1, PyData.int z5.2.2.2]), .dat (PyData.int spots), .dat (PyData.int teams), .dat (PyData.int way1.1), .dat (PyData.int x3), .any, .any]) (c' := fun (z : (List Int) × (((List Int) × Int × Int))) => isD ((eT PyData.int) z.1)) (Δ' := fun v6 : (List Int) × (((List Int) × Int × Int)) => [.own (.lst [(eL PyData.int) v6.2.1, PyData.int v6.2.2.1, PyData.int v6.2.2.2]), .dat (PyData.int spots), .dat (PyData.int teams), .dat (PyData.int way1.1), .dat (PyData.int x3), .any, .any]) (fun (z5 : ((List Int) × ((List Int) × Int × Int))) => (z5.1, z5.2)) (te_callO (mv := [some 0, none]) (t_l_any_order s4 spots) (tr_own 0 rfl rfl (tr_of (ta_cons (tv_var 1 rfl) ta_nil)) (fun _ => rfl) (fun _ => rfl))) (fun _ _ h => h) (fun _ => (Wc.keep (Wc.keep (Wc.keep (Wc.keep (Wc.keep (Wc.any (Wc.any Wc.nil)))))))))) (fun _ _ h => h) (fun _ _ => rfl) (fun _ _ => rfl)) (fun _ => rfl)) (fun x8 => (opF_D (eT (eT PyData.int)) x8.1 (o_tupL (e := (eT PyData.int)) x8.1))) (fun _ _ _ h => h) (fun _ _ => (Wc.keep (Wc.keep (Wc.keep (Wc.keep (Wc.any (Wc.any (Wc.any Wc.nil))))))))) (fun _ _ h => h) (fun _ => (Wc.keep Wc.nil))))
 (fun _ => (ts_seq (ts_setD 5 (te_callO (mv := [some 0, none, none]) (t_l_apart way1.2 spots teams) (tr_own 0 rfl rfl (tr_of (ta_cons (tv_var 1 rfl) (ta_cons (tv_var 2 rfl) ta_nil))) (fun _ => rfl) (fun _ => rfl))))
 (fun table12 => (ts_seq (ts_if (post := pNx (fun s26 : (((List Int) × Int × Int) × (List (List Int))) => [.own (.lst [(eL PyData.int) s26.1.1, PyData.int s26.1.2.1, PyData.int s26.1.2.2]), .any, .any, .any, .any, .dat ((eT (eT PyData.int)) s26.2), .any])) (b := fun (_ : Unit) => (decide (way1.1 = 2))) (tm_of (tb_tstV (tv_binD (tv_var 3 rfl) (tv_c _) (o_eq ec_int way1.1 2)))) (fun _ => (ts_seq (ts_setD 6 (te_callO (mv := [some 0, none]) (t_l_draw table12.2 teams) (tr_own 0 rfl rfl (tr_of (ta_cons (tv_var 2 rfl) ta_nil)) (fun _ => rfl) (fun _ => rfl))))
 (fun k14 => (ts_end (fun (table24 : ((List (List Int)) × ((List Int) × Int × Int))) => (table24.2, table24.1)) (ts_setD 5 (te_st (Δa := fun (x20 : ((List (List Int)) × ((List Int) × Int × Int))) => [.own (.lst [(eL PyData.int) x20.2.1, PyData.int x20.2.2.1, PyData.int x20.2.2.2]), .dat (PyData.int spots), .dat (PyData.int teams), .dat (PyData.int way1.1), .any, .dat ((eT (eT PyData.int)) table12.1), .dat (PyData.int k14.1)]) (Δb := fun (x20 : ((List (List Int)) × ((List Int) × Int × Int))) (_ : Unit) => [.own (.lst [(eL PyData.int) x20.2.1, PyData.int x20.2.2.1, PyData.int x20.2.2.2]), .dat (PyData.int spots), .dat (PyData.int teams), .dat (PyData.int way1.1), .any, .dat ((eT (eT PyData.int)) table12.1), .dat (PyData.int k14.1)]) (da := (fun (x20 : ((List (List Int)) × ((List Int) × Int × Int))) => (eT (eT PyData.int)) x20.1)) (db := (fun (x20 : ((List (List Int)) × ((List Int) × Int × Int))) (_ : Unit) => (eT (eT PyData.int)) ((cutT table12.1 (some ((k14.1 + 1))) none)))) (c := fun (w23 : ((List (List Int)) × ((List Int) × Int × Int))) => isD ((eT (eT PyData.int)) w23.1)) (Δ := fun (w23 : ((List (List Int)) × ((List Int) × Int × Int))) => [.own (.lst [(eL PyData.int) w23.2.1, PyData.int w23.2.2.1, PyData.int w23.2.2.2]), .dat (PyData.int spots), .dat (PyData.int teams), .dat (PyData.int way1.1), .any, .dat ((eT (eT PyData.int)) table12.1), .dat (PyData.int k14.1)]) (fun (x20 : ((List (List Int)) × ((List Int) × Int × Int))) (_ : Unit) (z22 : (List (List Int))) => (z22, x20.2)) (te_st (Δa := fun (_ : Unit) => [.own (.lst [(eL PyData.int) k14.2.1, PyData.int k14.2.2.1, PyData.int k14.2.2.2]), .dat (PyData.int spots), .dat (PyData.int teams), .dat (PyData.int way1.1), .any, .dat ((eT (eT PyData.int)) table12.1), .dat (PyData.int k14.1)]) (Δb := fun (_ : Unit) (y17 : ((List Int) × ((List Int) × Int × Int))) => [.own (.lst [(eL PyData.int) y17.2.1, PyData.int y17.2.2.1, PyData.int y17.2.2.2]), .dat (PyData.int spots), .dat (PyData.int teams), .dat (PyData.int way1.1), .any, .dat ((eT (eT PyData.int)) table12.1), .dat (PyData.int k14.1)]) (da := (fun (_ : Unit) => (eT (eT PyData.int)) ((cutT table12.1 none (some k14.1))))) (db := (fun (_ : Unit) (y17 : ((List Int) × ((List Int) × Int × Int))) => (eT (eT PyData.int)) ([y17.1]))) (c := fun (w19 : ((List (List Int)) × ((List Int) × Int × Int))) => isD ((eT (eT PyData.int)) w19.1)) (Δ := fun (w19 : ((List (List Int)) × ((List Int) × Int × Int))) => [.own (.lst [(eL PyData.int) w19.2.1, PyData.int w19.2.2.1, PyData.int w19.2.2.2]), .dat (PyData.int spots), .dat (PyData.int teams), .dat (PyData.int way1.1), .any, .dat ((eT (eT PyData.int)) table12.1), .dat (PyData.int k14.1)]) (fun (_ : Unit) (y17 : ((List Int) × ((List Int) × Int × Int))) (z18 : (List (List Int))) => (z18, y17.2)) (tm_of (tv_slD (tv_var 5 rfl) tp_none (tp_some (tv_var 6 rfl)) (o_slT (e := (eT PyData.int)) table12.1 none (some k14.1)))) (fun _ => (te_tup (ta_ev (d := (fun (a15 : ((List Int) × ((List Int) × Int × Int))) => (eT PyData.int) a15.1)) (ds := (fun (a15 : ((List Int) × ((List Int) × Int × Int))) => [])) (te_callO (mv := [some 0, none]) (t_l_any_order k14.2 spots) (tr_own 0 rfl rfl (tr_of (ta_cons (tv_var 1 rfl) ta_nil)) (fun _ => rfl) (fun _ => rfl))) (fun a15 => ta_nil)) (fun _ => (sz_lit rfl)))) (fun _ y17 => (o_catT (e := (eT PyData.int)) ((cutT table12.1 none (some k14.1))) ([y17.1]))) (fun _ _ _ _ h => h) (fun _ _ _ => (Wc.keep (Wc.keep (Wc.keep (Wc.keep (Wc.any (Wc.keep (Wc.keep Wc.nil))))))))) (fun x20 => (tm_of (tv_slD (tv_var 5 rfl) (tp_some (tv_binD (tv_var 6 rfl) (tv_c _) (o_add k14.1 1))) tp_none (o_slT (e := (eT PyData.int)) table12.1 (some ((k14.1 + 1))) none)))) (fun x20 _ => (o_catT (e := (eT PyData.int)) x20.1 ((cutT table12.1 (some ((k14.1 + 1))) none)))) (fun _ _ _ _ h => h) (fun _ _ _ => (Wc.keep (Wc.keep (Wc.keep (Wc.keep (Wc.any (Wc.keep (Wc.keep Wc.nil)))))))))) (fun table24 => (Wc.keep (Wc.any (Wc.any (Wc.any (Wc.any (Wc.keep (Wc.any Wc.nil))))))))))))
 (fun _ => (ts_end (fun _ : Unit => (table12.2, table12.1)) ts_nop (fun _ => (Wc.keep (Wc.any (Wc.any (Wc.any (Wc.any (Wc.keep (Wc.any Wc.nil)))))))))))
 (fun s25 => (ts_retV (c := fun v : ((List (List Int)) × ((List Int) × Int × Int)) => isD ((eT (eT PyData.int)) v.1)) (Δr := fun v : ((List (List Int)) × ((List Int) × Int × Int)) => [.own (.lst [(eL PyData.int) v.2.1, PyData.int v.2.2.1, PyData.int v.2.2.2])]) (s25.2, s25.1) (tv_var 5 rfl) (Wc.keep Wc.nil)))))))))) (fun _ => rfl)) rfl
noncomputable def q_l_a_bars1 (spots : Int) (most : Int) (x4 : Int) (s5 : (((List Int) × Int × Int) × (List ((Int × Int) × Bool)))) : R (((List Int) × Int × Int) × (List ((Int × Int) × Bool))) :=
 (((p_l_draw s5.1 spots).bind fun a22 => ((((p_l_draw (a22.2) 3).bind fun x10 => (divR x10.1 2).bind fun z12 => R.ok (z12, x10.2)).bind fun y15 => (atR ([spots, 2]) y15.1).bind fun z16 => R.ok (z16, y15.2)).bind fun w19 => (p_l_draw w19.2 w19.1).bind fun v20 => R.ok v20).bind fun a24 => R.ok (a22, a24)).bind fun k7 => (setKR s5.2 ((k7.1.1, k7.2.1)) true).bind fun found8 => R.ok (found8, k7.2.2)).bind fun (found26 : ((List ((Int × Int) × Bool)) × ((List Int) × Int × Int))) => R.ok (found26.2, found26.1)
set_option maxHeartbeats 1000000 in
theorem tq_l_a_bars1 (spots : Int) (most : Int) (x4 : Int) (s5 : (((List Int) × Int × Int) × (List ((Int × Int) × Bool)))) : TS [.own (.lst [(eL PyData.int) s5.1.1, PyData.int s5.1.2.1, PyData.int s5.1.2.2]), .dat (PyData.int spots), .dat (PyData.int most), .own (.dT (enT kII PyData.bool s5.2)), .dat (PyData.int x4)] b_l_a_bars1 (q_l_a_bars1 spots most x4 s5) (pNx (fun s27 : (((List Int) × Int × Int) × (List ((Int × Int) × Bool))) => [.own (.lst [(eL PyData.int) s27.1.1, PyData.int s27.1.2.1, PyData.int s27.1.2.2]), .dat (PyData.int spots), .dat (PyData.int most), .own (.dT (enT kII PyData.bool s27.2)), .any])) :=
 ts_cv (ts_end (fun (found26 : ((List ((Int × Int) × Bool)) × ((List Int) × Int × Int))) => (found26.2, found26.1)) (ts_setT 3 kt_II PyData.bool (v := fun (_ : Unit) => true) (xs0 := fun (_ : Unit) => s5.2) (xs := fun (_ : Unit) (k7 : ((Int × ((List Int) × Int × Int)) × (Int × ((List Int) × Int × Int)))) => s5.2) (a := fun (_ : Unit) (k7 : ((Int × ((List Int) × Int × Int)) × (Int × ((List Int) × Int × Int)))) => (k7.1.1, k7.2.1)) (Δ := fun (_ : Unit) => [.own (.lst [(eL PyData.int) s5.1.1, PyData.int s5.1.2.1, PyData.int s5.1.2.2]), .dat (PyData.int spots), .dat (PyData.int most), .own (.dT (enT kII PyData.bool s5.2)), .dat (PyData.int x4)]) (Δ2 := fun (_ : Unit) (k7 : ((Int × ((List Int) × Int × Int)) × (Int × ((List Int) × Int × Int)))) => [.own (.lst [(eL PyData.int) k7.2.2.1, PyData.int k7.2.2.2.1, PyData.int k7.2.2.2.2]), .dat (PyData.int spots), .dat (PyData.int most), .own (.dT (enT kII PyData.bool s5.2)), .dat (PyData.int x4)]) (Δ' := fun (w9 : ((List ((Int × Int) × Bool)) × ((List Int) × Int × Int))) => [.own (.lst [(eL PyData.int) w9.2.1, PyData.int w9.2.2.1, PyData.int w9.2.2.2]), .dat (PyData.int spots), .dat (PyData.int most), .own (.dT (enT kII PyData.bool w9.1)), .dat (PyData.int x4)]) (fun (_ : Unit) (k7 : ((Int × ((List Int) × Int × Int)) × (Int × ((List Int) × Int × Int)))) (found8 : (List ((Int × Int) × Bool))) => (found8, k7.2.2)) (tm_of (tv_c _)) (fun _ => rfl) (fun _ => (te_tup (ta_eeA (Δa := fun (a22 : (Int × ((List Int) × Int × Int))) => [.own (.lst [(eL PyData.int) a22.2.1, PyData.int a22.2.2.1, PyData.int a22.2.2.2]), .dat (PyData.int spots), .dat (PyData.int most), .own (.dT (enT kII PyData.bool s5.2)), .dat (PyData.int x4)]) (Δr := fun (a22 : (Int × ((List Int) × Int × Int))) (a24 : (Int × ((List Int) × Int × Int))) => [.own (.lst [(eL PyData.int) a24.2.1, PyData.int a24.2.2.1, PyData.int a24.2.2.2]), .dat (PyData.int spots), .dat (PyData.int most), .own (.dT (enT kII PyData.bool s5.2)), .dat (PyData.int x4)]) (d := (fun (a22 : (Int × ((List Int) × Int × Int))) => PyData.int a22.1)) (ds := (fun (a22 : (Int × ((List Int) × Int × Int))) (a24 : (Int × ((List Int) × Int × Int))) => [PyData.int a24.1])) (ds' := fun (z25 : (Int × ((List Int) × Int × Int)) × (Int × ((List Int) × Int × Int))) => [PyData.int z25.1.1, PyData.int z25.2.1]) (Δ := fun (z25 : (Int × ((List Int) × Int × Int)) × (Int × ((List Int) × Int × Int))) => [.own (.lst [(eL PyData.int) z25.2.2.1, PyData.int z25.2.2.2.1, PyData.int z25.2.2.2.2]), .dat (PyData.int spots), .dat (PyData.int most), .own (.dT (enT kII PyData.bool s5.2)), .dat (PyData.int x4)]) (te_callO (mv := [some 0, none]) (t_l_draw s5.1 spots) (tr_own 0 rfl rfl (tr_of (ta_cons (tv_var 1 rfl) ta_nil)) (fun _ => rfl) (fun _ => rfl))) (fun a22 => (ta_ev (d := (fun (a23 : (Int × ((List Int) × Int × Int))) => PyData.int a23.1)) (ds := (fun (a23 : (Int × ((List Int) × Int × Int))) => [])) (te_callOE (mv := [some 0, none]) (pa := ((p_l_draw (a22.2) 3).bind fun x10 => (divR x10.1 2).bind fun z12 => R.ok (z12, x10.2)).bind fun y15 => (atR ([spots, 2]) y15.1).bind fun z16 => R.ok (z16, y15.2)) (Δa := fun (w19 : (Int × ((List Int) × Int × Int))) => [.any, .dat (PyData.int spots), .dat (PyData.int most), .own (.dT (enT kII PyData.bool s5.2)), .dat (PyData.int x4)]) (as := fun (w19 : (Int × ((List Int) × Int × Int))) => [.own (.lst [(eL PyData.int) w19.2.1, PyData.int w19.2.2.1, PyData.int w19.2.2.2]), .dat (PyData.int w19.1)]) (c := fun (z21 : (Int × ((List Int) × Int × Int))) => isD (PyData.int z21.1)) (Δ := fun (z21 : (Int × ((List Int) × Int × Int))) => [.own (.lst [(eL PyData.int) z21.2.1, PyData.int z21.2.2.1, PyData.int z21.2.2.2]), .dat (PyData.int spots), .dat (PyData.int most), .own (.dT (enT kII PyData.bool s5.2)), .dat (PyData.int x4)]) (fun (_ : (Int × ((List Int) × Int × Int))) (v20 : (Int × ((List Int) × Int × Int))) => v20) (fun w19 => t_l_draw w19.2 w19.1) (tr_own 0 rfl rfl (tr_e (Δa := fun (a18 : (Int × ((List Int) × Int × Int))) => [.own (.lst [(eL PyData.int) a18.2.1, PyData.int a18.2.2.1, PyData.int a18.2.2.2]), .dat (PyData.int spots), .dat (PyData.int most), .own (.dT (enT kII PyData.bool s5.2)), .dat (PyData.int x4)]) (Δr := fun (a18 : (Int × ((List Int) × Int × Int))) => [.own (.lst [(eL PyData.int) a18.2.1, PyData.int a18.2.2.1, PyData.int a18.2.2.2]), .dat (PyData.int spots), .dat (PyData.int most), .own (.dT (enT kII PyData.bool s5.2)), .dat (PyData.int x4)]) (d := (fun (a18 : (Int × ((List Int) × Int × Int))) => PyData.int a18.1)) (as := fun (a18 : (Int × ((List Int) × Int × Int))) => []) (te_st (Δa := fun (_ : Unit) => [.own (.lst [(eL PyData.int) ((a22.2)).1, PyData.int ((a22.2)).2.1, PyData.int ((a22.2)).2.2]), .dat (PyData.int spots), .dat (PyData.int most), .own (.dT (enT kII PyData.bool s5.2)), .dat (PyData.int x4)]) (Δb := fun (_ : Unit) (y15 : (Int × ((List Int) × Int × Int))) => [.own (.lst [(eL PyData.int) y15.2.1, PyData.int y15.2.2.1, PyData.int y15.2.2.2]), .dat (PyData.int spots), .dat (PyData.int most), .own (.dT (enT kII PyData.bool s5.2)), .dat (PyData.int x4)]) (da := (fun (_ : Unit) => (eL PyData.int) ([spots, 2]))) (db := (fun (_ : Unit) (y15 : (Int × ((List Int) × Int × Int))) => PyData.int y15.1)) (c := fun (w17 : (Int × ((List Int) × Int × Int))) => isD (PyData.int w17.1)) (Δ := fun (w17 : (Int × ((List Int) × Int × Int))) => [.own (.lst [(eL PyData.int) w17.2.1, PyData.int w17.2.2.1, PyData.int w17.2.2.2]), .dat (PyData.int spots), .dat (PyData.int most), .own (.dT (enT kII PyData.bool s5.2)), .dat (PyData.int x4)]) (fun (_ : Unit) (y15 : (Int × ((List Int) × Int × Int))) (z16 : Int) => (z16, y15.2)) (tm_of (tv_f (tv_lst (ta_cons (tv_var 1 rfl) (ta_cons (tv_c _) ta_nil)) (sz_lit rfl)) rfl)) (fun _ => (te_st (Δa := fun (x10 : (Int × ((List Int) × Int × Int))) => [.own (.lst [(eL PyData.int) x10.2.1, PyData.int x10.2.2.1, PyData.int x10.2.2.2]), .dat (PyData.int spots), .dat (PyData.int most), .own (.dT (enT kII PyData.bool s5.2)), .dat (PyData.int x4)]) (Δb := fun (x10 : (Int × ((List Int) × Int × Int))) (_ : Unit) => [.own (.lst [(eL PyData.int) x10.2.1, PyData.int x10.2.2.1, PyData.int x10.2.2.2]), .dat (PyData.int spots), .dat (PyData.int most), .own (.dT (enT kII PyData.bool s5.2)), .dat (PyData.int x4)]) (da := (fun (x10 : (Int × ((List Int) × Int × Int))) => PyData.int x10.1)) (db := (fun (x10 : (Int × ((List Int) × Int × Int))) (_ : Unit) => PyData.int 2)) (c := fun (w13 : (Int × ((List Int) × Int × Int))) => isD (PyData.int w13.1)) (Δ := fun (w13 : (Int × ((List Int) × Int × Int))) => [.own (.lst [(eL PyData.int) w13.2.1, PyData.int w13.2.2.1, PyData.int w13.2.2.2]), .dat (PyData.int spots), .dat (PyData.int most), .own (.dT (enT kII PyData.bool s5.2)), .dat (PyData.int x4)]) (fun (x10 : (Int × ((List Int) × Int × Int))) (_ : Unit) (z12 : Int) => (z12, x10.2)) (te_callO (mv := [some 0, none]) (t_l_draw (a22.2) 3) (tr_own 0 rfl rfl (tr_of (ta_cons (tv_c _) ta_nil)) (fun _ => rfl) (fun _ => rfl))) (fun x10 => (tm_of (tv_c _))) (fun x10 _ => (o_div x10.1 2)) (fun _ _ _ _ h => h) (fun _ _ _ => (Wc.keep (Wc.keep (Wc.keep (Wc.keep (Wc.keep Wc.nil)))))))) (fun _ y15 => (q_ixL PyData.int ([spots, 2]) y15.1)) (fun _ _ _ _ h => h) (fun _ _ _ => (Wc.keep (Wc.keep (Wc.keep (Wc.keep (Wc.keep Wc.nil))))))) (fun a18 => (tr_of ta_nil))) (fun _ => rfl) (fun _ => rfl)) (fun _ _ _ h => h) (fun _ _ => (Wc.keep (Wc.keep (Wc.keep (Wc.keep (Wc.keep Wc.nil))))))) (fun a23 => ta_nil))) (fun _ _ => rfl) (fun _ _ => (Wc.keep (Wc.keep (Wc.keep (Wc.keep (Wc.keep Wc.nil))))))) (fun _ => (sz_lit rfl)))) (fun _ _ => rfl) (fun _ _ _ => (Wc.keep (Wc.keep (Wc.keep (Wc.keep (Wc.keep Wc.nil))))))) (fun found26 => (Wc.keep (Wc.keep (Wc.keep (Wc.keep (Wc.any Wc.nil))))))) rfl
noncomputable def p_l_a_bars (tape : ((List Int) × Int × Int)) (spots : Int) (most : Int) : R ((List (Int × Int)) × ((List Int) × Int × Int)) :=
 (((p_l_draw tape ((most + 1))).bind fun v2 => (rg1 v2.1).bind fun z3 => R.ok (z3, v2)).bind fun z29 => foldR (q_l_a_bars1 spots most) z29.1 ((z29.2.2, ([] : (List ((Int × Int) × Bool)))))).bind fun (s28 : (((List Int) × Int × Int) × (List ((Int × Int) × Bool)))) =>
 R.ok ((keysX s28.2), s28.1)
set_option maxHeartbeats 1000000 in
theorem t_l_a_bars (tape : ((List Int) × Int × Int)) (spots : Int) (most : Int) : TF m_l_a_bars [.own (.lst [(eL PyData.int) tape.1, PyData.int tape.2.1, PyData.int tape.2.2]), .dat (PyData.int spots), .dat (PyData.int most)] (p_l_a_bars tape spots most) (fun v : ((List (Int × Int)) × ((List Int) × Int × Int)) => isD ((eT (eP2 PyData.int PyData.int)) v.1)) (fun v : ((List (Int × Int)) × ((List Int) × Int × Int)) => [.own (.lst [(eL PyData.int) v.2.1, PyData.int v.2.2.1, PyData.int v.2.2.2])]) :=
 tf_cv (tf_mk (ts_seq (ts_setS 3 (tm_of (tv_newT kII PyData.bool)))
 (fun _ => (ts_seq (ts_for (xs := fun (z29 : (List Int × (Int × ((List Int) × Int × Int)))) => z29.1) (e := PyData.int) (Inv := (fun s5 : (((List Int) × Int × Int) × (List ((Int × Int) × Bool))) => [.own (.lst [(eL PyData.int) s5.1.1, PyData.int s5.1.2.1, PyData.int s5.1.2.2]), .dat (PyData.int spots), .dat (PyData.int most), .own (.dT (enT kII PyData.bool s5.2)), .any])) (fun (z29 : (List Int × (Int × ((List Int) × Int × Int)))) => ((z29.2.2, ([] : (List ((Int × Int) × Bool)))) : (((List Int) × Int × Int) × (List ((Int × Int) × Bool))))) (ti_rg1S (j := fun (v2 : (Int × ((List Int) × Int × Int))) => v2.1) (ta_ev (d := (fun (a1 : (Int × ((List Int) × Int × Int))) => PyData.int a1.1)) (ds := (fun (a1 : (Int × ((List Int) × Int × Int))) => [])) (te_callO (mv := [some 0, none]) (t_l_draw tape ((most + 1))) (tr_own 0 rfl rfl (tr_of (ta_cons (tv_binD (tv_var 2 rfl) (tv_c _) (o_add most 1)) ta_nil)) (fun _ => rfl) (fun _ => rfl))) (fun a1 => ta_nil))) (fun z29 => (Wc.keep (Wc.keep (Wc.keep (Wc.keep (Wc.any Wc.nil)))))) (fun x4 s5 => (tk_name 4 _)) (fun x4 s5 => tq_l_a_bars1 spots most x4 s5))
 (fun s28 => (ts_retV (c := fun v : ((List (Int × Int)) × ((List Int) × Int × Int)) => isD ((eT (eP2 PyData.int PyData.int)) v.1)) (Δr := fun v : ((List (Int × Int)) × ((List Int) × Int × Int)) => [.own (.lst [(eL PyData.int) v.2.1, PyData.int v.2.2.1, PyData.int v.2.2.2])]) ((keysX s28.2), s28.1) (tv_unD (tv_f (tv_listX 3 kt_II (e := PyData.bool) (xs := s28.2) rfl) rfl) (o_tupL (e := (eP2 PyData.int PyData.int)) ((keysX s28.2)))) (Wc.keep Wc.nil)))))) (fun _ => rfl)) rfl
noncomputable def q_l_free1 (table : (List (List Int))) (bars : (List (Int × Int))) (spots : (List Int)) (x9 : Int) (s10 : ((List (List Int)))) : R ((List (List Int))) :=
 (compR (fun x11 => R.ok true) (fun x11 => atR x11 x9) table []).bind fun (had12 : (List Int)) =>
 ((compR (fun x13 => R.ok (((!decide (x13 ∈ had12)) && (!memB ((x9, x13)) bars)))) (fun x13 => R.ok x13) spots []).bind fun x15 => (appR s10 x15).bind fun v16 => R.ok v16).bind fun (u18 : (List (List Int))) => R.ok u18
set_option maxHeartbeats 1000000 in
theorem tq_l_free1 (table : (List (List Int))) (bars : (List (Int × Int))) (spots : (List Int)) (x9 : Int) (s10 : ((List (List Int)))) : TS [.dat ((eT (eT PyData.int)) table), .dat ((eT (eP2 PyData.int PyData.int)) bars), .dat ((eL PyData.int) spots), .own (.lst (s10.map (eL PyData.int))), .dat (PyData.int x9), .any, .any, .any] b_l_free1 (q_l_free1 table bars spots x9 s10) (pNx (fun s19 : ((List (List Int))) => [.dat ((eT (eT PyData.int)) table), .dat ((eT (eP2 PyData.int PyData.int)) bars), .dat ((eL PyData.int) spots), .own (.lst (s19.map (eL PyData.int))), .any, .any, .any, .any])) :=
 ts_cv (ts_seq (ts_setD 5 (te_f (tm_comp (Γ := [.dat ((eT (eT PyData.int)) table), .dat ((eT (eP2 PyData.int PyData.int)) bars), .dat ((eL PyData.int) spots), .own (.lst (s10.map (eL PyData.int))), .dat (PyData.int x9), .any, .any, .any]) (Γk := fun x11 => [.dat ((eT (eT PyData.int)) table), .dat ((eT (eP2 PyData.int PyData.int)) bars), .dat ((eL PyData.int) spots), .own (.lst (s10.map (eL PyData.int))), .dat (PyData.int x9), .any, .dat ((eT PyData.int) x11), .any]) (e := (eT PyData.int)) PyData.int (xs := fun _ : Unit => table) (tm_of (ti_seqV (tv_var 0 rfl) rfl)) rfl (fun x11 => (tk_name 6 _)) (fun x11 => (tm_val (c := isB) (v := true) (fun ρ r => ⟨_, ρ, rfl, rfl, r⟩))) (fun x11 => (te_vv (tv_var 6 rfl) (tv_var 4 rfl) (q_ixT PyData.int x11 x9))) (fun _ _ h => h) (fun _ => rfl)) (fun _ => rfl)))
 (fun had12 => (ts_end (fun (u18 : (List (List Int))) => u18) (ts_drop (te_methE 3 (Δa := fun (x15 : (List Int)) => [.dat ((eT (eT PyData.int)) table), .dat ((eT (eP2 PyData.int PyData.int)) bars), .dat ((eL PyData.int) spots), .own (.lst (s10.map (eL PyData.int))), .dat (PyData.int x9), .dat ((eL PyData.int) had12), .any, .any]) (ds := (fun (x15 : (List Int)) => [(eL PyData.int) x15])) (c := fun _ => isD .none) (Δ := fun (w17 : (List (List Int))) => [.dat ((eT (eT PyData.int)) table), .dat ((eT (eP2 PyData.int PyData.int)) bars), .dat ((eL PyData.int) spots), .own (.lst (w17.map (eL PyData.int))), .dat (PyData.int x9), .dat ((eL PyData.int) had12), .any, .any]) (fun (x15 : (List Int)) (v16 : (List (List Int))) => v16) rfl rfl (ta_ev (d := (fun (a14 : (List Int)) => (eL PyData.int) a14)) (ds := (fun (a14 : (List Int)) => [])) (te_f (tm_comp (Γ := [.dat ((eT (eT PyData.int)) table), .dat ((eT (eP2 PyData.int PyData.int)) bars), .dat ((eL PyData.int) spots), .own (.lst (s10.map (eL PyData.int))), .dat (PyData.int x9), .dat ((eL PyData.int) had12), .any, .any]) (Γk := fun x13 => [.dat ((eT (eT PyData.int)) table), .dat ((eT (eP2 PyData.int PyData.int)) bars), .dat ((eL PyData.int) spots), .own (.lst (s10.map (eL PyData.int))), .dat (PyData.int x9), .dat ((eL PyData.int) had12), .any, .dat (PyData.int x13)]) (e := PyData.int) PyData.int (xs := fun _ : Unit => spots) (tm_of (ti_seqV (tv_var 2 rfl) rfl)) rfl (fun x13 => (tk_name 7 _)) (fun x13 => (tm_val (c := isB) (v := ((!decide (x13 ∈ had12)) && (!memB ((x9, x13)) bars))) (tb_andV (tb_tstV (tv_binD (tv_var 7 rfl) (tv_var 5 rfl) (o_ninL ec_int x13 had12))) (tb_tstV (tv_binD (tv_tup (ta_cons (tv_var 4 rfl) (ta_cons (tv_var 7 rfl) ta_nil)) (sz_lit rfl)) (tv_var 1 rfl) (o_ninT (ec_P2 ec_int ec_int) ((x9, x13)) bars)))))) (fun x13 => (tm_val (c := fun (z : Int) => isD (PyData.int z)) (v := x13) (tv_var 7 rfl))) (fun _ _ h => h) (fun _ => rfl)) (fun _ => rfl)) (fun a14 => ta_nil)) (fun _ => rfl) (fun x15 => (om_append (e := (eL PyData.int)) s10 x15)) (fun _ _ _ h => h) (fun _ _ => (Wc.keep (Wc.keep (Wc.keep (Wc.keep (Wc.keep (Wc.keep (Wc.any (Wc.any Wc.nil))))))))))) (fun u18 => (Wc.keep (Wc.keep (Wc.keep (Wc.keep (Wc.any (Wc.any (Wc.any (Wc.any Wc.nil)))))))))))) rfl
noncomputable def p_l_free (table : (List (List Int))) (bars : (List (Int × Int))) : R (List (List Int)) :=
 (((atR table 0).bind fun x2 => R.ok ((x2.length : Int))).bind fun x3 => lrgR x3).bind fun (spots4 : (List Int)) =>
 ((((atR table 0).bind fun x6 => R.ok ((x6.length : Int))).bind fun v8 => rg1 v8).bind fun z21 => foldR (q_l_free1 table bars spots4) z21 (([] : (List (List Int))))).bind fun (s20 : ((List (List Int)))) =>
 R.ok s20
set_option maxHeartbeats 1000000 in
theorem t_l_free (table : (List (List Int))) (bars : (List (Int × Int))) : TF m_l_free [.dat ((eT (eT PyData.int)) table), .dat ((eT (eP2 PyData.int PyData.int)) bars)] (p_l_free table bars) (fun v : (List (List Int)) => isS (.lst (v.map (eL PyData.int)))) (fun v : (List (List Int)) => []) :=
 tf_cv (tf_mk (ts_seq (ts_setD 2 (te_f (te_ue (te_cb (ta_ev (d := (fun (a1 : (List Int)) => (eT PyData.int) a1)) (ds := (fun (a1 : (List Int)) => [])) (te_vv (tv_var 0 rfl) (tv_c _) (q_ixT (eT PyData.int) table 0)) (fun a1 => ta_nil)) (fun x2 => (opF_D PyData.int ((x2.length : Int)) (o_lenT (e := PyData.int) x2)))) (fun x3 => (o_lrg x3))) (fun _ => rfl)))
 (fun spots4 => (ts_seq (ts_setS 3 (tm_of (tv_lst ta_nil (sz_lit rfl))))
 (fun _ => (ts_seq (ts_for (xs := fun (z21 : (List Int)) => z21) (e := PyData.int) (Inv := (fun s10 : ((List (List Int))) => [.dat ((eT (eT PyData.int)) table), .dat ((eT (eP2 PyData.int PyData.int)) bars), .dat ((eL PyData.int) spots4), .own (.lst (s10.map (eL PyData.int))), .any, .any, .any, .any])) (fun (z21 : (List Int)) => (([] : (List (List Int))) : ((List (List Int))))) (ti_rg1 (j := fun (v8 : Int) => v8) (ta_ev (d := (fun (a7 : Int) => PyData.int a7)) (ds := (fun (a7 : Int) => [])) (te_cb (ta_ev (d := (fun (a5 : (List Int)) => (eT PyData.int) a5)) (ds := (fun (a5 : (List Int)) => [])) (te_vv (tv_var 0 rfl) (tv_c _) (q_ixT (eT PyData.int) table 0)) (fun a5 => ta_nil)) (fun x6 => (opF_D PyData.int ((x6.length : Int)) (o_lenT (e := PyData.int) x6)))) (fun a7 => ta_nil))) (fun z21 => (Wc.keep (Wc.keep (Wc.keep (Wc.keep (Wc.any (Wc.any (Wc.any (Wc.any Wc.nil))))))))) (fun x9 s10 => (tk_name 4 _)) (fun x9 s10 => tq_l_free1 table bars spots4 x9 s10))
 (fun s20 => (ts_retO 3 (c := fun v : (List (List Int)) => isS (.lst (v.map (eL PyData.int)))) (Δr := fun v : (List (List Int)) => []) s20 rfl rfl rfl Wc.nil))))))) (fun _ => rfl)) rfl
noncomputable def p_l_goes (table : (List (List Int))) (bars : (List (Int × Int))) (order : (List Int)) : R Bool :=
 (p_l_free table bars).bind fun (free1 : (List (List Int))) =>
 ((rg1 ((order.length : Int))).bind fun z5 => compR (fun x2 => (atR order x2).bind fun x3 => (atR free1 x2).bind fun y4 => R.ok ((!decide (x3 ∈ y4)))) (fun x2 => R.ok x2) z5 []).bind fun x6 => R.ok ((decide (x6 = ([] : (List Int)))))
set_option maxHeartbeats 1000000 in
theorem t_l_goes (table : (List (List Int))) (bars : (List (Int × Int))) (order : (List Int)) : TF m_l_goes [.dat ((eT (eT PyData.int)) table), .dat ((eT (eP2 PyData.int PyData.int)) bars), .dat ((eT PyData.int) order)] (p_l_goes table bars order) (fun v : Bool => isD (PyData.bool v)) (fun v : Bool => []) :=
 tf_cv (tf_mk (ts_seq (ts_setD 3 (te_f (te_callV (t_l_free table bars) (ta_cons (tv_var 0 rfl) (ta_cons (tv_var 1 rfl) ta_nil)) rfl rfl) (fun _ => rfl)))
 (fun free1 => (ts_ret (c := fun v : Bool => isD (PyData.bool v)) (Δr := fun v : Bool => []) (te_ev (te_f (tm_comp (Γ := [.dat ((eT (eT PyData.int)) table), .dat ((eT (eP2 PyData.int PyData.int)) bars), .dat ((eT PyData.int) order), .dat ((eL (eL PyData.int)) free1), .any]) (Γk := fun x2 => [.dat ((eT (eT PyData.int)) table), .dat ((eT (eP2 PyData.int PyData.int)) bars), .dat ((eT PyData.int) order), .dat ((eL (eL PyData.int)) free1), .dat (PyData.int x2)]) (e := PyData.int) PyData.int (xs := fun (z5 : (List Int)) => z5) (ti_rg1V (ta_cons (tv_cbD (ta_cons (tv_var 2 rfl) ta_nil) (o_lenT (e := PyData.int) order)) ta_nil)) rfl (fun x2 => (tk_name 4 _)) (fun x2 => (tb_tst (te_ee (te_vv (tv_var 2 rfl) (tv_var 4 rfl) (q_ixT PyData.int order x2)) (fun x3 => (te_vv (tv_var 3 rfl) (tv_var 4 rfl) (q_ixL (eL PyData.int) free1 x2))) (fun x3 y4 => (opF_D PyData.bool ((!decide (x3 ∈ y4))) (o_ninL ec_int x3 y4)))))) (fun x2 => (tm_val (c := fun (z : Int) => isD (PyData.int z)) (v := x2) (tv_var 4 rfl))) (fun _ _ h => h) (fun _ => rfl)) (fun _ => rfl)) (fun x6 => (tv_f (tv_lst ta_nil (sz_lit rfl)) rfl)) (fun x6 => (opF_D PyData.bool ((decide (x6 = ([] : (List Int))))) (o_eq (ec_L ec_int) x6 (([] : (List Int))))))) (fun _ => Wc.nil)))) (fun _ => rfl)) rfl
noncomputable def q_l_all_orders1 (spots : Int) (found : (List (List Int))) (x3 : (List Int)) (s4 : ((List (List Int)))) : R ((List (List Int))) :=
 (((rg1 spots).bind fun z6 => compR (fun x5 => R.ok ((!decide (x5 ∈ x3)))) (fun x5 => catR x3 ([x5])) z6 []).bind fun x8 => (extR s4 x8).bind fun v9 => R.ok v9).bind fun (u11 : (List (List Int))) => R.ok u11
set_option maxHeartbeats 1000000 in
theorem tq_l_all_orders1 (spots : Int) (found : (List (List Int))) (x3 : (List Int)) (s4 : ((List (List Int)))) : TS [.dat (PyData.int spots), .dat ((eL (eT PyData.int)) found), .any, .own (.lst (s4.map (eT PyData.int))), .dat ((eT PyData.int) x3), .any] b_l_all_orders1 (q_l_all_orders1 spots found x3 s4) (pNx (fun s12 : ((List (List Int))) => [.dat (PyData.int spots), .dat ((eL (eT PyData.int)) found), .any, .own (.lst (s12.map (eT PyData.int))), .any, .any])) :=
 ts_cv (ts_end (fun (u11 : (List (List Int))) => u11) (ts_drop (te_methE 3 (Δa := fun (x8 : (List (List Int))) => [.dat (PyData.int spots), .dat ((eL (eT PyData.int)) found), .any, .own (.lst (s4.map (eT PyData.int))), .dat ((eT PyData.int) x3), .any]) (ds := (fun (x8 : (List (List Int))) => [(eL (eT PyData.int)) x8])) (c := fun _ => isD .none) (Δ := fun (w10 : (List (List Int))) => [.dat (PyData.int spots), .dat ((eL (eT PyData.int)) found), .any, .own (.lst (w10.map (eT PyData.int))), .dat ((eT PyData.int) x3), .any]) (fun (x8 : (List (List Int))) (v9 : (List (List Int))) => v9) rfl rfl (ta_ev (d := (fun (a7 : (List (List Int))) => (eL (eT PyData.int)) a7)) (ds := (fun (a7 : (List (List Int))) => [])) (te_f (tm_comp (Γ := [.dat (PyData.int spots), .dat ((eL (eT PyData.int)) found), .any, .own (.lst (s4.map (eT PyData.int))), .dat ((eT PyData.int) x3), .any]) (Γk := fun x5 => [.dat (PyData.int spots), .dat ((eL (eT PyData.int)) found), .any, .own (.lst (s4.map (eT PyData.int))), .dat ((eT PyData.int) x3), .dat (PyData.int x5)]) (e := PyData.int) (eT PyData.int) (xs := fun (z6 : (List Int)) => z6) (ti_rg1V (ta_cons (tv_var 0 rfl) ta_nil)) rfl (fun x5 => (tk_name 5 _)) (fun x5 => (tm_val (c := isB) (v := (!decide (x5 ∈ x3))) (tb_tstV (tv_binD (tv_var 5 rfl) (tv_var 4 rfl) (o_ninT ec_int x5 x3))))) (fun x5 => (te_vv (tv_var 4 rfl) (tv_tup (ta_cons (tv_var 5 rfl) ta_nil) (sz_lit rfl)) (o_catT (e := PyData.int) x3 ([x5])))) (fun _ _ h => h) (fun _ => rfl)) (fun _ => rfl)) (fun a7 => ta_nil)) (fun _ => rfl) (fun x8 => (om_extend (e := (eT PyData.int)) s4 x8)) (fun _ _ _ h => h) (fun _ _ => (Wc.keep (Wc.keep (Wc.any (Wc.keep (Wc.keep (Wc.any Wc.nil))))))))) (fun u11 => (Wc.keep (Wc.keep (Wc.any (Wc.keep (Wc.any (Wc.any Wc.nil)))))))) rfl
noncomputable def q_l_all_orders2 (spots : Int) (x1 : Int) (s2 : ((List (List Int)))) : R ((List (List Int))) :=
 (foldR (q_l_all_orders1 spots s2) s2 (([] : (List (List Int))))).bind fun (s13 : ((List (List Int)))) =>
 R.ok s13
set_option maxHeartbeats 1000000 in
theorem tq_l_all_orders2 (spots : Int) (x1 : Int) (s2 : ((List (List Int)))) : TS [.dat (PyData.int spots), .dat ((eL (eT PyData.int)) s2), .dat (PyData.int x1), .any, .any, .any] b_l_all_orders2 (q_l_all_orders2 spots x1 s2) (pNx (fun s15 : ((List (List Int))) => [.dat (PyData.int spots), .dat ((eL (eT PyData.int)) s15), .any, .any, .any, .any])) :=
 ts_cv (ts_seq (ts_setS 3 (tm_of (tv_lst ta_nil (sz_lit rfl))))
 (fun _ => (ts_seq (ts_for (xs := fun _ : Unit => s2) (e := (eT PyData.int)) (Inv := (fun s4 : ((List (List Int))) => [.dat (PyData.int spots), .dat ((eL (eT PyData.int)) s2), .any, .own (.lst (s4.map (eT PyData.int))), .any, .any])) (fun _ : Unit => (([] : (List (List Int))) : ((List (List Int))))) (tm_of (ti_seqV (tv_var 1 rfl) rfl)) (fun _ => (Wc.keep (Wc.keep (Wc.any (Wc.keep (Wc.any (Wc.any Wc.nil))))))) (fun x3 s4 => (tk_name 4 _)) (fun x3 s4 => tq_l_all_orders1 spots s2 x3 s4))
 (fun s13 => (ts_wk0 (Wc.keep (Wc.keep (Wc.any (Wc.frz rfl (Wc.any (Wc.any Wc.nil)))))) (ts_end (fun (_ : Unit) => s13) (ts_setD 1 (tm_of (tv_var 3 rfl))) (fun _ => (Wc.keep (Wc.keep (Wc.any (Wc.any (Wc.any (Wc.any Wc.nil))))))))))))) rfl
noncomputable def p_l_all_orders (spots : Int) : R (List (List Int)) :=
 ((rg1 spots).bind fun z17 => foldR (q_l_all_orders2 spots) z17 ([[]])).bind fun (s16 : ((List (List Int)))) =>
 R.ok s16
set_option maxHeartbeats 1000000 in
theorem t_l_all_orders (spots : Int) : TF m_l_all_orders [.dat (PyData.int spots)] (p_l_all_orders spots) (fun v : (List (List Int)) => isD ((eL (eT PyData.int)) v)) (fun v : (List (List Int)) => []) :=
 tf_cv (tf_mk (ts_seq (ts_setD 1 (tm_of (tv_f (tv_lst (ta_cons (tv_tup ta_nil (sz_lit rfl)) ta_nil) (sz_lit rfl)) rfl)))
 (fun _ => (ts_seq (ts_for (xs := fun (z17 : (List Int)) => z17) (e := PyData.int) (Inv := (fun s2 : ((List (List Int))) => [.dat (PyData.int spots), .dat ((eL (eT PyData.int)) s2), .any, .any, .any, .any])) (fun (z17 : (List Int)) => ([[]] : ((List (List Int))))) (ti_rg1V (ta_cons (tv_var 0 rfl) ta_nil)) (fun z17 => (Wc.keep (Wc.keep (Wc.any (Wc.any (Wc.any (Wc.any Wc.nil))))))) (fun x1 s2 => (tk_name 2 _)) (fun x1 s2 => tq_l_all_orders2 spots x1 s2))
 (fun s16 => (ts_retV (c := fun v : (List (List Int)) => isD ((eL (eT PyData.int)) v)) (Δr := fun v : (List (List Int)) => []) s16 (tv_var 1 rfl) Wc.nil))))) (fun _ => rfl)) rfl
noncomputable def q_law1 (tape : ((List Int) × Int × Int)) (table : (List (List Int))) (bars : (List (Int × Int))) (found : Fx.D) (steps : (List Int)) (few : (List Int)) (free : (List (List Int))) (x42 : Int) (s43 : Unit) : R (Out Unit Bool) :=
 (((atR free x42).bind fun z45 => compR (fun x44 => R.ok ((!decide (x44 ∈ few)))) (fun x44 => R.ok x44) z45 []).bind fun x46 => R.ok ((!decide (x46 = ([] : (List Int)))))).bind fun b47 => if b47 = true then R.ok (.rt false)
 else R.ok (.nx ())
set_option maxHeartbeats 1000000 in
theorem tq_law1 (tape : ((List Int) × Int × Int)) (table : (List (List Int))) (bars : (List (Int × Int))) (found : Fx.D) (steps : (List Int)) (few : (List Int)) (free : (List (List Int))) (x42 : Int) (s43 : Unit) : TS [.any, .own (.lst [(eL PyData.int) tape.1, PyData.int tape.2.1, PyData.int tape.2.2]), .any, .any, .dat ((eT (eT PyData.int)) table), .dat ((eT (eP2 PyData.int PyData.int)) bars), .any, .any, .dat ((fun z : Fx.D => z) found), .any, .dat ((eT PyData.int) steps), .dat ((eT PyData.int) few), .dat ((eL (eL PyData.int)) free), .dat (PyData.int x42), .any] b_law1 (q_law1 tape table bars found steps few free x42 s43) (pMx (fun s48 : Unit => [.any, .own (.lst [(eL PyData.int) tape.1, PyData.int tape.2.1, PyData.int tape.2.2]), .any, .any, .dat ((eT (eT PyData.int)) table), .dat ((eT (eP2 PyData.int PyData.int)) bars), .any, .any, .dat ((fun z : Fx.D => z) found), .any, .dat ((eT PyData.int) steps), .dat ((eT PyData.int) few), .dat ((eL (eL PyData.int)) free), .any, .any]) (fun v : Bool => isD (PyData.bool v)) (fun v : Bool => [])) :=
 ts_cv (ts_if (b := fun (b47 : Bool) => b47) (tb_tst (te_ev (te_f (tm_comp (Γ := [.any, .own (.lst [(eL PyData.int) tape.1, PyData.int tape.2.1, PyData.int tape.2.2]), .any, .any, .dat ((eT (eT PyData.int)) table), .dat ((eT (eP2 PyData.int PyData.int)) bars), .any, .any, .dat ((fun z : Fx.D => z) found), .any, .dat ((eT PyData.int) steps), .dat ((eT PyData.int) few), .dat ((eL (eL PyData.int)) free), .dat (PyData.int x42), .any]) (Γk := fun x44 => [.any, .own (.lst [(eL PyData.int) tape.1, PyData.int tape.2.1, PyData.int tape.2.2]), .any, .any, .dat ((eT (eT PyData.int)) table), .dat ((eT (eP2 PyData.int PyData.int)) bars), .any, .any, .dat ((fun z : Fx.D => z) found), .any, .dat ((eT PyData.int) steps), .dat ((eT PyData.int) few), .dat ((eL (eL PyData.int)) free), .dat (PyData.int x42), .dat (PyData.int x44)]) (e := PyData.int) PyData.int (xs := fun (z45 : (List Int)) => z45) (ti_seq (te_vv (tv_var 12 rfl) (tv_var 13 rfl) (q_ixL (eL PyData.int) free x42)) (fun _ => rfl)) rfl (fun x44 => (tk_name 14 _)) (fun x44 => (tm_val (c := isB) (v := (!decide (x44 ∈ few))) (tb_tstV (tv_binD (tv_var 14 rfl) (tv_var 11 rfl) (o_ninT ec_int x44 few))))) (fun x44 => (tm_val (c := fun (z : Int) => isD (PyData.int z)) (v := x44) (tv_var 14 rfl))) (fun _ _ h => h) (fun _ => rfl)) (fun _ => rfl)) (fun x46 => (tv_f (tv_lst ta_nil (sz_lit rfl)) rfl)) (fun x46 => (opF_D PyData.bool ((!decide (x46 = ([] : (List Int))))) (o_ne (ec_L ec_int) x46 (([] : (List Int)))))))) (fun b47 => (ts_mxR (ts_retV (c := fun v : Bool => isD (PyData.bool v)) (Δr := fun v : Bool => []) false (tv_c _) Wc.nil)))
 (fun b47 => (ts_mxN (ts_end (fun _ : Unit => ()) ts_nop (fun _ => (Wc.any (Wc.keep (Wc.any (Wc.any (Wc.keep (Wc.keep (Wc.any (Wc.any (Wc.keep (Wc.any (Wc.keep (Wc.keep (Wc.keep (Wc.any (Wc.any Wc.nil)))))))))))))))))))) rfl
noncomputable def q_law2  (x1 : Int) (s2 : (((List Int) × Int × Int))) : R (Out (((List Int) × Int × Int)) Bool) :=
 ((p_l_draw s2 5).bind fun y4 => R.ok ((2 + y4.1), y4.2)).bind fun (spots7 : (Int × ((List Int) × Int × Int))) =>
 (((p_l_draw spots7.2 spots7.1).bind fun y9 => R.ok ((1 + y9.1), y9.2)).bind fun w13 => (p_l_a_table w13.2 spots7.1 w13.1).bind fun v14 => R.ok v14).bind fun (table16 : ((List (List Int)) × ((List Int) × Int × Int))) =>
 (((p_l_draw table16.2 3).bind fun y18 => (atR ([0, 4, 20]) y18.1).bind fun z19 => R.ok (z19, y18.2)).bind fun w22 => (p_l_a_bars w22.2 spots7.1 w22.1).bind fun v23 => R.ok v23).bind fun (bars25 : ((List (Int × Int)) × ((List Int) × Int × Int))) =>
 ((p_l_all_orders spots7.1).bind fun z27 => compR (fun x26 => p_l_goes table16.1 bars25.1 x26) (fun x26 => R.ok x26) z27 []).bind fun (some'28 : (List (List Int))) =>
 (p_first_beside table16.1 ((some bars25.1))).bind fun (found29 : Fx.D) =>
 ((if (!decide (some'28 = ([] : (List (List Int))))) = true then ((atR some'28 0).bind fun x32 => neDR found29 (((eP2 PyData.str (eT PyData.int)) ((("order" : Str), x32))))).bind fun b33 => if b33 = true then R.ok (.rt false)
 else R.ok (.nx ())
 else ((asP3G asSR asTIR asTIR) found29).bind fun (x34 : (Str × (List Int) × (List Int))) =>
 (p_l_free table16.1 bars25.1).bind fun (free35 : (List (List Int))) =>
 (if (!decide (x34.1 = ("bars" : Str))) = true then R.ok true else if (decide ((x34.2.1.length : Int) ≤ (x34.2.2.length : Int))) = true then R.ok true else (sortSetR x34.2.1).bind fun x36 => R.ok ((!decide (x34.2.1 = x36)))).bind fun b39 => if b39 = true then (R.ok false).bind (fun r => R.ok (.rt r))
 else ((sortSetR x34.2.2).bind fun x40 => R.ok ((!decide (x34.2.2 = x40)))).bind fun b41 => if b41 = true then (R.ok false).bind (fun r => R.ok (.rt r))
 else (loopR (q_law1 bars25.2 table16.1 bars25.1 found29 x34.2.1 x34.2.2 free35) x34.2.1 (())).bind fun o => o.go (fun (s49 : Unit) => ((p_bars_so table16.1 x34.2.1 x34.2.2 ((some bars25.1))).bind fun x51 => R.ok ((!decide (x51 = true)))).bind fun b52 => if b52 = true then R.ok (.rt false)
 else R.ok (.nx ())) fun r => R.ok (.rt r) : R (Out Unit Bool))).bind fun o => o.go (fun (s53 : Unit) => (((p_first_beside table16.1 ((some bars25.1))).bind fun x55 => neDR x55 found29).bind fun b58 => if b58 = true then R.ok true else if (decide (bars25.1 = [])) = true then (p_first_beside table16.1 none).bind fun x56 => neDR x56 found29 else R.ok false).bind fun b59 => if b59 = true then R.ok (.rt false)
 else R.ok (.nx bars25.2)) fun r => R.ok (.rt r)
set_option maxHeartbeats 1000000 in
theorem tq_law2  (x1 : Int) (s2 : (((List Int) × Int × Int))) : TS [.any, .own (.lst [(eL PyData.int) s2.1, PyData.int s2.2.1, PyData.int s2.2.2]), .dat (PyData.int x1), .any, .any, .any, .any, .any, .any, .any, .any, .any, .any, .any, .any] b_law2 (q_law2  x1 s2) (pMx (fun s60 : (((List Int) × Int × Int)) => [.any, .own (.lst [(eL PyData.int) s60.1, PyData.int s60.2.1, PyData.int s60.2.2]), .any, .any, .any, .any, .any, .any, .any, .any, .any, .any, .any, .any, .any]) (fun v : Bool => isD (PyData.bool v)) (fun v : Bool => [])) :=
 ts_cv (ts_seq (ts_setD 3 (te_st (Δa := fun (_ : Unit) => [.any, .own (.lst [(eL PyData.int) s2.1, PyData.int s2.2.1, PyData.int s2.2.2]), .dat (PyData.int x1), .any, .any, .any, .any, .any, .any, .any, .any, .any, .any, .any, .any]) (Δb := fun (_ : Unit) (y4 : (Int × ((List Int) × Int × Int))) => [.any, .own (.lst [(eL PyData.int) y4.2.1, PyData.int y4.2.2.1, PyData.int y4.2.2.2]), .dat (PyData.int x1), .any, .any, .any, .any, .any, .any, .any, .any, .any, .any, .any, .any]) (da := (fun (_ : Unit) => PyData.int 2)) (db := (fun (_ : Unit) (y4 : (Int × ((List Int) × Int × Int))) => PyData.int y4.1)) (c := fun (w6 : (Int × ((List Int) × Int × Int))) => isD (PyData.int w6.1)) (Δ := fun (w6 : (Int × ((List Int) × Int × Int))) => [.any, .own (.lst [(eL PyData.int) w6.2.1, PyData.int w6.2.2.1, PyData.int w6.2.2.2]), .dat (PyData.int x1), .any, .any, .any, .any, .any, .any, .any, .any, .any, .any, .any, .any]) (fun (_ : Unit) (y4 : (Int × ((List Int) × Int × Int))) (z5 : Int) => (z5, y4.2)) (tm_of (tv_c _)) (fun _ => (te_callO (mv := [some 1, none]) (t_l_draw s2 5) (tr_own 1 rfl rfl (tr_of (ta_cons (tv_c _) ta_nil)) (fun _ => rfl) (fun _ => rfl)))) (fun _ y4 => (opF_D PyData.int ((2 + y4.1)) (o_add 2 y4.1))) (fun _ _ _ _ h => h) (fun _ _ _ => (Wc.any (Wc.keep (Wc.keep (Wc.any (Wc.any (Wc.any (Wc.any (Wc.any (Wc.any (Wc.any (Wc.any (Wc.any (Wc.any (Wc.any (Wc.any Wc.nil))))))))))))))))))
 (fun spots7 => (ts_seq (ts_setD 4 (te_callOE (mv := [some 1, none, none]) (pa := (p_l_draw spots7.2 spots7.1).bind fun y9 => R.ok ((1 + y9.1), y9.2)) (Δa := fun (w13 : (Int × ((List Int) × Int × Int))) => [.any, .any, .dat (PyData.int x1), .dat (PyData.int spots7.1), .any, .any, .any, .any, .any, .any, .any, .any, .any, .any, .any]) (as := fun (w13 : (Int × ((List Int) × Int × Int))) => [.own (.lst [(eL PyData.int) w13.2.1, PyData.int w13.2.2.1, PyData.int w13.2.2.2]), .dat (PyData.int spots7.1), .dat (PyData.int w13.1)]) (c := fun (z15 : ((List (List Int)) × ((List Int) × Int × Int))) => isD ((eT (eT PyData.int)) z15.1)) (Δ := fun (z15 : ((List (List Int)) × ((List Int) × Int × Int))) => [.any, .own (.lst [(eL PyData.int) z15.2.1, PyData.int z15.2.2.1, PyData.int z15.2.2.2]), .dat (PyData.int x1), .dat (PyData.int spots7.1), .any, .any, .any, .any, .any, .any, .any, .any, .any, .any, .any]) (fun (_ : (Int × ((List Int) × Int × Int))) (v14 : ((List (List Int)) × ((List Int) × Int × Int))) => v14) (fun w13 => t_l_a_table w13.2 spots7.1 w13.1) (tr_own 1 rfl rfl (tr_v (tv_var 3 rfl) (tr_e (Δa := fun (a12 : (Int × ((List Int) × Int × Int))) => [.any, .own (.lst [(eL PyData.int) a12.2.1, PyData.int a12.2.2.1, PyData.int a12.2.2.2]), .dat (PyData.int x1), .dat (PyData.int spots7.1), .any, .any, .any, .any, .any, .any, .any, .any, .any, .any, .any]) (Δr := fun (a12 : (Int × ((List Int) × Int × Int))) => [.any, .own (.lst [(eL PyData.int) a12.2.1, PyData.int a12.2.2.1, PyData.int a12.2.2.2]), .dat (PyData.int x1), .dat (PyData.int spots7.1), .any, .any, .any, .any, .any, .any, .any, .any, .any, .any, .any]) (d := (fun (a12 : (Int × ((List Int) × Int × Int))) => PyData.int a12.1)) (as := fun (a12 : (Int × ((List Int) × Int × Int))) => []) (te_st (Δa := fun (_ : Unit) => [.any, .own (.lst [(eL PyData.int) spots7.2.1, PyData.int spots7.2.2.1, PyData.int spots7.2.2.2]), .dat (PyData.int x1), .dat (PyData.int spots7.1), .any, .any, .any, .any, .any, .any, .any, .any, .any, .any, .any]) (Δb := fun (_ : Unit) (y9 : (Int × ((List Int) × Int × Int))) => [.any, .own (.lst [(eL PyData.int) y9.2.1, PyData.int y9.2.2.1, PyData.int y9.2.2.2]), .dat (PyData.int x1), .dat (PyData.int spots7.1), .any, .any, .any, .any, .any, .any, .any, .any, .any, .any, .any]) (da := (fun (_ : Unit) => PyData.int 1)) (db := (fun (_ : Unit) (y9 : (Int × ((List Int) × Int × Int))) => PyData.int y9.1)) (c := fun (w11 : (Int × ((List Int) × Int × Int))) => isD (PyData.int w11.1)) (Δ := fun (w11 : (Int × ((List Int) × Int × Int))) => [.any, .own (.lst [(eL PyData.int) w11.2.1, PyData.int w11.2.2.1, PyData.int w11.2.2.2]), .dat (PyData.int x1), .dat (PyData.int spots7.1), .any, .any, .any, .any, .any, .any, .any, .any, .any, .any, .any]) (fun (_ : Unit) (y9 : (Int × ((List Int) × Int × Int))) (z10 : Int) => (z10, y9.2)) (tm_of (tv_c _)) (fun _ => (te_callO (mv := [some 1, none]) (t_l_draw spots7.2 spots7.1) (tr_own 1 rfl rfl (tr_of (ta_cons (tv_var 3 rfl) ta_nil)) (fun _ => rfl) (fun _ => rfl)))) (fun _ y9 => (opF_D PyData.int ((1 + y9.1)) (o_add 1 y9.1))) (fun _ _ _ _ h => h) (fun _ _ _ => (Wc.any (Wc.keep (Wc.keep (Wc.keep (Wc.any (Wc.any (Wc.any (Wc.any (Wc.any (Wc.any (Wc.any (Wc.any (Wc.any (Wc.any (Wc.any Wc.nil))))))))))))))))) (fun a12 => (tr_of ta_nil)))) (fun _ => rfl) (fun _ => rfl)) (fun _ _ _ h => h) (fun _ _ => (Wc.any (Wc.keep (Wc.keep (Wc.keep (Wc.any (Wc.any (Wc.any (Wc.any (Wc.any (Wc.any (Wc.any (Wc.any (Wc.any (Wc.any (Wc.any Wc.nil))))))))))))))))))
 (fun table16 => (ts_seq (ts_setD 5 (te_callOE (mv := [some 1, none, none]) (pa := (p_l_draw table16.2 3).bind fun y18 => (atR ([0, 4, 20]) y18.1).bind fun z19 => R.ok (z19, y18.2)) (Δa := fun (w22 : (Int × ((List Int) × Int × Int))) => [.any, .any, .dat (PyData.int x1), .dat (PyData.int spots7.1), .dat ((eT (eT PyData.int)) table16.1), .any, .any, .any, .any, .any, .any, .any, .any, .any, .any]) (as := fun (w22 : (Int × ((List Int) × Int × Int))) => [.own (.lst [(eL PyData.int) w22.2.1, PyData.int w22.2.2.1, PyData.int w22.2.2.2]), .dat (PyData.int spots7.1), .dat (PyData.int w22.1)]) (c := fun (z24 : ((List (Int × Int)) × ((List Int) × Int × Int))) => isD ((eT (eP2 PyData.int PyData.int)) z24.1)) (Δ := fun (z24 : ((List (Int × Int)) × ((List Int) × Int × Int))) => [.any, .own (.lst [(eL PyData.int) z24.2.1, PyData.int z24.2.2.1, PyData.int z24.2.2.2]), .dat (PyData.int x1), .dat (PyData.int spots7.1), .dat ((eT (eT PyData.int)) table16.1), .any, .any, .any, .any, .any, .any, .any, .any, .any, .any]) (fun (_ : (Int × ((List Int) × Int × Int))) (v23 : ((List (Int × Int)) × ((List Int) × Int × Int))) => v23) (fun w22 => t_l_a_bars w22.2 spots7.1 w22.1) (tr_own 1 rfl rfl (tr_v (tv_var 3 rfl) (tr_e (Δa := fun (a21 : (Int × ((List Int) × Int × Int))) => [.any, .own (.lst [(eL PyData.int) a21.2.1, PyData.int a21.2.2.1, PyData.int a21.2.2.2]), .dat (PyData.int x1), .dat (PyData.int spots7.1), .dat ((eT (eT PyData.int)) table16.1), .any, .any, .any, .any, .any, .any, .any, .any, .any, .any]) (Δr := fun (a21 : (Int × ((List Int) × Int × Int))) => [.any, .own (.lst [(eL PyData.int) a21.2.1, PyData.int a21.2.2.1, PyData.int a21.2.2.2]), .dat (PyData.int x1), .dat (PyData.int spots7.1), .dat ((eT (eT PyData.int)) table16.1), .any, .any, .any, .any, .any, .any, .any, .any, .any, .any]) (d := (fun (a21 : (Int × ((List Int) × Int × Int))) => PyData.int a21.1)) (as := fun (a21 : (Int × ((List Int) × Int × Int))) => []) (te_st (Δa := fun (_ : Unit) => [.any, .own (.lst [(eL PyData.int) table16.2.1, PyData.int table16.2.2.1, PyData.int table16.2.2.2]), .dat (PyData.int x1), .dat (PyData.int spots7.1), .dat ((eT (eT PyData.int)) table16.1), .any, .any, .any, .any, .any, .any, .any, .any, .any, .any]) (Δb := fun (_ : Unit) (y18 : (Int × ((List Int) × Int × Int))) => [.any, .own (.lst [(eL PyData.int) y18.2.1, PyData.int y18.2.2.1, PyData.int y18.2.2.2]), .dat (PyData.int x1), .dat (PyData.int spots7.1), .dat ((eT (eT PyData.int)) table16.1), .any, .any, .any, .any, .any, .any, .any, .any, .any, .any]) (da := (fun (_ : Unit) => (eL PyData.int) ([0, 4, 20]))) (db := (fun (_ : Unit) (y18 : (Int × ((List Int) × Int × Int))) => PyData.int y18.1)) (c := fun (w20 : (Int × ((List Int) × Int × Int))) => isD (PyData.int w20.1)) (Δ := fun (w20 : (Int × ((List Int) × Int × Int))) => [.any, .own (.lst [(eL PyData.int) w20.2.1, PyData.int w20.2.2.1, PyData.int w20.2.2.2]), .dat (PyData.int x1), .dat (PyData.int spots7.1), .dat ((eT (eT PyData.int)) table16.1), .any, .any, .any, .any, .any, .any, .any, .any, .any, .any]) (fun (_ : Unit) (y18 : (Int × ((List Int) × Int × Int))) (z19 : Int) => (z19, y18.2)) (tm_of (tv_f (tv_lst (ta_cons (tv_c _) (ta_cons (tv_c _) (ta_cons (tv_c _) ta_nil))) (sz_lit rfl)) rfl)) (fun _ => (te_callO (mv := [some 1, none]) (t_l_draw table16.2 3) (tr_own 1 rfl rfl (tr_of (ta_cons (tv_c _) ta_nil)) (fun _ => rfl) (fun _ => rfl)))) (fun _ y18 => (q_ixL PyData.int ([0, 4, 20]) y18.1)) (fun _ _ _ _ h => h) (fun _ _ _ => (Wc.any (Wc.keep (Wc.keep (Wc.keep (Wc.keep (Wc.any (Wc.any (Wc.any (Wc.any (Wc.any (Wc.any (Wc.any (Wc.any (Wc.any (Wc.any Wc.nil))))))))))))))))) (fun a21 => (tr_of ta_nil)))) (fun _ => rfl) (fun _ => rfl)) (fun _ _ _ h => h) (fun _ _ => (Wc.any (Wc.keep (Wc.keep (Wc.keep (Wc.keep (Wc.any (Wc.any (Wc.any (Wc.any (Wc.any (Wc.any (Wc.any (Wc.any (Wc.any (Wc.any Wc.nil))))))))))))))))))
 (fun bars25 => (ts_seq (ts_setD 6 (te_f (tm_comp (Γ := [.any, .own (.lst [(eL PyData.int) bars25.2.1, PyData.int bars25.2.2.1, PyData.int bars25.2.2.2]), .dat (PyData.int x1), .dat (PyData.int spots7.1), .dat ((eT (eT PyData.int)) table16.1), .dat ((eT (eP2 PyData.int PyData.int)) bars25.1), .any, .any, .any, .any, .any, .any, .any, .any, .any]) (Γk := fun x26 => [.any, .own (.lst [(eL PyData.int) bars25.2.1, PyData.int bars25.2.2.1, PyData.int bars25.2.2.2]), .dat (PyData.int x1), .dat (PyData.int spots7.1), .dat ((eT (eT PyData.int)) table16.1), .dat ((eT (eP2 PyData.int PyData.int)) bars25.1), .any, .dat ((eT PyData.int) x26), .any, .any, .any, .any, .any, .any, .any]) (e := (eT PyData.int)) (eT PyData.int) (xs := fun (z27 : (List (List Int))) => z27) (ti_seq (te_callV (t_l_all_orders spots7.1) (ta_cons (tv_var 3 rfl) ta_nil) rfl rfl) (fun _ => rfl)) rfl (fun x26 => (tk_name 7 _)) (fun x26 => (tb_tst (te_callV (t_l_goes table16.1 bars25.1 x26) (ta_cons (tv_var 4 rfl) (ta_cons (tv_var 5 rfl) (ta_cons (tv_var 7 rfl) ta_nil))) rfl rfl))) (fun x26 => (tm_val (c := fun (z : (List Int)) => isD ((eT PyData.int) z)) (v := x26) (tv_var 7 rfl))) (fun _ _ h => h) (fun _ => rfl)) (fun _ => rfl)))
 (fun some'28 => (ts_seq (ts_setD 8 (te_callV (t_first_beside table16.1 ((some bars25.1))) (ta_cons (tv_var 4 rfl) (ta_cons (tv_var 5 rfl) ta_nil)) rfl rfl))
 (fun found29 => (ts_seqM (ts_if (post := pMx (fun s54 : Unit => [.any, .own (.lst [(eL PyData.int) bars25.2.1, PyData.int bars25.2.2.1, PyData.int bars25.2.2.2]), .any, .any, .dat ((eT (eT PyData.int)) table16.1), .dat ((eT (eP2 PyData.int PyData.int)) bars25.1), .any, .any, .dat ((fun z : Fx.D => z) found29), .any, .any, .any, .any, .any, .any]) (fun v : Bool => isD (PyData.bool v)) (fun v : Bool => [])) (b := fun (_ : Unit) => (!decide (some'28 = ([] : (List (List Int)))))) (tm_of (tb_tstV (tv_binD (tv_var 6 rfl) (tv_f (tv_lst ta_nil (sz_lit rfl)) rfl) (o_ne (ec_L (ec_T ec_int)) some'28 (([] : (List (List Int)))))))) (fun _ => (ts_if (b := fun (b33 : Bool) => b33) (tb_tst (te_ve (tv_var 8 rfl) (te_tup (ta_veA (d := PyData.str (("order" : Str))) (ds := (fun (z : (List Int)) => [(eT PyData.int) z])) (tv_c _) (ta_ev (d := (fun (a31 : (List Int)) => (eT PyData.int) a31)) (ds := (fun (a31 : (List Int)) => [])) (te_vv (tv_var 6 rfl) (tv_c _) (q_ixL (eT PyData.int) some'28 0)) (fun a31 => ta_nil))) (fun _ => (sz_lit rfl))) (fun x32 => (q_neD found29 (((eP2 PyData.str (eT PyData.int)) ((("order" : Str), x32)))))))) (fun b33 => (ts_mxR (ts_retV (c := fun v : Bool => isD (PyData.bool v)) (Δr := fun v : Bool => []) false (tv_c _) Wc.nil)))
 (fun b33 => (ts_mxN (ts_end (fun _ : Unit => ()) ts_nop (fun _ => (Wc.any (Wc.keep (Wc.any (Wc.any (Wc.keep (Wc.keep (Wc.any (Wc.any (Wc.keep (Wc.any (Wc.any (Wc.any (Wc.any (Wc.any (Wc.any Wc.nil)))))))))))))))))))))
 (fun _ => (ts_seq (ts_asgT (te_asV (tv_var 8 rfl) (as_p3G as_str as_tint as_tint found29)) (fun x34 => (tk_tup (tkl_cons (tk_name 9 _) (tkl_cons (tk_name 10 _) (tkl_cons (tk_name 11 _) tkl_nil))) rfl)))
 (fun x34 => (ts_seq (ts_setD 12 (te_f (te_callV (t_l_free table16.1 bars25.1) (ta_cons (tv_var 4 rfl) (ta_cons (tv_var 5 rfl) ta_nil)) rfl rfl) (fun _ => rfl)))
 (fun free35 => (ts_ifM (b := fun (b39 : Bool) => b39) (tb_or (tm_val (c := isB) (v := (!decide (x34.1 = ("bars" : Str)))) (tb_tstV (tv_binD (tv_var 9 rfl) (tv_c _) (o_ne ec_str x34.1 (("bars" : Str)))))) (tb_or (tm_val (c := isB) (v := (decide ((x34.2.1.length : Int) ≤ (x34.2.2.length : Int)))) (tb_tstV (tv_binD (tv_cbD (ta_cons (tv_var 11 rfl) ta_nil) (o_lenT (e := PyData.int) x34.2.2)) (tv_cbD (ta_cons (tv_var 10 rfl) ta_nil) (o_lenT (e := PyData.int) x34.2.1)) (o_ge ((x34.2.2.length : Int)) ((x34.2.1.length : Int)))))) (tb_tst (te_ve (tv_f (tv_cbS (ta_cons (tv_var 10 rfl) ta_nil) (o_listT (e := PyData.int) x34.2.1)) rfl) (te_f (te_uv (tv_var 10 rfl) (o_sortSetT x34.2.1)) (fun _ => rfl)) (fun x36 => (opF_D PyData.bool ((!decide (x34.2.1 = x36))) (o_ne (ec_L ec_int) x34.2.1 x36))))))) (fun b39 => (ts_retV (c := fun v : Bool => isD (PyData.bool v)) (Δr := fun v : Bool => []) false (tv_c _) Wc.nil))
 (fun b39 => (ts_ifM (b := fun (b41 : Bool) => b41) (tb_tst (te_ve (tv_f (tv_cbS (ta_cons (tv_var 11 rfl) ta_nil) (o_listT (e := PyData.int) x34.2.2)) rfl) (te_f (te_uv (tv_var 11 rfl) (o_sortSetT x34.2.2)) (fun _ => rfl)) (fun x40 => (opF_D PyData.bool ((!decide (x34.2.2 = x40))) (o_ne (ec_L ec_int) x34.2.2 x40))))) (fun b41 => (ts_retV (c := fun v : Bool => isD (PyData.bool v)) (Δr := fun v : Bool => []) false (tv_c _) Wc.nil))
 (fun b41 => (ts_seqM (ts_forM (xs := fun _ : Unit => x34.2.1) (e := PyData.int) (Inv := (fun s43 : Unit => [.any, .own (.lst [(eL PyData.int) bars25.2.1, PyData.int bars25.2.2.1, PyData.int bars25.2.2.2]), .any, .any, .dat ((eT (eT PyData.int)) table16.1), .dat ((eT (eP2 PyData.int PyData.int)) bars25.1), .any, .any, .dat ((fun z : Fx.D => z) found29), .any, .dat ((eT PyData.int) x34.2.1), .dat ((eT PyData.int) x34.2.2), .dat ((eL (eL PyData.int)) free35), .any, .any])) (fun _ : Unit => (() : Unit)) (tm_of (ti_seqV (tv_var 10 rfl) rfl)) (fun _ => (Wc.any (Wc.keep (Wc.any (Wc.any (Wc.keep (Wc.keep (Wc.any (Wc.any (Wc.keep (Wc.any (Wc.keep (Wc.keep (Wc.keep (Wc.any (Wc.any Wc.nil)))))))))))))))) (fun x42 s43 => (tk_name 13 _)) (fun x42 s43 => tq_law1 bars25.2 table16.1 bars25.1 found29 x34.2.1 x34.2.2 free35 x42 s43)) (fun s49 => (ts_if (b := fun (b52 : Bool) => b52) (tb_tst (te_ev (te_callV (t_bars_so table16.1 x34.2.1 x34.2.2 ((some bars25.1))) (ta_cons (tv_var 4 rfl) (ta_cons (tv_var 10 rfl) (ta_cons (tv_var 11 rfl) (ta_cons (tv_var 5 rfl) ta_nil)))) rfl rfl) (fun x51 => (tv_c _)) (fun x51 => (opF_D PyData.bool ((!decide (x51 = true))) (o_notB x51 true))))) (fun b52 => (ts_mxR (ts_retV (c := fun v : Bool => isD (PyData.bool v)) (Δr := fun v : Bool => []) false (tv_c _) Wc.nil)))
 (fun b52 => (ts_mxN (ts_end (fun _ : Unit => ()) ts_nop (fun _ => (Wc.any (Wc.keep (Wc.any (Wc.any (Wc.keep (Wc.keep (Wc.any (Wc.any (Wc.keep (Wc.any (Wc.any (Wc.any (Wc.any (Wc.any (Wc.any Wc.nil)))))))))))))))))))))))))))))))) (fun s53 => (ts_if (b := fun (b59 : Bool) => b59) (tb_or (tb_tst (te_ev (te_callV (t_first_beside table16.1 ((some bars25.1))) (ta_cons (tv_var 4 rfl) (ta_cons (tv_var 5 rfl) ta_nil)) rfl rfl) (fun x55 => (tv_var 8 rfl)) (fun x55 => (q_neD x55 found29)))) (tb_and (tm_val (c := isB) (v := (decide (bars25.1 = []))) (tb_tstV (tv_binD (tv_var 5 rfl) (tv_tup ta_nil (sz_lit rfl)) (o_eq (ec_T (ec_P2 ec_int ec_int)) bars25.1 ([]))))) (tb_tst (te_ev (te_callV (t_first_beside table16.1 none) (ta_dfl (dd := [PyData.none]) (ta_cons (tv_var 4 rfl) ta_nil)) rfl rfl) (fun x56 => (tv_var 8 rfl)) (fun x56 => (q_neD x56 found29)))))) (fun b59 => (ts_mxR (ts_retV (c := fun v : Bool => isD (PyData.bool v)) (Δr := fun v : Bool => []) false (tv_c _) Wc.nil)))
 (fun b59 => (ts_mxN (ts_end (fun _ : Unit => bars25.2) ts_nop (fun _ => (Wc.any (Wc.keep (Wc.any (Wc.any (Wc.any (Wc.any (Wc.any (Wc.any (Wc.any (Wc.any (Wc.any (Wc.any (Wc.any (Wc.any (Wc.any Wc.nil)))))))))))))))))))))))))))))))) rfl
noncomputable def p_law (script : List Int) : R Bool :=
 ((rg1 5).bind fun z62 => loopR q_law2 z62 ((script, 0, 0))).bind fun o => o.go (fun (s61 : (((List Int) × Int × Int))) => R.ok true) R.ok
set_option maxHeartbeats 1000000 in
theorem t_law (script : List Int) : TF m_law [.own (.scr script)] (p_law script) (fun v : Bool => isD (PyData.bool v)) (fun v : Bool => []) :=
 tf_cv (tf_mk (ts_seq (ts_setS 1 (tm_of (tv_lst (ta_cons (tv_f (tv_listScr 0 rfl) rfl) (ta_cons (tv_c _) (ta_cons (tv_c _) ta_nil))) (sz_lit rfl))))
 (fun _ => (ts_seqR (ts_forM (xs := fun (z62 : (List Int)) => z62) (e := PyData.int) (Inv := (fun s2 : (((List Int) × Int × Int)) => [.any, .own (.lst [(eL PyData.int) s2.1, PyData.int s2.2.1, PyData.int s2.2.2]), .any, .any, .any, .any, .any, .any, .any, .any, .any, .any, .any, .any, .any])) (fun (z62 : (List Int)) => ((script, 0, 0) : (((List Int) × Int × Int)))) (ti_rg1V (ta_cons (tv_c _) ta_nil)) (fun z62 => (Wc.any (Wc.keep (Wc.any (Wc.any (Wc.any (Wc.any (Wc.any (Wc.any (Wc.any (Wc.any (Wc.any (Wc.any (Wc.any (Wc.any (Wc.any Wc.nil)))))))))))))))) (fun x1 s2 => (tk_name 2 _)) (fun x1 s2 => tq_law2  x1 s2)) (fun s61 => (ts_retV (c := fun v : Bool => isD (PyData.bool v)) (Δr := fun v : Bool => []) true (tv_c _) Wc.nil))))) (fun _ => rfl)) rfl
end Law

set_option Elab.async false
set_option linter.all false
set_option maxRecDepth 100000
namespace Fx
open PySem L2
noncomputable section
instance : Inhabited PyData := ⟨.none⟩
/-! ### data of no great size -/
def Fine (w : Nat) : Nat → D → Prop
  | 0, d => match d with
    | .none => True
    | .bool _ => True
    | .int _ => True
    | .str s => s.length ≤ w
    | .list _ => False
    | .tuple _ => False
    | .dict _ => False
  | k + 1, d => match d with
    | .none => True
    | .bool _ => True
    | .int _ => True
    | .str s => s.length ≤ w
    | .list xs => xs.length ≤ w ∧ ∀ x ∈ xs, Fine w k x
    | .tuple xs => xs.length ≤ w ∧ ∀ x ∈ xs, Fine w k x
    | .dict _ => False
theorem Fine.mono {w v : Nat} (hw : w ≤ v) : ∀ {k j : Nat} {d : D}, Fine w k d → k ≤ j → Fine v j d
  | 0, 0, d, h, _ => by
    cases d with
    | str s => exact Nat.le_trans h hw
    | _ => exact h
  | 0, j + 1, d, h, _ => by
    cases d with
    | str s => exact Nat.le_trans h hw
    | list _ => exact h.elim
    | tuple _ => exact h.elim
    | _ => exact h
  | k + 1, 0, d, h, hk => by omega
  | k + 1, j + 1, d, h, hk => by
    cases d with
    | str s => exact Nat.le_trans h hw
    | list xs => exact ⟨Nat.le_trans h.1 hw, fun x hx => Fine.mono hw (h.2 x hx) (by omega)⟩
    | tuple xs => exact ⟨Nat.le_trans h.1 hw, fun x hx => Fine.mono hw (h.2 x hx) (by omega)⟩
    | _ => exact h
theorem plainAll_of : ∀ {xs : List D}, (∀ x ∈ xs, x.plain = true) → PyData.plainAll xs = true
  | [], _ => rfl
  | x :: xs, h => by
    show (x.plain && PyData.plainAll xs) = true
    rw [h x (List.mem_cons_self ..), plainAll_of fun y hy => h y (List.mem_cons_of_mem _ hy)]; rfl
theorem depthAll_of {k : Nat} : ∀ {xs : List D}, (∀ x ∈ xs, x.depth ≤ k) → PyData.depthAll xs ≤ k
  | [], _ => Nat.zero_le _
  | x :: xs, h => by
    show max x.depth (PyData.depthAll xs) ≤ k
    exact Nat.max_le.mpr ⟨h x (List.mem_cons_self ..), depthAll_of fun y hy => h y (List.mem_cons_of_mem _ hy)⟩
theorem Fine.pd {w : Nat} : ∀ {k : Nat} {d : D}, Fine w k d → d.plain = true ∧ d.depth ≤ k
  | 0, d, h => by
    cases d with
    | list _ => exact h.elim
    | tuple _ => exact h.elim
    | dict _ => exact h.elim
    | _ => exact ⟨rfl, Nat.le_refl _⟩
  | k + 1, d, h => by
    cases d with
    | list xs => exact ⟨plainAll_of fun x hx => (Fine.pd (h.2 x hx)).1, Nat.succ_le_succ (depthAll_of fun x hx => (Fine.pd (h.2 x hx)).2)⟩
    | tuple xs => exact ⟨plainAll_of fun x hx => (Fine.pd (h.2 x hx)).1, Nat.succ_le_succ (depthAll_of fun x hx => (Fine.pd (h.2 x hx)).2)⟩
    | dict _ => exact h.elim
    | _ => exact ⟨rfl, Nat.zero_le _⟩
theorem Fine.pl {w k : Nat} {d : D} (h : Fine w k d) (hk : k ≤ 40) : Fx.pl d = true := by
  unfold Fx.pl
  rw [h.pd.1, decide_eq_true (Nat.le_trans h.pd.2 hk)]; rfl
theorem Fine.tup {w k : Nat} {xs : List D} (h : Fine w k (.tuple xs)) : xs.length ≤ w ∧ ∀ x ∈ xs, Fine w k x := by
  cases k with
  | zero => exact h.elim
  | succ k => exact ⟨h.1, fun x hx => (h.2 x hx).mono (Nat.le_refl _) (Nat.le_succ _)⟩
theorem Fine.lst {w k : Nat} {xs : List D} (h : Fine w k (.list xs)) : xs.length ≤ w ∧ ∀ x ∈ xs, Fine w k x := by
  cases k with
  | zero => exact h.elim
  | succ k => exact ⟨h.1, fun x hx => (h.2 x hx).mono (Nat.le_refl _) (Nat.le_succ _)⟩
theorem fine_int {w k : Nat} {i : Int} : Fine w k (.int i) := by cases k <;> trivial
theorem fine_ints {w k : Nat} {l : List Int} (h : l.length ≤ w) : Fine w (k + 1) (.tuple (l.map PyData.int)) := ⟨by rw [List.length_map]; exact h, fun x hx => by
  obtain ⟨i, _, rfl⟩ := List.mem_map.mp hx
  exact fine_int⟩
/-! ### what kind a datum is of -/
def isIntB : D → Bool
  | .int _ => true
  | .bool _ => true
  | _ => false
def isBoolB : D → Bool
  | .bool _ => true
  | _ => false
def isTupB : D → Bool
  | .tuple _ => true
  | _ => false
def isLstB : D → Bool
  | .list _ => true
  | _ => false
def isStrB : D → Bool
  | .str _ => true
  | _ => false
theorem kb_of {x T : String} {b : Bool} (h : kitB x T = some b) : R.ofO (kitB x T) = .ok b := by rw [h]; rfl
theorem isR_int (d : D) : isiR "int" d = .ok (isIntB d) := by
  cases d
  · exact kb_of (b := false) (show kitB "NoneType" "int" = _ by decide +kernel)
  · exact kb_of (b := true) (show kitB "bool" "int" = _ by decide +kernel)
  · exact kb_of (b := true) (show kitB "int" "int" = _ by decide +kernel)
  · exact kb_of (b := false) (show kitB "str" "int" = _ by decide +kernel)
  · exact kb_of (b := false) (show kitB "list" "int" = _ by decide +kernel)
  · exact kb_of (b := false) (show kitB "tuple" "int" = _ by decide +kernel)
  · exact kb_of (b := false) (show kitB "dict" "int" = _ by decide +kernel)
theorem isR_bool (d : D) : isiR "bool" d = .ok (isBoolB d) := by
  cases d
  · exact kb_of (b := false) (show kitB "NoneType" "bool" = _ by decide +kernel)
  · exact kb_of (b := true) (show kitB "bool" "bool" = _ by decide +kernel)
  · exact kb_of (b := false) (show kitB "int" "bool" = _ by decide +kernel)
  · exact kb_of (b := false) (show kitB "str" "bool" = _ by decide +kernel)
  · exact kb_of (b := false) (show kitB "list" "bool" = _ by decide +kernel)
  · exact kb_of (b := false) (show kitB "tuple" "bool" = _ by decide +kernel)
  · exact kb_of (b := false) (show kitB "dict" "bool" = _ by decide +kernel)
theorem isR_tuple (d : D) : isiR "tuple" d = .ok (isTupB d) := by
  cases d
  · exact kb_of (b := false) (show kitB "NoneType" "tuple" = _ by decide +kernel)
  · exact kb_of (b := false) (show kitB "bool" "tuple" = _ by decide +kernel)
  · exact kb_of (b := false) (show kitB "int" "tuple" = _ by decide +kernel)
  · exact kb_of (b := false) (show kitB "str" "tuple" = _ by decide +kernel)
  · exact kb_of (b := false) (show kitB "list" "tuple" = _ by decide +kernel)
  · exact kb_of (b := true) (show kitB "tuple" "tuple" = _ by decide +kernel)
  · exact kb_of (b := false) (show kitB "dict" "tuple" = _ by decide +kernel)
theorem isR_list (d : D) : isiR "list" d = .ok (isLstB d) := by
  cases d
  · exact kb_of (b := false) (show kitB "NoneType" "list" = _ by decide +kernel)
  · exact kb_of (b := false) (show kitB "bool" "list" = _ by decide +kernel)
  · exact kb_of (b := false) (show kitB "int" "list" = _ by decide +kernel)
  · exact kb_of (b := false) (show kitB "str" "list" = _ by decide +kernel)
  · exact kb_of (b := true) (show kitB "list" "list" = _ by decide +kernel)
  · exact kb_of (b := false) (show kitB "tuple" "list" = _ by decide +kernel)
  · exact kb_of (b := false) (show kitB "dict" "list" = _ by decide +kernel)
theorem isR_str (d : D) : isiR "str" d = .ok (isStrB d) := by
  cases d
  · exact kb_of (b := false) (show kitB "NoneType" "str" = _ by decide +kernel)
  · exact kb_of (b := false) (show kitB "bool" "str" = _ by decide +kernel)
  · exact kb_of (b := false) (show kitB "int" "str" = _ by decide +kernel)
  · exact kb_of (b := true) (show kitB "str" "str" = _ by decide +kernel)
  · exact kb_of (b := false) (show kitB "list" "str" = _ by decide +kernel)
  · exact kb_of (b := false) (show kitB "tuple" "str" = _ by decide +kernel)
  · exact kb_of (b := false) (show kitB "dict" "str" = _ by decide +kernel)
theorem ofO_ok {α : Type} {o : Option α} {a : α} (h : R.ofO o = .ok a) : o = some a := by
  cases o with
  | none => cases h
  | some b => cases h; rfl
theorem isR2_tl (d : D) : isi2R "tuple" "list" d = .ok (isTupB d || isLstB d) := by
  unfold isi2R isiD2
  have h1 : isiD "tuple" d = some (isTupB d) := ofO_ok (isR_tuple d)
  have h2 : isiD "list" d = some (isLstB d) := ofO_ok (isR_list d)
  rw [h1]
  cases isTupB d with
  | true => rfl
  | false => simp only [h2]; rfl
/-! ### whole numbers between -/
def inB (lo hi : Int) : D → Bool
  | .int i => decide (lo ≤ i) && decide (i ≤ hi)
  | _ => false
def numsB (lo hi : Int) : D → Bool
  | .tuple xs => xs.all (inB lo hi)
  | _ => false
theorem inB_ints {lo hi : Int} : ∀ {xs : List D}, xs.all (inB lo hi) = true → ∃ zs : List Int, xs = zs.map PyData.int ∧ ∀ z ∈ zs, lo ≤ z ∧ z ≤ hi
  | [], _ => ⟨[], rfl, fun _ h => by cases h⟩
  | x :: xs, h => by
    rw [List.all_cons, Bool.and_eq_true] at h
    obtain ⟨zs, rfl, hz⟩ := inB_ints h.2
    cases x with
    | int i =>
      have h1 := h.1
      unfold inB at h1
      rw [Bool.and_eq_true, decide_eq_true_eq, decide_eq_true_eq] at h1
      exact ⟨i :: zs, rfl, fun z hz2 => by
        rcases List.mem_cons.mp hz2 with rfl | q
        · exact h1
        · exact hz z q⟩
    | _ => cases h.1
theorem inB_of {lo hi : Int} {zs : List Int} (h : ∀ z ∈ zs, lo ≤ z ∧ z ≤ hi) : (zs.map PyData.int).all (inB lo hi) = true := by
  rw [List.all_map, List.all_eq_true]
  intro z hz
  show (decide (lo ≤ z) && decide (z ≤ hi)) = true
  rw [decide_eq_true (h z hz).1, decide_eq_true (h z hz).2]; rfl
theorem intsD_map : ∀ zs : List Int, intsD (zs.map PyData.int) = some zs
  | [] => rfl
  | z :: zs => by
    show (intsD (zs.map PyData.int)).map (z :: ·) = _
    rw [intsD_map zs]; rfl
/-- a list against none -/
theorem eqDR_nil {l : List D} (h : pl (.list l) = true) : eqDR (eL (fun z : D => z) l) (eL (fun z : D => z) []) = .ok l.isEmpty := by
  unfold eqDR okEq eL
  rw [List.map_id', List.map_nil, h]
  show (if (true && pl (.list [])) = true then _ else _) = _
  rw [show (true && pl (.list [])) = true from rfl, if_pos rfl]
  cases l <;> rfl
theorem pl_list {w k : Nat} {l : List D} (h : ∀ x ∈ l, Fine w k x) (hk : k < 40) : pl (.list l) = true := by
  unfold pl
  rw [show (PyData.list l).plain = true from plainAll_of fun x hx => (h x hx).pd.1]
  have : (PyData.list l).depth ≤ 40 := Nat.le_trans (Nat.succ_le_succ (depthAll_of (k := k) fun x hx => (h x hx).pd.2)) (by omega)
  rw [decide_eq_true this]; rfl
theorem eqDR_int (i j : Int) : eqDR (.int i) (.int j) = .ok (decide (i = j)) := by
  unfold eqDR
  rw [if_pos (show okEq (.int i) (.int j) = true from rfl)]
  show R.ok (i == j) = _
  by_cases h : i = j <;> simp [h]
theorem lenDR_tup (xs : List D) : lenDR (.tuple xs) = .ok (xs.length : Int) := rfl
theorem lenDR_lst (xs : List D) : lenDR (.list xs) = .ok (xs.length : Int) := rfl
theorem ixDR_tup {xs : List D} {i : Int} (h0 : 0 ≤ i) (h1 : i < xs.length) : ixDR (.tuple xs) i = .ok (xs.getD i.toNat .none) := by
  have h : i.toNat < xs.length := by omega
  have e : L2.atI xs i = some (xs.getD i.toNat .none) := by
    unfold L2.atI ixN
    rw [if_pos h0, if_pos h1]
    simp [h]
  unfold ixDR gIx
  simp only [e, Option.map_some]
end
end Fx

set_option Elab.async false
set_option linter.all false
set_option maxRecDepth 100000
namespace Law
open PySem PySem.Spec PyProof.Rows L2 Fx
/-! what is drawn -/
abbrev Tp := List Int × Int × Int
def TpOk (t : Tp) : Prop := 0 ≤ t.2.1 ∧ 0 ≤ t.2.2
theorem draw_ok {t : Tp} {m : Int} (ht : TpOk t) (hm : 0 < m) (hm2 : m ≤ 10 ^ 30) : Ok (p_l_draw t m) fun v => (0 ≤ v.1 ∧ v.1 < m) ∧ TpOk v.2 := by
  obtain ⟨cs, pos, left⟩ := t
  obtain ⟨h1, h2⟩ := ht
  simp only at h1 h2
  have fin : ∀ s : Tp, TpOk s → Ok ((modR s.2.2 m).bind fun f => (divR s.2.2 m).bind fun x => R.ok (f, (s.1, s.2.1, x))) fun v => (0 ≤ v.1 ∧ v.1 < m) ∧ TpOk v.2 := fun s hs => by
    rw [modR_ok hm, divR_ok hm (by omega)]
    refine Ok.ret ⟨⟨Int.emod_nonneg _ (by omega), Int.emod_lt_of_pos _ hm⟩, hs.1, ?_⟩
    exact Int.ediv_nonneg hs.2 (by omega)
  unfold p_l_draw
  refine Ok.bind (Q := TpOk) ?_ fun s hs => fin s hs
  by_cases c1 : left < m
  · simp only [c1, decide_true, if_true]
    refine Ok.bind (Q := fun _ => True) ?_ fun cell _ => ?_
    · by_cases c2 : 0 < (cs.length : Int)
      · simp only [c2, decide_true, if_true]
        rw [modR_ok c2]
        simp only [R.bind_ok]
        rw [atR_ok (Int.emod_nonneg _ (by omega)) (Int.emod_lt_of_pos _ c2)]
        exact Ok.ret trivial
      · simp only [c2, decide_false, Bool.false_eq_true, if_false]
        exact Ok.ret trivial
    · refine Ok.bind (Q := fun c => 0 ≤ c) ?_ fun c hc => Ok.ret ⟨by show (0 : Int) ≤ pos + 1; omega, hc⟩
      have pw : powR 10 18 = .ok (10 ^ 18) := powR_ok (by omega) (by omega) (by decide)
      have big : Ok (((((mulR 1000003 pos).bind fun x10 => R.ok (cell + x10)).bind fun x11 => modR x11 2305843009213693951).bind fun (cell12 : Int) =>
          ((((mulR cell12 cell12).bind fun x13 => (mulR 1181783497276652981 cell12).bind fun y14 => R.ok (x13 + y14)).bind fun x15 => R.ok (x15 + 2049848353892358983)).bind fun x16 => modR x16 2305843009213693951).bind fun (cell17 : Int) =>
          (((mulR cell17 cell17).bind fun x18 => R.ok (x18 + 1442695040888963407)).bind fun x19 => modR x19 2305843009213693951).bind fun (cell20 : Int) => R.ok cell20)) fun c => 0 ≤ c := by
        have md : ∀ x : Int, modR x 2305843009213693951 = .ok (x % 2305843009213693951) := fun x => modR_ok (by omega)
        have m1 : ∀ x : Int, 0 ≤ x % 2305843009213693951 := fun x => Int.emod_nonneg _ (by omega)
        have m2 : ∀ x : Int, x % 2305843009213693951 < 2305843009213693951 := fun x => Int.emod_lt_of_pos _ (by omega)
        rw [mulR_l (by omega) (by omega)]
        simp only [R.bind_ok, md]
        generalize hc : (cell + 1000003 * pos) % 2305843009213693951 = c12
        have b1 := m1 (cell + 1000003 * pos)
        have b2 := m2 (cell + 1000003 * pos)
        rw [hc] at b1 b2
        rw [mulR_l (a := c12) (b := c12) (by omega) (by omega), mulR_l (a := 1181783497276652981) (b := c12) (by omega) (by omega)]
        simp only [R.bind_ok, md]
        generalize hd : (c12 * c12 + 1181783497276652981 * c12 + 2049848353892358983) % 2305843009213693951 = c17
        have d1 := m1 (c12 * c12 + 1181783497276652981 * c12 + 2049848353892358983)
        have d2 := m2 (c12 * c12 + 1181783497276652981 * c12 + 2049848353892358983)
        rw [hd] at d1 d2
        rw [mulR_l (a := c17) (b := c17) (by omega) (by omega)]
        simp only [R.bind_ok, md]
        exact Ok.ret (m1 _)
      by_cases c3 : (cs.length : Int) ≤ pos
      · simp only [c3, decide_true, if_true, R.bind_ok]
        exact big
      · simp only [c3, decide_false, Bool.false_eq_true, if_false]
        rw [pw]
        simp only [R.bind_ok]
        by_cases c4 : cell < 10 ^ 18
        · simp only [c4, decide_true, if_true]
          exact big
        · simp only [c4, decide_false, Bool.false_eq_true, if_false]
          exact Ok.ret (by omega)
  · simp only [c1, decide_false, Bool.false_eq_true, if_false]
    exact Ok.ret ⟨h1, h2⟩
/-- any order -/
def IsOrd (n : Int) (o : List Int) : Prop := o.Perm (irange 0 n)
theorem irange_succ {n : Int} (h : 0 ≤ n) : irange 0 (n + 1) = irange 0 n ++ [n] := by
  unfold irange
  rw [show (n + 1 - 0).toNat = n.toNat + 1 by omega, show (n - 0).toNat = n.toNat by omega, List.range_succ, List.map_append]
  congr 1
  simp; omega
theorem order_ok {t : Tp} {n : Int} (ht : TpOk t) (h0 : 0 ≤ n) (hn : n ≤ 1000) : Ok (p_l_any_order t n) fun v => IsOrd n v.1 ∧ TpOk v.2 := by
  unfold p_l_any_order
  simp only [rg1_ok (show n ≤ 1000000 by omega), R.bind_ok]
  refine Ok.bind (Q := fun s => IsOrd n s.2 ∧ TpOk s.1) ?_ fun s hs => ?_
  · have := ok_fold (f := q_l_any_order1 n) (fun i s => IsOrd (i : Nat) s.2 ∧ TpOk s.1) (irange 0 n) 0 (t, []) ⟨by unfold IsOrd irange; simp, ht⟩ (by
      rintro j a ⟨t, o⟩ e ⟨h1, h2⟩
      obtain ⟨rfl, hb⟩ := irange_get e
      simp only [Nat.zero_add] at h1 h2 ⊢
      have hl : o.length = j := by rw [h1.length_eq, irange_len]; omega
      unfold q_l_any_order1
      refine Ok.bind (Q := fun u => IsOrd ((j : Nat) + 1) u.1 ∧ TpOk u.2) ?_ fun u hu => Ok.ret ⟨by have := hu.1; rw [← Int.natCast_succ] at this; exact this, hu.2⟩
      refine Ok.bind (draw_ok h2 (m := (0 + (j : Nat)) + 1) (by omega) (by omega)) fun v hv => ?_
      obtain ⟨⟨a1, a2⟩, a3⟩ := hv
      rw [insR_ok (by show o.length < _; omega) a1 (by omega)]
      refine Ok.ret ⟨?_, a3⟩
      unfold IsOrd at h1 ⊢
      rw [irange_succ (by omega)]
      have p1 : List.Perm (o.take v.1.toNat ++ [(0 : Int) + (j : Nat)] ++ o.drop v.1.toNat) (o ++ [((j : Nat) : Int)]) := by
        rw [List.append_assoc]
        refine (List.perm_append_comm_assoc _ _ _).trans ?_
        rw [List.take_append_drop, Int.zero_add]
        exact List.perm_append_comm
      exact p1.trans (h1.append_right _))
    rw [irange_len] at this
    refine Ok.mono this fun s hs => ⟨?_, hs.2⟩
    have := hs.1
    rw [show ((0 + (n - 0).toNat : Nat) : Int) = n by omega] at this
    exact this
  · refine Ok.ret ?_
    exact hs
theorem IsOrd.len {n : Int} {o : List Int} (h : IsOrd n o) : o.length = n.toNat := by rw [List.Perm.length_eq h, irange_len]; simp
theorem IsOrd.mem {n : Int} {o : List Int} (h : IsOrd n o) {x : Int} : x ∈ o ↔ 0 ≤ x ∧ x < n := by rw [List.Perm.mem_iff h, mem_irange]
theorem IsOrd.nodup {n : Int} {o : List Int} (h : IsOrd n o) : o.Nodup := (List.Perm.nodup_iff h).mpr (irange_nodup 0 n)
theorem perm_nd {α : Type} [DecidableEq α] : ∀ {l m : List α}, l.Nodup → (∀ x ∈ l, x ∈ m) → m.length ≤ l.length → m.Nodup → l.Perm m
  | [], m, _, _, h3, _ => by
    have : m = [] := List.length_eq_zero_iff.mp (by simpa using h3)
    rw [this]
  | x :: l, m, h1, h2, h3, h4 => by
    have hx : x ∈ m := h2 x (List.mem_cons_self ..)
    have p : (x :: m.erase x).Perm m := (List.perm_cons_erase hx).symm
    refine List.Perm.trans (List.Perm.cons x ?_) p
    have nd := List.nodup_cons.mp h1
    refine perm_nd nd.2 (fun y hy => ?_) ?_ (h4.erase x)
    · have ne : y ≠ x := fun e => nd.1 (e ▸ hy)
      exact (List.mem_erase_of_ne ne).mpr (h2 y (List.mem_cons_of_mem _ hy))
    · rw [List.length_erase_of_mem hx]
      simp at h3
      omega
end Law

set_option Elab.async false
set_option linter.all false
set_option maxRecDepth 100000
namespace Law
open PySem PySem.Spec PyProof.Rows L2 Fx
/-! tables as they are drawn -/
structure IsTab (n m : Int) (t : List (List Int)) : Prop where
  len : t.length = m.toNat
  o : ∀ o ∈ t, IsOrd n o
theorem rot_ord {n s : Int} (hn : 0 < n) (hs : 0 ≤ s) {o : List Int} (ho : IsOrd n o) : IsOrd n ((irange 0 n).map fun k => nth o ((k + s) % n)) := by
  have hl := ho.len
  have ixl : ∀ k : Int, (k + s) % n < o.length := fun k => by have := Int.emod_lt_of_pos (k + s) hn; omega
  have ix0 : ∀ k : Int, 0 ≤ (k + s) % n := fun k => Int.emod_nonneg _ (by omega)
  refine perm_nd ?_ (fun x hx => ?_) (by rw [List.length_map]; exact Nat.le_refl _) (irange_nodup 0 n)
  · refine List.pairwise_map.mpr ((irange_nodup 0 n).imp_of_mem fun {a b} ha hb hne e => ?_)
    have ha := mem_irange.mp ha
    have hb := mem_irange.mp hb
    have e1 : nth o ((a + s) % n) = o[((a + s) % n).toNat]'(by have := ixl a; have := ix0 a; omega) := by
      rw [← nth_nat, Int.toNat_of_nonneg (ix0 a)]
    have e2 : nth o ((b + s) % n) = o[((b + s) % n).toNat]'(by have := ixl b; have := ix0 b; omega) := by
      rw [← nth_nat, Int.toNat_of_nonneg (ix0 b)]
    rw [e1, e2] at e
    have e3 := (List.getElem_inj ho.nodup).mp e
    have h1 := ix0 a
    have h2 := ix0 b
    have e4 : (a + s) % n = (b + s) % n := by omega
    have : (a - b) % n = 0 := by
      have := Int.emod_emod_of_dvd (a + s - (b + s)) (Int.dvd_refl n)
      rw [show a - b = (a + s) - (b + s) by omega, Int.sub_emod, e4]
      simp
    have d := Int.dvd_of_emod_eq_zero this
    obtain ⟨q, hq⟩ := d
    have : q = 0 := by
      by_cases c : q ≥ 1
      · have := Int.mul_le_mul_of_nonneg_left c (show 0 ≤ n by omega); omega
      · by_cases c2 : q ≤ -1
        · have := Int.mul_le_mul_of_nonneg_left c2 (show 0 ≤ n by omega); omega
        · omega
    subst this
    exact hne (by omega)
  · obtain ⟨k, hk, rfl⟩ := List.mem_map.mp hx
    exact mem_irange.mpr (ho.mem.mp (nth_mem (ix0 k) (ixl k)))
theorem cutT_take {α : Type} {l : List α} {k : Int} (h : 0 ≤ k) : cutT l none (some k) = l.take k.toNat := by
  unfold cutT
  rw [HT.sIx_none]
  have : HT.sIx l.length l.length (some k) = min k.toNat l.length := by
    show (if k < 0 then (k + (l.length : Int)).toNat else min k.toNat l.length) = _
    rw [if_neg (by omega)]
  rw [this, List.drop_zero, Nat.sub_zero, ← List.take_eq_take_min]
theorem cutT_drop {α : Type} {l : List α} {k : Int} (h : 0 ≤ k) : cutT l (some k) none = l.drop k.toNat := by
  unfold cutT
  rw [HT.sIx_none]
  have : HT.sIx l.length 0 (some k) = min k.toNat l.length := by
    show (if k < 0 then (k + (l.length : Int)).toNat else min k.toNat l.length) = _
    rw [if_neg (by omega)]
  rw [this]
  by_cases c : k.toNat ≤ l.length
  · rw [Nat.min_eq_left c, List.take_of_length_le (by rw [List.length_drop]; exact Nat.le_refl _)]
  · rw [Nat.min_eq_right (by omega), List.drop_eq_nil_of_le (Nat.le_refl _), List.drop_eq_nil_of_le (by omega)]
    simp
theorem apart_ok {t : Tp} {n m : Int} (ht : TpOk t) (h0 : 0 < n) (hn : n ≤ 1000) (hm : 0 ≤ m) (hm2 : m ≤ n) : Ok (p_l_apart t n m) fun v => IsTab n m v.1 ∧ TpOk v.2 := by
  unfold p_l_apart
  simp only [R.bind_assoc, R.bind_ok]
  refine Ok.bind (order_ok ht (by omega) hn) fun own h1 => ?_
  refine Ok.bind (order_ok h1.2 (by omega) hn) fun st h2 => ?_
  rw [cutT_take hm]
  have hl := h2.1.len
  have := comp_map' (f := fun x4 : Int => (rg1 n).bind fun z7 => (compR (fun x5 => R.ok true) (fun x5 => (modR (x5 + x4) n).bind fun x6 => atR own.1 x6) z7 []).bind fun x8 => R.ok x8) (fun s => (irange 0 n).map fun k => nth own.1 ((k + s) % n)) (l := st.1.take m.toNat) (by rw [List.length_take]; omega) (fun s hs => by
    have hs2 := h2.1.mem.mp (List.mem_of_mem_take hs)
    rw [rg1_ok (by omega)]
    simp only [R.bind_ok]
    rw [comp_map' (fun k => nth own.1 ((k + s) % n)) (by rw [irange_len]; omega) fun k hk => by
      rw [modR_ok h0]
      simp only [R.bind_ok]
      exact atR_ok (Int.emod_nonneg _ (by omega)) (by have := Int.emod_lt_of_pos (k + s) h0; rw [h1.1.len]; omega)]
    simp)
  simp only [R.bind_assoc, R.bind_ok] at this
  rw [this]
  refine Ok.ret ⟨⟨by simp; omega, fun o ho => ?_⟩, h2.2⟩
  obtain ⟨s, hs, rfl⟩ := List.mem_map.mp ho
  have hs2 := h2.1.mem.mp (List.mem_of_mem_take hs)
  exact rot_ord h0 hs2.1 h1.1
theorem table_ok {t : Tp} {n m : Int} (ht : TpOk t) (h0 : 0 < n) (hn : n ≤ 1000) (hm : 0 < m) (hm2 : m ≤ 1000) : Ok (p_l_a_table t n m) fun v => IsTab n m v.1 ∧ TpOk v.2 := by
  unfold p_l_a_table
  simp only [R.bind_assoc, R.bind_ok]
  refine Ok.bind (draw_ok ht (by omega) (by omega)) fun way hw => ?_
  by_cases c : (decide (way.1 = 0) || decide (n < m)) = true
  · rw [if_pos c, rg1_ok (by omega)]
    simp only [R.bind_ok]
    refine Ok.bind (ok_compSA TpOk (fun o => IsOrd n o) (by rw [irange_len]; omega) hw.2 fun a _ s hs => Ok.bind (order_ok hs (by omega) hn) fun z hz => Ok.ret hz) fun v hv => Ok.ret ⟨⟨?_, hv.1.2⟩, hv.2⟩
    rw [hv.1.1, irange_len]; omega
  · rw [if_neg c]
    have c2 : ¬ n < m := fun z => c (by simp [z])
    refine Ok.bind (apart_ok hw.2 h0 hn (by omega) (by omega)) fun tab h1 => ?_
    by_cases c3 : way.1 = 2
    · simp only [c3, decide_true, if_true, R.bind_assoc, R.bind_ok]
      refine Ok.bind (draw_ok h1.2 hm (by omega)) fun k hk => ?_
      refine Ok.bind (order_ok hk.2 (by omega) hn) fun o ho => ?_
      rw [cutT_take hk.1.1, cutT_drop (by omega)]
      have hl := h1.1.len
      have l1 : (tab.1.take k.1.toNat).length = k.1.toNat := by rw [List.length_take]; omega
      have l2 : (tab.1.drop (k.1 + 1).toNat).length = m.toNat - (k.1.toNat + 1) := by rw [List.length_drop]; omega
      rw [catR_ok (by rw [l1]; simp; omega)]
      simp only [R.bind_ok]
      rw [catR_ok (by rw [List.length_append, l1, l2]; simp; omega)]
      refine Ok.ret ⟨⟨?_, fun q hq => ?_⟩, ho.2⟩
      · show (List.length (_ ++ _ ++ _)) = _
        rw [List.length_append, List.length_append, l1, l2]; simp; omega
      · rcases List.mem_append.mp hq with q1 | q1
        · rcases List.mem_append.mp q1 with q2 | q2
          · exact h1.1.o q (List.mem_of_mem_take q2)
          · rw [List.mem_singleton.mp q2]; exact ho.1
        · exact h1.1.o q (List.mem_of_mem_drop q1)
    · simp only [c3, decide_false, Bool.false_eq_true, if_false]
      exact Ok.ret h1
end Law

set_option Elab.async false
set_option linter.all false
set_option maxRecDepth 100000
namespace Law
open PySem PySem.Spec PyProof.Rows L2 Fx
/-! spots that are free, and how many ways there are to go on -/
theorem fold_app {α β : Type} {f : α → List β → R (List β)} (g : α → β) : ∀ (l : List α) (s : List β), s.length + l.length ≤ 1000000 → (∀ a ∈ l, ∀ s : List β, s.length < 1000000 → f a s = .ok (s ++ [g a])) → foldR f l s = .ok (s ++ l.map g)
  | [], s, _, _ => by simp [foldR]
  | a :: l, s, hl, h => by
    rw [List.length_cons] at hl
    show (f a s).bind _ = _
    rw [h a (List.mem_cons_self ..) s (by omega)]
    simp only [R.bind_ok]
    rw [fold_app g l _ (by rw [List.length_append]; simp; omega) fun b hb => h b (List.mem_cons_of_mem _ hb)]
    simp
theorem loop_all {α : Type} {f : α → Unit → R (Out Unit Bool)} (g : α → Bool) : ∀ (l : List α), (∀ a ∈ l, f a () = .ok (if g a = true then .nx () else .rt false)) → loopR f l () = .ok (if l.all g = true then .nx () else .rt false)
  | [], _ => rfl
  | a :: l, h => by
    show (f a ()).bind _ = _
    rw [h a (List.mem_cons_self ..), List.all_cons]
    cases g a with
    | true => exact loop_all g l fun b hb => h b (List.mem_cons_of_mem _ hb)
    | false => rfl
theorem nd_len {α : Type} [DecidableEq α] : ∀ {l m : List α}, l.Nodup → (∀ x ∈ l, x ∈ m) → l.length ≤ m.length
  | [], _, _, _ => Nat.zero_le _
  | x :: l, m, h1, h2 => by
    have hx : x ∈ m := h2 x (List.mem_cons_self ..)
    have nd := List.nodup_cons.mp h1
    have := nd_len (l := l) (m := m.erase x) nd.2 fun y hy => (List.mem_erase_of_ne fun e : y = x => nd.1 (e ▸ hy)).mpr (h2 y (List.mem_cons_of_mem _ hy))
    rw [List.length_erase_of_mem hx] at this
    have := List.length_pos_of_mem hx
    rw [List.length_cons]; omega
abbrev Bar := List (Int × Int)
def freeL (table : List (List Int)) (bars : Bar) (n st : Int) : List Int := (irange 0 n).filter fun s => !decide (s ∈ table.map fun o => nth o st) && !memB (st, s) bars
def frees (table : List (List Int)) (bars : Bar) (n : Int) : List (List Int) := (irange 0 n).map (freeL table bars n)
theorem frees_len {table : List (List Int)} {bars : Bar} {n : Int} : (frees table bars n).length = n.toNat := by
  unfold frees
  rw [List.length_map, irange_len]; simp
theorem frees_at {table : List (List Int)} {bars : Bar} {n st : Int} (h0 : 0 ≤ st) (h1 : st < n) : nth (frees table bars n) st = freeL table bars n st := by
  have e := irange_getE (a := 0) (b := n) (j := st.toNat) (by omega)
  unfold nth frees
  rw [List.getD_eq_getElem?_getD, List.getElem?_map, e, show (0 : Int) + (st.toNat : Nat) = st by omega]
  rfl
theorem first_len {n m : Int} {table : List (List Int)} (h : IsTab n m table) (hm : 0 < m) (hn : 0 ≤ n) : ∃ o, atR table 0 = .ok o ∧ (o.length : Int) = n := by
  have hl := h.len
  refine ⟨_, atR_ok (by omega) (by omega), ?_⟩
  rw [(h.o _ (nth_mem (by omega) (by omega))).len]; omega
theorem col_ok {n m : Int} {table : List (List Int)} (h : IsTab n m table) (hm : m ≤ 1000) {st : Int} (h0 : 0 ≤ st) (h1 : st < n) : compR (fun _ => R.ok true) (fun o => atR o st) table [] = .ok (table.map fun o => nth o st) :=
  comp_map' _ (by rw [h.len]; omega) fun o ho => atR_ok h0 (by rw [(h.o o ho).len]; omega)
theorem free_ok {n m : Int} {table : List (List Int)} {bars : Bar} (h : IsTab n m table) (hm0 : 0 < m) (hm : m ≤ 1000) (hn0 : 0 ≤ n) (hn : n ≤ 1000) (hb : bars.length ≤ 1000) : p_free_spots table (some bars) = .ok (frees table bars n) := by
  obtain ⟨o, e, eo⟩ := first_len h hm0 hn0
  unfold p_free_spots
  simp only [Option.isNone_some, Bool.false_eq_true, if_false, R.ofO_some, R.bind_ok, e, eo, R.bind_assoc]
  rw [rg1_ok (by omega)]
  simp only [R.bind_ok]
  have := fold_app (f := q_free_spots1 table bars) (freeL table bars n) (irange 0 n) [] (by rw [irange_len]; simp; omega) fun st hst s hs => by
    have hst := mem_irange.mp hst
    unfold q_free_spots1
    rw [col_ok h hm hst.1 hst.2, comp_ok (fun b : Int × Int => decide (b.1 = st)) (fun b => b.2) (by omega) fun b _ => ⟨rfl, fun _ => rfl⟩]
    simp only [R.bind_ok]
    have hl := h.len
    have fl : (bars.filter fun b => decide (b.1 = st)).length ≤ bars.length := List.length_filter_le _ _
    rw [catR_ok (by rw [List.length_map, List.length_map]; omega)]
    simp only [R.bind_ok, e, eo]
    rw [rg1_ok (by omega)]
    simp only [R.bind_ok]
    rw [comp_filter (fun x => !decide (x ∈ table.map (fun o => nth o st) ++ (bars.filter fun b => decide (b.1 = st)).map (fun b => b.2))) (by rw [irange_len]; omega) fun a _ => rfl]
    simp only [R.bind_ok]
    rw [appR_ok hs]
    simp only [R.bind_ok]
    congr 3
    unfold freeL
    refine List.filter_congr fun x _ => ?_
    have : decide (x ∈ table.map (fun o => nth o st) ++ (bars.filter fun b => decide (b.1 = st)).map (fun b => b.2)) = (decide (x ∈ table.map fun o => nth o st) || memB (st, x) bars) := by
      rw [Bool.eq_iff_iff, Bool.or_eq_true, decide_eq_true_eq, decide_eq_true_eq, memB_iff, List.mem_append]
      refine or_congr Iff.rfl ?_
      rw [List.mem_map]
      constructor
      · rintro ⟨b, hb, rfl⟩
        have := List.mem_filter.mp hb
        have e := decide_eq_true_eq.mp this.2
        rw [← e]; exact this.1
      · exact fun q => ⟨_, List.mem_filter.mpr ⟨q, decide_eq_true rfl⟩, rfl⟩
    rw [this]
    cases decide (x ∈ table.map fun o => nth o st) <;> rfl
  rw [this]
  rfl
/-! ways, by bits -/
def cnt : List (List Int) → Nat → Int
  | [], _ => 1
  | f :: fs, left => ((f.filter fun s => left.testBit s.toNat).map fun s => cnt fs (left - 2 ^ s.toNat)).sum
theorem bit_and : ∀ left < 256, ∀ s < 8, decide (Builtin.bitAnd (((left : Nat) : Int) / 2 ^ (s : Nat)) 1 = 1) = left.testBit s := by decide +kernel
theorem bit_sub : ∀ left < 256, ∀ s < 8, left.testBit s = true → 2 ^ s ≤ left ∧ ∀ j < 8, (left - 2 ^ s).testBit j = (left.testBit j && !decide (j = s)) := by decide +kernel
structure Known (free : List (List Int)) (k : List ((Int × Int) × Int)) : Prop where
  nd : (k.map fun p => p.1).Nodup
  ok : ∀ p ∈ k, ∃ a b : Nat, p.1 = ((a : Int), (b : Int)) ∧ a ≤ 8 ∧ b < 256 ∧ p.2 = cnt (free.drop a) b
theorem Known.len {free : List (List Int)} {k : List ((Int × Int) × Int)} (h : Known free k) : k.length ≤ 2304 := by
  have := nd_len (l := k.map fun p => p.1) (m := (List.range 2304).map fun i => (((i / 256 : Nat) : Int), ((i % 256 : Nat) : Int))) h.nd fun x hx => by
    obtain ⟨p, hp, rfl⟩ := List.mem_map.mp hx
    obtain ⟨a, b, e, ha, hb, _⟩ := h.ok p hp
    refine List.mem_map.mpr ⟨a * 256 + b, List.mem_range.mpr (by omega), ?_⟩
    rw [e]
    congr 2 <;> omega
  rw [List.length_map, List.length_map, List.length_range] at this
  exact this
theorem getK_mem {κ β : Type} [DecidableEq κ] {a : κ} {v : β} : ∀ {xs : List (κ × β)}, getK xs a = some v → (a, v) ∈ xs
  | [], h => by cases h
  | p :: xs, h => by
    unfold getK at h
    by_cases q : p.1 = a
    · rw [if_pos q] at h
      cases h
      rw [← q]
      exact List.mem_cons_self ..
    · rw [if_neg q] at h
      exact List.mem_cons_of_mem _ (getK_mem h)
theorem getK_put {κ β : Type} [DecidableEq κ] {a : κ} {v : β} : ∀ {xs : List (κ × β)}, getK (Fx.putK xs a v) a = some v := by
  intro xs
  unfold Fx.putK
  have h1 : ∀ xs : List (κ × β), (xs.any fun p => decide (p.1 = a)) = true → getK (xs.map fun p => if p.1 = a then (p.1, v) else p) a = some v := by
    intro xs
    induction xs with
    | nil => intro h; cases h
    | cons p xs ih =>
      intro h
      rw [List.map_cons]
      unfold getK
      by_cases q : p.1 = a
      · rw [if_pos q, if_pos q]
      · rw [if_neg q, if_neg q]
        refine ih ?_
        rw [List.any_cons, decide_eq_false q, Bool.false_or] at h
        exact h
  have h2 : ∀ xs : List (κ × β), ¬ (xs.any fun p => decide (p.1 = a)) = true → getK (xs ++ [(a, v)]) a = some v := by
    intro xs
    induction xs with
    | nil => intro _; unfold getK; simp
    | cons p xs ih =>
      intro h
      rw [List.any_cons, Bool.or_eq_true, not_or, decide_eq_true_eq] at h
      rw [List.cons_append]
      unfold getK
      rw [if_neg h.1]
      exact ih h.2
  split
  · rename_i h
    exact h1 xs h
  · rename_i h
    exact h2 xs h
theorem Known.put {free : List (List Int)} {k : List ((Int × Int) × Int)} (h : Known free k) {a b : Nat} (ha : a ≤ 8) (hb : b < 256) : Known free (Fx.putK k ((a : Int), (b : Int)) (cnt (free.drop a) b)) := by
  unfold Fx.putK
  split
  · rename_i q
    refine ⟨?_, fun p hp => ?_⟩
    · rw [List.map_map]
      have : (k.map ((fun p => p.1) ∘ fun p => if p.1 = ((a : Int), (b : Int)) then (p.1, cnt (free.drop a) b) else p)) = k.map fun p => p.1 := List.map_congr_left fun p _ => by
        show (if p.1 = ((a : Int), (b : Int)) then (p.1, cnt (free.drop a) b) else p).1 = _
        split <;> rfl
      rw [this]; exact h.nd
    · obtain ⟨p', hp', rfl⟩ := List.mem_map.mp hp
      by_cases z : p'.1 = ((a : Int), (b : Int))
      · rw [if_pos z]
        exact ⟨a, b, z, ha, hb, rfl⟩
      · rw [if_neg z]
        exact h.ok p' hp'
  · rename_i q
    refine ⟨?_, fun p hp => ?_⟩
    · rw [List.map_append]
      refine List.nodup_append.mpr ⟨h.nd, by simp, fun x hx y hy => ?_⟩
      have : y = ((a : Int), (b : Int)) := by simpa using hy
      subst this
      rintro rfl
      obtain ⟨p, hp, e⟩ := List.mem_map.mp hx
      exact q (List.any_eq_true.mpr ⟨p, hp, decide_eq_true e⟩)
    · rcases List.mem_append.mp hp with z | z
      · exact h.ok p z
      · have : p = (((a : Int), (b : Int)), cnt (free.drop a) b) := by simpa using z
        subst this
        exact ⟨a, b, rfl, ha, hb, rfl⟩
def FreeOk (free : List (List Int)) : Prop := free.length ≤ 8 ∧ ∀ f ∈ free, f.length ≤ 8 ∧ ∀ s ∈ f, 0 ≤ s ∧ s < 8
theorem ok_compS_map {α β σ : Type} {f : α → σ → R (β × σ)} (I : σ → Prop) (g : α → β) : ∀ {l : List α} {acc : List β} {s : σ}, acc.length + l.length ≤ 1000000 → I s → (∀ a ∈ l, ∀ s, I s → Ok (f a s) fun v => v.1 = g a ∧ I v.2) →
    Ok (compS (fun _ _ => .ok true) f l acc s) fun v => v.1 = acc ++ l.map g ∧ I v.2
  | [], acc, s, _, h, _ => ⟨(acc, s), rfl, by simp, h⟩
  | a :: l, acc, s, hl, h, k => by
    rw [List.length_cons] at hl
    obtain ⟨⟨y, s'⟩, e, e1, h'⟩ := k a (List.mem_cons_self ..) s h
    unfold compS
    simp only [R.calm_ok, R.bind_ok, if_true]
    rw [e]
    simp only [R.calm_ok, R.bind_ok]
    rw [if_pos (sz_of (by omega))]
    refine (ok_compS_map I g (by rw [List.length_append]; simp; omega) h' fun b hb => k b (List.mem_cons_of_mem _ hb)).mono fun v hv => ⟨?_, hv.2⟩
    have e1' : y = g a := e1
    rw [hv.1, e1']; simp
theorem counts_ok {free : List (List Int)} (hf : FreeOk free) : ∀ (kk : Nat) {st : Nat} {left : Nat} {known : List ((Int × Int) × Int)}, Known free known → st ≤ free.length → free.length - st < kk → left < 256 → Ok (p_counts_from kk free (st : Int) (left : Int) known) fun v => v.1 = cnt (free.drop st) left ∧ Known free v.2
  | 0, st, left, known, _, _, h, _ => by omega
  | kk + 1, st, left, known, hk, h1, h2, hl => by
    show Ok (r_counts_from (p_counts_from kk) free (st : Int) (left : Int) known) _
    have h8 := hf.1
    unfold r_counts_from
    by_cases c : (st : Int) = (free.length : Int)
    · rw [if_pos (decide_eq_true c)]
      refine Ok.ret ⟨?_, hk⟩
      rw [show st = free.length by omega, List.drop_length]; rfl
    · rw [if_neg (by rw [decide_eq_true_eq]; exact c)]
      have lt : st < free.length := by omega
      have ef : free.drop st = free[st] :: free.drop (st + 1) := (List.drop_eq_getElem_cons lt)
      have fok := hf.2 free[st] (List.getElem_mem lt)
      refine Ok.bind (Q := fun s => Known free s ∧ getK s ((st : Int), (left : Int)) = some (cnt (free.drop st) left)) ?_ fun s hs => ?_
      · cases e : getK known ((st : Int), (left : Int)) with
        | some v =>
          rw [if_neg (by simp)]
          refine Ok.ret ⟨hk, ?_⟩
          obtain ⟨a, b, e1, _, _, e2⟩ := hk.ok _ (getK_mem e)
          simp only [Prod.mk.injEq] at e1
          have ea : st = a := by omega
          have eb : left = b := by omega
          rw [e, ea, eb]
          exact congrArg some e2
        | none =>
          rw [if_pos (by simp)]
          have ea : atR free (st : Int) = .ok free[st] := by
            unfold atR L2.atI ixN
            rw [if_pos (by omega), if_pos (by omega)]
            simp [lt]
          rw [ea]
          simp only [R.bind_ok, R.bind_assoc]
          rw [comp_filter (fun s : Int => left.testBit s.toNat) (by omega) fun s hs => by
            have hs2 := fok.2 s hs
            unfold shrR
            rw [if_pos (tru_iff.mpr hs2.1)]
            simp only [R.bind_ok]
            have := bit_and left hl s.toNat (by omega)
            rw [this]]
          simp only [R.bind_ok]
          refine Ok.bind (ok_compS_map (Known free) (fun s : Int => cnt (free.drop (st + 1)) (left - 2 ^ s.toNat)) (by
            have := List.length_filter_le (fun s : Int => left.testBit s.toNat) free[st]
            simp; omega) hk fun s hs k2 hk2 => ?_) fun v hv => ?_
          · obtain ⟨hs1, hs2⟩ := List.mem_filter.mp hs
            have hs3 := fok.2 s hs1
            have bs := bit_sub left hl s.toNat (by omega) hs2
            unfold shlR
            rw [if_pos (tru_iff.mpr ⟨hs3.1, by omega, by decide⟩)]
            simp only [R.bind_ok, Int.one_mul]
            have e3 : (left : Int) - 2 ^ s.toNat = ((left - 2 ^ s.toNat : Nat) : Int) := by
              rw [Int.ofNat_sub bs.1]; simp
            rw [e3, show (st : Int) + 1 = ((st + 1 : Nat) : Int) by omega]
            exact Ok.bind (counts_ok hf kk hk2 (by omega) (by omega) (Nat.lt_of_le_of_lt (Nat.sub_le _ _) hl)) fun z hz => Ok.ret hz
          · have es : v.1.sum = cnt (free.drop st) left := by
              rw [hv.1, ef]; rfl
            rw [es]
            have := hv.2.len
            unfold setKR szR
            rw [if_pos (sz_of (by omega))]
            exact Ok.ret ⟨hv.2.put (by omega) hl, getK_put⟩
      · unfold getR
        rw [hs.2]
        exact Ok.ret ⟨rfl, hs.1⟩
theorem freeOk {table : List (List Int)} {bars : Bar} {n : Int} (hn0 : 0 ≤ n) (hn : n ≤ 8) : FreeOk (frees table bars n) := by
  refine ⟨by rw [frees_len]; omega, fun f hf => ?_⟩
  unfold frees at hf
  obtain ⟨st, hst, rfl⟩ := List.mem_map.mp hf
  unfold freeL
  refine ⟨?_, fun s hs => ?_⟩
  · have := List.length_filter_le (fun s => !decide (s ∈ table.map fun o => nth o st) && !memB (st, s) bars) (irange 0 n)
    rw [irange_len] at this; omega
  · have := mem_irange.mp (List.mem_filter.mp hs).1
    omega
theorem pow_small {n : Int} (hn0 : 0 ≤ n) (hn : n ≤ 8) : 1 ≤ 2 ^ n.toNat ∧ 2 ^ n.toNat ≤ 256 := by
  have : n.toNat ≤ 8 := by omega
  exact ⟨Nat.one_le_two_pow, Nat.pow_le_pow_right (by omega) this⟩
/-- where there is a way, there is an order -/
theorem cnt_order : ∀ {fs : List (List Int)} {left : Nat}, (∀ f ∈ fs, ∀ s ∈ f, 0 ≤ s ∧ s < 8) → left < 256 → cnt fs left ≠ 0 → ∃ o : List Int, o.length = fs.length ∧ o.Nodup ∧ (∀ (i : Nat) (s : Int) (f : List Int), o[i]? = some s → fs[i]? = some f → s ∈ f) ∧ ∀ s ∈ o, 0 ≤ s ∧ s < 8 ∧ left.testBit s.toNat = true
  | [], _, _, _, _ => ⟨[], rfl, List.nodup_nil, fun i s f h => by simp at h, fun s hs => by cases hs⟩
  | f :: fs, left, hf, hl, h => by
    have ex : ∃ s ∈ f.filter fun s : Int => left.testBit s.toNat, cnt fs (left - 2 ^ s.toNat) ≠ 0 := by
      refine Classical.byContradiction fun q => h ?_
      have z : ∀ s ∈ f.filter fun s : Int => left.testBit s.toNat, cnt fs (left - 2 ^ s.toNat) = 0 := fun s hs => Classical.byContradiction fun q2 => q ⟨s, hs, q2⟩
      show (List.map _ _).sum = 0
      rw [List.map_congr_left z]
      have zs : ∀ l : List Int, (l.map fun _ => (0 : Int)).sum = 0 := fun l => by
        induction l with
        | nil => rfl
        | cons a l ih => rw [List.map_cons, List.sum_cons, ih]; rfl
      exact zs _
    obtain ⟨s, hs, hc⟩ := ex
    obtain ⟨hs1, hs2⟩ := List.mem_filter.mp hs
    have hs3 := hf f (List.mem_cons_self ..) s hs1
    have bs := bit_sub left hl s.toNat (by omega) hs2
    obtain ⟨o, e1, e2, e3, e4⟩ := cnt_order (fs := fs) (left := left - 2 ^ s.toNat) (fun g hg => hf g (List.mem_cons_of_mem _ hg)) (Nat.lt_of_le_of_lt (Nat.sub_le _ _) hl) hc
    refine ⟨s :: o, congrArg (· + 1) e1, List.nodup_cons.mpr ⟨fun hm => ?_, e2⟩, fun i t g hi hg => ?_, fun t ht => ?_⟩
    · have := e4 s hm
      rw [bs.2 s.toNat (by omega)] at this
      simp at this
    · cases i with
      | zero =>
        simp at hi hg
        rw [← hi, ← hg]; exact hs1
      | succ i => exact e3 i t g (by simpa using hi) (by simpa using hg)
    · rcases List.mem_cons.mp ht with rfl | q
      · exact ⟨hs3.1, hs3.2, hs2⟩
      · obtain ⟨a1, a2, a3⟩ := e4 t q
        rw [bs.2 t.toNat (by omega), Bool.and_eq_true] at a3
        exact ⟨a1, a2, a3.1⟩
/-! bars as they are drawn -/
theorem putK_len {κ β : Type} [DecidableEq κ] (xs : List (κ × β)) (a : κ) (v : β) : (Fx.putK xs a v).length ≤ xs.length + 1 := by
  unfold Fx.putK
  split
  · rw [List.length_map]; omega
  · rw [List.length_append]; simp
theorem bars_ok {t : Tp} {n most : Int} (ht : TpOk t) (h0 : 0 < n) (hn : n ≤ 1000) (hm : 0 ≤ most) (hm2 : most ≤ 900) : Ok (p_l_a_bars t n most) fun v => v.1.length ≤ 1000 ∧ TpOk v.2 := by
  unfold p_l_a_bars
  simp only [R.bind_assoc, R.bind_ok]
  refine Ok.bind (draw_ok ht (by omega) (by omega)) fun k hk => ?_
  rw [rg1_ok (by omega)]
  simp only [R.bind_ok]
  refine Ok.bind (Q := fun s => s.2.length ≤ 900 ∧ TpOk s.1) ?_ fun s hs => Ok.ret ⟨by unfold keysX; rw [List.length_map]; omega, hs.2⟩
  have := ok_fold (f := q_l_a_bars1 n most) (fun i s => s.2.length ≤ i ∧ TpOk s.1) (irange 0 k.1) 0 (k.2, []) ⟨Nat.le_refl _, hk.2⟩ (by
    rintro j a ⟨t, d⟩ e ⟨h1, h2⟩
    have hj := (irange_get e).2
    unfold q_l_a_bars1
    simp only [R.bind_assoc, R.bind_ok]
    refine Ok.bind (draw_ok h2 h0 (by omega)) fun a ha => ?_
    refine Ok.bind (draw_ok ha.2 (by omega) (by omega)) fun b hb => ?_
    rw [divR_ok (by omega) (by omega)]
    simp only [R.bind_ok]
    have d0 := Int.ediv_nonneg hb.1.1 (show (0 : Int) ≤ 2 by omega)
    have d1 : b.1 / 2 < 2 := by omega
    rw [atR_ok d0 (by simpa using d1)]
    simp only [R.bind_ok]
    have lo : ∀ z ∈ [n, 2], 0 < z ∧ z ≤ 1000 := fun z hz => by
      simp only [List.mem_cons, List.not_mem_nil, or_false] at hz
      omega
    have hz := lo _ (nth_mem (l := [n, 2]) d0 (by simpa using d1))
    refine Ok.bind (draw_ok hb.2 hz.1 (by omega)) fun c hc => ?_
    unfold setKR szR
    have : d.length ≤ 0 + j := h1
    rw [if_pos (sz_of (by show d.length + 1 ≤ 1000000; omega))]
    refine Ok.ret ⟨?_, hc.2⟩
    have := putK_len d (a.1, c.1) true
    show (Fx.putK d (a.1, c.1) true).length ≤ 0 + j + 1
    omega)
  exact this.mono fun s hs => ⟨by have := hs.1; rw [irange_len] at this; omega, hs.2⟩
end Law

set_option Elab.async false
set_option linter.all false
set_option maxRecDepth 100000
namespace Law
open PySem PySem.Spec PyProof.Rows L2 Fx
/-! bars_so -/
def rowOk (n : Int) (row : List Int) : Bool := decide (row.Pairwise (· < ·)) && row.all fun x => decide (0 ≤ x) && decide (x < n)
theorem pw_iff {row : List Int} : row.Pairwise (· < ·) ↔ ∀ k : Int, 1 ≤ k → k < row.length → nth row (k - 1) < nth row k := by
  induction row with
  | nil => exact ⟨fun _ k h1 h2 => by simp at h2; omega, fun _ => .nil⟩
  | cons a l ih =>
    cases l with
    | nil => exact ⟨fun _ k h1 h2 => by simp at h2; omega, fun _ => List.pairwise_singleton ..⟩
    | cons b l =>
      have sh : ∀ k : Int, 1 ≤ k → nth (a :: b :: l) k = nth (b :: l) (k - 1) := fun k hk => by
        unfold nth
        rw [show k.toNat = (k - 1).toNat + 1 by omega]; rfl
      constructor
      · intro h k h1 h2
        have hc := List.pairwise_cons.mp h
        by_cases c : k = 1
        · subst c
          exact hc.1 b (List.mem_cons_self ..)
        · have := ih.mp hc.2 (k - 1) (by omega) (by rw [List.length_cons] at h2; omega)
          rw [sh k h1, sh (k - 1) (by omega)]
          exact this
      · intro h
        have tl : (b :: l).Pairwise (· < ·) := ih.mpr fun k h1 h2 => by
          have := h (k + 1) (by omega) (by rw [List.length_cons]; omega)
          rw [sh (k + 1) (by omega), sh (k + 1 - 1) (by omega)] at this
          rw [show k + 1 - 1 = k by omega] at this
          exact this
        have h0 : a < b := h 1 (by omega) (by simp; omega)
        refine List.pairwise_cons.mpr ⟨fun x hx => ?_, tl⟩
        rcases List.mem_cons.mp hx with rfl | q
        · exact h0
        · have := (List.pairwise_cons.mp tl).1 x q
          omega
theorem prow_ok {table : List (List Int)} {steps spots : List Int} {bars : Option Bar} {n : Int} {row : List Int} (hl : row.length ≤ 60) : q_bars_so1 table steps spots bars n row () = .ok (if rowOk n row = true then .nx () else .rt false) := by
  unfold q_bars_so1 p_is_within
  rw [comp_map' (fun x : Int => decide (0 ≤ x) && decide (x < n)) (by omega) fun x _ => by
    congr 1
    rw [Bool.true_and, Bool.not_false, Bool.true_and]
    congr 1
    rw [decide_eq_decide]; omega]
  simp only [R.bind_ok, List.all_map]
  rw [rg2_ok (by omega) (by omega) (by omega) (by omega)]
  simp only [R.bind_ok]
  rw [comp_map' (fun k : Int => decide (nth row (k - 1) < nth row k)) (by rw [irange_len]; omega) fun k hk => by
    have hk := mem_irange.mp hk
    rw [atR_ok (by omega) (by omega), atR_ok (by omega) (by omega)]
    rfl]
  simp only [R.bind_ok, List.all_map]
  have e1 : (irange 1 (row.length : Int)).all ((id : Bool → Bool) ∘ fun k : Int => decide (nth row (k - 1) < nth row k)) = decide (row.Pairwise (· < ·)) := by
    rw [Bool.eq_iff_iff, List.all_eq_true, decide_eq_true_eq, pw_iff]
    constructor
    · intro h k h1 h2
      exact decide_eq_true_eq.mp (h k (mem_irange.mpr ⟨h1, h2⟩))
    · intro h k hk
      have hk := mem_irange.mp hk
      exact decide_eq_true (h k hk.1 hk.2)
  rw [e1]
  unfold rowOk
  have e2 : row.all ((id : Bool → Bool) ∘ fun x : Int => decide (0 ≤ x) && decide (x < n)) = row.all fun x => decide (0 ≤ x) && decide (x < n) := rfl
  rw [e2]
  cases row.all fun x => decide (0 ≤ x) && decide (x < n) <;> cases decide (row.Pairwise (· < ·)) <;> rfl
noncomputable def soB (table : List (List Int)) (bars : Bar) (n : Int) (steps few : List Int) : Bool := (rowOk n steps && rowOk n few) && (decide (few.length < steps.length) && steps.all fun st => (freeL table bars n st).all fun s => decide (s ∈ few))
theorem not_nil {l m : List Int} : (!decide ((l.filter fun s => !decide (s ∈ m)) = [])) = !(l.all fun s => decide (s ∈ m)) := by
  congr 1
  rw [Bool.eq_iff_iff, decide_eq_true_eq, List.filter_eq_nil_iff, List.all_eq_true]
  refine forall_congr' fun a => forall_congr' fun _ => ?_
  cases decide (a ∈ m) <;> simp
section
variable {n m : Int} {table : List (List Int)} {bars : Bar} {steps few : List Int}
theorem rows2 {g : List Int → Bool} : ([steps, few].all g) = (g steps && g few) := by simp
theorem rowOk_mem {row : List Int} (h : rowOk n row = true) {x : Int} (hx : x ∈ row) : 0 ≤ x ∧ x < n := by
  unfold rowOk at h
  rw [Bool.and_eq_true, List.all_eq_true] at h
  have := h.2 x hx
  rw [Bool.and_eq_true, decide_eq_true_eq, decide_eq_true_eq] at this
  exact this
theorem bso_ok (h : IsTab n m table) (hm0 : 0 < m) (hm : m ≤ 1000) (hn0 : 0 ≤ n) (hn : n ≤ 8) (hb : bars.length ≤ 1000) (hs : steps.length ≤ 60) (hf : few.length ≤ 60) : p_bars_so table steps few (some bars) = .ok (soB table bars n steps few) := by
  obtain ⟨o, e, eo⟩ := first_len h hm0 hn0
  unfold p_bars_so
  simp only [e, eo, R.bind_ok]
  rw [loop_all (rowOk n) _ fun row hr => prow_ok (by
    simp only [List.mem_cons, List.not_mem_nil, or_false] at hr
    rcases hr with rfl | rfl <;> omega)]
  rw [rows2]
  unfold soB
  cases e1 : rowOk n steps && rowOk n few with
  | false => rfl
  | true =>
    rw [Bool.and_eq_true] at e1
    simp only [if_true, R.bind_ok, Out.go_nx, Bool.true_and]
    by_cases c : (steps.length : Int) ≤ few.length
    · rw [if_pos (decide_eq_true c), decide_eq_false (show ¬ few.length < steps.length by omega)]
      rfl
    · rw [if_neg (by rw [decide_eq_true_eq]; exact c), decide_eq_true (show few.length < steps.length by omega), free_ok h hm0 hm hn0 (by omega) hb]
      simp only [R.bind_ok, Bool.true_and]
      rw [comp_filter (fun st => !((freeL table bars n st).all fun s => decide (s ∈ few))) (by omega) fun st hst => by
        have hx := rowOk_mem e1.1 hst
        rw [atR_ok hx.1 (by rw [frees_len]; omega), frees_at hx.1 hx.2]
        simp only [R.bind_ok]
        have fl := (freeOk (table := table) (bars := bars) hn0 hn).2 (freeL table bars n st) (List.mem_map.mpr ⟨st, mem_irange.mpr hx, rfl⟩)
        rw [comp_filter (fun s => !decide (s ∈ few)) (by omega) fun s _ => rfl]
        simp only [R.bind_ok]
        rw [not_nil]]
      simp only [R.bind_ok]
      congr 1
      rw [Bool.eq_iff_iff, decide_eq_true_eq, List.filter_eq_nil_iff, List.all_eq_true]
      refine forall_congr' fun a => forall_congr' fun _ => ?_
      cases (freeL table bars n a).all fun s => decide (s ∈ few) <;> simp
theorem lfree_ok (h : IsTab n m table) (hm0 : 0 < m) (hm : m ≤ 1000) (hn0 : 0 ≤ n) (hn : n ≤ 1000) (hb : bars.length ≤ 1000) : p_l_free table bars = .ok (frees table bars n) := by
  obtain ⟨o, e, eo⟩ := first_len h hm0 hn0
  unfold p_l_free
  simp only [e, eo, R.bind_ok, R.bind_assoc]
  have el : lrgR n = .ok (irange 0 n) := by
    unfold lrgR irange
    rw [if_pos (tru_iff.mpr ⟨hn0, by omega⟩), Int.sub_zero]
    exact congrArg R.ok (List.map_congr_left fun i _ => (Int.zero_add _).symm)
  rw [el]
  simp only [R.bind_ok]
  rw [rg1_ok (by omega)]
  simp only [R.bind_ok]
  have := fold_app (f := q_l_free1 table bars (irange 0 n)) (freeL table bars n) (irange 0 n) [] (by rw [irange_len]; simp; omega) fun st hst s hs => by
    have hst := mem_irange.mp hst
    unfold q_l_free1
    rw [col_ok h hm hst.1 hst.2]
    simp only [R.bind_ok]
    rw [comp_filter (fun x => !decide (x ∈ table.map fun o => nth o st) && !memB (st, x) bars) (by rw [irange_len]; omega) fun a _ => rfl]
    simp only [R.bind_ok]
    rw [appR_ok hs]
    rfl
  rw [this]
  rfl
/-- more steps than spots: no order -/
theorem none_beside (hn0 : 0 ≤ n) (hn : n ≤ 8) (h : soB table bars n steps few = true) : cnt (frees table bars n) (2 ^ n.toNat - 1) = 0 := by
  refine Classical.byContradiction fun hc => ?_
  unfold soB at h
  simp only [Bool.and_eq_true, decide_eq_true_eq, List.all_eq_true] at h
  obtain ⟨⟨h1, h2⟩, h3, h4⟩ := h
  have ps := pow_small hn0 hn
  obtain ⟨o, e1, e2, e3, e4⟩ := cnt_order (fun f hf => ((freeOk (table := table) (bars := bars) hn0 hn).2 f hf).2) (by omega) hc
  rw [frees_len] at e1
  have pw := h1
  unfold rowOk at pw
  rw [Bool.and_eq_true, decide_eq_true_eq] at pw
  have at_ : ∀ st ∈ steps, o[st.toNat]? = some (nth o st) := fun st hst => by
    have hx := rowOk_mem h1 hst
    unfold nth
    rw [List.getD_eq_getElem?_getD, List.getElem?_eq_getElem (by omega)]; rfl
  have nd : (steps.map fun st => nth o st).Nodup := by
    refine List.pairwise_map.mpr (pw.1.imp_of_mem fun {a b} ha hb hlt e => ?_)
    have xa := rowOk_mem h1 ha
    have xb := rowOk_mem h1 hb
    have qa := at_ a ha
    have qb := at_ b hb
    rw [e] at qa
    obtain ⟨la, ga⟩ := List.getElem?_eq_some_iff.mp qa
    obtain ⟨lb, gb⟩ := List.getElem?_eq_some_iff.mp qb
    have := (List.getElem_inj e2).mp (ga.trans gb.symm)
    omega
  have := nd_len (m := few) nd fun s hs => by
    obtain ⟨st, hst, rfl⟩ := List.mem_map.mp hs
    have hx := rowOk_mem h1 hst
    have q : nth o st ∈ freeL table bars n st := by
      refine e3 st.toNat _ _ (at_ st hst) ?_
      rw [← frees_at hx.1 hx.2]
      unfold nth
      rw [List.getD_eq_getElem?_getD, List.getElem?_eq_getElem (by rw [frees_len]; omega)]; rfl
    exact h4 st hst _ q
  rw [List.length_map] at this
  omega
end
end Law

set_option Elab.async false
set_option linter.all false
set_option maxRecDepth 100000
namespace Law
open PySem PySem.Spec PyProof.Rows L2 Fx
/-! all orders by the spots that are free, in order, by bits -/
def En : List (List Int) → Nat → List (List Int)
  | [], _ => [[]]
  | f :: fs, left => (f.filter fun s => left.testBit s.toNat).flatMap fun s => (En fs (left - 2 ^ s.toNat)).map (s :: ·)
theorem cnt_len : ∀ (fs : List (List Int)) (left : Nat), cnt fs left = ((En fs left).length : Int)
  | [], _ => rfl
  | f :: fs, left => by
    have go : ∀ l : List Int, (l.map fun s => cnt fs (left - 2 ^ s.toNat)).sum = ((l.flatMap fun s => (En fs (left - 2 ^ s.toNat)).map (s :: ·)).length : Int) := fun l => by
      induction l with
      | nil => rfl
      | cons a l ih => rw [List.map_cons, List.sum_cons, ih, List.flatMap_cons, List.length_append, List.length_map, cnt_len fs]; simp
    exact go _
theorem p_sub {left : Nat} {a : Int} (h : 2 ^ a.toNat ≤ left) : (left : Int) - 2 ^ a.toNat = ((left - 2 ^ a.toNat : Nat) : Int) := by
  rw [Int.ofNat_sub h]; simp
theorem shl1 {a : Int} (h0 : 0 ≤ a) (h1 : a ≤ 1000) : shlR 1 a = .ok (2 ^ a.toNat) := by
  unfold shlR
  rw [if_pos (tru_iff.mpr ⟨h0, by omega, by decide⟩), Int.one_mul]
section
variable {free : List (List Int)}
theorem inner_ok (hf : FreeOk free) {st : Nat} (hst : st < free.length) {left0 : Nat} (hl0 : left0 < 256) {p : List Int} (hp : p.length = st) {tgt : List Int} :
    ∀ (r : List Int), r.Nodup → (∀ s ∈ r, s ∈ free[st] ∧ left0.testBit s.toNat = true) → ∀ (known : List ((Int × Int) × Int)) (left : Nat) (found : List Int) (ahead : Nat), Known free known →
      ((found = p ∧ left = left0 ∧ (r.flatMap fun s => (En (free.drop (st + 1)) (left0 - 2 ^ s.toNat)).map (s :: ·))[ahead]? = some tgt) ∨
        ∃ s0 : Int, s0 ∉ r ∧ s0 ∈ free[st] ∧ left0.testBit s0.toNat = true ∧ found = p ++ [s0] ∧ left = left0 - 2 ^ s0.toNat ∧ ∃ t, (En (free.drop (st + 1)) left)[ahead]? = some t ∧ tgt = s0 :: t) →
      Ok (foldR (q_order_at1 free (st : Int)) r (known, (left : Int), found, (ahead : Int))) fun v => Known free v.1 ∧ ∃ (left' ahead' : Nat) (s0 : Int), v.2.1 = (left' : Int) ∧ v.2.2.2 = (ahead' : Int) ∧ v.2.2.1 = p ++ [s0] ∧ left' = left0 - 2 ^ s0.toNat ∧ s0 ∈ free[st] ∧ left0.testBit s0.toNat = true ∧ ∃ t, (En (free.drop (st + 1)) left')[ahead']? = some t ∧ tgt = s0 :: t
  | [], _, _, known, left, found, ahead, hk, h => by
    rcases h with ⟨_, _, h⟩ | ⟨s0, _, h1, h2, h3, h4, t, h5, h6⟩
    · simp at h
    · exact Ok.ret ⟨hk, left, ahead, s0, rfl, rfl, h3, h4, h1, h2, t, h5, h6⟩
  | a :: r, nd, hr, known, left, found, ahead, hk, h => by
    have ndc := List.nodup_cons.mp nd
    have ha := hr a (List.mem_cons_self ..)
    have a8 := (hf.2 free[st] (List.getElem_mem hst)).2 a ha.1
    have tail := fun s hs => hr s (List.mem_cons_of_mem _ hs)
    have hb : left.testBit a.toNat = true ∧ left < 256 := by
      rcases h with ⟨_, h, _⟩ | ⟨s0, h0, h1, h2, h3, h4, _⟩
      · rw [h]; exact ⟨ha.2, hl0⟩
      · have s8 := (hf.2 free[st] (List.getElem_mem hst)).2 s0 h1
        have := (bit_sub left0 hl0 s0.toNat (by omega) h2).2 a.toNat (by omega)
        rw [h4]
        refine ⟨?_, Nat.lt_of_le_of_lt (Nat.sub_le _ _) hl0⟩
        rw [this, ha.2]
        have : a.toNat ≠ s0.toNat := fun e => h0 (by
          have : a = s0 := by omega
          rw [← this]; exact List.mem_cons_self ..)
        rw [decide_eq_false this]; rfl
    have bs := bit_sub left hb.2 a.toNat (by omega) hb.1
    have ih := inner_ok hf hst hl0 hp (tgt := tgt) r ndc.2 tail
    show Ok ((q_order_at1 free (st : Int) a (known, (left : Int), found, (ahead : Int))).bind (foldR (q_order_at1 free (st : Int)) r)) _
    generalize foldR (q_order_at1 free (st : Int)) r = F at ih ⊢
    unfold q_order_at1
    simp only [shl1 a8.1 (show a ≤ 1000 by omega), R.bind_ok, R.bind_assoc]
    rw [p_sub bs.1, show (st : Int) + 1 = ((st + 1 : Nat) : Int) by omega]
    refine Ok.bind (counts_ok hf 10 hk (by omega) (by have := hf.1; omega) (Nat.lt_of_le_of_lt (Nat.sub_le _ _) hb.2)) fun ways hw => ?_
    have hw1 := hw.1
    rw [cnt_len] at hw1
    rcases h with ⟨h1, h2, h3⟩ | ⟨s0, h0, h1, h2, h3, h4, t, h5, h6⟩
    · subst h1 h2
      rw [List.flatMap_cons] at h3
      by_cases c : ahead < ((En (free.drop (st + 1)) (left - 2 ^ a.toNat)).length)
      · rw [if_pos (by rw [decide_eq_true (by omega), decide_eq_true (by omega)]; rfl), appR_ok (by have := hf.1; omega)]
        simp only [R.bind_ok]
        refine ih ways.2 (left - 2 ^ a.toNat) (found ++ [a]) ahead hw.2 (.inr ⟨a, ndc.1, ha.1, ha.2, rfl, rfl, ?_⟩)
        rw [List.getElem?_append_left (by rw [List.length_map]; exact c), List.getElem?_map] at h3
        cases e : (En (free.drop (st + 1)) (left - 2 ^ a.toNat))[ahead]? with
        | none => rw [e] at h3; cases h3
        | some t =>
          rw [e] at h3
          exact ⟨t, rfl, (Option.some.inj h3).symm⟩
      · rw [if_neg (by rw [decide_eq_false (show ¬ (ahead : Int) < ways.1 by omega), Bool.and_false]; simp), if_pos (by rw [decide_eq_true (by omega)])]
        rw [hw1, show (ahead : Int) - ((En (free.drop (st + 1)) (left - 2 ^ a.toNat)).length : Int) = ((ahead - (En (free.drop (st + 1)) (left - 2 ^ a.toNat)).length : Nat) : Int) by omega]
        refine ih ways.2 left found _ hw.2 (.inl ⟨rfl, rfl, ?_⟩)
        rw [List.getElem?_append_right (by rw [List.length_map]; omega), List.length_map] at h3
        exact h3
    · have fl : found.length = st + 1 := by rw [h3, List.length_append, hp]; rfl
      rw [if_neg (by rw [decide_eq_false (show ¬ (found.length : Int) = (st : Int) by omega)]; simp), if_neg (by rw [decide_eq_false (show ¬ (found.length : Int) = (st : Int) by omega)]; simp)]
      exact ih ways.2 left found ahead hw.2 (.inr ⟨s0, fun z => h0 (List.mem_cons_of_mem _ z), h1, h2, h3, h4, t, h5, h6⟩)
end
theorem frees_nd {table : List (List Int)} {bars : Bar} {n : Int} : ∀ f ∈ frees table bars n, f.Nodup := fun f hf => by
  unfold frees at hf
  obtain ⟨st, _, rfl⟩ := List.mem_map.mp hf
  exact (irange_nodup 0 n).filter _
abbrev full (n : Int) : Nat := 2 ^ n.toNat - 1
/-- the order of a number -/
theorem orderAt_ok {n m : Int} {table : List (List Int)} {bars : Bar} (h : IsTab n m table) (hm0 : 0 < m) (hm : m ≤ 1000) (hn0 : 0 ≤ n) (hn : n ≤ 8) (hb : bars.length ≤ 1000) {number : Nat} {o : List Int} (ho : (En (frees table bars n) (full n))[number]? = some o) : p_order_at table (number : Int) (some bars) = .ok o := by
  have hf := freeOk (table := table) (bars := bars) hn0 hn
  have fl := frees_len (table := table) (bars := bars) (n := n)
  have ps := pow_small hn0 hn
  suffices Ok (p_order_at table (number : Int) (some bars)) (· = o) from this.get
  unfold p_order_at
  rw [free_ok h hm0 hm hn0 (by omega) hb]
  simp only [R.bind_ok, R.bind_assoc]
  rw [show ((frees table bars n).length : Int) = n by omega, shl1 hn0 (by omega)]
  simp only [R.bind_ok]
  have e3 : (2 : Int) ^ n.toNat - 1 = ((full n : Nat) : Int) := by
    show _ = ((2 ^ n.toNat - 1 : Nat) : Int)
    rw [Int.ofNat_sub ps.1]; simp
  rw [e3]
  have q0 := counts_ok hf 10 (st := 0) (left := full n) (known := []) ⟨List.nodup_nil, fun p hp => by cases hp⟩ (Nat.zero_le _) (by omega) (by unfold full; omega)
  rw [show ((0 : Nat) : Int) = 0 from rfl, List.drop_zero] at q0
  refine Ok.bind q0 fun v hv => ?_
  have hv1 := hv.1
  rw [cnt_len] at hv1
  have lt := (List.getElem?_eq_some_iff.mp ho).1
  unfold p_is_within
  simp only [R.bind_ok]
  rw [decide_eq_true (show (0 : Int) ≤ (number : Int) by omega), decide_eq_true (show (number : Int) ≤ v.1 - 1 by omega)]
  simp only [Bool.true_and, Bool.not_true, Bool.not_false, Bool.false_eq_true, if_false]
  rw [rg1_ok (by omega)]
  simp only [R.bind_ok]
  have := ok_fold (f := q_order_at2 (frees table bars n)) (fun i s => Known (frees table bars n) s.1 ∧ ∃ left ahead : Nat, s.2.1 = (left : Int) ∧ s.2.2.2 = (ahead : Int) ∧ left < 256 ∧ s.2.2.1.length = i ∧ ∃ t, (En ((frees table bars n).drop i) left)[ahead]? = some t ∧ o = s.2.2.1 ++ t) (irange 0 n) 0 (v.2, ((full n : Nat) : Int), [], (number : Int)) ⟨hv.2, full n, number, rfl, rfl, by unfold full; omega, rfl, o, ho, rfl⟩ (by
    rintro j a ⟨known, lf, found, ah⟩ e ⟨hk, left, ahead, e1, e2, hl, hfl, t, ht, hot⟩
    obtain ⟨rfl, hj⟩ := irange_get e
    simp only [Nat.zero_add] at hfl ht ⊢
    simp only at e1 e2 hk hfl hot
    subst e1 e2
    have lj : j < (frees table bars n).length := by omega
    have fok := hf.2 (frees table bars n)[j] (List.getElem_mem lj)
    unfold q_order_at2
    have ea : atR (frees table bars n) (0 + (j : Int)) = .ok (frees table bars n)[j] := by
      unfold atR L2.atI ixN
      rw [if_pos (by omega), if_pos (by omega), show ((0 : Int) + (j : Int)).toNat = j by omega]
      simp [lj]
    rw [ea]
    simp only [R.bind_ok]
    rw [comp_filter (fun s : Int => left.testBit s.toNat) (by omega) fun s hs => by
      have hs2 := fok.2 s hs
      unfold shrR
      rw [if_pos (tru_iff.mpr hs2.1)]
      simp only [R.bind_ok]
      rw [bit_and left hl s.toNat (by omega)]]
    simp only [R.bind_ok]
    rw [show (0 : Int) + (j : Int) = ((j : Nat) : Int) by omega]
    have ed : (frees table bars n).drop j = (frees table bars n)[j] :: (frees table bars n).drop (j + 1) := List.drop_eq_getElem_cons lj
    rw [ed] at ht
    refine Ok.bind (inner_ok hf lj hl hfl (tgt := t) _ ((frees_nd _ (List.getElem_mem lj)).filter _) (fun s hs => by
      have := List.mem_filter.mp hs
      exact ⟨this.1, this.2⟩) known left found ahead hk (.inl ⟨rfl, rfl, ht⟩)) fun z hz => ?_
    obtain ⟨z1, l2, a2, s0, z2, z3, z4, z5, z6, z7, t2, z8, z9⟩ := hz
    refine Ok.ret ⟨z1, l2, a2, z2, z3, by rw [z5]; exact Nat.lt_of_le_of_lt (Nat.sub_le _ _) hl, by show z.2.2.1.length = j + 1; rw [z4, List.length_append, hfl]; rfl, t2, z8, ?_⟩
    show o = z.2.2.1 ++ t2
    rw [z4, hot, z9, List.append_assoc]; rfl)
  rw [irange_len] at this
  refine Ok.bind this fun s hs => ?_
  obtain ⟨_, left, ahead, _, _, _, _, t, ht, hot⟩ := hs
  rw [List.drop_eq_nil_of_le (by omega)] at ht
  have : t = [] := by
    unfold En at ht
    cases ahead with
    | zero => simp at ht; exact ht
    | succ k => simp at ht
  subst this
  rw [List.append_nil] at hot
  exact Ok.ret hot.symm
end Law

set_option Elab.async false
set_option linter.all false
set_option maxRecDepth 100000
namespace Law
open PySem PySem.Spec PyProof.Rows L2 Fx
/-! all orders, gone through, and those that go beside -/
def An (n : Int) : Nat → List (List Int)
  | 0 => [[]]
  | k + 1 => (An n k).flatMap fun own => ((irange 0 n).filter fun s => !decide (s ∈ own)).map fun s => own ++ [s]
theorem flat_len {α β : Type} {g : α → List β} {b : Nat} : ∀ {l : List α}, (∀ a ∈ l, (g a).length ≤ b) → (l.flatMap g).length ≤ l.length * b
  | [], _ => Nat.zero_le _
  | a :: l, h => by
    rw [List.flatMap_cons, List.length_append, List.length_cons, Nat.succ_mul]
    have := h a (List.mem_cons_self ..)
    have := flat_len (l := l) fun x hx => h x (List.mem_cons_of_mem _ hx)
    omega
theorem An_len {n : Int} (hn0 : 0 ≤ n) (hn : n ≤ 6) : ∀ k, (An n k).length ≤ 6 ^ k
  | 0 => Nat.le_refl _
  | k + 1 => by
    have := An_len hn0 hn k
    have q := flat_len (l := An n k) (g := fun own => ((irange 0 n).filter fun s => !decide (s ∈ own)).map fun s => own ++ [s]) (b := 6) fun own _ => by
      rw [List.length_map]
      refine Nat.le_trans (List.length_filter_le _ _) ?_
      rw [irange_len]; omega
    show (List.flatMap _ _).length ≤ _
    rw [Nat.pow_succ]
    exact Nat.le_trans q (Nat.mul_le_mul_right 6 this)
theorem An_mem {n : Int} : ∀ {k : Nat} {own : List Int}, own ∈ An n k → own.length = k ∧ own.Nodup ∧ ∀ s ∈ own, 0 ≤ s ∧ s < n
  | 0, own, h => by
    have : own = [] := by simpa [An] using h
    subst this
    exact ⟨rfl, List.nodup_nil, fun s hs => by cases hs⟩
  | k + 1, own, h => by
    unfold An at h
    obtain ⟨o, ho, h2⟩ := List.mem_flatMap.mp h
    obtain ⟨s, hs, rfl⟩ := List.mem_map.mp h2
    obtain ⟨hs1, hs2⟩ := List.mem_filter.mp hs
    have ih := An_mem ho
    have ns : s ∉ o := by simpa using hs2
    refine ⟨by rw [List.length_append, ih.1]; rfl, List.nodup_append.mpr ⟨ih.2.1, by simp, fun x hx y hy => ?_⟩, fun x hx => ?_⟩
    · have : y = s := by simpa using hy
      subst this
      rintro rfl
      exact ns hx
    · rcases List.mem_append.mp hx with q | q
      · exact ih.2.2 x q
      · rw [List.mem_singleton.mp q]; exact mem_irange.mp hs1
theorem fold_ext {α β : Type} {f : α → List β → R (List β)} (g : α → List β) : ∀ (l : List α) (s : List β), s.length + (l.flatMap g).length ≤ 1000000 → (∀ a ∈ l, ∀ s : List β, s.length + (g a).length ≤ 1000000 → f a s = .ok (s ++ g a)) → foldR f l s = .ok (s ++ l.flatMap g)
  | [], s, _, _ => by simp [foldR]
  | a :: l, s, hl, h => by
    rw [List.flatMap_cons, List.length_append] at hl
    show (f a s).bind _ = _
    rw [h a (List.mem_cons_self ..) s (by omega)]
    simp only [R.bind_ok]
    rw [fold_ext g l _ (by rw [List.length_append]; omega) fun b hb => h b (List.mem_cons_of_mem _ hb), List.flatMap_cons, List.append_assoc]
theorem allOrders_ok {n : Int} (hn0 : 0 ≤ n) (hn : n ≤ 6) : p_l_all_orders n = .ok (An n n.toNat) := by
  suffices Ok (p_l_all_orders n) (· = An n n.toNat) from this.get
  unfold p_l_all_orders
  rw [rg1_ok (by omega)]
  simp only [R.bind_ok]
  have := ok_fold (f := q_l_all_orders2 n) (fun i s => s = An n i) (irange 0 n) 0 [[]] rfl (by
    rintro j a s e rfl
    obtain ⟨rfl, hj⟩ := irange_get e
    unfold q_l_all_orders2
    simp only [Nat.zero_add]
    have b1 := An_len hn0 hn j
    have b2 := An_len hn0 hn (j + 1)
    have p6 : 6 ^ (j + 1) ≤ 6 ^ 6 := Nat.pow_le_pow_right (by omega) (by omega)
    have e := fold_ext (f := q_l_all_orders1 n (An n j)) (fun own => ((irange 0 n).filter fun s => !decide (s ∈ own)).map fun s => own ++ [s]) (An n j) [] (by
      have : ((An n j).flatMap fun own => ((irange 0 n).filter fun s => !decide (s ∈ own)).map fun s => own ++ [s]).length ≤ 6 ^ (j + 1) := b2
      rw [List.length_nil]; omega) fun own hown s hs => by
        unfold q_l_all_orders1
        rw [rg1_ok (by omega)]
        simp only [R.bind_ok, R.bind_assoc]
        have hl := (An_mem hown).1
        rw [comp_ok (fun s => !decide (s ∈ own)) (fun s => own ++ [s]) (by rw [irange_len]; omega) fun s _ => ⟨rfl, fun _ => catR_ok (by rw [hl]; simp; omega)⟩]
        simp only [R.bind_ok]
        rw [extR_ok hs]
        rfl
    rw [e]
    exact Ok.ret rfl)
  rw [irange_len] at this
  refine Ok.bind this fun s hs => Ok.ret ?_
  show s = _
  rw [hs]
  congr 1
  omega
theorem lft_bits : ∀ {own : List Int} {left : Nat}, left < 256 → own.Nodup → (∀ s ∈ own, 0 ≤ s ∧ s < 8 ∧ left.testBit s.toNat = true) → (own.foldl (fun l s => l - 2 ^ s.toNat) left) < 256 ∧ ∀ j : Int, 0 ≤ j → j < 8 → (own.foldl (fun l s => l - 2 ^ s.toNat) left).testBit j.toNat = (left.testBit j.toNat && !decide (j ∈ own))
  | [], left, hl, _, _ => ⟨hl, fun j _ _ => by simp⟩
  | a :: own, left, hl, nd, h => by
    have ndc := List.nodup_cons.mp nd
    have ha := h a (List.mem_cons_self ..)
    have bs := bit_sub left hl a.toNat (by omega) ha.2.2
    have ih := lft_bits (own := own) (left := left - 2 ^ a.toNat) (Nat.lt_of_le_of_lt (Nat.sub_le _ _) hl) ndc.2 fun s hs => by
      have h3 := h s (List.mem_cons_of_mem _ hs)
      refine ⟨h3.1, h3.2.1, ?_⟩
      rw [bs.2 s.toNat (by omega), h3.2.2]
      have : s.toNat ≠ a.toNat := fun e => ndc.1 (by
        have : s = a := by omega
        rw [← this]; exact hs)
      rw [decide_eq_false this]; rfl
    refine ⟨ih.1, fun j h0 h1 => ?_⟩
    rw [List.foldl_cons, ih.2 j h0 h1, bs.2 j.toNat (by omega), Bool.and_assoc]
    congr 1
    by_cases c : j = a
    · subst c; simp
    · have : j.toNat ≠ a.toNat := by omega
      rw [decide_eq_false this]
      simp [c]
theorem full_bits {n : Int} (hn0 : 0 ≤ n) (hn : n ≤ 8) {j : Int} (h0 : 0 ≤ j) (h1 : j < n) : (full n).testBit j.toNat = true := by
  unfold full
  rw [Nat.testBit_two_pow_sub_one, decide_eq_true_eq]; omega
section
variable {n m : Int} {table : List (List Int)} {bars : Bar}
def goB (fr : List (List Int)) (k : Nat) (own : List Int) : Bool := (List.range k).all fun i => decide (nth own (i : Nat) ∈ nth fr (i : Nat))
abbrev lft (n : Int) (own : List Int) : Nat := own.foldl (fun l s => l - 2 ^ s.toNat) (full n)
theorem filter_flat {α β : Type} {p : β → Bool} {g : α → List β} : ∀ (l : List α), (l.flatMap g).filter p = l.flatMap fun a => (g a).filter p
  | [] => rfl
  | a :: l => by rw [List.flatMap_cons, List.filter_append, filter_flat l, List.flatMap_cons]
theorem flat_if {α β : Type} {p : α → Bool} {g : α → List β} : ∀ (l : List α), (l.flatMap fun a => if p a = true then g a else []) = (l.filter p).flatMap g
  | [] => rfl
  | a :: l => by
    rw [List.flatMap_cons, flat_if l]
    cases e : p a with
    | true => rw [if_pos rfl, List.filter_cons_of_pos e, List.flatMap_cons]
    | false => rw [if_neg (by simp), List.filter_cons_of_neg (by simp [e]), List.nil_append]
theorem flat_congr {α β : Type} {g h : α → List β} : ∀ (l : List α), (∀ a ∈ l, g a = h a) → l.flatMap g = l.flatMap h
  | [], _ => rfl
  | a :: l, k => by rw [List.flatMap_cons, List.flatMap_cons, k a (List.mem_cons_self ..), flat_congr l fun b hb => k b (List.mem_cons_of_mem _ hb)]
theorem flat_flat {α β γ : Type} {g : α → List β} {h : β → List γ} : ∀ (l : List α), (l.flatMap g).flatMap h = l.flatMap fun a => (g a).flatMap h
  | [] => rfl
  | a :: l => by rw [List.flatMap_cons, List.flatMap_append, flat_flat l, List.flatMap_cons]
theorem map_flat {α β γ : Type} {g : α → List β} {h : β → γ} : ∀ (l : List α), (l.flatMap g).map h = l.flatMap fun a => (g a).map h
  | [] => rfl
  | a :: l => by rw [List.flatMap_cons, List.map_append, map_flat l, List.flatMap_cons]
theorem flat_map {α β γ : Type} {g : α → β} {h : β → List γ} : ∀ (l : List α), (l.map g).flatMap h = l.flatMap fun a => h (g a)
  | [] => rfl
  | a :: l => by rw [List.map_cons, List.flatMap_cons, flat_map l, List.flatMap_cons]
theorem go_step (hn0 : 0 ≤ n) {k : Nat} (hk : (k : Int) < n) : (An n (k + 1)).filter (goB (frees table bars n) (k + 1)) = ((An n k).filter (goB (frees table bars n) k)).flatMap fun own => ((nth (frees table bars n) (k : Nat)).filter fun s => !decide (s ∈ own)).map fun s => own ++ [s] := by
  show (List.flatMap _ _).filter _ = _
  rw [filter_flat, ← flat_if]
  refine flat_congr _ fun own hown => ?_
  have hl := (An_mem hown).1
  have lst : ∀ s, goB (frees table bars n) (k + 1) (own ++ [s]) = (goB (frees table bars n) k own && decide (s ∈ nth (frees table bars n) (k : Nat))) := fun s => by
    unfold goB
    rw [List.range_succ, List.all_append, List.all_cons, List.all_nil, Bool.and_true]
    congr 1
    · have : ∀ i ∈ List.range k, decide (nth (own ++ [s]) (i : Nat) ∈ nth (frees table bars n) (i : Nat)) = decide (nth own (i : Nat) ∈ nth (frees table bars n) (i : Nat)) := fun i hi => by
        have hi := List.mem_range.mp hi
        rw [nth_nat (show i < (own ++ [s]).length by rw [List.length_append]; omega), nth_nat (show i < own.length by omega), List.getElem_append_left (by omega)]
      rw [Bool.eq_iff_iff, List.all_eq_true, List.all_eq_true]
      exact ⟨fun h i hi => by rw [← this i hi]; exact h i hi, fun h i hi => by rw [this i hi]; exact h i hi⟩
    · have : nth (own ++ [s]) (k : Nat) = s := by
        rw [nth_nat (show k < (own ++ [s]).length by rw [List.length_append, hl]; simp)]
        rw [List.getElem_append_right (by omega)]
        simp [hl]
      rw [this]
  rw [List.filter_map]
  cases e : goB (frees table bars n) k own with
  | false =>
    rw [if_neg (by simp)]
    have : (((irange 0 n).filter fun s => !decide (s ∈ own)).filter ((goB (frees table bars n) (k + 1)) ∘ fun s => own ++ [s])) = [] := by
      rw [List.filter_eq_nil_iff]
      intro s _
      show ¬ goB (frees table bars n) (k + 1) (own ++ [s]) = true
      rw [lst s, e]; simp
    rw [this]; rfl
  | true =>
    rw [if_pos rfl]
    congr 1
    have fk : nth (frees table bars n) (k : Nat) = freeL table bars n (k : Nat) := frees_at (by omega) hk
    rw [fk]
    unfold freeL
    rw [List.filter_filter, List.filter_filter]
    refine List.filter_congr fun s hs => ?_
    show (goB (frees table bars n) (k + 1) (own ++ [s]) && !decide (s ∈ own)) = _
    rw [lst s, e, Bool.true_and, fk, Bool.and_comm]
    congr 1
    unfold freeL
    rw [Bool.eq_iff_iff, decide_eq_true_eq, List.mem_filter]
    exact ⟨fun h => h.2, fun h => ⟨hs, h⟩⟩
theorem some_En (hn0 : 0 ≤ n) (hn : n ≤ 8) : ∀ k : Nat, (k : Int) ≤ n → (((An n k).filter (goB (frees table bars n) k)).flatMap fun own => (En ((frees table bars n).drop k) (lft n own)).map (own ++ ·)) = En (frees table bars n) (full n)
  | 0, _ => by
    have : (An n 0).filter (goB (frees table bars n) 0) = [[]] := rfl
    rw [this, List.flatMap_cons, List.flatMap_nil, List.append_nil]
    show (En ((frees table bars n).drop 0) (full n)).map ([] ++ ·) = _
    rw [List.drop_zero]
    have : ((fun x : List Int => [] ++ x)) = fun x => x := funext fun x => List.nil_append x
    rw [this, List.map_id']
  | k + 1, hk => by
    rw [← some_En hn0 hn k (by omega), go_step hn0 (by omega), flat_flat]
    refine flat_congr _ fun own hown => ?_
    have am := An_mem (List.mem_filter.mp hown).1
    have fl := frees_len (table := table) (bars := bars) (n := n)
    have lk : k < (frees table bars n).length := by omega
    have ps := pow_small hn0 hn
    have lb := lft_bits (own := own) (left := full n) (by unfold full; omega) am.2.1 fun s hs => by
      have := am.2.2 s hs
      exact ⟨this.1, by omega, full_bits hn0 hn this.1 this.2⟩
    rw [flat_map, List.drop_eq_getElem_cons lk]
    show _ = (List.flatMap _ _).map _
    rw [map_flat]
    have ek : nth (frees table bars n) (k : Nat) = (frees table bars n)[k] := nth_nat lk
    rw [ek]
    have ef : ((frees table bars n)[k].filter fun s => (lft n own).testBit s.toNat) = (frees table bars n)[k].filter fun s => !decide (s ∈ own) := List.filter_congr fun s hs => by
      have sn : 0 ≤ s ∧ s < n := by
        have : s ∈ freeL table bars n (k : Nat) := by
          rw [← frees_at (by omega) (by omega), ek]; exact hs
        unfold freeL at this
        exact mem_irange.mp (List.mem_filter.mp this).1
      rw [lb.2 s sn.1 (by omega), full_bits hn0 hn sn.1 sn.2, Bool.true_and]
    rw [ef]
    refine flat_congr _ fun s _ => ?_
    rw [List.map_map]
    show (En ((frees table bars n).drop (k + 1)) (lft n (own ++ [s]))).map _ = _
    have : lft n (own ++ [s]) = lft n own - 2 ^ s.toNat := by
      show List.foldl _ _ _ = _
      rw [List.foldl_append]; rfl
    rw [this]
    refine List.map_congr_left fun t _ => ?_
    show own ++ [s] ++ t = own ++ (s :: t)
    rw [List.append_assoc]; rfl
/-- those that go beside are those by the bits, in order -/
theorem some_ok (hn0 : 0 ≤ n) (hn : n ≤ 8) : (An n n.toNat).filter (goB (frees table bars n) n.toNat) = En (frees table bars n) (full n) := by
  rw [← some_En hn0 hn n.toNat (by omega)]
  have : (frees table bars n).drop n.toNat = [] := List.drop_eq_nil_of_le (by rw [frees_len]; omega)
  rw [this]
  show _ = List.flatMap (fun own => [own ++ []]) _
  have e : (fun own : List Int => [own ++ []]) = fun own => [own] := funext fun own => by rw [List.append_nil]
  rw [e]
  generalize (An n n.toNat).filter (goB (frees table bars n) n.toNat) = l
  induction l with
  | nil => rfl
  | cons a l ih => rw [List.flatMap_cons, ← ih]; rfl
end
end Law

set_option Elab.async false
set_option linter.all false
set_option maxRecDepth 100000
namespace Law
open PySem PySem.Spec PyProof.Rows L2 Fx
/-! steps that get spots -/
theorem has_keys {T : List (Int × Bool)} {x : Int} : (getK T x).isSome = decide (x ∈ keysX T) := by
  induction T with
  | nil => rfl
  | cons p T ih =>
    unfold getK keysX
    rw [List.map_cons]
    by_cases q : p.1 = x
    · rw [if_pos q]
      simp [q]
    · rw [if_neg q, ih]
      have : x ≠ p.1 := fun z => q z.symm
      rw [Bool.eq_iff_iff, decide_eq_true_eq, decide_eq_true_eq, List.mem_cons]
      exact ⟨.inr, fun h => h.resolve_left this⟩
theorem put_new {T : List (Int × Bool)} {a : Int} (h : a ∉ keysX T) : Fx.putK T a true = T ++ [(a, true)] := by
  unfold Fx.putK
  rw [if_neg]
  intro q
  obtain ⟨p, hp, e⟩ := List.any_eq_true.mp q
  exact h (List.mem_map.mpr ⟨p, hp, of_decide_eq_true e⟩)
theorem keys_app {T : List (Int × Bool)} {a x : Int} : x ∈ keysX (T ++ [(a, true)]) ↔ x ∈ keysX T ∨ x = a := by
  unfold keysX
  rw [List.map_append, List.mem_append]; simp
structure Tri (n : Int) (T : List (Int × Bool)) : Prop where
  nd : (keysX T).Nodup
  rg : ∀ x ∈ keysX T, 0 ≤ x ∧ x < n
theorem Tri.len {n : Int} {T : List (Int × Bool)} (h : Tri n T) : T.length ≤ n.toNat := by
  have := nd_len (m := irange 0 n) h.nd fun x hx => mem_irange.mpr (h.rg x hx)
  rw [irange_len] at this
  unfold keysX at this
  rw [List.length_map] at this
  omega
theorem Tri.put {n : Int} {T : List (Int × Bool)} (h : Tri n T) {a : Int} (ha : a ∉ keysX T) (h0 : 0 ≤ a) (h1 : a < n) : Tri n (T ++ [(a, true)]) := by
  refine ⟨?_, fun x hx => ?_⟩
  · unfold keysX
    rw [List.map_append]
    refine List.nodup_append.mpr ⟨h.nd, by simp, fun x hx y hy => ?_⟩
    have : y = a := by simpa using hy
    subst this
    rintro rfl
    exact ha hx
  · rcases keys_app.mp hx with q | q
    · exact h.rg x q
    · rw [q]; exact ⟨h0, h1⟩
theorem nth_set {l : List (Option Int)} {a x : Int} {v : Option Int} (h0 : 0 ≤ a) (h1 : a < l.length) (hx : 0 ≤ x) : nth (l.set a.toNat v) x = if x = a then v else nth l x := by
  unfold nth
  rw [List.getD_eq_getElem?_getD, List.getElem?_set]
  by_cases c : x = a
  · subst c
    rw [if_pos rfl, if_pos (by omega), if_pos rfl]; rfl
  · rw [if_neg (by omega), if_neg c, List.getD_eq_getElem?_getD]
abbrev Mates := List (Option Int)
structure Val (free : List (List Int)) (n : Int) (M : Mates) (T : List (Int × Bool)) : Prop where
  len : M.length = n.toNat
  v1 : ∀ x t, 0 ≤ x → x < n → x ∉ keysX T → nth M x = some t → 0 ≤ t ∧ t < n ∧ x ∈ nth free t
  v2 : ∀ x y t, 0 ≤ x → x < n → 0 ≤ y → y < n → x ∉ keysX T → y ∉ keysX T → nth M x = some t → nth M y = some t → x = y
def Out_ (n : Int) (M : Mates) (T : List (Int × Bool)) (t : Int) : Prop := ∃ x, 0 ≤ x ∧ x < n ∧ x ∉ keysX T ∧ nth M x = some t
def Shut (free : List (List Int)) (n : Int) (M : Mates) (T T' : List (Int × Bool)) : Prop := ∀ x ∈ keysX T', x ∉ keysX T → ∃ t, nth M x = some t ∧ 0 ≤ t ∧ t < n ∧ ∀ s ∈ nth free t, s ∈ keysX T'
structure Won (free : List (List Int)) (n : Int) (M : Mates) (T : List (Int × Bool)) (step : Int) (M' : Mates) : Prop where
  val : Val free n M' T
  same : ∀ x, 0 ≤ x → x < n → x ∈ keysX T → nth M' x = nth M x
  set : ∀ t, Out_ n M' T t ↔ t = step ∨ Out_ n M T t
structure Post (free : List (List Int)) (n : Int) (M : Mates) (T : List (Int × Bool)) (step : Int) (v : Bool × Mates × List (Int × Bool)) : Prop where
  tri : Tri n v.2.2
  sub : ∀ x ∈ keysX T, x ∈ keysX v.2.2
  yes : v.1 = true → Won free n M T step v.2.1
  no : v.1 = false → v.2.1 = M ∧ (∀ s ∈ nth free step, s ∈ keysX v.2.2) ∧ Shut free n M T v.2.2
section
variable {free : List (List Int)} {n : Int}
/-- a spot that nobody has -/
theorem won_none {M : Mates} {T : List (Int × Bool)} {step a : Int} (hv : Val free n M T) (h3 : ¬ Out_ n M T step) (hs : 0 ≤ step ∧ step < n) (ha : 0 ≤ a ∧ a < n) (haT : a ∉ keysX T) (haf : a ∈ nth free step) (hM : nth M a = none) : Won free n M T step (M.set a.toNat (some step)) := by
  have hl := hv.len
  have ns : ∀ x, 0 ≤ x → nth (M.set a.toNat (some step)) x = if x = a then some step else nth M x := fun x hx => nth_set ha.1 (by omega) hx
  refine ⟨⟨by rw [List.length_set]; exact hl, fun x t h0 h1 hx e => ?_, fun x y t h0 h1 k0 k1 hx hy ex ey => ?_⟩, fun x h0 h1 hx => ?_, fun t => ⟨?_, ?_⟩⟩
  · rw [ns x h0] at e
    by_cases c : x = a
    · rw [if_pos c] at e
      cases e
      rw [c]; exact ⟨hs.1, hs.2, haf⟩
    · rw [if_neg c] at e
      exact hv.v1 x t h0 h1 hx e
  · rw [ns x h0] at ex
    rw [ns y k0] at ey
    by_cases c : x = a
    · by_cases d : y = a
      · rw [c, d]
      · rw [if_pos c] at ex
        rw [if_neg d] at ey
        cases ex
        exact absurd ⟨y, k0, k1, hy, ey⟩ h3
    · by_cases d : y = a
      · rw [if_neg c] at ex
        rw [if_pos d] at ey
        cases ey
        exact absurd ⟨x, h0, h1, hx, ex⟩ h3
      · rw [if_neg c] at ex
        rw [if_neg d] at ey
        exact hv.v2 x y t h0 h1 k0 k1 hx hy ex ey
  · rw [ns x h0, if_neg (fun z : x = a => haT (z ▸ hx))]
  · rintro ⟨x, h0, h1, hx, e⟩
    rw [ns x h0] at e
    by_cases c : x = a
    · rw [if_pos c] at e
      cases e
      exact .inl rfl
    · rw [if_neg c] at e
      exact .inr ⟨x, h0, h1, hx, e⟩
  · rintro (rfl | ⟨x, h0, h1, hx, e⟩)
    · exact ⟨a, ha.1, ha.2, haT, by rw [ns a ha.1, if_pos rfl]⟩
    · refine ⟨x, h0, h1, hx, ?_⟩
      rw [ns x h0, if_neg fun z => by rw [z, hM] at e; cases e]
      exact e
/-- a spot whose step got another one -/
theorem won_more {M M2 : Mates} {T Tc : List (Int × Bool)} {step a t0 : Int} (hv : Val free n M T) (h3 : ¬ Out_ n M T step) (hs : 0 ≤ step ∧ step < n) (ha : 0 ≤ a ∧ a < n) (hsub : ∀ x ∈ keysX T, x ∈ keysX Tc) (haT : a ∉ keysX Tc) (haf : a ∈ nth free step) (hM : nth M a = some t0)
    (w : Won free n M (Tc ++ [(a, true)]) t0 M2) : Won free n M T step (M2.set a.toNat (some step)) := by
  have hl := w.val.len
  have aT : a ∉ keysX T := fun z => haT (hsub a z)
  have ns : ∀ x, 0 ≤ x → nth (M2.set a.toNat (some step)) x = if x = a then some step else nth M2 x := fun x hx => nth_set ha.1 (by omega) hx
  -- M2 at a spot outside T, that is not a: either outside of all, or as before
  have in1 : ∀ x, 0 ≤ x → x < n → x ∈ keysX (Tc ++ [(a, true)]) → nth M2 x = nth M x := w.same
  have tn : t0 ≠ step := fun e => h3 ⟨a, ha.1, ha.2, aT, by rw [hM, e]⟩
  have out2 : ∀ x s, 0 ≤ x → x < n → x ∉ keysX T → x ≠ a → nth M2 x = some s → s = t0 ∧ x ∉ keysX (Tc ++ [(a, true)]) ∨ (∃ y, 0 ≤ y ∧ y < n ∧ y ∉ keysX T ∧ y ≠ a ∧ nth M y = some s ∧ (x ∈ keysX (Tc ++ [(a, true)]) → y = x) ∧ (x ∉ keysX (Tc ++ [(a, true)]) → y ∉ keysX (Tc ++ [(a, true)]))) := by
    intro x s h0 h1 hx hxa e
    by_cases c : x ∈ keysX (Tc ++ [(a, true)])
    · exact .inr ⟨x, h0, h1, hx, hxa, by rw [← in1 x h0 h1 c]; exact e, fun _ => rfl, fun z => absurd c z⟩
    · rcases (w.set s).mp ⟨x, h0, h1, c, e⟩ with q | ⟨y, y0, y1, y2, y3⟩
      · exact .inl ⟨q, c⟩
      · exact .inr ⟨y, y0, y1, fun z => y2 (keys_app.mpr (.inl (hsub y z))), fun z => y2 (keys_app.mpr (.inr z)), y3, fun z => absurd z c, fun _ => y2⟩
  have no : ∀ x s, 0 ≤ x → x < n → x ∉ keysX T → x ≠ a → nth M2 x = some s → s ≠ step := by
    intro x s h0 h1 hx hxa e es
    rcases out2 x s h0 h1 hx hxa e with ⟨q, _⟩ | ⟨y, y0, y1, y2, _, y4, _⟩
    · exact tn (q ▸ es)
    · exact h3 ⟨y, y0, y1, y2, by rw [y4, es]⟩
  refine ⟨⟨by rw [List.length_set]; exact hl, fun x t h0 h1 hx e => ?_, fun x y t h0 h1 k0 k1 hx hy ex ey => ?_⟩, fun x h0 h1 hx => ?_, fun t => ⟨?_, ?_⟩⟩
  · rw [ns x h0] at e
    by_cases c : x = a
    · rw [if_pos c] at e
      cases e
      rw [c]; exact ⟨hs.1, hs.2, haf⟩
    · rw [if_neg c] at e
      by_cases d : x ∈ keysX (Tc ++ [(a, true)])
      · rw [in1 x h0 h1 d] at e
        exact hv.v1 x t h0 h1 hx e
      · exact w.val.v1 x t h0 h1 d e
  · rw [ns x h0] at ex
    rw [ns y k0] at ey
    by_cases c : x = a
    · by_cases d : y = a
      · rw [c, d]
      · rw [if_pos c] at ex
        rw [if_neg d] at ey
        cases ex
        exact absurd rfl (no y step k0 k1 hy d ey)
    · by_cases d : y = a
      · rw [if_neg c] at ex
        rw [if_pos d] at ey
        cases ey
        exact absurd rfl (no x step h0 h1 hx c ex)
      · rw [if_neg c] at ex
        rw [if_neg d] at ey
        by_cases p : x ∈ keysX (Tc ++ [(a, true)])
        · by_cases q : y ∈ keysX (Tc ++ [(a, true)])
          · rw [in1 x h0 h1 p] at ex
            rw [in1 y k0 k1 q] at ey
            exact hv.v2 x y t h0 h1 k0 k1 hx hy ex ey
          · rw [in1 x h0 h1 p] at ex
            rcases out2 y t k0 k1 hy d ey with ⟨z, _⟩ | ⟨z, z0, z1, z2, z3, z4, _, z6⟩
            · subst z
              exact absurd (hv.v2 x a t h0 h1 ha.1 ha.2 hx aT ex hM) c
            · have := hv.v2 x z t h0 h1 z0 z1 hx z2 ex z4
              exact absurd (this ▸ p) (z6 q)
        · by_cases q : y ∈ keysX (Tc ++ [(a, true)])
          · rw [in1 y k0 k1 q] at ey
            rcases out2 x t h0 h1 hx c ex with ⟨z, _⟩ | ⟨z, z0, z1, z2, z3, z4, _, z6⟩
            · subst z
              exact absurd (hv.v2 y a t k0 k1 ha.1 ha.2 hy aT ey hM) d
            · have := hv.v2 y z t k0 k1 z0 z1 hy z2 ey z4
              exact absurd (this ▸ q) (z6 p)
          · exact w.val.v2 x y t h0 h1 k0 k1 p q ex ey
  · rw [ns x h0, if_neg (fun z : x = a => aT (z ▸ hx))]
    exact in1 x h0 h1 (keys_app.mpr (.inl (hsub x hx)))
  · rintro ⟨x, h0, h1, hx, e⟩
    rw [ns x h0] at e
    by_cases c : x = a
    · rw [if_pos c] at e
      cases e
      exact .inl rfl
    · rw [if_neg c] at e
      rcases out2 x t h0 h1 hx c e with ⟨q, _⟩ | ⟨y, y0, y1, y2, _, y4, _⟩
      · exact .inr ⟨a, ha.1, ha.2, aT, by rw [hM, q]⟩
      · exact .inr ⟨y, y0, y1, y2, y4⟩
  · rintro (rfl | ⟨x, h0, h1, hx, e⟩)
    · exact ⟨a, ha.1, ha.2, aT, by rw [ns a ha.1, if_pos rfl]⟩
    · have back : ∀ s, (∃ y, 0 ≤ y ∧ y < n ∧ y ∉ keysX (Tc ++ [(a, true)]) ∧ nth M2 y = some s) → Out_ n (M2.set a.toNat (some step)) T s := by
        rintro s ⟨y, y0, y1, y2, y3⟩
        refine ⟨y, y0, y1, fun z => y2 (keys_app.mpr (.inl (hsub y z))), ?_⟩
        rw [ns y y0, if_neg fun z => y2 (keys_app.mpr (.inr z))]; exact y3
      by_cases c : x = a
      · have : t = t0 := by rw [c, hM] at e; exact (Option.some.inj e).symm
        exact back t ((w.set t).mpr (.inl this))
      · by_cases d : x ∈ keysX (Tc ++ [(a, true)])
        · refine ⟨x, h0, h1, hx, ?_⟩
          rw [ns x h0, if_neg c, in1 x h0 h1 d]; exact e
        · exact back t ((w.set t).mpr (.inr ⟨x, h0, h1, d, e⟩))
theorem mated_ok (hn0 : 0 ≤ n) (hn : n ≤ 8) (hfl : free.length = n.toNat) (hfr : ∀ t, 0 ≤ t → t < n → ∀ s ∈ nth free t, 0 ≤ s ∧ s < n) : ∀ (kk : Nat) {M : Mates} {step : Int} {T : List (Int × Bool)}, Tri n T → Val free n M T → ¬ Out_ n M T step → 0 ≤ step ∧ step < n → n.toNat - T.length < kk → Ok (p_mated kk free M step T) (Post free n M T step)
  | 0, M, step, T, _, _, _, _, h => by omega
  | kk + 1, M, step, T, ht, hv, h3, hs, hk => by
    show Ok (r_mated (p_mated kk) free M step T) _
    unfold r_mated
    rw [atR_ok hs.1 (by omega)]
    simp only [R.bind_ok]
    have hl := hv.len
    have loop : ∀ (r : List Int) (Tc : List (Int × Bool)), Tri n Tc → (∀ x ∈ keysX T, x ∈ keysX Tc) → T.length ≤ Tc.length → (∀ s ∈ r, s ∈ nth free step) → Shut free n M T Tc → (∀ s ∈ nth free step, s ∈ r ∨ s ∈ keysX Tc) →
        Ok (loopR (q_mated1 (p_mated kk) free step) r (M, Tc)) fun o => (∃ Tf, o = .nx (M, Tf) ∧ Tri n Tf ∧ (∀ x ∈ keysX T, x ∈ keysX Tf) ∧ Shut free n M T Tf ∧ ∀ s ∈ nth free step, s ∈ keysX Tf) ∨ ∃ v, o = .rt v ∧ Post free n M T step v := by
      intro r
      induction r with
      | nil =>
        intro Tc h1 h2 _ _ h5 h6
        exact Ok.ret (.inl ⟨Tc, rfl, h1, h2, h5, fun s hs2 => (h6 s hs2).resolve_left (fun z => by cases z)⟩)
      | cons a r ih =>
        intro Tc h1 h2 hlen h4 h5 h6
        show Ok ((q_mated1 (p_mated kk) free step a (M, Tc)).bind fun o => o.go (loopR (q_mated1 (p_mated kk) free step) r) fun r => R.ok (.rt r)) _
        generalize loopR (q_mated1 (p_mated kk) free step) r = F at ih ⊢
        have haf := h4 a (List.mem_cons_self ..)
        have ha := hfr step hs.1 hs.2 a haf
        have tail := fun s hs2 => h4 s (List.mem_cons_of_mem _ hs2)
        unfold q_mated1
        rw [has_keys]
        by_cases c : a ∈ keysX Tc
        · rw [if_neg (by simp [c])]
          simp only [R.bind_ok, Out.go_nx]
          refine ih Tc h1 h2 hlen tail h5 fun s hs2 => ?_
          rcases h6 s hs2 with q | q
          · rcases List.mem_cons.mp q with rfl | z
            · exact .inr c
            · exact .inl z
          · exact .inr q
        · rw [if_pos (by simp [c])]
          have len1 := h1.len
          have h1' := h1.put c ha.1 ha.2
          have len2 := h1'.len
          rw [List.length_append, List.length_singleton] at len2
          unfold setKR szR
          rw [if_pos (sz_of (by show Tc.length + 1 ≤ 1000000; omega)), put_new c]
          simp only [R.bind_ok, R.bind_assoc]
          rw [atR_ok ha.1 (by show a < (M.length : Int); omega)]
          simp only [R.bind_ok]
          have aT : a ∉ keysX T := fun z => c (h2 a z)
          cases e : nth M a with
          | none =>
            simp only [Option.isNone_none, if_true, R.bind_ok]
            rw [setR_ok ha.1 (by omega)]
            simp only [R.bind_ok, Out.go_rt]
            exact Ok.ret (.inr ⟨_, rfl, h1', fun x hx => keys_app.mpr (.inl (h2 x hx)), fun _ => won_none hv h3 hs ha aT haf e, fun z => nomatch z⟩)
          | some t0 =>
            simp only [Option.isNone_some, Bool.false_eq_true, if_false, R.ofO_some, R.bind_ok]
            have vt := hv.v1 a t0 ha.1 ha.2 aT e
            have hv2 : Val free n M (Tc ++ [(a, true)]) := ⟨hl, fun x t q0 q1 qx => hv.v1 x t q0 q1 fun z => qx (keys_app.mpr (.inl (h2 x z))), fun x y t q0 q1 k0 k1 qx qy => hv.v2 x y t q0 q1 k0 k1 (fun z => qx (keys_app.mpr (.inl (h2 x z)))) fun z => qy (keys_app.mpr (.inl (h2 y z)))⟩
            have h32 : ¬ Out_ n M (Tc ++ [(a, true)]) t0 := by
              rintro ⟨x, x0, x1, x2, x3⟩
              have := hv.v2 x a t0 x0 x1 ha.1 ha.2 (fun z => x2 (keys_app.mpr (.inl (h2 x z)))) aT x3 e
              exact x2 (keys_app.mpr (.inr this))
            refine Ok.bind (Q := Post free n M (Tc ++ [(a, true)]) t0) (Ok.bind (mated_ok hn0 hn hfl hfr kk h1' hv2 h32 ⟨vt.1, vt.2.1⟩ (by rw [List.length_append, List.length_singleton]; omega)) fun v pv => Ok.ret pv) fun v pv => ?_
            have sub1 : ∀ x ∈ keysX T, x ∈ keysX v.2.2 := fun x hx => pv.sub x (keys_app.mpr (.inl (h2 x hx)))
            cases ev : v.1 with
            | true =>
              simp only [if_true]
              have w := pv.yes ev
              rw [setR_ok ha.1 (by have := w.val.len; omega)]
              simp only [R.bind_ok, Out.go_rt]
              exact Ok.ret (.inr ⟨_, rfl, pv.tri, sub1, fun _ => won_more hv h3 hs ha h2 c haf e w, fun z => nomatch z⟩)
            | false =>
              simp only [Bool.false_eq_true, if_false, R.bind_ok, Out.go_nx]
              obtain ⟨n1, n2, n3⟩ := pv.no ev
              rw [n1]
              refine ih v.2.2 pv.tri sub1 ?_ tail (fun x hx hxT => ?_) fun s hs2 => ?_
              · have hh := nd_len (l := keysX T) (m := keysX v.2.2) ht.nd sub1
                unfold keysX at hh
                rw [List.length_map, List.length_map] at hh
                exact hh
              · by_cases d : x ∈ keysX (Tc ++ [(a, true)])
                · rcases keys_app.mp d with q | q
                  · obtain ⟨t, t1, t2, t3, t4⟩ := h5 x q hxT
                    exact ⟨t, t1, t2, t3, fun s hs2 => pv.sub s (keys_app.mpr (.inl (t4 s hs2)))⟩
                  · exact ⟨t0, by rw [q]; exact e, vt.1, vt.2.1, n2⟩
                · exact n3 x hx d
              · rcases h6 s hs2 with q | q
                · rcases List.mem_cons.mp q with rfl | z
                  · exact .inr (pv.sub s (keys_app.mpr (.inr rfl)))
                  · exact .inl z
                · exact .inr (pv.sub s (keys_app.mpr (.inl q)))
    refine Ok.bind (loop (nth free step) T ht (fun x hx => hx) (Nat.le_refl _) (fun s hs2 => hs2) (fun x hx hn2 => absurd hx hn2) fun s hs2 => .inl hs2) fun o ho => ?_
    rcases ho with ⟨Tf, rfl, t1, t2, t3, t4⟩ | ⟨v, rfl, pv⟩
    · exact Ok.ret ⟨t1, t2, (fun z => nomatch z), fun _ => ⟨rfl, t4, t3⟩⟩
    · exact Ok.ret pv
end
end Law

set_option Elab.async false
set_option linter.all false
set_option maxRecDepth 100000
namespace Law
open PySem PySem.Spec PyProof.Rows L2 Fx
/-! why there is no order, or the first of all -/
theorem En_in : ∀ {fs : List (List Int)} {left : Nat} {o : List Int}, o.length = fs.length → (∀ (i : Nat) (s : Int) (f : List Int), o[i]? = some s → fs[i]? = some f → s ∈ f) → o.Nodup → left < 256 → (∀ s ∈ o, 0 ≤ s ∧ s < 8 ∧ left.testBit s.toNat = true) → o ∈ En fs left
  | [], left, o, h, _, _, _, _ => by
    have : o = [] := List.length_eq_zero_iff.mp h
    rw [this]; exact List.mem_singleton.mpr rfl
  | f :: fs, left, [], h, _, _, _, _ => by cases h
  | f :: fs, left, a :: o, h, hm, nd, hl, hb => by
    have ndc := List.nodup_cons.mp nd
    have ha := hb a (List.mem_cons_self ..)
    have bs := bit_sub left hl a.toNat (by omega) ha.2.2
    unfold En
    refine List.mem_flatMap.mpr ⟨a, List.mem_filter.mpr ⟨hm 0 a f rfl rfl, ha.2.2⟩, List.mem_map.mpr ⟨o, En_in (by simpa using h) (fun i s g h1 h2 => hm (i + 1) s g (by simpa using h1) (by simpa using h2)) ndc.2 (Nat.lt_of_le_of_lt (Nat.sub_le _ _) hl) fun s hs => ?_, rfl⟩⟩
    have h3 := hb s (List.mem_cons_of_mem _ hs)
    refine ⟨h3.1, h3.2.1, ?_⟩
    rw [bs.2 s.toNat (by omega), h3.2.2]
    have : s.toNat ≠ a.toNat := fun e => ndc.1 (by
      have : s = a := by omega
      rw [← this]; exact hs)
    rw [decide_eq_false this]; rfl
theorem loop_or {α σ τ : Type} {f : α → σ → R (Out σ τ)} (I : Nat → σ → Prop) (G : τ → Prop) : ∀ (l : List α) (i : Nat) (s : σ), I i s → (∀ j a s, l[j]? = some a → I (i + j) s → Ok (f a s) fun o => (∃ s', o = .nx s' ∧ I (i + j + 1) s') ∨ ∃ v, o = .rt v ∧ G v) → Ok (loopR f l s) fun o => (∃ s', o = .nx s' ∧ I (i + l.length) s') ∨ ∃ v, o = .rt v ∧ G v
  | [], i, s, h, _ => ⟨.nx s, rfl, .inl ⟨s, rfl, h⟩⟩
  | a :: l, i, s, h, k => by
    refine Ok.bind (k 0 a s rfl h) fun o ho => ?_
    rcases ho with ⟨s', rfl, h'⟩ | ⟨v, rfl, hv⟩
    · have := loop_or I G l (i + 1) s' h' fun j a s e hi => by
        have := k (j + 1) a s (by simpa using e) (by rw [show i + (j + 1) = i + 1 + j by omega]; exact hi)
        rw [show i + 1 + j + 1 = i + (j + 1) + 1 by omega]; exact this
      rw [List.length_cons, show i + (l.length + 1) = i + 1 + l.length by omega]
      exact this
    · exact ⟨.rt v, rfl, .inr ⟨v, rfl, hv⟩⟩
theorem sort_rising {l : List Int} (h : l.Nodup) : (sortT ltI l).Pairwise (· < ·) := by
  have nd : (sortT ltI l).Nodup := (List.Perm.nodup_iff (sortT_perm l)).mpr h
  refine ((sortT_pw tot_I l).and nd).imp fun {a b} hab => ?_
  have h1 : decide (b < a) = false := hab.1
  rw [decide_eq_false_iff_not] at h1
  have := hab.2
  omega
section
variable {n m : Int} {table : List (List Int)} {bars : Bar}
theorem rowOk_of {l : List Int} (h : l.Nodup) (hr : ∀ x ∈ l, 0 ≤ x ∧ x < n) : rowOk n (sortT ltI l) = true := by
  unfold rowOk
  rw [decide_eq_true (sort_rising h), Bool.true_and, List.all_eq_true]
  intro x hx
  have := hr x ((sortT_perm l).mem_iff.mp hx)
  rw [decide_eq_true this.1, decide_eq_true this.2]; rfl
theorem why_ok (hn0 : 0 ≤ n) (hn : n ≤ 8) : Ok (p_why_none (frees table bars n)) fun v => (v = none ∧ En (frees table bars n) (full n) ≠ []) ∨ ∃ st few, v = some (st, few) ∧ soB table bars n st few = true := by
  have fl := frees_len (table := table) (bars := bars) (n := n)
  have fr : ∀ t, 0 ≤ t → t < n → ∀ s ∈ nth (frees table bars n) t, 0 ≤ s ∧ s < n := fun t h0 h1 s hs => by
    rw [frees_at h0 h1] at hs
    unfold freeL at hs
    exact mem_irange.mp (List.mem_filter.mp hs).1
  unfold p_why_none
  rw [comp_map' (fun _ => (none : Option Int)) (by omega) fun _ _ => rfl]
  simp only [R.bind_ok]
  rw [show ((frees table bars n).length : Int) = n by omega, rg1_ok (by omega)]
  simp only [R.bind_ok]
  have atn : ∀ x : Int, nth ((frees table bars n).map fun _ => (none : Option Int)) x = none := fun x => by
    unfold nth
    rw [List.getD_eq_getElem?_getD, List.getElem?_map]
    cases (frees table bars n)[x.toNat]? <;> rfl
  refine Ok.bind (loop_or (f := q_why_none1 (frees table bars n)) (fun i M => Val (frees table bars n) n M [] ∧ ∀ t, Out_ n M [] t ↔ 0 ≤ t ∧ t < (i : Nat)) (fun v => ∃ st few, v = some (st, few) ∧ soB table bars n st few = true) (irange 0 n) 0 _ ⟨⟨by rw [List.length_map, fl], fun x t _ _ _ e => (by rw [atn x] at e; cases e), fun x y t _ _ _ _ _ _ e _ => (by rw [atn x] at e; cases e)⟩, fun t => ⟨fun ⟨x, _, _, _, e⟩ => (by rw [atn x] at e; cases e), fun h => by omega⟩⟩ ?_) fun o ho => ?_
  · rintro j a M e ⟨hv, hset⟩
    obtain ⟨rfl, hj⟩ := irange_get e
    simp only [Nat.zero_add] at hset ⊢
    unfold q_why_none1
    have no : ¬ Out_ n M [] (0 + (j : Int)) := fun z => by
      have := (hset _).mp z
      omega
    refine Ok.bind (mated_ok hn0 hn fl fr 10 (T := []) ⟨List.nodup_nil, fun x hx => by cases hx⟩ hv no ⟨by omega, by omega⟩ (by simp; omega)) fun v pv => ?_
    cases ev : v.1 with
    | true =>
      simp only [Bool.not_true, Bool.false_eq_true, if_false]
      have w := pv.yes ev
      refine Ok.ret (.inl ⟨_, rfl, w.val, fun t => ?_⟩)
      rw [w.set t, hset t]
      constructor
      · rintro (h | h) <;> omega
      · intro h
        by_cases c : t = 0 + (j : Int)
        · exact .inl c
        · exact .inr (by omega)
    | false =>
      simp only [Bool.not_false, if_true]
      obtain ⟨n1, n2, n3⟩ := pv.no ev
      have tl := pv.tri.len
      have kl : (keysX v.2.2).length = v.2.2.length := by unfold keysX; rw [List.length_map]
      rw [n1]
      have cm : compR (fun _ => R.ok true) (fun x6 => (atR M x6).bind fun o7 => R.ofO o7) (v.2.2.map (·.1)) [] = .ok ((keysX v.2.2).map fun x => (nth M x).getD 0) := by
        refine comp_map' (l := keysX v.2.2) _ (by omega) fun x hx => ?_
        have hr := pv.tri.rg x hx
        obtain ⟨t, e1, _⟩ := n3 x hx (fun z => by cases z)
        rw [atR_ok hr.1 (by rw [hv.len]; omega), e1]; rfl
      rw [cm]
      simp only [R.calm_ok, R.bind_ok, R.bind_assoc]
      rw [catR_ok (by rw [List.length_map, kl]; simp; omega)]
      simp only [R.bind_ok]
      rw [sortR_ok ec_int od_int (.inr nt_int) (by rw [List.length_append, List.length_map, kl]; simp; omega)]
      simp only [R.bind_ok]
      unfold sortKR
      rw [if_pos (tru_iff.mpr (by omega))]
      simp only [R.bind_ok]
      refine Ok.ret (.inr ⟨_, rfl, _, _, rfl, ?_⟩)
      have gx : ∀ x ∈ keysX v.2.2, nth M x = some ((nth M x).getD 0) ∧ 0 ≤ (nth M x).getD 0 ∧ (nth M x).getD 0 < n ∧ ∀ s ∈ nth (frees table bars n) ((nth M x).getD 0), s ∈ keysX v.2.2 := fun x hx => by
        obtain ⟨t, e1, e2, e3, e4⟩ := n3 x hx (fun z => by cases z)
        rw [e1]
        exact ⟨rfl, e2, e3, e4⟩
      have nd : ((keysX v.2.2).map (fun x => (nth M x).getD 0) ++ [0 + (j : Int)]).Nodup := by
        refine List.nodup_append.mpr ⟨?hA, by simp, ?hB⟩
        case hA =>
          refine List.pairwise_map.mpr (pv.tri.nd.imp_of_mem ?_)
          intro x y hx hy hne e
          refine hne ?_
          have rx := pv.tri.rg x hx
          have ry := pv.tri.rg y hy
          exact hv.v2 x y _ rx.1 rx.2 ry.1 ry.2 (fun z => by cases z) (fun z => by cases z) (gx x hx).1 (by rw [e]; exact (gx y hy).1)
        case hB =>
          intro x hx y hy
          have : y = 0 + (j : Int) := by simpa using hy
          subst this
          rintro rfl
          obtain ⟨z, hz, ez⟩ := List.mem_map.mp hx
          have rz := pv.tri.rg z hz
          exact no ⟨z, rz.1, rz.2, (fun q => by cases q), (by rw [← ez]; exact (gx z hz).1)⟩
      have mem : ∀ t ∈ (keysX v.2.2).map (fun x => (nth M x).getD 0) ++ [0 + (j : Int)], (0 ≤ t ∧ t < n) ∧ ∀ s ∈ nth (frees table bars n) t, s ∈ keysX v.2.2 := fun t ht => by
        rcases List.mem_append.mp ht with q | q
        · obtain ⟨z, hz, rfl⟩ := List.mem_map.mp q
          have := gx z hz
          exact ⟨⟨this.2.1, this.2.2.1⟩, this.2.2.2⟩
        · rw [List.mem_singleton.mp q]
          exact ⟨⟨by omega, by omega⟩, n2⟩
      unfold soB
      rw [rowOk_of nd fun t ht => (mem t ht).1, rowOk_of pv.tri.nd pv.tri.rg]
      have l1 : (sortT ltI ((keysX v.2.2).map (fun x => (nth M x).getD 0) ++ [0 + (j : Int)])).length = v.2.2.length + 1 := by
        rw [(sortT_perm _).length_eq, List.length_append, List.length_map, kl]; rfl
      have l2 : (sortT ltI (keysX v.2.2)).length = v.2.2.length := by rw [(sortT_perm _).length_eq, kl]
      rw [l1, l2, decide_eq_true (Nat.lt_succ_self _)]
      simp only [Bool.true_and, Bool.and_self]
      rw [List.all_eq_true]
      intro t ht
      have mt := mem t ((sortT_perm _).mem_iff.mp ht)
      rw [List.all_eq_true]
      intro s hs
      rw [decide_eq_true_eq]
      refine (sortT_perm _).mem_iff.mpr (mt.2 s ?_)
      rw [frees_at mt.1.1 mt.1.2]; exact hs
  · rcases ho with ⟨M, rfl, hv, hset⟩ | ⟨v, rfl, hv⟩
    · rw [irange_len] at hset
      refine Ok.ret (.inl ⟨rfl, fun e => ?_⟩)
      have ch : ∀ t : Int, ∃ x : Int, 0 ≤ t → t < n → 0 ≤ x ∧ x < n ∧ nth M x = some t := fun t => by
        by_cases c : 0 ≤ t ∧ t < n
        · obtain ⟨x, h0, h1, _, h2⟩ := (hset t).mpr ⟨c.1, by omega⟩
          exact ⟨x, fun _ _ => ⟨h0, h1, h2⟩⟩
        · exact ⟨0, fun h0 h1 => absurd ⟨h0, h1⟩ c⟩
      have hc := fun t => Classical.choose_spec (ch t)
      have : (irange 0 n).map (fun t => Classical.choose (ch t)) ∈ En (frees table bars n) (full n) := by
        have ps := pow_small hn0 hn
        refine En_in (by rw [List.length_map, irange_len, fl]; simp) ?hA ?hB (by unfold full; omega) ?hC
        case hA =>
          intro i s f h1 h2
          rw [List.getElem?_map] at h1
          have li : i < n.toNat := by
            have := (List.getElem?_eq_some_iff.mp h2).1
            omega
          rw [irange_getE (by omega)] at h1
          have es : Classical.choose (ch (0 + (i : Int))) = s := Option.some.inj h1
          have := hc (0 + (i : Int)) (by omega) (by omega)
          have v := hv.v1 _ _ this.1 this.2.1 (fun z => by cases z) this.2.2
          rw [es] at v
          have ef : nth (frees table bars n) (0 + (i : Int)) = f := by
            unfold nth
            rw [show ((0 : Int) + (i : Int)).toNat = i by omega, List.getD_eq_getElem?_getD, h2]; rfl
          rw [← ef]; exact v.2.2
        case hB =>
          refine List.pairwise_map.mpr ((irange_nodup 0 n).imp_of_mem ?_)
          intro a b ha hb hne e
          refine hne ?_
          have ha := mem_irange.mp ha
          have hb := mem_irange.mp hb
          have h1 := (hc a ha.1 ha.2).2.2
          have h2 := (hc b hb.1 hb.2).2.2
          rw [e, h2] at h1
          exact (Option.some.inj h1).symm
        case hC =>
          intro s hs
          obtain ⟨t, ht, rfl⟩ := List.mem_map.mp hs
          have ht := mem_irange.mp ht
          have := hc t ht.1 ht.2
          exact ⟨this.1, by omega, full_bits hn0 hn this.1 this.2.1⟩
      rw [e] at this
      cases this
    · obtain ⟨st, few, rfl, h⟩ := hv
      exact Ok.ret (.inr ⟨st, few, rfl, h⟩)
theorem ne_same {α : Type} [DecidableEq α] {e : α → Fx.D} {k : Nat} (h : Ec e k) (a b : α) (hk : k ≤ 40) : neDR (e a) (e b) = .ok (!decide (a = b)) := by
  have := o_ne h a b hk
  unfold gNe at this
  unfold neDR
  cases c : okEq (e a) (e b) with
  | true =>
    rw [c, if_pos rfl] at this
    rw [if_pos rfl]
    have := Option.some.inj this
    rw [show (!PyData.eqv (e a) (e b)) = !decide (a = b) by injection this with q; injection q]
  | false => rw [c] at this; cases this
/-- what first_beside tells -/
theorem first_ok (h : IsTab n m table) (hm0 : 0 < m) (hm : m ≤ 1000) (hn0 : 0 ≤ n) (hn : n ≤ 8) (hb : bars.length ≤ 1000) : ∃ d, p_first_beside table (some bars) = .ok d ∧ neDR d d = .ok false ∧
    ((∃ o E, En (frees table bars n) (full n) = o :: E ∧ d = eP2 PyData.str (eT PyData.int) ("order", o)) ∨ ∃ st few, soB table bars n st few = true ∧ En (frees table bars n) (full n) = [] ∧ d = eP3 PyData.str (eT PyData.int) (eT PyData.int) ("bars", st, few)) := by
  unfold p_first_beside
  rw [free_ok h hm0 hm hn0 (by omega) hb]
  simp only [R.bind_ok]
  obtain ⟨v, e, hv⟩ := why_ok (table := table) (bars := bars) hn0 hn
  rw [e]
  simp only [R.bind_ok]
  rcases hv with ⟨rfl, hE⟩ | ⟨st, few, rfl, hs⟩
  · simp only [Option.isSome_none, Bool.false_eq_true, if_false]
    cases eE : En (frees table bars n) (full n) with
    | nil => exact absurd eE hE
    | cons o E =>
      have q : p_order_at table 0 (some bars) = .ok o := orderAt_ok (number := 0) h hm0 hm hn0 hn hb (by rw [eE]; rfl)
      rw [q]
      refine ⟨_, rfl, ?_, .inl ⟨o, E, rfl, rfl⟩⟩
      have := ne_same (ec_P2 ec_str (ec_T ec_int)) (("order" : Str), o) (("order" : Str), o) (by decide)
      rw [this, decide_eq_true rfl]; rfl
  · simp only [Option.isSome_some, if_true, R.ofO_some, R.bind_ok]
    refine ⟨_, rfl, ?_, .inr ⟨st, few, hs, ?_, rfl⟩⟩
    · have := ne_same (ec_P3 ec_str (ec_T ec_int) (ec_T ec_int)) (("bars" : Str), st, few) (("bars" : Str), st, few) (by decide)
      rw [this, decide_eq_true rfl]; rfl
    · have := none_beside hn0 hn hs
      rw [cnt_len] at this
      have z : ((En (frees table bars n) (full n)).length : Int) = 0 := this
      exact List.length_eq_zero_iff.mp (by omega)
end
end Law

set_option Elab.async false
set_option linter.all false
set_option maxRecDepth 100000
namespace Law
open PySem PySem.Spec PyProof.Rows L2 Fx
/-! k03 -/
section
variable {n m : Int} {table : List (List Int)} {bars : Bar}
theorem goes_ok (h : IsTab n m table) (hm0 : 0 < m) (hm : m ≤ 1000) (hn0 : 0 ≤ n) (hn : n ≤ 8) (hb : bars.length ≤ 1000) {own : List Int} (hl : own.length = n.toNat) : p_l_goes table bars own = .ok (goB (frees table bars n) n.toNat own) := by
  have fl := frees_len (table := table) (bars := bars) (n := n)
  unfold p_l_goes
  rw [lfree_ok h hm0 hm hn0 (by omega) hb]
  simp only [R.bind_ok]
  rw [show (own.length : Int) = n by omega, rg1_ok (by omega)]
  simp only [R.bind_ok]
  rw [comp_filter (fun k => !decide (nth own k ∈ nth (frees table bars n) k)) (by rw [irange_len]; omega) fun k hk => by
    have hk := mem_irange.mp hk
    rw [atR_ok hk.1 (by omega), atR_ok hk.1 (by omega)]
    rfl]
  simp only [R.bind_ok]
  congr 1
  unfold goB
  rw [Bool.eq_iff_iff, decide_eq_true_eq, List.filter_eq_nil_iff, List.all_eq_true]
  constructor
  · intro q i hi
    have hi := List.mem_range.mp hi
    have := q (i : Nat) (mem_irange.mpr ⟨by omega, by omega⟩)
    cases e : decide (nth own (i : Nat) ∈ nth (frees table bars n) (i : Nat)) with
    | true => rfl
    | false => rw [e] at this; exact absurd rfl this
  · intro q k hk
    have hk := mem_irange.mp hk
    have := q k.toNat (List.mem_range.mpr (by omega))
    rw [show ((k.toNat : Nat) : Int) = k by omega] at this
    rw [this]; decide
theorem some_is (h : IsTab n m table) (hm0 : 0 < m) (hm : m ≤ 1000) (hn0 : 0 ≤ n) (hn : n ≤ 6) (hb : bars.length ≤ 1000) : ((p_l_all_orders n).bind fun z => compR (fun x => p_l_goes table bars x) (fun x => R.ok x) z []) = .ok (En (frees table bars n) (full n)) := by
  rw [allOrders_ok hn0 hn]
  simp only [R.bind_ok]
  have b := An_len hn0 hn n.toNat
  have p6 : 6 ^ n.toNat ≤ 6 ^ 6 := Nat.pow_le_pow_right (by omega) (by omega)
  rw [comp_filter (goB (frees table bars n) n.toNat) (by omega) fun own hown => goes_ok h hm0 hm hn0 (by omega) hb (An_mem hown).1]
  rw [some_ok hn0 (by omega)]
theorem none_same : p_first_beside table none = p_first_beside table (some []) := rfl
theorem set_same {row : List Int} (h : rowOk n row = true) (hl : row.length ≤ 60) : sortSetR row = .ok row := by
  unfold sortSetR
  rw [if_pos (tru_iff.mpr hl)]
  unfold rowOk at h
  rw [Bool.and_eq_true, decide_eq_true_eq] at h
  exact congrArg R.ok (rising_eq h.1 (sortU_pw row) fun z => sortU_mem.symm).symm
end
theorem row_len {n : Int} {row : List Int} (h : rowOk n row = true) : row.length ≤ n.toNat := by
  have h2 := h
  unfold rowOk at h2
  rw [Bool.and_eq_true, decide_eq_true_eq] at h2
  have := nd_len (m := irange 0 n) (h2.1.imp fun {a b} q e => by omega) fun x hx => mem_irange.mpr (rowOk_mem h hx)
  rw [irange_len] at this
  omega
theorem turn_ok {x : Int} {t : Tp} (ht : TpOk t) : ∃ t', q_law2 x t = .ok (.nx t') ∧ TpOk t' := by
  suffices Ok (q_law2 x t) fun o => ∃ t', o = .nx t' ∧ TpOk t' by
    obtain ⟨o, e, t', rfl, h⟩ := this
    exact ⟨t', e, h⟩
  unfold q_law2
  simp only [R.bind_ok, R.bind_assoc]
  refine Ok.bind (draw_ok ht (by omega) (by omega)) fun sp hs => ?_
  refine Ok.bind (draw_ok hs.2 (by omega) (by omega)) fun tm htm => ?_
  refine Ok.bind (table_ok htm.2 (by omega) (by omega) (by omega) (by omega)) fun tab htab => ?_
  refine Ok.bind (draw_ok htab.2 (by omega) (by omega)) fun d hd => ?_
  rw [atR_ok hd.1.1 (by simp; omega)]
  simp only [R.bind_ok]
  have mo : ∀ z ∈ [(0 : Int), 4, 20], 0 ≤ z ∧ z ≤ 900 := fun z hz => by
    simp only [List.mem_cons, List.not_mem_nil, or_false] at hz
    omega
  have hmo := mo _ (nth_mem (l := [(0 : Int), 4, 20]) hd.1.1 (by simp; omega))
  refine Ok.bind (bars_ok hd.2 (by omega) (by omega) hmo.1 hmo.2) fun bs hbs => ?_
  have sm := some_is (bars := bs.1) htab.1 (by omega) (by omega) (by omega) (by omega) hbs.1
  obtain ⟨dd, e1, e2, e3⟩ := first_ok (bars := bs.1) htab.1 (by omega) (by omega) (by omega) (by omega) hbs.1
  have sm2 : ∀ {β : Type} (k : List (List Int) → R β), ((p_l_all_orders (2 + sp.1)).bind fun z => (compR (fun x => p_l_goes tab.1 bs.1 x) (fun x => R.ok x) z []).bind k) = k (En (frees tab.1 bs.1 (2 + sp.1)) (full (2 + sp.1))) := fun k => by
    rw [← R.bind_assoc, sm]; rfl
  rw [sm2, e1]
  simp only [R.bind_ok]
  refine Ok.bind (Q := fun o => o = .nx ()) ?_ fun o ho => ?_
  · rcases e3 with ⟨o, E, eE, rfl⟩ | ⟨st, few, so, eE, rfl⟩
    · rw [eE, if_pos (by simp), atR_head]
      simp only [List.head?_cons, R.ofO_some, R.bind_ok]
      rw [e2]
      exact Ok.ret rfl
    · rw [eE, if_neg (by simp)]
      have so2 := so
      unfold soB at so2
      simp only [Bool.and_eq_true, decide_eq_true_eq, List.all_eq_true] at so2
      obtain ⟨⟨r1, r2⟩, r3, r4⟩ := so2
      have l1 := row_len r1
      have l2 := row_len r2
      have ap : asP3G asSR asTIR asTIR (eP3 PyData.str (eT PyData.int) (eT PyData.int) (("bars" : Str), st, few)) = .ok (("bars" : Str), st, few) := by
        show ((asSR (.str ("bars" : Str))).bind fun a => (R.ofO (intsD (st.map PyData.int))).bind fun b => (R.ofO (intsD (few.map PyData.int))).bind fun c => R.ok (a, b, c)) = _
        rw [intsD_map, intsD_map]; rfl
      rw [ap, lfree_ok htab.1 (by omega) (by omega) (by omega) (by omega) hbs.1]
      simp only [R.bind_ok]
      rw [decide_eq_false (show ¬ (st.length : Int) ≤ few.length by omega), set_same r1 (by omega), set_same r2 (by omega)]
      simp only [R.bind_ok, Bool.not_true, Bool.false_eq_true, if_false, decide_true]
      rw [loop_all (fun k => (freeL tab.1 bs.1 (2 + sp.1) k).all fun s => decide (s ∈ few)) _ fun k hk => by
        have hx := rowOk_mem r1 hk
        unfold q_law1
        rw [atR_ok hx.1 (by rw [frees_len]; omega), frees_at hx.1 hx.2]
        simp only [R.bind_ok]
        have fl := (freeOk (table := tab.1) (bars := bs.1) (n := 2 + sp.1) (by omega) (by omega)).2 (freeL tab.1 bs.1 (2 + sp.1) k) (List.mem_map.mpr ⟨k, mem_irange.mpr hx, rfl⟩)
        rw [comp_filter (fun s => !decide (s ∈ few)) (by omega) fun s _ => rfl]
        simp only [R.bind_ok]
        rw [not_nil]
        cases (freeL tab.1 bs.1 (2 + sp.1) k).all fun s => decide (s ∈ few) <;> rfl]
      have al : (st.all fun k => (freeL tab.1 bs.1 (2 + sp.1) k).all fun s => decide (s ∈ few)) = true := List.all_eq_true.mpr fun k hk => List.all_eq_true.mpr fun s hs => decide_eq_true (r4 k hk s hs)
      rw [al]
      simp only [if_true, R.bind_ok, Out.go_nx]
      rw [bso_ok htab.1 (by omega) (by omega) (by omega) (by omega) hbs.1 (by omega) (by omega), so]
      exact Ok.ret rfl
  · subst ho
    simp only [Out.go_nx]
    rw [e2]
    simp only [R.bind_ok, Bool.false_eq_true, if_false]
    by_cases c : bs.1 = []
    · rw [if_pos (decide_eq_true c), none_same, ← c, e1]
      simp only [R.bind_ok]
      rw [e2]
      exact Ok.ret ⟨_, rfl, hbs.2⟩
    · rw [if_neg (by rw [decide_eq_true_eq]; exact c)]
      exact Ok.ret ⟨_, rfl, hbs.2⟩
theorem law_ok (ns : List Int) : p_law ns = .ok true := by
  unfold p_law
  rw [rg1_ok (by omega)]
  simp only [R.bind_ok]
  obtain ⟨t', e, h⟩ := ok_loop0 (f := q_law2) TpOk (l := irange 0 5) (s := (ns, 0, 0)) ⟨Int.le_refl _, Int.le_refl _⟩ fun a _ s hs => turn_ok hs
  rw [e]
  rfl
end Law

set_option Elab.async false
set_option linter.all false
set_option maxRecDepth 100000
namespace Law
open PySem PySem.Spec PyProof.Rows L2 Fx
/-! ### what the top has written -/
structure Tx (K : Fg) (mg : Str → Option Value) where
  f_is_within : Addr
  d_is_within : FuncData
  F_is_within : Fun K "is_within" "is_within" s_is_within f_is_within d_is_within
  b_is_within : Binds K d_is_within ["thing", "low", "high"] []
  g_is_within : mg "is_within" = some (.ref f_is_within)
  f_free_spots : Addr
  d_free_spots : FuncData
  F_free_spots : Fun K "free_spots" "free_spots" s_free_spots f_free_spots d_free_spots
  b_free_spots : Binds K d_free_spots ["table", "bars"] []
  g_free_spots : mg "free_spots" = some (.ref f_free_spots)
  f_counts_from : Addr
  d_counts_from : FuncData
  F_counts_from : Fun K "counts_from" "counts_from" s_counts_from f_counts_from d_counts_from
  b_counts_from : Binds K d_counts_from ["free", "step", "left", "known"] []
  g_counts_from : mg "counts_from" = some (.ref f_counts_from)
  f_order_at : Addr
  d_order_at : FuncData
  F_order_at : FunD K "order_at" "order_at" (defArgs s_order_at) (defBody s_order_at) (defScope s_order_at) [.non] [] f_order_at d_order_at
  b_order_at : Binds K d_order_at ["table", "number", "bars"] []
  g_order_at : mg "order_at" = some (.ref f_order_at)
  f_mated : Addr
  d_mated : FuncData
  F_mated : Fun K "mated" "mated" s_mated f_mated d_mated
  b_mated : Binds K d_mated ["free", "mates", "step", "tried"] []
  g_mated : mg "mated" = some (.ref f_mated)
  f_why_none : Addr
  d_why_none : FuncData
  F_why_none : Fun K "why_none" "why_none" s_why_none f_why_none d_why_none
  b_why_none : Binds K d_why_none ["free"] []
  g_why_none : mg "why_none" = some (.ref f_why_none)
  f_first_beside : Addr
  d_first_beside : FuncData
  F_first_beside : FunD K "first_beside" "first_beside" (defArgs s_first_beside) (defBody s_first_beside) (defScope s_first_beside) [.non] [] f_first_beside d_first_beside
  b_first_beside : Binds K d_first_beside ["table", "bars"] []
  g_first_beside : mg "first_beside" = some (.ref f_first_beside)
  b1_first_beside : ∃ ds, Vals (List.drop 0 [.non]) ds ∧ Binds K d_first_beside ["table", "bars"] ds
  f_bars_so : Addr
  d_bars_so : FuncData
  F_bars_so : FunD K "bars_so" "bars_so" (defArgs s_bars_so) (defBody s_bars_so) (defScope s_bars_so) [.non] [] f_bars_so d_bars_so
  b_bars_so : Binds K d_bars_so ["table", "steps", "spots", "bars"] []
  g_bars_so : mg "bars_so" = some (.ref f_bars_so)
  f_l_draw : Addr
  d_l_draw : FuncData
  F_l_draw : Fun K "_law_draw" "_law_draw" s_l_draw f_l_draw d_l_draw
  b_l_draw : Binds K d_l_draw ["tape", "many"] []
  g_l_draw : mg "_law_draw" = some (.ref f_l_draw)
  f_l_any_order : Addr
  d_l_any_order : FuncData
  F_l_any_order : Fun K "_law_any_order" "_law_any_order" s_l_any_order f_l_any_order d_l_any_order
  b_l_any_order : Binds K d_l_any_order ["tape", "many"] []
  g_l_any_order : mg "_law_any_order" = some (.ref f_l_any_order)
  f_l_apart : Addr
  d_l_apart : FuncData
  F_l_apart : Fun K "_law_apart" "_law_apart" s_l_apart f_l_apart d_l_apart
  b_l_apart : Binds K d_l_apart ["tape", "spots", "teams"] []
  g_l_apart : mg "_law_apart" = some (.ref f_l_apart)
  f_l_a_table : Addr
  d_l_a_table : FuncData
  F_l_a_table : Fun K "_law_a_table" "_law_a_table" s_l_a_table f_l_a_table d_l_a_table
  b_l_a_table : Binds K d_l_a_table ["tape", "spots", "teams"] []
  g_l_a_table : mg "_law_a_table" = some (.ref f_l_a_table)
  f_l_a_bars : Addr
  d_l_a_bars : FuncData
  F_l_a_bars : Fun K "_law_a_bars" "_law_a_bars" s_l_a_bars f_l_a_bars d_l_a_bars
  b_l_a_bars : Binds K d_l_a_bars ["tape", "spots", "most"] []
  g_l_a_bars : mg "_law_a_bars" = some (.ref f_l_a_bars)
  f_l_free : Addr
  d_l_free : FuncData
  F_l_free : Fun K "_law_free" "_law_free" s_l_free f_l_free d_l_free
  b_l_free : Binds K d_l_free ["table", "bars"] []
  g_l_free : mg "_law_free" = some (.ref f_l_free)
  f_l_goes : Addr
  d_l_goes : FuncData
  F_l_goes : Fun K "_law_goes" "_law_goes" s_l_goes f_l_goes d_l_goes
  b_l_goes : Binds K d_l_goes ["table", "bars", "order"] []
  g_l_goes : mg "_law_goes" = some (.ref f_l_goes)
  f_l_all_orders : Addr
  d_l_all_orders : FuncData
  F_l_all_orders : Fun K "_law_all_orders" "_law_all_orders" s_l_all_orders f_l_all_orders d_l_all_orders
  b_l_all_orders : Binds K d_l_all_orders ["spots"] []
  g_l_all_orders : mg "_law_all_orders" = some (.ref f_l_all_orders)
  f_law : Addr
  d_law : FuncData
  F_law : Fun K "law" "law" s_law f_law d_law
  b_law : Binds K d_law ["script"] []
  g_law : mg "law" = some (.ref f_law)
  z_all : mg "all" = none
  z_bool : mg "bool" = none
  z_int : mg "int" = none
  z_isinstance : mg "isinstance" = none
  z_len : mg "len" = none
  z_list : mg "list" = none
  z_range : mg "range" = none
  z_set : mg "set" = none
  z_sorted : mg "sorted" = none
  z_sum : mg "sum" = none
  z_tuple : mg "tuple" = none
section
variable {P : Program} {w : World} {K : Fg} {mg : Str → Option Value} {base : Heap}
set_option maxHeartbeats 4000000 in
theorem ok_is_within (T : Tx K mg) : FnOk P w K mg base CX0 1 T.f_is_within T.d_is_within ["thing", "low", "high"] (SpF K mg 3 m_is_within) :=
 fn_mk T.F_is_within sc_is_within rfl rfl (by decide) (by decide) fun cdv A outer s H E hr =>
 (sb_one (ss_ret (ev_and (ev_isi (T := "int") (ev_var 0) T.z_isinstance T.z_int boot_int) (ev_and (ev_not (ev_isi (T := "bool") (ev_var 0) T.z_isinstance T.z_bool boot_bool)) (ev_and (ev_cmp (op_leP hr.units) opl_D2 (ev_var 1) (ev_var 0) (nomark _)) (ev_one_bool (ev_cmp (op_leP hr.units) opl_D2 (ev_var 0) (ev_var 2) (nomark _))))))))
set_option maxHeartbeats 4000000 in
theorem ok_free_spots (T : Tx K mg) : FnOk P w K mg base CX0 1 T.f_free_spots T.d_free_spots ["table", "bars"] (SpF K mg 2 m_free_spots) :=
 fn_mk T.F_free_spots sc_free_spots rfl rfl (by decide) (by decide) fun cdv A outer s H E hr =>
 (sb_cons (ss_set 2 (ev_if (et_cmp op_isN opl_isN (ev_var 1) ev_non (nomark _)) (ev_tup ea_nil) (ev_var 1)) sc_free_spots.nd)
 (sb_cons (ss_set 3 (ev_lst ea_nil) sc_free_spots.nd)
 (sb_cons (ss_for (tv := [4]) PassesOwn.never (ei_range1 T.z_range (ea_cons (ev_callB call_len cl_len T.z_len PySem.boot_len (ea_cons (ev_ix ix_seq opl_ix (ev_var 0) ev_int) ea_nil)) ea_nil)) (tg_name 4 sc_free_spots.nd)
 (sb_cons (ss_set 5 (ev_op op_addP opl_add (ev_comp (own := [("order", 6)]) (tv := [6]) sc_free_spots.nd (ei_seq (ev_var 0)) (blkOk_by (N := ["table", "bars", "barred", "found", "step", "had", "order", "there", "spot"]) (sc := defScope s_free_spots) (by decide +kernel)) (fun _ _ _ _ _ => (tg_name 6 sc_free_spots.nd)) (fun _ _ _ _ _ => ets_nil) (fun _ _ _ _ _ => (ev_ix ix_seq opl_ix (ev_var 6) (ev_var 4)))) (ev_comp (own := [("there", 7), ("spot", 8)]) (tv := [7, 8]) sc_free_spots.nd (ei_seq (ev_var 2)) (blkOk_by (N := ["table", "bars", "barred", "found", "step", "had", "order", "there", "spot"]) (sc := defScope s_free_spots) (by decide +kernel)) (fun _ _ _ _ _ => (tg_tup (tgl_cons (tg_name 7 sc_free_spots.nd) (tgl_cons (tg_name 8 sc_free_spots.nd) tgl_nil)))) (fun _ _ _ _ _ => (ets_one (et_cmp (op_eqP hr.units) opl_D2 (ev_var 7) (ev_var 4) (nomark _)))) (fun _ _ _ _ _ => (ev_var 8)))) sc_free_spots.nd)
 (sb_one (ss_expr (ev_meth 3 PySem.F.plainAttrs_list PySem.F.slot_list_append PySem.F.type_list_append mt_append ml_append (ea_cons (ev_comp (own := [("spot", 8)]) (tv := [8]) sc_free_spots.nd (ei_range1 T.z_range (ea_cons (ev_callB call_len cl_len T.z_len PySem.boot_len (ea_cons (ev_ix ix_seq opl_ix (ev_var 0) ev_int) ea_nil)) ea_nil)) (blkOk_by (N := ["table", "bars", "barred", "found", "step", "had", "order", "there", "spot"]) (sc := defScope s_free_spots) (by decide +kernel)) (fun _ _ _ _ _ => (tg_name 8 sc_free_spots.nd)) (fun _ _ _ _ _ => (ets_one (et_cmp (op_ninP hr.units) opl_D2 (ev_var 8) (ev_var 5) (by rfl)))) (fun _ _ _ _ _ => (ev_var 8))) ea_nil))))))
 (sb_one (ss_retO 3)))))
set_option maxHeartbeats 4000000 in
theorem ok_counts_from (T : Tx K mg) : ∀ n : Nat, FnOk P w K mg base CX0 (n + 1) T.f_counts_from T.d_counts_from ["free", "step", "left", "known"] (SpF K mg 4 (m_counts_from n))
 | 0 => fn_bad
 | n + 1 => fn_mk T.F_counts_from sc_counts_from rfl rfl (by decide) (by decide) fun cdv A outer s H E hr =>
 (sb_cons (ss_if (et_cmp (op_eqP hr.units) opl_D2 (ev_var 1) (ev_callB call_len cl_len T.z_len PySem.boot_len (ea_cons (ev_var 0) ea_nil)) (nomark _))
 (sb_one (ss_ret ev_int))
 sb_nil)
 (sb_cons (ss_if (et_ninT 3 hr.units (ev_tup (ea_cons (ev_var 1) (ea_cons (ev_var 2) ea_nil))))
 (sb_cons (ss_setComp 4 (own := [("spot", 5)]) (tv := [5]) sc_counts_from.nd (ei_seq (ev_ix ix_seq opl_ix (ev_var 0) (ev_var 1))) (blkOk_by (N := ["free", "step", "left", "known", "some", "spot"]) (sc := defScope s_counts_from) (by decide +kernel)) (fun _ _ _ _ _ => (tg_name 5 sc_counts_from.nd)) (fun _ _ _ _ _ => (ets_one (et_cmp (op_eqP hr.units) opl_D2 (ev_op op_and opl_I0 (ev_op op_shr opl_I (ev_var 2) (ev_var 5)) ev_int) ev_int (nomark _)))) (fun _ _ _ _ _ => (ev_var 5)) (sw_true rfl rfl rfl (by decide +kernel)))
 (sb_one (ss_setT 3 hr.units (ev_callB (cr_sum rfl) cl_sum T.z_sum boot_sum (ea_cons (ev_comp (own := [("spot", 5)]) (tv := [5]) sc_counts_from.nd (ei_seq (ev_var 4)) (blkOk_by (N := ["free", "step", "left", "known", "some", "spot"]) (sc := defScope s_counts_from) (by decide +kernel)) (fun _ _ _ _ _ => (tg_name 5 sc_counts_from.nd)) (fun _ _ _ _ _ => ets_nil) (fun _ _ _ _ _ => (ev_call (ok_counts_from T n) (hr.mono (by omega)) (ml_counts_from n) T.g_counts_from T.F_counts_from.kp T.b_counts_from passN (ea_cons (ev_var 0) (ea_cons (ev_op op_addP opl_add (ev_var 1) ev_int) (ea_cons (ev_op op_sub opl_I0 (ev_var 2) (ev_op op_shl opl_I ev_int (ev_var 5))) (ea_own 3 ea_nil))))))) ea_nil)) (ev_tup (ea_cons (ev_var 1) (ea_cons (ev_var 2) ea_nil))))))
 sb_nil)
 (sb_one (ss_ret (ev_getT 3 hr.units (ev_tup (ea_cons (ev_var 1) (ea_cons (ev_var 2) ea_nil))))))))
set_option maxHeartbeats 4000000 in
theorem ok_order_at (T : Tx K mg) : FnOk P w K mg base CX0 12 T.f_order_at T.d_order_at ["table", "number", "bars"] (SpF K mg 3 m_order_at) :=
 fn_mkD T.F_order_at sc_order_at rfl rfl (by decide) (by decide) fun cdv A outer s H E hr =>
 (sb_cons (ss_set 3 (ev_call (ok_free_spots T) (hr.mono (by decide)) mFn_len T.g_free_spots T.F_free_spots.kp T.b_free_spots passN (ea_cons (ev_var 0) (ea_cons (ev_var 2) ea_nil))) sc_order_at.nd)
 (sb_cons (ss_set 4 ev_newT sc_order_at.nd)
 (sb_cons (ss_set 5 (ev_op op_sub opl_I0 (ev_op op_shl opl_I ev_int (ev_callB call_len cl_len T.z_len PySem.boot_len (ea_cons (ev_var 3) ea_nil))) ev_int) sc_order_at.nd)
 (sb_cons (ss_if (et_not (et_val (ev_call (ok_is_within T) (hr.mono (by decide)) mFn_len T.g_is_within T.F_is_within.kp T.b_is_within passN (ea_cons (ev_var 1) (ea_cons ev_int (ea_cons (ev_op op_sub opl_I0 (ev_call (ok_counts_from T 10) (hr.mono (by decide)) (ml_counts_from 10) T.g_counts_from T.F_counts_from.kp T.b_counts_from passN (ea_cons (ev_var 3) (ea_cons ev_int (ea_cons (ev_var 5) (ea_own 4 ea_nil))))) ev_int) ea_nil))))))
 (sb_one ss_never)
 sb_nil)
 (sb_cons (ss_set 6 (ev_lst ea_nil) sc_order_at.nd)
 (sb_cons (ss_set 7 (ev_var 1) sc_order_at.nd)
 (sb_cons (ss_for (tv := [8]) PassesOwn.never (ei_range1 T.z_range (ea_cons (ev_callB call_len cl_len T.z_len PySem.boot_len (ea_cons (ev_var 3) ea_nil)) ea_nil)) (tg_name 8 sc_order_at.nd)
 (sb_one (ss_for (tv := [9]) PassesOwn.never (ei_seq (ev_comp (own := [("one", 10)]) (tv := [10]) sc_order_at.nd (ei_seq (ev_ix ix_seq opl_ix (ev_var 3) (ev_var 8))) (blkOk_by (N := ["table", "number", "bars", "free", "known", "left", "found", "ahead", "step", "spot", "one", "ways"]) (sc := defScope s_order_at) (by decide +kernel)) (fun _ _ _ _ _ => (tg_name 10 sc_order_at.nd)) (fun _ _ _ _ _ => (ets_one (et_cmp (op_eqP hr.units) opl_D2 (ev_op op_and opl_I0 (ev_op op_shr opl_I (ev_var 5) (ev_var 10)) ev_int) ev_int (nomark _)))) (fun _ _ _ _ _ => (ev_var 10)))) (tg_name 9 sc_order_at.nd)
 (sb_cons (ss_set 11 (ev_call (ok_counts_from T 10) (hr.mono (by decide)) (ml_counts_from 10) T.g_counts_from T.F_counts_from.kp T.b_counts_from passN (ea_cons (ev_var 3) (ea_cons (ev_op op_addP opl_add (ev_var 8) ev_int) (ea_cons (ev_op op_sub opl_I0 (ev_var 5) (ev_op op_shl opl_I ev_int (ev_var 9))) (ea_own 4 ea_nil))))) sc_order_at.nd)
 (sb_one (ss_if (et_bool (ew_and (et_cmp (op_eqP hr.units) opl_D2 (ev_lenO 6 T.z_len) (ev_var 8) (nomark _)) (ew_one_and (et_cmp (op_ltP hr.units) opl_D2 (ev_var 7) (ev_var 11) (nomark _)))))
 (sb_cons (ss_expr (ev_meth 6 PySem.F.plainAttrs_list PySem.F.slot_list_append PySem.F.type_list_append mt_append ml_append (ea_cons (ev_var 9) ea_nil)))
 (sb_one (ss_set 5 (ev_op op_sub opl_I0 (ev_var 5) (ev_op op_shl opl_I ev_int (ev_var 9))) sc_order_at.nd)))
 (sb_one (ss_if (et_cmp (op_eqP hr.units) opl_D2 (ev_lenO 6 T.z_len) (ev_var 8) (nomark _))
 (sb_one (ss_set 7 (ev_op op_sub opl_I0 (ev_var 7) (ev_var 11)) sc_order_at.nd))
 sb_nil))))))))
 (sb_one (ss_ret (ev_tuple T.z_tuple (ev_var 6)))))))))))
set_option maxHeartbeats 4000000 in
theorem ok_mated (T : Tx K mg) : ∀ n : Nat, FnOk P w K mg base CX0 (n + 1) T.f_mated T.d_mated ["free", "mates", "step", "tried"] (SpF K mg 4 (m_mated n))
 | 0 => fn_bad
 | n + 1 => fn_mk T.F_mated sc_mated rfl rfl (by decide) (by decide) fun cdv A outer s H E hr =>
 (sb_cons (ss_for (tv := [4]) PassesOwn.never (ei_seq (ev_ix ix_seq opl_ix (ev_var 0) (ev_var 2))) (tg_name 4 sc_mated.nd)
 (sb_one (ss_if (et_ninK 3 hr.units (ev_var 4))
 (sb_cons (ss_setK 3 hr.units ev_bl (ev_var 4))
 (sb_one (ss_if (et_bool (ew_or (et_cmp op_isN opl_isN (ev_ixO 1 (ev_var 4)) ev_non (nomark _)) (ew_one_or (et_val (ev_call (ok_mated T n) (hr.mono (by omega)) (ml_mated n) T.g_mated T.F_mated.kp T.b_mated passN (ea_cons (ev_var 0) (ea_own 1 (ea_cons (ev_ixO 1 (ev_var 4)) (ea_own 3 ea_nil)))))))))
 (sb_cons (ss_setIx 1 (ev_var 2) (ev_var 4))
 (sb_one (ss_ret ev_bl)))
 sb_nil)))
 sb_nil)))
 (sb_one (ss_ret ev_bl)))
set_option maxHeartbeats 4000000 in
theorem ok_why_none (T : Tx K mg) : FnOk P w K mg base CX0 12 T.f_why_none T.d_why_none ["free"] (SpF K mg 1 m_why_none) :=
 fn_mk T.F_why_none sc_why_none rfl rfl (by decide) (by decide) fun cdv A outer s H E hr =>
 (sb_cons (ss_set 1 (ev_comp (own := [("spot", 2)]) (tv := [2]) sc_why_none.nd (ei_seq (ev_var 0)) (blkOk_by (N := ["free", "mates", "spot", "step", "tried", "steps"]) (sc := defScope s_why_none) (by decide +kernel)) (fun _ _ _ _ _ => (tg_name 2 sc_why_none.nd)) (fun _ _ _ _ _ => ets_nil) (fun _ _ _ _ _ => ev_non)) sc_why_none.nd)
 (sb_cons (ss_for (tv := [3]) PassesOwn.never (ei_range1 T.z_range (ea_cons (ev_callB call_len cl_len T.z_len PySem.boot_len (ea_cons (ev_var 0) ea_nil)) ea_nil)) (tg_name 3 sc_why_none.nd)
 (sb_cons (ss_set 4 ev_newK sc_why_none.nd)
 (sb_one (ss_if (et_not (et_val (ev_call (ok_mated T 10) (hr.mono (by decide)) (ml_mated 10) T.g_mated T.F_mated.kp T.b_mated passN (ea_cons (ev_var 0) (ea_own 1 (ea_cons (ev_var 3) (ea_own 4 ea_nil)))))))
 (sb_cons (ss_set 5 (ev_op op_addP opl_add (ev_compK 4 (own := [("spot", 2)]) (tv := [2]) sc_why_none.nd (blkOk_by (N := ["free", "mates", "spot", "step", "tried", "steps"]) (sc := defScope s_why_none) (by decide +kernel)) (fun _ _ _ _ _ => (tg_name 2 sc_why_none.nd)) (fun _ _ _ _ _ => ets_nil) (fun _ _ _ _ _ => (ev_ixO 1 (ev_var 2)))) (ev_lst (ea_cons (ev_var 3) ea_nil))) sc_why_none.nd)
 (sb_one (ss_ret (ev_tup (ea_cons (ev_tuple T.z_tuple (ev_callB (cr_sortD hr.units) cl_sorted T.z_sorted boot_sorted (ea_cons (ev_var 5) ea_nil))) (ea_cons (ev_tuple T.z_tuple (ev_callB (call_sortedDI rfl) (cl_sortK _) T.z_sorted boot_sorted (ea_cons (ev_var 4) ea_nil))) ea_nil))))))
 sb_nil))))
 (sb_one (ss_ret ev_non))))
set_option maxHeartbeats 4000000 in
theorem ok_first_beside (T : Tx K mg) : FnOk P w K mg base CX0 13 T.f_first_beside T.d_first_beside ["table", "bars"] (SpF K mg 2 m_first_beside) :=
 fn_mkD T.F_first_beside sc_first_beside rfl rfl (by decide) (by decide) fun cdv A outer s H E hr =>
 (sb_cons (ss_set 2 (ev_call (ok_why_none T) (hr.mono (by decide)) mFn_len T.g_why_none T.F_why_none.kp T.b_why_none passN (ea_cons (ev_call (ok_free_spots T) (hr.mono (by decide)) mFn_len T.g_free_spots T.F_free_spots.kp T.b_free_spots passN (ea_cons (ev_var 0) (ea_cons (ev_var 1) ea_nil))) ea_nil)) sc_first_beside.nd)
 (sb_cons (ss_if (et_cmp op_notN opl_notN (ev_var 2) ev_non (nomark _))
 (sb_one (ss_ret (ev_tup (ea_cons ev_str (ea_cons (ev_ix ix_seq opl_ix (ev_var 2) ev_int) (ea_cons (ev_ix ix_seq opl_ix (ev_var 2) ev_int) ea_nil))))))
 sb_nil)
 (sb_one (ss_ret (ev_tup (ea_cons ev_str (ea_cons (ev_call (ok_order_at T) (hr.mono (by decide)) mFn_len T.g_order_at T.F_order_at.kp T.b_order_at passN (ea_cons (ev_var 0) (ea_cons ev_int (ea_cons (ev_var 1) ea_nil)))) ea_nil)))))))
set_option maxHeartbeats 4000000 in
theorem ok_bars_so (T : Tx K mg) : FnOk P w K mg base CX0 2 T.f_bars_so T.d_bars_so ["table", "steps", "spots", "bars"] (SpF K mg 4 m_bars_so) :=
 fn_mkD T.F_bars_so sc_bars_so rfl rfl (by decide) (by decide) fun cdv A outer s H E hr =>
 (sb_cons (ss_set 4 (ev_callB call_len cl_len T.z_len PySem.boot_len (ea_cons (ev_ix ix_seq opl_ix (ev_var 0) ev_int) ea_nil)) sc_bars_so.nd)
 (sb_cons (ss_for (tv := [5]) PassesOwn.never (ei_seq (ev_tup (ea_cons (ev_var 1) (ea_cons (ev_var 2) ea_nil)))) (tg_name 5 sc_bars_so.nd)
 (sb_cons (ss_if (et_not (et_val (ev_callB (cr_all rfl) cl_all T.z_all boot_all (ea_cons (ev_comp (own := [("one", 6)]) (tv := [6]) sc_bars_so.nd (ei_seq (ev_var 5)) (blkOk_by (N := ["table", "steps", "spots", "bars", "many", "row", "one", "k", "free", "step", "spot"]) (sc := defScope s_bars_so) (by decide +kernel)) (fun _ _ _ _ _ => (tg_name 6 sc_bars_so.nd)) (fun _ _ _ _ _ => ets_nil) (fun _ _ _ _ _ => (ev_call (ok_is_within T) (hr.mono (by decide)) mFn_len T.g_is_within T.F_is_within.kp T.b_is_within passN (ea_cons (ev_var 6) (ea_cons ev_int (ea_cons (ev_op op_sub opl_I0 (ev_var 4) ev_int) ea_nil)))))) ea_nil))))
 (sb_one (ss_ret ev_bl))
 sb_nil)
 (sb_one (ss_if (et_not (et_val (ev_callB (cr_all rfl) cl_all T.z_all boot_all (ea_cons (ev_comp (own := [("k", 7)]) (tv := [7]) sc_bars_so.nd (ei_range2 T.z_range (ea_cons ev_int (ea_cons (ev_callB call_len cl_len T.z_len PySem.boot_len (ea_cons (ev_var 5) ea_nil)) ea_nil))) (blkOk_by (N := ["table", "steps", "spots", "bars", "many", "row", "one", "k", "free", "step", "spot"]) (sc := defScope s_bars_so) (by decide +kernel)) (fun _ _ _ _ _ => (tg_name 7 sc_bars_so.nd)) (fun _ _ _ _ _ => ets_nil) (fun _ _ _ _ _ => (ev_cmp (op_ltP hr.units) opl_D2 (ev_ix ix_seq opl_ix (ev_var 5) (ev_op op_sub opl_I0 (ev_var 7) ev_int)) (ev_ix ix_seq opl_ix (ev_var 5) (ev_var 7)) (nomark _)))) ea_nil))))
 (sb_one (ss_ret ev_bl))
 sb_nil))))
 (sb_cons (ss_if (et_cmp (op_geP hr.units) opl_D2 (ev_callB call_len cl_len T.z_len PySem.boot_len (ea_cons (ev_var 2) ea_nil)) (ev_callB call_len cl_len T.z_len PySem.boot_len (ea_cons (ev_var 1) ea_nil)) (nomark _))
 (sb_one (ss_ret ev_bl))
 sb_nil)
 (sb_cons (ss_set 8 (ev_call (ok_free_spots T) (hr.mono (by decide)) mFn_len T.g_free_spots T.F_free_spots.kp T.b_free_spots passN (ea_cons (ev_var 0) (ea_cons (ev_var 3) ea_nil))) sc_bars_so.nd)
 (sb_one (ss_ret (ev_cmp (op_eqP hr.units) opl_D2 (ev_comp (own := [("step", 9)]) (tv := [9]) sc_bars_so.nd (ei_seq (ev_var 1)) (blkOk_by (N := ["table", "steps", "spots", "bars", "many", "row", "one", "k", "free", "step", "spot"]) (sc := defScope s_bars_so) (by decide +kernel)) (fun _ _ _ _ _ => (tg_name 9 sc_bars_so.nd)) (fun _ _ _ _ _ => (ets_one (et_cmp (op_neP hr.units) opl_D2 (ev_comp (own := [("spot", 10)]) (tv := [10]) sc_bars_so.nd (ei_seq (ev_ix ix_seq opl_ix (ev_var 8) (ev_var 9))) (blkOk_by (N := ["table", "steps", "spots", "bars", "many", "row", "one", "k", "free", "step", "spot"])  (by kernel_rfl)) (fun _ _ _ _ _ => (tg_name 10 sc_bars_so.nd)) (fun _ _ _ _ _ => (ets_one (et_cmp (op_ninP hr.units) opl_D2 (ev_var 10) (ev_var 2) (by rfl)))) (fun _ _ _ _ _ => (ev_var 10))) (ev_lst ea_nil) (nomark _)))) (fun _ _ _ _ _ => (ev_var 9))) (ev_lst ea_nil) (nomark _))))))))
set_option maxHeartbeats 4000000 in
theorem ok_l_draw (T : Tx K mg) : FnOk P w K mg base CX0 1 T.f_l_draw T.d_l_draw ["tape", "many"] (SpF K mg 2 m_l_draw) :=
 fn_mk T.F_l_draw sc_l_draw rfl rfl (by decide) (by decide) fun cdv A outer s H E hr =>
 (sb_cons (ss_set 2 ev_int sc_l_draw.nd)
 (sb_cons (ss_if (et_cmp (op_ltP hr.units) opl_D2 (ev_ixO 0 ev_int) (ev_var 1) (nomark _))
 (sb_cons (ss_set 3 ev_int sc_l_draw.nd)
 (sb_cons (ss_if (et_cmp (op_gtP hr.units) opl_D2 (ev_callB call_len cl_len T.z_len PySem.boot_len (ea_cons (ev_ixO 0 ev_int) ea_nil)) ev_int (nomark _))
 (sb_one (ss_set 3 (ev_ix ix_seq opl_ix (ev_ixO 0 ev_int) (ev_op op_mod opl_I (ev_ixO 0 ev_int) (ev_callB call_len cl_len T.z_len PySem.boot_len (ea_cons (ev_ixO 0 ev_int) ea_nil)))) sc_l_draw.nd))
 sb_nil)
 (sb_cons (ss_if (et_bool (ew_or (et_cmp (op_geP hr.units) opl_D2 (ev_ixO 0 ev_int) (ev_callB call_len cl_len T.z_len PySem.boot_len (ea_cons (ev_ixO 0 ev_int) ea_nil)) (nomark _)) (ew_one_or (et_cmp (op_ltP hr.units) opl_D2 (ev_var 3) (ev_op op_pow opl_I ev_int ev_int) (nomark _)))))
 (sb_cons (ss_set 3 (ev_op op_mod opl_I (ev_op op_addP opl_add (ev_var 3) (ev_op op_mulA opl_I ev_int (ev_ixO 0 ev_int))) (ev_var 2)) sc_l_draw.nd)
 (sb_cons (ss_set 3 (ev_op op_mod opl_I (ev_op op_addP opl_add (ev_op op_addP opl_add (ev_op op_mulA opl_I (ev_var 3) (ev_var 3)) (ev_op op_mulA opl_I ev_int (ev_var 3))) ev_int) (ev_var 2)) sc_l_draw.nd)
 (sb_one (ss_set 3 (ev_op op_mod opl_I (ev_op op_addP opl_add (ev_op op_mulA opl_I (ev_var 3) (ev_var 3)) ev_int) (ev_var 2)) sc_l_draw.nd))))
 sb_nil)
 (sb_cons (ss_setIx 0 (ev_op op_addP opl_add (ev_ixO 0 ev_int) ev_int) ev_int)
 (sb_one (ss_setIx 0 (ev_var 3) ev_int))))))
 sb_nil)
 (sb_cons (ss_set 4 (ev_op op_mod opl_I (ev_ixO 0 ev_int) (ev_var 1)) sc_l_draw.nd)
 (sb_cons (ss_setIx 0 (ev_op op_fdivW opl_I (ev_ixO 0 ev_int) (ev_var 1)) ev_int)
 (sb_one (ss_ret (ev_var 4)))))))
set_option maxHeartbeats 4000000 in
theorem ok_l_any_order (T : Tx K mg) : FnOk P w K mg base CX0 2 T.f_l_any_order T.d_l_any_order ["tape", "many"] (SpF K mg 2 m_l_any_order) :=
 fn_mk T.F_l_any_order sc_l_any_order rfl rfl (by decide) (by decide) fun cdv A outer s H E hr =>
 (sb_cons (ss_set 2 (ev_lst ea_nil) sc_l_any_order.nd)
 (sb_cons (ss_for (tv := [3]) PassesOwn.never (ei_range1 T.z_range (ea_cons (ev_var 1) ea_nil)) (tg_name 3 sc_l_any_order.nd)
 (sb_one (ss_expr (ev_meth 2 PySem.F.plainAttrs_list PySem.F.slot_list_insert PySem.F.type_list_insert mt_insert ml_insert (ea_cons (ev_call (ok_l_draw T) (hr.mono (by decide)) mFn_len T.g_l_draw T.F_l_draw.kp T.b_l_draw passN (ea_own 0 (ea_cons (ev_op op_addP opl_add (ev_var 3) ev_int) ea_nil))) (ea_cons (ev_var 3) ea_nil))))))
 (sb_one (ss_ret (ev_tuple T.z_tuple (ev_var 2))))))
set_option maxHeartbeats 4000000 in
theorem ok_l_apart (T : Tx K mg) : FnOk P w K mg base CX0 3 T.f_l_apart T.d_l_apart ["tape", "spots", "teams"] (SpF K mg 3 m_l_apart) :=
 fn_mk T.F_l_apart sc_l_apart rfl rfl (by decide) (by decide) fun cdv A outer s H E hr =>
 (sb_cons (ss_set 3 (ev_call (ok_l_any_order T) (hr.mono (by decide)) mFn_len T.g_l_any_order T.F_l_any_order.kp T.b_l_any_order passN (ea_own 0 (ea_cons (ev_var 1) ea_nil))) sc_l_apart.nd)
 (sb_cons (ss_set 4 (ev_slice (ev_call (ok_l_any_order T) (hr.mono (by decide)) mFn_len T.g_l_any_order T.F_l_any_order.kp T.b_l_any_order passN (ea_own 0 (ea_cons (ev_var 1) ea_nil))) eo_none (eo_some (ev_var 2))) sc_l_apart.nd)
 (sb_one (ss_ret (ev_tuple T.z_tuple (ev_comp (own := [("step", 6)]) (tv := [6]) sc_l_apart.nd (ei_seq (ev_var 4)) (blkOk_by (N := ["tape", "spots", "teams", "own", "steps", "k", "step"]) (sc := defScope s_l_apart) (by decide +kernel)) (fun _ _ _ _ _ => (tg_name 6 sc_l_apart.nd)) (fun _ _ _ _ _ => ets_nil) (fun _ _ _ _ _ => (ev_tuple T.z_tuple (ev_comp (own := [("k", 5)]) (tv := [5]) sc_l_apart.nd (ei_range1 T.z_range (ea_cons (ev_var 1) ea_nil)) (blkOk_by (N := ["tape", "spots", "teams", "own", "steps", "k", "step"])  (by kernel_rfl)) (fun _ _ _ _ _ => (tg_name 5 sc_l_apart.nd)) (fun _ _ _ _ _ => ets_nil) (fun _ _ _ _ _ => (ev_ix ix_seq opl_ix (ev_var 3) (ev_op op_mod opl_I (ev_op op_addP opl_add (ev_var 5) (ev_var 6)) (ev_var 1)))))))))))))
set_option maxHeartbeats 4000000 in
theorem ok_l_a_table (T : Tx K mg) : FnOk P w K mg base CX0 4 T.f_l_a_table T.d_l_a_table ["tape", "spots", "teams"] (SpF K mg 3 m_l_a_table) :=
 fn_mk T.F_l_a_table sc_l_a_table rfl rfl (by decide) (by decide) fun cdv A outer s H E hr =>
 (sb_cons (ss_set 3 (ev_call (ok_l_draw T) (hr.mono (by decide)) mFn_len T.g_l_draw T.F_l_draw.kp T.b_l_draw passN (ea_own 0 (ea_cons ev_int ea_nil))) sc_l_a_table.nd)
 (sb_cons (ss_if (et_bool (ew_or (et_cmp (op_eqP hr.units) opl_D2 (ev_var 3) ev_int (nomark _)) (ew_one_or (et_cmp (op_gtP hr.units) opl_D2 (ev_var 2) (ev_var 1) (nomark _)))))
 (sb_one (ss_ret (ev_tuple T.z_tuple (ev_comp (own := [("team", 4)]) (tv := [4]) sc_l_a_table.nd (ei_range1 T.z_range (ea_cons (ev_var 2) ea_nil)) (blkOk_by (N := ["tape", "spots", "teams", "way", "team", "table", "k"]) (sc := defScope s_l_a_table) (by decide +kernel)) (fun _ _ _ _ _ => (tg_name 4 sc_l_a_table.nd)) (fun _ _ _ _ _ => ets_nil) (fun _ _ _ _ _ => (ev_call (ok_l_any_order T) (hr.mono (by decide)) mFn_len T.g_l_any_order T.F_l_any_order.kp T.b_l_any_order passN (ea_own 0 (ea_cons (ev_var 1) ea_nil))))))))
 sb_nil)
 (sb_cons (ss_set 5 (ev_call (ok_l_apart T) (hr.mono (by decide)) mFn_len T.g_l_apart T.F_l_apart.kp T.b_l_apart passN (ea_own 0 (ea_cons (ev_var 1) (ea_cons (ev_var 2) ea_nil)))) sc_l_a_table.nd)
 (sb_cons (ss_if (et_cmp (op_eqP hr.units) opl_D2 (ev_var 3) ev_int (nomark _))
 (sb_cons (ss_set 6 (ev_call (ok_l_draw T) (hr.mono (by decide)) mFn_len T.g_l_draw T.F_l_draw.kp T.b_l_draw passN (ea_own 0 (ea_cons (ev_var 2) ea_nil))) sc_l_a_table.nd)
 (sb_one (ss_set 5 (ev_op op_addP opl_add (ev_op op_addP opl_add (ev_slice (ev_var 5) eo_none (eo_some (ev_var 6))) (ev_tup (ea_cons (ev_call (ok_l_any_order T) (hr.mono (by decide)) mFn_len T.g_l_any_order T.F_l_any_order.kp T.b_l_any_order passN (ea_own 0 (ea_cons (ev_var 1) ea_nil))) ea_nil))) (ev_slice (ev_var 5) (eo_some (ev_op op_addP opl_add (ev_var 6) ev_int)) eo_none)) sc_l_a_table.nd)))
 sb_nil)
 (sb_one (ss_ret (ev_var 5)))))))
set_option maxHeartbeats 4000000 in
theorem ok_l_a_bars (T : Tx K mg) : FnOk P w K mg base CX0 2 T.f_l_a_bars T.d_l_a_bars ["tape", "spots", "most"] (SpF K mg 3 m_l_a_bars) :=
 fn_mk T.F_l_a_bars sc_l_a_bars rfl rfl (by decide) (by decide) fun cdv A outer s H E hr =>
 (sb_cons (ss_set 3 ev_newT sc_l_a_bars.nd)
 (sb_cons (ss_for (tv := [4]) PassesOwn.never (ei_range1 T.z_range (ea_cons (ev_call (ok_l_draw T) (hr.mono (by decide)) mFn_len T.g_l_draw T.F_l_draw.kp T.b_l_draw passN (ea_own 0 (ea_cons (ev_op op_addP opl_add (ev_var 2) ev_int) ea_nil))) ea_nil)) (tg_name 4 sc_l_a_bars.nd)
 (sb_one (ss_setT 3 hr.units ev_bl (ev_tup (ea_cons (ev_call (ok_l_draw T) (hr.mono (by decide)) mFn_len T.g_l_draw T.F_l_draw.kp T.b_l_draw passN (ea_own 0 (ea_cons (ev_var 1) ea_nil))) (ea_cons (ev_call (ok_l_draw T) (hr.mono (by decide)) mFn_len T.g_l_draw T.F_l_draw.kp T.b_l_draw passN (ea_own 0 (ea_cons (ev_ix ix_seq opl_ix (ev_lst (ea_cons (ev_var 1) (ea_cons ev_int ea_nil))) (ev_op op_fdivW opl_I (ev_call (ok_l_draw T) (hr.mono (by decide)) mFn_len T.g_l_draw T.F_l_draw.kp T.b_l_draw passN (ea_own 0 (ea_cons ev_int ea_nil))) ev_int)) ea_nil))) ea_nil))))))
 (sb_one (ss_ret (ev_tuple T.z_tuple (ev_listT 3 T.z_list))))))
set_option maxHeartbeats 4000000 in
theorem ok_l_free (T : Tx K mg) : FnOk P w K mg base CX0 1 T.f_l_free T.d_l_free ["table", "bars"] (SpF K mg 2 m_l_free) :=
 fn_mk T.F_l_free sc_l_free rfl rfl (by decide) (by decide) fun cdv A outer s H E hr =>
 (sb_cons (ss_set 2 (ev_lrg T.z_list T.z_range (ev_callB call_len cl_len T.z_len PySem.boot_len (ea_cons (ev_ix ix_seq opl_ix (ev_var 0) ev_int) ea_nil))) sc_l_free.nd)
 (sb_cons (ss_set 3 (ev_lst ea_nil) sc_l_free.nd)
 (sb_cons (ss_for (tv := [4]) PassesOwn.never (ei_range1 T.z_range (ea_cons (ev_callB call_len cl_len T.z_len PySem.boot_len (ea_cons (ev_ix ix_seq opl_ix (ev_var 0) ev_int) ea_nil)) ea_nil)) (tg_name 4 sc_l_free.nd)
 (sb_cons (ss_set 5 (ev_comp (own := [("own", 6)]) (tv := [6]) sc_l_free.nd (ei_seq (ev_var 0)) (blkOk_by (N := ["table", "bars", "spots", "found", "step", "had", "own", "spot"]) (sc := defScope s_l_free) (by decide +kernel)) (fun _ _ _ _ _ => (tg_name 6 sc_l_free.nd)) (fun _ _ _ _ _ => ets_nil) (fun _ _ _ _ _ => (ev_ix ix_seq opl_ix (ev_var 6) (ev_var 4)))) sc_l_free.nd)
 (sb_one (ss_expr (ev_meth 3 PySem.F.plainAttrs_list PySem.F.slot_list_append PySem.F.type_list_append mt_append ml_append (ea_cons (ev_comp (own := [("spot", 7)]) (tv := [7]) sc_l_free.nd (ei_seq (ev_var 2)) (blkOk_by (N := ["table", "bars", "spots", "found", "step", "had", "own", "spot"]) (sc := defScope s_l_free) (by decide +kernel)) (fun _ _ _ _ _ => (tg_name 7 sc_l_free.nd)) (fun _ _ _ _ _ => (ets_one (et_bool (ew_and (et_cmp (op_ninP hr.units) opl_D2 (ev_var 7) (ev_var 5) (by rfl)) (ew_one_and (et_cmp (op_ninP hr.units) opl_D2 (ev_tup (ea_cons (ev_var 4) (ea_cons (ev_var 7) ea_nil))) (ev_var 1) (by rfl))))))) (fun _ _ _ _ _ => (ev_var 7))) ea_nil))))))
 (sb_one (ss_retO 3)))))
set_option maxHeartbeats 4000000 in
theorem ok_l_goes (T : Tx K mg) : FnOk P w K mg base CX0 2 T.f_l_goes T.d_l_goes ["table", "bars", "order"] (SpF K mg 3 m_l_goes) :=
 fn_mk T.F_l_goes sc_l_goes rfl rfl (by decide) (by decide) fun cdv A outer s H E hr =>
 (sb_cons (ss_set 3 (ev_call (ok_l_free T) (hr.mono (by decide)) mFn_len T.g_l_free T.F_l_free.kp T.b_l_free passN (ea_cons (ev_var 0) (ea_cons (ev_var 1) ea_nil))) sc_l_goes.nd)
 (sb_one (ss_ret (ev_cmp (op_eqP hr.units) opl_D2 (ev_comp (own := [("step", 4)]) (tv := [4]) sc_l_goes.nd (ei_range1 T.z_range (ea_cons (ev_callB call_len cl_len T.z_len PySem.boot_len (ea_cons (ev_var 2) ea_nil)) ea_nil)) (blkOk_by (N := ["table", "bars", "order", "free", "step"]) (sc := defScope s_l_goes) (by decide +kernel)) (fun _ _ _ _ _ => (tg_name 4 sc_l_goes.nd)) (fun _ _ _ _ _ => (ets_one (et_cmp (op_ninP hr.units) opl_D2 (ev_ix ix_seq opl_ix (ev_var 2) (ev_var 4)) (ev_ix ix_seq opl_ix (ev_var 3) (ev_var 4)) (by rfl)))) (fun _ _ _ _ _ => (ev_var 4))) (ev_lst ea_nil) (nomark _)))))
set_option maxHeartbeats 4000000 in
theorem ok_l_all_orders (T : Tx K mg) : FnOk P w K mg base CX0 1 T.f_l_all_orders T.d_l_all_orders ["spots"] (SpF K mg 1 m_l_all_orders) :=
 fn_mk T.F_l_all_orders sc_l_all_orders rfl rfl (by decide) (by decide) fun cdv A outer s H E hr =>
 (sb_cons (ss_set 1 (ev_lst (ea_cons (ev_tup ea_nil) ea_nil)) sc_l_all_orders.nd)
 (sb_cons (ss_for (tv := [2]) PassesOwn.never (ei_range1 T.z_range (ea_cons (ev_var 0) ea_nil)) (tg_name 2 sc_l_all_orders.nd)
 (sb_cons (ss_set 3 (ev_lst ea_nil) sc_l_all_orders.nd)
 (sb_cons (ss_for (tv := [4]) PassesOwn.never (ei_seq (ev_var 1)) (tg_name 4 sc_l_all_orders.nd)
 (sb_one (ss_expr (ev_meth 3 PySem.F.plainAttrs_list PySem.F.slot_list_extend PySem.F.type_list_extend mt_extend ml_extend (ea_cons (ev_comp (own := [("spot", 5)]) (tv := [5]) sc_l_all_orders.nd (ei_range1 T.z_range (ea_cons (ev_var 0) ea_nil)) (blkOk_by (N := ["spots", "found", "k", "longer", "own", "spot"]) (sc := defScope s_l_all_orders) (by decide +kernel)) (fun _ _ _ _ _ => (tg_name 5 sc_l_all_orders.nd)) (fun _ _ _ _ _ => (ets_one (et_cmp (op_ninP hr.units) opl_D2 (ev_var 5) (ev_var 4) (by rfl)))) (fun _ _ _ _ _ => (ev_op op_addP opl_add (ev_var 4) (ev_tup (ea_cons (ev_var 5) ea_nil))))) ea_nil)))))
 (sb_one (ss_set 1 (ev_var 3) sc_l_all_orders.nd)))))
 (sb_one (ss_ret (ev_var 1)))))
set_option maxHeartbeats 4000000 in
theorem ok_law (T : Tx K mg) : FnOk P w K mg base CX0 14 T.f_law T.d_law ["script"] (SpF K mg 1 m_law) :=
 fn_mk T.F_law sc_law rfl rfl (by decide) (by decide) fun cdv A outer s H E hr =>
 (sb_cons (ss_set 1 (ev_lst (ea_cons (ev_listScr 0 T.z_list) (ea_cons ev_int (ea_cons ev_int ea_nil)))) sc_law.nd)
 (sb_cons (ss_for (tv := [2]) PassesOwn.never (ei_range1 T.z_range (ea_cons ev_int ea_nil)) (tg_name 2 sc_law.nd)
 (sb_cons (ss_set 3 (ev_op op_addP opl_add ev_int (ev_call (ok_l_draw T) (hr.mono (by decide)) mFn_len T.g_l_draw T.F_l_draw.kp T.b_l_draw passN (ea_own 1 (ea_cons ev_int ea_nil)))) sc_law.nd)
 (sb_cons (ss_set 4 (ev_call (ok_l_a_table T) (hr.mono (by decide)) mFn_len T.g_l_a_table T.F_l_a_table.kp T.b_l_a_table passN (ea_own 1 (ea_cons (ev_var 3) (ea_cons (ev_op op_addP opl_add ev_int (ev_call (ok_l_draw T) (hr.mono (by decide)) mFn_len T.g_l_draw T.F_l_draw.kp T.b_l_draw passN (ea_own 1 (ea_cons (ev_var 3) ea_nil)))) ea_nil)))) sc_law.nd)
 (sb_cons (ss_set 5 (ev_call (ok_l_a_bars T) (hr.mono (by decide)) mFn_len T.g_l_a_bars T.F_l_a_bars.kp T.b_l_a_bars passN (ea_own 1 (ea_cons (ev_var 3) (ea_cons (ev_ix ix_seq opl_ix (ev_lst (ea_cons ev_int (ea_cons ev_int (ea_cons ev_int ea_nil)))) (ev_call (ok_l_draw T) (hr.mono (by decide)) mFn_len T.g_l_draw T.F_l_draw.kp T.b_l_draw passN (ea_own 1 (ea_cons ev_int ea_nil)))) ea_nil)))) sc_law.nd)
 (sb_cons (ss_setComp 6 (own := [("own", 7)]) (tv := [7]) sc_law.nd (ei_seq (ev_call (ok_l_all_orders T) (hr.mono (by decide)) mFn_len T.g_l_all_orders T.F_l_all_orders.kp T.b_l_all_orders passN (ea_cons (ev_var 3) ea_nil))) (blkOk_by (N := ["script", "tape", "turn", "spots", "table", "bars", "some", "own", "found", "word", "steps", "few", "free", "k", "spot"]) (sc := defScope s_law) (by decide +kernel)) (fun _ _ _ _ _ => (tg_name 7 sc_law.nd)) (fun _ _ _ _ _ => (ets_one (et_val (ev_call (ok_l_goes T) (hr.mono (by decide)) mFn_len T.g_l_goes T.F_l_goes.kp T.b_l_goes passN (ea_cons (ev_var 4) (ea_cons (ev_var 5) (ea_cons (ev_var 7) ea_nil))))))) (fun _ _ _ _ _ => (ev_var 7)) (sw_true rfl rfl rfl (by decide +kernel)))
 (sb_cons (ss_set 8 (ev_call (ok_first_beside T) (hr.mono (by decide)) mFn_len T.g_first_beside T.F_first_beside.kp T.b_first_beside passN (ea_cons (ev_var 4) (ea_cons (ev_var 5) ea_nil))) sc_law.nd)
 (sb_cons (ss_if (et_cmp (op_neP hr.units) opl_D2 (ev_var 6) (ev_lst ea_nil) (nomark _))
 (sb_one (ss_if (et_cmp (op_neP hr.units) opl_D2 (ev_var 8) (ev_tup (ea_cons ev_str (ea_cons (ev_ix ix_seq opl_ix (ev_var 6) ev_int) ea_nil))) (nomark _))
 (sb_one (ss_ret ev_bl))
 sb_nil))
 (sb_cons (ss_asgT (tv := [9, 10, 11]) (ev_var 8) (tg_tup (tgl_cons (tg_name 9 sc_law.nd) (tgl_cons (tg_name 10 sc_law.nd) (tgl_cons (tg_name 11 sc_law.nd) tgl_nil)))))
 (sb_cons (ss_set 12 (ev_call (ok_l_free T) (hr.mono (by decide)) mFn_len T.g_l_free T.F_l_free.kp T.b_l_free passN (ea_cons (ev_var 4) (ea_cons (ev_var 5) ea_nil))) sc_law.nd)
 (sb_cons (ss_if (et_bool (ew_or (et_cmp (op_neP hr.units) opl_D2 (ev_var 9) ev_str (nomark _)) (ew_or (et_cmp (op_geP hr.units) opl_D2 (ev_callB call_len cl_len T.z_len PySem.boot_len (ea_cons (ev_var 11) ea_nil)) (ev_callB call_len cl_len T.z_len PySem.boot_len (ea_cons (ev_var 10) ea_nil)) (nomark _)) (ew_one_or (et_cmp (op_neP hr.units) opl_D2 (ev_callTy call_list_of cl_list T.z_list boot_list (ea_cons (ev_var 10) ea_nil)) (ev_sortSet T.z_sorted T.z_set (ev_var 10)) (nomark _))))))
 (sb_one (ss_ret ev_bl))
 sb_nil)
 (sb_cons (ss_if (et_cmp (op_neP hr.units) opl_D2 (ev_callTy call_list_of cl_list T.z_list boot_list (ea_cons (ev_var 11) ea_nil)) (ev_sortSet T.z_sorted T.z_set (ev_var 11)) (nomark _))
 (sb_one (ss_ret ev_bl))
 sb_nil)
 (sb_cons (ss_for (tv := [13]) PassesOwn.never (ei_seq (ev_var 10)) (tg_name 13 sc_law.nd)
 (sb_one (ss_if (et_cmp (op_neP hr.units) opl_D2 (ev_comp (own := [("spot", 14)]) (tv := [14]) sc_law.nd (ei_seq (ev_ix ix_seq opl_ix (ev_var 12) (ev_var 13))) (blkOk_by (N := ["script", "tape", "turn", "spots", "table", "bars", "some", "own", "found", "word", "steps", "few", "free", "k", "spot"]) (sc := defScope s_law) (by decide +kernel)) (fun _ _ _ _ _ => (tg_name 14 sc_law.nd)) (fun _ _ _ _ _ => (ets_one (et_cmp (op_ninP hr.units) opl_D2 (ev_var 14) (ev_var 11) (by rfl)))) (fun _ _ _ _ _ => (ev_var 14))) (ev_lst ea_nil) (nomark _))
 (sb_one (ss_ret ev_bl))
 sb_nil)))
 (sb_one (ss_if (et_cmp op_notBl opl_notB (ev_call (ok_bars_so T) (hr.mono (by decide)) mFn_len T.g_bars_so T.F_bars_so.kp T.b_bars_so passN (ea_cons (ev_var 4) (ea_cons (ev_var 10) (ea_cons (ev_var 11) (ea_cons (ev_var 5) ea_nil))))) ev_bl (nomark _))
 (sb_one (ss_ret ev_bl))
 sb_nil))))))))
 (sb_one (ss_if (et_bool (ew_or (et_cmp (op_neP hr.units) opl_D2 (ev_call (ok_first_beside T) (hr.mono (by decide)) mFn_len T.g_first_beside T.F_first_beside.kp T.b_first_beside passN (ea_cons (ev_var 4) (ea_cons (ev_var 5) ea_nil))) (ev_var 8) (nomark _)) (ew_one_or (et_bool (ew_and (et_cmp (op_eqP hr.units) opl_D2 (ev_var 5) (ev_tup ea_nil) (nomark _)) (ew_one_and (et_cmp (op_neP hr.units) opl_D2 (ev_callD [.none] (ok_first_beside T) (hr.mono (by decide)) mFn_len T.g_first_beside T.F_first_beside.kp (T.b1_first_beside).choose_spec.2 (T.b1_first_beside).choose_spec.1 (fun _ => .cons .non (.nil)) passN (ea_cons (ev_var 4) ea_nil)) (ev_var 8) (nomark _))))))))
 (sb_one (ss_ret ev_bl))
 sb_nil)))))))))
 (sb_one (ss_ret ev_bl))))
end
def spLaw (K : Fg) : Sp := fun vs H Q _ => ∃ (a : Addr) (ns : List Int), vs = [.ref a] ∧ SqL K H a (ns.map V.int) ∧ ns.length ≤ 63 ∧ ∀ H', Q (.bl true) H'
def LawSays : Prop := ∀ ns : List Int, ns.length ≤ 63 → ∃ ps, m_law [.scr ns] = .rt (.val (.bool true)) ps
theorem law_keeps {P : Program} {w : World} {K : Fg} {mg : Str → Option Value} {base : Heap} (T : Tx K mg) (h : LawSays) : FnOk P w K mg base CX0 14 T.f_law T.d_law ["script"] (spLaw K) := by
  refine (ok_law T).imp fun vs H Q E ⟨a, ns, e, hs, hl, q⟩ => ?_
  subst e
  obtain ⟨ps, hp⟩ := h ns hl
  refine ⟨rfl, H, [.scr ns], [], rfl, Same.refl _, .cons (fp := []) (.scr hs) .nil, .nil, fun a h => (by simp at h), ?_⟩
  rw [hp]
  intro v F' H' _ w'
  cases w'.val
  exact q H'
theorem tx_mk {P : Program} {w : World} {K : Fg} {h : Heap} {mg : Str → Option Value} {fa : Addr} (X : K.In h) (G : h.Ns mainGlobals mg) (hfa : mg "law" = some (.ref fa))
    {f0 : Addr} {od0 an0 : Option Addr} {sl0 : Array (Option Value)} {oc0 kV0 dc0 pm0 cd0 ct0 : Value}
    (a0 : PySem.W.nsIn K mainGlobals "is_within" = some (some (.ref f0))) (l0 : K.lookup f0 = some ⟨oc0, od0, .func (PySem.W.fnOf "is_within" "is_within" (defArgs s_is_within) (defBody s_is_within) (defScope s_is_within) .none kV0 dc0 pm0 an0 cd0 ct0), sl0⟩) (c0 : PySem.W.codeIn K cd0 "is_within" = true) (k0 : PySem.W.keepIn K (.ref f0) = true)
    {f1 : Addr} {od1 an1 : Option Addr} {sl1 : Array (Option Value)} {oc1 kV1 dc1 pm1 cd1 ct1 : Value}
    (a1 : PySem.W.nsIn K mainGlobals "free_spots" = some (some (.ref f1))) (l1 : K.lookup f1 = some ⟨oc1, od1, .func (PySem.W.fnOf "free_spots" "free_spots" (defArgs s_free_spots) (defBody s_free_spots) (defScope s_free_spots) .none kV1 dc1 pm1 an1 cd1 ct1), sl1⟩) (c1 : PySem.W.codeIn K cd1 "free_spots" = true) (k1 : PySem.W.keepIn K (.ref f1) = true)
    {f2 : Addr} {od2 an2 : Option Addr} {sl2 : Array (Option Value)} {oc2 kV2 dc2 pm2 cd2 ct2 : Value}
    (a2 : PySem.W.nsIn K mainGlobals "counts_from" = some (some (.ref f2))) (l2 : K.lookup f2 = some ⟨oc2, od2, .func (PySem.W.fnOf "counts_from" "counts_from" (defArgs s_counts_from) (defBody s_counts_from) (defScope s_counts_from) .none kV2 dc2 pm2 an2 cd2 ct2), sl2⟩) (c2 : PySem.W.codeIn K cd2 "counts_from" = true) (k2 : PySem.W.keepIn K (.ref f2) = true)
    {f3 : Addr} {od3 an3 : Option Addr} {sl3 : Array (Option Value)} {oc3 kV3 dc3 pm3 cd3 ct3 : Value}
    {T3 : Addr} {ocT3 : Value} {odT3 : Option Addr} {nT3 : Nat} {slT3 : Array (Option Value)} 
    (a3 : PySem.W.nsIn K mainGlobals "order_at" = some (some (.ref f3))) (l3 : K.lookup f3 = some ⟨oc3, od3, .func (PySem.W.fnOf "order_at" "order_at" (defArgs s_order_at) (defBody s_order_at) (defScope s_order_at) (.ref T3) kV3 dc3 pm3 an3 cd3 ct3), sl3⟩) (c3 : PySem.W.codeIn K cd3 "order_at" = true) (k3 : PySem.W.keepIn K (.ref f3) = true)
    (m3 : K.lookup T3 = some ⟨ocT3, odT3, .seq #[.none] nT3, slT3⟩)
    {f4 : Addr} {od4 an4 : Option Addr} {sl4 : Array (Option Value)} {oc4 kV4 dc4 pm4 cd4 ct4 : Value}
    (a4 : PySem.W.nsIn K mainGlobals "mated" = some (some (.ref f4))) (l4 : K.lookup f4 = some ⟨oc4, od4, .func (PySem.W.fnOf "mated" "mated" (defArgs s_mated) (defBody s_mated) (defScope s_mated) .none kV4 dc4 pm4 an4 cd4 ct4), sl4⟩) (c4 : PySem.W.codeIn K cd4 "mated" = true) (k4 : PySem.W.keepIn K (.ref f4) = true)
    {f5 : Addr} {od5 an5 : Option Addr} {sl5 : Array (Option Value)} {oc5 kV5 dc5 pm5 cd5 ct5 : Value}
    (a5 : PySem.W.nsIn K mainGlobals "why_none" = some (some (.ref f5))) (l5 : K.lookup f5 = some ⟨oc5, od5, .func (PySem.W.fnOf "why_none" "why_none" (defArgs s_why_none) (defBody s_why_none) (defScope s_why_none) .none kV5 dc5 pm5 an5 cd5 ct5), sl5⟩) (c5 : PySem.W.codeIn K cd5 "why_none" = true) (k5 : PySem.W.keepIn K (.ref f5) = true)
    {f6 : Addr} {od6 an6 : Option Addr} {sl6 : Array (Option Value)} {oc6 kV6 dc6 pm6 cd6 ct6 : Value}
    {T6 : Addr} {ocT6 : Value} {odT6 : Option Addr} {nT6 : Nat} {slT6 : Array (Option Value)} 
    (a6 : PySem.W.nsIn K mainGlobals "first_beside" = some (some (.ref f6))) (l6 : K.lookup f6 = some ⟨oc6, od6, .func (PySem.W.fnOf "first_beside" "first_beside" (defArgs s_first_beside) (defBody s_first_beside) (defScope s_first_beside) (.ref T6) kV6 dc6 pm6 an6 cd6 ct6), sl6⟩) (c6 : PySem.W.codeIn K cd6 "first_beside" = true) (k6 : PySem.W.keepIn K (.ref f6) = true)
    (m6 : K.lookup T6 = some ⟨ocT6, odT6, .seq #[.none] nT6, slT6⟩)
    {f7 : Addr} {od7 an7 : Option Addr} {sl7 : Array (Option Value)} {oc7 kV7 dc7 pm7 cd7 ct7 : Value}
    {T7 : Addr} {ocT7 : Value} {odT7 : Option Addr} {nT7 : Nat} {slT7 : Array (Option Value)} 
    (a7 : PySem.W.nsIn K mainGlobals "bars_so" = some (some (.ref f7))) (l7 : K.lookup f7 = some ⟨oc7, od7, .func (PySem.W.fnOf "bars_so" "bars_so" (defArgs s_bars_so) (defBody s_bars_so) (defScope s_bars_so) (.ref T7) kV7 dc7 pm7 an7 cd7 ct7), sl7⟩) (c7 : PySem.W.codeIn K cd7 "bars_so" = true) (k7 : PySem.W.keepIn K (.ref f7) = true)
    (m7 : K.lookup T7 = some ⟨ocT7, odT7, .seq #[.none] nT7, slT7⟩)
    {f8 : Addr} {od8 an8 : Option Addr} {sl8 : Array (Option Value)} {oc8 kV8 dc8 pm8 cd8 ct8 : Value}
    (a8 : PySem.W.nsIn K mainGlobals "_law_draw" = some (some (.ref f8))) (l8 : K.lookup f8 = some ⟨oc8, od8, .func (PySem.W.fnOf "_law_draw" "_law_draw" (defArgs s_l_draw) (defBody s_l_draw) (defScope s_l_draw) .none kV8 dc8 pm8 an8 cd8 ct8), sl8⟩) (c8 : PySem.W.codeIn K cd8 "_law_draw" = true) (k8 : PySem.W.keepIn K (.ref f8) = true)
    {f9 : Addr} {od9 an9 : Option Addr} {sl9 : Array (Option Value)} {oc9 kV9 dc9 pm9 cd9 ct9 : Value}
    (a9 : PySem.W.nsIn K mainGlobals "_law_any_order" = some (some (.ref f9))) (l9 : K.lookup f9 = some ⟨oc9, od9, .func (PySem.W.fnOf "_law_any_order" "_law_any_order" (defArgs s_l_any_order) (defBody s_l_any_order) (defScope s_l_any_order) .none kV9 dc9 pm9 an9 cd9 ct9), sl9⟩) (c9 : PySem.W.codeIn K cd9 "_law_any_order" = true) (k9 : PySem.W.keepIn K (.ref f9) = true)
    {f10 : Addr} {od10 an10 : Option Addr} {sl10 : Array (Option Value)} {oc10 kV10 dc10 pm10 cd10 ct10 : Value}
    (a10 : PySem.W.nsIn K mainGlobals "_law_apart" = some (some (.ref f10))) (l10 : K.lookup f10 = some ⟨oc10, od10, .func (PySem.W.fnOf "_law_apart" "_law_apart" (defArgs s_l_apart) (defBody s_l_apart) (defScope s_l_apart) .none kV10 dc10 pm10 an10 cd10 ct10), sl10⟩) (c10 : PySem.W.codeIn K cd10 "_law_apart" = true) (k10 : PySem.W.keepIn K (.ref f10) = true)
    {f11 : Addr} {od11 an11 : Option Addr} {sl11 : Array (Option Value)} {oc11 kV11 dc11 pm11 cd11 ct11 : Value}
    (a11 : PySem.W.nsIn K mainGlobals "_law_a_table" = some (some (.ref f11))) (l11 : K.lookup f11 = some ⟨oc11, od11, .func (PySem.W.fnOf "_law_a_table" "_law_a_table" (defArgs s_l_a_table) (defBody s_l_a_table) (defScope s_l_a_table) .none kV11 dc11 pm11 an11 cd11 ct11), sl11⟩) (c11 : PySem.W.codeIn K cd11 "_law_a_table" = true) (k11 : PySem.W.keepIn K (.ref f11) = true)
    {f12 : Addr} {od12 an12 : Option Addr} {sl12 : Array (Option Value)} {oc12 kV12 dc12 pm12 cd12 ct12 : Value}
    (a12 : PySem.W.nsIn K mainGlobals "_law_a_bars" = some (some (.ref f12))) (l12 : K.lookup f12 = some ⟨oc12, od12, .func (PySem.W.fnOf "_law_a_bars" "_law_a_bars" (defArgs s_l_a_bars) (defBody s_l_a_bars) (defScope s_l_a_bars) .none kV12 dc12 pm12 an12 cd12 ct12), sl12⟩) (c12 : PySem.W.codeIn K cd12 "_law_a_bars" = true) (k12 : PySem.W.keepIn K (.ref f12) = true)
    {f13 : Addr} {od13 an13 : Option Addr} {sl13 : Array (Option Value)} {oc13 kV13 dc13 pm13 cd13 ct13 : Value}
    (a13 : PySem.W.nsIn K mainGlobals "_law_free" = some (some (.ref f13))) (l13 : K.lookup f13 = some ⟨oc13, od13, .func (PySem.W.fnOf "_law_free" "_law_free" (defArgs s_l_free) (defBody s_l_free) (defScope s_l_free) .none kV13 dc13 pm13 an13 cd13 ct13), sl13⟩) (c13 : PySem.W.codeIn K cd13 "_law_free" = true) (k13 : PySem.W.keepIn K (.ref f13) = true)
    {f14 : Addr} {od14 an14 : Option Addr} {sl14 : Array (Option Value)} {oc14 kV14 dc14 pm14 cd14 ct14 : Value}
    (a14 : PySem.W.nsIn K mainGlobals "_law_goes" = some (some (.ref f14))) (l14 : K.lookup f14 = some ⟨oc14, od14, .func (PySem.W.fnOf "_law_goes" "_law_goes" (defArgs s_l_goes) (defBody s_l_goes) (defScope s_l_goes) .none kV14 dc14 pm14 an14 cd14 ct14), sl14⟩) (c14 : PySem.W.codeIn K cd14 "_law_goes" = true) (k14 : PySem.W.keepIn K (.ref f14) = true)
    {f15 : Addr} {od15 an15 : Option Addr} {sl15 : Array (Option Value)} {oc15 kV15 dc15 pm15 cd15 ct15 : Value}
    (a15 : PySem.W.nsIn K mainGlobals "_law_all_orders" = some (some (.ref f15))) (l15 : K.lookup f15 = some ⟨oc15, od15, .func (PySem.W.fnOf "_law_all_orders" "_law_all_orders" (defArgs s_l_all_orders) (defBody s_l_all_orders) (defScope s_l_all_orders) .none kV15 dc15 pm15 an15 cd15 ct15), sl15⟩) (c15 : PySem.W.codeIn K cd15 "_law_all_orders" = true) (k15 : PySem.W.keepIn K (.ref f15) = true)
    {f16 : Addr} {od16 an16 : Option Addr} {sl16 : Array (Option Value)} {oc16 kV16 dc16 pm16 cd16 ct16 : Value}
    (a16 : PySem.W.nsIn K mainGlobals "law" = some (some (.ref f16))) (l16 : K.lookup f16 = some ⟨oc16, od16, .func (PySem.W.fnOf "law" "law" (defArgs s_law) (defBody s_law) (defScope s_law) .none kV16 dc16 pm16 an16 cd16 ct16), sl16⟩) (c16 : PySem.W.codeIn K cd16 "law" = true) (k16 : PySem.W.keepIn K (.ref f16) = true)
    (z_all : PySem.W.nsIn K mainGlobals "all" = some none)
    (z_bool : PySem.W.nsIn K mainGlobals "bool" = some none)
    (z_int : PySem.W.nsIn K mainGlobals "int" = some none)
    (z_isinstance : PySem.W.nsIn K mainGlobals "isinstance" = some none)
    (z_len : PySem.W.nsIn K mainGlobals "len" = some none)
    (z_list : PySem.W.nsIn K mainGlobals "list" = some none)
    (z_range : PySem.W.nsIn K mainGlobals "range" = some none)
    (z_set : PySem.W.nsIn K mainGlobals "set" = some none)
    (z_sorted : PySem.W.nsIn K mainGlobals "sorted" = some none)
    (z_sum : PySem.W.nsIn K mainGlobals "sum" = some none)
    (z_tuple : PySem.W.nsIn K mainGlobals "tuple" = some none)
    (says : LawSays) : ∃ fd : FuncData, (∀ (s : Shared) (v : Value), BindsTo s fd ⟨[v], []⟩ [("script", v)]) ∧ ∀ base : Heap, K.In base → base.Ns mainGlobals mg → FnOk P w K mg base CX0 14 fa fd ["script"] (spLaw K) := by
  have e : fa = f16 := by
    have e := hfa.symm.trans (PySem.W.mg_of X G a16)
    cases e
    rfl
  have F0 := fun_mk (st := s_is_within) l0 c0 k0
  have F1 := fun_mk (st := s_free_spots) l1 c1 k1
  have F2 := fun_mk (st := s_counts_from) l2 c2 k2
  have F3 := fun_mkD (st := s_order_at) (dvs := [.non]) l3 c3 k3 m3 (.cons rfl (.nil)) (by simp)
  have F4 := fun_mk (st := s_mated) l4 c4 k4
  have F5 := fun_mk (st := s_why_none) l5 c5 k5
  have F6 := fun_mkD (st := s_first_beside) (dvs := [.non]) l6 c6 k6 m6 (.cons rfl (.nil)) (by simp)
  have F7 := fun_mkD (st := s_bars_so) (dvs := [.non]) l7 c7 k7 m7 (.cons rfl (.nil)) (by simp)
  have F8 := fun_mk (st := s_l_draw) l8 c8 k8
  have F9 := fun_mk (st := s_l_any_order) l9 c9 k9
  have F10 := fun_mk (st := s_l_apart) l10 c10 k10
  have F11 := fun_mk (st := s_l_a_table) l11 c11 k11
  have F12 := fun_mk (st := s_l_a_bars) l12 c12 k12
  have F13 := fun_mk (st := s_l_free) l13 c13 k13
  have F14 := fun_mk (st := s_l_goes) l14 c14 k14
  have F15 := fun_mk (st := s_l_all_orders) l15 c15 k15
  have F16 := fun_mk (st := s_law) l16 c16 k16
  have T : ∃ T : Tx K mg, T.f_law = fa ∧ (∀ (s : Shared) (v : Value), BindsTo s T.d_law ⟨[v], []⟩ [("script", v)]) := ⟨⟨f0, _, F0, F0.binds (ps := ["thing", "low", "high"]) fun _ _ _ _ _ _ us hl => (match us, hl with | [_, _, _], _ => rfl), PySem.W.mg_of X G a0,
    f1, _, F1, F1.binds (ps := ["table", "bars"]) fun _ _ _ _ _ _ us hl => (match us, hl with | [_, _], _ => rfl), PySem.W.mg_of X G a1,
    f2, _, F2, F2.binds (ps := ["free", "step", "left", "known"]) fun _ _ _ _ _ _ us hl => (match us, hl with | [_, _, _, _], _ => rfl), PySem.W.mg_of X G a2,
    f3, _, F3, binds_full (ps := ["table", "number", "bars"]) F3 (by simp) fun _ _ _ _ _ _ _ us its h1 h2 => (match us, its, h1, h2 with | [_, _, _], [_], _, _ => ⟨_, rfl, rfl⟩), PySem.W.mg_of X G a3,
    f4, _, F4, F4.binds (ps := ["free", "mates", "step", "tried"]) fun _ _ _ _ _ _ us hl => (match us, hl with | [_, _, _, _], _ => rfl), PySem.W.mg_of X G a4,
    f5, _, F5, F5.binds (ps := ["free"]) fun _ _ _ _ _ _ us hl => (match us, hl with | [_], _ => rfl), PySem.W.mg_of X G a5,
    f6, _, F6, binds_full (ps := ["table", "bars"]) F6 (by simp) fun _ _ _ _ _ _ _ us its h1 h2 => (match us, its, h1, h2 with | [_, _], [_], _, _ => ⟨_, rfl, rfl⟩), PySem.W.mg_of X G a6, FunD.binds1 (ps := ["table", "bars"]) F6 1 0 (by simp) rfl fun _ _ _ _ _ _ _ us its h1 h2 => (match us, its, h1, h2 with | [_], [_], _, _ => ⟨_, rfl, rfl⟩),
    f7, _, F7, binds_full (ps := ["table", "steps", "spots", "bars"]) F7 (by simp) fun _ _ _ _ _ _ _ us its h1 h2 => (match us, its, h1, h2 with | [_, _, _, _], [_], _, _ => ⟨_, rfl, rfl⟩), PySem.W.mg_of X G a7,
    f8, _, F8, F8.binds (ps := ["tape", "many"]) fun _ _ _ _ _ _ us hl => (match us, hl with | [_, _], _ => rfl), PySem.W.mg_of X G a8,
    f9, _, F9, F9.binds (ps := ["tape", "many"]) fun _ _ _ _ _ _ us hl => (match us, hl with | [_, _], _ => rfl), PySem.W.mg_of X G a9,
    f10, _, F10, F10.binds (ps := ["tape", "spots", "teams"]) fun _ _ _ _ _ _ us hl => (match us, hl with | [_, _, _], _ => rfl), PySem.W.mg_of X G a10,
    f11, _, F11, F11.binds (ps := ["tape", "spots", "teams"]) fun _ _ _ _ _ _ us hl => (match us, hl with | [_, _, _], _ => rfl), PySem.W.mg_of X G a11,
    f12, _, F12, F12.binds (ps := ["tape", "spots", "most"]) fun _ _ _ _ _ _ us hl => (match us, hl with | [_, _, _], _ => rfl), PySem.W.mg_of X G a12,
    f13, _, F13, F13.binds (ps := ["table", "bars"]) fun _ _ _ _ _ _ us hl => (match us, hl with | [_, _], _ => rfl), PySem.W.mg_of X G a13,
    f14, _, F14, F14.binds (ps := ["table", "bars", "order"]) fun _ _ _ _ _ _ us hl => (match us, hl with | [_, _, _], _ => rfl), PySem.W.mg_of X G a14,
    f15, _, F15, F15.binds (ps := ["spots"]) fun _ _ _ _ _ _ us hl => (match us, hl with | [_], _ => rfl), PySem.W.mg_of X G a15,
    f16, _, F16, F16.binds (ps := ["script"]) fun _ _ _ _ _ _ us hl => (match us, hl with | [_], _ => rfl), PySem.W.mg_of X G a16,
    PySem.W.mg_none_of X G z_all,
    PySem.W.mg_none_of X G z_bool,
    PySem.W.mg_none_of X G z_int,
    PySem.W.mg_none_of X G z_isinstance,
    PySem.W.mg_none_of X G z_len,
    PySem.W.mg_none_of X G z_list,
    PySem.W.mg_none_of X G z_range,
    PySem.W.mg_none_of X G z_set,
    PySem.W.mg_none_of X G z_sorted,
    PySem.W.mg_none_of X G z_sum,
    PySem.W.mg_none_of X G z_tuple⟩, e.symm, fun s v => .of_eq rfl⟩
  obtain ⟨T, e, hb⟩ := T
  subst e
  exact ⟨T.d_law, hb, fun base _ _ => law_keeps T says⟩
theorem law_says : LawSays := fun ns hl => by
  have h := t_law ns [.scr ns] (.cons rfl .nil) rfl
  rw [law_ok ns] at h
  obtain ⟨s, ps, e, hs, _⟩ := h
  have := val_b hs
  subst this
  exact ⟨ps, e⟩
end Law

open PySem PySem.W PyProof.Rows
set_option maxHeartbeats 0 in
theorem PySem.Challenge.cw_hinthunt_k03_first_orders_beside_holds : PySem.Challenge.rw_hinthunt_k03_first_orders_beside.Holds := by
  w_on; o_law; k_head; (case hw => w_witness2)
  k_fill
  refine L2.walk_of (l := PySem.Challenge.rw_hinthunt_k03_first_orders_beside) (n := 63) (k := 14) (x := "script") (CX := fun _ => L2.CX0) (sp := fun w => Law.spLaw _) rfl (by decide) rfl ⟨rfl, by decide, by decide⟩ (fun w h Y => PySem.W.kIn_of Y) ?F (fun _ _ a ns hl _ hS => ⟨a, ns, rfl, hS, hl, fun _ => rfl⟩) (fun _ _ _ _ _ h => h)
  case F =>
    intro w mg fa h KX G hmg
    refine' Law.tx_mk KX G hmg ?a0 ?l0 ?c0 ?k0 ?a1 ?l1 ?c1 ?k1 ?a2 ?l2 ?c2 ?k2 ?a3 ?l3 ?c3 ?k3 ?m3 ?a4 ?l4 ?c4 ?k4 ?a5 ?l5 ?c5 ?k5 ?a6 ?l6 ?c6 ?k6 ?m6 ?a7 ?l7 ?c7 ?k7 ?m7 ?a8 ?l8 ?c8 ?k8 ?a9 ?l9 ?c9 ?k9 ?a10 ?l10 ?c10 ?k10 ?a11 ?l11 ?c11 ?k11 ?a12 ?l12 ?c12 ?k12 ?a13 ?l13 ?c13 ?k13 ?a14 ?l14 ?c14 ?k14 ?a15 ?l15 ?c15 ?k15 ?a16 ?l16 ?c16 ?k16 ?z_all ?z_bool ?z_int ?z_isinstance ?z_len ?z_list ?z_range ?z_set ?z_sorted ?z_sum ?z_tuple Law.law_says
    (case a0 => k_is); (case l0 => k_is); (case c0 => k_is); (case k0 => k_is); (case a1 => k_is); (case l1 => k_is); (case c1 => k_is); (case k1 => k_is); (case a2 => k_is); (case l2 => k_is); (case c2 => k_is); (case k2 => k_is); (case a3 => k_is); (case l3 => k_is); (case c3 => k_is); (case k3 => k_is); (case m3 => k_is); (case a4 => k_is); (case l4 => k_is); (case c4 => k_is); (case k4 => k_is); (case a5 => k_is); (case l5 => k_is); (case c5 => k_is); (case k5 => k_is); (case a6 => k_is); (case l6 => k_is); (case c6 => k_is); (case k6 => k_is); (case m6 => k_is); (case a7 => k_is); (case l7 => k_is); (case c7 => k_is); (case k7 => k_is); (case m7 => k_is); (case a8 => k_is); (case l8 => k_is); (case c8 => k_is); (case k8 => k_is); (case a9 => k_is); (case l9 => k_is); (case c9 => k_is); (case k9 => k_is); (case a10 => k_is); (case l10 => k_is); (case c10 => k_is); (case k10 => k_is); (case a11 => k_is); (case l11 => k_is); (case c11 => k_is); (case k11 => k_is); (case a12 => k_is); (case l12 => k_is); (case c12 => k_is); (case k12 => k_is); (case a13 => k_is); (case l13 => k_is); (case c13 => k_is); (case k13 => k_is); (case a14 => k_is); (case l14 => k_is); (case c14 => k_is); (case k14 => k_is); (case a15 => k_is); (case l15 => k_is); (case c15 => k_is); (case k15 => k_is); (case a16 => k_is); (case l16 => k_is); (case c16 => k_is); (case k16 => k_is); (case z_all => k_is); (case z_bool => k_is); (case z_int => k_is); (case z_isinstance => k_is); (case z_len => k_is); (case z_list => k_is); (case z_range => k_is); (case z_set => k_is); (case z_sorted => k_is); (case z_sum => k_is); (case z_tuple => k_is)
