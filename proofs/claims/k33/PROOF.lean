import PyProof.Rows.All
import Wide.All
import OpenK.AllK
import Wide.FinOn
import HandS.ForMost
import HandS.Wide
import HandS.TupAny
import HandS.TupMul
import HandS.Style
import KE.KxText
import HandS.IsInst
import KE.DataEq
import KE.DataFind
import KE.DataCmp
import KE.SortData
import KE.DataMinMax
import HandS.SortInts
import HandS.Rev
import HandS.RevRange
import HandS.Zip
import HandS.Conv
import HandS.Iter
import HandS.More
import HandS.SetFor
import HandS.Strs
import PySem.Challenge.RW_promiseskept_k33_runs_and_full_runs
set_option Elab.async false
set_option linter.all false
set_option maxRecDepth 100000
set_option maxHeartbeats 4000000
namespace DL
open PySem PySem.Spec PyProof.Rows L2
inductive D where
  | non | bl (b : Bool) | int (i : Int) | str (x : Str) | tup (xs : List D) | ref (a : Addr) | ty (n : String) | fl (xs : List D)
inductive DO where
  | lst (xs : List D) | ins (C : Addr) (fs : List (Str × D)) | dct (kvs : List (D × D)) | dset (xs : List D)
abbrev DS := Addr → Option DO
def dupd (S : DS) (a : Addr) (o : DO) : DS := fun b => if b = a then some o else S b
theorem dupd_same {S : DS} {a : Addr} {o : DO} : dupd S a o a = some o := by unfold dupd; rw [if_pos rfl]
theorem dupd_ne {S : DS} {a b : Addr} {o : DO} (h : b ≠ a) : dupd S a o b = S b := by unfold dupd; rw [if_neg h]
theorem dne {S : DS} {a b : Addr} {o : DO} (h : S a = some o) (h' : S b = none) : a ≠ b := by
  intro e; subst e; rw [h] at h'; cases h'
/-- a list that nobody writes: the frozen script, a list of the module -/
def FqL (K : PySem.W.Frag) (H : Hp) (a : Addr) (vs : List V) : Prop :=
  (∃ o, H a = some (.frz o (.lst vs))) ∨
    ∃ (o : Obj) (its : Array Value) (n : Nat), K.lookup a = some o ∧ o.cls = .type "list" ∧ o.dict = none ∧ o.data = .seq its n ∧ its.size ≤ sizeLine ∧ Vals vs its.toList
theorem FqL.sq {K : PySem.W.Frag} {H : Hp} {a : Addr} {vs : List V} (h : FqL K H a vs) : SqL K H a vs := h.elim (fun h => .inl (.inr h)) .inr
mutual
inductive Rv (K : PySem.W.Frag) (H : Hp) : D → V → Prop
  | non : Rv K H .non .non
  | bl (b : Bool) : Rv K H (.bl b) (.bl b)
  | int (i : Int) : Rv K H (.int i) (.int i)
  | str (x : Str) : Rv K H (.str x) (.str x)
  | ty (n : String) : Rv K H (.ty n) (.ty n)
  | ref (a : Addr) : Rv K H (.ref a) (.ref a)
  | tup {a : Addr} {vs : List V} {ds : List D} : SqT K H a vs → RvL K H ds vs → Rv K H (.tup ds) (.ref a)
  | fl {a : Addr} {vs : List V} {ds : List D} : FqL K H a vs → RvL K H ds vs → Rv K H (.fl ds) (.ref a)
inductive RvL (K : PySem.W.Frag) (H : Hp) : List D → List V → Prop
  | nil : RvL K H [] []
  | cons {d : D} {ds : List D} {v : V} {vs : List V} : Rv K H d v → RvL K H ds vs → RvL K H (d :: ds) (v :: vs)
end
section
variable {K : PySem.W.Frag} {H H' : Hp}
mutual
theorem Rv.mono (h1 : ∀ a vs, SqT K H a vs → SqT K H' a vs) (h2 : ∀ a vs, FqL K H a vs → FqL K H' a vs) : ∀ (d : D) (v : V), Rv K H d v → Rv K H' d v
  | .non, _, r => by cases r; exact .non
  | .bl _, _, r => by cases r; exact .bl _
  | .int _, _, r => by cases r; exact .int _
  | .str _, _, r => by cases r; exact .str _
  | .ty _, _, r => by cases r; exact .ty _
  | .ref _, _, r => by cases r; exact .ref _
  | .tup ds, _, r => by
    cases r with
    | tup q rr => exact .tup (h1 _ _ q) (RvL.mono h1 h2 ds _ rr)
  | .fl ds, _, r => by
    cases r with
    | fl q rr => exact .fl (h2 _ _ q) (RvL.mono h1 h2 ds _ rr)
theorem RvL.mono (h1 : ∀ a vs, SqT K H a vs → SqT K H' a vs) (h2 : ∀ a vs, FqL K H a vs → FqL K H' a vs) : ∀ (ds : List D) (vs : List V), RvL K H ds vs → RvL K H' ds vs
  | [], _, r => by cases r; exact .nil
  | d :: ds, _, r => by
    cases r with
    | cons q rr => exact .cons (Rv.mono h1 h2 d _ q) (RvL.mono h1 h2 ds _ rr)
end
theorem RvL.length : ∀ {ds : List D} {vs : List V}, RvL K H ds vs → ds.length = vs.length
  | [], _, r => by cases r; rfl
  | d :: ds, _, r => by
    cases r with
    | cons q rr => simp [RvL.length rr]
theorem RvL.get : ∀ {ds : List D} {vs : List V} {i : Nat} {d : D}, RvL K H ds vs → ds[i]? = some d → ∃ v, vs[i]? = some v ∧ Rv K H d v
  | [], _, _, _, r, e => by simp at e
  | d :: ds, _, 0, x, r, e => by
    cases r with
    | cons q rr => simp at e; subst e; exact ⟨_, rfl, q⟩
  | d :: ds, _, i + 1, x, r, e => by
    cases r with
    | cons q rr =>
      obtain ⟨v, h1, h2⟩ := RvL.get (i := i) (d := x) rr (by simpa using e)
      exact ⟨v, by simpa using h1, h2⟩
theorem RvL.getv : ∀ {ds : List D} {vs : List V} {i : Nat} {v : V}, RvL K H ds vs → vs[i]? = some v → ∃ d, ds[i]? = some d ∧ Rv K H d v
  | [], _, _, _, r, e => by cases r; simp at e
  | d :: ds, _, 0, x, r, e => by
    cases r with
    | cons q rr => simp at e; subst e; exact ⟨_, rfl, q⟩
  | d :: ds, _, i + 1, x, r, e => by
    cases r with
    | cons q rr =>
      obtain ⟨v, h1, h2⟩ := RvL.getv (i := i) (v := x) rr (by simpa using e)
      exact ⟨v, by simpa using h1, h2⟩
theorem RvL.append : ∀ {ds es : List D} {vs ws : List V}, RvL K H ds vs → RvL K H es ws → RvL K H (ds ++ es) (vs ++ ws)
  | [], _, _, _, r, q => by cases r; exact q
  | d :: ds, _, _, _, r, q => by
    cases r with
    | cons a rr => exact .cons a (RvL.append rr q)
theorem RvL.take : ∀ {ds : List D} {vs : List V} (n : Nat), RvL K H ds vs → RvL K H (ds.take n) (vs.take n)
  | _, _, 0, _ => by simp only [List.take_zero]; exact .nil
  | [], _, n + 1, r => by cases r; exact .nil
  | d :: ds, _, n + 1, r => by
    cases r with
    | cons a rr => exact .cons a (RvL.take n rr)
theorem RvL.drop : ∀ {ds : List D} {vs : List V} (n : Nat), RvL K H ds vs → RvL K H (ds.drop n) (vs.drop n)
  | _, _, 0, r => r
  | [], _, n + 1, r => by cases r; exact .nil
  | d :: ds, _, n + 1, r => by
    cases r with
    | cons a rr => exact RvL.drop n rr
theorem RvL.set {d : D} {v : V} (q : Rv K H d v) : ∀ {ds : List D} {vs : List V} (n : Nat), RvL K H ds vs → RvL K H (ds.set n d) (vs.set n v)
  | [], _, n, r => by cases r; exact .nil
  | e :: ds, _, 0, r => by
    cases r with
    | cons a rr => exact .cons q rr
  | e :: ds, _, n + 1, r => by
    cases r with
    | cons a rr => exact .cons a (RvL.set q n rr)
theorem RvL.reverse : ∀ {ds : List D} {vs : List V}, RvL K H ds vs → RvL K H ds.reverse vs.reverse
  | [], _, r => by cases r; exact .nil
  | d :: ds, _, r => by
    cases r with
    | cons a rr => rw [List.reverse_cons, List.reverse_cons]; exact RvL.append (RvL.reverse rr) (.cons a .nil)
theorem RvL.erase : ∀ {ds : List D} {vs : List V} (n : Nat), RvL K H ds vs → RvL K H (ds.eraseIdx n) (vs.eraseIdx n)
  | [], _, n, r => by cases r; exact .nil
  | d :: ds, _, 0, r => by
    cases r with
    | cons a rr => exact rr
  | d :: ds, _, n + 1, r => by
    cases r with
    | cons a rr => exact .cons a (RvL.erase n rr)
theorem RvL.dropLast : ∀ {ds : List D} {vs : List V}, RvL K H ds vs → RvL K H ds.dropLast vs.dropLast := fun {ds vs} r => by
  rw [List.dropLast_eq_take, List.dropLast_eq_take, ← r.length]; exact r.take _
theorem RvL.ints : ∀ (ns : List Int), RvL K H (ns.map D.int) (ns.map V.int)
  | [] => .nil
  | n :: ns => .cons (.int n) (RvL.ints ns)
end
def Ro (K : PySem.W.Frag) (H : Hp) : DO → Addr → Prop
  | .lst xs, a => ∃ vs, H a = some (.lst vs) ∧ RvL K H xs vs
  | .ins C fs, a => ∃ dx vs, H a = some (.ins C dx vs) ∧ fs.map (·.1) = vs.map (·.1) ∧ RvL K H (fs.map (·.2)) (vs.map (·.2))
  | .dct _, _ => False
  | .dset _, _ => False
def Sim (K : PySem.W.Frag) (S : DS) (H : Hp) : Prop := ∀ a o, S a = some o → Ro K H o a
/-- from S, H to S', H': the tuples stand, what the store does not know stands, the store learns of new things alone -/
structure Stp (S : DS) (H : Hp) (S' : DS) (H' : Hp) : Prop where
  tup : ∀ b xs, H b = some (.tup xs) → H' b = some (.tup xs)
  frz : ∀ b o u, H b = some (.frz o u) → H' b = some (.frz o u)
  keep : ∀ b o, S b = none → H b = some o → H' b = some o
  hid : ∀ b, H b ≠ none → S b = none → S' b = none
  live : ∀ b, H b ≠ none → H' b ≠ none
theorem upd_live {H : Hp} {p b : Addr} {o : HO} (h : H b ≠ none) : upd H p o b ≠ none := by
  unfold upd; split <;> simp_all
section
variable {K : PySem.W.Frag} {S S' S1 S2 : DS} {H H' H1 H2 : Hp}
theorem Stp.refl (S : DS) (H : Hp) : Stp S H S H := ⟨fun _ _ h => h, fun _ _ _ h => h, fun _ _ _ h => h, fun _ _ h => h, fun _ h => h⟩
theorem Stp.trans (a : Stp S H S1 H1) (b : Stp S1 H1 S2 H2) : Stp S H S2 H2 :=
  ⟨fun c xs h => b.tup c xs (a.tup c xs h), fun c o u h => b.frz c o u (a.frz c o u h),
   fun c o n h => b.keep c o (a.hid c (by rw [h]; simp) n) (a.keep c o n h),
   fun c h n => b.hid c (by
    cases q : H c with
    | none => exact absurd q h
    | some o => rw [a.keep c o n q]; simp) (a.hid c h n), fun c h => b.live c (a.live c h)⟩
/-- tuples and frozen things stand -/
structure Prs (H H' : Hp) : Prop where
  tup : ∀ b xs, H b = some (.tup xs) → H' b = some (.tup xs)
  frz : ∀ b o u, H b = some (.frz o u) → H' b = some (.frz o u)
theorem Stp.prs (a : Stp S H S' H') : Prs H H' := ⟨a.tup, a.frz⟩
theorem Prs.refl (H : Hp) : Prs H H := ⟨fun _ _ h => h, fun _ _ _ h => h⟩
theorem Prs.trans (a : Prs H H1) (b : Prs H1 H2) : Prs H H2 := ⟨fun c xs h => b.tup c xs (a.tup c xs h), fun c o u h => b.frz c o u (a.frz c o u h)⟩
theorem Prs.updL {p : Addr} {ws us : List V} (h : H p = some (.lst ws)) : Prs H (upd H p (.lst us)) :=
  ⟨fun b xs e => by rw [upd_ne (fun z => by subst z; rw [h] at e; cases e)]; exact e, fun b o u e => by rw [upd_ne (fun z => by subst z; rw [h] at e; cases e)]; exact e⟩
theorem Prs.rv (a : Prs H H') {d : D} {v : V} (h : Rv K H d v) : Rv K H' d v := by
  refine Rv.mono (fun b vs q => ?_) (fun b vs q => ?_) d v h
  · rcases q with (q | ⟨o, q⟩) | q
    · exact .inl (.inl (a.tup _ _ q))
    · exact .inl (.inr ⟨o, a.frz _ _ _ q⟩)
    · exact .inr q
  · rcases q with ⟨o, q⟩ | q
    · exact .inl ⟨o, a.frz _ _ _ q⟩
    · exact .inr q
theorem Prs.rvl (a : Prs H H') : ∀ {ds : List D} {vs : List V}, RvL K H ds vs → RvL K H' ds vs
  | [], _, r => by cases r; exact .nil
  | d :: ds, _, r => by
    cases r with
    | cons q rr => exact .cons (a.rv q) (Prs.rvl a rr)
theorem Prs.sqT (a : Prs H H') {b : Addr} {vs : List V} (q : SqT K H b vs) : SqT K H' b vs := by
  rcases q with (q | ⟨o, q⟩) | q
  · exact .inl (.inl (a.tup _ _ q))
  · exact .inl (.inr ⟨o, a.frz _ _ _ q⟩)
  · exact .inr q
theorem Prs.fqL (a : Prs H H') {b : Addr} {vs : List V} (q : FqL K H b vs) : FqL K H' b vs := by
  rcases q with ⟨o, q⟩ | q
  · exact .inl ⟨o, a.frz _ _ _ q⟩
  · exact .inr q
theorem Stp.sqT (a : Stp S H S' H') {b : Addr} {vs : List V} (h : SqT K H b vs) : SqT K H' b vs := by
  rcases h with (h | ⟨o, h⟩) | h
  · exact .inl (.inl (a.tup _ _ h))
  · exact .inl (.inr ⟨o, a.frz _ _ _ h⟩)
  · exact .inr h
theorem Stp.fqL (a : Stp S H S' H') {b : Addr} {vs : List V} (h : FqL K H b vs) : FqL K H' b vs := by
  rcases h with ⟨o, h⟩ | h
  · exact .inl ⟨o, a.frz _ _ _ h⟩
  · exact .inr h
theorem Stp.rv (a : Stp S H S' H') {d : D} {v : V} (h : Rv K H d v) : Rv K H' d v := Rv.mono (fun _ _ => a.sqT) (fun _ _ => a.fqL) d v h
theorem Stp.rvl (a : Stp S H S' H') {d : List D} {v : List V} (h : RvL K H d v) : RvL K H' d v := RvL.mono (fun _ _ => a.sqT) (fun _ _ => a.fqL) d v h
theorem Stp.ro (a : Stp S H S' H') {o : DO} {b : Addr} (hb : H' b = H b) (h : Ro K H o b) : Ro K H' o b := by
  cases o with
  | lst xs => obtain ⟨vs, e, r⟩ := h; exact ⟨vs, hb.trans e, a.rvl r⟩
  | ins C fs => obtain ⟨dx, vs, e, n, r⟩ := h; exact ⟨dx, vs, hb.trans e, n, a.rvl r⟩
  | dct _ => exact h
  | dset _ => exact h
theorem Ro.some {o : DO} {a : Addr} (h : Ro K H o a) : ∃ u, H a = some u ∧ (∀ xs, u ≠ .tup xs) ∧ ∀ x y, u ≠ .frz x y := by
  cases o with
  | lst xs => obtain ⟨vs, e, r⟩ := h; exact ⟨_, e, (fun _ q => nomatch q), fun _ _ q => nomatch q⟩
  | ins C fs => obtain ⟨dx, vs, e, n, r⟩ := h; exact ⟨_, e, (fun _ q => nomatch q), fun _ _ q => nomatch q⟩
  | dct _ => exact h.elim
  | dset _ => exact h.elim
theorem Sim.fresh (x : Sim K S H) {p : Addr} (h : H p = none) : S p = none := by
  cases q : S p with
  | none => rfl
  | some o =>
    obtain ⟨u, e, _⟩ := (x p o q).some
    rw [h] at e; cases e
/-- something new that the store does not know (a tuple) -/
theorem Stp.laid {p : Addr} {o : HO} (h : H p = none) : Stp S H S (upd H p o) :=
  ⟨fun b xs e => by rw [upd_ne (ne_of_none e h)]; exact e, fun b x u e => by rw [upd_ne (ne_of_none e h)]; exact e,
   fun b x _ e => by rw [upd_ne (ne_of_none e h)]; exact e, fun _ _ n => n, fun _ => upd_live⟩
theorem Sim.laid (x : Sim K S H) {p : Addr} {o : HO} (h : H p = none) : Sim K S (upd H p o) := fun a u e => by
  obtain ⟨z, ez, _⟩ := (x a u e).some
  exact (Stp.laid (S := S) h).ro (upd_ne (ne_of_none ez h)) (x a u e)
/-- something new that the store knows -/
theorem Stp.new {p : Addr} {o : HO} {d : DO} (h : H p = none) : Stp S H (dupd S p d) (upd H p o) :=
  ⟨fun b xs e => by rw [upd_ne (ne_of_none e h)]; exact e, fun b x u e => by rw [upd_ne (ne_of_none e h)]; exact e,
   fun b x _ e => by rw [upd_ne (ne_of_none e h)]; exact e, fun b e n => by
    have hb : b ≠ p := fun z => e (by rw [z]; exact h)
    rw [dupd_ne hb]; exact n, fun _ => upd_live⟩
theorem Sim.new (x : Sim K S H) {p : Addr} {o : HO} {d : DO} (h : H p = none) (r : Ro K (upd H p o) d p) : Sim K (dupd S p d) (upd H p o) := fun a u e => by
  by_cases ha : a = p
  · subst ha; rw [dupd_same] at e; cases e; exact r
  · rw [dupd_ne ha] at e
    exact (Stp.laid (S := S) h).ro (upd_ne ha) (x a u e)
/-- a thing that the store knows is changed -/
theorem Stp.write {a : Addr} {o : HO} {d d0 : DO} (x : Sim K S H) (h : S a = some d0) : Stp S H (dupd S a d) (upd H a o) := by
  obtain ⟨z, ez, n1, n2⟩ := (x a d0 h).some
  refine ⟨fun b xs e => ?_, fun b y u e => ?_, fun b y n e => ?_, fun b e n => ?_, fun _ => upd_live⟩
  · rw [upd_ne (fun q => by subst q; rw [ez] at e; cases e; exact n1 _ rfl)]; exact e
  · rw [upd_ne (fun q => by subst q; rw [ez] at e; cases e; exact n2 _ _ rfl)]; exact e
  · rw [upd_ne (fun q => by subst q; rw [h] at n; cases n)]; exact e
  · rw [dupd_ne (fun q => by subst q; rw [h] at n; cases n)]; exact n
theorem Sim.write {a : Addr} {o : HO} {d d0 : DO} (x : Sim K S H) (h : S a = some d0) (r : Ro K (upd H a o) d a) : Sim K (dupd S a d) (upd H a o) := fun b u e => by
  by_cases hb : b = a
  · subst hb; rw [dupd_same] at e; cases e; exact r
  · rw [dupd_ne hb] at e
    exact (Stp.write (d := d) x h).ro (upd_ne hb) (x b u e)
theorem Sim.lst (x : Sim K S H) {a : Addr} {xs : List D} (h : S a = some (.lst xs)) : ∃ vs, H a = some (.lst vs) ∧ RvL K H xs vs := x a _ h
theorem RvL.upd {a : Addr} {o : HO} {d d0 : DO} {ds : List D} {vs : List V} (x : Sim K S H) (h : S a = some d0) (r : RvL K H ds vs) : RvL K (L2.upd H a o) ds vs := (Stp.write (d := d0) x h).rvl r
end
abbrev Loc := List (Option D)
abbrev DK := D → DS → Prop
abbrev DE := Loc → DS → DK → Prop
abbrev DT := Loc → DS → (Bool → DS → Prop) → Prop
abbrev DA := Loc → DS → (List D → DS → Prop) → Prop
structure DEnds where
  nx : Loc → DS → Prop
  rt : DK
  bk : Loc → DS → Prop
  ct : Loc → DS → Prop
abbrev DSt := DEnds → Loc → DS → Prop
abbrev DR2 := D → D → DS → DK → Prop
abbrev DR1 := D → DS → DK → Prop
abbrev DRs := List D → DS → DK → Prop
abbrev DF := List D → DS → DK → Prop
def Rst (K : PySem.W.Frag) (H : Hp) (δ : Loc) (σ : L2.St) : Prop := δ.length = σ.length ∧ ∀ (i : Nat) (d : D), δ[i]? = some (some d) → ∃ v, σ[i]? = some (some v) ∧ Rv K H d v
theorem Rst.stp {K : PySem.W.Frag} {S S' : DS} {H H' : Hp} {δ : Loc} {σ : L2.St} (r : Rst K H δ σ) (a : Stp S H S' H') : Rst K H' δ σ := ⟨r.1, fun i d e => let ⟨v, h1, h2⟩ := r.2 i d e; ⟨v, h1, a.rv h2⟩⟩
theorem Rst.prs {K : PySem.W.Frag} {H H' : Hp} {δ : Loc} {σ : L2.St} (r : Rst K H δ σ) (a : Prs H H') : Rst K H' δ σ := ⟨r.1, fun i d e => let ⟨v, h1, h2⟩ := r.2 i d e; ⟨v, h1, a.rv h2⟩⟩
theorem Rst.set {K : PySem.W.Frag} {H : Hp} {δ : Loc} {σ : L2.St} {i : Nat} {d : D} {v : V} (r : Rst K H δ σ) (q : Rv K H d v) : Rst K H (δ.set i (some d)) (σ.set i (some v)) := by
  refine ⟨by rw [List.length_set, List.length_set]; exact r.1, fun j e h => ?_⟩
  by_cases hj : i = j
  · subst hj
    by_cases hl : i < δ.length
    · rw [List.getElem?_set_self hl] at h
      simp only [Option.some.injEq] at h
      subst h
      exact ⟨v, List.getElem?_set_self (by rw [← r.1]; exact hl), q⟩
    · rw [List.getElem?_eq_none (by simpa using hl)] at h; cases h
  · rw [List.getElem?_set_ne hj] at h
    obtain ⟨w, h1, h2⟩ := r.2 j e h
    exact ⟨w, by rw [List.getElem?_set_ne hj]; exact h1, h2⟩
def liftE (K : PySem.W.Frag) (t : DE) : TE := fun σ H Q => ∃ δ S Q0, Rst K H δ σ ∧ Sim K S H ∧ t δ S Q0 ∧ ∀ d S' v H', Q0 d S' → Rv K H' d v → Sim K S' H' → Stp S H S' H' → Q v H'
def liftT (K : PySem.W.Frag) (t : DT) : TT := fun σ H Q => ∃ δ S Q0, Rst K H δ σ ∧ Sim K S H ∧ t δ S Q0 ∧ ∀ b S' H', Q0 b S' → Sim K S' H' → Stp S H S' H' → Q b H'
def liftA (K : PySem.W.Frag) (t : DA) : TA := fun σ H Q => ∃ δ S Q0, Rst K H δ σ ∧ Sim K S H ∧ t δ S Q0 ∧ ∀ ds S' vs H', Q0 ds S' → RvL K H' ds vs → Sim K S' H' → Stp S H S' H' → Q vs H'
def liftO (K : PySem.W.Frag) (r : DR2) : R2 := fun x y H Q => ∃ dx dy S Q0, Rv K H dx x ∧ Rv K H dy y ∧ Sim K S H ∧ r dx dy S Q0 ∧ ∀ d S' v H', Q0 d S' → Rv K H' d v → Sim K S' H' → Stp S H S' H' → Q v H'
def liftU (K : PySem.W.Frag) (r : DR1) : V → Hp → VK → Prop := fun x H Q => ∃ dx S Q0, Rv K H dx x ∧ Sim K S H ∧ r dx S Q0 ∧ ∀ d S' v H', Q0 d S' → Rv K H' d v → Sim K S' H' → Stp S H S' H' → Q v H'
def liftC (K : PySem.W.Frag) (r : DRs) : List V → Hp → VK → Prop := fun xs H Q => ∃ ds S Q0, RvL K H ds xs ∧ Sim K S H ∧ r ds S Q0 ∧ ∀ d S' v H', Q0 d S' → Rv K H' d v → Sim K S' H' → Stp S H S' H' → Q v H'
def liftF (K : PySem.W.Frag) (np : Nat) (c : DF) : Sp := fun vs H Q _ => vs.length = np ∧ liftC K c vs H Q
structure Cov (K : PySem.W.Frag) (S : DS) (H : Hp) (D0 : DEnds) (E : L2.Ends) : Prop where
  nx : ∀ δ S' σ H', D0.nx δ S' → Rst K H' δ σ → Sim K S' H' → Stp S H S' H' → E.nx σ H'
  rt : ∀ d S' v H', D0.rt d S' → Rv K H' d v → Sim K S' H' → Stp S H S' H' → E.rt v H'
  bk : ∀ δ S' σ H', D0.bk δ S' → Rst K H' δ σ → Sim K S' H' → Stp S H S' H' → E.bk σ H'
  ct : ∀ δ S' σ H', D0.ct δ S' → Rst K H' δ σ → Sim K S' H' → Stp S H S' H' → E.ct σ H'
theorem Cov.stp {K : PySem.W.Frag} {S S1 : DS} {H H1 : Hp} {D0 : DEnds} {E : L2.Ends} (c : Cov K S H D0 E) (a : Stp S H S1 H1) : Cov K S1 H1 D0 E :=
  ⟨fun δ S' σ H' h r x b => c.nx δ S' σ H' h r x (a.trans b), fun d S' v H' h r x b => c.rt d S' v H' h r x (a.trans b),
   fun δ S' σ H' h r x b => c.bk δ S' σ H' h r x (a.trans b), fun δ S' σ H' h r x b => c.ct δ S' σ H' h r x (a.trans b)⟩
def liftS (K : PySem.W.Frag) (t : DSt) : TS := fun E σ H => ∃ δ S D0, Rst K H δ σ ∧ Sim K S H ∧ t D0 δ S ∧ Cov K S H D0 E
section
variable {X : Cx} {e : Expr} {es : List Expr} {st : Stmt} {sts : List Stmt} {pos : Pos}
theorem PE.imp {t t' : TE} (p : PE X e t) (h : ∀ σ H Q, t' σ H Q → t σ H Q) : PE X e t' := ⟨fun pins s σ H Q I hw => p.run pins s σ H Q I (h _ _ _ hw)⟩
theorem PT.imp {t t' : TT} (p : PT X e t) (h : ∀ σ H Q, t' σ H Q → t σ H Q) : PT X e t' := ⟨fun pins s σ H Q I hw => p.run pins s σ H Q I (h _ _ _ hw)⟩
theorem PW.imp {t t' : TT} (p : PW X e t) (h : ∀ σ H Q, t' σ H Q → t σ H Q) : PW X e t' := ⟨fun wh pins s σ H Q I hw => p.run wh pins s σ H Q I (h _ _ _ hw)⟩
theorem PA.imp {t t' : TA} (p : PA X es t) (h : ∀ σ H Q, t' σ H Q → t σ H Q) : PA X es t' := ⟨fun po pins s σ H Q I hw => p.run po pins s σ H Q I (h _ _ _ hw)⟩
theorem PS.imp {t t' : TS} (p : PS X st t) (h : ∀ E σ H, t' E σ H → t E σ H) : PS X st t' := ⟨fun pins s σ H E I hw => p.run pins s σ H E I (h _ _ _ hw)⟩
theorem PSs.imp {t t' : TS} (p : PSs X sts t) (h : ∀ E σ H, t' E σ H → t E σ H) : PSs X sts t' := ⟨fun pins s σ H E I hw => p.run pins s σ H E I (h _ _ _ hw)⟩
theorem PI.imp {tg : Expr} {t t' : TI} (p : PI X tg e t) (h : ∀ σ H R, t' σ H R → t σ H R) : PI X tg e t' := ⟨fun pins s σ H R I hw => p.run pins s σ H R I (h _ _ _ hw)⟩
def dVar (i : Nat) : DE := fun δ S Q => ∃ d, δ[i]? = some (some d) ∧ Q d S
def dC (d : D) : DE := fun _ S Q => Q d S
def dNil : DA := fun _ S Q => Q [] S
def dCons (a : DE) (r : DA) : DA := fun δ S Q => a δ S fun x S1 => r δ S1 fun xs S2 => Q (x :: xs) S2
def dTup (a : DA) : DE := fun δ S Q => a δ S fun xs S1 => xs.length ≤ 16777216 ∧ Q (.tup xs) S1
def dLst (a : DA) : DE := fun δ S Q => a δ S fun xs S1 => xs.length ≤ 16777216 ∧ ∀ p, S1 p = none → Q (.ref p) (dupd S1 p (.lst xs))
theorem qv (i : Nat) {x : Str} (hN : X.N[i]? = some x := by rfl) (hv : Vis X.env.scope x := by first | exact Or.inl rfl | exact Or.inr (Or.inl rfl) | exact Or.inr (Or.inr rfl)) (hd : (x == ("__debug__" : Str)) = false := by decide)
    (hcd : (x == ("__classdict__" : Str)) = false := by decide) : PE X (.Name x pos) (liftE X.K (dVar i)) :=
  PE.imp (pv i hN hv hd hcd) fun σ H Q ⟨δ, S, Q0, hr, hs, ⟨d, e, h⟩, hq⟩ => by
    obtain ⟨v, h1, h2⟩ := hr.2 i d e
    exact ⟨v, h1, hq d S v H h h2 hs (.refl _ _)⟩
theorem qe_const {d : D} {v : V} {e : Expr} (p : PE X e (tC v)) (hr : ∀ H, Rv X.K H d v) : PE X e (liftE X.K (dC d)) :=
  PE.imp p fun σ H Q ⟨δ, S, Q0, _, hs, h, hq⟩ => hq d S v H h (hr H) hs (.refl _ _)
theorem qi {i : Int} {j} : PE X (.Constant (.int i) j pos) (liftE X.K (dC (.int i))) := qe_const pe_int fun _ => .int _
theorem qb {b : Bool} {j} : PE X (.Constant (.bool b) j pos) (liftE X.K (dC (.bl b))) := qe_const pe_bl fun _ => .bl _
theorem qn {j} : PE X (.Constant .none j pos) (liftE X.K (dC .non)) := qe_const pe_non fun _ => .non
theorem qs {x : Str} {j} : PE X (.Constant (.str x) j pos) (liftE X.K (dC (.str x))) := qe_const pe_str fun _ => .str _
theorem qa_nil : PA X [] (liftA X.K dNil) := PA.imp pa_nil fun σ H Q ⟨δ, S, Q0, _, hs, h, hq⟩ => hq [] S [] H h .nil hs (.refl _ _)
theorem qa_cons {a : DE} {r : DA} (ha : PE X e (liftE X.K a)) (hr : PA X es (liftA X.K r)) (hs : starEach (e :: es) X.env = (false, eval e X.env) :: starEach es X.env := by rfl) : PA X (e :: es) (liftA X.K (dCons a r)) :=
  PA.imp (pa_cons ha hr hs) fun σ H Q ⟨δ, S, Q0, hr, hs, h, hq⟩ =>
    ⟨δ, S, _, hr, hs, h, fun d S1 v H1 h1 r1 s1 a1 => ⟨δ, S1, _, hr.stp a1, s1, h1, fun ds S2 vs H2 h2 r2 s2 a2 => hq _ _ _ _ h2 (.cons (a2.rv r1) r2) s2 (a1.trans a2)⟩⟩
theorem szl : sizeLine = 16777216 := by decide
theorem qe_tup {a : DA} {k} (ha : PA X es (liftA X.K a)) : PE X (.Tuple es k pos) (liftE X.K (dTup a)) :=
  PE.imp (pe_tup ha) fun σ H Q ⟨δ, S, Q0, hr, hs, h, hq⟩ =>
    ⟨δ, S, _, hr, hs, h, fun ds S1 vs H1 ⟨z, h1⟩ r1 s1 a1 => ⟨by rw [← r1.length, szl]; exact z, fun p hp =>
      hq _ _ _ _ h1 (.tup (.inl (.inl upd_same)) ((Stp.laid (S := S1) hp).rvl r1)) (s1.laid hp) (a1.trans (Stp.laid hp))⟩⟩
theorem qe_lst {a : DA} (ha : PA X es (liftA X.K a)) : PE X (.List es pos) (liftE X.K (dLst a)) :=
  PE.imp (pe_lst ha) fun σ H Q ⟨δ, S, Q0, hr, hs, h, hq⟩ =>
    ⟨δ, S, _, hr, hs, h, fun ds S1 vs H1 ⟨z, h1⟩ r1 s1 a1 => ⟨by rw [← r1.length, szl]; exact z, fun p hp =>
      hq _ _ _ _ (h1 p (s1.fresh hp)) (.ref p) (s1.new hp ⟨vs, upd_same, (Stp.laid (S := S1) hp).rvl r1⟩) (a1.trans (Stp.new hp))⟩⟩
def dOp (r : DR2) (a b : DE) : DE := fun δ S Q => a δ S fun x S1 => b δ S1 fun y S2 => r x y S2 Q
def dUn (r : DR1) (a : DE) : DE := fun δ S Q => a δ S fun x S1 => r x S1 Q
theorem lift_op {r : DR2} {ta tb : DE} : ∀ σ H Q, liftE X.K (dOp r ta tb) σ H Q → tOp (liftO X.K r) (liftE X.K ta) (liftE X.K tb) σ H Q :=
  fun σ H Q ⟨δ, S, Q0, hr, hs, h, hq⟩ => ⟨δ, S, _, hr, hs, h, fun x S1 v H1 h1 r1 s1 a1 => ⟨δ, S1, _, hr.stp a1, s1, h1, fun y S2 u H2 h2 r2 s2 a2 =>
    ⟨x, y, S2, _, a2.rv r1, r2, s2, h2, fun d S' v H' q r s a => hq d S' v H' q r s ((a1.trans a2).trans a)⟩⟩⟩
variable {a b c : Expr} {ta tb tc : DE}
theorem qe_op {op : Operator} {r : DR2} (ho : OpR X (binaryOp op) (liftO X.K r)) (ha : PE X a (liftE X.K ta)) (hb : PE X b (liftE X.K tb)) : PE X (.BinOp a op b pos) (liftE X.K (dOp r ta tb)) :=
  PE.imp (pe_op ho ha hb) lift_op
theorem qe_un {op : UnaryOp} {r : DR1} (ho : UnR X (unaryOp op) (liftU X.K r)) (ha : PE X a (liftE X.K ta)) : PE X (.UnaryOp op a pos) (liftE X.K (dUn r ta)) :=
  PE.imp (pe_un ho ha) fun σ H Q ⟨δ, S, Q0, hr, hs, h, hq⟩ => ⟨δ, S, _, hr, hs, h, fun x S1 v H1 h1 r1 s1 a1 =>
    ⟨x, S1, _, r1, s1, h1, fun d S' v H' q r s a => hq d S' v H' q r s (a1.trans a)⟩⟩
theorem qe_cmp {op : CmpOp} {r : DR2} (ho : OpR X (compareOp op) (liftO X.K r)) (ha : PE X a (liftE X.K ta)) (hb : PE X b (liftE X.K tb)) (hm : behindInMarks op b = false) : PE X (.Compare a [op] [b] pos) (liftE X.K (dOp r ta tb)) :=
  PE.imp (pe_cmpR ho ha hb hm) lift_op
/-- a comparison as a test -/
def dTb (t : DE) : DT := fun δ S Q => t δ S fun x S1 => match x with
  | .bl k => Q k S1
  | _ => False
theorem qt_cmp {op : CmpOp} {r : DR2} (ho : OpR X (compareOp op) (liftO X.K r)) (ha : PE X a (liftE X.K ta)) (hb : PE X b (liftE X.K tb)) (hm : behindInMarks op b = false) : PT X (.Compare a [op] [b] pos) (liftT X.K (dTb (dOp r ta tb))) :=
  PT.imp (pt_cmpR ho ha hb hm) fun σ H Q ⟨δ, S, Q0, hr, hs, h, hq⟩ => lift_op σ H _ ⟨δ, S, _, hr, hs, h, fun d S' v H' q r s a => by
    cases d with
    | bl k => cases r; exact ⟨k, rfl, hq k S' H' q s a⟩
    | _ => exact q.elim⟩
/-- any expression whose value is a bool, as a test -/
theorem qt_val {t : DE} (h : PE X e (liftE X.K t)) (he : ∀ whole, isTrue e X.env whole = (do let v ← whole; standAt e.pos; holding [v] (truthy v)) := by intro _; rfl) : PT X e (liftT X.K (dTb t)) :=
  PT.imp (pt_val h he) fun σ H Q ⟨δ, S, Q0, hr, hs, h, hq⟩ => ⟨δ, S, _, hr, hs, h, fun d S' v H' q r s a => by
    cases d with
    | bl k => cases r; exact ⟨k, rfl, hq k S' H' q s a⟩
    | _ => exact q.elim⟩
/-- a < b < c -/
def dChain (r r' : DR2) (a b c : DE) : DE := fun δ S Q => a δ S fun x S1 => b δ S1 fun y S2 => r x y S2 fun z S3 => match z with
  | .bl k => if k = true then c δ S3 fun w S4 => r' y w S4 Q else Q (.bl false) S3
  | _ => False
theorem lift_chain {r r' : DR2} : ∀ σ H Q, liftE X.K (dChain r r' ta tb tc) σ H Q → tChain (liftO X.K r) (liftO X.K r') (liftE X.K ta) (liftE X.K tb) (liftE X.K tc) σ H Q :=
  fun σ H Q ⟨δ, S, Q0, hr, hs, h, hq⟩ => ⟨δ, S, _, hr, hs, h, fun x S1 v H1 h1 r1 s1 a1 => ⟨δ, S1, _, hr.stp a1, s1, h1, fun y S2 u H2 h2 r2 s2 a2 =>
    ⟨x, y, S2, _, a2.rv r1, r2, s2, h2, fun d S3 v3 H3 q3 r3 s3 a3 => by
      cases d with
      | bl k =>
        cases r3
        refine ⟨k, rfl, ?_⟩
        cases k with
        | true =>
          simp only [if_true] at q3 ⊢
          exact ⟨δ, S3, _, hr.stp ((a1.trans a2).trans a3), s3, q3, fun w S4 v4 H4 h4 r4 s4 a4 => ⟨y, w, S4, _, (a3.trans a4).rv r2, r4, s4, h4, fun d S' v H' q r s a => hq d S' v H' q r s ((((a1.trans a2).trans a3).trans a4).trans a)⟩⟩
        | false =>
          simp only [Bool.false_eq_true, if_false] at q3 ⊢
          exact hq _ _ _ _ q3 (.bl false) s3 ((a1.trans a2).trans a3)
      | _ => exact q3.elim⟩⟩⟩
def dAnd (t u : DT) : DT := fun δ S Q => t δ S fun c S1 => if c = true then u δ S1 Q else Q false S1
def dOr (t u : DT) : DT := fun δ S Q => t δ S fun c S1 => if c = true then Q true S1 else u δ S1 Q
def dNot (t : DT) : DT := fun δ S Q => t δ S fun c S1 => Q (!c) S1
variable {t u : DT} {rest : List Expr}
theorem qw_and1 (ha : PT X a (liftT X.K t)) : PW X (.BoolOp .And [a] pos) (liftT X.K t) := pw_and1 ha
theorem qw_or1 (ha : PT X a (liftT X.K t)) : PW X (.BoolOp .Or [a] pos) (liftT X.K t) := pw_or1 ha
theorem qw_and (ha : PT X a (liftT X.K t)) (hb : PW X (.BoolOp .And (b :: rest) pos) (liftT X.K u)) : PW X (.BoolOp .And (a :: b :: rest) pos) (liftT X.K (dAnd t u)) :=
  PW.imp (pw_and ha hb) fun σ H Q ⟨δ, S, Q0, hr, hs, h, hq⟩ => ⟨δ, S, _, hr, hs, h, fun k S1 H1 h1 s1 a1 => by
    cases k with
    | true => rw [if_pos rfl] at h1 ⊢; exact ⟨δ, S1, _, hr.stp a1, s1, h1, fun k S2 H2 h2 s2 a2 => hq k S2 H2 h2 s2 (a1.trans a2)⟩
    | false => rw [if_neg Bool.false_ne_true] at h1 ⊢; exact hq _ _ _ h1 s1 a1⟩
theorem qw_or (ha : PT X a (liftT X.K t)) (hb : PW X (.BoolOp .Or (b :: rest) pos) (liftT X.K u)) : PW X (.BoolOp .Or (a :: b :: rest) pos) (liftT X.K (dOr t u)) :=
  PW.imp (pw_or ha hb) fun σ H Q ⟨δ, S, Q0, hr, hs, h, hq⟩ => ⟨δ, S, _, hr, hs, h, fun k S1 H1 h1 s1 a1 => by
    cases k with
    | false => rw [if_neg Bool.false_ne_true] at h1 ⊢; exact ⟨δ, S1, _, hr.stp a1, s1, h1, fun k S2 H2 h2 s2 a2 => hq k S2 H2 h2 s2 (a1.trans a2)⟩
    | true => rw [if_pos rfl] at h1 ⊢; exact hq _ _ _ h1 s1 a1⟩
theorem qt_w (h : PW X e (liftT X.K t)) : PT X e (liftT X.K t) := h.pt
theorem qt_not (ha : PT X a (liftT X.K t)) : PT X (.UnaryOp .Not a pos) (liftT X.K (dNot t)) :=
  PT.imp (pt_not ha) fun σ H Q ⟨δ, S, Q0, hr, hs, h, hq⟩ => ⟨δ, S, _, hr, hs, h, fun k S1 H1 h1 s1 a1 => hq _ _ _ h1 s1 a1⟩
/-- and, or, not as values (of bools) -/
def dAndV (a b : DE) : DE := fun δ S Q => a δ S fun x S1 => match x with
  | .bl c => if c = true then b δ S1 Q else Q (.bl false) S1
  | _ => False
def dOrV (a b : DE) : DE := fun δ S Q => a δ S fun x S1 => match x with
  | .bl c => if c = true then Q (.bl true) S1 else b δ S1 Q
  | _ => False
def dNotV (a : DE) : DE := fun δ S Q => a δ S fun x S1 => match x with
  | .bl c => Q (.bl (!c)) S1
  | _ => False
theorem qe_one {op} {t : DE} (h : PE X a (liftE X.K t)) : PE X (.BoolOp op [a] pos) (liftE X.K t) := pe_one h
theorem qe_and (ha : PE X a (liftE X.K ta)) (hb : PE X (.BoolOp .And (b :: rest) pos) (liftE X.K tb)) : PE X (.BoolOp .And (a :: b :: rest) pos) (liftE X.K (dAndV ta tb)) :=
  PE.imp (pe_and ha hb) fun σ H Q ⟨δ, S, Q0, hr, hs, h, hq⟩ => ⟨δ, S, _, hr, hs, h, fun k S1 v H1 h1 r1 s1 a1 => by
    cases k with
    | bl k =>
      cases r1
      refine ⟨k, rfl, ?_⟩
      cases k with
      | true => simp only [if_true] at h1 ⊢; exact ⟨δ, S1, _, hr.stp a1, s1, h1, fun k S2 v H2 h2 r2 s2 a2 => hq k S2 v H2 h2 r2 s2 (a1.trans a2)⟩
      | false => rw [if_neg Bool.false_ne_true]; simp only [Bool.false_eq_true, if_false] at h1; exact hq _ _ _ _ h1 (.bl _) s1 a1
    | _ => exact h1.elim⟩
theorem qe_or (ha : PE X a (liftE X.K ta)) (hb : PE X (.BoolOp .Or (b :: rest) pos) (liftE X.K tb)) : PE X (.BoolOp .Or (a :: b :: rest) pos) (liftE X.K (dOrV ta tb)) :=
  PE.imp (pe_or ha hb) fun σ H Q ⟨δ, S, Q0, hr, hs, h, hq⟩ => ⟨δ, S, _, hr, hs, h, fun k S1 v H1 h1 r1 s1 a1 => by
    cases k with
    | bl k =>
      cases r1
      refine ⟨k, rfl, ?_⟩
      cases k with
      | false => rw [if_neg Bool.false_ne_true]; simp only [Bool.false_eq_true, if_false] at h1; exact ⟨δ, S1, _, hr.stp a1, s1, h1, fun k S2 v H2 h2 r2 s2 a2 => hq k S2 v H2 h2 r2 s2 (a1.trans a2)⟩
      | true => simp only [if_true] at h1 ⊢; exact hq _ _ _ _ h1 (.bl _) s1 a1
    | _ => exact h1.elim⟩
theorem qe_not (ha : PE X a (liftE X.K ta)) : PE X (.UnaryOp .Not a pos) (liftE X.K (dNotV ta)) :=
  PE.imp (pe_not ha) fun σ H Q ⟨δ, S, Q0, hr, hs, h, hq⟩ => ⟨δ, S, _, hr, hs, h, fun k S1 v H1 h1 r1 s1 a1 => by
    cases k with
    | bl k => cases r1; exact ⟨k, rfl, hq _ _ _ _ h1 (.bl _) s1 a1⟩
    | _ => exact h1.elim⟩
def dIfE (t : DT) (a b : DE) : DE := fun δ S Q => t δ S fun c S1 => if c = true then a δ S1 Q else b δ S1 Q
theorem qe_if (hc : PT X c (liftT X.K t)) (ha : PE X a (liftE X.K ta)) (hb : PE X b (liftE X.K tb)) : PE X (.IfExp c a b pos) (liftE X.K (dIfE t ta tb)) :=
  PE.imp (pe_ifExp hc ha hb) fun σ H Q ⟨δ, S, Q0, hr, hs, h, hq⟩ => ⟨δ, S, _, hr, hs, h, fun k S1 H1 h1 s1 a1 => by
    cases k with
    | true => rw [if_pos rfl] at h1 ⊢; exact ⟨δ, S1, _, hr.stp a1, s1, h1, fun k S2 v H2 h2 r2 s2 a2 => hq k S2 v H2 h2 r2 s2 (a1.trans a2)⟩
    | false => rw [if_neg Bool.false_ne_true] at h1 ⊢; exact ⟨δ, S1, _, hr.stp a1, s1, h1, fun k S2 v H2 h2 r2 s2 a2 => hq k S2 v H2 h2 r2 s2 (a1.trans a2)⟩⟩
end
section
variable {X : Cx} {e : Expr} {st : Stmt} {sts : List Stmt} {pos : Pos} {t u : DSt} {te : DE}
def dNext : DSt := fun D δ S => D.nx δ S
def dSeq (t u : DSt) : DSt := fun D δ S => t { D with nx := fun δ S => u D δ S } δ S
def dBreak : DSt := fun D δ S => D.bk δ S
def dCont : DSt := fun D δ S => D.ct δ S
def dDrop (te : DE) : DSt := fun D δ S => te δ S fun _ S1 => D.nx δ S1
def dRet (te : DE) : DSt := fun D δ S => te δ S D.rt
def dRetN : DSt := fun D _ S => D.rt .non S
def dIf (c : DT) (t u : DSt) : DSt := fun D δ S => c δ S fun b S1 => if b = true then t D δ S1 else u D δ S1
def dNever : DSt := fun _ _ _ => False
theorem qss_nil : PSs X [] (liftS X.K dNext) := PSs.imp pss_nil fun E σ H ⟨δ, S, D0, hr, hs, h, cv⟩ => cv.nx δ S σ H h hr hs (.refl _ _)
theorem qss_cons (h1 : PS X st (liftS X.K t)) (h2 : PSs X sts (liftS X.K u)) : PSs X (st :: sts) (liftS X.K (dSeq t u)) :=
  PSs.imp (pss_cons h1 h2) fun E σ H ⟨δ, S, D0, hr, hs, h, cv⟩ => ⟨δ, S, _, hr, hs, h, ⟨fun δ' S' σ' H' h r s a => ⟨δ', S', D0, r, s, h, cv.stp a⟩, cv.rt, cv.bk, cv.ct⟩⟩
theorem qss_one (h1 : PS X st (liftS X.K t)) : PSs X [st] (liftS X.K t) := pss_one h1
theorem qs_pass : PS X (.Pass pos) (liftS X.K dNext) := PS.imp ps_pass fun E σ H ⟨δ, S, D0, hr, hs, h, cv⟩ => cv.nx δ S σ H h hr hs (.refl _ _)
theorem qs_break : PS X (.Break pos) (liftS X.K dBreak) := PS.imp ps_break fun E σ H ⟨δ, S, D0, hr, hs, h, cv⟩ => cv.bk δ S σ H h hr hs (.refl _ _)
theorem qs_cont : PS X (.Continue pos) (liftS X.K dCont) := PS.imp ps_continue fun E σ H ⟨δ, S, D0, hr, hs, h, cv⟩ => cv.ct δ S σ H h hr hs (.refl _ _)
theorem qs_expr (he : PE X e (liftE X.K te)) (hs : swapsWith e none pos.line X.env = pure false := by rfl) : PS X (.Expr e pos) (liftS X.K (dDrop te)) :=
  PS.imp (ps_expr he hs) fun E σ H ⟨δ, S, D0, hr, hs, h, cv⟩ => ⟨δ, S, _, hr, hs, h, fun d S' v H' q r s a => cv.nx δ S' σ H' q (hr.stp a) s a⟩
theorem qs_ret (he : PE X e (liftE X.K te)) : PS X (.Return (some e) pos) (liftS X.K (dRet te)) :=
  PS.imp (ps_ret he) fun E σ H ⟨δ, S, D0, hr, hs, h, cv⟩ => ⟨δ, S, _, hr, hs, h, fun d S' v H' q r s a => cv.rt d S' v H' q r s a⟩
theorem qs_retN : PS X (.Return none pos) (liftS X.K dRetN) :=
  PS.imp ps_retN fun E σ H ⟨δ, S, D0, hr, hs, h, cv⟩ => cv.rt _ _ _ _ h .non hs (.refl _ _)
theorem qs_if {c : Expr} {a b : List Stmt} {tc : DT} (hc : PT X c (liftT X.K tc)) (ha : PSs X a (liftS X.K t)) (hb : PSs X b (liftS X.K u)) : PS X (.If c a b pos) (liftS X.K (dIf tc t u)) :=
  PS.imp (ps_if hc ha hb) fun E σ H ⟨δ, S, D0, hr, hs, h, cv⟩ => ⟨δ, S, _, hr, hs, h, fun k S1 H1 h1 s1 a1 => by
    cases k with
    | true => rw [if_pos rfl] at h1 ⊢; exact ⟨δ, S1, D0, hr.stp a1, s1, h1, cv.stp a1⟩
    | false => rw [if_neg Bool.false_ne_true] at h1 ⊢; exact ⟨δ, S1, D0, hr.stp a1, s1, h1, cv.stp a1⟩⟩
theorem qs_never : PS X st (liftS X.K dNever) := PS.imp ps_never fun E σ H ⟨δ, S, D0, _, _, h, _⟩ => h.elim
abbrev DG := D → Loc → DS → (Loc → DS → Prop) → Prop
abbrev DGs := List D → Loc → DS → (Loc → DS → Prop) → Prop
/-- sl: the slots that it may store -/
def liftG (K : PySem.W.Frag) (sl : List Nat) (g : DG) : TG := fun v σ H Q => ∃ d δ S Q0, Rv K H d v ∧ Rst K H δ σ ∧ Sim K S H ∧ g d δ S Q0 ∧
  ∀ δ' S' σ' H', Q0 δ' S' → Rst K H' δ' σ' → σ'.length = σ.length → (∀ i, i ∉ sl → σ'[i]? = σ[i]?) → Sim K S' H' → Stp S H S' H' → Q σ' H'
def liftGs (K : PySem.W.Frag) (sl : List Nat) (g : DGs) : TGs := fun vs σ H Q => ∃ ds δ S Q0, RvL K H ds vs ∧ Rst K H δ σ ∧ Sim K S H ∧ g ds δ S Q0 ∧
  ∀ δ' S' σ' H', Q0 δ' S' → Rst K H' δ' σ' → σ'.length = σ.length → (∀ i, i ∉ sl → σ'[i]? = σ[i]?) → Sim K S' H' → Stp S H S' H' → Q σ' H'
theorem PG.imp {tg : Expr} {g g' : TG} (p : PG X tg g) (h : ∀ v σ H Q, g' v σ H Q → g v σ H Q) : PG X tg g' := ⟨fun pins s σ H v u Q I r hw => p.run pins s σ H v u Q I r (h _ _ _ _ hw)⟩
theorem PGs.imp {tg : List Expr} {g g' : TGs} (p : PGs X tg g) (h : ∀ v σ H Q, g' v σ H Q → g v σ H Q) : PGs X tg g' := ⟨fun pins s σ H v u Q I r hw => p.run pins s σ H v u Q I r (h _ _ _ _ hw)⟩
def dgName (i : Nat) : DG := fun d δ S Q => Q (δ.set i (some d)) S
def dgNil : DGs := fun ds δ S Q => ds = [] ∧ Q δ S
def dgCons (t : DG) (u : DGs) : DGs := fun ds δ S Q => match ds with
  | d :: r => t d δ S fun δ' S' => u r δ' S' Q
  | [] => False
def dgTup (n : Nat) (t : DGs) : DG := fun d δ S Q => match d with
  | .tup xs => xs.length = n ∧ t xs δ S Q
  | _ => False
theorem qg_name {i : Nat} {x : Str} (hN : X.N.Nodup) (hi : X.N[i]? = some x) (hx : L2.Loc X.env.scope x) (hf : X.fn x = true ∨ X.env.scope.names.lookup x = some .local := by first | exact .inl rfl | exact .inr rfl | assumption) : PG X (.Name x pos) (liftG X.K [i] (dgName i)) :=
  PG.imp (pg_name hN hi hx hf) fun v σ H Q ⟨d, δ, S, Q0, rv, rst, sim, h, hq⟩ => hq _ S _ H h (rst.set rv) (List.length_set ..) (fun j hj => List.getElem?_set_ne (fun z => hj (by rw [z]; exact List.mem_singleton.mpr rfl))) sim (.refl _ _)
theorem qgs_nil : PGs X [] (liftGs X.K [] dgNil) :=
  PGs.imp pgs_nil fun vs σ H Q ⟨ds, δ, S, Q0, rv, rst, sim, ⟨e, h⟩, hq⟩ => by
    subst e
    cases rv
    exact ⟨rfl, hq _ S _ H h rst rfl (fun _ _ => rfl) sim (.refl _ _)⟩
theorem qgs_cons {e : Expr} {es : List Expr} {g : DG} {u : DGs} {sl sm : List Nat} (h1 : PG X e (liftG X.K sl g)) (h2 : PGs X es (liftGs X.K sm u))
    (hs : (assignEach (e :: es) X.env).map (·.2) = assign e X.env :: (assignEach es X.env).map (·.2) := by rfl) : PGs X (e :: es) (liftGs X.K (sl ++ sm) (dgCons g u)) :=
  PGs.imp (pgs_cons h1 h2 hs) fun vs σ H Q ⟨ds, δ, S, Q0, rv, rst, sim, h, hq⟩ => by
    cases ds with
    | nil => exact h.elim
    | cons d r =>
      cases rv with
      | cons rd rr =>
        refine ⟨_, _, rfl, d, δ, S, _, rd, rst, sim, h, fun δ1 S1 σ1 H1 q1 r1 l1 n1 s1 a1 => ⟨r, δ1, S1, _, a1.rvl rr, r1, s1, q1, fun δ2 S2 σ2 H2 q2 r2 l2 n2 s2 a2 => ?_⟩⟩
        exact hq δ2 S2 σ2 H2 q2 r2 (l2.trans l1) (fun i hi => (n2 i fun z => hi (List.mem_append_right _ z)).trans (n1 i fun z => hi (List.mem_append_left _ z))) s2 (a1.trans a2)
theorem qg_tup {es : List Expr} {k : Nat} {g : DGs} {n : Nat} {sl : List Nat} (hc : X.calm = true) (h : PGs X es (liftGs X.K sl g))
    (hn : (assignEach es X.env).length = n := by rfl) (hst : (assignEach es X.env).findIdx? (·.1) = none := by rfl) : PG X (.Tuple es k pos) (liftG X.K sl (dgTup n g)) :=
  PG.imp (pg_tup hc h hn hst) fun v σ H Q ⟨d, δ, S, Q0, rv, rst, sim, h, hq⟩ => by
    cases d with
    | tup xs =>
      cases rv with
      | tup hs rl => exact ⟨_, _, rfl, hs, by rw [← rl.length]; exact h.1, xs, δ, S, Q0, rl, rst, sim, h.2, hq⟩
    | _ => exact h.elim
def dAsg (te : DE) (g : DG) : DSt := fun D δ S => te δ S fun x S1 => g x δ S1 D.nx
theorem lift_asg {g : DG} {sl : List Nat} : ∀ E σ H, liftS X.K (dAsg te g) E σ H → tAsg (liftE X.K te) (liftG X.K sl g) E σ H :=
  fun E σ H ⟨δ, S, D0, hr, hs, h, cv⟩ => ⟨δ, S, _, hr, hs, h, fun d S1 v H1 h1 r1 s1 a1 => ⟨d, δ, S1, _, r1, hr.stp a1, s1, h1, fun δ' S' σ' H' q r _ _ s a => cv.nx δ' S' σ' H' q r s (a1.trans a)⟩⟩
theorem qs_asg {tg e : Expr} {g : DG} {sl : List Nat} (he : PE X e (liftE X.K te)) (hg : PG X tg (liftG X.K sl g)) (hs : swapsWithSole [tg] e pos.line X.env = pure false := by rfl) (hw : swappedStores [tg] e X.env = pure none := by rfl)
    (h1 : (assignEach [tg] X.env).map (·.2) = [assign tg X.env] := by rfl) : PS X (.Assign [tg] e pos) (liftS X.K (dAsg te g)) := PS.imp (ps_asg he hg hs hw h1) lift_asg
theorem qs_set {i : Nat} {x : Str} {e : Expr} {pos' : Pos} (hN : X.N.Nodup) (hi : X.N[i]? = some x) (hx : L2.Loc X.env.scope x) (he : PE X e (liftE X.K te)) (hs : swapsWith e (some (.Name x pos')) pos.line X.env = pure false := by rfl)
    (hf : X.fn x = true ∨ X.env.scope.names.lookup x = some .local := by first | exact .inl rfl | exact .inr rfl | assumption) : PS X (.Assign [.Name x pos'] e pos) (liftS X.K (dAsg te (dgName i))) :=
  PS.imp (ps_set hN hi hx he hs hf) fun E σ H ⟨δ, S, D0, hr, hs, h, cv⟩ => ⟨δ, S, _, hr, hs, h, fun d S1 v H1 h1 r1 s1 a1 => cv.nx _ S1 _ H1 h1 ((hr.stp a1).set r1) s1 a1⟩
def dAug (i : Nat) (te : DE) (r : DR2) : DSt := fun D δ S => ∃ x, δ[i]? = some (some x) ∧ te δ S fun y S1 => r x y S1 fun z S2 => D.nx (δ.set i (some z)) S2
theorem qs_aug {i : Nat} {x : Str} {e : Expr} {op : Operator} {r : DR2} {pos' : Pos} (hN : X.N.Nodup) (hi : X.N[i]? = some x) (hx : L2.Loc X.env.scope x) (he : PE X e (liftE X.K te)) (ho : OpR X (inplaceOp op) (liftO X.K r))
    (hf : X.fn x = true ∨ X.env.scope.names.lookup x = some .local := by first | exact .inl rfl | exact .inr rfl | assumption) : PS X (.AugAssign (.Name x pos') op e pos) (liftS X.K (dAug i te r)) :=
  PS.imp (ps_aug (ti := liftO X.K r) hN hi hx he ho hf) fun E σ H ⟨δ, S, D0, hr, hs, ⟨d, e, h⟩, cv⟩ => by
    obtain ⟨v, h1, h2⟩ := hr.2 i d e
    exact ⟨v, h1, δ, S, _, hr, hs, h, fun y S1 u H1 q1 r1 s1 a1 => ⟨d, y, S1, _, a1.rv h2, r1, s1, q1, fun z S2 w H2 q2 r2 s2 a2 => cv.nx _ S2 _ H2 q2 ((hr.stp (a1.trans a2)).set r2) s2 (a1.trans a2)⟩⟩
/-- o[i] = v, by values -/
abbrev DSet := D → D → D → DS → (DS → Prop) → Prop
def liftSet (K : PySem.W.Frag) (r : DSet) : TSet := fun o i v H Q => ∃ od i_d vd S Q0, Rv K H od o ∧ Rv K H i_d i ∧ Rv K H vd v ∧ Sim K S H ∧ r od i_d vd S Q0 ∧ ∀ S' H', Q0 S' → Sim K S' H' → Stp S H S' H' → Q H'
def dgSub (to ti : DE) (r : DSet) : DG := fun v δ S Q => to δ S fun o S1 => ti δ S1 fun i S2 => r o i v S2 fun S3 => Q δ S3
theorem qg_sub {o i : Expr} {to ti : DE} {r : DSet} (ho : PE X o (liftE X.K to)) (hi : PE X i (liftE X.K ti)) (hs : PSet X (liftSet X.K r))
    (ha : ∀ v, assign (.Subscript o i pos) X.env v = (do
      let ov ← holding [v] (eval o X.env)
      let iv ← holding [v, ov] (eval i X.env)
      standAt pos
      holding [v, ov, iv] (setItem ov iv v)
      release [v, ov, iv] []) := by intro _; rfl) : PG X (.Subscript o i pos) (liftG X.K [] (dgSub to ti r)) :=
  PG.imp (pg_sub ho hi hs ha) fun v σ H Q ⟨d, δ, S, Q0, rv, rst, sim, h, hq⟩ => ⟨δ, S, _, rst, sim, h, fun x S1 vx H1 h1 r1 s1 a1 => ⟨δ, S1, _, rst.stp a1, s1, h1, fun y S2 vy H2 h2 r2 s2 a2 =>
    ⟨x, y, d, S2, _, a2.rv r1, r2, (a1.trans a2).rv rv, s2, h2, fun S3 H3 q3 s3 a3 => hq _ S3 _ H3 q3 (rst.stp ((a1.trans a2).trans a3)) rfl (fun _ _ => rfl) s3 ((a1.trans a2).trans a3)⟩⟩⟩
/-- o[i] op= e -/
def dAugS (to ti te : DE) (rg rp : DR2) (rs : DSet) : DSt := fun D δ S => to δ S fun o S1 => ti δ S1 fun i S2 => rg o i S2 fun x S3 => te δ S3 fun y S4 => rp x y S4 fun z S5 => rs o i z S5 fun S6 => D.nx δ S6
theorem qs_augS {o i e : Expr} {to ti : DE} {rg rp : DR2} {rs : DSet} {op : Operator} {tpos : Pos} (ho : PE X o (liftE X.K to)) (hi : PE X i (liftE X.K ti)) (hg : PGet X (liftO X.K rg)) (he : PE X e (liftE X.K te)) (hp : OpR X (inplaceOp op) (liftO X.K rp)) (hs : PSet X (liftSet X.K rs))
    (ha : ∀ ov iv new, augStore i ov iv new = (do holding [new, ov, iv] (setItem ov iv new); release [new, ov, iv] []; pure .next) := by intros; rfl) : PS X (.AugAssign (.Subscript o i tpos) op e pos) (liftS X.K (dAugS to ti te rg rp rs)) :=
  PS.imp (ps_augS ho hi hg he hp hs ha) fun E σ H ⟨δ, S, D0, hr, hs, h, cv⟩ => ⟨δ, S, _, hr, hs, h, fun x1 S1 v1 H1 h1 r1 s1 a1 => ⟨δ, S1, _, hr.stp a1, s1, h1, fun x2 S2 v2 H2 h2 r2 s2 a2 =>
    ⟨x1, x2, S2, _, a2.rv r1, r2, s2, h2, fun x3 S3 v3 H3 h3 r3 s3 a3 => ⟨δ, S3, _, hr.stp ((a1.trans a2).trans a3), s3, h3, fun x4 S4 v4 H4 h4 r4 s4 a4 =>
      ⟨x3, x4, S4, _, a4.rv r3, r4, s4, h4, fun x5 S5 v5 H5 h5 r5 s5 a5 => ⟨x1, x2, x5, S5, _, (a2.trans ((a3.trans a4).trans a5)).rv r1, ((a3.trans a4).trans a5).rv r2, r5, s5, h5, fun S6 H6 h6 s6 a6 =>
        cv.nx δ S6 σ H6 h6 (hr.stp (((a1.trans a2).trans ((a3.trans a4).trans a5)).trans a6)) s6 (((a1.trans a2).trans ((a3.trans a4).trans a5)).trans a6)⟩⟩⟩⟩⟩⟩
def dWhileN (c : DT) (tb : DSt) : Nat → DSt
  | 0 => fun _ _ _ => False
  | n + 1 => fun D δ S => c δ S fun b S1 => if b = true then tb { nx := fun δ S => dWhileN c tb n D δ S, rt := D.rt, bk := D.nx, ct := fun δ S => dWhileN c tb n D δ S } δ S1 else D.nx δ S1
def dWhile (c : DT) (tb : DSt) : DSt := fun D δ S => ∃ n, dWhileN c tb n D δ S
theorem qs_while {c : Expr} {body : List Stmt} {tc : DT} {tb : DSt} (hp : PassesOwn (model X.prog X.w) X.A X.env X.xe) (hc : PT X c (liftT X.K tc)) (hb : PSs X body (liftS X.K tb)) : PS X (.While c body [] pos) (liftS X.K (dWhile tc tb)) :=
  PS.imp (ps_while hp hc hb) fun E σ H ⟨δ, S, D0, hr, hs, ⟨n, h⟩, cv⟩ => by
    refine ⟨fun m σ' H' => ∃ δ' S', Stp S H S' H' ∧ Rst X.K H' δ' σ' ∧ Sim X.K S' H' ∧ dWhileN tc tb m D0 δ' S', ⟨n, δ, S, .refl _ _, hr, hs, h⟩, ?_⟩
    rintro m σ1 H1 ⟨δ1, S1, a1, r1, s1, h1⟩
    cases m with
    | zero => exact h1.elim
    | succ m =>
      refine ⟨δ1, S1, _, r1, s1, h1, fun b S2 H2 q2 s2 a2 => ?_⟩
      cases b with
      | true =>
        simp only [if_true] at q2 ⊢
        refine ⟨fun σ' H' => ∃ δ' S', Stp S H S' H' ∧ Rst X.K H' δ' σ' ∧ Sim X.K S' H' ∧ dWhileN tc tb m D0 δ' S', fun σ' H' w => ⟨m, Nat.lt_succ_self m, w⟩, ?_⟩
        exact ⟨δ1, S2, _, r1.stp a2, s2, q2, ⟨fun δ' S' σ' H' h r s a => ⟨δ', S', (a1.trans a2).trans a, r, s, h⟩, (cv.stp (a1.trans a2)).rt, (cv.stp (a1.trans a2)).nx, fun δ' S' σ' H' h r s a => ⟨δ', S', (a1.trans a2).trans a, r, s, h⟩⟩⟩
      | false =>
        simp only [Bool.false_eq_true, if_false] at q2 ⊢
        exact cv.nx δ1 S2 σ1 H2 q2 (r1.stp a2) s2 (a1.trans a2)
end
abbrev DI := Loc → DS → (List D → (DS → Prop) → DS → Prop) → Prop
def JOk (K : PySem.W.Frag) (H0 : Hp) (xs : List D) (stay : DS → Prop) (J : It) : Prop :=
  ∀ i S H, Prs H0 H → Sim K S H → stay S → (xs.length ≤ i → J.stop i H) ∧ ∀ d, xs[i]? = some d → J.go i H ∧ ∀ x H', J.yld i H x H' → Rv K H' d x ∧ Sim K S H' ∧ Stp S H S H'
def liftI (K : PySem.W.Frag) (di : DI) : TI := fun σ H R => ∃ δ S Q0, Rst K H δ σ ∧ Sim K S H ∧ di δ S Q0 ∧ ∀ xs stay S' H' J, Q0 xs stay S' → Sim K S' H' → Stp S H S' H' → JOk K H' xs stay J → R J H'
def forT (stay : DS → Prop) (g : DG) (tb : DSt) (E : DEnds) : List D → Loc → DS → Prop
  | [], δ, S => stay S ∧ E.nx δ S
  | x :: r, δ, S => stay S ∧ g x δ S fun δ1 S1 => tb { nx := fun δ S => forT stay g tb E r δ S, rt := E.rt, bk := E.nx, ct := fun δ S => forT stay g tb E r δ S } δ1 S1
def dFor (di : DI) (g : DG) (tb : DSt) : DSt := fun D δ S => di δ S fun xs stay S1 => forT stay g tb D xs δ S1
section
variable {X : Cx} {tg iter : Expr} {pos : Pos}
theorem drop_get {α : Type} {xs : List α} {i : Nat} {x : α} {r : List α} (h : xs.drop i = x :: r) : xs[i]? = some x ∧ r = xs.drop (i + 1) ∧ i < xs.length := by
  have hi : i < xs.length := by
    by_cases q : i < xs.length
    · exact q
    · rw [List.drop_eq_nil_of_le (by omega)] at h; cases h
  rw [List.drop_eq_getElem_cons hi] at h
  injection h with h1 h2
  exact ⟨by rw [List.getElem?_eq_getElem hi, h1], h2.symm, hi⟩
theorem qs_for {body : List Stmt} {di : DI} {g : DG} {tb : DSt} {sl : List Nat} (hp : PassesOwn (model X.prog X.w) X.A X.env X.xe) (hc : X.calm = true) (hi : PI X tg iter (liftI X.K di)) (hg : PG X tg (liftG X.K sl g)) (hb : PSs X body (liftS X.K tb))
    (hs : ∀ x, foldedSetIterable iter X.env x = pure x := by intro _; rfl) : PS X (.For tg iter body [] pos) (liftS X.K (dFor di g tb)) :=
  PS.imp (ps_for hp hc hi hg hb hs) fun E σ H ⟨δ, S, D0, hr, hs, h, cv⟩ => by
    refine ⟨δ, S, _, hr, hs, h, fun xs stay S1 H1 J q1 s1 a1 jok => ?_⟩
    refine ⟨fun i m σ' H' => m + i = xs.length ∧ ∃ δ' S', Stp S1 H1 S' H' ∧ Rst X.K H' δ' σ' ∧ Sim X.K S' H' ∧ forT stay g tb D0 (xs.drop i) δ' S', ⟨xs.length, by omega, δ, S1, .refl _ _, hr.stp a1, s1, by simpa using q1⟩, ?_⟩
    rintro i m σ2 H2 ⟨em, δ2, S2, a2, r2, s2, h2⟩
    cases hx : xs.drop i with
    | nil =>
      rw [hx] at h2
      have hl : xs.length ≤ i := List.drop_eq_nil_iff.mp hx
      exact .inl ⟨(jok i S2 H2 a2.prs s2 h2.1).1 hl, cv.nx δ2 S2 σ2 H2 h2.2 r2 s2 (a1.trans a2)⟩
    | cons x r =>
      rw [hx] at h2
      obtain ⟨hg1, hr1, hl⟩ := drop_get hx
      obtain ⟨hgo, hy⟩ := (jok i S2 H2 a2.prs s2 h2.1).2 x hg1
      refine .inr ⟨hgo, fun σ' H' => ∃ δ' S', Stp S1 H1 S' H' ∧ Rst X.K H' δ' σ' ∧ Sim X.K S' H' ∧ forT stay g tb D0 r δ' S', fun σ' H' ⟨δ', S', a', r', s', h'⟩ => ⟨m - 1, by omega, by omega, δ', S', a', r', s', by rw [← hr1]; exact h'⟩, fun x' H' y => ?_⟩
      obtain ⟨rx, sx, ax⟩ := hy x' H' y
      refine ⟨x, δ2, S2, _, rx, r2.stp ax, sx, h2.2, fun δ3 S3 σ3 H3 q3 r3 _ _ s3 a3 => ⟨δ3, S3, _, r3, s3, q3, ?_⟩⟩
      have ac := (a2.trans ax).trans a3
      exact ⟨fun δ' S' σ' H' h r s a => ⟨δ', S', ac.trans a, r, s, h⟩, (cv.stp (a1.trans ac)).rt, (cv.stp (a1.trans ac)).nx, fun δ' S' σ' H' h r s a => ⟨δ', S', ac.trans a, r, s, h⟩⟩
def dwipe (δ : Loc) : List Nat → Loc
  | [] => δ
  | v :: vs => (dwipe δ vs).set v none
theorem dwipe_some {δ : Loc} {i : Nat} {d : D} : ∀ {vs : List Nat}, (dwipe δ vs)[i]? = some (some d) → δ[i]? = some (some d) ∧ i ∉ vs
  | [], h => ⟨h, by simp⟩
  | v :: vs, h => by
    unfold dwipe at h
    by_cases hi : v = i
    · subst hi
      by_cases hv : v < (dwipe δ vs).length
      · rw [List.getElem?_set_self hv] at h; cases h
      · rw [List.getElem?_eq_none (by simpa using hv)] at h; cases h
    · rw [List.getElem?_set_ne hi] at h
      obtain ⟨h1, h2⟩ := dwipe_some h
      exact ⟨h1, by simp only [List.mem_cons, not_or]; exact ⟨fun e => hi e.symm, h2⟩⟩
theorem dwipe_length (δ : Loc) : ∀ vs : List Nat, (dwipe δ vs).length = δ.length
  | [] => rfl
  | v :: vs => by unfold dwipe; rw [List.length_set, dwipe_length δ vs]
theorem wipe_in {σ : L2.St} {i : Nat} : ∀ {vs : List Nat}, i ∈ vs → i < σ.length → (wipe σ vs)[i]? = some none
  | [], h, _ => by cases h
  | v :: vs, h, hl => by
    unfold wipe
    by_cases hi : v = i
    · subst hi
      exact List.getElem?_set_self (by rw [wipe_length]; exact hl)
    · rw [List.getElem?_set_ne hi]
      exact wipe_in (by rcases List.mem_cons.mp h with z | z; exact absurd z.symm hi; exact z) hl
theorem Rst.wipe {K : PySem.W.Frag} {H : Hp} {δ : Loc} {σ : L2.St} {vs : List Nat} (r : Rst K H δ σ) : Rst K H (dwipe δ vs) (L2.wipe σ vs) := by
  refine ⟨by rw [dwipe_length, wipe_length]; exact r.1, fun i d h => ?_⟩
  obtain ⟨h1, h2⟩ := dwipe_some h
  obtain ⟨v, h3, h4⟩ := r.2 i d h1
  exact ⟨v, by rw [wipe_out h2]; exact h3, h4⟩
theorem wipe_same {σ τ : L2.St} {sl vs : List Nat} (hl : τ.length = σ.length) (h : ∀ i, i ∉ sl → τ[i]? = (wipe σ vs)[i]?) (hs : ∀ i ∈ sl, i ∈ vs) : wipe τ vs = wipe σ vs := by
  apply List.ext_getElem?
  intro i
  by_cases hi : i ∈ vs
  · by_cases hlt : i < σ.length
    · rw [wipe_in hi (by omega), wipe_in hi hlt]
    · rw [List.getElem?_eq_none (by rw [wipe_length]; omega), List.getElem?_eq_none (by rw [wipe_length]; omega)]
  · rw [wipe_out hi, h i fun z => hi (hs i z)]
def lcT (stay : DS → Prop) (g : DG) (tt : DT) (te : DE) (δ : Loc) (K : List D → DS → Prop) : List D → List D → DS → Prop
  | [], acc, S => stay S ∧ K acc S
  | x :: r, acc, S => stay S ∧ g x δ S fun δ2 S2 => tt δ2 S2 fun b S3 => if b = true then te δ2 S3 fun y S4 => acc.length < 16777216 ∧ lcT stay g tt te δ K r (acc ++ [y]) S4 else lcT stay g tt te δ K r acc S3
def dLc (di : DI) (g : DG) (tt : DT) (te : DE) (vs : List Nat) : DE := fun δ S Q => di δ S fun xs stay S1 => lcT stay g tt te (dwipe δ vs) (fun ys S2 => ∀ p, S2 p = none → Q (.ref p) (dupd S2 p (.lst ys))) xs [] S1
theorem Stp.updD {S0 S : DS} {H0 H : Hp} {p : Addr} {o : HO} (a : Stp S0 H0 S H) (h : H0 p = none) : Stp S0 H0 S (L2.upd H p o) :=
  ⟨fun b xs e => by rw [upd_ne (ne_of_none e h)]; exact a.tup b xs e, fun b x u e => by rw [upd_ne (ne_of_none e h)]; exact a.frz b x u e,
   fun b x n e => by rw [upd_ne (ne_of_none e h)]; exact a.keep b x n e, a.hid, fun b e => upd_live (a.live b e)⟩
theorem Stp.newD {S0 S : DS} {H0 H : Hp} {p : Addr} {d : DO} (a : Stp S0 H0 S H) (h : H0 p = none) : Stp S0 H0 (dupd S p d) H :=
  ⟨a.tup, a.frz, a.keep, fun b e n => by rw [dupd_ne (fun z => e (by rw [z]; exact h))]; exact a.hid b e n, a.live⟩
theorem Rv.updL {K : PySem.W.Frag} {H : Hp} {p : Addr} {ws us : List V} (h : H p = some (.lst ws)) {d : D} {v : V} (r : Rv K H d v) : Rv K (L2.upd H p (.lst us)) d v := by
  refine Rv.mono (fun a vs q => ?_) (fun a vs q => ?_) d v r
  · rcases q with (q | ⟨o, q⟩) | q
    · exact .inl (.inl (by rw [upd_ne (fun z => by subst z; rw [h] at q; cases q)]; exact q))
    · exact .inl (.inr ⟨o, by rw [upd_ne (fun z => by subst z; rw [h] at q; cases q)]; exact q⟩)
    · exact .inr q
  · rcases q with ⟨o, q⟩ | q
    · exact .inl ⟨o, by rw [upd_ne (fun z => by subst z; rw [h] at q; cases q)]; exact q⟩
    · exact .inr q
theorem RvL.updL {K : PySem.W.Frag} {H : Hp} {p : Addr} {ws us : List V} (h : H p = some (.lst ws)) : ∀ {ds : List D} {vs : List V}, RvL K H ds vs → RvL K (L2.upd H p (.lst us)) ds vs
  | [], _, r => by cases r; exact .nil
  | d :: ds, _, r => by
    cases r with
    | cons q rr => exact .cons (q.updL h) (RvL.updL h rr)
theorem Sim.updL {K : PySem.W.Frag} {S : DS} {H : Hp} {p : Addr} {ws us : List V} (x : Sim K S H) (h : H p = some (.lst ws)) (n : S p = none) : Sim K S (L2.upd H p (.lst us)) := fun a o e => by
  have ha : a ≠ p := fun z => by subst z; rw [n] at e; cases e
  cases o with
  | lst xs => obtain ⟨vs, e, r⟩ := x a _ e; exact ⟨vs, (upd_ne ha).trans e, r.updL h⟩
  | ins C fs => obtain ⟨dx, vs, e, z, r⟩ := x a _ e; exact ⟨dx, vs, (upd_ne ha).trans e, z, r.updL h⟩
  | dct _ => exact (x a _ e).elim
  | dset _ => exact (x a _ e).elim
theorem lift_lc {di : DI} {g : DG} {tt : DT} {te : DE} {sl vs : List Nat} (hsl : ∀ i ∈ sl, i ∈ vs) : ∀ σ H Q, liftE X.K (dLc di g tt te vs) σ H Q → tLc (liftI X.K di) (liftG X.K sl g) (liftT X.K tt) (liftE X.K te) vs σ H Q :=
  fun σ H Q ⟨δ, S, Q0, hr, hs, h, hq⟩ => by
    refine ⟨δ, S, _, hr, hs, h, fun xs stay S1 H1 J q1 s1 a1 jok p hp => ?_⟩
    have hp1 : S1 p = none := s1.fresh hp
    let Kd : List D → DS → Prop := fun ys S2 => ∀ p, S2 p = none → Q0 (.ref p) (dupd S2 p (.lst ys))
    refine ⟨fun i m H' => m + i = xs.length ∧ ∃ acc ws S', Stp S1 H1 S' H' ∧ Sim X.K S' H' ∧ S' p = none ∧ H' p = some (.lst ws) ∧ RvL X.K H' acc ws ∧ lcT stay g tt te (dwipe δ vs) Kd (xs.drop i) acc S',
      ⟨xs.length, by omega, [], [], S1, (Stp.refl _ _).updD hp, s1.laid hp, hp1, upd_same, .nil, by simpa using q1⟩, ?_⟩
    rintro i m H2 ⟨em, acc, ws, S2, a2, s2, n2, e2, r2, h2⟩
    cases hx : xs.drop i with
    | nil =>
      rw [hx] at h2
      have hl : xs.length ≤ i := List.drop_eq_nil_iff.mp hx
      refine .inl ⟨(jok i S2 H2 a2.prs s2 h2.1).1 hl, hq _ _ _ _ (h2.2 p n2) (.ref p) (fun a u e => ?_) ((a1.trans a2).newD ?_)⟩
      · by_cases ha : a = p
        · subst ha; rw [dupd_same] at e; cases e; exact ⟨ws, e2, r2⟩
        · rw [dupd_ne ha] at e; exact s2 a u e
      · cases q : H p with
        | none => rfl
        | some o => exact absurd hp (a1.live p (by rw [q]; simp))
    | cons x r =>
      rw [hx] at h2
      obtain ⟨hg1, hr1, hl⟩ := drop_get hx
      obtain ⟨hgo, hy⟩ := (jok i S2 H2 a2.prs s2 h2.1).2 x hg1
      refine .inr ⟨hgo, fun H' => ∃ acc ws S', Stp S1 H1 S' H' ∧ Sim X.K S' H' ∧ S' p = none ∧ H' p = some (.lst ws) ∧ RvL X.K H' acc ws ∧ lcT stay g tt te (dwipe δ vs) Kd r acc S',
        fun H' ⟨acc, ws, S', h1, h2, h3, h4, h5, h6⟩ => ⟨m - 1, by omega, by omega, acc, ws, S', h1, h2, h3, h4, h5, by rw [← hr1]; exact h6⟩, fun x' H' y => ?_⟩
      obtain ⟨rx, sx, ax⟩ := hy x' H' y
      have hrw : Rst X.K H1 (dwipe δ vs) (L2.wipe σ vs) := (hr.stp a1).wipe
      refine ⟨x, _, S2, _, rx, hrw.stp (a2.trans ax), sx, h2.2, fun δ3 S3 σ3 H3 q3 r3 l3 n3 s3 a3 => ⟨wipe_same (by rw [l3, wipe_length]) n3 hsl, δ3, S3, _, r3, s3, q3, fun b S4 H4 q4 s4 a4 => ?_⟩⟩
      have b4 := (ax.trans a3).trans a4
      have n4 : S4 p = none := b4.hid p (by rw [e2]; simp) n2
      have e4 : H4 p = some (.lst ws) := b4.keep p _ n2 e2
      cases b with
      | false =>
        simp only [Bool.false_eq_true, if_false] at q4 ⊢
        exact ⟨acc, ws, S4, a2.trans b4, s4, n4, e4, b4.rvl r2, q4⟩
      | true =>
        simp only [if_true] at q4 ⊢
        refine ⟨δ3, S4, _, r3.stp a4, s4, q4, fun y S5 v H5 ⟨z5, q5⟩ r5 s5 a5 => ?_⟩
        have n5 : S5 p = none := a5.hid p (by rw [e4]; simp) n4
        have e5 : H5 p = some (.lst ws) := a5.keep p _ n4 e4
        have r2' := (b4.trans a5).rvl r2
        refine ⟨ws, e5, by rw [← r2.length, szl]; exact z5, acc ++ [y], ws ++ [v], S5, (a2.trans (b4.trans a5)).updD hp, s5.updL e5 n5, n5, upd_same, (r2'.append (.cons r5 .nil)).updL e5, q5⟩
end
section
variable {X : Cx} {pos : Pos}
def liftTs (K : PySem.W.Frag) (t : DT) : TT := liftT K t
def dYes : DT := fun _ S Q => Q true S
theorem PTs.imp {ifs : List Expr} {t t' : TT} (p : PTs X ifs t) (h : ∀ σ H Q, t' σ H Q → t σ H Q) : PTs X ifs t' := ⟨fun pins s σ H Q I hw => p.run pins s σ H Q I (h _ _ _ hw)⟩
theorem qts_nil : PTs X [] (liftT X.K dYes) := PTs.imp pts_nil fun σ H Q ⟨δ, S, Q0, hr, hs, h, hq⟩ => hq _ _ _ h hs (.refl _ _)
theorem qts_one {c : Expr} {t : DT} (h : PT X c (liftT X.K t)) : PTs X [c] (liftT X.K t) := pts_one h
theorem qe_lc {elt tg iter : Expr} {ifs : List Expr} {scope : Scope} (own : List (Str × Nat)) {di : DI} {g : DG} {tt : DT} {te : DE} {sl : List Nat} (hc : X.calm = true) (hN : X.N.Nodup) (hi : PI X tg iter (liftI X.K di)) (ok : blkC X.N X.env.scope scope own = true)
    (hsl : ∀ i ∈ sl, i ∈ own.map (·.2))
    (hg : ∀ (s : Shared) (H : Hp) (C : Addr) (cl : List (Str × Addr)) (fp : List Addr), PG (X.blk s H scope (compEnvC scope cl C X.env) fp) tg (liftG X.K sl g))
    (ht : ∀ (s : Shared) (H : Hp) (C : Addr) (cl : List (Str × Addr)) (fp : List Addr), PTs (X.blk s H scope (compEnvC scope cl C X.env) fp) ifs (liftT X.K tt))
    (he : ∀ (s : Shared) (H : Hp) (C : Addr) (cl : List (Str × Addr)) (fp : List Addr), PE (X.blk s H scope (compEnvC scope cl C X.env) fp) elt (liftE X.K te)) (hs : ∀ x, foldedSetIterable iter X.env x = pure x := by intro _; rfl) :
    PE X (.ListComp elt [⟨tg, iter, ifs, 0⟩] scope pos) (liftE X.K (dLc di g tt te (own.map (·.2)))) := PE.imp (pe_lc hc hN hi (blkOk_by ok) hg ht he hs) (lift_lc hsl)
theorem qs_setLc {i : Nat} {y : Str} {py spos : Pos} {elt tg iter : Expr} {ifs : List Expr} {scope : Scope} (own : List (Str × Nat)) {di : DI} {g : DG} {tt : DT} {te : DE} {sl : List Nat} (hc : X.calm = true) (hN : X.N.Nodup) (hy : X.N[i]? = some y) (hyl : X.env.scope.names.lookup y = some .local)
    (hsw : swapsWith (.ListComp elt [⟨tg, iter, ifs, 0⟩] scope pos) (some (.Name y py)) spos.line X.env = pure true) (hi : PI X tg iter (liftI X.K di)) (ok : blkC X.N X.env.scope scope own = true)
    (hsl : ∀ i ∈ sl, i ∈ own.map (·.2))
    (hg : ∀ (s : Shared) (H : Hp) (C : Addr) (cl : List (Str × Addr)) (fp : List Addr), PG (X.blk s H scope (compEnvC scope cl C X.env) fp) tg (liftG X.K sl g))
    (ht : ∀ (s : Shared) (H : Hp) (C : Addr) (cl : List (Str × Addr)) (fp : List Addr), PTs (X.blk s H scope (compEnvC scope cl C X.env) fp) ifs (liftT X.K tt))
    (he : ∀ (s : Shared) (H : Hp) (C : Addr) (cl : List (Str × Addr)) (fp : List Addr), PE (X.blk s H scope (compEnvC scope cl C X.env) fp) elt (liftE X.K te)) (hs : ∀ x, foldedSetIterable iter X.env x = pure x := by intro _; rfl) :
    PS X (.Assign [.Name y py] (.ListComp elt [⟨tg, iter, ifs, 0⟩] scope pos) spos) (liftS X.K (dAsg (dLc di g tt te (own.map (·.2))) (dgName i))) :=
  PS.imp (ps_setLc hc hN hy hyl hsw hi (blkOk_by ok) hg ht he hs) fun E σ H ⟨δ, S, D0, hr, hsim, h, cv⟩ =>
    lift_lc hsl σ H _ ⟨δ, S, _, hr, hsim, h, fun d S1 v H1 h1 r1 s1 a1 => cv.nx _ S1 _ H1 h1 ((hr.stp a1).set r1) s1 a1⟩
/-- two clauses -/
def lcT2 (stay : DS → Prop) (g : DG) (tt : DT) (di1 : DI) (g1 : DG) (tt1 : DT) (te : DE) (δ : Loc) (vs1 : List Nat) (K : List D → DS → Prop) : List D → List D → DS → Prop
  | [], acc, S => stay S ∧ K acc S
  | x :: r, acc, S => stay S ∧ g x δ S fun δ2 S2 => tt δ2 S2 fun b S3 => if b = true then di1 δ2 S3 fun ys stay1 S4 => lcT stay1 g1 tt1 te (dwipe δ2 vs1) (fun acc S => lcT2 stay g tt di1 g1 tt1 te δ vs1 K r acc S) ys acc S4
      else lcT2 stay g tt di1 g1 tt1 te δ vs1 K r acc S3
def dLc2 (di : DI) (g : DG) (tt : DT) (di1 : DI) (g1 : DG) (tt1 : DT) (te : DE) (vs vs1 : List Nat) : DE := fun δ S Q => di δ S fun xs stay S1 => lcT2 stay g tt di1 g1 tt1 te (dwipe δ vs) vs1 (fun ys S2 => ∀ p, S2 p = none → Q (.ref p) (dupd S2 p (.lst ys))) xs [] S1
theorem lift_lc2 {di di1 : DI} {g g1 : DG} {tt tt1 : DT} {te : DE} {sl sl1 vs vs1 : List Nat} (hsl : ∀ i ∈ sl, i ∈ vs) (hsl1 : ∀ i ∈ sl1, i ∈ vs1) : ∀ σ H Q, liftE X.K (dLc2 di g tt di1 g1 tt1 te vs vs1) σ H Q →
    tLc2 (liftI X.K di) (liftG X.K sl g) (liftT X.K tt) (liftI X.K di1) (liftG X.K sl1 g1) (liftT X.K tt1) (liftE X.K te) vs vs1 σ H Q :=
  fun σ H Q ⟨δ, S, Q0, hr, hs, h, hq⟩ => by
    refine ⟨δ, S, _, hr, hs, h, fun xs stay S1 H1 J q1 s1 a1 jok p hp => ?_⟩
    have hp1 : S1 p = none := s1.fresh hp
    let Kd : List D → DS → Prop := fun ys S2 => ∀ p, S2 p = none → Q0 (.ref p) (dupd S2 p (.lst ys))
    refine ⟨fun i m H' => m + i = xs.length ∧ ∃ acc ws S', Stp S1 H1 S' H' ∧ Sim X.K S' H' ∧ S' p = none ∧ H' p = some (.lst ws) ∧ RvL X.K H' acc ws ∧ lcT2 stay g tt di1 g1 tt1 te (dwipe δ vs) vs1 Kd (xs.drop i) acc S',
      ⟨xs.length, by omega, [], [], S1, (Stp.refl _ _).updD hp, s1.laid hp, hp1, upd_same, .nil, by simpa using q1⟩, ?_⟩
    rintro i m H2 ⟨em, acc, ws, S2, a2, s2, n2, e2, r2, h2⟩
    cases hx : xs.drop i with
    | nil =>
      rw [hx] at h2
      have hl : xs.length ≤ i := List.drop_eq_nil_iff.mp hx
      refine .inl ⟨(jok i S2 H2 a2.prs s2 h2.1).1 hl, hq _ _ _ _ (h2.2 p n2) (.ref p) (fun a u e => ?_) ((a1.trans a2).newD ?_)⟩
      · by_cases ha : a = p
        · subst ha; rw [dupd_same] at e; cases e; exact ⟨ws, e2, r2⟩
        · rw [dupd_ne ha] at e; exact s2 a u e
      · cases q : H p with
        | none => rfl
        | some o => exact absurd hp (a1.live p (by rw [q]; simp))
    | cons x r =>
      rw [hx] at h2
      obtain ⟨hg1, hr1, hl⟩ := drop_get hx
      obtain ⟨hgo, hy⟩ := (jok i S2 H2 a2.prs s2 h2.1).2 x hg1
      let Nx : Hp → Prop := fun H' => ∃ acc ws S', Stp S1 H1 S' H' ∧ Sim X.K S' H' ∧ S' p = none ∧ H' p = some (.lst ws) ∧ RvL X.K H' acc ws ∧ lcT2 stay g tt di1 g1 tt1 te (dwipe δ vs) vs1 Kd r acc S'
      refine .inr ⟨hgo, Nx, fun H' ⟨acc, ws, S', h1, h2, h3, h4, h5, h6⟩ => ⟨m - 1, by omega, by omega, acc, ws, S', h1, h2, h3, h4, h5, by rw [← hr1]; exact h6⟩, fun x' H' y => ?_⟩
      obtain ⟨rx, sx, ax⟩ := hy x' H' y
      have hrw : Rst X.K H1 (dwipe δ vs) (L2.wipe σ vs) := (hr.stp a1).wipe
      refine ⟨x, _, S2, _, rx, hrw.stp (a2.trans ax), sx, h2.2, fun δ3 S3 σ3 H3 q3 r3 l3 n3 s3 a3 => ⟨wipe_same (by rw [l3, wipe_length]) n3 hsl, δ3, S3, _, r3, s3, q3, fun b S4 H4 q4 s4 a4 => ?_⟩⟩
      have b4 := (ax.trans a3).trans a4
      have n4 : S4 p = none := b4.hid p (by rw [e2]; simp) n2
      have e4 : H4 p = some (.lst ws) := b4.keep p _ n2 e2
      cases b with
      | false =>
        simp only [Bool.false_eq_true, if_false] at q4 ⊢
        exact ⟨acc, ws, S4, a2.trans b4, s4, n4, e4, b4.rvl r2, q4⟩
      | true =>
        simp only [if_true] at q4 ⊢
        refine ⟨δ3, S4, _, r3.stp a4, s4, q4, fun ys stay1 S5 H5 J1 q5 s5 a5 jok1 => ?_⟩
        have b5 := b4.trans a5
        have n5 : S5 p = none := a5.hid p (by rw [e4]; simp) n4
        have e5 : H5 p = some (.lst ws) := a5.keep p _ n4 e4
        let Kj : List D → DS → Prop := fun acc S => lcT2 stay g tt di1 g1 tt1 te (dwipe δ vs) vs1 Kd r acc S
        refine ⟨fun j k H' => k + j = ys.length ∧ ∃ acc ws S', Stp S1 H1 S' H' ∧ Prs H5 H' ∧ Sim X.K S' H' ∧ S' p = none ∧ H' p = some (.lst ws) ∧ RvL X.K H' acc ws ∧ lcT stay1 g1 tt1 te (dwipe δ3 vs1) Kj (ys.drop j) acc S',
          ⟨ys.length, by omega, acc, ws, S5, a2.trans b5, .refl _, s5, n5, e5, b5.rvl r2, by simpa using q5⟩, ?_⟩
        rintro j k H6 ⟨ek, acc6, ws6, S6, a6, c6, s6, n6, e6, r6, h6⟩
        cases hy : ys.drop j with
        | nil =>
          rw [hy] at h6
          have hl : ys.length ≤ j := List.drop_eq_nil_iff.mp hy
          exact .inl ⟨(jok1 j S6 H6 c6 s6 h6.1).1 hl, acc6, ws6, S6, a6, s6, n6, e6, r6, h6.2⟩
        | cons y ry =>
          rw [hy] at h6
          obtain ⟨hg1, hr1, hl⟩ := drop_get hy
          obtain ⟨hgo, hyy⟩ := (jok1 j S6 H6 c6 s6 h6.1).2 y hg1
          refine .inr ⟨hgo, fun H' => ∃ acc ws S', Stp S1 H1 S' H' ∧ Prs H5 H' ∧ Sim X.K S' H' ∧ S' p = none ∧ H' p = some (.lst ws) ∧ RvL X.K H' acc ws ∧ lcT stay1 g1 tt1 te (dwipe δ3 vs1) Kj ry acc S',
            fun H' ⟨acc, ws, S', h1, h2, h3, h4, h5, h6, h7⟩ => ⟨k - 1, by omega, by omega, acc, ws, S', h1, h2, h3, h4, h5, h6, by rw [← hr1]; exact h7⟩, fun x7 H7 y7 => ?_⟩
          obtain ⟨rx7, s7, a7⟩ := hyy x7 H7 y7
          have hrw1 : Rst X.K H7 (dwipe δ3 vs1) (L2.wipe σ3 vs1) := (((r3.stp (a4.trans a5)).prs c6).stp a7).wipe
          refine ⟨y, _, S6, _, rx7, hrw1, s7, h6.2, fun δ8 S8 σ8 H8 q8 r8 l8 m8 s8 a8 => ⟨wipe_same (by rw [l8, wipe_length]) m8 hsl1, δ8, S8, _, r8, s8, q8, fun b S9 H9 q9 s9 a9 => ?_⟩⟩
          have b9 := (a7.trans a8).trans a9
          have n9 : S9 p = none := b9.hid p (by rw [e6]; simp) n6
          have e9 : H9 p = some (.lst ws6) := b9.keep p _ n6 e6
          cases b with
          | false =>
            simp only [Bool.false_eq_true, if_false] at q9 ⊢
            exact ⟨acc6, ws6, S9, a6.trans b9, c6.trans b9.prs, s9, n9, e9, b9.rvl r6, q9⟩
          | true =>
            simp only [if_true] at q9 ⊢
            refine ⟨δ8, S9, _, r8.stp a9, s9, q9, fun z S10 v H10 ⟨z10, q10⟩ r10 s10 a10 => ?_⟩
            have n10 : S10 p = none := a10.hid p (by rw [e9]; simp) n9
            have e10 : H10 p = some (.lst ws6) := a10.keep p _ n9 e9
            have r6' := (b9.trans a10).rvl r6
            exact ⟨ws6, e10, by rw [← r6.length, szl]; exact z10, acc6 ++ [z], ws6 ++ [v], S10, (a6.trans (b9.trans a10)).updD hp, (c6.trans (b9.trans a10).prs).trans (Prs.updL e10), s10.updL e10 n10, n10, upd_same, (r6'.append (.cons r10 .nil)).updL e10, q10⟩
theorem qe_lc2 {elt tg iter tg1 iter1 : Expr} {ifs ifs1 : List Expr} {scope : Scope} (own : List (Str × Nat)) (vs1 : List Nat) {di di1 : DI} {g g1 : DG} {tt tt1 : DT} {te : DE} {sl sl1 : List Nat} (hc : X.calm = true) (hN : X.N.Nodup) (hi : PI X tg iter (liftI X.K di)) (ok : blkC X.N X.env.scope scope own = true)
    (hv : ∀ i ∈ vs1, i ∈ own.map (·.2)) (hsl : ∀ i ∈ sl, i ∈ own.map (·.2)) (hsl1 : ∀ i ∈ sl1, i ∈ vs1)
    (hg : ∀ (s : Shared) (H : Hp) (C : Addr) (cl : List (Str × Addr)) (fp : List Addr), PG (X.blk s H scope (compEnvC scope cl C X.env) fp) tg (liftG X.K sl g))
    (ht : ∀ (s : Shared) (H : Hp) (C : Addr) (cl : List (Str × Addr)) (fp : List Addr), PTs (X.blk s H scope (compEnvC scope cl C X.env) fp) ifs (liftT X.K tt))
    (hi1 : ∀ (s : Shared) (H : Hp) (C : Addr) (cl : List (Str × Addr)) (fp : List Addr), PI (X.blk s H scope (compEnvC scope cl C X.env) fp) tg1 iter1 (liftI X.K di1))
    (hg1 : ∀ (s : Shared) (H : Hp) (C : Addr) (cl : List (Str × Addr)) (fp : List Addr), PG (X.blk s H scope (compEnvC scope cl C X.env) fp) tg1 (liftG X.K sl1 g1))
    (ht1 : ∀ (s : Shared) (H : Hp) (C : Addr) (cl : List (Str × Addr)) (fp : List Addr), PTs (X.blk s H scope (compEnvC scope cl C X.env) fp) ifs1 (liftT X.K tt1))
    (he : ∀ (s : Shared) (H : Hp) (C : Addr) (cl : List (Str × Addr)) (fp : List Addr), PE (X.blk s H scope (compEnvC scope cl C X.env) fp) elt (liftE X.K te)) (hs : ∀ x, foldedSetIterable iter X.env x = pure x := by intro _; rfl) (hs1 : ∀ env x, foldedSetIterable iter1 env x = pure x := by intro _ _; rfl) :
    PE X (.ListComp elt [⟨tg, iter, ifs, 0⟩, ⟨tg1, iter1, ifs1, 0⟩] scope pos) (liftE X.K (dLc2 di g tt di1 g1 tt1 te (own.map (·.2)) vs1)) := PE.imp (pe_lc2 hc hN hi (blkOk_by ok) hv hg ht hi1 hg1 ht1 he hs hs1) (lift_lc2 hsl hsl1)
theorem qs_setLc2 {i : Nat} {y : Str} {py spos : Pos} {elt tg iter tg1 iter1 : Expr} {ifs ifs1 : List Expr} {scope : Scope} (own : List (Str × Nat)) (vs1 : List Nat) {di di1 : DI} {g g1 : DG} {tt tt1 : DT} {te : DE} {sl sl1 : List Nat} (hc : X.calm = true) (hN : X.N.Nodup) (hy : X.N[i]? = some y) (hyl : X.env.scope.names.lookup y = some .local)
    (hsw : swapsWith (.ListComp elt [⟨tg, iter, ifs, 0⟩, ⟨tg1, iter1, ifs1, 0⟩] scope pos) (some (.Name y py)) spos.line X.env = pure true) (hi : PI X tg iter (liftI X.K di)) (ok : blkC X.N X.env.scope scope own = true)
    (hv : ∀ i ∈ vs1, i ∈ own.map (·.2)) (hsl : ∀ i ∈ sl, i ∈ own.map (·.2)) (hsl1 : ∀ i ∈ sl1, i ∈ vs1)
    (hg : ∀ (s : Shared) (H : Hp) (C : Addr) (cl : List (Str × Addr)) (fp : List Addr), PG (X.blk s H scope (compEnvC scope cl C X.env) fp) tg (liftG X.K sl g))
    (ht : ∀ (s : Shared) (H : Hp) (C : Addr) (cl : List (Str × Addr)) (fp : List Addr), PTs (X.blk s H scope (compEnvC scope cl C X.env) fp) ifs (liftT X.K tt))
    (hi1 : ∀ (s : Shared) (H : Hp) (C : Addr) (cl : List (Str × Addr)) (fp : List Addr), PI (X.blk s H scope (compEnvC scope cl C X.env) fp) tg1 iter1 (liftI X.K di1))
    (hg1 : ∀ (s : Shared) (H : Hp) (C : Addr) (cl : List (Str × Addr)) (fp : List Addr), PG (X.blk s H scope (compEnvC scope cl C X.env) fp) tg1 (liftG X.K sl1 g1))
    (ht1 : ∀ (s : Shared) (H : Hp) (C : Addr) (cl : List (Str × Addr)) (fp : List Addr), PTs (X.blk s H scope (compEnvC scope cl C X.env) fp) ifs1 (liftT X.K tt1))
    (he : ∀ (s : Shared) (H : Hp) (C : Addr) (cl : List (Str × Addr)) (fp : List Addr), PE (X.blk s H scope (compEnvC scope cl C X.env) fp) elt (liftE X.K te)) (hs : ∀ x, foldedSetIterable iter X.env x = pure x := by intro _; rfl) (hs1 : ∀ env x, foldedSetIterable iter1 env x = pure x := by intro _ _; rfl) :
    PS X (.Assign [.Name y py] (.ListComp elt [⟨tg, iter, ifs, 0⟩, ⟨tg1, iter1, ifs1, 0⟩] scope pos) spos) (liftS X.K (dAsg (dLc2 di g tt di1 g1 tt1 te (own.map (·.2)) vs1) (dgName i))) :=
  PS.imp (ps_setLc2 hc hN hy hyl hsw hi (blkOk_by ok) hv hg ht hi1 hg1 ht1 he hs hs1) fun E σ H ⟨δ, S, D0, hr, hsim, h, cv⟩ =>
    lift_lc2 hsl hsl1 σ H _ ⟨δ, S, _, hr, hsim, h, fun d S1 v H1 h1 r1 s1 a1 => cv.nx _ S1 _ H1 h1 ((hr.stp a1).set r1) s1 a1⟩
end
section
variable {X : Cx} {x : Str} {p pos : Pos} {e : Expr} {es : List Expr} {t : DA} {id T : String}
def dCall (c : DF) (t : DA) : DE := fun δ S Q => t δ S fun ds S1 => c ds S1 Q
theorem lift_args {t : DA} {r : DRs} : ∀ σ H Q, liftE X.K (dCall r t) σ H Q → liftA X.K t σ H fun vs H1 => liftC X.K r vs H1 Q :=
  fun σ H Q ⟨δ, S, Q0, hr, hs, h, hq⟩ => ⟨δ, S, _, hr, hs, h, fun ds S1 vs H1 h1 r1 s1 a1 => ⟨ds, S1, _, r1, s1, h1, fun d S' v H' q r s a => hq d S' v H' q r s (a1.trans a)⟩⟩
theorem lift_call {t : DA} {c : DF} {np : Nat} (hn : ∀ ds S Q, c ds S Q → ds.length = np) : ∀ σ H Q, liftE X.K (dCall c t) σ H Q → tCall (liftF X.K np c) [] E0 (liftA X.K t) σ H Q :=
  fun σ H Q ⟨δ, S, Q0, hr, hs, h, hq⟩ => ⟨δ, S, _, hr, hs, h, fun ds S1 vs H1 h1 r1 s1 a1 => by
    show liftF X.K np c (vs ++ []) H1 Q E0
    rw [List.append_nil]
    exact ⟨by rw [← r1.length]; exact hn _ _ _ h1, ds, S1, _, r1, s1, h1, fun d S' v H' q r s a => hq d S' v H' q r s (a1.trans a)⟩⟩
variable {k np : Nat} {f : Addr} {fd : FuncData} {ps : List Str} {c : DF}
theorem qe_call (hn : ∀ ds S Q, c ds S Q → ds.length = np) (F : FnOk X.prog X.w X.K X.mg X.base CX0 k f fd ps (liftF X.K np c)) (hr : Room k X.A) (hg : Gl X x) (hm : X.mg x = some (.ref f)) (hk : PySem.W.keepIn X.K (.ref f) = true) (hb : Binds X.K fd ps [])
    (ha : PA X (e :: es) (liftA X.K t)) (hdb : (x == ("__debug__" : Str)) = false := by decide) (he : starEach (e :: es) X.env = (false, eval e X.env) :: starEach es X.env := by rfl) (hpl : (backTo pos (starEach es X.env)).any (·.1) = false := by rfl) :
    PE X (.Call (.Name x p) (e :: es) [] pos) (liftE X.K (dCall c t)) := PE.imp (pe_call F hr hg hm hk hb .nil pass0 ha hdb he hpl) (lift_call hn)
theorem qe_callB {r : DRs} (hc : CallR X (.builtin id) (liftC X.K r)) (hg : Gl X x) (hm : X.mg x = none) (hv : bootBuiltins x = some (.builtin id)) (ha : PA X (e :: es) (liftA X.K t)) (hn : x ≠ "__name__" := by decide) (hdb : (x == ("__debug__" : Str)) = false := by decide)
    (he : starEach (e :: es) X.env = (false, eval e X.env) :: starEach es X.env := by rfl) (hpl : (backTo pos (starEach es X.env)).any (·.1) = false := by rfl) :
    PE X (.Call (.Name x p) (e :: es) [] pos) (liftE X.K (dCall r t)) := PE.imp (pe_callB hc hg hm hv ha hn hdb he hpl) lift_args
theorem qe_callTy {r : DRs} (hc : CallR X (.type T) (liftC X.K r)) (hg : Gl X x) (hm : X.mg x = none) (hv : bootBuiltins x = some (.type T)) (ha : PA X (e :: es) (liftA X.K t)) (hn : x ≠ "__name__" := by decide) (hdb : (x == ("__debug__" : Str)) = false := by decide)
    (he : starEach (e :: es) X.env = (false, eval e X.env) :: starEach es X.env := by rfl) (hpl : (backTo pos (starEach es X.env)).any (·.1) = false := by rfl) :
    PE X (.Call (.Name x p) (e :: es) [] pos) (liftE X.K (dCall r t)) := PE.imp (pe_callTy hc hg hm hv ha hn hdb he hpl) lift_args
end
end DL
namespace DL
open PySem PySem.Spec PyProof.Rows L2
mutual
def D.py : D → PyData
  | .non => .none | .bl b => .bool b | .int i => .int i | .str x => .str x | .tup xs => .tuple (D.pyL xs) | .fl xs => .list (D.pyL xs) | .ref _ => .dict [] | .ty _ => .dict []
def D.pyL : List D → List PyData
  | [] => []
  | x :: xs => D.py x :: D.pyL xs
end
mutual
/-- no mutable thing within -/
def D.plain : D → Bool
  | .non => true | .bl _ => true | .int _ => true | .str _ => true | .tup xs => D.plainL xs | .fl xs => D.plainL xs | .ref _ => false | .ty _ => false
def D.plainL : List D → Bool
  | [] => true
  | x :: xs => D.plain x && D.plainL xs
end
mutual
def D.dep : D → Nat
  | .non => 0 | .bl _ => 0 | .int _ => 0 | .str _ => 0 | .tup xs => D.depL xs + 1 | .fl xs => D.depL xs + 1 | .ref _ => 0 | .ty _ => 0
def D.depL : List D → Nat
  | [] => 0
  | x :: xs => max (D.dep x) (D.depL xs)
end
theorem D.pyL_map : ∀ xs : List D, D.pyL xs = xs.map D.py
  | [] => rfl
  | x :: xs => by rw [D.pyL, D.pyL_map xs, List.map_cons]
mutual
theorem D.plain_py : ∀ d : D, d.plain = true → d.py.plain = true
  | .non, _ => by rw [D.py, PyData.plain]
  | .bl _, _ => by rw [D.py, PyData.plain]
  | .int _, _ => by rw [D.py, PyData.plain]
  | .str _, _ => by rw [D.py, PyData.plain]
  | .tup xs, h => by rw [D.py, PyData.plain]; exact D.plainL_py xs (by rw [D.plain] at h; exact h)
  | .fl xs, h => by rw [D.py, PyData.plain]; exact D.plainL_py xs (by rw [D.plain] at h; exact h)
  | .ref _, h => by rw [D.plain] at h; cases h
  | .ty _, h => by rw [D.plain] at h; cases h
theorem D.plainL_py : ∀ ds : List D, D.plainL ds = true → PyData.plainAll (D.pyL ds) = true
  | [], _ => by rw [D.pyL, PyData.plainAll]
  | x :: xs, h => by
    rw [D.plainL, Bool.and_eq_true] at h
    rw [D.pyL, PyData.plainAll, D.plain_py x h.1, D.plainL_py xs h.2]
    rfl
end
mutual
theorem D.dep_py : ∀ d : D, d.plain = true → d.py.depth = d.dep
  | .non, _ => by rw [D.py, PyData.depth, D.dep]
  | .bl _, _ => by rw [D.py, PyData.depth, D.dep]
  | .int _, _ => by rw [D.py, PyData.depth, D.dep]
  | .str _, _ => by rw [D.py, PyData.depth, D.dep]
  | .tup xs, h => by rw [D.py, PyData.depth, D.dep, D.depL_py xs (by rw [D.plain] at h; exact h)]
  | .fl xs, h => by rw [D.py, PyData.depth, D.dep, D.depL_py xs (by rw [D.plain] at h; exact h)]
  | .ref _, h => by rw [D.plain] at h; cases h
  | .ty _, h => by rw [D.plain] at h; cases h
theorem D.depL_py : ∀ ds : List D, D.plainL ds = true → PyData.depthAll (D.pyL ds) = D.depL ds
  | [], _ => by rw [D.pyL, PyData.depthAll, D.depL]
  | x :: xs, h => by
    rw [D.plainL, Bool.and_eq_true] at h
    rw [D.pyL, PyData.depthAll, D.depL, D.dep_py x h.1, D.depL_py xs h.2]
end
def D.eqv (a b : D) : Bool := PyData.eqv a.py b.py
/-- a mutable list gives way to what stands in it, n deep -/
def D.rd (S : DS) : Nat → D → D
  | 0, d => d
  | n + 1, .ref a => match S a with
    | some (.lst xs) => .fl (xs.map (D.rd S n))
    | _ => .ref a
  | n + 1, .tup xs => .tup (xs.map (D.rd S n))
  | n + 1, .fl xs => .fl (xs.map (D.rd S n))
  | _ + 1, .non => .non
  | _ + 1, .bl b => .bl b
  | _ + 1, .int i => .int i
  | _ + 1, .str x => .str x
  | _ + 1, .ty n => .ty n
section
variable {K : PySem.W.Frag} {H : Hp} {S : DS}
theorem D.plainL_mem : ∀ {xs : List D}, D.plainL xs = true → ∀ x ∈ xs, x.plain = true
  | [], _, x, h => by cases h
  | y :: ys, h, x, hx => by
    rw [D.plainL, Bool.and_eq_true] at h
    rcases List.mem_cons.mp hx with e | hx
    · rw [e]; exact h.1
    · exact D.plainL_mem h.2 x hx
theorem D.plainL_of : ∀ {xs : List D}, (∀ x ∈ xs, x.plain = true) → D.plainL xs = true
  | [], _ => by rw [D.plainL]
  | y :: ys, h => by rw [D.plainL, h y List.mem_cons_self, D.plainL_of fun x hx => h x (List.mem_cons_of_mem _ hx)]; rfl
theorem D.depL_le {n : Nat} : ∀ {xs : List D}, (∀ x ∈ xs, x.dep ≤ n) → D.depL xs ≤ n
  | [], _ => by rw [D.depL]; exact Nat.zero_le _
  | y :: ys, h => by rw [D.depL]; exact Nat.max_le.mpr ⟨h y List.mem_cons_self, D.depL_le fun x hx => h x (List.mem_cons_of_mem _ hx)⟩
theorem D.depL_mem : ∀ {xs : List D} {x : D}, x ∈ xs → x.dep ≤ D.depL xs
  | y :: ys, x, hx => by
    rw [D.depL]
    rcases List.mem_cons.mp hx with e | hx
    · rw [e]; exact Nat.le_max_left _ _
    · exact Nat.le_trans (D.depL_mem hx) (Nat.le_max_right _ _)
theorem FqL.dp {a : Addr} {vs : List V} (h : FqL K H a vs) {ds : List PyData} (r : DpAll K H vs ds) : Dp K H (.ref a) (.list ds) := .lst h.sq r
mutual
/-- what a value is, as the hand layer's data -/
theorem Rv.dp : ∀ (d : D) (v : V), d.plain = true → Rv K H d v → Dp K H v d.py
  | .non, _, _, r => by cases r; rw [D.py]; exact .non
  | .bl _, _, _, r => by cases r; rw [D.py]; exact .bl _
  | .int _, _, _, r => by cases r; rw [D.py]; exact .int _
  | .str _, _, _, r => by cases r; rw [D.py]; exact .str _
  | .tup ds, _, h, r => by
    cases r with
    | tup q rr => rw [D.py]; exact .tup q (RvL.dp ds _ (by rw [D.plain] at h; exact h) rr)
  | .fl ds, _, h, r => by
    cases r with
    | fl q rr => rw [D.py]; exact q.dp (RvL.dp ds _ (by rw [D.plain] at h; exact h) rr)
  | .ref _, _, h, _ => by rw [D.plain] at h; cases h
  | .ty _, _, h, _ => by rw [D.plain] at h; cases h
theorem RvL.dp : ∀ (ds : List D) (vs : List V), D.plainL ds = true → RvL K H ds vs → DpAll K H vs (D.pyL ds)
  | [], _, _, r => by cases r; rw [D.pyL]; exact .nil
  | d :: ds, _, h, r => by
    rw [D.plainL, Bool.and_eq_true] at h
    cases r with
    | cons q rr => rw [D.pyL]; exact .cons (Rv.dp d _ h.1 q) (RvL.dp ds _ h.2 rr)
end
/-- the same with the lists of the store read -/
theorem Rv.dp_rd (s : Sim K S H) : ∀ (n : Nat) (d : D) (v : V), (d.rd S n).plain = true → Rv K H d v → Dp K H v (d.rd S n).py
  | 0, d, v, h, r => Rv.dp d v h r
  | n + 1, .non, _, h, r => Rv.dp _ _ h r
  | n + 1, .bl _, _, h, r => Rv.dp _ _ h r
  | n + 1, .int _, _, h, r => Rv.dp _ _ h r
  | n + 1, .str _, _, h, r => Rv.dp _ _ h r
  | n + 1, .ty _, _, h, r => by rw [D.rd, D.plain] at h; cases h
  | n + 1, .tup ds, _, h, r => by
    cases r with
    | tup q rr =>
      rw [D.rd, D.plain] at h
      rw [D.rd, D.py]
      refine .tup q ?_
      have all : ∀ (ds : List D) (vs : List V), D.plainL (ds.map (D.rd S n)) = true → RvL K H ds vs → DpAll K H vs (D.pyL (ds.map (D.rd S n))) := by
        intro ds
        induction ds with
        | nil => intro vs h r; cases r; exact .nil
        | cons d ds ih =>
          intro vs h r
          rw [List.map_cons, D.plainL, Bool.and_eq_true] at h
          cases r with
          | cons q rr => rw [List.map_cons, D.pyL]; exact .cons (Rv.dp_rd s n d _ h.1 q) (ih _ h.2 rr)
      exact all ds _ h rr
  | n + 1, .fl ds, _, h, r => by
    cases r with
    | fl q rr =>
      rw [D.rd, D.plain] at h
      rw [D.rd, D.py]
      refine q.dp ?_
      have all : ∀ (ds : List D) (vs : List V), D.plainL (ds.map (D.rd S n)) = true → RvL K H ds vs → DpAll K H vs (D.pyL (ds.map (D.rd S n))) := by
        intro ds
        induction ds with
        | nil => intro vs h r; cases r; exact .nil
        | cons d ds ih =>
          intro vs h r
          rw [List.map_cons, D.plainL, Bool.and_eq_true] at h
          cases r with
          | cons q rr => rw [List.map_cons, D.pyL]; exact .cons (Rv.dp_rd s n d _ h.1 q) (ih _ h.2 rr)
      exact all ds _ h rr
  | n + 1, .ref a, _, h, r => by
    cases r with
    | ref a =>
      cases e : S a with
      | none => rw [D.rd] at h; simp only [e] at h; rw [D.plain] at h; cases h
      | some o =>
        cases o with
        | lst xs =>
          obtain ⟨vs, hv, rr⟩ := s.lst e
          rw [D.rd] at h ⊢
          simp only [e] at h ⊢
          rw [D.plain] at h
          rw [D.py]
          refine .lst (.of hv) ?_
          have all : ∀ (ds : List D) (vs : List V), D.plainL (ds.map (D.rd S n)) = true → RvL K H ds vs → DpAll K H vs (D.pyL (ds.map (D.rd S n))) := by
            intro ds
            induction ds with
            | nil => intro vs h r; cases r; exact .nil
            | cons d ds ih =>
              intro vs h r
              rw [List.map_cons, D.plainL, Bool.and_eq_true] at h
              cases r with
              | cons q rr => rw [List.map_cons, D.pyL]; exact .cons (Rv.dp_rd s n d _ h.1 q) (ih _ h.2 rr)
          exact all xs _ h rr
        | ins _ _ => rw [D.rd] at h; simp only [e] at h; rw [D.plain] at h; cases h
        | dct _ => rw [D.rd] at h; simp only [e] at h; rw [D.plain] at h; cases h
        | dset _ => rw [D.rd] at h; simp only [e] at h; rw [D.plain] at h; cases h
mutual
theorem D.rd_plain : ∀ (d : D) (n : Nat), d.plain = true → d.rd S n = d
  | _, 0, _ => rfl
  | .non, n + 1, _ => rfl
  | .bl _, n + 1, _ => rfl
  | .int _, n + 1, _ => rfl
  | .str _, n + 1, _ => rfl
  | .tup ds, n + 1, h => by rw [D.rd, D.rdL_plain ds n (by rw [D.plain] at h; exact h)]
  | .fl ds, n + 1, h => by rw [D.rd, D.rdL_plain ds n (by rw [D.plain] at h; exact h)]
  | .ref _, _ + 1, h => by rw [D.plain] at h; cases h
  | .ty _, _ + 1, h => by rw [D.plain] at h; cases h
theorem D.rdL_plain : ∀ (ds : List D) (n : Nat), D.plainL ds = true → ds.map (D.rd S n) = ds
  | [], _, _ => rfl
  | d :: ds, n, h => by
    rw [D.plainL, Bool.and_eq_true] at h
    rw [List.map_cons, D.rd_plain d n h.1, D.rdL_plain ds n h.2]
end
end
def lstOf (S : DS) : D → Option (List D)
  | .ref a => match S a with
    | some (.lst xs) => some xs
    | _ => none
  | .fl xs => some xs
  | _ => none
def seqOf (S : DS) : D → Option (List D)
  | .tup xs => some xs
  | .ref a => match S a with
    | some (.lst xs) => some xs
    | _ => none
  | .fl xs => some xs
  | _ => none
section
variable {K : PySem.W.Frag} {H : Hp} {S : DS} {d : D} {v : V} {xs : List D}
theorem lst_of (s : Sim K S H) (r : Rv K H d v) (h : lstOf S d = some xs) : ∃ a vs, v = .ref a ∧ SqL K H a vs ∧ RvL K H xs vs := by
  cases d with
  | ref a =>
    cases r
    rw [lstOf] at h
    split at h
    · rename_i e
      cases h
      obtain ⟨vs, hv, rr⟩ := s.lst e
      exact ⟨a, vs, rfl, .of hv, rr⟩
    · cases h
  | fl ys =>
    cases h
    cases r with
    | fl q rr => exact ⟨_, _, rfl, q.sq, rr⟩
  | _ => cases h
theorem seq_of (s : Sim K S H) (r : Rv K H d v) (h : seqOf S d = some xs) : ∃ a vs, v = .ref a ∧ (SqL K H a vs ∨ SqT K H a vs) ∧ RvL K H xs vs := by
  cases d with
  | ref a =>
    cases r
    rw [seqOf] at h
    split at h
    · rename_i e
      cases h
      obtain ⟨vs, hv, rr⟩ := s.lst e
      exact ⟨a, vs, rfl, .inl (.of hv), rr⟩
    · cases h
  | fl ys =>
    cases h
    cases r with
    | fl q rr => exact ⟨_, _, rfl, .inl q.sq, rr⟩
  | tup ys =>
    cases h
    cases r with
    | tup q rr => exact ⟨_, _, rfl, .inr q, rr⟩
  | _ => cases h
end
def oAdd : DR2 := fun x y S Q => match x, y with
  | .int i, .int j => Q (.int (i + j)) S
  | .int i, .bl k => Q (.int (i + b2i k)) S
  | .str a, .str b => a.length + b.length ≤ 16777216 ∧ Q (.str (a ++ b)) S
  | .tup a, .tup b => a.length + b.length ≤ 16777216 ∧ Q (.tup (a ++ b)) S
  | .ref a, .ref b => match S a, S b with
    | some (.lst xs), some (.lst ys) => xs.length + ys.length ≤ 16777216 ∧ ∀ p, S p = none → Q (.ref p) (dupd S p (.lst (xs ++ ys)))
    | _, _ => False
  | _, _ => False
def oSub : DR2 := fun x y S Q => match x, y with
  | .int i, .int j => Q (.int (i - j)) S
  | _, _ => False
def oMul : DR2 := fun x y S Q => match x, y with
  | .int i, .int j => i.natAbs.log2 + j.natAbs.log2 < 1000000 ∧ Q (.int (i * j)) S
  | .ref a, .int k => match S a with
    | some (.lst xs) => (-(2 ^ 63) ≤ k ∧ k < 2 ^ 63 ∧ xs.length * k.toNat ≤ 16777216) ∧ ∀ p, S p = none → Q (.ref p) (dupd S p (.lst (List.replicate k.toNat xs).flatten))
    | _ => False
  | .tup xs, .int k => (xs ≠ [] ∧ 1 ≤ k ∧ k ≤ 1000 ∧ xs.length ≤ 1000) ∧ Q (.tup (List.replicate k.toNat xs).flatten) S
  | _, _ => False
def oFdv : DR2 := fun x y S Q => match x, y with
  | .int i, .int j => (0 < j ∧ j.natAbs.log2 < 9000) ∧ Q (.int (i / j)) S
  | _, _ => False
def oMod : DR2 := fun x y S Q => match x, y with
  | .int i, .int j => 0 < j ∧ Q (.int (i % j)) S
  | _, _ => False
def oPow : DR2 := fun x y S Q => match x, y with
  | .int i, .int j => (0 ≤ j ∧ j ≤ 1000000 ∧ i.natAbs < 2 ^ 64) ∧ Q (.int (i ^ j.toNat)) S
  | _, _ => False
def oShl : DR2 := fun x y S Q => match x, y with
  | .int i, .int j => (0 ≤ j ∧ j ≤ 1000000 ∧ i.natAbs < 2 ^ 64) ∧ Q (.int (i * 2 ^ j.toNat)) S
  | _, _ => False
def oShr : DR2 := fun x y S Q => match x, y with
  | .int i, .int j => 0 ≤ j ∧ Q (.int (i / 2 ^ j.toNat)) S
  | _, _ => False
def oBit (f : Int → Int → Int) : DR2 := fun x y S Q => match x, y with
  | .int i, .int j => Q (.int (f i j)) S
  | _, _ => False
def uNeg : DR1 := fun x S Q => match x with
  | .int i => Q (.int (-i)) S
  | _ => False
def oEq (neg : Bool) : DR2 := fun x y S Q => ((x.rd S 4).plain = true ∧ (y.rd S 4).plain = true ∧ ((x.rd S 4).dep ≤ 50 ∨ (y.rd S 4).dep ≤ 50)) ∧ Q (.bl (neg ^^ D.eqv (x.rd S 4) (y.rd S 4))) S
/-- what is the same whatever the operator (<, <=, ..) -/
inductive COp where | lt | le | gt | ge
def COp.int : COp → Int → Int → Bool
  | .lt, i, j => decide (i < j) | .le, i, j => decide (i ≤ j) | .gt, i, j => decide (j < i) | .ge, i, j => decide (j ≤ i)
def COp.dat : COp → PyData → PyData → Bool
  | .lt, a, b => PySem.W.dataLt a b | .le, a, b => !PySem.W.dataLt b a | .gt, a, b => PySem.W.dataLt b a | .ge, a, b => !PySem.W.dataLt a b
def COp.op : COp → CmpOp
  | .lt => .Lt | .le => .LtE | .gt => .Gt | .ge => .GtE
def oCmp (o : COp) : DR2 := fun x y S Q => match x, y with
  | .int i, .int j => Q (.bl (o.int i j)) S
  | x, y => (x.plain = true ∧ y.plain = true ∧ PySem.W.alike x.py y.py = true ∧ x.py ≠ .none ∧ x.dep ≤ 50) ∧ Q (.bl (o.dat x.py y.py)) S
def oIs (neg : Bool) : DR2 := fun x y S Q => match y with
  | .bl b => match x with
    | .bl c => Q (.bl (neg ^^ decide (c = b))) S
    | _ => False
  | .non => Q (.bl (match x with | .non => !neg | _ => neg)) S
  | _ => False
def oIn (neg : Bool) : DR2 := fun x y S Q => match seqOf S y with
  | some xs => ((x.rd S 3).plain = true ∧ D.plainL (xs.map (D.rd S 3)) = true ∧ (x.rd S 3).dep ≤ 50) ∧ Q (.bl (neg ^^ (xs.map (D.rd S 3)).any fun e => D.eqv e (x.rd S 3))) S
  | none => False
section
variable {X : Cx}
theorem dl_op {f : Value → Value → Sem Value} {r : DR2}
    (h : ∀ (pins : List (Addr × Obj)) (s : Shared) (σ : L2.St) (H : Hp) (x y : D) (xv yv : V) (v u : Value) (S : DS) (Q : VK) (Q0 : DK), Inv X pins σ H s → RelV xv v → RelV yv u → Rv X.K H x xv → Rv X.K H y yv → Sim X.K S H → r x y S Q0 →
      (∀ d S' v H', Q0 d S' → Rv X.K H' d v → Sim X.K S' H' → Stp S H S' H' → Q v H') → wpAny (model X.prog X.w) X.A (f v u) (EP X pins σ Q) X.xe s) : OpR X f (liftO X.K r) := by
  rintro pins s σ H xv yv v u Q I rx ry ⟨x, y, S, Q0, hx, hy, hs, hr, hq⟩
  exact h pins s σ H x y xv yv v u S Q Q0 I rx ry hx hy hs hr hq
theorem dop_add : OpR X (binaryOp .Add) (liftO X.K oAdd) := dl_op fun pins s σ H x y xv yv v u S Q Q0 I rx ry hx hy hs hr hq => by
  cases x with
  | int i =>
    cases hx
    cases y with
    | int j => cases hy; exact op_add pins s σ H _ _ v u Q I rx ry ⟨i, j, rfl, rfl, hq _ _ _ _ hr (.int _) hs (.refl _ _)⟩
    | bl k => cases hy; exact op_add_ib pins s σ H _ _ v u Q I rx ry ⟨i, k, rfl, rfl, hq _ _ _ _ hr (.int _) hs (.refl _ _)⟩
    | _ => exact hr.elim
  | str a =>
    cases hx
    cases y with
    | str b => cases hy; exact op_add_str pins s σ H _ _ v u Q I rx ry ⟨a, b, rfl, rfl, by rw [szl]; exact hr.1, hq _ _ _ _ hr.2 (.str _) hs (.refl _ _)⟩
    | _ => exact hr.elim
  | tup a =>
    cases y with
    | tup b =>
      cases hx with
      | @tup p vs _ q1 r1 =>
        cases hy with
        | @tup q ws _ q2 r2 =>
          refine op_catA pins s σ H _ _ v u Q I rx ry ⟨p, q, vs, ws, rfl, rfl, q1, q2, by rw [szl, ← r1.length, ← r2.length]; exact hr.1, fun e => ?_, fun e1 e2 => ?_, fun e1 e2 p hp => ?_⟩
          · subst e; cases r1; exact hq _ _ _ _ hr.2 (.tup q2 r2) hs (.refl _ _)
          · subst e2; cases r2
            have hr2 : Q0 (.tup (a ++ [])) S := hr.2
            rw [List.append_nil] at hr2
            exact hq _ _ _ _ hr2 (.tup q1 r1) hs (.refl _ _)
          · exact hq _ _ _ _ hr.2 (.tup (.inl (.inl upd_same)) ((Stp.laid (S := S) hp).rvl (r1.append r2))) (hs.laid hp) (Stp.laid hp)
    | _ => exact hr.elim
  | ref a =>
    cases hx
    cases y with
    | ref b =>
      cases hy
      have hr' : (match S a, S b with
        | some (.lst xs), some (.lst ys) => xs.length + ys.length ≤ 16777216 ∧ ∀ p, S p = none → Q0 (.ref p) (dupd S p (.lst (xs ++ ys)))
        | _, _ => False) := hr
      split at hr'
      · rename_i xs ys ea eb
        obtain ⟨vs, h1, r1⟩ := hs.lst ea
        obtain ⟨ws, h2, r2⟩ := hs.lst eb
        exact op_cat pins s σ H _ _ v u Q I rx ry ⟨a, b, vs, ws, rfl, rfl, h1, h2, by rw [szl, ← r1.length, ← r2.length]; exact hr'.1, fun p hp =>
          hq _ _ _ _ (hr'.2 p (hs.fresh hp)) (.ref p) (hs.new hp ⟨_, upd_same, (Stp.laid (S := S) hp).rvl (r1.append r2)⟩) (Stp.new hp)⟩
      · exact hr'.elim
    | _ => exact hr.elim
  | _ => exact hr.elim
theorem dop_sub : OpR X (binaryOp .Sub) (liftO X.K oSub) := dl_op fun pins s σ H x y xv yv v u S Q Q0 I rx ry hx hy hs hr hq => by
  cases x with
  | int i =>
    cases hx
    cases y with
    | int j => cases hy; exact op_sub pins s σ H _ _ v u Q I rx ry ⟨i, j, rfl, rfl, hq _ _ _ _ hr (.int _) hs (.refl _ _)⟩
    | _ => exact hr.elim
  | _ => exact hr.elim
theorem flatten_rep {K : PySem.W.Frag} {H : Hp} {ds : List D} {vs : List V} (r : RvL K H ds vs) : ∀ n, RvL K H (List.replicate n ds).flatten (List.replicate n vs).flatten
  | 0 => .nil
  | n + 1 => by rw [List.replicate_succ, List.replicate_succ, List.flatten_cons, List.flatten_cons]; exact r.append (flatten_rep r n)
theorem tuple_mul1 (l : Addr) (items : Array Value) (n : Nat) (dd : Option Addr) (sl : Array (Option Value)) (u : Tok) :
    Meets (Builtin.«tuple.__mul__» ⟨[.ref l, .int 1 u], []⟩) (fun _ R s => s.heap.get? l = some { cls := .type "tuple", dict := dd, data := .seq items n, slots := sl } ∧
      R (.ok (.ret (Value.ref l))) s) :=
  .of_wp fun prog w A R s h => by
    obtain ⟨hp, g, d, tk, os⟩ := s
    obtain ⟨hl, h⟩ := h
    have f1 := PySem.AutoSeq1.idx_int
    have c0 : (decide ((1:Int) < -(2 ^ 63)) || decide ((1:Int) ≥ 2 ^ 63)) = false := by decide
    wp_walk using wpAny_loadPart' hl
    exact ⟨_, rfl, h⟩
def rRepT1 (K : PySem.W.Frag) : R2 := fun x y H Q => ∃ l xs, x = .ref l ∧ y = .int 1 ∧ SqT K H l xs ∧ Q (.ref l) H
theorem op_repT1 : OpR X (binaryOp .Mult) (rRepT1 X.K) := by
  intro pins s σ H x y v u Q I rx ry h
  obtain ⟨l, xs, rfl, rfl, hT, q⟩ := h
  cases rx
  obtain ⟨t, rfl⟩ := ry
  obtain ⟨its, r, ⟨⟨cls, dd, data, sl⟩, ho, hc, n, hd⟩, hs⟩ := I.tuple hT
  simp only at hc hd
  subst hc hd
  refine wpAny_binaryOp_repeat_ref (T := "tuple") (U := "int") (by decide) ⟨_, ho, rfl⟩ (fun s' => typeIs_int s' 1 t) noFill_tuple_mul F.fills_int_mul F.slot_int_rmul repeat_tuple F.slot_int_index.lookup
    (call_meets F.slot_int_rmul (typeIs_int s 1 t) F.entry_int_rmul (F.args_int_rmul_2 _ _) (int_rmul_tuple 1 t l its.toArray n dd sl)
      ⟨ho, rfl, ⟨_, ho, rfl⟩, call_meets F.slot_tuple_mul ⟨_, ho, rfl⟩ F.entry_tuple_mul (F.args_tuple_mul_2 _ _) (tuple_mul1 l its.toArray n dd sl t) ⟨ho, ?_⟩⟩)
  exact ⟨.ref l, _, I, rfl, q⟩
theorem dop_mul : OpR X (binaryOp .Mult) (liftO X.K oMul) := dl_op fun pins s σ H x y xv yv v u S Q Q0 I rx ry hx hy hs hr hq => by
  cases x with
  | int i =>
    cases hx
    cases y with
    | int j => cases hy; exact op_mulW pins s σ H _ _ v u Q I rx ry ⟨i, j, rfl, rfl, hr.1, hq _ _ _ _ hr.2 (.int _) hs (.refl _ _)⟩
    | _ => exact hr.elim
  | ref a =>
    cases hx
    cases y with
    | int k =>
      cases hy
      have hr' : (match S a with
        | some (.lst xs) => (-(2 ^ 63) ≤ k ∧ k < 2 ^ 63 ∧ xs.length * k.toNat ≤ 16777216) ∧ ∀ p, S p = none → Q0 (.ref p) (dupd S p (.lst (List.replicate k.toNat xs).flatten))
        | _ => False) := hr
      split at hr'
      · rename_i xs ea
        obtain ⟨vs, h1, r1⟩ := hs.lst ea
        exact op_rep pins s σ H _ _ v u Q I rx ry ⟨a, k, vs, rfl, rfl, h1, hr'.1.1, hr'.1.2.1, by rw [szl, ← r1.length]; exact hr'.1.2.2, fun p hp =>
          hq _ _ _ _ (hr'.2 p (hs.fresh hp)) (.ref p) (hs.new hp ⟨_, upd_same, (Stp.laid (S := S) hp).rvl (flatten_rep r1 _)⟩) (Stp.new hp)⟩
      · exact hr'.elim
    | _ => exact hr.elim
  | tup a =>
    cases y with
    | int k =>
      cases hy
      cases hx with
      | @tup p vs _ q1 r1 =>
        by_cases h1 : k = 1
        · subst h1
          have hr2 : Q0 (.tup (List.replicate 1 a).flatten) S := hr.2
          rw [show (List.replicate 1 a).flatten = a by simp] at hr2
          exact op_repT1 pins s σ H _ _ v u Q I rx ry ⟨p, vs, rfl, rfl, q1, hq _ _ _ _ hr2 (.tup q1 r1) hs (.refl _ _)⟩
        · obtain ⟨⟨c1, c2, c3, c4⟩, hr2⟩ := hr
          have hl := r1.length
          refine op_repT pins s σ H _ _ v u Q I rx ry ⟨p, k, vs, rfl, rfl, q1, fun e => ?_, by omega, c3, by omega, fun p hp => ?_⟩
          · subst e; cases r1; exact c1 rfl
          · exact hq _ _ _ _ hr2 (.tup (.inl (.inl upd_same)) ((Stp.laid (S := S) hp).rvl (flatten_rep r1 _))) (hs.laid hp) (Stp.laid hp)
    | _ => exact hr.elim
  | _ => exact hr.elim
theorem dop_int2 {f : Value → Value → Sem Value} {C : Int → Int → Prop} {g : Int → Int → Int} {r : DR2} (ho : OpR X f (rI C fun i j => .int (g i j)))
    (hr : ∀ x y S Q, r x y S Q → ∃ i j, x = .int i ∧ y = .int j ∧ C i j ∧ Q (.int (g i j)) S) : OpR X f (liftO X.K r) := dl_op fun pins s σ H x y xv yv v u S Q Q0 I rx ry hx hy hs h hq => by
  obtain ⟨i, j, rfl, rfl, c, q⟩ := hr x y S Q0 h
  cases hx
  cases hy
  exact ho pins s σ H _ _ v u Q I rx ry ⟨i, j, rfl, rfl, c, hq _ _ _ _ q (.int _) hs (.refl _ _)⟩
theorem dop_fdv : OpR X (binaryOp .FloorDiv) (liftO X.K oFdv) := dop_int2 op_fdivW fun x y S Q h => by
  cases x with
  | int i =>
    cases y with
    | int j => exact ⟨i, j, rfl, rfl, h.1, h.2⟩
    | _ => exact h.elim
  | _ => exact h.elim
theorem dop_mod : OpR X (binaryOp .Mod) (liftO X.K oMod) := dop_int2 op_mod fun x y S Q h => by
  cases x with
  | int i =>
    cases y with
    | int j => exact ⟨i, j, rfl, rfl, h.1, h.2⟩
    | _ => exact h.elim
  | _ => exact h.elim
theorem dop_pow : OpR X (binaryOp .Pow) (liftO X.K oPow) := dop_int2 op_pow fun x y S Q h => by
  cases x with
  | int i =>
    cases y with
    | int j => exact ⟨i, j, rfl, rfl, h.1, h.2⟩
    | _ => exact h.elim
  | _ => exact h.elim
theorem dop_shl : OpR X (binaryOp .LShift) (liftO X.K oShl) := dop_int2 op_shl fun x y S Q h => by
  cases x with
  | int i =>
    cases y with
    | int j => exact ⟨i, j, rfl, rfl, h.1, h.2⟩
    | _ => exact h.elim
  | _ => exact h.elim
theorem dop_shr : OpR X (binaryOp .RShift) (liftO X.K oShr) := dop_int2 op_shr fun x y S Q h => by
  cases x with
  | int i =>
    cases y with
    | int j => exact ⟨i, j, rfl, rfl, h.1, h.2⟩
    | _ => exact h.elim
  | _ => exact h.elim
theorem dop_int20 {f : Value → Value → Sem Value} {g : Int → Int → Int} {r : DR2} (ho : OpR X f (rI0 fun i j => .int (g i j)))
    (hr : ∀ x y S Q, r x y S Q → ∃ i j, x = .int i ∧ y = .int j ∧ Q (.int (g i j)) S) : OpR X f (liftO X.K r) := dl_op fun pins s σ H x y xv yv v u S Q Q0 I rx ry hx hy hs h hq => by
  obtain ⟨i, j, rfl, rfl, q⟩ := hr x y S Q0 h
  cases hx
  cases hy
  exact ho pins s σ H _ _ v u Q I rx ry ⟨i, j, rfl, rfl, hq _ _ _ _ q (.int _) hs (.refl _ _)⟩
theorem oBit_get {f : Int → Int → Int} (x y : D) (S : DS) (Q : DK) (h : oBit f x y S Q) : ∃ i j, x = .int i ∧ y = .int j ∧ Q (.int (f i j)) S := by
  cases x with
  | int i =>
    cases y with
    | int j => exact ⟨i, j, rfl, rfl, h⟩
    | _ => exact h.elim
  | _ => exact h.elim
theorem dop_and : OpR X (binaryOp .BitAnd) (liftO X.K (oBit Builtin.bitAnd)) := dop_int20 op_and oBit_get
theorem dop_or : OpR X (binaryOp .BitOr) (liftO X.K (oBit Builtin.bitOr)) := dop_int20 op_or oBit_get
theorem dop_xor : OpR X (binaryOp .BitXor) (liftO X.K (oBit Builtin.bitXor)) := dop_int20 op_xor oBit_get
theorem dip_add : OpR X (inplaceOp .Add) (liftO X.K (oBit (· + ·))) := dop_int20 iop_add oBit_get
theorem dip_sub : OpR X (inplaceOp .Sub) (liftO X.K (oBit (· - ·))) := dop_int20 iop_sub oBit_get
theorem dip_and : OpR X (inplaceOp .BitAnd) (liftO X.K (oBit Builtin.bitAnd)) := dop_int20 iop_and oBit_get
theorem dip_or : OpR X (inplaceOp .BitOr) (liftO X.K (oBit Builtin.bitOr)) := dop_int20 iop_or oBit_get
theorem dun_neg : UnR X (unaryOp .USub) (liftU X.K uNeg) := by
  rintro pins s σ H xv v Q I rx ⟨x, S, Q0, hx, hs, hr, hq⟩
  cases x with
  | int i => cases hx; exact un_neg pins s σ H _ v Q I rx ⟨i, rfl, hq _ _ _ _ hr (.int _) hs (.refl _ _)⟩
  | _ => exact hr.elim
theorem Rv.reads {pins : List (Addr × Obj)} {σ : L2.St} {H : Hp} {s : Shared} {S : DS} {d : D} {v : V} {u : Value} (I : Inv X pins σ H s) (hs : Sim X.K S H) (n : Nat) (hp : (d.rd S n).plain = true) (r : Rv X.K H d v) (ru : RelV v u) : ∃ as, Reads s.heap u (d.rd S n).py as :=
  Dp.reads I _ _ _ (Rv.dp_rd hs n d v hp r) ru
theorem dop_eq (hu : X.A.units + 100 < cLine) : OpR X (compareOp .Eq) (liftO X.K (oEq false)) := dl_op fun pins s σ H x y xv yv v u S Q Q0 I rx ry hx hy hs hr hq => by
  obtain ⟨⟨hp1, hp2, hd⟩, hr⟩ := hr
  obtain ⟨as, q1⟩ := Rv.reads I hs 4 hp1 hx rx
  obtain ⟨bs, q2⟩ := Rv.reads I hs 4 hp2 hy ry
  refine PySem.SeqAt.eq_plain q1 q2 (D.plain_py _ hp1) (D.plain_py _ hp2) ?_ ⟨.bl _, H, I, rfl, hq _ _ _ _ hr (by rw [Bool.false_xor]; exact .bl _) hs (.refl _ _)⟩
  rw [D.dep_py _ hp1, D.dep_py _ hp2]
  omega
theorem dop_ne (hu : X.A.units + 100 < cLine) : OpR X (compareOp .NotEq) (liftO X.K (oEq true)) := dl_op fun pins s σ H x y xv yv v u S Q Q0 I rx ry hx hy hs hr hq => by
  obtain ⟨⟨hp1, hp2, hd⟩, hr⟩ := hr
  obtain ⟨as, q1⟩ := Rv.reads I hs 4 hp1 hx rx
  obtain ⟨bs, q2⟩ := Rv.reads I hs 4 hp2 hy ry
  refine PySem.SeqAt.ne_plain q1 q2 (D.plain_py _ hp1) (D.plain_py _ hp2) ?_ ⟨.bl _, H, I, rfl, hq _ _ _ _ hr (by rw [Bool.true_xor]; exact .bl _) hs (.refl _ _)⟩
  rw [D.dep_py _ hp1, D.dep_py _ hp2]
  omega
theorem dop_cmp (hu : X.A.units + 100 < cLine) (o : COp) : OpR X (compareOp o.op) (liftO X.K (oCmp o)) := dl_op fun pins s σ H x y xv yv v u S Q Q0 I rx ry hx hy hs hr hq => by
  have gen : (x.plain = true ∧ y.plain = true ∧ PySem.W.alike x.py y.py = true ∧ x.py ≠ .none ∧ x.dep ≤ 50) ∧ Q0 (.bl (o.dat x.py y.py)) S → wpAny (model X.prog X.w) X.A (compareOp o.op v u) (EP X pins σ Q) X.xe s := by
    rintro ⟨⟨hp1, hp2, ha, hn, hd⟩, hr⟩
    obtain ⟨as, q1⟩ := Dp.reads I _ _ _ (Rv.dp x xv hp1 hx) rx
    obtain ⟨bs, q2⟩ := Dp.reads I _ _ _ (Rv.dp y yv hp2 hy) ry
    have hdep : X.A.units + min x.py.depth y.py.depth < cLine := by rw [D.dep_py _ hp1]; omega
    have fin : EP X pins σ Q (.bool (o.dat x.py y.py)) s := ⟨.bl _, H, I, rfl, hq _ _ _ _ hr (.bl _) hs (.refl _ _)⟩
    cases o with
    | lt => exact PySem.W.lt_data q1 q2 ha hn hdep fin
    | le => exact PySem.W.le_data q1 q2 ha hn hdep fin
    | gt => exact PySem.W.gt_data q1 q2 ha hn hdep fin
    | ge => exact PySem.W.ge_data q1 q2 ha hn hdep fin
  cases x with
  | int i =>
    cases y with
    | int j =>
      cases hx
      cases hy
      have fin := hq _ _ _ _ hr (.bl _) hs (.refl _ _)
      cases o with
      | lt => exact op_lt pins s σ H _ _ v u Q I rx ry ⟨i, j, rfl, rfl, fin⟩
      | le => exact op_le pins s σ H _ _ v u Q I rx ry ⟨i, j, rfl, rfl, fin⟩
      | gt => exact op_gt pins s σ H _ _ v u Q I rx ry ⟨i, j, rfl, rfl, fin⟩
      | ge => exact op_ge pins s σ H _ _ v u Q I rx ry ⟨i, j, rfl, rfl, fin⟩
    | _ => exact gen hr
  | _ => exact gen hr
theorem dop_is : OpR X (compareOp .Is) (liftO X.K (oIs false)) := dl_op fun pins s σ H x y xv yv v u S Q Q0 I rx ry hx hy hs hr hq => by
  cases y with
  | non =>
    cases hy
    refine op_isN pins s σ H _ _ v u Q I rx ry ⟨rfl, ?_⟩
    cases hx <;> exact hq _ _ _ _ hr (.bl _) hs (.refl _ _)
  | bl b =>
    cases x with
    | bl c =>
      cases hx
      cases hy
      refine op_isBl pins s σ H _ _ v u Q I rx ry ⟨c, b, rfl, rfl, hq _ _ _ _ hr (by rw [Bool.false_xor]; exact .bl _) hs (.refl _ _)⟩
    | _ => exact hr.elim
  | _ => exact hr.elim
theorem dop_isnot : OpR X (compareOp .IsNot) (liftO X.K (oIs true)) := dl_op fun pins s σ H x y xv yv v u S Q Q0 I rx ry hx hy hs hr hq => by
  cases y with
  | non =>
    cases hy
    refine op_notN pins s σ H _ _ v u Q I rx ry ⟨rfl, ?_⟩
    cases hx <;> exact hq _ _ _ _ hr (.bl _) hs (.refl _ _)
  | bl b =>
    cases x with
    | bl c =>
      cases hx
      cases hy
      refine op_notBl pins s σ H _ _ v u Q I rx ry ⟨c, b, rfl, rfl, hq _ _ _ _ hr (by rw [Bool.true_xor]; exact .bl _) hs (.refl _ _)⟩
    | _ => exact hr.elim
  | _ => exact hr.elim
theorem any_py (d : D) : ∀ xs : List D, ((D.pyL xs).any fun y => PyData.eqv y d.py) = xs.any fun e => D.eqv e d
  | [] => rfl
  | x :: xs => by rw [D.pyL, List.any_cons, List.any_cons, any_py d xs]; rfl
theorem rd_seq {K : PySem.W.Frag} {H : Hp} {S : DS} {y : D} {yv : V} {xs : List D} (hs : Sim K S H) (hy : Rv K H y yv) (e : seqOf S y = some xs) (hp : D.plainL (xs.map (D.rd S 3)) = true) :
    Dp K H yv (.list (D.pyL (xs.map (D.rd S 3)))) ∨ Dp K H yv (.tuple (D.pyL (xs.map (D.rd S 3)))) := by
  cases y with
  | tup zs =>
    cases e
    have := Rv.dp_rd hs 4 (.tup xs) yv (by rw [D.rd, D.plain]; exact hp) hy
    rw [D.rd, D.py] at this
    exact .inr this
  | fl zs =>
    cases e
    have := Rv.dp_rd hs 4 (.fl xs) yv (by rw [D.rd, D.plain]; exact hp) hy
    rw [D.rd, D.py] at this
    exact .inl this
  | ref a =>
    rw [seqOf] at e
    split at e
    · rename_i ea
      cases e
      have e4 : D.rd S 4 (.ref a) = .fl (xs.map (D.rd S 3)) := by rw [D.rd, ea]
      have := Rv.dp_rd hs 4 (.ref a) yv (by rw [e4, D.plain]; exact hp) hy
      rw [e4, D.py] at this
      exact .inl this
    · cases e
  | _ => cases e
theorem dop_in (hu : X.A.units + 100 < cLine) : OpR X (compareOp .In) (liftO X.K (oIn false)) := dl_op fun pins s σ H x y xv yv v u S Q Q0 I rx ry hx hy hs hr hq => by
  rw [oIn] at hr
  split at hr
  · rename_i xs e
    obtain ⟨⟨hp1, hp2, hd⟩, hr⟩ := hr
    obtain ⟨as, q1⟩ := Rv.reads I hs 3 hp1 hx rx
    have fin : EP X pins σ Q (.bool ((D.pyL (xs.map (D.rd S 3))).any fun e => PyData.eqv e (x.rd S 3).py)) s := ⟨.bl _, H, I, rfl, hq _ _ _ _ hr (by rw [Bool.false_xor, any_py]; exact .bl _) hs (.refl _ _)⟩
    have hdep : X.A.units + 1 + min (PyData.depthAll (D.pyL (xs.map (D.rd S 3)))) (x.rd S 3).py.depth < cLine := by rw [D.dep_py _ hp1]; omega
    rcases rd_seq hs hy e hp2 with q | q
    · obtain ⟨bs, q2⟩ := Dp.reads I _ _ _ q ry
      exact PySem.SeqAt.in_list_data q2 q1 (D.plainL_py _ hp2) (D.plain_py _ hp1) hdep fin
    · obtain ⟨bs, q2⟩ := Dp.reads I _ _ _ q ry
      exact PySem.SeqAt.in_tuple_data q2 q1 (D.plainL_py _ hp2) (D.plain_py _ hp1) hdep fin
  · exact hr.elim
theorem dop_notin (hu : X.A.units + 100 < cLine) : OpR X (compareOp .NotIn) (liftO X.K (oIn true)) := dl_op fun pins s σ H x y xv yv v u S Q Q0 I rx ry hx hy hs hr hq => by
  rw [oIn] at hr
  split at hr
  · rename_i xs e
    obtain ⟨⟨hp1, hp2, hd⟩, hr⟩ := hr
    obtain ⟨as, q1⟩ := Rv.reads I hs 3 hp1 hx rx
    have fin : EP X pins σ Q (.bool (!(D.pyL (xs.map (D.rd S 3))).any fun e => PyData.eqv e (x.rd S 3).py)) s := ⟨.bl _, H, I, rfl, hq _ _ _ _ hr (by rw [Bool.true_xor, any_py]; exact .bl _) hs (.refl _ _)⟩
    have hdep : X.A.units + 1 + min (PyData.depthAll (D.pyL (xs.map (D.rd S 3)))) (x.rd S 3).py.depth < cLine := by rw [D.dep_py _ hp1]; omega
    rcases rd_seq hs hy e hp2 with q | q
    · obtain ⟨bs, q2⟩ := Dp.reads I _ _ _ q ry
      exact PySem.SeqAt.notIn_list_data q2 q1 (D.plainL_py _ hp2) (D.plain_py _ hp1) hdep fin
    · obtain ⟨bs, q2⟩ := Dp.reads I _ _ _ q ry
      exact PySem.SeqAt.notIn_tuple_data q2 q1 (D.plainL_py _ hp2) (D.plain_py _ hp1) hdep fin
  · exact hr.elim
end
def oIx : DR2 := fun x y S Q => match y with
  | .int i => match x with
    | .str z => z.length ≤ 16777216 ∧ match atI z.cps.toList i with
      | some c => Q (.str ⟨#[c]⟩) S
      | none => False
    | x => match seqOf S x with
      | some xs => match atI xs i with
        | some d => Q d S
        | none => False
      | none => False
  | _ => False
theorem RvL.atI {K : PySem.W.Frag} {H : Hp} {ds : List D} {vs : List V} {i : Int} {d : D} (r : RvL K H ds vs) (h : L2.atI ds i = some d) : ∃ v, L2.atI vs i = some v ∧ Rv K H d v := by
  unfold L2.atI at h ⊢
  rw [← r.length]
  cases e : ixN ds.length i with
  | none => rw [e] at h; cases h
  | some j =>
    rw [e] at h
    exact r.get h
section
variable {X : Cx} {e a b : Expr} {te ta tb : DE} {pos p2 : Pos}
theorem dix : IxR X (liftO X.K oIx) := by
  rintro value slice pins s σ H xv yv v u Q I rx ry ⟨x, y, S, Q0, hx, hy, hs, hr, hq⟩ hsub
  cases y with
  | int i =>
    cases hy
    have seq : ∀ xs d, seqOf S x = some xs → L2.atI xs i = some d → Q0 d S → wpAny (model X.prog X.w) X.A (subscriptTail value slice v u) (EP X pins σ Q) X.xe s := fun xs d e1 e2 q => by
      obtain ⟨p, vs, rfl, hv, r⟩ := seq_of hs hx e1
      obtain ⟨w, h1, h2⟩ := r.atI e2
      rcases hv with hv | hv
      · exact ix_list value slice pins s σ H _ _ v u Q I rx ry ⟨p, vs, i, w, rfl, rfl, hv, h1, hq d S w H q h2 hs (.refl _ _)⟩ hsub
      · exact ix_tup value slice pins s σ H _ _ v u Q I rx ry ⟨p, vs, i, w, rfl, rfl, hv, h1, hq d S w H q h2 hs (.refl _ _)⟩ hsub
    have gen : (match seqOf S x with
      | some xs => match L2.atI xs i with
        | some d => Q0 d S
        | none => False
      | none => False) → wpAny (model X.prog X.w) X.A (subscriptTail value slice v u) (EP X pins σ Q) X.xe s := fun h => by
      split at h
      · rename_i xs e1
        split at h
        · rename_i d e2
          exact seq xs d e1 e2 h
        · exact h.elim
      · exact h.elim
    cases x with
    | str z =>
      cases hx
      have hr' : z.length ≤ 16777216 ∧ (match L2.atI z.cps.toList i with
        | some c => Q0 (.str ⟨#[c]⟩) S
        | none => False) := hr
      obtain ⟨hz, hr'⟩ := hr'
      split at hr'
      · rename_i c e1
        exact ix_str value slice pins s σ H _ _ v u Q I rx ry ⟨z, i, c, rfl, rfl, by rw [szl]; exact hz, e1, hq _ S _ H hr' (.str _) hs (.refl _ _)⟩ hsub
      · exact hr'.elim
    | _ => exact gen hr
  | _ => exact hr.elim
theorem qe_ix (ha : PE X a (liftE X.K ta)) (hb : PE X b (liftE X.K tb)) (hs : PlainIx b) : PE X (.Subscript a b pos) (liftE X.K (dOp oIx ta tb)) := PE.imp (pe_ix dix ha hb hs) lift_op
abbrev DO' := Loc → DS → (Option Int → DS → Prop) → Prop
def liftP (K : PySem.W.Frag) (t : DO') : TO := fun σ H Q => ∃ δ S Q0, Rst K H δ σ ∧ Sim K S H ∧ t δ S Q0 ∧ ∀ o S' H', Q0 o S' → Sim K S' H' → Stp S H S' H' → Q o H'
def dNoPart : DO' := fun _ S Q => Q none S
def dPart (t : DE) : DO' := fun δ S Q => t δ S fun x S1 => match x with
  | .int i => Q (some i) S1
  | _ => False
theorem PO.imp {e : Option Expr} {t t' : TO} (p : PO X e t) (h : ∀ σ H Q, t' σ H Q → t σ H Q) : PO X e t' := ⟨fun pins s σ H Q I hw => p.run pins s σ H Q I (h _ _ _ hw)⟩
theorem qo_none : PO X none (liftP X.K dNoPart) := PO.imp po_none fun σ H Q ⟨δ, S, Q0, hr, hs, h, hq⟩ => hq _ _ _ h hs (.refl _ _)
theorem qo_some (h : PE X e (liftE X.K te)) : PO X (some e) (liftP X.K (dPart te)) := PO.imp (po_some h) fun σ H Q ⟨δ, S, Q0, hr, hs, h, hq⟩ => ⟨δ, S, _, hr, hs, h, fun x S1 v H1 q r s1 a1 => by
  cases x with
  | int i => cases r; exact ⟨i, rfl, hq _ _ _ q s1 a1⟩
  | _ => exact q.elim⟩
def dcut {α : Type} (xs : List α) (lo hi : Option Int) : List α := (xs.drop (HT.sIx xs.length 0 lo)).take (HT.sIx xs.length xs.length hi - HT.sIx xs.length 0 lo)
theorem RvL.cut {K : PySem.W.Frag} {H : Hp} {ds : List D} {vs : List V} {lo hi : Option Int} (r : RvL K H ds vs) : RvL K H (dcut ds lo hi) (cutV vs lo hi) := by
  unfold dcut cutV
  rw [← r.length]
  exact (r.drop _).take _
def oSl (x : D) (lo hi : Option Int) (S : DS) (Q : DK) : Prop := match x with
  | .tup xs => Q (.tup (dcut xs lo hi)) S
  | .str z => z.length ≤ 16777216 ∧ Q (.str (cutS z lo hi)) S
  | x => match lstOf S x with
    | some xs => ∀ p, S p = none → Q (.ref p) (dupd S p (.lst (dcut xs lo hi)))
    | none => False
def liftSl (K : PySem.W.Frag) : V → Option Int → Option Int → Hp → VK → Prop := fun x lo hi H Q => ∃ d S Q0, Rv K H d x ∧ Sim K S H ∧ oSl d lo hi S Q0 ∧ ∀ d S' v H', Q0 d S' → Rv K H' d v → Sim K S' H' → Stp S H S' H' → Q v H'
theorem cut_whole {α : Type} {xs : List α} {lo hi : Option Int} (h : HT.sIx xs.length 0 lo = 0 ∧ HT.sIx xs.length xs.length hi = xs.length) : dcut xs lo hi = xs := by
  unfold dcut
  rw [h.1, h.2]
  simp
theorem dsl : SlR X (liftSl X.K) := by
  rintro pins s σ H xv v vl vu lo hi sl Q I rx hsl pl pu ⟨d, S, Q0, hd, hs, hr, hq⟩
  have lst : ∀ xs, lstOf S d = some xs → (∀ p, S p = none → Q0 (.ref p) (dupd S p (.lst (dcut xs lo hi)))) →
      ∃ T id, typeLookup (.type T) "__getitem__" = pure (some (.builtin id)) ∧ s.TypeIs v T ∧ wpAny (model X.prog X.w) X.A (getItem v (.ref sl)) (EP X pins σ Q) X.xe s := fun xs e h => by
    obtain ⟨a, vs, rfl, hv, r⟩ := lst_of hs hd e
    exact sl_list pins s σ H _ v vl vu lo hi sl Q I rx hsl pl pu ⟨a, vs, rfl, hv, fun p hp => hq _ _ _ _ (h p (hs.fresh hp)) (.ref p) (hs.new hp ⟨_, upd_same, (Stp.laid (S := S) hp).rvl r.cut⟩) (Stp.new hp)⟩
  cases d with
  | tup xs =>
    cases hd with
    | @tup a vs _ q r =>
      refine sl_tupA pins s σ H _ v vl vu lo hi sl Q I rx hsl pl pu ⟨a, vs, rfl, q, fun w => ?_, fun w p hp => ?_⟩
      · rw [← r.length] at w
        have hr' : Q0 (.tup (dcut xs lo hi)) S := hr
        rw [cut_whole w] at hr'
        exact hq _ _ _ _ hr' (.tup q r) hs (.refl _ _)
      · exact hq _ _ _ _ hr (.tup (.inl (.inl upd_same)) ((Stp.laid (S := S) hp).rvl r.cut)) (hs.laid hp) (Stp.laid hp)
  | str z =>
    cases hd
    exact sl_str pins s σ H _ v vl vu lo hi sl Q I rx hsl pl pu ⟨z, rfl, by rw [szl]; exact hr.1, hq _ _ _ _ hr.2 (.str _) hs (.refl _ _)⟩
  | ref a =>
    have hr' : (match lstOf S (.ref a) with
      | some xs => ∀ p, S p = none → Q0 (.ref p) (dupd S p (.lst (dcut xs lo hi)))
      | none => False) := hr
    split at hr'
    · rename_i xs e; exact lst xs e hr'
    · exact hr'.elim
  | fl xs => exact lst xs rfl hr
  | _ => exact hr.elim
def dSl (te : DE) (lo hi : DO') : DE := fun δ S Q => te δ S fun x S1 => lo δ S1 fun l S2 => hi δ S2 fun u S3 => oSl x l u S3 Q
theorem qe_slice {lo hi : Option Expr} {tl th : DO'} (he : PE X e (liftE X.K te)) (hl : PO X lo (liftP X.K tl)) (hu : PO X hi (liftP X.K th)) : PE X (.Subscript e (.Slice lo hi none p2) pos) (liftE X.K (dSl te tl th)) :=
  PE.imp (pe_slice dsl he hl hu) fun σ H Q ⟨δ, S, Q0, hr, hs, h, hq⟩ => ⟨δ, S, _, hr, hs, h, fun x S1 v H1 h1 r1 s1 a1 => ⟨δ, S1, _, hr.stp a1, s1, h1, fun l S2 H2 h2 s2 a2 => ⟨δ, S2, _, hr.stp (a1.trans a2), s2, h2, fun u S3 H3 h3 s3 a3 =>
    ⟨x, S3, _, (a2.trans a3).rv r1, s3, h3, fun d S' v H' q r s a => hq d S' v H' q r s (((a1.trans a2).trans a3).trans a)⟩⟩⟩⟩
/-- xs[i] = v -/
def sIx : DSet := fun o i v S Q => match o, i with
  | .ref a, .int k => match S a with
    | some (.lst xs) => match ixN xs.length k with
      | some j => Q (dupd S a (.lst (xs.set j v)))
      | none => False
    | _ => False
  | _, _ => False
theorem dset_ix : PSet X (liftSet X.K sIx) := by
  rintro pins s σ H o i v ov iv u Q I ro ri rv ⟨od, id, vd, S, Q0, ho, hi, hv, hs, hr, hq⟩
  cases od with
  | ref a =>
    cases ho
    cases id with
    | int k =>
      cases hi
      have hr' : (match S a with
        | some (.lst xs) => match ixN xs.length k with
          | some j => Q0 (dupd S a (.lst (xs.set j vd)))
          | none => False
        | _ => False) := hr
      split at hr'
      · rename_i xs ea
        split at hr'
        · rename_i j ej
          obtain ⟨vs, h1, r⟩ := hs.lst ea
          refine set_list pins s σ H _ _ v ov iv u Q I ro ri rv ⟨a, vs, k, j, rfl, rfl, h1, by rw [← r.length]; exact ej, hq _ _ hr' (hs.write ea ⟨_, upd_same, ?_⟩) (Stp.write hs ea)⟩
          exact RvL.updL h1 (r.set hv j)
        · exact hr'.elim
      · exact hr'.elim
    | _ => exact hr.elim
  | _ => exact hr.elim
end
def lenOf (S : DS) : D → Option Nat
  | .str z => if z.length ≤ 16777216 then some z.length else none
  | d => (seqOf S d).map (·.length)
def bLen : DRs := fun ds S Q => match ds with
  | [d] => match lenOf S d with
    | some n => Q (.int n) S
    | none => False
  | _ => False
def bInt : DRs := fun ds S Q => match ds with
  | [.int i] => Q (.int i) S
  | [.bl k] => Q (.int (if k then 1 else 0)) S
  | _ => False
def bAbs : DRs := fun ds S Q => match ds with
  | [.int i] => Q (.int (if i < 0 then -i else i)) S
  | _ => False
def bMax2 : DRs := fun ds S Q => match ds with
  | [.int i, .int j] => Q (.int (if j > i then j else i)) S
  | _ => False
def bMin2 : DRs := fun ds S Q => match ds with
  | [.int i, .int j] => Q (.int (if j < i then j else i)) S
  | _ => False
def bList : DRs := fun ds S Q => match ds with
  | [d] => match seqOf S d with
    | some xs => ∀ p, S p = none → Q (.ref p) (dupd S p (.lst xs))
    | none => False
  | _ => False
def bTuple : DRs := fun ds S Q => match ds with
  | [d] => match seqOf S d with
    | some xs => Q (.tup xs) S
    | none => False
  | _ => False
def tyName (S : DS) : D → Option String
  | .non => some "NoneType" | .bl _ => some "bool" | .int _ => some "int" | .str _ => some "str" | .tup _ => some "tuple" | .fl _ => some "list" | .ty _ => none
  | .ref a => match S a with
    | some (.lst _) => some "list"
    | _ => none
def isi (t T : String) : Bool := t == T || (t == "bool" && T == "int")
def knownTy (t : String) : Bool := t == "bool" || t == "int" || t == "str" || t == "tuple" || t == "list"
def bIsi : DRs := fun ds S Q => match ds with
  | [x, .ty T] => match tyName S x with
    | some t => knownTy T = true ∧ Q (.bl (isi t T)) S
    | none => False
  | [x, .tup [.ty T, .ty U]] => match tyName S x with
    | some t => (knownTy T = true ∧ knownTy U = true) ∧ Q (.bl (isi t T || isi t U)) S
    | none => False
  | _ => False
def dle (a b : D) : Bool := PySem.W.dataLe false D.py a b
def bSorted : DRs := fun ds S Q => match ds with
  | [d] => match lstOf S d with
    | some xs => ((∀ x ∈ xs, x.plain = true ∧ x.dep ≤ 50) ∧ PySem.W.AllAlike (xs.map D.py) ∧ PySem.W.Sortable (xs.map D.py)) ∧ ∀ p, S p = none → Q (.ref p) (dupd S p (.lst (xs.mergeSort dle)))
    | none => False
  | _ => False
def bSum : DRs := fun ds S Q => match ds with
  | [d] => match lstOf S d with
    | some xs => ∃ ns : List Int, xs = ns.map D.int ∧ Q (.int ns.sum) S
    | none => False
  | _ => False
def bAny : DRs := fun ds S Q => match ds with
  | [d] => match lstOf S d with
    | some xs => ∃ bs : List Bool, xs = bs.map D.bl ∧ Q (.bl (bs.any id)) S
    | none => False
  | _ => False
def bAll : DRs := fun ds S Q => match ds with
  | [d] => match lstOf S d with
    | some xs => ∃ bs : List Bool, xs = bs.map D.bl ∧ Q (.bl (bs.all id)) S
    | none => False
  | _ => False
section
variable {X : Cx}
theorem dl_call {f : Value} {r : DRs}
    (h : ∀ (pins : List (Addr × Obj)) (s : Shared) (σ : L2.St) (H : Hp) (ds : List D) (xs : List V) (us : List Value) (S : DS) (Q : VK) (Q0 : DK), Inv X pins σ H s → Vals xs us → RvL X.K H ds xs → Sim X.K S H → r ds S Q0 →
      (∀ d S' v H', Q0 d S' → Rv X.K H' d v → Sim X.K S' H' → Stp S H S' H' → Q v H') → wpAny (model X.prog X.w) X.A (call f us) (EP X pins σ Q) X.xe s) : CallR X f (liftC X.K r) := by
  rintro pins s σ H xs us Q I rx ⟨ds, S, Q0, hx, hs, hr, hq⟩
  exact h pins s σ H ds xs us S Q Q0 I rx hx hs hr hq
theorem RvL.one {K : PySem.W.Frag} {H : Hp} {d : D} {vs : List V} (r : RvL K H [d] vs) : ∃ v, vs = [v] ∧ Rv K H d v := by
  cases r with
  | cons q rr => cases rr; exact ⟨_, rfl, q⟩
theorem RvL.two {K : PySem.W.Frag} {H : Hp} {d e : D} {vs : List V} (r : RvL K H [d, e] vs) : ∃ v w, vs = [v, w] ∧ Rv K H d v ∧ Rv K H e w := by
  cases r with
  | cons q rr =>
    obtain ⟨w, rfl, q2⟩ := rr.one
    exact ⟨_, w, rfl, q, q2⟩
theorem dcall_len : CallR X (.builtin "len") (liftC X.K bLen) := dl_call fun pins s σ H ds xs us S Q Q0 I ru rv hs hr hq => by
  match ds, hr, rv with
  | [d], hr, rv =>
    obtain ⟨v, rfl, rd⟩ := rv.one
    have hr' : (match lenOf S d with
      | some n => Q0 (.int n) S
      | none => False) := hr
    split at hr'
    · rename_i n e
      have seq : (seqOf S d).map (·.length) = some n → wpAny (model X.prog X.w) X.A (call (.builtin "len") us) (EP X pins σ Q) X.xe s := fun e => by
        obtain ⟨zs, e1, e2⟩ := Option.map_eq_some_iff.mp e
        obtain ⟨a, ws, rfl, hv, r⟩ := seq_of hs rd e1
        refine call_len_seq pins s σ H _ us Q I ru ⟨a, ws, rfl, hv, hq _ _ _ _ hr' ?_ hs (.refl _ _)⟩
        rw [← e2, r.length]; exact .int _
      cases d with
      | str z =>
        cases rd
        rw [lenOf] at e
        split at e
        · rename_i hz
          cases e
          exact call_len_str pins s σ H _ us Q I ru ⟨z, rfl, by rw [szl]; exact hz, hq _ _ _ _ hr' (.int _) hs (.refl _ _)⟩
        · cases e
      | tup _ => exact seq e
      | fl _ => exact seq e
      | ref _ => exact seq e
      | _ => cases e
    · exact hr'.elim
theorem dcall_int : CallR X (.type "int") (liftC X.K bInt) := dl_call fun pins s σ H ds xs us S Q Q0 I ru rv hs hr hq => by
  match ds, hr, rv with
  | [.int i], hr, rv =>
    obtain ⟨v, rfl, rd⟩ := rv.one
    cases rd
    exact call_int1 pins s σ H _ us Q I ru (.inl ⟨i, rfl, hq _ _ _ _ hr (.int _) hs (.refl _ _)⟩)
  | [.bl k], hr, rv =>
    obtain ⟨v, rfl, rd⟩ := rv.one
    cases rd
    exact call_int1 pins s σ H _ us Q I ru (.inr ⟨k, rfl, hq _ _ _ _ hr (.int _) hs (.refl _ _)⟩)
theorem dcall_abs : CallR X (.builtin "abs") (liftC X.K bAbs) := dl_call fun pins s σ H ds xs us S Q Q0 I ru rv hs hr hq => by
  match ds, hr, rv with
  | [.int i], hr, rv =>
    obtain ⟨v, rfl, rd⟩ := rv.one
    cases rd
    exact call_abs pins s σ H _ us Q I ru ⟨i, rfl, hq _ _ _ _ hr (.int _) hs (.refl _ _)⟩
theorem dcall_max2 (hc : X.calm = true) : CallR X (.builtin "max") (liftC X.K bMax2) := dl_call fun pins s σ H ds xs us S Q Q0 I ru rv hs hr hq => by
  match ds, hr, rv with
  | [.int i, .int j], hr, rv =>
    obtain ⟨v, w, rfl, rd, re⟩ := rv.two
    cases rd
    cases re
    exact call_max2 hc pins s σ H _ us Q I ru ⟨i, j, rfl, hq _ _ _ _ hr (.int _) hs (.refl _ _)⟩
theorem dcall_min2 (hc : X.calm = true) : CallR X (.builtin "min") (liftC X.K bMin2) := dl_call fun pins s σ H ds xs us S Q Q0 I ru rv hs hr hq => by
  match ds, hr, rv with
  | [.int i, .int j], hr, rv =>
    obtain ⟨v, w, rfl, rd, re⟩ := rv.two
    cases rd
    cases re
    exact call_min2 hc pins s σ H _ us Q I ru ⟨i, j, rfl, hq _ _ _ _ hr (.int _) hs (.refl _ _)⟩
theorem dcall_list : CallR X (.type "list") (liftC X.K bList) := dl_call fun pins s σ H ds xs us S Q Q0 I ru rv hs hr hq => by
  match ds, hr, rv with
  | [d], hr, rv =>
    obtain ⟨v, rfl, rd⟩ := rv.one
    have hr' : (match seqOf S d with
      | some xs => ∀ p, S p = none → Q0 (.ref p) (dupd S p (.lst xs))
      | none => False) := hr
    split at hr'
    · rename_i zs e
      obtain ⟨a, ws, rfl, hv, r⟩ := seq_of hs rd e
      exact call_list_of pins s σ H _ us Q I ru ⟨a, ws, rfl, hv, fun p hp => hq _ _ _ _ (hr' p (hs.fresh hp)) (.ref p) (hs.new hp ⟨_, upd_same, (Stp.laid (S := S) hp).rvl r⟩) (Stp.new hp)⟩
    · exact hr'.elim
theorem dcall_tuple : CallR X (.type "tuple") (liftC X.K bTuple) := dl_call fun pins s σ H ds xs us S Q Q0 I ru rv hs hr hq => by
  match ds, hr, rv with
  | [d], hr, rv =>
    obtain ⟨v, rfl, rd⟩ := rv.one
    have hr' : (match seqOf S d with
      | some xs => Q0 (.tup xs) S
      | none => False) := hr
    split at hr'
    · rename_i zs e
      obtain ⟨a, ws, rfl, hv, r⟩ := seq_of hs rd e
      refine call_tuple_of pins s σ H _ us Q I ru ⟨a, ws, rfl, ?_⟩
      rcases hv with hv | hv
      · exact .inl ⟨hv, fun p hp => hq _ _ _ _ hr' (.tup (.inl (.inl upd_same)) ((Stp.laid (S := S) hp).rvl r)) (hs.laid hp) (Stp.laid hp)⟩
      · exact .inr ⟨hv, hq _ _ _ _ hr' (.tup hv r) hs (.refl _ _)⟩
    · exact hr'.elim
theorem tyx_of {K : PySem.W.Frag} {H : Hp} {S : DS} {d : D} {v : V} {t : String} (hs : Sim K S H) (r : Rv K H d v) (h : tyName S d = some t) : TyX K H v (.type t) := by
  cases d with
  | non => cases r; cases h; exact .base .non
  | bl b => cases r; cases h; exact .base (.bl _)
  | int b => cases r; cases h; exact .base (.int _)
  | str b => cases r; cases h; exact .base (.str _)
  | tup xs =>
    cases h
    cases r with
    | tup q rr =>
      rcases q with (q | ⟨o, q⟩) | ⟨o, its, n, q, c, _⟩
      · exact .base (.tup q)
      · exact .fTuple q
      · exact .kTuple q c
  | fl xs =>
    cases h
    cases r with
    | fl q rr =>
      rcases q with ⟨o, q⟩ | ⟨o, its, n, q, c, _⟩
      · exact .base (.frz q)
      · exact .kList q c
  | ref a =>
    cases r
    rw [tyName] at h
    split at h
    · rename_i e
      cases h
      obtain ⟨vs, hv, _⟩ := hs.lst e
      exact .base (.lst hv)
    · cases h
  | ty _ => cases h
theorem kit_isi {K : PySem.W.Frag} {S : DS} {d : D} {t T : String} (h : tyName S d = some t) (k : knownTy T = true) : PySem.W.kitOne K (.type t) (.type T) = some (isi t T) := by
  have ht : t = "NoneType" ∨ t = "bool" ∨ t = "int" ∨ t = "str" ∨ t = "tuple" ∨ t = "list" := by
    cases d <;> simp [tyName] at h
    all_goals first | (subst h; simp) | skip
    · split at h
      · cases h; simp
      · cases h
  have hT : T = "bool" ∨ T = "int" ∨ T = "str" ∨ T = "tuple" ∨ T = "list" := by
    unfold knownTy at k
    simp only [Bool.or_eq_true, beq_iff_eq] at k
    rcases k with (((k | k) | k) | k) | k <;> simp [k]
  rcases ht with rfl | rfl | rfl | rfl | rfl | rfl <;> rcases hT with rfl | rfl | rfl | rfl | rfl <;> exact kit_ty (by decide +kernel)
theorem dcall_isi : CallR X (.builtin "isinstance") (liftC X.K bIsi) := dl_call fun pins s σ H ds xs us S Q Q0 I ru rv hs hr hq => by
  match ds, hr, rv with
  | [x, .ty T], hr, rv =>
    obtain ⟨v, w, rfl, rd, re⟩ := rv.two
    cases re
    have hr' : (match tyName S x with
      | some t => knownTy T = true ∧ Q0 (.bl (isi t T)) S
      | none => False) := hr
    split at hr'
    · rename_i t e
      exact call_isi pins s σ H _ us Q I ru ⟨v, _, _, _, _, rfl, .ty T, tyx_of hs rd e, kit_isi e hr'.1, hq _ _ _ _ hr'.2 (.bl _) hs (.refl _ _)⟩
    · exact hr'.elim
  | [x, .tup [.ty T, .ty U]], hr, rv =>
    obtain ⟨v, w, rfl, rd, re⟩ := rv.two
    have hr' : (match tyName S x with
      | some t => (knownTy T = true ∧ knownTy U = true) ∧ Q0 (.bl (isi t T || isi t U)) S
      | none => False) := hr
    split at hr'
    · rename_i t e
      have hk : PySem.W.kitAny X.K (.type t) [.type T, .type U] = some (isi t T || isi t U) := by
        refine kitAny_cons (kit_isi e hr'.1.1) (fun h1 => ?_) (fun h1 => by rw [h1]; rfl)
        rw [h1, Bool.false_or]
        exact kitAny_cons (kit_isi e hr'.1.2) (fun h2 => by rw [h2]; exact kitAny_nil) (fun h2 => h2)
      cases re with
      | @tup tp cs _ q rr =>
        obtain ⟨c1, c2, rfl, k1, k2⟩ := rr.two
        cases k1
        cases k2
        have fin := hq _ _ _ _ hr'.2 (.bl _) hs (.refl _ _)
        obtain ⟨u1, u2, rfl, r1, r2⟩ := vals2 ru
        cases (show u2 = Value.ref tp from r2)
        obtain ⟨P, Z, p, hx⟩ := kit_of I r1 (tyx_of hs rd e)
        obtain ⟨its, rv3, ⟨o, h1, h2, n, h3⟩, _⟩ := I.tuple q
        have e3 : its = [.type T, .type U] := by
          cases rv3 with
          | cons a b =>
            cases b with
            | cons c d => cases d; cases a; cases c; rfl
        subst e3
        obtain ⟨oc, od, dt, sl⟩ := o
        simp only at h2 h3
        subst h2 h3
        exact PySem.W.kia_tup Z I.kIn p h1 hk hx fun tk => ⟨.bl _, H, I.tok tk, .refl _, fin⟩
    · exact hr'.elim
theorem EachIs.rvl {K : PySem.W.Frag} {H : Hp} : ∀ {us : List Value} {ds : List D}, PySem.W.EachIs (fun u d => ∃ v, RelV v u ∧ Rv K H d v) us ds → ∃ vs, Vals vs us ∧ RvL K H ds vs
  | _, _, .nil => ⟨[], .nil, .nil⟩
  | _, _, .cons ⟨v, h1, h2⟩ t => by
    obtain ⟨vs, h3, h4⟩ := EachIs.rvl t
    exact ⟨v :: vs, .cons h1 h3, .cons h2 h4⟩
theorem RvL.each {K : PySem.W.Frag} {H : Hp} : ∀ {us : List Value} {vs : List V} {ds : List D}, Vals vs us → RvL K H ds vs → PySem.W.EachIs (fun u d => ∃ v, RelV v u ∧ Rv K H d v) us ds
  | _, _, [], r, h => by cases h; cases r; exact .nil
  | _, _, d :: ds, r, h => by
    cases h with
    | cons a b =>
      cases r with
      | cons c e => exact .cons ⟨_, c, a⟩ (RvL.each e b)
theorem each_reads {pins : List (Addr × Obj)} {σ : L2.St} {H : Hp} {s : Shared} (I : Inv X pins σ H s) : ∀ {us : List Value} {vs : List V} {ds : List D}, (∀ x ∈ ds, x.plain = true ∧ x.dep ≤ 50) → Vals vs us → RvL X.K H ds vs →
    PySem.W.EachIs (fun u d => ∃ as, Reads s.heap u d.py as) us ds
  | _, _, [], _, r, h => by cases h; cases r; exact .nil
  | _, _, d :: ds, hp, r, h => by
    cases h with
    | cons a b =>
      cases r with
      | cons c e => exact .cons (Dp.reads I _ _ _ (Rv.dp d _ (hp d List.mem_cons_self).1 a) c) (each_reads I (fun x hx => hp x (List.mem_cons_of_mem _ hx)) e b)
theorem dcall_sorted (hu : X.A.units + 100 < cLine) : CallR X (.builtin "sorted") (liftC X.K bSorted) := dl_call fun pins s σ H ds xs us S Q Q0 I ru rv hs hr hq => by
  match ds, hr, rv with
  | [d], hr, rv =>
    obtain ⟨v, rfl, rd⟩ := rv.one
    have hr' : (match lstOf S d with
      | some xs => ((∀ x ∈ xs, x.plain = true ∧ x.dep ≤ 50) ∧ PySem.W.AllAlike (xs.map D.py) ∧ PySem.W.Sortable (xs.map D.py)) ∧ ∀ p, S p = none → Q0 (.ref p) (dupd S p (.lst (xs.mergeSort dle)))
      | none => False) := hr
    split at hr'
    · rename_i zs e
      obtain ⟨⟨h1, h2, h3⟩, hr'⟩ := hr'
      obtain ⟨a, ws, rfl, hv, r⟩ := lst_of hs rd e
      obtain ⟨its, r1, hl, hz⟩ := I.list hv
      rw [Vals.ref1 ru]
      refine PySem.W.sorted_data (enc := D.py) (R := fun u d => ∃ v, RelV v u ∧ Rv X.K H d v) hl.isList (RvL.each r1 r) (each_reads I h1 r1 r) h2 h3 (by rw [r.length]; exact hz)
        (fun b hb => by rw [D.dep_py _ (h1 b hb).1]; have := (h1 b hb).2; omega) fun out hl2 he => ?_
      obtain ⟨vs2, k1, k2⟩ := EachIs.rvl he
      obtain ⟨ep, he'⟩ := PyProof.Rows.sortedAll_at s.heap its out.toArray
      have hfr : H (s.heap.objs.size + 1) = none := I.hok.fresh (Nat.le_succ _)
      have hlen : vs2.length ≤ sizeLine := by
        rw [← k2.length, List.length_mergeSort, r.length]; exact hz
      refine ⟨.ref _, upd H (s.heap.objs.size + 1) (.lst vs2), I.laid (t' := s.toks) (fun _ _ => PyProof.Rows.sortedAll_old) (Nat.le_succ _) ⟨hlen, out, ep, k1, he'⟩, rfl, ?_⟩
      exact hq _ _ _ _ (hr' _ (hs.fresh hfr)) (.ref _) (hs.new hfr ⟨vs2, upd_same, (Stp.laid (S := S) hfr).rvl k2⟩) (Stp.new hfr)
    · exact hr'.elim
theorem rvl_ints {K : PySem.W.Frag} {H : Hp} : ∀ {ns : List Int} {vs : List V}, RvL K H (ns.map D.int) vs → vs = ns.map V.int
  | [], _, r => by cases r; rfl
  | n :: ns, _, r => by
    cases r with
    | cons a b => cases a; rw [rvl_ints b]; rfl
theorem rvl_bls {K : PySem.W.Frag} {H : Hp} : ∀ {ns : List Bool} {vs : List V}, RvL K H (ns.map D.bl) vs → vs = ns.map V.bl
  | [], _, r => by cases r; rfl
  | n :: ns, _, r => by
    cases r with
    | cons a b => cases a; rw [rvl_bls b]; rfl
theorem dcall_sum (hc : X.calm = true) : CallR X (.builtin "sum") (liftC X.K bSum) := dl_call fun pins s σ H ds xs us S Q Q0 I ru rv hs hr hq => by
  match ds, hr, rv with
  | [d], hr, rv =>
    obtain ⟨v, rfl, rd⟩ := rv.one
    have hr' : (match lstOf S d with
      | some xs => ∃ ns : List Int, xs = ns.map D.int ∧ Q0 (.int ns.sum) S
      | none => False) := hr
    split at hr'
    · rename_i zs e
      obtain ⟨ns, rfl, q⟩ := hr'
      obtain ⟨a, ws, rfl, hv, r⟩ := lst_of hs rd e
      exact cr_sum hc pins s σ H _ us Q I ru ⟨a, ns, rfl, by rw [← rvl_ints r]; exact hv, hq _ _ _ _ q (.int _) hs (.refl _ _)⟩
    · exact hr'.elim
theorem dcall_any (hc : X.calm = true) : CallR X (.builtin "any") (liftC X.K bAny) := dl_call fun pins s σ H ds xs us S Q Q0 I ru rv hs hr hq => by
  match ds, hr, rv with
  | [d], hr, rv =>
    obtain ⟨v, rfl, rd⟩ := rv.one
    have hr' : (match lstOf S d with
      | some xs => ∃ bs : List Bool, xs = bs.map D.bl ∧ Q0 (.bl (bs.any id)) S
      | none => False) := hr
    split at hr'
    · rename_i zs e
      obtain ⟨ns, rfl, q⟩ := hr'
      obtain ⟨a, ws, rfl, hv, r⟩ := lst_of hs rd e
      exact cr_any hc pins s σ H _ us Q I ru ⟨a, ns, rfl, by rw [← rvl_bls r]; exact hv, hq _ _ _ _ q (.bl _) hs (.refl _ _)⟩
    · exact hr'.elim
theorem dcall_all (hc : X.calm = true) : CallR X (.builtin "all") (liftC X.K bAll) := dl_call fun pins s σ H ds xs us S Q Q0 I ru rv hs hr hq => by
  match ds, hr, rv with
  | [d], hr, rv =>
    obtain ⟨v, rfl, rd⟩ := rv.one
    have hr' : (match lstOf S d with
      | some xs => ∃ bs : List Bool, xs = bs.map D.bl ∧ Q0 (.bl (bs.all id)) S
      | none => False) := hr
    split at hr'
    · rename_i zs e
      obtain ⟨ns, rfl, q⟩ := hr'
      obtain ⟨a, ws, rfl, hv, r⟩ := lst_of hs rd e
      exact cr_all hc pins s σ H _ us Q I ru ⟨a, ns, rfl, by rw [← rvl_bls r]; exact hv, hq _ _ _ _ q (.bl _) hs (.refl _ _)⟩
    · exact hr'.elim
abbrev DM := D → List D → DS → DK → Prop
def liftM (K : PySem.W.Frag) (r : DM) : V → List V → Hp → VK → Prop := fun x xs H Q => ∃ dx ds S Q0, Rv K H dx x ∧ RvL K H ds xs ∧ Sim K S H ∧ r dx ds S Q0 ∧ ∀ d S' v H', Q0 d S' → Rv K H' d v → Sim K S' H' → Stp S H S' H' → Q v H'
def dBM (ok : DS → D → Prop) (r : DM) (to : DE) (t : DA) : DE := fun δ S Q => to δ S fun x S1 => ok S1 x ∧ t δ S1 fun xs S2 => r x xs S2 Q
def okLst : DS → D → Prop := fun S d => (lstOf S d).isSome = true
def okStr : DS → D → Prop := fun _ d => match d with
  | .str _ => True
  | _ => False
def OkTy (K : PySem.W.Frag) (T : String) (ok : DS → D → Prop) : Prop := ∀ S H d v, Sim K S H → Rv K H d v → ok S d → tyV K T v H
theorem okLst_ty {K : PySem.W.Frag} : OkTy K "list" okLst := fun S H d v hs r h => by
  obtain ⟨xs, e⟩ := Option.isSome_iff_exists.mp h
  obtain ⟨a, vs, rfl, hv, _⟩ := lst_of hs r e
  exact .inl ⟨rfl, vs, hv⟩
theorem okStr_ty {K : PySem.W.Frag} : OkTy K "str" okStr := fun S H d v hs r h => by
  cases d with
  | str _ => cases r; exact (rfl : ("str" : String) = "str")
  | _ => exact h.elim
variable {o e : Expr} {es : List Expr} {to : DE} {t : DA} {name : Str} {apos cpos : Pos} {T id : String} {r : DM} {ok : DS → D → Prop}
theorem qe_bm0 (pa : PlainAttrs T) (slot : Slot T name id) (hty : typeOf (.builtin id) = pure (.type "method_descriptor")) (ht : OkTy X.K T ok) (hm : MtR X id (liftM X.K r)) (ho : PE X o (liftE X.K to))
    (hbase : attributeBase o name X.env (eval o X.env) = eval o X.env := by rfl) (hline : (apos.endLine == cpos.line) = true := by rfl) : PE X (.Call (.Attribute o name apos) [] [] cpos) (liftE X.K (dBM ok r to dNil)) :=
  PE.imp (pe_bm0 pa slot hty hm ho hbase hline) fun σ H Q ⟨δ, S, Q0, hr, hs, h, hq⟩ => ⟨δ, S, _, hr, hs, h, fun x S1 v H1 ⟨k, h1⟩ r1 s1 a1 => ⟨ht S1 H1 x v s1 r1 k, x, [], S1, _, r1, .nil, s1, h1, fun d S' v H' q r s a => hq d S' v H' q r s (a1.trans a)⟩⟩
theorem qe_bm (pa : PlainAttrs T) (slot : Slot T name id) (hty : typeOf (.builtin id) = pure (.type "method_descriptor")) (ht : OkTy X.K T ok) (hm : MtR X id (liftM X.K r)) (ho : PE X o (liftE X.K to)) (ha : PA X (e :: es) (liftA X.K t))
    (hbase : attributeBase o name X.env (eval o X.env) = eval o X.env := by rfl)
    (hfew : ((backTo cpos (starEach (e :: es) X.env)).all (fun x => !x.1) && (backToKw cpos (keywordEach [] X.env)).all (fun x => x.1.isSome)
      && decide ((e :: es).length + ([] : List Keyword).length + (if ([] : List Keyword).isEmpty then 0 else 1) < 30)) = true := by rfl)
    (hline : (apos.endLine == cpos.line) = true := by rfl) (hs : starEach (e :: es) X.env = (false, eval e X.env) :: starEach es X.env := by rfl) (hplain : (backTo cpos (starEach es X.env)).any (·.1) = false := by rfl) :
    PE X (.Call (.Attribute o name apos) (e :: es) [] cpos) (liftE X.K (dBM ok r to t)) :=
  PE.imp (pe_bm pa slot hty hm ho ha hbase hfew hline hs hplain) fun σ H Q ⟨δ, S, Q0, hr, hs, h, hq⟩ => ⟨δ, S, _, hr, hs, h, fun x S1 v H1 ⟨k, h1⟩ r1 s1 a1 => ⟨ht S1 H1 x v s1 r1 k, δ, S1, _, hr.stp a1, s1, h1, fun xs S2 vs H2 h2 r2 s2 a2 =>
    ⟨x, xs, S2, _, a2.rv r1, r2, s2, h2, fun d S' v H' q r s a => hq d S' v H' q r s ((a1.trans a2).trans a)⟩⟩⟩
theorem dl_m {id : String}
    (h : ∀ (pins : List (Addr × Obj)) (s : Shared) (σ : L2.St) (H : Hp) (d : D) (ds : List D) (x : V) (xs : List V) (v : Value) (us : List Value) (S : DS) (Q : VK) (Q0 : DK), Inv X pins σ H s → RelV x v → Vals xs us → Rv X.K H d x → RvL X.K H ds xs → Sim X.K S H → r d ds S Q0 →
      (∀ d S' v H', Q0 d S' → Rv X.K H' d v → Sim X.K S' H' → Stp S H S' H' → Q v H') → wpAny (model X.prog X.w) X.A (call (.builtin id) (v :: us)) (EP X pins σ Q) X.xe s) : MtR X id (liftM X.K r) := by
  rintro pins s σ H x xs v us Q I rx rs ⟨d, ds, S, Q0, hd, hx, hs, hr, hq⟩
  exact h pins s σ H d ds x xs v us S Q Q0 I rx rs hd hx hs hr hq
/-- a method that changes a list: f tells what it gives back and the list behind -/
def mLst (f : List D → List D → Option (D × List D)) : DM := fun d ds S Q => match d with
  | .ref a => match S a with
    | some (.lst xs) => match f xs ds with
      | some (r, ys) => ys.length ≤ 16777216 ∧ Q r (dupd S a (.lst ys))
      | none => False
    | _ => False
  | _ => False
theorem mLst_get {f : List D → List D → Option (D × List D)} {d : D} {ds : List D} {S : DS} {Q : DK} (h : mLst f d ds S Q) : ∃ a xs r ys, d = .ref a ∧ S a = some (.lst xs) ∧ f xs ds = some (r, ys) ∧ ys.length ≤ 16777216 ∧ Q r (dupd S a (.lst ys)) := by
  cases d with
  | ref a =>
    have h' : (match S a with
      | some (.lst xs) => match f xs ds with
        | some (r, ys) => ys.length ≤ 16777216 ∧ Q r (dupd S a (.lst ys))
        | none => False
      | _ => False) := h
    split at h'
    · rename_i xs ea
      split at h'
      · rename_i r ys ef
        exact ⟨a, xs, r, ys, rfl, ea, ef, h'.1, h'.2⟩
      · exact h'.elim
    · exact h'.elim
  | _ => exact h.elim
def fAppend : List D → List D → Option (D × List D) := fun xs ds => match ds with
  | [y] => some (.non, xs ++ [y])
  | _ => none
def fPop : List D → List D → Option (D × List D) := fun xs ds => match ds with
  | [] => match xs[xs.length - 1]? with
    | some y => some (y, xs.dropLast)
    | none => none
  | _ => none
def fPopAt : List D → List D → Option (D × List D) := fun xs ds => match ds with
  | [.int i] => match ixN xs.length i with
    | some k => match xs[k]? with
      | some y => some (y, xs.eraseIdx k)
      | none => none
    | none => none
  | _ => none
def fReverse : List D → List D → Option (D × List D) := fun xs ds => match ds with
  | [] => some (.non, xs.reverse)
  | _ => none
theorem dmt_append : MtR X "list.append" (liftM X.K (mLst fAppend)) := dl_m fun pins s σ H d ds x xs v us S Q Q0 I rx ru rd rds hs hr hq => by
  obtain ⟨a, zs, r, ys, rfl, ea, ef, hl, q⟩ := mLst_get hr
  match ds, ef, rds with
  | [y], ef, rds =>
    cases ef
    cases rd
    obtain ⟨w, rfl, rw'⟩ := rds.one
    obtain ⟨vs, h1, r1⟩ := hs.lst ea
    refine mt_append pins s σ H _ _ v us Q I rx ru ⟨a, vs, w, rfl, rfl, h1, by rw [szl, ← r1.length]; rw [List.length_append, List.length_singleton] at hl; omega, hq _ _ _ _ q .non (hs.write ea ⟨_, upd_same, ?_⟩) (Stp.write hs ea)⟩
    exact (r1.append (.cons rw' .nil)).updL h1
theorem dmt_pop : MtR X "list.pop" (liftM X.K (mLst fPop)) := dl_m fun pins s σ H d ds x xs v us S Q Q0 I rx ru rd rds hs hr hq => by
  obtain ⟨a, zs, r, ys, rfl, ea, ef, hl, q⟩ := mLst_get hr
  match ds, ef, rds with
  | [], ef, rds =>
    cases rds
    cases rd
    obtain ⟨vs, h1, r1⟩ := hs.lst ea
    have ef' : (match zs[zs.length - 1]? with
      | some y => some (y, zs.dropLast)
      | none => none) = some (r, ys) := ef
    split at ef'
    · rename_i y ey
      cases ef'
      obtain ⟨w, hw, rw'⟩ := r1.get ey
      refine mt_pop pins s σ H _ _ v us Q I rx ru ⟨a, vs, w, rfl, rfl, h1, by rw [← r1.length]; exact hw, hq _ _ _ _ q (rw'.updL h1) (hs.write ea ⟨_, upd_same, ?_⟩) (Stp.write hs ea)⟩
      exact r1.dropLast.updL h1
    · cases ef'
theorem dmt_popAt : MtR X "list.pop" (liftM X.K (mLst fPopAt)) := dl_m fun pins s σ H d ds x xs v us S Q Q0 I rx ru rd rds hs hr hq => by
  obtain ⟨a, zs, r, ys, rfl, ea, ef, hl, q⟩ := mLst_get hr
  match ds, ef, rds with
  | [.int i], ef, rds =>
    obtain ⟨w0, rfl, rw0⟩ := rds.one
    cases rw0
    cases rd
    obtain ⟨vs, h1, r1⟩ := hs.lst ea
    have ef' : (match ixN zs.length i with
      | some k => match zs[k]? with
        | some y => some (y, zs.eraseIdx k)
        | none => none
      | none => none) = some (r, ys) := ef
    split at ef'
    · rename_i k ek
      split at ef'
      · rename_i y ey
        cases ef'
        obtain ⟨w, hw, rw'⟩ := r1.get ey
        obtain ⟨g1, g2, g3, g4⟩ := ixN_seq ek
        obtain ⟨hz, _⟩ := I.hok a _ h1
        rw [szl, ← r1.length] at hz
        refine mt_popAt pins s σ H _ _ v us Q I rx ru ⟨a, vs, i, k, w, rfl, rfl, h1, by omega, by omega, by rw [← r1.length]; exact g1, hw, hq _ _ _ _ q (rw'.updL h1) (hs.write ea ⟨_, upd_same, ?_⟩) (Stp.write hs ea)⟩
        exact (r1.erase k).updL h1
      · cases ef'
    · cases ef'
theorem dmt_reverse : MtR X "list.reverse" (liftM X.K (mLst fReverse)) := dl_m fun pins s σ H d ds x xs v us S Q Q0 I rx ru rd rds hs hr hq => by
  obtain ⟨a, zs, r, ys, rfl, ea, ef, hl, q⟩ := mLst_get hr
  match ds, ef, rds with
  | [], ef, rds =>
    cases ef
    cases rds
    cases rd
    obtain ⟨vs, h1, r1⟩ := hs.lst ea
    exact mt_reverse pins s σ H _ _ v us Q I rx ru ⟨a, vs, rfl, rfl, h1, hq _ _ _ _ q .non (hs.write ea ⟨_, upd_same, r1.reverse.updL h1⟩) (Stp.write hs ea)⟩
/-- xs.extend(ys), ys a list -/
def mExtend : DM := fun d ds S Q => match d, ds with
  | .ref a, [.ref b] => match S a, S b with
    | some (.lst xs), some (.lst ys) => xs.length + ys.length ≤ 16777216 ∧ Q .non (dupd S a (.lst (xs ++ ys)))
    | _, _ => False
  | _, _ => False
theorem dmt_extend : MtR X "list.extend" (liftM X.K mExtend) := dl_m fun pins s σ H d ds x xs v us S Q Q0 I rx ru rd rds hs hr hq => by
  match d, ds, hr, rd, rds with
  | .ref a, [.ref b], hr, rd, rds =>
    obtain ⟨w0, rfl, rw0⟩ := rds.one
    cases rw0
    cases rd
    have hr' : (match S a, S b with
      | some (.lst xs), some (.lst ys) => xs.length + ys.length ≤ 16777216 ∧ Q0 .non (dupd S a (.lst (xs ++ ys)))
      | _, _ => False) := hr
    split at hr'
    · rename_i zs ys ea eb
      obtain ⟨vs, h1, r1⟩ := hs.lst ea
      obtain ⟨ws, h2, r2⟩ := hs.lst eb
      exact mt_extend pins s σ H _ _ v us Q I rx ru ⟨a, b, vs, ws, rfl, rfl, h1, h2, by rw [szl, ← r1.length, ← r2.length]; exact hr'.1, hq _ _ _ _ hr'.2 .non (hs.write ea ⟨_, upd_same, (r1.append r2).updL h1⟩) (Stp.write hs ea)⟩
    · exact hr'.elim
/-- sep.join(xs) -/
def mJoin : DM := fun d ds S Q => match d, ds with
  | .str a, [y] => match seqOf S y with
    | some xs => ∃ ys : List Str, xs = ys.map D.str ∧ (ys.map (·.length)).sum + ys.length * a.length ≤ 16777216 ∧ Q (.str (Txt.join a ys)) S
    | none => False
  | _, _ => False
theorem rvl_strs {K : PySem.W.Frag} {H : Hp} : ∀ {ns : List Str} {vs : List V}, RvL K H (ns.map D.str) vs → vs = ns.map V.str
  | [], _, r => by cases r; rfl
  | n :: ns, _, r => by
    cases r with
    | cons a b => cases a; rw [rvl_strs b]; rfl
theorem dmt_join : MtR X "str.join" (liftM X.K mJoin) := dl_m fun pins s σ H d ds x xs v us S Q Q0 I rx ru rd rds hs hr hq => by
  match d, ds, hr, rd, rds with
  | .str a, [y], hr, rd, rds =>
    obtain ⟨w0, rfl, rw0⟩ := rds.one
    cases rd
    have hr' : (match seqOf S y with
      | some xs => ∃ ys : List Str, xs = ys.map D.str ∧ (ys.map (·.length)).sum + ys.length * a.length ≤ 16777216 ∧ Q0 (.str (Txt.join a ys)) S
      | none => False) := hr
    split at hr'
    · rename_i zs e
      obtain ⟨ys, rfl, hz, q⟩ := hr'
      obtain ⟨p, ws, rfl, hv, r⟩ := seq_of hs rw0 e
      have e2 := rvl_strs r
      subst e2
      exact mt_join pins s σ H _ _ v us Q I rx ru ⟨a, p, ys, rfl, rfl, hv, hz, hq _ _ _ _ q (.str _) hs (.refl _ _)⟩
    · exact hr'.elim
end
end DL
namespace DL
open PySem PySem.Spec PyProof.Rows L2
def dIter (te : DE) : DI := fun δ S Q => te δ S fun x S1 => match x with
  | .str z => Q (z.cps.toList.map fun c => D.str ⟨#[c]⟩) (fun _ => True) S1
  | x => match seqOf S1 x with
    | some xs => Q xs (fun S' => seqOf S' x = some xs) S1
    | none => False
section
variable {X : Cx} {tg : Expr}
/-- a value is walked: from its iterator's making -/
def IterR (X : Cx) (tg : Expr) (r : V → Hp → (It → Hp → Prop) → Prop) : Prop :=
  ∀ (pins : List (Addr × Obj)) (s : Shared) (σ : L2.St) (H : Hp) (x : V) (v : Value) (R : It → Hp → Prop), Inv X pins σ H s → RelV x v → r x H R → wpAny (model X.prog X.w) X.A (pyIter v) (PIE X pins σ tg R) X.xe s
theorem pi_of {l : Expr} {tl : TE} {r : V → Hp → (It → Hp → Prop) → Prop} (hl : PE X l tl) (hr : IterR X tg r) : PI X tg l (fun σ H R => tl σ H fun x H1 => r x H1 R) :=
  ⟨fun pins s σ H R I h => thn (hl.run pins s σ H _ I h) fun v s1 ⟨x, H1, I1, r1, q1⟩ => hr pins s1 σ H1 x v R I1 r1 q1⟩
theorem ir_list : IterR X tg (fun x H R => ∃ a, x = .ref a ∧ (∃ xs, SqL X.K H a xs) ∧ R (Itl X.K a) H) := by
  rintro pins s1 σ H1 x v R I1 r1 ⟨a, e, ⟨xs, hq⟩, q⟩
  subst e
  cases r1
  obtain ⟨its, rv, p, hz⟩ := I1.list hq
  refine wpAny_pyIter_list p.isList ?_
  refine ⟨s1.heap.objs.size, [s1.heap.objs.size], _, _, H1, rfl, I1.kept (t' := s1.toks) fun b o e => Heap.get?_push_of_some _ e, turn_list a _, ⟨_, Heap.get?_push_size _ rfl, rfl, rfl⟩, fun b hb => ?_, q⟩
  have e : b = s1.heap.objs.size := by simpa using hb
  subst e
  exact I1.fpOk (Nat.le_refl _) (I1.hok.fresh (Nat.le_refl _))
theorem ir_tup : IterR X tg (fun x H R => ∃ a, x = .ref a ∧ (∃ xs, SqT X.K H a xs) ∧ R (Itt X.K a) H) := by
  rintro pins s1 σ H1 x v R I1 r1 ⟨a, e, ⟨xs, hq⟩, q⟩
  subst e
  cases r1
  obtain ⟨its, rv, p, hz⟩ := I1.tuple hq
  refine wpAny_pyIter_tuple (show s1.heap.IsTuple a its.toArray from p) ?_
  refine ⟨s1.heap.objs.size, [s1.heap.objs.size], _, _, H1, rfl, I1.kept (t' := s1.toks) fun b o e => Heap.get?_push_of_some _ e, turn_tuple a _, ⟨_, Heap.get?_push_size _ rfl, rfl, rfl⟩, fun b hb => ?_, q⟩
  have e : b = s1.heap.objs.size := by simpa using hb
  subst e
  exact I1.fpOk (Nat.le_refl _) (I1.hok.fresh (Nat.le_refl _))
theorem ir_str : IterR X tg (fun v H R => ∃ x, v = .str x ∧ R (Its x) H) := by
  rintro pins s1 σ H1 y v R I1 r1 ⟨x, ex, q⟩
  subst ex
  obtain ⟨t, rfl⟩ := r1
  cases ha : x.cps.all (· < 128)
  · exact wpAny_pyIter_wide ha (pi_one (tk := s1.toks) I1 _ (turn_str _ x t "str_iterator" (.inr rfl)) ⟨_, Heap.get?_push_size _ rfl, rfl, rfl⟩ q)
  · exact wpAny_pyIter_ascii ha (pi_one (tk := s1.toks) I1 _ (turn_str _ x t "str_ascii_iterator" (.inl rfl)) ⟨_, Heap.get?_push_size _ rfl, rfl, rfl⟩ q)
theorem jok_list {K : PySem.W.Frag} {H0 : Hp} {a : Addr} {xs : List D} {stay : DS → Prop} (h : ∀ S H, Prs H0 H → Sim K S H → stay S → ∃ vs, SqL K H a vs ∧ RvL K H xs vs) : JOk K H0 xs stay (Itl K a) := by
  intro i S H p hs st
  obtain ⟨vs, h1, r⟩ := h S H p hs st
  refine ⟨fun hi => ⟨vs, h1, by rw [← r.length]; exact hi⟩, fun d hd => ?_⟩
  obtain ⟨v, h2, h3⟩ := r.get hd
  refine ⟨⟨vs, v, h1, h2⟩, fun x H' ⟨e, y⟩ => ?_⟩
  subst e
  have := y vs h1
  rw [h2] at this
  cases this
  exact ⟨h3, hs, .refl _ _⟩
theorem jok_tup {K : PySem.W.Frag} {H0 : Hp} {a : Addr} {xs : List D} {vs : List V} {stay : DS → Prop} (h1 : SqT K H0 a vs) (r : RvL K H0 xs vs) (inj : ∀ H, Prs H0 H → ∀ ws, SqT K H a ws → ws = vs) : JOk K H0 xs stay (Itt K a) := by
  intro i S H p hs st
  refine ⟨fun hi => ⟨vs, p.sqT h1, by rw [← r.length]; exact hi⟩, fun d hd => ?_⟩
  obtain ⟨v, h2, h3⟩ := r.get hd
  refine ⟨⟨vs, v, p.sqT h1, h2⟩, fun x H' ⟨e, y⟩ => ?_⟩
  subst e
  have := y vs (p.sqT h1)
  rw [h2] at this
  cases this
  exact ⟨p.rv h3, hs, .refl _ _⟩
theorem jok_tup' {K : PySem.W.Frag} {H0 : Hp} {a : Addr} {xs : List D} {vs : List V} {stay : DS → Prop} (h1 : SqT K H0 a vs) (r : RvL K H0 xs vs) : JOk K H0 xs stay (Itt K a) := by
  intro i S H p hs st
  refine ⟨fun hi => ⟨vs, p.sqT h1, by rw [← r.length]; exact hi⟩, fun d hd => ?_⟩
  obtain ⟨v, h2, h3⟩ := r.get hd
  refine ⟨⟨vs, v, p.sqT h1, h2⟩, fun x H' ⟨e, y⟩ => ?_⟩
  subst e
  have := y vs (p.sqT h1)
  rw [h2] at this
  cases this
  exact ⟨p.rv h3, hs, .refl _ _⟩
theorem jok_str {K : PySem.W.Frag} {H0 : Hp} {z : Str} {stay : DS → Prop} : JOk K H0 (z.cps.toList.map fun c => D.str ⟨#[c]⟩) stay (Its z) := by
  intro i S H p hs st
  refine ⟨fun hi => by rw [List.length_map, Array.length_toList] at hi; exact hi, fun d hd => ?_⟩
  rw [List.getElem?_map] at hd
  obtain ⟨c, h1, h2⟩ := Option.map_eq_some_iff.mp hd
  subst h2
  rw [Array.getElem?_toList] at h1
  refine ⟨(Array.getElem?_eq_some_iff.mp h1).1, fun x H' ⟨e, c2, e2, e3⟩ => ?_⟩
  subst e e3
  rw [h1] at e2
  cases e2
  exact ⟨.str _, hs, .refl _ _⟩
/-- the store's own list, a frozen one -/
theorem stay_list {K : PySem.W.Frag} {H0 : Hp} {a : Addr} {d : D} {xs : List D} (hr : Rv K H0 d (.ref a)) (nt : ∀ ys, d ≠ .tup ys) : ∀ S H, Prs H0 H → Sim K S H → seqOf S d = some xs → ∃ vs, SqL K H a vs ∧ RvL K H xs vs := by
  intro S H p hs e
  cases d with
  | ref b =>
    cases hr
    obtain ⟨c, vs, e1, hv, r⟩ := seq_of hs (.ref a) e
    cases e1
    rcases hv with hv | hv
    · exact ⟨vs, hv, r⟩
    · rw [seqOf] at e
      split at e
      · rename_i ea
        cases e
        obtain ⟨ws, h1, r1⟩ := hs.lst ea
        exact ⟨ws, .of h1, r1⟩
      · cases e
  | fl ys =>
    cases e
    cases hr with
    | fl q rr => exact ⟨_, (p.fqL q).sq, p.rvl rr⟩
  | tup ys => exact absurd rfl (nt ys)
  | _ => cases hr
theorem qi_seq {l : Expr} {te : DE} (hl : PE X l (liftE X.K te)) : PI X tg l (liftI X.K (dIter te)) := by
  refine PI.imp (pi_of (r := fun x H R => (∃ a, x = .ref a ∧ (∃ xs, SqL X.K H a xs) ∧ R (Itl X.K a) H) ∨ (∃ a, x = .ref a ∧ (∃ xs, SqT X.K H a xs) ∧ R (Itt X.K a) H) ∨ (∃ z, x = .str z ∧ R (Its z) H)) hl ?_) ?_
  · intro pins s σ H x v R I rx h
    rcases h with h | h | h
    · exact ir_list pins s σ H x v R I rx h
    · exact ir_tup pins s σ H x v R I rx h
    · exact ir_str pins s σ H x v R I rx h
  · rintro σ H R ⟨δ, S, Q0, hr, hs, h, hq⟩
    refine ⟨δ, S, _, hr, hs, h, fun d S1 v H1 h1 r1 s1 a1 => ?_⟩
    have gen : (match seqOf S1 d with
      | some xs => Q0 xs (fun S' => seqOf S' d = some xs) S1
      | none => False) → (∃ a, v = .ref a ∧ (∃ xs, SqL X.K H1 a xs) ∧ R (Itl X.K a) H1) ∨ (∃ a, v = .ref a ∧ (∃ xs, SqT X.K H1 a xs) ∧ R (Itt X.K a) H1) ∨ (∃ z, v = .str z ∧ R (Its z) H1) := fun h => by
      split at h
      · rename_i xs e
        cases d with
        | tup ys =>
          cases e
          cases r1 with
          | tup q rr => exact .inr (.inl ⟨_, rfl, ⟨_, q⟩, hq _ _ _ _ _ h s1 a1 (jok_tup' q rr)⟩)
        | fl ys =>
          cases e
          cases r1 with
          | fl q rr => exact .inl ⟨_, rfl, ⟨_, q.sq⟩, hq _ _ _ _ _ h s1 a1 (jok_list (stay_list (.fl q rr) fun _ z => nomatch z))⟩
        | ref b =>
          cases r1
          obtain ⟨c, vs, e1, hv, rr⟩ := seq_of s1 (.ref b) e
          cases e1
          obtain ⟨ws, k1, k2⟩ := stay_list (.ref b) (fun _ z => nomatch z) S1 H1 (.refl _) s1 e
          exact .inl ⟨_, rfl, ⟨_, k1⟩, hq _ _ _ _ _ h s1 a1 (jok_list (stay_list (.ref b) fun _ z => nomatch z))⟩
        | _ => cases e
      · exact h.elim
    cases d with
    | str z => cases r1; exact .inr (.inr ⟨z, rfl, hq _ _ _ _ _ h1 s1 a1 jok_str⟩)
    | _ => exact gen h1
/-- range -/
def rngL (lo : Int) (n : Nat) : List D := (List.range n).map fun i => D.int (lo + (i : Nat))
def dRng1 (t : DA) : DI := fun δ S Q => t δ S fun ds S1 => match ds with
  | [.int j] => (-(2 ^ 62) ≤ j ∧ j < 2 ^ 62) ∧ Q (rngL 0 j.toNat) (fun _ => True) S1
  | _ => False
def dRng2 (t : DA) : DI := fun δ S Q => t δ S fun ds S1 => match ds with
  | [.int i, .int j] => (-(2 ^ 62) ≤ i ∧ i < 2 ^ 62 ∧ -(2 ^ 62) ≤ j ∧ j < 2 ^ 62) ∧ Q (rngL i (j - i).toNat) (fun _ => True) S1
  | _ => False
theorem jok_rng {K : PySem.W.Frag} {H0 : Hp} {lo : Int} {n : Nat} {stay : DS → Prop} : JOk K H0 (rngL lo n) stay (Itr lo n) := by
  intro i S H p hs st
  refine ⟨fun hi => by rw [rngL, List.length_map, List.length_range] at hi; exact hi, fun d hd => ?_⟩
  rw [rngL, List.getElem?_map] at hd
  obtain ⟨c, h1, h2⟩ := Option.map_eq_some_iff.mp hd
  subst h2
  obtain ⟨h3, h4⟩ := List.getElem?_eq_some_iff.mp h1
  rw [List.length_range] at h3
  rw [List.getElem_range] at h4
  subst h4
  refine ⟨h3, fun x H' ⟨e, e3⟩ => ?_⟩
  subst e e3
  exact ⟨.int _, hs, .refl _ _⟩
theorem qi_range1 {a : Expr} {t : DA} {p pos : Pos} (hg : Gl X "range") (hm : X.mg "range" = none) (ha : PA X [a] (liftA X.K t)) (hs : starEach [a] X.env = [(false, eval a X.env)] := by rfl) : PI X tg (.Call (.Name "range" p) [a] [] pos) (liftI X.K (dRng1 t)) :=
  PI.imp (pi_range1 hg hm ha hs) fun σ H R ⟨δ, S, Q0, hr, hs, h, hq⟩ => ⟨δ, S, _, hr, hs, h, fun ds S1 vs H1 h1 r1 s1 a1 => by
    match ds, h1, r1 with
    | [.int j], h1, r1 =>
      obtain ⟨v, rfl, rd⟩ := r1.one
      cases rd
      exact ⟨j, rfl, h1.1.1, h1.1.2, hq _ _ _ _ _ h1.2 s1 a1 jok_rng⟩⟩
theorem qi_range2 {a b : Expr} {t : DA} {p pos : Pos} (hg : Gl X "range") (hm : X.mg "range" = none) (ha : PA X [a, b] (liftA X.K t)) (hs : starEach [a, b] X.env = [(false, eval a X.env), (false, eval b X.env)] := by rfl) (hs2 : starEach [b] X.env = [(false, eval b X.env)] := by rfl) :
    PI X tg (.Call (.Name "range" p) [a, b] [] pos) (liftI X.K (dRng2 t)) :=
  PI.imp (pi_range2 hg hm ha hs hs2) fun σ H R ⟨δ, S, Q0, hr, hs, h, hq⟩ => ⟨δ, S, _, hr, hs, h, fun ds S1 vs H1 h1 r1 s1 a1 => by
    match ds, h1, r1 with
    | [.int i, .int j], h1, r1 =>
      obtain ⟨v, w, rfl, rd, re⟩ := r1.two
      cases rd
      cases re
      exact ⟨i, j, rfl, h1.1, hq _ _ _ _ _ h1.2 s1 a1 jok_rng⟩⟩
/-- reversed(x) of a list or a tuple -/
def dRev (te : DE) : DI := fun δ S Q => te δ S fun x S1 => match seqOf S1 x with
  | some xs => Q xs.reverse (fun S' => seqOf S' x = some xs) S1
  | none => False
theorem rev_get {α : Type} {xs : List α} {i : Nat} {x : α} (h : xs.reverse[i]? = some x) : i < xs.length ∧ xs[xs.length - 1 - i]? = some x := by
  have hi : i < xs.length := by
    have := (List.getElem?_eq_some_iff.mp h).1
    rwa [List.length_reverse] at this
  rw [List.getElem?_reverse hi] at h
  exact ⟨hi, h⟩
theorem jok_rev {K : PySem.W.Frag} {H0 : Hp} {a : Addr} {xs : List D} {n : Nat} {stay : DS → Prop} (hn : n = xs.length) (h : ∀ S H, Prs H0 H → Sim K S H → stay S → ∃ vs, SqL K H a vs ∧ RvL K H xs vs) : JOk K H0 xs.reverse stay (Itv K a n) := by
  subst hn
  intro i S H p hs st
  obtain ⟨vs, h1, r⟩ := h S H p hs st
  refine ⟨fun hi => by rw [List.length_reverse] at hi; exact hi, fun d hd => ?_⟩
  obtain ⟨hi, hd⟩ := rev_get hd
  obtain ⟨v, h2, h3⟩ := r.get hd
  refine ⟨⟨hi, vs, v, h1, h2⟩, fun x H' ⟨e, y⟩ => ?_⟩
  subst e
  have := y vs h1
  rw [h2] at this
  cases this
  exact ⟨h3, hs, .refl _ _⟩
theorem jok_revT {K : PySem.W.Frag} {H0 : Hp} {a : Addr} {xs : List D} {vs : List V} {n : Nat} {stay : DS → Prop} (hn : n = xs.length) (h1 : SqT K H0 a vs) (r : RvL K H0 xs vs) : JOk K H0 xs.reverse stay (RT.ItvT K a n) := by
  subst hn
  intro i S H p hs st
  refine ⟨fun hi => by rw [List.length_reverse] at hi; exact hi, fun d hd => ?_⟩
  obtain ⟨hi, hd⟩ := rev_get hd
  obtain ⟨v, h2, h3⟩ := r.get hd
  refine ⟨⟨hi, vs, v, p.sqT h1, h2⟩, fun x H' ⟨e, y⟩ => ?_⟩
  subst e
  have := y vs (p.sqT h1)
  rw [h2] at this
  cases this
  exact ⟨p.rv h3, hs, .refl _ _⟩
theorem qi_rev {e : Expr} {te : DE} {p pos : Pos} (hg : Gl X "reversed") (hm : X.mg "reversed" = none) (he : PE X e (liftE X.K te)) (hs : starEach [e] X.env = (false, eval e X.env) :: starEach [] X.env := by rfl) : PI X tg (.Call (.Name "reversed" p) [e] [] pos) (liftI X.K (dRev te)) :=
  PI.imp (RT.pi_revA hg hm he hs) fun σ H R ⟨δ, S, Q0, hr, hs, h, hq⟩ => ⟨δ, S, _, hr, hs, h, fun d S1 v H1 h1 r1 s1 a1 => by
    have h1' : (match seqOf S1 d with
      | some xs => Q0 xs.reverse (fun S' => seqOf S' d = some xs) S1
      | none => False) := h1
    split at h1'
    · rename_i xs e
      cases d with
      | tup ys =>
        cases e
        cases r1 with
        | tup q rr => exact ⟨_, _, rfl, .inr ⟨q, hq _ _ _ _ _ h1' s1 a1 (jok_revT rr.length.symm q rr)⟩⟩
      | fl ys =>
        cases e
        cases r1 with
        | fl q rr => exact ⟨_, _, rfl, .inl ⟨q.sq, hq _ _ _ _ _ h1' s1 a1 (jok_rev rr.length.symm (stay_list (.fl q rr) fun _ z => nomatch z))⟩⟩
      | ref b =>
        cases r1
        obtain ⟨ws, k1, k2⟩ := stay_list (.ref b) (fun _ z => nomatch z) S1 H1 (.refl _) s1 e
        exact ⟨_, ws, rfl, .inl ⟨k1, hq _ _ _ _ _ h1' s1 a1 (jok_rev k2.length.symm (stay_list (.ref b) fun _ z => nomatch z))⟩⟩
      | _ => cases e
    · exact h1'.elim⟩
/-- enumerate(x) of a list -/
def numL (xs : List D) : List D := (List.range xs.length).map fun i => D.tup [.int (i : Nat), (xs[i]?).getD .non]
def dEnum (t : DA) : DI := fun δ S Q => t δ S fun ds S1 => match ds with
  | [x] => match lstOf S1 x with
    | some xs => Q (numL xs) (fun S' => lstOf S' x = some xs) S1
    | none => False
  | _ => False
theorem numL_get {xs : List D} {i : Nat} {d : D} (h : (numL xs)[i]? = some d) : ∃ x, xs[i]? = some x ∧ d = .tup [.int (i : Nat), x] := by
  rw [numL, List.getElem?_map] at h
  obtain ⟨c, h1, h2⟩ := Option.map_eq_some_iff.mp h
  obtain ⟨h3, h4⟩ := List.getElem?_eq_some_iff.mp h1
  rw [List.length_range] at h3
  rw [List.getElem_range] at h4
  subst h4
  rw [List.getElem?_eq_getElem h3] at h2
  exact ⟨_, List.getElem?_eq_getElem h3, h2.symm⟩
theorem jok_enum {K : PySem.W.Frag} {H0 : Hp} {a : Addr} {xs : List D} {stay : DS → Prop} (h : ∀ S H, Prs H0 H → Sim K S H → stay S → ∃ vs, SqL K H a vs ∧ RvL K H xs vs) : JOk K H0 (numL xs) stay (Ite K a) := by
  intro i S H p hs st
  obtain ⟨vs, h1, r⟩ := h S H p hs st
  refine ⟨fun hi => ⟨vs, h1, by rw [← r.length]; rw [numL, List.length_map, List.length_range] at hi; exact hi⟩, fun d hd => ?_⟩
  obtain ⟨x, hx, rfl⟩ := numL_get hd
  obtain ⟨v, h2, h3⟩ := r.get hx
  refine ⟨⟨vs, v, h1, h2⟩, fun x' H' ⟨T, y, e1, e2, e3, e4⟩ => ?_⟩
  have := e4 vs h1
  rw [h2] at this
  cases this
  subst e1 e3
  exact ⟨.tup (.inl (.inl upd_same)) (.cons (.int _) (.cons ((Stp.laid (S := S) e2).rv h3) .nil)), hs.laid e2, Stp.laid e2⟩
theorem lst_seq {S : DS} {d : D} {xs : List D} (h : lstOf S d = some xs) : seqOf S d = some xs ∧ ∀ ys, d ≠ .tup ys := by
  cases d with
  | ref a => exact ⟨h, fun _ z => nomatch z⟩
  | fl a => exact ⟨h, fun _ z => nomatch z⟩
  | _ => cases h
theorem stay_lst {K : PySem.W.Frag} {H0 : Hp} {a : Addr} {d : D} {xs : List D} (hr : Rv K H0 d (.ref a)) : ∀ S H, Prs H0 H → Sim K S H → lstOf S d = some xs → ∃ vs, SqL K H a vs ∧ RvL K H xs vs :=
  fun S H p hs e => stay_list hr (lst_seq e).2 S H p hs (lst_seq e).1
theorem qi_enum {e : Expr} {t : DA} {p pos tpos : Pos} {elts : List Expr} {kk : Nat} (hg : Gl X "enumerate") (hm : X.mg "enumerate" = none) (ha : PA X [e] (liftA X.K t)) (hs : starEach [e] X.env = [(false, eval e X.env)] := by rfl) :
    PI X (.Tuple elts kk tpos) (.Call (.Name "enumerate" p) [e] [] pos) (liftI X.K (dEnum t)) :=
  PI.imp (pi_enum hg hm ha hs) fun σ H R ⟨δ, S, Q0, hr, hs, h, hq⟩ => ⟨δ, S, _, hr, hs, h, fun ds S1 vs H1 h1 r1 s1 a1 => by
    match ds, h1, r1 with
    | [x], h1, r1 =>
      obtain ⟨v, rfl, rd⟩ := r1.one
      have h1' : (match lstOf S1 x with
        | some xs => Q0 (numL xs) (fun S' => lstOf S' x = some xs) S1
        | none => False) := h1
      split at h1'
      · rename_i xs e
        obtain ⟨a, ws, rfl, hv, rr⟩ := lst_of s1 rd e
        exact ⟨a, ws, rfl, hv, hq _ _ _ _ _ h1' s1 a1 (jok_enum (stay_lst rd))⟩
      · exact h1'.elim⟩
end
structure FnD where
  np : Nat
  nl : Nat
  body : (Nat → DF) → DSt
def runF (f : FnD) (c : Nat → DF) : DF := fun ds S Q => ds.length = f.np ∧ f.body c { nx := fun _ S' => Q .non S', rt := Q, bk := fun _ _ => False, ct := fun _ _ => False } (ds.map some ++ List.replicate (f.nl - f.np) none) S
def sem (fs : Nat → FnD) : Nat → Nat → DF
  | 0, _ => fun _ _ _ => False
  | n + 1, i => runF (fs i) (sem fs n)
theorem sem_len {fs : Nat → FnD} {n i : Nat} (ds : List D) (S : DS) (Q : DK) (h : sem fs n i ds S Q) : ds.length = (fs i).np := by
  cases n with
  | zero => exact h.elim
  | succ n => exact h.1
section
variable {P : Program} {w : World} {K : PySem.W.Frag} {mg : Str → Option Value} {base : Heap}
theorem FnOk.zero {f : Addr} {fd : FuncData} {ps : List Str} {fs : Nat → FnD} {i : Nat} (hn : ps.length = (fs i).np) : FnOk P w K mg base CX0 0 f fd ps (liftF K (fs i).np (sem fs 0 i)) :=
  ⟨fun vs H Q E h => by rw [h.1, hn], fun A outer s H args us vs Q E hr e0 hb hv hsp => by obtain ⟨_, _, _, _, _, _, h, _⟩ := hsp; exact h.elim⟩
theorem rst_start {H : Hp} {N : List Str} {ds : List D} {vs : List V} (r : RvL K H ds vs) {m : Nat} (hm : m = N.length - vs.length) : Rst K H (ds.map some ++ List.replicate m none) (L2.start N vs) := by
  subst hm
  unfold L2.start
  refine ⟨by simp [r.length], fun i d h => ?_⟩
  by_cases hi : i < ds.length
  · rw [List.getElem?_append_left (by simpa using hi), List.getElem?_map] at h
    obtain ⟨x, h1, h2⟩ := Option.map_eq_some_iff.mp h
    cases h2
    obtain ⟨v, h3, h4⟩ := r.get h1
    have hv : i < vs.length := by rw [← r.length]; exact hi
    exact ⟨v, by rw [List.getElem?_append_left (by simpa using hv), List.getElem?_map, h3]; rfl, h4⟩
  · rw [List.getElem?_append_right (by simpa using hi), List.getElem?_replicate] at h
    split at h <;> cases h
/-- one def: its body's walk at every context -/
theorem fn_ok {x qual : Str} {st : Stmt} {f : Addr} {fd : FuncData} {N ps : List Str} {n : Nat} {fs : Nat → FnD} {i : Nat} (F : Fun K x qual st f fd) (Sc : FnScope N ps (defScope st)) (hn : ps.length = (fs i).np) (hl : N.length = (fs i).nl)
    (hbody : ∀ (cdv : Value) (A : Around) (outer : List Env) (s : Shared) (H : Hp) (E : XK), Room n (A.deeper (envOfC qual (defScope st) s.heap.objs.size f cdv)) →
      PSs (cxOf CX0 P w K mg base N qual (defScope st) f cdv A outer s H E).nox (defBody st) (liftS K ((fs i).body (sem fs n)))) :
    FnOk P w K mg base CX0 (n + 1) f fd ps (liftF K (fs i).np (sem fs (n + 1) i)) := by
  refine F.ok Sc (fun vs H Q E h => by rw [h.1, hn]) (fun cdv A outer s H vs Q E hr h => ?_)
  obtain ⟨hlen, ds, S, Q0, rv, hs, hc, hq⟩ := h
  refine ⟨_, hbody cdv A outer s H E hr, ?_⟩
  refine ⟨_, S, _, rst_start rv (m := (fs i).nl - (fs i).np) (by rw [hl, hlen]), hs, hc.2, ⟨fun δ S' σ H' h r x a => hq _ _ _ _ h .non x a, fun d S' v H' h r x a => hq _ _ _ _ h r x a, fun _ _ _ _ h => h.elim, fun _ _ _ _ h => h.elim⟩⟩
end
end DL
namespace DL
open PySem PySem.Spec PyProof.Rows L2
section
variable {X : Cx} {a b c : Expr} {ta tb tc : DE} {pos : Pos}
theorem qe_chain {op op' : CmpOp} {r r' : DR2} (ho : OpR X (compareOp op) (liftO X.K r)) (ho' : OpR X (compareOp op') (liftO X.K r')) (ha : PE X a (liftE X.K ta)) (hb : PE X b (liftE X.K tb)) (hc : PE X c (liftE X.K tc))
    (hm : lastMarks [op, op'] [b, c] = false := by with_unfolding_all rfl) : PE X (.Compare a [op, op'] [b, c] pos) (liftE X.K (dChain r r' ta tb tc)) := PE.imp (pe_chain ho ho' ha hb hc hm) lift_chain
theorem qt_chain {op op' : CmpOp} {r r' : DR2} (ho : OpR X (compareOp op) (liftO X.K r)) (ho' : OpR X (compareOp op') (liftO X.K r')) (ha : PE X a (liftE X.K ta)) (hb : PE X b (liftE X.K tb)) (hc : PE X c (liftE X.K tc))
    (hm : lastMarks [op, op'] [b, c] = false := by with_unfolding_all rfl) : PT X (.Compare a [op, op'] [b, c] pos) (liftT X.K (dTb (dChain r r' ta tb tc))) :=
  PT.imp (pt_chain ho ho' ha hb hc hm) fun σ H Q ⟨δ, S, Q0, hr, hs, h, hq⟩ => lift_chain σ H _ ⟨δ, S, _, hr, hs, h, fun d S' v H' q r s a => by
    cases d with
    | bl k => cases r; exact ⟨k, rfl, hq k S' H' q s a⟩
    | _ => exact q.elim⟩
def dPar (i j : Nat) (t : DA) : DSt := fun D δ S => t δ S fun ds S1 => match ds with
  | [d, e] => D.nx ((δ.set i (some d)).set j (some e)) S1
  | _ => False
theorem qs_par {i j : Nat} {x y : Str} {a b : Expr} {t : DA} {px py pt : Pos} {kt k2 pt2} (hc : X.calm = true) (hN : X.N.Nodup) (hi : X.N[i]? = some x) (hj : X.N[j]? = some y) (hij : i ≠ j)
    (hx : X.env.scope.names.lookup x = some .local) (hy : X.env.scope.names.lookup y = some .local) (ha : PA X [a, b] (liftA X.K t))
    (hw : swappedStores [.Tuple [.Name x px, .Name y py] kt pt] (.Tuple [a, b] k2 pt2) X.env = pure (some [x, y]))
    (hs : swapsWithSole [.Tuple [.Name x px, .Name y py] kt pt] (.Tuple [a, b] k2 pt2) pos.line X.env = pure false := by rfl) :
    PS X (.Assign [.Tuple [.Name x px, .Name y py] kt pt] (.Tuple [a, b] k2 pt2) pos) (liftS X.K (dPar i j t)) :=
  PS.imp (ps_par hc hN hi hj hij hx hy ha hw hs) fun E σ H ⟨δ, S, D0, hr, hsim, h, cv⟩ => ⟨δ, S, _, hr, hsim, h, fun ds S1 vs H1 h1 r1 s1 a1 => by
    match ds, h1, r1 with
    | [d, e], h1, r1 =>
      obtain ⟨v, w, rfl, rd, re⟩ := r1.two
      exact ⟨v, w, rfl, cv.nx _ S1 _ H1 h1 (((hr.stp a1).set rd).set re) s1 a1⟩⟩
/-- a constant of the module -/
def GlobD (K : PySem.W.Frag) (mg : Str → Option Value) (x : Str) (d : D) : Prop := ∃ u v, mg x = some u ∧ RelV v u ∧ ∀ H, Rv K H d v
theorem qe_glob {x : Str} {d : D} (g : GlobD X.K X.mg x d) (hg : Gl X x) (hd : (x == ("__debug__" : Str)) = false := by decide) : PE X (.Name x pos) (liftE X.K (dC d)) := by
  obtain ⟨u, v, h1, h2, h3⟩ := g
  exact qe_const (pe_glob hg h1 h2 hd) h3
theorem qe_ty {x : Str} {n : String} (hg : Gl X x) (hm : X.mg x = none) (hv : bootBuiltins x = some (.type n)) (hn : x ≠ "__name__" := by decide) (hd : (x == ("__debug__" : Str)) = false := by decide) : PE X (.Name x pos) (liftE X.K (dC (.ty n))) :=
  qe_const (pe_bltn (v := .ty n) hg hm hv rfl hn hd) fun _ => .ty n
theorem hu100 {k : Nat} {A : Around} (h : Room k A) : A.units + 100 < cLine := by have := h.un; omega
theorem okb {N : List Str} {sc scope : Scope} {own : List (Str × Nat)} (h : blkC N sc scope own = true) : blkC N sc scope own = true := h
end
theorem law_sp {K : PySem.W.Frag} {c : DF} {np : Nat} (hnp : np = 1) {H : Hp} {a : Addr} {ns : List Int} (hO : Only H) (hS : SqL K H a (ns.map V.int)) {E : XK}
    (h : c [.fl (ns.map D.int)] (fun _ => none) fun d _ => d = .bl true) : liftF K np c [.ref a] H (fun v _ => v = .bl true) E := by
  refine ⟨hnp.symm, [.fl (ns.map D.int)], fun _ => none, _, .cons (.fl ?_ (RvL.ints ns)) .nil, fun _ _ e => (nomatch e), h, fun d S' v H' e r _ _ => ?_⟩
  · rcases hS with (hS | ⟨o, hS⟩) | hS
    · rcases hO a with z | ⟨o, xs, z⟩
      · rw [z] at hS; cases hS
      · rw [z] at hS; cases hS
    · exact .inl ⟨o, hS⟩
    · exact .inr hS
  · subst e; cases r; rfl
theorem walk_end {l : PySem.W.OpenLaw} {k : Nat} {q : Program} {loose : List Str} {XP : (Str → Option Value) → Heap → Prop} {YP : World → Heap → Prop} {d : DefRec} {K : Params → PySem.W.Frag} {fs : Nat → FnD} {i : Nat}
    (hn : l.most = some 63) (hdf : d.params.defaults = []) (hr : Room k callerA) (hnp : (fs i).np = 1)
    (hY : ∀ (w : World) (h : Heap), YP w h → (K w.params).In h)
    (F : ∀ (w : World) (mg : Str → Option Value) (fa : Addr) (h : Heap), (K w.params).In h → h.Ns mainGlobals mg → mg d.name = some (.ref fa) →
      ∃ fd : FuncData, (∀ (s : Shared) (u : Value), BindsTo s fd ⟨[u], []⟩ [("script", u)]) ∧
        ∀ base : Heap, (K w.params).In base → base.Ns mainGlobals mg → FnOk l.prog w (K w.params) mg base CX0 k fa fd ["script"] (liftF (K w.params) (fs i).np (sem fs k i)))
    (law : ∀ ns : List Int, ns.length ≤ 63 → sem fs k i [.fl (ns.map D.int)] (fun _ => none) fun d _ => d = .bl true) :
    PySem.W.WalkO q loose XP YP l.row.toRowW d [] (fun f vs => PySem.call f vs) :=
  L2.walk_of (n := 63) (k := k) (x := "script") (CX := fun _ => CX0) (sp := fun w => liftF (K w.params) (fs i).np (sem fs k i)) hn (by decide) hdf hr hY F
    (fun w H a ns hl hO hS => law_sp hnp.symm.symm hO hS (law ns hl)) fun _ _ _ _ _ z => z
end DL
namespace DL
open PySem PySem.Spec PyProof.Rows L2
section
variable {prog : Program} {w : World} {A : Around} {E : Value → Shared → Prop} {s : Shared}
theorem places_rev (n : Nat) : Builtin.Slice.slicePlaces ((n : Int) - 1) (-1) (-1) = n := by
  unfold Builtin.Slice.slicePlaces
  rw [if_neg (by decide)]
  by_cases h : (n : Int) - 1 > -1
  · rw [if_pos h, show -(-1 : Int) = 1 by decide, Int.ediv_one]; omega
  · rw [if_neg h]; omega
theorem sliceApplied_rev {sl : Addr} {vs : Value} {n : Nat} {Q : Int × Int × Nat → Shared → Prop} (hs : s.heap.IsSliceOf sl .none .none vs) (ps : IsPart vs (some (-1)))
    (h : Q ((n : Int) - 1, -1, n) s) : wpAny (model prog w) A (Builtin.Slice.sliceApplied (.ref sl) (pure (n : Int))) Q E s := by
  obtain ⟨os, hos, hcs, hds⟩ := id hs
  unfold Builtin.Slice.sliceApplied Builtin.Slice.sliceFields
  refine wpAny_bind (wpAny_bind (wpAny_field hos hds (x := .none) rfl (wpAny_bind (wpAny_field hos hds (x := .none) rfl (wpAny_bind (wpAny_field hos hds (x := vs) rfl (wpAny_pure ?_)))))))
  refine wpAny_bind (HT.slicePart_ ps ?_)
  show wpAny _ _ (if ((-1 : Int) == 0) = true then _ else _) _ _ s
  rw [if_neg (by decide)]
  refine wpAny_bind (slicePart_none (wpAny_bind (slicePart_none (wpAny_bind (wpAny_pure ?_)))))
  show wpAny _ _ (pure ((n : Int) - 1, (-1 : Int), Builtin.Slice.slicePlaces ((n : Int) - 1) (-1) (-1))) _ _ s
  rw [places_rev]
  exact wpAny_pure h
theorem pick_rev (xs : Array Value) : ((List.range xs.size).filterMap fun (m : Nat) => xs[((xs.size : Int) - 1 + (m : Int) * -1).toNat]?).toArray = xs.toList.reverse.toArray := by
  congr 1
  apply List.ext_getElem?
  intro i
  have e : ∀ m ∈ List.range xs.size, xs[((xs.size : Int) - 1 + (m : Int) * -1).toNat]? = some (xs.getD (xs.size - 1 - m) .none) := by
    intro m hm
    rw [List.mem_range] at hm
    rw [show ((xs.size : Int) - 1 + (m : Int) * -1).toNat = xs.size - 1 - m by omega]
    rw [Array.getElem?_eq_getElem (by omega)]
    simp [Array.getD, show xs.size - 1 - m < xs.size by omega]
  have e2 : (List.range xs.size).filterMap (fun (m : Nat) => xs[((xs.size : Int) - 1 + (m : Int) * -1).toNat]?) = (List.range xs.size).map fun m => xs.getD (xs.size - 1 - m) .none := by
    rw [← List.filterMap_eq_map]
    generalize List.range xs.size = l at e
    induction l with
    | nil => rfl
    | cons a r ih => simp only [List.filterMap_cons, e a (List.mem_cons_self ..), ih fun m hm => e m (List.mem_cons_of_mem _ hm), Function.comp]
  rw [e2, List.getElem?_map]
  by_cases h : i < xs.size
  · rw [List.getElem?_range h, List.getElem?_reverse (by rw [Array.length_toList]; exact h), Array.length_toList, Array.getElem?_toList, Array.getElem?_eq_getElem (by omega)]
    simp [Array.getD, show xs.size - 1 - i < xs.size by omega]
  · rw [List.getElem?_eq_none (by rw [List.length_range]; omega), List.getElem?_eq_none (by rw [List.length_reverse, Array.length_toList]; omega)]; rfl
theorem getItem_tuple_rev {t sl : Addr} {items : Array Value} {vs : Value} {Q : Value → Shared → Prop} (ht : IsTup s.heap t items) (hs : s.heap.IsSliceOf sl .none .none vs) (ps : IsPart vs (some (-1)))
    (h : Q (.ref s.heap.objs.size) { s with heap := s.heap.push { cls := .type "tuple", data := .seq items.toList.reverse.toArray } })
    (hsz : items.size ≤ sizeLine) : wpAny (model prog w) A (getItem (.ref t) (.ref sl)) Q E s := by
  have htake : sizeOk (.seq items.toList.reverse.toArray) := by
    show items.toList.reverse.toArray.size ≤ sizeLine
    rw [List.size_toArray, List.length_reverse, Array.length_toList]
    omega
  obtain ⟨os, hos, hcs, hds⟩ := id hs
  have hTs : s.TypeIs (.ref sl) "slice" := ⟨os, hos, hcs⟩
  unfold getItem
  try with_reducible refine wpAny_holding ?_
  first | refine wpAny_bind (wpAny_pure ?_) | skip
  refine wpAny_bind (wpAny_sequenceKey ht.typeIs (by decide) ?_)
  refine wpAny_bind (wpAny_callSpecial?_slot (name := Str.ofString "__getitem__") ht.typeIs PyProof.Rows.slot_tuple_getitem
    (wpAny_call_entry PyProof.Rows.slot_tuple_getitem ht.typeIs entry_tuple_getitem ?_ (args_tuple_getitem _ _)))
  show wpAny _ _ (Builtin.Tuple.tupleItemsOf (.ref t) >>= _) _ _ s
  refine wpAny_bind (tupleItemsOf_ ht ?_)
  refine wpAny_bind (wpAny_typeOf hTs ?_)
  rw [if_pos (by decide)]
  refine wpAny_bind (sliceApplied_rev (n := items.size) hs ps ?_)
  have hno : ¬ (((((items.size : Nat) : Int) - 1) == 0 && (-1 : Int) == 1 && items.size == items.size) = true) := by
    rw [show ((-1 : Int) == 1) = false by decide, Bool.and_false, Bool.false_and]; exact Bool.false_ne_true
  show wpAny _ _ (if ((((items.size : Nat) : Int) - 1) == 0 && (-1 : Int) == 1 && items.size == items.size) = true then _ else _) _ _ s
  rw [if_neg hno, pick_rev]
  first
    | exact wpAny_bind (m := Builtin.Tuple.tupleExact _) (wpAny_newObj_type (wpAny_pure ⟨_, rfl, wpAny_pure h⟩) htake)
    | exact wpAny_bind (m := Builtin.Tuple.tupleExact _) (wpAny_newObj_type (wpAny_bind (wpAny_pure (wpAny_pure ⟨_, rfl, wpAny_pure h⟩))) htake)
    | exact wpAny_bind (wpAny_bind (m := Builtin.Tuple.tupleExact _) (wpAny_newObj_type (wpAny_pure (wpAny_pure ⟨_, rfl, wpAny_pure h⟩)) htake))
    | exact wpAny_bind (wpAny_bind (m := Builtin.Tuple.tupleExact _) (wpAny_newObj_type (wpAny_pure ⟨_, rfl, wpAny_pure h⟩) htake))
end
section
variable {X : Cx} {e : Expr} {te : DE}
/-- x[::-1] of a list or a tuple -/
def dRvS (te : DE) : DE := fun δ S Q => te δ S fun x S1 => match x with
  | .tup xs => Q (.tup xs.reverse) S1
  | x => match lstOf S1 x with
    | some xs => ∀ p, S1 p = none → Q (.ref p) (dupd S1 p (.lst xs.reverse))
    | none => False
def tRevA (K : PySem.W.Frag) (te : TE) : TE := fun σ H Q => te σ H fun x H1 => ∃ a xs, x = .ref a ∧ ((SqL K H1 a xs ∧ ∀ p, H1 p = none → Q (.ref p) (upd H1 p (.lst xs.reverse))) ∨ (SqT K H1 a xs ∧ ∀ p, H1 p = none → Q (.ref p) (upd H1 p (.tup xs.reverse))))
theorem pe_revA {te : TE} {k : Nat} {p1 p2 p3 pos : Pos} (he : PE X e te) : PE X (.Subscript e (.Slice none none (some (.UnaryOp .USub (.Constant (.int 1) k p1) p2)) p3) pos) (tRevA X.K te) := by
  refine ⟨fun pins s σ H Q I h => ?_⟩
  refine Subscript_ (thn (he.run pins s σ H _ I h) fun v s1 ⟨x, H1, I1, r1, q1⟩ => ?_)
  obtain ⟨a, xs, ex, hx⟩ := q1
  subst ex
  cases r1
  have hst : PO X (some (.UnaryOp .USub (.Constant (.int 1) k p1) p2)) (tPart (tUn (rU fun i => .int (-i)) (tC (.int 1)))) := po_some (pe_un un_neg pe_int)
  refine wpAny_Slice (thn (po_none.run pins s1 σ H1 (fun o H2 => o = none ∧ H2 = H1) I1 ⟨rfl, rfl⟩) fun vl s2 ⟨l, H2, I2, pl, el, e2⟩ => ?_)
  subst el e2
  refine thn (po_none.run pins s2 σ H2 (fun o H3 => o = none ∧ H3 = H2) I2 ⟨rfl, rfl⟩) fun vu s3 ⟨u, H3, I3, pu, eu, e3⟩ => ?_
  subst eu e3
  refine thn (hst.run pins s3 σ H3 (fun o H4 => o = some (-1) ∧ H4 = H3) I3 ⟨1, rfl, -1, rfl, rfl, rfl⟩) fun vs s4 ⟨o, H4, I4, ps, eo, e4⟩ => ?_
  subst eo e4
  have I5 : Inv X pins σ H4 { s4 with heap := s4.heap.push { cls := .type "slice", data := .fields #[vl, vu, vs] } } := I4.kept (t' := s4.toks) fun b ob q => Heap.get?_push_of_some _ q
  rcases hx with ⟨hx, q⟩ | ⟨hx, q⟩
  · obtain ⟨its, r, ht, hz⟩ := I5.list hx
    have hlen := r.length
    show wpAny (model X.prog X.w) X.A (subscriptTail e (.Slice none none (some (.UnaryOp .USub (.Constant (.int 1) k p1) p2)) p3) (.ref a) (.ref s4.heap.objs.size)) (EP X pins σ Q) X.xe { s4 with heap := s4.heap.push { cls := .type "slice", data := .fields #[vl, vu, vs] } }
    refine tail_any (ops := [.ref a, .ref s4.heap.objs.size]) ht.isList.typeIs (PySem.slot_list_getitem.lookup) ?_ (by with_unfolding_all rfl)
    refine wpAny_getItem_list_slice ht.isList (Heap.IsSliceOf.new _ vl vu vs) pl pu ps (by decide) ?_ (by rw [List.size_toArray]; omega)
    rw [PySem.W.krv_pick]
    refine ⟨.ref _, _, I5.laid (t' := s4.toks) (o := .lst xs.reverse) (fun b ob q => Heap.get?_push_of_some _ q) (Nat.le_refl _) ?_, rfl, q _ (I5.hok.fresh (Nat.le_refl _))⟩
    exact ⟨by rw [List.length_reverse]; exact hz, _, 0, r.reverse, Heap.get?_push_size _ rfl⟩
  · obtain ⟨its, r, ht, hz⟩ := I5.tuple hx
    have hlen := r.length
    show wpAny (model X.prog X.w) X.A (subscriptTail e (.Slice none none (some (.UnaryOp .USub (.Constant (.int 1) k p1) p2)) p3) (.ref a) (.ref s4.heap.objs.size)) (EP X pins σ Q) X.xe { s4 with heap := s4.heap.push { cls := .type "slice", data := .fields #[vl, vu, vs] } }
    refine tail_any (ops := [.ref a, .ref s4.heap.objs.size]) ht.typeIs (PyProof.Rows.slot_tuple_getitem.lookup) ?_ (by with_unfolding_all rfl)
    cases pl
    cases pu
    refine getItem_tuple_rev ht (Heap.IsSliceOf.new _ .none .none vs) ps ?_ (by rw [List.size_toArray]; omega)
    refine ⟨.ref _, _, I5.laid (t' := s4.toks) (o := .tup xs.reverse) (fun b ob q => Heap.get?_push_of_some _ q) (Nat.le_refl _) ?_, rfl, q _ (I5.hok.fresh (Nat.le_refl _))⟩
    exact ⟨by rw [List.length_reverse]; exact hz, _, r.reverse, IsTup.new _ _⟩
theorem qe_revS {k : Nat} {p1 p2 p3 pos : Pos} (he : PE X e (liftE X.K te)) : PE X (.Subscript e (.Slice none none (some (.UnaryOp .USub (.Constant (.int 1) k p1) p2)) p3) pos) (liftE X.K (dRvS te)) :=
  PE.imp (pe_revA he) fun σ H Q ⟨δ, S, Q0, hr, hs, h, hq⟩ => ⟨δ, S, _, hr, hs, h, fun x S1 v H1 h1 r1 s1 a1 => by
    have lst : ∀ xs, lstOf S1 x = some xs → (∀ p, S1 p = none → Q0 (.ref p) (dupd S1 p (.lst xs.reverse))) → ∃ a ys, v = .ref a ∧ ((SqL X.K H1 a ys ∧ ∀ p, H1 p = none → Q (.ref p) (upd H1 p (.lst ys.reverse))) ∨ (SqT X.K H1 a ys ∧ ∀ p, H1 p = none → Q (.ref p) (upd H1 p (.tup ys.reverse)))) := fun xs e h => by
      obtain ⟨a, vs, rfl, hv, r⟩ := lst_of s1 r1 e
      exact ⟨a, vs, rfl, .inl ⟨hv, fun p hp => hq _ _ _ _ (h p (s1.fresh hp)) (.ref p) (s1.new hp ⟨_, upd_same, (Stp.laid (S := S1) hp).rvl r.reverse⟩) (a1.trans (Stp.new hp))⟩⟩
    cases x with
    | tup xs =>
      cases r1 with
      | @tup a vs _ q r => exact ⟨a, vs, rfl, .inr ⟨q, fun p hp => hq _ _ _ _ h1 (.tup (.inl (.inl upd_same)) ((Stp.laid (S := S1) hp).rvl r.reverse)) (s1.laid hp) (a1.trans (Stp.laid hp))⟩⟩
    | ref a =>
      have h1' : (match lstOf S1 (.ref a) with
        | some xs => ∀ p, S1 p = none → Q0 (.ref p) (dupd S1 p (.lst xs.reverse))
        | none => False) := h1
      split at h1'
      · rename_i xs e; exact lst xs e h1'
      · exact h1'.elim
    | fl xs => exact lst xs rfl h1
    | _ => exact h1.elim⟩
end
def isMax (ns : List Int) (m : Int) : Prop := m ∈ ns ∧ ∀ y ∈ ns, y ≤ m
def isMin (ns : List Int) (m : Int) : Prop := m ∈ ns ∧ ∀ y ∈ ns, m ≤ y
def bMax1 : DRs := fun ds S Q => match ds with
  | [d] => match lstOf S d with
    | some xs => ∃ ns : List Int, xs = ns.map D.int ∧ ns ≠ [] ∧ ∀ m, isMax ns m → Q (.int m) S
    | none => False
  | _ => False
def bMin1 : DRs := fun ds S Q => match ds with
  | [d] => match lstOf S d with
    | some xs => ∃ ns : List Int, xs = ns.map D.int ∧ ns ≠ [] ∧ ∀ m, isMin ns m → Q (.int m) S
    | none => False
  | _ => False
section
variable {X : Cx}
theorem dcall_max1 (hc : X.calm = true) : CallR X (.builtin "max") (liftC X.K bMax1) := dl_call fun pins s σ H ds xs us S Q Q0 I ru rv hs hr hq => by
  match ds, hr, rv with
  | [d], hr, rv =>
    obtain ⟨v, rfl, rd⟩ := rv.one
    have hr' : (match lstOf S d with
      | some xs => ∃ ns : List Int, xs = ns.map D.int ∧ ns ≠ [] ∧ ∀ m, isMax ns m → Q0 (.int m) S
      | none => False) := hr
    split at hr'
    · rename_i zs e
      obtain ⟨ns, rfl, hn, q⟩ := hr'
      obtain ⟨a, ws, rfl, hv, r⟩ := lst_of hs rd e
      exact cr_max hc pins s σ H _ us Q I ru ⟨a, ns, rfl, by rw [← rvl_ints r]; exact hv, List.length_pos_iff.mpr hn, fun m h1 h2 => hq _ _ _ _ (q m ⟨h1, h2⟩) (.int _) hs (.refl _ _)⟩
    · exact hr'.elim
theorem dcall_min1 (hc : X.calm = true) : CallR X (.builtin "min") (liftC X.K bMin1) := dl_call fun pins s σ H ds xs us S Q Q0 I ru rv hs hr hq => by
  match ds, hr, rv with
  | [d], hr, rv =>
    obtain ⟨v, rfl, rd⟩ := rv.one
    have hr' : (match lstOf S d with
      | some xs => ∃ ns : List Int, xs = ns.map D.int ∧ ns ≠ [] ∧ ∀ m, isMin ns m → Q0 (.int m) S
      | none => False) := hr
    split at hr'
    · rename_i zs e
      obtain ⟨ns, rfl, hn, q⟩ := hr'
      obtain ⟨a, ws, rfl, hv, r⟩ := lst_of hs rd e
      exact cr_min hc pins s σ H _ us Q I ru ⟨a, ns, rfl, by rw [← rvl_ints r]; exact hv, List.length_pos_iff.mpr hn, fun m h1 h2 => hq _ _ _ _ (q m ⟨h1, h2⟩) (.int _) hs (.refl _ _)⟩
    · exact hr'.elim
def fInsert : List D → List D → Option (D × List D) := fun xs ds => match ds with
  | [.int i, y] => if 0 ≤ i ∧ i < 2 ^ 63 then some (.non, xs.take i.toNat ++ [y] ++ xs.drop i.toNat) else none
  | _ => none
theorem dmt_insert : MtR X "list.insert" (liftM X.K (mLst fInsert)) := dl_m fun pins s σ H d ds x xs v us S Q Q0 I rx ru rd rds hs hr hq => by
  obtain ⟨a, zs, r, ys, rfl, ea, ef, hl, q⟩ := mLst_get hr
  match ds, ef, rds with
  | [.int i, y], ef, rds =>
    have ef' : (if 0 ≤ i ∧ i < 2 ^ 63 then some (D.non, zs.take i.toNat ++ [y] ++ zs.drop i.toNat) else none) = some (r, ys) := ef
    split at ef'
    · rename_i hi
      cases ef'
      cases rd
      obtain ⟨w1, w2, rfl, r1, r2⟩ := rds.two
      cases r1
      obtain ⟨vs, h1, rr⟩ := hs.lst ea
      have hlen : zs.length < sizeLine := by
        rw [szl]
        simp only [List.length_append, List.length_take, List.length_drop, List.length_singleton] at hl
        omega
      refine mt_insert pins s σ H _ _ v us Q I rx ru ⟨a, vs, i, w2, rfl, rfl, h1, by rw [← rr.length]; exact hlen, hi.1, hi.2, hq _ _ _ _ q .non (hs.write ea ⟨_, upd_same, ?_⟩) (Stp.write hs ea)⟩
      exact (((rr.take _).append (.cons r2 .nil)).append (rr.drop _)).updL h1
    · cases ef'
abbrev DRg := Loc → DS → (Int → Int → DS → Prop) → Prop
def dRg1 (ta : DE) : DRg := fun δ S Q => ta δ S fun x S1 => match x with
  | .int j => Q 0 j S1
  | _ => False
def dRg2 (ta tb : DE) : DRg := fun δ S Q => ta δ S fun x S1 => tb δ S1 fun y S2 => match x, y with
  | .int i, .int j => Q i j S2
  | _, _ => False
def liftRg (K : PySem.W.Frag) (t : DRg) : L2.St → Hp → (Int → Int → Hp → Prop) → Prop := fun σ H Q => ∃ δ S Q0, Rst K H δ σ ∧ Sim K S H ∧ t δ S Q0 ∧ ∀ i j S' H', Q0 i j S' → Sim K S' H' → Stp S H S' H' → Q i j H'
theorem PRg.imp {e : Expr} {t t' : L2.St → Hp → (Int → Int → Hp → Prop) → Prop} (p : PRg X e t) (h : ∀ σ H Q, t' σ H Q → t σ H Q) : PRg X e t' := fun pins s σ H Q I hw => p pins s σ H Q I (h _ _ _ hw)
theorem qr_1 {a : Expr} {ta : DE} {p pos : Pos} (hg : Gl X "range") (hm : X.mg "range" = none) (ha : PE X a (liftE X.K ta)) (na : starEach [a] X.env = (false, eval a X.env) :: starEach [] X.env := by rfl) : PRg X (.Call (.Name "range" p) [a] [] pos) (liftRg X.K (dRg1 ta)) :=
  PRg.imp (prg_1 hg hm ha na) fun σ H Q ⟨δ, S, Q0, hr, hs, h, hq⟩ => ⟨δ, S, _, hr, hs, h, fun d S1 v H1 q r s1 a1 => by
    cases d with
    | int j => cases r; exact ⟨j, rfl, hq _ _ _ _ q s1 a1⟩
    | _ => exact q.elim⟩
theorem qr_2 {a b : Expr} {ta tb : DE} {p pos : Pos} (hg : Gl X "range") (hm : X.mg "range" = none) (ha : PE X a (liftE X.K ta)) (hb : PE X b (liftE X.K tb)) (na : starEach [a, b] X.env = (false, eval a X.env) :: starEach [b] X.env := by rfl)
    (nb : starEach [b] X.env = (false, eval b X.env) :: starEach [] X.env := by rfl) (hp : (backTo pos (starEach [b] X.env)).any (·.1) = false := by rfl) : PRg X (.Call (.Name "range" p) [a, b] [] pos) (liftRg X.K (dRg2 ta tb)) :=
  PRg.imp (prg_2 hg hm ha hb na nb hp) fun σ H Q ⟨δ, S, Q0, hr, hs, h, hq⟩ => ⟨δ, S, _, hr, hs, h, fun d S1 v H1 q r s1 a1 => ⟨δ, S1, _, hr.stp a1, s1, q, fun e S2 u H2 q2 r2 s2 a2 => by
    cases d with
    | int i =>
      cases r
      cases e with
      | int j => cases r2; exact ⟨i, j, rfl, rfl, hq _ _ _ _ q2 s2 (a1.trans a2)⟩
      | _ => exact q2.elim
    | _ => cases e <;> exact q2.elim⟩⟩
theorem rvl_rg {K : PySem.W.Frag} {H : Hp} {a b : Int} : RvL K H (rngL a (b - a).toNat) (rgV a b) := by
  unfold rngL rgV
  generalize List.range (b - a).toNat = l
  induction l with
  | nil => exact .nil
  | cons x r ih => exact .cons (.int _) ih
def dLstRg (t : DRg) : DE := fun δ S Q => t δ S fun a b S1 => RgOk a b ∧ ∀ p, S1 p = none → Q (.ref p) (dupd S1 p (.lst (rngL a (b - a).toNat)))
def dTupRg (t : DRg) : DE := fun δ S Q => t δ S fun a b S1 => RgOk a b ∧ Q (.tup (rngL a (b - a).toNat)) S1
theorem qe_listRg {e : Expr} {t : DRg} {p pos : Pos} (hc : X.calm = true) (hg : Gl X "list") (hm : X.mg "list" = none) (he : PRg X e (liftRg X.K t)) (na : starEach [e] X.env = (false, eval e X.env) :: starEach [] X.env := by rfl) : PE X (.Call (.Name "list" p) [e] [] pos) (liftE X.K (dLstRg t)) :=
  PE.imp (pe_listRg hc hg hm he na) fun σ H Q ⟨δ, S, Q0, hr, hs, h, hq⟩ => ⟨δ, S, _, hr, hs, h, fun a b S1 H1 q s1 a1 => ⟨q.1, fun p hp => hq _ _ _ _ (q.2 p (s1.fresh hp)) (.ref p) (s1.new hp ⟨_, upd_same, rvl_rg⟩) (a1.trans (Stp.new hp))⟩⟩
theorem qe_tupRg {e : Expr} {t : DRg} {p pos : Pos} (hc : X.calm = true) (hg : Gl X "tuple") (hm : X.mg "tuple" = none) (he : PRg X e (liftRg X.K t)) (na : starEach [e] X.env = (false, eval e X.env) :: starEach [] X.env := by rfl) : PE X (.Call (.Name "tuple" p) [e] [] pos) (liftE X.K (dTupRg t)) :=
  PE.imp (pe_tupRg hc hg hm he na) fun σ H Q ⟨δ, S, Q0, hr, hs, h, hq⟩ => ⟨δ, S, _, hr, hs, h, fun a b S1 H1 q s1 a1 => ⟨q.1, fun p hp => hq _ _ _ _ q.2 (.tup (.inl (.inl upd_same)) rvl_rg) (s1.laid hp) (a1.trans (Stp.laid hp))⟩⟩
/-- ints with a step -/
def rngC (lo c : Int) (n : Nat) : List D := (List.range n).map fun i => D.int (lo + (i : Nat) * c)
theorem jok_rngC {K : PySem.W.Frag} {H0 : Hp} {lo c : Int} {n : Nat} {stay : DS → Prop} : JOk K H0 (rngC lo c n) stay (Itc lo c n) := by
  intro i S H p hs st
  refine ⟨fun hi => by rw [rngC, List.length_map, List.length_range] at hi; exact hi, fun d hd => ?_⟩
  rw [rngC, List.getElem?_map] at hd
  obtain ⟨z, h1, h2⟩ := Option.map_eq_some_iff.mp hd
  subst h2
  obtain ⟨h3, h4⟩ := List.getElem?_eq_some_iff.mp h1
  rw [List.length_range] at h3
  rw [List.getElem_range] at h4
  subst h4
  refine ⟨h3, fun x H' ⟨e, e3⟩ => ?_⟩
  subst e e3
  exact ⟨.int _, hs, .refl _ _⟩
def dRevR (t : DRg) : DI := fun δ S Q => t δ S fun a b S1 => (-(2 ^ 62) ≤ a ∧ a < 2 ^ 62 ∧ -(2 ^ 62) ≤ b ∧ b < 2 ^ 62) ∧ Q (rngC (a + (((b - a).toNat : Nat) : Int) - 1) (-1) (b - a).toNat) (fun _ => True) S1
theorem qi_revR {tg e : Expr} {t : DRg} {p pos : Pos} (hg : Gl X "reversed") (hm : X.mg "reversed" = none) (he : PRg X e (liftRg X.K t)) (hs : starEach [e] X.env = (false, eval e X.env) :: starEach [] X.env := by rfl) : PI X tg (.Call (.Name "reversed" p) [e] [] pos) (liftI X.K (dRevR t)) :=
  PI.imp (pi_revR hg hm he hs) fun σ H R ⟨δ, S, Q0, hr, hs, h, hq⟩ => ⟨δ, S, _, hr, hs, h, fun a b S1 H1 q s1 a1 => ⟨q.1.1, q.1.2.1, q.1.2.2.1, q.1.2.2.2, hq _ _ _ _ _ q.2 s1 a1 jok_rngC⟩⟩
def dRng3 (t : DA) : DI := fun δ S Q => t δ S fun ds S1 => match ds with
  | [.int i, .int j, .int c] => ∃ n, RgC i j c n ∧ Q (rngC i c n) (fun _ => True) S1
  | _ => False
theorem RvL.three {K : PySem.W.Frag} {H : Hp} {d e f : D} {vs : List V} (r : RvL K H [d, e, f] vs) : ∃ v w x, vs = [v, w, x] ∧ Rv K H d v ∧ Rv K H e w ∧ Rv K H f x := by
  cases r with
  | cons q rr =>
    obtain ⟨v, w, rfl, r1, r2⟩ := rr.two
    exact ⟨_, v, w, rfl, q, r1, r2⟩
theorem qi_range3 {tg a b c : Expr} {t : DA} {p pos : Pos} (hg : Gl X "range") (hm : X.mg "range" = none) (ha : PA X [a, b, c] (liftA X.K t))
    (hs : starEach [a, b, c] X.env = (false, eval a X.env) :: starEach [b, c] X.env := by rfl) (hpl : (backTo pos (starEach [b, c] X.env)).any (·.1) = false := by rfl) : PI X tg (.Call (.Name "range" p) [a, b, c] [] pos) (liftI X.K (dRng3 t)) :=
  PI.imp (pi_range3 hg hm ha hs hpl) fun σ H R ⟨δ, S, Q0, hr, hs, h, hq⟩ => ⟨δ, S, _, hr, hs, h, fun ds S1 vs H1 h1 r1 s1 a1 => by
    match ds, h1, r1 with
    | [.int i, .int j, .int c], h1, r1 =>
      obtain ⟨v, w, x, rfl, rd, re, rf⟩ := r1.three
      cases rd
      cases re
      cases rf
      obtain ⟨n, hn, q⟩ := h1
      exact ⟨i, j, c, n, rfl, hn, hq _ _ _ _ _ q s1 a1 jok_rngC⟩⟩
/-- zip of two lists, of two tuples -/
def dZip (t : DA) : DI := fun δ S Q => t δ S fun ds S1 => match ds with
  | [.tup xs, .tup ys] => Q ((List.zip xs ys).map fun p => D.tup [p.1, p.2]) (fun _ => True) S1
  | [x, y] => match lstOf S1 x, lstOf S1 y with
    | some xs, some ys => Q ((List.zip xs ys).map fun p => D.tup [p.1, p.2]) (fun S' => lstOf S' x = some xs ∧ lstOf S' y = some ys) S1
    | _, _ => False
  | _ => False
theorem zip_get {xs ys : List D} {i : Nat} {d : D} (h : ((List.zip xs ys).map fun p => D.tup [p.1, p.2])[i]? = some d) : ∃ x y, xs[i]? = some x ∧ ys[i]? = some y ∧ d = .tup [x, y] := by
  rw [List.getElem?_map] at h
  obtain ⟨⟨x, y⟩, h1, h2⟩ := Option.map_eq_some_iff.mp h
  rw [List.getElem?_zip_eq_some] at h1
  exact ⟨x, y, h1.1, h1.2, h2.symm⟩
theorem jok_zip {K : PySem.W.Frag} {H0 : Hp} {a b : Addr} {xs ys : List D} {stay : DS → Prop} (h : ∀ S H, Prs H0 H → Sim K S H → stay S → (∃ vs, SqL K H a vs ∧ RvL K H xs vs) ∧ ∃ vs, SqL K H b vs ∧ RvL K H ys vs) : JOk K H0 ((List.zip xs ys).map fun p => D.tup [p.1, p.2]) stay (Itz K a b) := by
  intro i S H p hs st
  obtain ⟨⟨vs, h1, r⟩, ⟨ws, h2, r2⟩⟩ := h S H p hs st
  refine ⟨fun hi => ⟨vs, ws, h1, h2, ?_⟩, fun d hd => ?_⟩
  · rw [List.length_map, List.length_zip] at hi
    rw [← r.length, ← r2.length]
    omega
  · obtain ⟨x, y, hx, hy, rfl⟩ := zip_get hd
    obtain ⟨v, k1, k2⟩ := r.get hx
    obtain ⟨u, k3, k4⟩ := r2.get hy
    refine ⟨⟨vs, ws, v, u, h1, h2, k1, k3⟩, fun x' H' ⟨T, v', u', e1, e2, e3, e4, e5⟩ => ?_⟩
    have q1 := e4 vs h1
    rw [k1] at q1
    cases q1
    have q2 := e5 ws h2
    rw [k3] at q2
    cases q2
    subst e1 e3
    exact ⟨.tup (.inl (.inl upd_same)) (.cons ((Stp.laid (S := S) e2).rv k2) (.cons ((Stp.laid (S := S) e2).rv k4) .nil)), hs.laid e2, Stp.laid e2⟩
theorem jok_zipT {K : PySem.W.Frag} {H0 : Hp} {a b : Addr} {xs ys : List D} {vs ws : List V} {stay : DS → Prop} (h1 : SqT K H0 a vs) (r : RvL K H0 xs vs) (h2 : SqT K H0 b ws) (r2 : RvL K H0 ys ws) : JOk K H0 ((List.zip xs ys).map fun p => D.tup [p.1, p.2]) stay (RZ.ItzT K a b) := by
  intro i S H p hs st
  refine ⟨fun hi => ⟨vs, ws, p.sqT h1, p.sqT h2, ?_⟩, fun d hd => ?_⟩
  · rw [List.length_map, List.length_zip] at hi
    rw [← r.length, ← r2.length]
    omega
  · obtain ⟨x, y, hx, hy, rfl⟩ := zip_get hd
    obtain ⟨v, k1, k2⟩ := r.get hx
    obtain ⟨u, k3, k4⟩ := r2.get hy
    refine ⟨⟨vs, ws, v, u, p.sqT h1, p.sqT h2, k1, k3⟩, fun x' H' ⟨T, v', u', e1, e2, e3, e4, e5⟩ => ?_⟩
    have q1 := e4 vs (p.sqT h1)
    rw [k1] at q1
    cases q1
    have q2 := e5 ws (p.sqT h2)
    rw [k3] at q2
    cases q2
    subst e1 e3
    exact ⟨.tup (.inl (.inl upd_same)) (.cons ((Stp.laid (S := S) e2).rv (p.rv k2)) (.cons ((Stp.laid (S := S) e2).rv (p.rv k4)) .nil)), hs.laid e2, Stp.laid e2⟩
theorem qi_zip {e e2 : Expr} {t : DA} {p pos tpos : Pos} {elts : List Expr} {kk : Nat} (hg : Gl X "zip") (hm : X.mg "zip" = none) (ha : PA X [e, e2] (liftA X.K t))
    (hs : starEach [e, e2] X.env = (false, eval e X.env) :: starEach [e2] X.env := by rfl) (hpl : (backTo pos (starEach [e2] X.env)).any (·.1) = false := by rfl) :
    PI X (.Tuple elts kk tpos) (.Call (.Name "zip" p) [e, e2] [] pos) (liftI X.K (dZip t)) :=
  PI.imp (RZ.pi_zipA hg hm ha hs hpl) fun σ H R ⟨δ, S, Q0, hr, hs, h, hq⟩ => ⟨δ, S, _, hr, hs, h, fun ds S1 vs H1 h1 r1 s1 a1 => by
    have lists : ∀ x y, ds = [x, y] → (match lstOf S1 x, lstOf S1 y with
        | some xs, some ys => Q0 ((List.zip xs ys).map fun p => D.tup [p.1, p.2]) (fun S' => lstOf S' x = some xs ∧ lstOf S' y = some ys) S1
        | _, _ => False) → ∃ a b xs ys, vs = [.ref a, .ref b] ∧ ((SqL X.K H1 a xs ∧ SqL X.K H1 b ys ∧ R (Itz X.K a b) H1) ∨ (SqT X.K H1 a xs ∧ SqT X.K H1 b ys ∧ R (RZ.ItzT X.K a b) H1)) := by
      rintro x y rfl h1'
      obtain ⟨v, w, rfl, rd, re⟩ := r1.two
      split at h1'
      · rename_i xs ys e1 e2
        obtain ⟨a, zs, rfl, hv, rr⟩ := lst_of s1 rd e1
        obtain ⟨b, us, rfl, hv2, rr2⟩ := lst_of s1 re e2
        exact ⟨a, b, zs, us, rfl, .inl ⟨hv, hv2, hq _ _ _ _ _ h1' s1 a1 (jok_zip fun S H p hs st => ⟨stay_lst rd S H p hs st.1, stay_lst re S H p hs st.2⟩)⟩⟩
      · exact h1'.elim
    match ds, h1, r1, lists with
    | [.tup xs, .tup ys], h1, r1, _ =>
      obtain ⟨v, w, rfl, rd, re⟩ := r1.two
      cases rd with
      | @tup a us _ q rr =>
        cases re with
        | @tup b ws _ q2 rr2 => exact ⟨a, b, us, ws, rfl, .inr ⟨q, q2, hq _ _ _ _ _ h1 s1 a1 (jok_zipT q rr q2 rr2)⟩⟩
    | [.ref x, y], h1, r1, lists => exact lists _ _ rfl h1
    | [.fl x, y], h1, r1, lists => exact lists _ _ rfl h1
    | [.tup xs, .ref y], h1, r1, lists => exact lists _ _ rfl h1
    | [.tup xs, .fl y], h1, r1, lists => exact lists _ _ rfl h1
    | [.tup xs, .non], h1, r1, lists => exact lists _ _ rfl h1
    | [.tup xs, .bl _], h1, r1, lists => exact lists _ _ rfl h1
    | [.tup xs, .int _], h1, r1, lists => exact lists _ _ rfl h1
    | [.tup xs, .str _], h1, r1, lists => exact lists _ _ rfl h1
    | [.tup xs, .ty _], h1, r1, lists => exact lists _ _ rfl h1
    | [.non, y], h1, r1, lists => exact lists _ _ rfl h1
    | [.bl _, y], h1, r1, lists => exact lists _ _ rfl h1
    | [.int _, y], h1, r1, lists => exact lists _ _ rfl h1
    | [.str _, y], h1, r1, lists => exact lists _ _ rfl h1
    | [.ty _, y], h1, r1, lists => exact lists _ _ rfl h1⟩
end
end DL
namespace DL
open PySem L2
def Ext (S S' : DS) : Prop := ∀ a o, S a = some o → S' a = some o
def But (d : Addr) (S S' : DS) : Prop := ∀ a o, a ≠ d → S a = some o → S' a = some o
theorem Ext.refl (S : DS) : Ext S S := fun _ _ h => h
theorem Ext.trans {S S1 S2 : DS} (a : Ext S S1) (b : Ext S1 S2) : Ext S S2 := fun c o h => b c o (a c o h)
theorem Ext.get {S S' : DS} {b : Addr} {o : DO} (e : Ext S S') (h : S b = some o) : S' b = some o := e b o h
theorem But.get {S S' : DS} {a b : Addr} {o : DO} (e : But a S S') (n : b ≠ a) (h : S b = some o) : S' b = some o := e b o n h
theorem Ext.back {S S' : DS} {a : Addr} (e : Ext S S') (h : S' a = none) : S a = none := by
  cases q : S a with
  | none => rfl
  | some o => rw [e a o q] at h; cases h
theorem But.back {S S' : DS} {d a : Addr} (e : But d S S') (n : a ≠ d) (h : S' a = none) : S a = none := by
  cases q : S a with
  | none => rfl
  | some o => rw [e a o n q] at h; cases h
theorem Ext.but {S S1 S2 : DS} {a : Addr} (e : Ext S S1) (b : But a S1 S2) (h : S a = none) : Ext S S2 := fun c o q => b c o (dne q h) (e c o q)
theorem But.ext {S S1 S2 : DS} {d : Addr} (e : But d S S1) (b : Ext S1 S2) : But d S S2 := fun c o n q => b c o (e c o n q)
theorem But.trans {S S1 S2 : DS} {d : Addr} (e : But d S S1) (b : But d S1 S2) : But d S S2 := fun c o n q => b c o n (e c o n q)
theorem But.but {S S1 S2 : DS} {d a : Addr} (e : But d S S1) (b : But a S1 S2) (h : S a = none) : But d S S2 := fun c o n q => b c o (dne q h) (e c o n q)
theorem Ext.toBut {S S1 : DS} {d : Addr} (e : Ext S S1) : But d S S1 := fun c o _ q => e c o q
theorem ext_new {S : DS} {p : Addr} {o : DO} (h : S p = none) : Ext S (dupd S p o) := fun a u q => by rw [dupd_ne (dne q h)]; exact q
theorem but_upd {S : DS} {p : Addr} {o : DO} : But p S (dupd S p o) := fun a u n q => by rw [dupd_ne n]; exact q
def asB (x : D) (S : DS) (Q : Bool → DS → Prop) : Prop := match x with
  | .bl k => Q k S
  | _ => False
def asP (x : D) (S : DS) (Q : Option Int → DS → Prop) : Prop := match x with
  | .int i => Q (some i) S
  | _ => False
section
variable {nx bk ct : Loc → DS → Prop} {rt : DK} {δ δ' : Loc} {S S1 : DS} {Q : DK} {QB : Bool → DS → Prop} {QA : List D → DS → Prop} {QL : Loc → DS → Prop} {QO : Option Int → DS → Prop} {E : DEnds} {i j n : Nat} {d x y : D} {a b c : DE} {r r' : DR2} {r1 : DR1} {t u : DT} {as : DA} {st su : DSt} {g : DG} {gs : DGs} {xs ys : List D} {f : DF} {QI : List D → (DS → Prop) → DS → Prop} {tb : DSt} {stay : DS → Prop}
theorem i_var (e : δ[i]? = some (some d)) (h : Q d S) : dVar i δ S Q := ⟨d, e, h⟩
theorem i_c (h : Q d S) : dC d δ S Q := h
theorem i_nil (h : QA [] S) : dNil δ S QA := h
theorem i_cons (h : a δ S fun x S1 => as δ S1 fun xs S2 => QA (x :: xs) S2) : dCons a as δ S QA := h
theorem i_tup (h : as δ S fun xs S1 => xs.length ≤ 16777216 ∧ Q (.tup xs) S1) : dTup as δ S Q := h
def newL (xs : List D) (S : DS) (Q : DK) : Prop := ∀ p, S p = none → Q (.ref p) (dupd S p (.lst xs))
theorem i_newL (h : ∀ p S1, S p = none → S1 p = some (.lst xs) → Ext S S1 → Q (.ref p) S1) : newL xs S Q := fun p hp => h p _ hp dupd_same (ext_new hp)
theorem i_len {P : Prop} (e : Nat.ble xs.length 16777216 = true) (h : P) : xs.length ≤ 16777216 ∧ P := ⟨Nat.le_of_ble_eq_true e, h⟩
theorem i_lst (h : as δ S fun xs S1 => xs.length ≤ 16777216 ∧ newL xs S1 Q) : dLst as δ S Q := h
theorem i_op (h : a δ S fun x S1 => b δ S1 fun y S2 => r x y S2 Q) : dOp r a b δ S Q := h
theorem i_un (h : a δ S fun x S1 => r1 x S1 Q) : dUn r1 a δ S Q := h
theorem i_tb (h : a δ S fun x S1 => asB x S1 QB) : dTb a δ S QB := h
theorem i_asB {k : Bool} (h : QB k S) : asB (.bl k) S QB := h
theorem i_chain (h : a δ S fun x S1 => b δ S1 fun y S2 => r x y S2 fun z S3 => asB z S3 fun k S4 => if k = true then c δ S4 fun w S5 => r' y w S5 Q else Q (.bl false) S4) : dChain r r' a b c δ S Q := h
theorem i_and (h : t δ S fun c S1 => if c = true then u δ S1 QB else QB false S1) : dAnd t u δ S QB := h
theorem i_or (h : t δ S fun c S1 => if c = true then QB true S1 else u δ S1 QB) : dOr t u δ S QB := h
theorem i_not (h : t δ S fun c S1 => QB (!c) S1) : dNot t δ S QB := h
theorem i_andV (h : a δ S fun x S1 => asB x S1 fun c S2 => if c = true then b δ S2 Q else Q (.bl false) S2) : dAndV a b δ S Q := h
theorem i_orV (h : a δ S fun x S1 => asB x S1 fun c S2 => if c = true then Q (.bl true) S2 else b δ S2 Q) : dOrV a b δ S Q := h
theorem i_notV (h : a δ S fun x S1 => asB x S1 fun c S2 => Q (.bl (!c)) S2) : dNotV a δ S Q := h
theorem i_ifE (h : t δ S fun c S1 => if c = true then a δ S1 Q else b δ S1 Q) : dIfE t a b δ S Q := h
theorem i_call (h : as δ S fun ds S1 => f ds S1 Q) : dCall f as δ S Q := h
theorem i_bm {ok : DS → D → Prop} {m : DM} (h : a δ S fun x S1 => ok S1 x ∧ as δ S1 fun xs S2 => m x xs S2 Q) : dBM ok m a as δ S Q := h
theorem i_noPart (h : QO none S) : dNoPart δ S QO := h
theorem i_part (h : a δ S fun x S1 => asP x S1 QO) : dPart a δ S QO := h
theorem i_asP {k : Int} (h : QO (some k) S) : asP (.int k) S QO := h
theorem i_sl {lo hi : DO'} (h : a δ S fun x S1 => lo δ S1 fun l S2 => hi δ S2 fun u S3 => oSl x l u S3 Q) : dSl a lo hi δ S Q := h
theorem i_yes (h : QB true S) : dYes δ S QB := h
theorem i_seq (h : st ⟨fun δ S => su ⟨nx, rt, bk, ct⟩ δ S, rt, bk, ct⟩ δ S) : dSeq st su ⟨nx, rt, bk, ct⟩ δ S := h
theorem i_next (h : nx δ S) : dNext ⟨nx, rt, bk, ct⟩ δ S := h
theorem i_break (h : bk δ S) : dBreak ⟨nx, rt, bk, ct⟩ δ S := h
theorem i_cont (h : ct δ S) : dCont ⟨nx, rt, bk, ct⟩ δ S := h
theorem i_drop (h : a δ S fun _ S1 => nx δ S1) : dDrop a ⟨nx, rt, bk, ct⟩ δ S := h
theorem i_ret (h : a δ S rt) : dRet a ⟨nx, rt, bk, ct⟩ δ S := h
theorem i_retN (h : rt .non S) : dRetN ⟨nx, rt, bk, ct⟩ δ S := h
theorem i_if (h : t δ S fun b S1 => if b = true then st E δ S1 else su E δ S1) : dIf t st su E δ S := h
theorem i_asg (h : a δ S fun x S1 => g x δ S1 nx) : dAsg a g ⟨nx, rt, bk, ct⟩ δ S := h
theorem i_gname (e : δ.set i (some d) = δ') (h : QL δ' S) : dgName i d δ S QL := by subst e; exact h
theorem i_gtup (e : xs.length = n) (h : gs xs δ S QL) : dgTup n gs (.tup xs) δ S QL := ⟨e, h⟩
theorem i_gcons (h : g d δ S fun δ' S' => gs xs δ' S' QL) : dgCons g gs (d :: xs) δ S QL := h
theorem i_gnil (h : QL δ S) : dgNil [] δ S QL := ⟨rfl, h⟩
theorem i_gsub {sr : DSet} (h : a δ S fun o S1 => b δ S1 fun i S2 => sr o i d S2 fun S3 => QL δ S3) : dgSub a b sr d δ S QL := h
def par2 (i j : Nat) (nx : Loc → DS → Prop) (δ : Loc) (ds : List D) (S : DS) : Prop := match ds with
  | [d, e] => nx ((δ.set i (some d)).set j (some e)) S
  | _ => False
theorem i_par (h : as δ S fun ds S1 => par2 i j nx δ ds S1) : dPar i j as ⟨nx, rt, bk, ct⟩ δ S := h
theorem i_par2 (e : (δ.set i (some x)).set j (some y) = δ') (h : nx δ' S) : par2 i j nx δ [x, y] S := by subst e; exact h
theorem i_aug (e : δ[i]? = some (some d)) (h : a δ S fun y S1 => r d y S1 fun z S2 => dgName i z δ S2 nx) : dAug i a r ⟨nx, rt, bk, ct⟩ δ S := ⟨d, e, h⟩
theorem i_augS {rg rp : DR2} {rs : DSet} (h : a δ S fun o S1 => b δ S1 fun i S2 => rg o i S2 fun x S3 => c δ S3 fun y S4 => rp x y S4 fun z S5 => rs o i z S5 fun S6 => nx δ S6) : dAugS a b c rg rp rs ⟨nx, rt, bk, ct⟩ δ S := h
theorem i_for {di : DI} (h : di δ S fun xs stay S1 => forT stay g tb E xs δ S1) : dFor di g tb E δ S := h
theorem i_lc {di : DI} {vs : List Nat} (e : dwipe δ vs = δ') (h : di δ S fun xs stay S1 => lcT stay g t a δ' (fun ys S2 => newL ys S2 Q) xs [] S1) : dLc di g t a vs δ S Q := by subst e; exact h
theorem i_lc2 {di di1 : DI} {g1 : DG} {t1 : DT} {vs vs1 : List Nat} (e : dwipe δ vs = δ') (h : di δ S fun xs stay S1 => lcT2 stay g t di1 g1 t1 a δ' vs1 (fun ys S2 => newL ys S2 Q) xs [] S1) : dLc2 di g t di1 g1 t1 a vs vs1 δ S Q := by subst e; exact h
theorem i_run {F : FnD} {cs : Nat → DF} (e : xs.length = F.np) (el : xs.map some ++ List.replicate (F.nl - F.np) none = δ) (h : F.body cs { nx := fun _ S' => Q .non S', rt := Q, bk := fun _ _ => False, ct := fun _ _ => False } δ S) : runF F cs xs S Q := by subst el; exact ⟨e, h⟩
theorem i_iterT (h : QI xs (fun S' => seqOf S' (.tup xs) = some xs) S) : dIter (dC (.tup xs)) δ S QI := h
def iterV (x : D) (S : DS) (Q : List D → (DS → Prop) → DS → Prop) : Prop := match x with
  | .str z => Q (z.cps.toList.map fun c => D.str ⟨#[c]⟩) (fun _ => True) S
  | x => match seqOf S x with
    | some xs => Q xs (fun S' => seqOf S' x = some xs) S
    | none => False
theorem i_iter (h : a δ S fun x S1 => iterV x S1 QI) : dIter a δ S QI := h
theorem i_iterV_tup (h : QI xs (fun S' => seqOf S' (.tup xs) = some xs) S) : iterV (.tup xs) S QI := h
theorem i_iterV_fl (h : QI xs (fun S' => seqOf S' (.fl xs) = some xs) S) : iterV (.fl xs) S QI := h
theorem seq_ref {p : Addr} (e : S p = some (.lst xs)) : seqOf S (.ref p) = some xs := by
  show (match S p with
    | some (.lst xs) => some xs
    | _ => none) = some xs
  rw [e]
theorem lst_ref {p : Addr} (e : S p = some (.lst xs)) : lstOf S (.ref p) = some xs := by
  show (match S p with
    | some (.lst xs) => some xs
    | _ => none) = some xs
  rw [e]
theorem i_iterV_ref {p : Addr} (e : S p = some (.lst xs)) (h : QI xs (fun S' => seqOf S' (.ref p) = some xs) S) : iterV (.ref p) S QI := by
  unfold iterV
  show (match seqOf S (.ref p) with
    | some xs => QI xs (fun S' => seqOf S' (.ref p) = some xs) S
    | none => False)
  rw [seq_ref e]
  exact h
def rng1V (ds : List D) (S : DS) (Q : List D → (DS → Prop) → DS → Prop) : Prop := match ds with
  | [.int j] => (-(2 ^ 62) ≤ j ∧ j < 2 ^ 62) ∧ Q (rngL 0 j.toNat) (fun _ => True) S
  | _ => False
def rng2V (ds : List D) (S : DS) (Q : List D → (DS → Prop) → DS → Prop) : Prop := match ds with
  | [.int i, .int j] => (-(2 ^ 62) ≤ i ∧ i < 2 ^ 62 ∧ -(2 ^ 62) ≤ j ∧ j < 2 ^ 62) ∧ Q (rngL i (j - i).toNat) (fun _ => True) S
  | _ => False
theorem i_rng1 (h : as δ S fun ds S1 => rng1V ds S1 QI) : dRng1 as δ S QI := h
theorem i_rng1V {k : Int} (hb : -(2 ^ 62) ≤ k ∧ k < 2 ^ 62) (h : QI (rngL 0 k.toNat) (fun _ => True) S) : rng1V [.int k] S QI := ⟨hb, h⟩
theorem i_rng2 (h : as δ S fun ds S1 => rng2V ds S1 QI) : dRng2 as δ S QI := h
theorem i_rng2V {k l : Int} (hb : -(2 ^ 62) ≤ k ∧ k < 2 ^ 62 ∧ -(2 ^ 62) ≤ l ∧ l < 2 ^ 62) (h : QI (rngL k (l - k).toNat) (fun _ => True) S) : rng2V [.int k, .int l] S QI := ⟨hb, h⟩
def revV (x : D) (S : DS) (Q : List D → (DS → Prop) → DS → Prop) : Prop := match seqOf S x with
  | some xs => Q xs.reverse (fun S' => seqOf S' x = some xs) S
  | none => False
theorem i_rev (h : a δ S fun x S1 => revV x S1 QI) : dRev a δ S QI := h
theorem i_revV (e : seqOf S x = some xs) (h : QI xs.reverse (fun S' => seqOf S' x = some xs) S) : revV x S QI := by unfold revV; rw [e]; exact h
def enumV (ds : List D) (S : DS) (Q : List D → (DS → Prop) → DS → Prop) : Prop := match ds with
  | [x] => match lstOf S x with
    | some xs => Q (numL xs) (fun S' => lstOf S' x = some xs) S
    | none => False
  | _ => False
theorem i_enum (h : as δ S fun ds S1 => enumV ds S1 QI) : dEnum as δ S QI := h
theorem i_enumV (e : lstOf S x = some xs) (h : QI (numL xs) (fun S' => lstOf S' x = some xs) S) : enumV [x] S QI := by
  show (match lstOf S x with
    | some xs => QI (numL xs) (fun S' => lstOf S' x = some xs) S
    | none => False)
  rw [e]; exact h
variable {k l : Int} {p q : Addr} {z w : Str}
theorem o_addI (h : Q (.int (k + l)) S) : oAdd (.int k) (.int l) S Q := h
theorem o_addS (hl : z.length + w.length ≤ 16777216) (h : Q (.str (z ++ w)) S) : oAdd (.str z) (.str w) S Q := ⟨hl, h⟩
theorem o_addT (hl : xs.length + ys.length ≤ 16777216) (h : Q (.tup (xs ++ ys)) S) : oAdd (.tup xs) (.tup ys) S Q := ⟨hl, h⟩
theorem o_addL (e1 : S p = some (.lst xs)) (e2 : S q = some (.lst ys)) (hl : xs.length + ys.length ≤ 16777216) (h : newL (xs ++ ys) S Q) : oAdd (.ref p) (.ref q) S Q := by
  show (match S p, S q with
    | some (.lst xs), some (.lst ys) => xs.length + ys.length ≤ 16777216 ∧ ∀ p, S p = none → Q (.ref p) (dupd S p (.lst (xs ++ ys)))
    | _, _ => False)
  rw [e1, e2]; exact ⟨hl, h⟩
theorem o_subI (h : Q (.int (k - l)) S) : oSub (.int k) (.int l) S Q := h
theorem o_mulI (hl : k.natAbs.log2 + l.natAbs.log2 < 1000000) (h : Q (.int (k * l)) S) : oMul (.int k) (.int l) S Q := ⟨hl, h⟩
theorem o_mulL (e : S p = some (.lst xs)) (hl : -(2 ^ 63) ≤ k ∧ k < 2 ^ 63 ∧ xs.length * k.toNat ≤ 16777216) (h : newL (List.replicate k.toNat xs).flatten S Q) : oMul (.ref p) (.int k) S Q := by
  show (match S p with
    | some (.lst xs) => (-(2 ^ 63) ≤ k ∧ k < 2 ^ 63 ∧ xs.length * k.toNat ≤ 16777216) ∧ ∀ p, S p = none → Q (.ref p) (dupd S p (.lst (List.replicate k.toNat xs).flatten))
    | _ => False)
  rw [e]; exact ⟨hl, h⟩
theorem o_mulT (h1 : xs ≠ []) (h2 : 1 ≤ k) (h3 : k ≤ 1000) (h4 : xs.length ≤ 1000) (h : Q (.tup (List.replicate k.toNat xs).flatten) S) : oMul (.tup xs) (.int k) S Q := ⟨⟨h1, h2, h3, h4⟩, h⟩
theorem o_fdvI (hl : 0 < l ∧ l.natAbs.log2 < 9000) (h : Q (.int (k / l)) S) : oFdv (.int k) (.int l) S Q := ⟨hl, h⟩
theorem o_modI (hl : 0 < l) (h : Q (.int (k % l)) S) : oMod (.int k) (.int l) S Q := ⟨hl, h⟩
theorem o_powI (hl : 0 ≤ l ∧ l ≤ 1000000 ∧ k.natAbs < 2 ^ 64) (h : Q (.int (k ^ l.toNat)) S) : oPow (.int k) (.int l) S Q := ⟨hl, h⟩
theorem o_shlI (hl : 0 ≤ l ∧ l ≤ 1000000 ∧ k.natAbs < 2 ^ 64) (h : Q (.int (k * 2 ^ l.toNat)) S) : oShl (.int k) (.int l) S Q := ⟨hl, h⟩
theorem o_bitI {f : Int → Int → Int} (h : Q (.int (f k l)) S) : oBit f (.int k) (.int l) S Q := h
theorem o_neg (h : Q (.int (-k)) S) : uNeg (.int k) S Q := h
theorem o_cmpI {o : COp} (h : Q (.bl (o.int k l)) S) : oCmp o (.int k) (.int l) S Q := h
theorem o_ltI (h : Q (.bl (decide (k < l))) S) : oCmp .lt (.int k) (.int l) S Q := h
theorem o_leI (h : Q (.bl (decide (k ≤ l))) S) : oCmp .le (.int k) (.int l) S Q := h
theorem o_gtI (h : Q (.bl (decide (l < k))) S) : oCmp .gt (.int k) (.int l) S Q := h
theorem o_geI (h : Q (.bl (decide (l ≤ k))) S) : oCmp .ge (.int k) (.int l) S Q := h
theorem eqv_int : D.eqv (.int k) (.int l) = decide (k = l) := by unfold D.eqv; rw [D.py, D.py, PyData.eqv]; rw [Bool.eq_iff_iff]; simp
theorem eqv_str : D.eqv (.str z) (.str w) = decide (z = w) := by unfold D.eqv; rw [D.py, D.py, PyData.eqv]; rw [Bool.eq_iff_iff]; simp
theorem eqv_bl {b c : Bool} : D.eqv (.bl b) (.bl c) = (b == c) := by unfold D.eqv; rw [D.py, D.py, PyData.eqv]
theorem plain_int : (D.int k).plain = true := by rw [D.plain]
theorem plain_str : (D.str z).plain = true := by rw [D.plain]
theorem plain_bl {b : Bool} : (D.bl b).plain = true := by rw [D.plain]
theorem plain_non : D.non.plain = true := by rw [D.plain]
/-- == of things without mutable parts -/
theorem o_eqP {neg : Bool} (hx : x.plain = true) (hy : y.plain = true) (hd : x.dep ≤ 50 ∨ y.dep ≤ 50) (h : Q (.bl (neg ^^ D.eqv x y)) S) : oEq neg x y S Q := by
  unfold oEq
  rw [D.rd_plain x 4 hx, D.rd_plain y 4 hy]
  exact ⟨⟨hx, hy, hd⟩, h⟩
theorem rdL_plain {xs : List D} {n : Nat} (h : D.plainL xs = true) : xs.map (D.rd S n) = xs := by
  have : ∀ y ∈ xs, D.rd S n y = y := fun y hy => D.rd_plain y n (D.plainL_mem h y hy)
  exact (List.map_congr_left this).trans (List.map_id' xs)
theorem o_inT {neg : Bool} (hx : x.plain = true) (hxs : D.plainL xs = true) (hd : x.dep ≤ 50) (h : Q (.bl (neg ^^ xs.any fun e => D.eqv e x)) S) : oIn neg x (.tup xs) S Q := by
  show (((x.rd S 3).plain = true ∧ D.plainL (xs.map (D.rd S 3)) = true ∧ (x.rd S 3).dep ≤ 50) ∧ Q (.bl (neg ^^ (xs.map (D.rd S 3)).any fun e => D.eqv e (x.rd S 3))) S)
  rw [D.rd_plain x 3 hx, rdL_plain hxs]
  exact ⟨⟨hx, hxs, hd⟩, h⟩
theorem o_inL {neg : Bool} (e : S p = some (.lst xs)) (hx : x.plain = true) (hxs : D.plainL xs = true) (hd : x.dep ≤ 50) (h : Q (.bl (neg ^^ xs.any fun e => D.eqv e x)) S) : oIn neg x (.ref p) S Q := by
  show (match seqOf S (.ref p) with
    | some xs => ((x.rd S 3).plain = true ∧ D.plainL (xs.map (D.rd S 3)) = true ∧ (x.rd S 3).dep ≤ 50) ∧ Q (.bl (neg ^^ (xs.map (D.rd S 3)).any fun e => D.eqv e (x.rd S 3))) S
    | none => False)
  rw [seq_ref e]
  show (((x.rd S 3).plain = true ∧ D.plainL (xs.map (D.rd S 3)) = true ∧ (x.rd S 3).dep ≤ 50) ∧ Q (.bl (neg ^^ (xs.map (D.rd S 3)).any fun e => D.eqv e (x.rd S 3))) S)
  rw [D.rd_plain x 3 hx, rdL_plain hxs]
  exact ⟨⟨hx, hxs, hd⟩, h⟩
theorem plainL_strs : ∀ zs : List Str, D.plainL (zs.map D.str) = true
  | [] => by rw [List.map_nil, D.plainL]
  | z :: zs => by rw [List.map_cons, D.plainL, plainL_strs zs, plain_str]; rfl
theorem plainL_ints : ∀ zs : List Int, D.plainL (zs.map D.int) = true
  | [] => by rw [List.map_nil, D.plainL]
  | z :: zs => by rw [List.map_cons, D.plainL, plainL_ints zs, plain_int]; rfl
theorem any_strs {z : Str} : ∀ zs : List Str, ((zs.map D.str).any fun e => D.eqv e (.str z)) = decide (z ∈ zs)
  | [] => rfl
  | y :: zs => by
    rw [List.map_cons, List.any_cons, any_strs zs, eqv_str, Bool.eq_iff_iff, Bool.or_eq_true, decide_eq_true_iff, decide_eq_true_iff, decide_eq_true_iff, List.mem_cons]
    exact or_congr eq_comm Iff.rfl
theorem any_ints {z : Int} : ∀ zs : List Int, ((zs.map D.int).any fun e => D.eqv e (.int z)) = decide (z ∈ zs)
  | [] => rfl
  | y :: zs => by
    rw [List.map_cons, List.any_cons, any_ints zs, eqv_int, Bool.eq_iff_iff, Bool.or_eq_true, decide_eq_true_iff, decide_eq_true_iff, decide_eq_true_iff, List.mem_cons]
    exact or_congr eq_comm Iff.rfl
theorem dep_str0 {z : Str} : (D.str z).dep ≤ 50 := by rw [D.dep]; decide
theorem dep_int0 {z : Int} : (D.int z).dep ≤ 50 := by rw [D.dep]; decide
theorem o_inS (zs : List Str) (h : Q (.bl (decide (z ∈ zs))) S) : oIn false (.str z) (.tup (zs.map D.str)) S Q := o_inT plain_str (plainL_strs zs) dep_str0 (by rw [Bool.false_xor, any_strs]; exact h)
theorem o_notinS (zs : List Str) (h : Q (.bl (!decide (z ∈ zs))) S) : oIn true (.str z) (.tup (zs.map D.str)) S Q := o_inT plain_str (plainL_strs zs) dep_str0 (by rw [Bool.true_xor, any_strs]; exact h)
theorem o_inI (zs : List Int) (h : Q (.bl (decide (k ∈ zs))) S) : oIn false (.int k) (.tup (zs.map D.int)) S Q := o_inT plain_int (plainL_ints zs) dep_int0 (by rw [Bool.false_xor, any_ints]; exact h)
theorem o_notinI (zs : List Int) (h : Q (.bl (!decide (k ∈ zs))) S) : oIn true (.int k) (.tup (zs.map D.int)) S Q := o_inT plain_int (plainL_ints zs) dep_int0 (by rw [Bool.true_xor, any_ints]; exact h)
theorem o_inIL (zs : List Int) (e : S p = some (.lst (zs.map D.int))) (h : Q (.bl (decide (k ∈ zs))) S) : oIn false (.int k) (.ref p) S Q := o_inL e plain_int (plainL_ints zs) dep_int0 (by rw [Bool.false_xor, any_ints]; exact h)
theorem o_notinIL (zs : List Int) (e : S p = some (.lst (zs.map D.int))) (h : Q (.bl (!decide (k ∈ zs))) S) : oIn true (.int k) (.ref p) S Q := o_inL e plain_int (plainL_ints zs) dep_int0 (by rw [Bool.true_xor, any_ints]; exact h)
theorem plainL_bls : ∀ zs : List Bool, D.plainL (zs.map D.bl) = true
  | [] => by rw [List.map_nil, D.plainL]
  | z :: zs => by rw [List.map_cons, D.plainL, plainL_bls zs, plain_bl]; rfl
theorem any_bls {z : Bool} : ∀ zs : List Bool, ((zs.map D.bl).any fun e => D.eqv e (.bl z)) = decide (z ∈ zs)
  | [] => rfl
  | y :: zs => by
    rw [List.map_cons, List.any_cons, any_bls zs, eqv_bl, Bool.eq_iff_iff, Bool.or_eq_true, beq_iff_eq, decide_eq_true_iff, decide_eq_true_iff, List.mem_cons]
    exact or_congr eq_comm Iff.rfl
theorem o_inBL {z : Bool} {zs : List Bool} (neg : Bool) (e : S p = some (.lst (zs.map D.bl))) (h : Q (.bl (neg ^^ decide (z ∈ zs))) S) : oIn neg (.bl z) (.ref p) S Q := o_inL e plain_bl (plainL_bls zs) (by rw [D.dep]; decide) (by rw [any_bls]; exact h)
theorem dep_int : (D.int k).dep ≤ 50 := by rw [D.dep]; decide
theorem dep_str : (D.str z).dep ≤ 50 := by rw [D.dep]; decide
theorem dep_bl {b : Bool} : (D.bl b).dep ≤ 50 := by rw [D.dep]; decide
theorem dep_non : D.non.dep ≤ 50 := by rw [D.dep]; decide
theorem o_eqI (h : Q (.bl (decide (k = l))) S) : oEq false (.int k) (.int l) S Q := o_eqP plain_int plain_int (.inl dep_int) (by rw [Bool.false_xor, eqv_int]; exact h)
theorem o_neI (h : Q (.bl (!decide (k = l))) S) : oEq true (.int k) (.int l) S Q := o_eqP plain_int plain_int (.inl dep_int) (by rw [Bool.true_xor, eqv_int]; exact h)
theorem o_eqS (h : Q (.bl (decide (z = w))) S) : oEq false (.str z) (.str w) S Q := o_eqP plain_str plain_str (.inl dep_str) (by rw [Bool.false_xor, eqv_str]; exact h)
theorem o_neS (h : Q (.bl (!decide (z = w))) S) : oEq true (.str z) (.str w) S Q := o_eqP plain_str plain_str (.inl dep_str) (by rw [Bool.true_xor, eqv_str]; exact h)
theorem o_eqB {b c : Bool} (h : Q (.bl (b == c)) S) : oEq false (.bl b) (.bl c) S Q := o_eqP plain_bl plain_bl (.inl dep_bl) (by rw [Bool.false_xor, eqv_bl]; exact h)
theorem o_neB {b c : Bool} (h : Q (.bl (!(b == c))) S) : oEq true (.bl b) (.bl c) S Q := o_eqP plain_bl plain_bl (.inl dep_bl) (by rw [Bool.true_xor, eqv_bl]; exact h)
def isNon : D → Bool
  | .non => true
  | _ => false
theorem o_is (h : Q (.bl (isNon x)) S) : oIs false x .non S Q := by
  cases x <;> exact h
theorem o_isnot (h : Q (.bl (!isNon x)) S) : oIs true x .non S Q := by
  cases x <;> exact h
theorem o_isBl {b c : Bool} (h : Q (.bl (decide (b = c))) S) : oIs false (.bl b) (.bl c) S Q := by
  show Q (.bl (false ^^ decide (b = c))) S
  rw [Bool.false_xor]; exact h
theorem o_notBl {b c : Bool} (h : Q (.bl (!decide (b = c))) S) : oIs true (.bl b) (.bl c) S Q := by
  show Q (.bl (true ^^ decide (b = c))) S
  rw [Bool.true_xor]; exact h
/-- an item -/
theorem o_ixT {v : D} (e : atI xs k = some v) (h : Q v S) : oIx (.tup xs) (.int k) S Q := by
  show (match atI xs k with
    | some d => Q d S
    | none => False)
  rw [e]; exact h
theorem o_ixF {v : D} (e : atI xs k = some v) (h : Q v S) : oIx (.fl xs) (.int k) S Q := by
  show (match atI xs k with
    | some d => Q d S
    | none => False)
  rw [e]; exact h
theorem o_ixL {v : D} (e0 : S p = some (.lst xs)) (e : atI xs k = some v) (h : Q v S) : oIx (.ref p) (.int k) S Q := by
  show (match seqOf S (.ref p) with
    | some xs => match atI xs k with
      | some d => Q d S
      | none => False
    | none => False)
  rw [seq_ref e0]
  show (match atI xs k with
    | some d => Q d S
    | none => False)
  rw [e]; exact h
theorem o_ixS {c : Nat} (hz : z.length ≤ 16777216) (e : atI z.cps.toList k = some c) (h : Q (.str ⟨#[c]⟩) S) : oIx (.str z) (.int k) S Q := by
  refine ⟨hz, ?_⟩
  show (match atI z.cps.toList k with
    | some c => Q (.str ⟨#[c]⟩) S
    | none => False)
  rw [e]; exact h
theorem o_slT {lo hi : Option Int} (h : Q (.tup (dcut xs lo hi)) S) : oSl (.tup xs) lo hi S Q := h
theorem o_slF {lo hi : Option Int} (h : newL (dcut xs lo hi) S Q) : oSl (.fl xs) lo hi S Q := h
theorem o_slL {lo hi : Option Int} (e : S p = some (.lst xs)) (h : newL (dcut xs lo hi) S Q) : oSl (.ref p) lo hi S Q := by
  show (match lstOf S (.ref p) with
    | some xs => ∀ p, S p = none → Q (.ref p) (dupd S p (.lst (dcut xs lo hi)))
    | none => False)
  rw [lst_ref e]; exact h
def putL (p : Addr) (xs : List D) (S : DS) (Q : DS → Prop) : Prop := Q (dupd S p (.lst xs))
theorem i_putL {QS : DS → Prop} (h : ∀ S1, S1 p = some (.lst xs) → But p S S1 → QS S1) : putL p xs S QS := h _ dupd_same but_upd
theorem s_ix {QS : DS → Prop} {v : D} {m : Nat} (e : S p = some (.lst xs)) (ek : ixN xs.length k = some m) (h : putL p (xs.set m v) S QS) : sIx (.ref p) (.int k) v S QS := by
  show (match S p with
    | some (.lst xs) => match ixN xs.length k with
      | some j => QS (dupd S p (.lst (xs.set j v)))
      | none => False
    | _ => False)
  rw [e]
  show (match ixN xs.length k with
    | some j => QS (dupd S p (.lst (xs.set j v)))
    | none => False)
  rw [ek]; exact h
theorem c_lenT (h : Q (.int xs.length) S) : bLen [.tup xs] S Q := h
theorem c_lenF (h : Q (.int xs.length) S) : bLen [.fl xs] S Q := h
theorem c_lenL (e : S p = some (.lst xs)) (h : Q (.int xs.length) S) : bLen [.ref p] S Q := by
  show (match (seqOf S (.ref p)).map (fun l : List D => l.length) with
    | some n => Q (.int ((n : Nat) : Int)) S
    | none => False)
  rw [seq_ref e]; exact h
theorem c_lenS (hz : z.length ≤ 16777216) (h : Q (.int z.length) S) : bLen [.str z] S Q := by
  show (match lenOf S (.str z) with
    | some n => Q (.int n) S
    | none => False)
  rw [lenOf, if_pos hz]; exact h
theorem c_int (h : Q (.int k) S) : bInt [.int k] S Q := h
theorem c_intB {b : Bool} (h : Q (.int (if b then 1 else 0)) S) : bInt [.bl b] S Q := h
theorem c_abs (h : Q (.int (if k < 0 then -k else k)) S) : bAbs [.int k] S Q := h
theorem c_max2 (h : Q (.int (max k l)) S) : bMax2 [.int k, .int l] S Q := by
  show Q (.int (if l > k then l else k)) S
  rw [show (if l > k then l else k) = max k l by rw [Int.max_def]; split <;> split <;> omega]; exact h
theorem c_min2 (h : Q (.int (min k l)) S) : bMin2 [.int k, .int l] S Q := by
  show Q (.int (if l < k then l else k)) S
  rw [show (if l < k then l else k) = min k l by rw [Int.min_def]; split <;> split <;> omega]; exact h
theorem c_listT (h : newL xs S Q) : bList [.tup xs] S Q := h
theorem c_listF (h : newL xs S Q) : bList [.fl xs] S Q := h
theorem c_listL (e : S p = some (.lst xs)) (h : newL xs S Q) : bList [.ref p] S Q := by
  show (match seqOf S (.ref p) with
    | some xs => ∀ p, S p = none → Q (.ref p) (dupd S p (.lst xs))
    | none => False)
  rw [seq_ref e]; exact h
theorem c_tupleT (h : Q (.tup xs) S) : bTuple [.tup xs] S Q := h
theorem c_tupleF (h : Q (.tup xs) S) : bTuple [.fl xs] S Q := h
theorem c_tupleL (e : S p = some (.lst xs)) (h : Q (.tup xs) S) : bTuple [.ref p] S Q := by
  show (match seqOf S (.ref p) with
    | some xs => Q (.tup xs) S
    | none => False)
  rw [seq_ref e]; exact h
theorem c_isi {T : String} {s : String} (e : tyName S x = some s) (kT : knownTy T = true) (h : Q (.bl (isi s T)) S) : bIsi [x, .ty T] S Q := by
  show (match tyName S x with
    | some t => knownTy T = true ∧ Q (.bl (isi t T)) S
    | none => False)
  rw [e]; exact ⟨kT, h⟩
theorem c_isi2 {T U : String} {s : String} (e : tyName S x = some s) (kT : knownTy T = true) (kU : knownTy U = true) (h : Q (.bl (isi s T || isi s U)) S) : bIsi [x, .tup [.ty T, .ty U]] S Q := by
  show (match tyName S x with
    | some t => (knownTy T = true ∧ knownTy U = true) ∧ Q (.bl (isi t T || isi t U)) S
    | none => False)
  rw [e]; exact ⟨⟨kT, kU⟩, h⟩
theorem c_sorted (e : lstOf S x = some xs) (h1 : ∀ x ∈ xs, x.plain = true ∧ x.dep ≤ 50) (h2 : PySem.W.AllAlike (xs.map D.py)) (h3 : PySem.W.Sortable (xs.map D.py)) (h : newL (xs.mergeSort dle) S Q) : bSorted [x] S Q := by
  show (match lstOf S x with
    | some xs => ((∀ x ∈ xs, x.plain = true ∧ x.dep ≤ 50) ∧ PySem.W.AllAlike (xs.map D.py) ∧ PySem.W.Sortable (xs.map D.py)) ∧ ∀ p, S p = none → Q (.ref p) (dupd S p (.lst (xs.mergeSort dle)))
    | none => False)
  rw [e]; exact ⟨⟨h1, h2, h3⟩, h⟩
theorem dle_int {i j : Int} : dle (.int i) (.int j) = decide (i ≤ j) := by
  show (!PySem.W.dataLt (D.py (.int j)) (D.py (.int i))) = _
  rw [show D.py (.int i) = .int i by rw [D.py], show D.py (.int j) = .int j by rw [D.py], PySem.W.dataLt_int]
  rw [Bool.eq_iff_iff]; simp
theorem c_sortedI {ns : List Int} (e : lstOf S x = some (ns.map D.int)) (h : newL ((ns.mergeSort fun a b => decide (a ≤ b)).map D.int) S Q) : bSorted [x] S Q := by
  refine c_sorted e ?_ ?_ ?_ ?_
  · intro x hx
    obtain ⟨i, _, rfl⟩ := List.mem_map.mp hx
    exact ⟨plain_int, dep_int⟩
  · intro d hd d' hd'
    rw [List.map_map] at hd hd'
    obtain ⟨i, _, rfl⟩ := List.mem_map.mp hd
    obtain ⟨j, _, rfl⟩ := List.mem_map.mp hd'
    simp [Function.comp, D.py, PySem.W.alike]
  · right
    intro d hd
    rw [List.map_map] at hd
    obtain ⟨i, _, rfl⟩ := List.mem_map.mp hd
    simp [Function.comp, D.py]
  · rw [← List.map_mergeSort (r := fun a b => decide (a ≤ b)) (fun a _ b _ => dle_int.symm)]
    exact h
theorem c_sum {ns : List Int} (e : lstOf S x = some (ns.map D.int)) (h : Q (.int ns.sum) S) : bSum [x] S Q := by
  show (match lstOf S x with
    | some xs => ∃ ns : List Int, xs = ns.map D.int ∧ Q (.int ns.sum) S
    | none => False)
  rw [e]; exact ⟨ns, rfl, h⟩
theorem c_any {bs : List Bool} (e : lstOf S x = some (bs.map D.bl)) (h : Q (.bl (bs.any id)) S) : bAny [x] S Q := by
  show (match lstOf S x with
    | some xs => ∃ bs : List Bool, xs = bs.map D.bl ∧ Q (.bl (bs.any id)) S
    | none => False)
  rw [e]; exact ⟨bs, rfl, h⟩
theorem c_all {bs : List Bool} (e : lstOf S x = some (bs.map D.bl)) (h : Q (.bl (bs.all id)) S) : bAll [x] S Q := by
  show (match lstOf S x with
    | some xs => ∃ bs : List Bool, xs = bs.map D.bl ∧ Q (.bl (bs.all id)) S
    | none => False)
  rw [e]; exact ⟨bs, rfl, h⟩
theorem ok_L {p : Addr} (e : S p = some (.lst xs)) {P : Prop} (h : P) : okLst S (.ref p) ∧ P := ⟨by unfold okLst; rw [lst_ref e]; rfl, h⟩
theorem ok_S {P : Prop} (h : P) : okStr S (.str z) ∧ P := ⟨True.intro, h⟩
theorem m_lst {fm : List D → List D → Option (D × List D)} {v : D} (e : S p = some (.lst xs)) (ef : fm xs ys = some (v, zs)) (hl : zs.length ≤ 16777216) (h : putL p zs S (Q v)) : mLst fm (.ref p) ys S Q := by
  show (match S p with
    | some (.lst xs) => match fm xs ys with
      | some (r, ys) => ys.length ≤ 16777216 ∧ Q r (dupd S p (.lst ys))
      | none => False
    | _ => False)
  rw [e]
  show (match fm xs ys with
    | some (r, ys) => ys.length ≤ 16777216 ∧ Q r (dupd S p (.lst ys))
    | none => False)
  rw [ef]; exact ⟨hl, h⟩
theorem m_append (e : S p = some (.lst xs)) (hl : (xs ++ [x]).length ≤ 16777216) (h : putL p (xs ++ [x]) S (Q .non)) : mLst fAppend (.ref p) [x] S Q := m_lst e rfl hl h
theorem m_pop (e : S p = some (.lst (xs ++ [x]))) (hl : xs.length ≤ 16777216) (h : putL p xs S (Q x)) : mLst fPop (.ref p) [] S Q := by
  refine m_lst e ?_ hl h
  show (match (xs ++ [x])[(xs ++ [x]).length - 1]? with
    | some y => some (y, (xs ++ [x]).dropLast)
    | none => none) = some (x, xs)
  simp
theorem m_reverse (e : S p = some (.lst xs)) (hl : xs.length ≤ 16777216) (h : putL p xs.reverse S (Q .non)) : mLst fReverse (.ref p) [] S Q := m_lst e rfl (by rw [List.length_reverse]; exact hl) h
theorem m_popAt {m : Nat} (e : S p = some (.lst xs)) (ek : ixN xs.length k = some m) (ex : xs[m]? = some x) (hl : xs.length ≤ 16777216) (h : putL p (xs.eraseIdx m) S (Q x)) : mLst fPopAt (.ref p) [.int k] S Q := by
  refine m_lst e ?_ (Nat.le_trans (List.length_eraseIdx_le ..) hl) h
  show (match ixN xs.length k with
    | some k => match xs[k]? with
      | some y => some (y, xs.eraseIdx k)
      | none => none
    | none => none) = some (x, xs.eraseIdx m)
  rw [ek]
  show (match xs[m]? with
    | some y => some (y, xs.eraseIdx m)
    | none => none) = some (x, xs.eraseIdx m)
  rw [ex]
theorem m_extend (e1 : S p = some (.lst xs)) (e2 : S q = some (.lst ys)) (hl : xs.length + ys.length ≤ 16777216) (h : putL p (xs ++ ys) S (Q .non)) : mExtend (.ref p) [.ref q] S Q := by
  show (match S p, S q with
    | some (.lst xs), some (.lst ys) => xs.length + ys.length ≤ 16777216 ∧ Q .non (dupd S p (.lst (xs ++ ys)))
    | _, _ => False)
  rw [e1, e2]; exact ⟨hl, h⟩
theorem m_join {zs : List Str} (e : seqOf S y = some (zs.map D.str)) (hl : (zs.map (·.length)).sum + zs.length * z.length ≤ 16777216) (h : Q (.str (Txt.join z zs)) S) : mJoin (.str z) [y] S Q := by
  show (match seqOf S y with
    | some xs => ∃ ys : List Str, xs = ys.map D.str ∧ (ys.map (·.length)).sum + ys.length * z.length ≤ 16777216 ∧ Q (.str (Txt.join z ys)) S
    | none => False)
  rw [e]; exact ⟨zs, rfl, hl, h⟩
theorem ite_dec {P A B : Prop} [Decidable P] (h1 : P → A) (h2 : ¬ P → B) : if decide P = true then A else B := by
  by_cases h : P
  · rw [if_pos (decide_eq_true h)]; exact h1 h
  · rw [if_neg (by rw [decide_eq_false h]; exact Bool.false_ne_true)]; exact h2 h
theorem ite_ndec {P A B : Prop} [Decidable P] (h1 : ¬ P → A) (h2 : P → B) : if (!decide P) = true then A else B := by
  by_cases h : P
  · rw [decide_eq_true h]; exact (if_neg Bool.false_ne_true).mpr (h2 h)
  · rw [decide_eq_false h]; exact (if_pos rfl).mpr (h1 h)
theorem ite_t {A B : Prop} (h : A) : if true = true then A else B := (if_pos rfl).mpr h
theorem ite_f {A B : Prop} (h : B) : if false = true then A else B := (if_neg Bool.false_ne_true).mpr h
theorem ite_nt {A B : Prop} (h : B) : if (!true) = true then A else B := (if_neg Bool.false_ne_true).mpr h
theorem ite_nf {A B : Prop} (h : A) : if (!false) = true then A else B := (if_pos rfl).mpr h
theorem ite_b {b : Bool} {A B : Prop} (h1 : b = true → A) (h2 : b = false → B) : if b = true then A else B := by
  cases b with
  | true => exact ite_t (h1 rfl)
  | false => exact ite_f (h2 rfl)
/-- a for loop by an invariant over the turns -/
theorem for_inv (P : Nat → Loc → DS → Prop) (h0 : P 0 δ S) (hst : ∀ m δ S, m ≤ xs.length → P m δ S → stay S)
    (turn : ∀ m x δ S (nx' : Loc → DS → Prop), xs[m]? = some x → m < xs.length → P m δ S → (∀ δ S, P (m + 1) δ S → nx' δ S) → g x δ S fun δ1 S1 => tb ⟨nx', rt, nx, nx'⟩ δ1 S1)
    (done : ∀ δ S, P xs.length δ S → nx δ S) : forT stay g tb ⟨nx, rt, bk, ct⟩ xs δ S := by
  have all : ∀ k m δ S, xs.length - m = k → m ≤ xs.length → P m δ S → forT stay g tb ⟨nx, rt, bk, ct⟩ (xs.drop m) δ S := by
    intro k
    induction k with
    | zero =>
      intro m δ S hk hm p
      have : m = xs.length := by omega
      subst this
      rw [List.drop_length]
      exact ⟨hst _ δ S (Nat.le_refl _) p, done δ S p⟩
    | succ k ih =>
      intro m δ S hk hm p
      have hlt : m < xs.length := by omega
      rw [List.drop_eq_getElem_cons hlt]
      exact ⟨hst m δ S hm p, turn m xs[m] δ S _ (List.getElem?_eq_getElem hlt) hlt p fun δ2 S2 h2 => ih (m + 1) δ2 S2 (by omega) (by omega) h2⟩
  have := all _ 0 δ S rfl (Nat.zero_le _) h0
  rwa [List.drop_zero] at this
theorem lc_inv {δ : Loc} {KK : List D → DS → Prop} (P : Nat → List D → DS → Prop) (h0 : P 0 [] S) (hst : ∀ m acc S, m ≤ xs.length → P m acc S → stay S)
    (turn : ∀ m x acc S (nx : List D → DS → Prop), xs[m]? = some x → m < xs.length → P m acc S → (∀ acc S, P (m + 1) acc S → nx acc S) → g x δ S fun δ2 S2 => t δ2 S2 fun b S3 => if b = true then a δ2 S3 fun y S4 => acc.length < 16777216 ∧ nx (acc ++ [y]) S4 else nx acc S3)
    (done : ∀ acc S, P xs.length acc S → KK acc S) : lcT stay g t a δ KK xs [] S := by
  have all : ∀ k m acc S, xs.length - m = k → m ≤ xs.length → P m acc S → lcT stay g t a δ KK (xs.drop m) acc S := by
    intro k
    induction k with
    | zero =>
      intro m acc S hk hm p
      have : m = xs.length := by omega
      subst this
      rw [List.drop_length]
      exact ⟨hst _ acc S (Nat.le_refl _) p, done acc S p⟩
    | succ k ih =>
      intro m acc S hk hm p
      have hlt : m < xs.length := by omega
      rw [List.drop_eq_getElem_cons hlt]
      exact ⟨hst m acc S hm p, turn m xs[m] acc S _ (List.getElem?_eq_getElem hlt) hlt p fun δ2 S2 h2 => ih (m + 1) δ2 S2 (by omega) (by omega) h2⟩
  have := all _ 0 [] S rfl (Nat.zero_le _) h0
  rwa [List.drop_zero] at this
/-- the same from any list so far -/
theorem lc_inv' {δ : Loc} {KK : List D → DS → Prop} {acc0 : List D} (P : Nat → List D → DS → Prop) (h0 : P 0 acc0 S) (hst : ∀ m acc S, m ≤ xs.length → P m acc S → stay S)
    (turn : ∀ m x acc S (nx : List D → DS → Prop), xs[m]? = some x → m < xs.length → P m acc S → (∀ acc S, P (m + 1) acc S → nx acc S) → g x δ S fun δ2 S2 => t δ2 S2 fun b S3 => if b = true then a δ2 S3 fun y S4 => acc.length < 16777216 ∧ nx (acc ++ [y]) S4 else nx acc S3)
    (done : ∀ acc S, P xs.length acc S → KK acc S) : lcT stay g t a δ KK xs acc0 S := by
  have all : ∀ k m acc S, xs.length - m = k → m ≤ xs.length → P m acc S → lcT stay g t a δ KK (xs.drop m) acc S := by
    intro k
    induction k with
    | zero =>
      intro m acc S hk hm p
      have : m = xs.length := by omega
      subst this
      rw [List.drop_length]
      exact ⟨hst _ acc S (Nat.le_refl _) p, done acc S p⟩
    | succ k ih =>
      intro m acc S hk hm p
      have hlt : m < xs.length := by omega
      rw [List.drop_eq_getElem_cons hlt]
      exact ⟨hst m acc S hm p, turn m xs[m] acc S _ (List.getElem?_eq_getElem hlt) hlt p fun δ2 S2 h2 => ih (m + 1) δ2 S2 (by omega) (by omega) h2⟩
  have := all _ 0 acc0 S rfl (Nat.zero_le _) h0
  rwa [List.drop_zero] at this
theorem lc2_inv {δ : Loc} {KK : List D → DS → Prop} {di1 : DI} {g1 : DG} {t1 : DT} {vs1 : List Nat} {acc0 : List D} (P : Nat → List D → DS → Prop) (h0 : P 0 acc0 S) (hst : ∀ m acc S, m ≤ xs.length → P m acc S → stay S)
    (turn : ∀ m x acc S (nx : List D → DS → Prop), xs[m]? = some x → m < xs.length → P m acc S → (∀ acc S, P (m + 1) acc S → nx acc S) →
      g x δ S fun δ2 S2 => t δ2 S2 fun b S3 => if b = true then di1 δ2 S3 fun ys stay1 S4 => lcT stay1 g1 t1 a (dwipe δ2 vs1) nx ys acc S4 else nx acc S3)
    (done : ∀ acc S, P xs.length acc S → KK acc S) : lcT2 stay g t di1 g1 t1 a δ vs1 KK xs acc0 S := by
  have all : ∀ k m acc S, xs.length - m = k → m ≤ xs.length → P m acc S → lcT2 stay g t di1 g1 t1 a δ vs1 KK (xs.drop m) acc S := by
    intro k
    induction k with
    | zero =>
      intro m acc S hk hm p
      have : m = xs.length := by omega
      subst this
      rw [List.drop_length]
      exact ⟨hst _ acc S (Nat.le_refl _) p, done acc S p⟩
    | succ k ih =>
      intro m acc S hk hm p
      have hlt : m < xs.length := by omega
      rw [List.drop_eq_getElem_cons hlt]
      exact ⟨hst m acc S hm p, turn m xs[m] acc S _ (List.getElem?_eq_getElem hlt) hlt p fun acc S h => ih (m + 1) acc S (by omega) (by omega) h⟩
  have := all _ 0 acc0 S rfl (Nat.zero_le _) h0
  rwa [List.drop_zero] at this
theorem while_inv (P : Nat → Loc → DS → Prop) (n : Nat) (h0 : P n δ S)
    (turn : ∀ m δ S (nx' : Loc → DS → Prop), P m δ S → (∀ m' δ S, m' < m → P m' δ S → nx' δ S) → t δ S fun b S1 => if b = true then tb ⟨nx', rt, nx, nx'⟩ δ S1 else nx δ S1) : dWhile t tb ⟨nx, rt, bk, ct⟩ δ S := by
  have all : ∀ k m δ S, m < k → P m δ S → dWhileN t tb k ⟨nx, rt, bk, ct⟩ δ S := by
    intro k
    induction k with
    | zero => intro m δ S h; omega
    | succ k ih =>
      intro m δ S hm p
      exact turn m δ S _ p fun m' δ' S' h' p' => ih m' δ' S' (by omega) p'
  exact ⟨n + 1, all _ n δ S (Nat.lt_succ_self n) h0⟩
end
section
variable {δ : Loc} {S : DS} {Q : DK} {a b : DE} {as : DA} {QR : Int → Int → DS → Prop} {QI : List D → (DS → Prop) → DS → Prop} {t : DRg} {x y : D} {xs ys : List D} {k l c : Int} {p q : Addr}
def rgV1 (x : D) (S : DS) (Q : Int → Int → DS → Prop) : Prop := match x with
  | .int j => Q 0 j S
  | _ => False
def rgV2 (x y : D) (S : DS) (Q : Int → Int → DS → Prop) : Prop := match x, y with
  | .int i, .int j => Q i j S
  | _, _ => False
theorem i_rg1 (h : a δ S fun x S1 => rgV1 x S1 QR) : dRg1 a δ S QR := h
theorem i_rg1V (h : QR 0 k S) : rgV1 (.int k) S QR := h
theorem i_rg2 (h : a δ S fun x S1 => b δ S1 fun y S2 => rgV2 x y S2 QR) : dRg2 a b δ S QR := h
theorem i_rg2V (h : QR k l S) : rgV2 (.int k) (.int l) S QR := h
theorem i_lstRg (h : t δ S fun a b S1 => RgOk a b ∧ newL (rngL a (b - a).toNat) S1 Q) : dLstRg t δ S Q := h
theorem i_tupRg (h : t δ S fun a b S1 => RgOk a b ∧ Q (.tup (rngL a (b - a).toNat)) S1) : dTupRg t δ S Q := h
theorem i_revR (h : t δ S fun a b S1 => (-(2 ^ 62) ≤ a ∧ a < 2 ^ 62 ∧ -(2 ^ 62) ≤ b ∧ b < 2 ^ 62) ∧ QI (rngC (a + (((b - a).toNat : Nat) : Int) - 1) (-1) (b - a).toNat) (fun _ => True) S1) : dRevR t δ S QI := h
def rng3V (ds : List D) (S : DS) (Q : List D → (DS → Prop) → DS → Prop) : Prop := match ds with
  | [.int i, .int j, .int c] => ∃ n, RgC i j c n ∧ Q (rngC i c n) (fun _ => True) S
  | _ => False
theorem i_rng3 (h : as δ S fun ds S1 => rng3V ds S1 QI) : dRng3 as δ S QI := h
theorem i_rng3V {n : Nat} (hn : RgC k l c n) (h : QI (rngC k c n) (fun _ => True) S) : rng3V [.int k, .int l, .int c] S QI := ⟨n, hn, h⟩
def zipV (ds : List D) (S : DS) (Q : List D → (DS → Prop) → DS → Prop) : Prop := match ds with
  | [.tup xs, .tup ys] => Q ((List.zip xs ys).map fun p => D.tup [p.1, p.2]) (fun _ => True) S
  | [x, y] => match lstOf S x, lstOf S y with
    | some xs, some ys => Q ((List.zip xs ys).map fun p => D.tup [p.1, p.2]) (fun S' => lstOf S' x = some xs ∧ lstOf S' y = some ys) S
    | _, _ => False
  | _ => False
theorem i_zip (h : as δ S fun ds S1 => zipV ds S1 QI) : dZip as δ S QI := h
theorem i_zipT (h : QI ((List.zip xs ys).map fun p => D.tup [p.1, p.2]) (fun _ => True) S) : zipV [.tup xs, .tup ys] S QI := h
theorem i_zipL (e1 : S p = some (.lst xs)) (e2 : S q = some (.lst ys)) (h : QI ((List.zip xs ys).map fun p => D.tup [p.1, p.2]) (fun S' => lstOf S' (.ref p) = some xs ∧ lstOf S' (.ref q) = some ys) S) : zipV [.ref p, .ref q] S QI := by
  show (match lstOf S (.ref p), lstOf S (.ref q) with
    | some xs, some ys => QI ((List.zip xs ys).map fun p => D.tup [p.1, p.2]) (fun S' => lstOf S' (.ref p) = some xs ∧ lstOf S' (.ref q) = some ys) S
    | _, _ => False)
  rw [lst_ref e1, lst_ref e2]; exact h
def rvV (x : D) (S : DS) (Q : DK) : Prop := match x with
  | .tup xs => Q (.tup xs.reverse) S
  | x => match lstOf S x with
    | some xs => newL xs.reverse S Q
    | none => False
theorem i_rvS (h : a δ S fun x S1 => rvV x S1 Q) : dRvS a δ S Q := h
theorem i_rvT (h : Q (.tup xs.reverse) S) : rvV (.tup xs) S Q := h
theorem i_rvF (h : newL xs.reverse S Q) : rvV (.fl xs) S Q := h
theorem i_rvL (e : S p = some (.lst xs)) (h : newL xs.reverse S Q) : rvV (.ref p) S Q := by
  show (match lstOf S (.ref p) with
    | some xs => newL xs.reverse S Q
    | none => False)
  rw [lst_ref e]; exact h
theorem c_max1 {ns : List Int} (e : lstOf S x = some (ns.map D.int)) (hn : ns ≠ []) (h : ∀ m, isMax ns m → Q (.int m) S) : bMax1 [x] S Q := by
  show (match lstOf S x with
    | some xs => ∃ ns : List Int, xs = ns.map D.int ∧ ns ≠ [] ∧ ∀ m, isMax ns m → Q (.int m) S
    | none => False)
  rw [e]; exact ⟨ns, rfl, hn, h⟩
theorem c_min1 {ns : List Int} (e : lstOf S x = some (ns.map D.int)) (hn : ns ≠ []) (h : ∀ m, isMin ns m → Q (.int m) S) : bMin1 [x] S Q := by
  show (match lstOf S x with
    | some xs => ∃ ns : List Int, xs = ns.map D.int ∧ ns ≠ [] ∧ ∀ m, isMin ns m → Q (.int m) S
    | none => False)
  rw [e]; exact ⟨ns, rfl, hn, h⟩
theorem m_insert (e : S p = some (.lst xs)) (h0 : 0 ≤ k ∧ k < 2 ^ 63) (hl : xs.length < 16777216) (h : putL p (xs.take k.toNat ++ [x] ++ xs.drop k.toNat) S (Q .non)) : mLst fInsert (.ref p) [.int k, x] S Q := by
  refine m_lst e (if_pos h0) ?_ h
  simp only [List.length_append, List.length_take, List.length_drop, List.length_singleton]
  omega
end
end DL
namespace Gk33
open PySem L2 DL
/- 0: first_state(program): 0 program 1 task -/
def b_0 (c : Nat → DF) : DSt :=
  (dRet (dTup (dCons (dCall bTuple (dCons (dLc (dRng1 (dCons (dCall bLen (dCons (dOp oIx (dVar 0) (dC (.int 1))) dNil)) dNil)) (dgName 1) dYes (dIfE (dTb (dOp (oEq false) (dVar 1) (dC (.int 0)))) (dC (.int 0)) (dC .non)) [1]) dNil)) (dCons (dTup dNil) dNil))))
def f_0 : FnD := ⟨1, 2, b_0⟩
/- 1: value_of(kept, promise): 0 kept 1 promise 2 other 3 value -/
def b_1 (c : Nat → DF) : DSt :=
  (dSeq (dFor (dIter (dVar 0)) (dgTup 2 (dgCons (dgName 2) (dgCons (dgName 3) dgNil))) (dIf (dTb (dOp (oEq false) (dVar 2) (dVar 1))) (dRet (dVar 3)) dNext))
  (dRet (dC .non)))
def f_1 : FnD := ⟨2, 4, b_1⟩
/- 2: next_deed(program, state, task): 0 program 1 state 2 task 3 done -/
def b_2 (c : Nat → DF) : DSt :=
  (dSeq (dAsg (dOp oIx (dOp oIx (dVar 1) (dC (.int 0))) (dVar 2)) (dgName 3))
  (dSeq (dIf (dOr (dTb (dOp (oIs false) (dVar 3) (dC .non))) (dTb (dOp (oEq false) (dVar 3) (dCall bLen (dCons (dOp oIx (dOp oIx (dVar 0) (dC (.int 1))) (dVar 2)) dNil))))) (dRet (dC .non)) dNext)
  (dRet (dOp oIx (dOp oIx (dOp oIx (dVar 0) (dC (.int 1))) (dVar 2)) (dVar 3)))))
def f_2 : FnD := ⟨3, 4, b_2⟩
/- 3: can_be_done(kept, deed): 0 kept 1 deed 2 promise -/
def b_3 (c : Nat → DF) : DSt :=
  (dSeq (dIf (dTb (dOp (oEq false) (dOp oIx (dVar 1) (dC (.int 0))) (dC (.str "wait")))) (dRet (dOp (oIs true) (dCall (c 1) (dCons (dVar 0) (dCons (dOp oIx (dVar 1) (dC (.int 1))) dNil))) (dC .non))) dNext)
  (dSeq (dIf (dTb (dOp (oEq false) (dOp oIx (dVar 1) (dC (.int 0))) (dC (.str "keep")))) (dRet (dCall bAll (dCons (dLc (dIter (dOp oIx (dVar 1) (dC (.int 3)))) (dgName 2) dYes (dOp (oIs true) (dCall (c 1) (dCons (dVar 0) (dCons (dVar 2) dNil))) (dC .non)) [2]) dNil))) dNext)
  (dSeq (dIf (dTb (dOp (oEq false) (dOp oIx (dVar 1) (dC (.int 0))) (dC (.str "race")))) (dRet (dCall bAny (dCons (dLc (dIter (dOp oIx (dVar 1) (dC (.int 2)))) (dgName 2) dYes (dOp (oIs true) (dCall (c 1) (dCons (dVar 0) (dCons (dVar 2) dNil))) (dC .non)) [2]) dNil))) dNext)
  (dRet (dC (.bl true))))))
def f_3 : FnD := ⟨2, 3, b_3⟩
/- 4: ready_tasks(program, state): 0 program 1 state 2 found 3 task 4 deed -/
def b_4 (c : Nat → DF) : DSt :=
  (dSeq (dAsg (dLst dNil) (dgName 2))
  (dSeq (dFor (dRng1 (dCons (dCall bLen (dCons (dOp oIx (dVar 0) (dC (.int 1))) dNil)) dNil)) (dgName 3) (dSeq (dAsg (dCall (c 2) (dCons (dVar 0) (dCons (dVar 1) (dCons (dVar 3) dNil)))) (dgName 4))
    (dIf (dAnd (dTb (dOp (oIs true) (dVar 4) (dC .non))) (dTb (dCall (c 3) (dCons (dOp oIx (dVar 1) (dC (.int 1))) (dCons (dVar 4) dNil))))) (dDrop (dBM okLst (mLst fAppend) (dVar 2) (dCons (dVar 3) dNil))) dNext)))
  (dRet (dCall bTuple (dCons (dVar 2) dNil)))))
def f_4 : FnD := ⟨2, 5, b_4⟩
/- 5: value_kept_by(kept, deed): 0 kept 1 deed 2 promise 3 value -/
def b_5 (c : Nat → DF) : DSt :=
  (dSeq (dIf (dTb (dOp (oEq false) (dOp oIx (dVar 1) (dC (.int 0))) (dC (.str "keep")))) (dRet (dOp oAdd (dOp oIx (dVar 1) (dC (.int 2))) (dCall bSum (dCons (dLc (dIter (dOp oIx (dVar 1) (dC (.int 3)))) (dgName 2) dYes (dCall (c 1) (dCons (dVar 0) (dCons (dVar 2) dNil))) [2]) dNil)))) dNext)
  (dSeq (dFor (dIter (dVar 0)) (dgTup 2 (dgCons (dgName 2) (dgCons (dgName 3) dgNil))) (dIf (dTb (dOp (oIn false) (dVar 2) (dOp oIx (dVar 1) (dC (.int 2))))) (dRet (dVar 3)) dNext))
  (dRet (dC .non))))
def f_5 : FnD := ⟨2, 4, b_5⟩
/- 6: stepped(program, state, task): 0 program 1 state 2 task 3 counts 4 kept 5 deed 6 after -/
def b_6 (c : Nat → DF) : DSt :=
  (dSeq (dAsg (dVar 1) (dgTup 2 (dgCons (dgName 3) (dgCons (dgName 4) dgNil))))
  (dSeq (dAsg (dCall (c 2) (dCons (dVar 0) (dCons (dVar 1) (dCons (dVar 2) dNil)))) (dgName 5))
  (dSeq (dAsg (dCall bList (dCons (dVar 3) dNil)) (dgName 6))
  (dSeq (dAsg (dOp oAdd (dOp oIx (dVar 3) (dVar 2)) (dC (.int 1))) (dgSub (dVar 6) (dVar 2) sIx))
  (dSeq (dIf (dTb (dOp (oEq false) (dOp oIx (dVar 5) (dC (.int 0))) (dC (.str "start")))) (dIf (dTb (dOp (oIs false) (dOp oIx (dVar 3) (dOp oIx (dVar 5) (dC (.int 1)))) (dC .non))) (dAsg (dC (.int 0)) (dgSub (dVar 6) (dOp oIx (dVar 5) (dC (.int 1))) sIx)) dNext) (dIf (dAnd (dTb (dOp (oEq true) (dOp oIx (dVar 5) (dC (.int 0))) (dC (.str "wait")))) (dTb (dOp (oIs false) (dCall (c 1) (dCons (dVar 4) (dCons (dOp oIx (dVar 5) (dC (.int 1))) dNil))) (dC .non)))) (dAsg (dOp oAdd (dVar 4) (dTup (dCons (dTup (dCons (dOp oIx (dVar 5) (dC (.int 1))) (dCons (dCall (c 5) (dCons (dVar 4) (dCons (dVar 5) dNil))) dNil))) dNil))) (dgName 4)) dNext))
  (dRet (dTup (dCons (dCall bTuple (dCons (dVar 6) dNil)) (dCons (dVar 4) dNil)))))))))
def f_6 : FnD := ⟨3, 7, b_6⟩
/- 7: state_after(program, run): 0 program 1 run 2 state 3 task -/
def b_7 (c : Nat → DF) : DSt :=
  (dSeq (dAsg (dCall (c 0) (dCons (dVar 0) dNil)) (dgName 2))
  (dSeq (dFor (dIter (dVar 1)) (dgName 3) (dAsg (dCall (c 6) (dCons (dVar 0) (dCons (dVar 2) (dCons (dVar 3) dNil)))) (dgName 2)))
  (dRet (dVar 2))))
def f_7 : FnD := ⟨2, 4, b_7⟩
/- 8: run_on(program, state): 0 program 1 state 2 found 3 ready -/
def b_8 (c : Nat → DF) : DSt :=
  (dSeq (dAsg (dLst dNil) (dgName 2))
  (dWhile (dTb (dC (.bl true))) (dSeq (dAsg (dCall (c 4) (dCons (dVar 0) (dCons (dVar 1) dNil))) (dgName 3))
    (dSeq (dIf (dTb (dOp (oEq false) (dCall bLen (dCons (dVar 3) dNil)) (dC (.int 0)))) (dRet (dCall bTuple (dCons (dVar 2) dNil))) dNext)
    (dSeq (dDrop (dBM okLst (mLst fAppend) (dVar 2) (dCons (dOp oIx (dVar 3) (dC (.int 0))) dNil)))
    (dAsg (dCall (c 6) (dCons (dVar 0) (dCons (dVar 1) (dCons (dOp oIx (dVar 3) (dC (.int 0))) dNil)))) (dgName 1)))))))
def f_8 : FnD := ⟨2, 4, b_8⟩
/- 9: stuck_at(program, state): 0 program 1 state 2 task -/
def b_9 (c : Nat → DF) : DSt :=
  (dRet (dCall bTuple (dCons (dLc (dRng1 (dCons (dCall bLen (dCons (dOp oIx (dVar 0) (dC (.int 1))) dNil)) dNil)) (dgName 2) (dTb (dOp (oIs true) (dCall (c 2) (dCons (dVar 0) (dCons (dVar 1) (dCons (dVar 2) dNil)))) (dC .non))) (dVar 2) [2]) dNil)))
def f_9 : FnD := ⟨2, 3, b_9⟩
/- 10: values_at(program, state): 0 program 1 state 2 promise -/
def b_10 (c : Nat → DF) : DSt :=
  (dRet (dCall bTuple (dCons (dLc (dRng1 (dCons (dOp oIx (dVar 0) (dC (.int 0))) dNil)) (dgName 2) dYes (dCall (c 1) (dCons (dOp oIx (dVar 1) (dC (.int 1))) (dCons (dVar 2) dNil))) [2]) dNil)))
def f_10 : FnD := ⟨2, 3, b_10⟩
/- 11: ending_at(program, state): 0 program 1 state -/
def b_11 (c : Nat → DF) : DSt :=
  (dRet (dTup (dCons (dCall (c 10) (dCons (dVar 0) (dCons (dVar 1) dNil))) (dCons (dCall (c 9) (dCons (dVar 0) (dCons (dVar 1) dNil))) dNil))))
def f_11 : FnD := ⟨2, 2, b_11⟩
/- 12: is_run(program, run): 0 program 1 run 2 state 3 task -/
def b_12 (c : Nat → DF) : DSt :=
  (dSeq (dAsg (dCall (c 0) (dCons (dVar 0) dNil)) (dgName 2))
  (dSeq (dFor (dIter (dVar 1)) (dgName 3) (dSeq (dIf (dTb (dOp (oIn true) (dVar 3) (dCall (c 4) (dCons (dVar 0) (dCons (dVar 2) dNil))))) (dRet (dC (.bl false))) dNext)
    (dAsg (dCall (c 6) (dCons (dVar 0) (dCons (dVar 2) (dCons (dVar 3) dNil)))) (dgName 2))))
  (dRet (dC (.bl true)))))
def f_12 : FnD := ⟨2, 4, b_12⟩
/- 13: outcome_of(program, run): 0 program 1 run -/
def b_13 (c : Nat → DF) : DSt :=
  (dRet (dCall (c 11) (dCons (dVar 0) (dCons (dCall (c 7) (dCons (dVar 0) (dCons (dVar 1) dNil))) dNil))))
def f_13 : FnD := ⟨2, 2, b_13⟩
/- 14: first_full_run(program, run): 0 program 1 run -/
def b_14 (c : Nat → DF) : DSt :=
  (dRet (dOp oAdd (dCall bTuple (dCons (dVar 1) dNil)) (dCall (c 8) (dCons (dVar 0) (dCons (dCall (c 7) (dCons (dVar 0) (dCons (dVar 1) dNil))) dNil)))))
def f_14 : FnD := ⟨2, 2, b_14⟩
/- 15: _law_draws(script, many): 0 script 1 many 2 cells 3 cell 4 left 5 draws 6 k 7 place 8 mixed -/
def b_15 (c : Nat → DF) : DSt :=
  (dSeq (dAsg (dLc (dIter (dSl (dVar 0) dNoPart (dPart (dC (.int 63))))) (dgName 3) dYes (dOp oMod (dCall bInt (dCons (dVar 3) dNil)) (dOp oShl (dC (.int 1)) (dC (.int 7200)))) [3]) (dgName 2))
  (dSeq (dIf (dTb (dOp (oEq false) (dCall bLen (dCons (dVar 2) dNil)) (dC (.int 0)))) (dDrop (dBM okLst (mLst fAppend) (dVar 2) (dCons (dC (.int 0)) dNil))) dNext)
  (dSeq (dAsg (dCall bList (dCons (dVar 2) dNil)) (dgName 4))
  (dSeq (dAsg (dLst dNil) (dgName 5))
  (dSeq (dFor (dRng1 (dCons (dVar 1) dNil)) (dgName 6) (dSeq (dAsg (dOp oMod (dCall bInt (dCons (dVar 6) dNil)) (dCall bLen (dCons (dVar 2) dNil))) (dgName 7))
    (dIf (dAnd (dTb (dOp (oCmp .ge) (dOp oIx (dVar 2) (dVar 7)) (dOp oPow (dC (.int 10)) (dC (.int 18))))) (dTb (dOp (oCmp .gt) (dOp oIx (dVar 4) (dVar 7)) (dC (.int 0))))) (dSeq (dDrop (dBM okLst (mLst fAppend) (dVar 5) (dCons (dOp oMod (dCall bInt (dCons (dOp oIx (dVar 4) (dVar 7)) dNil)) (dC (.int 1000))) dNil)))
      (dAsg (dOp oFdv (dOp oIx (dVar 4) (dVar 7)) (dC (.int 1000))) (dgSub (dVar 4) (dVar 7) sIx))) (dSeq (dAsg (dOp oMod (dCall bInt (dCons (dOp oAdd (dOp oAdd (dOp oMul (dOp oIx (dVar 2) (dVar 7)) (dC (.int 48271))) (dOp oMul (dVar 6) (dC (.int 69621)))) (dC (.int 11))) dNil)) (dC (.int 2147483647))) (dgName 8))
      (dDrop (dBM okLst (mLst fAppend) (dVar 5) (dCons (dOp oMod (dCall bInt (dCons (dOp oAdd (dOp oAdd (dOp oMul (dVar 8) (dVar 8)) (dOp oMul (dC (.int 3)) (dVar 8))) (dVar 6)) dNil)) (dC (.int 1000003))) dNil)))))))
  (dSeq (dDrop (dBM okLst (mLst fReverse) (dVar 5) dNil))
  (dRet (dVar 5))))))))
def f_15 : FnD := ⟨2, 9, b_15⟩
/- 16: _law_take(draws, many): 0 draws 1 many -/
def b_16 (c : Nat → DF) : DSt :=
  (dSeq (dIf (dTb (dOp (oEq false) (dCall bLen (dCons (dVar 0) dNil)) (dC (.int 0)))) (dRet (dC (.int 0))) dNext)
  (dRet (dOp oMod (dCall bInt (dCons (dBM okLst (mLst fPop) (dVar 0) dNil) dNil)) (dVar 1))))
def f_16 : FnD := ⟨2, 2, b_16⟩
/- 17: _law_pick(draws, row): 0 draws 1 row -/
def b_17 (c : Nat → DF) : DSt :=
  (dRet (dOp oIx (dVar 1) (dCall (c 16) (dCons (dVar 0) (dCons (dCall bLen (dCons (dVar 1) dNil)) dNil)))))
def f_17 : FnD := ⟨2, 2, b_17⟩
/- 18: _law_same(actual, due): 0 actual 1 due 2 k -/
def b_18 (c : Nat → DF) : DSt :=
  (dSeq (dIf (dTb (dCall bIsi (dCons (dVar 1) (dCons (dTup (dCons (dC (.ty "tuple")) (dCons (dC (.ty "list")) dNil))) dNil)))) (dSeq (dIf (dOr (dTb (dOp (oEq true) (dCall bIsi (dCons (dVar 0) (dCons (dC (.ty "tuple")) dNil))) (dCall bIsi (dCons (dVar 1) (dCons (dC (.ty "tuple")) dNil))))) (dTb (dOp (oEq true) (dCall bIsi (dCons (dVar 0) (dCons (dC (.ty "list")) dNil))) (dCall bIsi (dCons (dVar 1) (dCons (dC (.ty "list")) dNil)))))) (dRet (dC (.bl false))) dNext)
    (dSeq (dIf (dTb (dOp (oEq true) (dCall bLen (dCons (dVar 0) dNil)) (dCall bLen (dCons (dVar 1) dNil)))) (dRet (dC (.bl false))) dNext)
    (dRet (dOp (oIn true) (dC (.bl false)) (dLc (dRng1 (dCons (dCall bLen (dCons (dVar 1) dNil)) dNil)) (dgName 2) dYes (dCall (c 18) (dCons (dOp oIx (dVar 0) (dVar 2)) (dCons (dOp oIx (dVar 1) (dVar 2)) dNil))) [2]))))) dNext)
  (dSeq (dIf (dOr (dTb (dOp (oEq true) (dCall bIsi (dCons (dVar 0) (dCons (dC (.ty "bool")) dNil))) (dCall bIsi (dCons (dVar 1) (dCons (dC (.ty "bool")) dNil))))) (dTb (dOp (oEq true) (dCall bIsi (dCons (dVar 0) (dCons (dC (.ty "int")) dNil))) (dCall bIsi (dCons (dVar 1) (dCons (dC (.ty "int")) dNil)))))) (dRet (dC (.bl false))) dNext)
  (dSeq (dIf (dOr (dTb (dOp (oEq true) (dCall bIsi (dCons (dVar 0) (dCons (dC (.ty "str")) dNil))) (dCall bIsi (dCons (dVar 1) (dCons (dC (.ty "str")) dNil))))) (dTb (dOp (oEq true) (dOp (oIs false) (dVar 0) (dC .non)) (dOp (oIs false) (dVar 1) (dC .non))))) (dRet (dC (.bl false))) dNext)
  (dRet (dOp (oEq false) (dVar 0) (dVar 1))))))
def f_18 : FnD := ⟨2, 3, b_18⟩
/- 19: _law_shuffled(draws, row): 0 draws 1 row 2 left 3 told 4 k -/
def b_19 (c : Nat → DF) : DSt :=
  (dSeq (dAsg (dCall bList (dCons (dVar 1) dNil)) (dgName 2))
  (dSeq (dAsg (dLst dNil) (dgName 3))
  (dSeq (dFor (dRng1 (dCons (dCall bLen (dCons (dVar 2) dNil)) dNil)) (dgName 4) (dDrop (dBM okLst (mLst fAppend) (dVar 3) (dCons (dBM okLst (mLst fPopAt) (dVar 2) (dCons (dCall (c 16) (dCons (dVar 0) (dCons (dCall bLen (dCons (dVar 2) dNil)) dNil))) dNil)) dNil))))
  (dRet (dVar 3)))))
def f_19 : FnD := ⟨2, 5, b_19⟩
/- 20: _law_some_of(draws, things, many): 0 draws 1 things 2 many 3 found 4 k 5 thing -/
def b_20 (c : Nat → DF) : DSt :=
  (dSeq (dAsg (dLst dNil) (dgName 3))
  (dSeq (dFor (dRng1 (dCons (dOp oAdd (dC (.int 1)) (dCall (c 16) (dCons (dVar 0) (dCons (dVar 2) dNil)))) dNil)) (dgName 4) (dSeq (dAsg (dCall (c 17) (dCons (dVar 0) (dCons (dVar 1) dNil))) (dgName 5))
    (dIf (dTb (dOp (oIn true) (dVar 5) (dVar 3))) (dDrop (dBM okLst (mLst fAppend) (dVar 3) (dCons (dVar 5) dNil))) dNext)))
  (dRet (dCall bSorted (dCons (dVar 3) dNil)))))
def f_20 : FnD := ⟨3, 6, b_20⟩
/- 21: _law_put(row, k, thing): 0 row 1 k 2 thing -/
def b_21 (c : Nat → DF) : DSt :=
  (dRet (dOp oAdd (dOp oAdd (dSl (dVar 0) dNoPart (dPart (dVar 1))) (dTup (dCons (dVar 2) dNil))) (dSl (dVar 0) (dPart (dOp oAdd (dVar 1) (dC (.int 1)))) dNoPart)))
def f_21 : FnD := ⟨3, 3, b_21⟩
/- 22: _law_without(row, k): 0 row 1 k -/
def b_22 (c : Nat → DF) : DSt :=
  (dRet (dOp oAdd (dSl (dVar 0) dNoPart (dPart (dVar 1))) (dSl (dVar 0) (dPart (dOp oAdd (dVar 1) (dC (.int 1)))) dNoPart)))
def f_22 : FnD := ⟨2, 2, b_22⟩
/- 23: _law_number(draws): 0 draws -/
def b_23 (c : Nat → DF) : DSt :=
  (dSeq (dIf (dTb (dOp (oEq false) (dCall (c 16) (dCons (dVar 0) (dCons (dC (.int 9)) dNil))) (dC (.int 0)))) (dRet (dCall (c 17) (dCons (dVar 0) (dCons (dLst (dCons (dOp oAdd (dOp oPow (dC (.int 10)) (dC (.int 9))) (dC (.int 7))) (dCons (dOp oSub (dUn uNeg (dOp oPow (dC (.int 10)) (dC (.int 17)))) (dC (.int 3))) (dCons (dOp oAdd (dOp oPow (dC (.int 10)) (dC (.int 40))) (dC (.int 121))) dNil)))) dNil)))) dNext)
  (dRet (dOp oSub (dCall (c 16) (dCons (dVar 0) (dCons (dC (.int 13)) dNil))) (dC (.int 4)))))
def f_23 : FnD := ⟨1, 1, b_23⟩
/- 24: _law_start_state(program): 0 program 1 t -/
def b_24 (c : Nat → DF) : DSt :=
  (dRet (dTup (dCons (dCall bTuple (dCons (dLc (dRng1 (dCons (dCall bLen (dCons (dOp oIx (dVar 0) (dC (.int 1))) dNil)) dNil)) (dgName 1) dYes (dOp oIx (dLst (dCons (dC .non) (dCons (dC (.int 0)) dNil))) (dCall bInt (dCons (dOp (oEq false) (dVar 1) (dC (.int 0))) dNil))) [1]) dNil)) (dCons (dTup dNil) dNil))))
def f_24 : FnD := ⟨1, 2, b_24⟩
/- 25: _law_worth(kept, p): 0 kept 1 p 2 pair -/
def b_25 (c : Nat → DF) : DSt :=
  (dSeq (dFor (dIter (dVar 0)) (dgName 2) (dIf (dTb (dOp (oEq false) (dOp oIx (dVar 2) (dC (.int 0))) (dVar 1))) (dRet (dOp oIx (dVar 2) (dC (.int 1)))) dNext))
  (dRet (dC .non)))
def f_25 : FnD := ⟨2, 3, b_25⟩
/- 26: _law_can(program, state, t): 0 program 1 state 2 t 3 done 4 deed 5 had 6 pair 7 p -/
def b_26 (c : Nat → DF) : DSt :=
  (dSeq (dAsg (dOp oIx (dOp oIx (dVar 1) (dC (.int 0))) (dVar 2)) (dgName 3))
  (dSeq (dIf (dOr (dTb (dOp (oIs false) (dVar 3) (dC .non))) (dTb (dOp (oCmp .ge) (dVar 3) (dCall bLen (dCons (dOp oIx (dOp oIx (dVar 0) (dC (.int 1))) (dVar 2)) dNil))))) (dRet (dC (.bl false))) dNext)
  (dSeq (dAsg (dOp oIx (dOp oIx (dOp oIx (dVar 0) (dC (.int 1))) (dVar 2)) (dVar 3)) (dgName 4))
  (dSeq (dAsg (dLc (dIter (dOp oIx (dVar 1) (dC (.int 1)))) (dgName 6) dYes (dOp oIx (dVar 6) (dC (.int 0))) [6]) (dgName 5))
  (dSeq (dIf (dTb (dOp (oEq false) (dOp oIx (dVar 4) (dC (.int 0))) (dC (.str "wait")))) (dRet (dOp (oIn false) (dOp oIx (dVar 4) (dC (.int 1))) (dVar 5))) dNext)
  (dSeq (dIf (dTb (dOp (oEq false) (dOp oIx (dVar 4) (dC (.int 0))) (dC (.str "keep")))) (dRet (dOp (oIn true) (dC (.bl false)) (dLc (dIter (dOp oIx (dVar 4) (dC (.int 3)))) (dgName 7) dYes (dOp (oIn false) (dVar 7) (dVar 5)) [7]))) dNext)
  (dSeq (dIf (dTb (dOp (oEq false) (dOp oIx (dVar 4) (dC (.int 0))) (dC (.str "race")))) (dRet (dOp (oIn false) (dC (.bl true)) (dLc (dIter (dOp oIx (dVar 4) (dC (.int 2)))) (dgName 7) dYes (dOp (oIn false) (dVar 7) (dVar 5)) [7]))) dNext)
  (dRet (dC (.bl true))))))))))
def f_26 : FnD := ⟨3, 8, b_26⟩
/- 27: _law_ready(program, state): 0 program 1 state 2 t -/
def b_27 (c : Nat → DF) : DSt :=
  (dRet (dLc (dRng1 (dCons (dCall bLen (dCons (dOp oIx (dVar 0) (dC (.int 1))) dNil)) dNil)) (dgName 2) (dTb (dCall (c 26) (dCons (dVar 0) (dCons (dVar 1) (dCons (dVar 2) dNil))))) (dVar 2) [2]))
def f_27 : FnD := ⟨2, 3, b_27⟩
/- 28: _law_step(program, state, t): 0 program 1 state 2 t 3 counts 4 kept 5 deed 6 told 7 p 8 pair -/
def b_28 (c : Nat → DF) : DSt :=
  (dSeq (dAsg (dVar 1) (dgTup 2 (dgCons (dgName 3) (dgCons (dgName 4) dgNil))))
  (dSeq (dAsg (dOp oIx (dOp oIx (dOp oIx (dVar 0) (dC (.int 1))) (dVar 2)) (dOp oIx (dVar 3) (dVar 2))) (dgName 5))
  (dSeq (dAsg (dCall bList (dCons (dVar 3) dNil)) (dgName 6))
  (dSeq (dAsg (dOp oAdd (dOp oIx (dVar 3) (dVar 2)) (dC (.int 1))) (dgSub (dVar 6) (dVar 2) sIx))
  (dSeq (dIf (dAnd (dTb (dOp (oEq false) (dOp oIx (dVar 5) (dC (.int 0))) (dC (.str "start")))) (dTb (dOp (oIs false) (dOp oIx (dVar 3) (dOp oIx (dVar 5) (dC (.int 1)))) (dC .non)))) (dAsg (dC (.int 0)) (dgSub (dVar 6) (dOp oIx (dVar 5) (dC (.int 1))) sIx)) dNext)
  (dSeq (dIf (dAnd (dTb (dOp (oEq false) (dOp oIx (dVar 5) (dC (.int 0))) (dC (.str "keep")))) (dTb (dOp (oIs false) (dCall (c 25) (dCons (dVar 4) (dCons (dOp oIx (dVar 5) (dC (.int 1))) dNil))) (dC .non)))) (dAsg (dOp oAdd (dVar 4) (dTup (dCons (dTup (dCons (dOp oIx (dVar 5) (dC (.int 1))) (dCons (dOp oAdd (dOp oIx (dVar 5) (dC (.int 2))) (dCall bSum (dCons (dLc (dIter (dOp oIx (dVar 5) (dC (.int 3)))) (dgName 7) dYes (dCall (c 25) (dCons (dVar 4) (dCons (dVar 7) dNil))) [7]) dNil))) dNil))) dNil))) (dgName 4)) dNext)
  (dSeq (dIf (dAnd (dTb (dOp (oEq false) (dOp oIx (dVar 5) (dC (.int 0))) (dC (.str "race")))) (dTb (dOp (oIs false) (dCall (c 25) (dCons (dVar 4) (dCons (dOp oIx (dVar 5) (dC (.int 1))) dNil))) (dC .non)))) (dAsg (dOp oAdd (dVar 4) (dTup (dCons (dTup (dCons (dOp oIx (dVar 5) (dC (.int 1))) (dCons (dOp oIx (dLc (dIter (dVar 4)) (dgName 8) (dTb (dOp (oIn false) (dOp oIx (dVar 8) (dC (.int 0))) (dOp oIx (dVar 5) (dC (.int 2))))) (dOp oIx (dVar 8) (dC (.int 1))) [8]) (dC (.int 0))) dNil))) dNil))) (dgName 4)) dNext)
  (dRet (dTup (dCons (dCall bTuple (dCons (dVar 6) dNil)) (dCons (dVar 4) dNil)))))))))))
def f_28 : FnD := ⟨3, 9, b_28⟩
/- 29: _law_behind(program, run): 0 program 1 run 2 state 3 t -/
def b_29 (c : Nat → DF) : DSt :=
  (dSeq (dAsg (dCall (c 24) (dCons (dVar 0) dNil)) (dgName 2))
  (dSeq (dFor (dIter (dVar 1)) (dgName 3) (dAsg (dCall (c 28) (dCons (dVar 0) (dCons (dVar 2) (dCons (dVar 3) dNil)))) (dgName 2)))
  (dRet (dVar 2))))
def f_29 : FnD := ⟨2, 4, b_29⟩
/- 30: _law_walks(program, run): 0 program 1 run 2 state 3 t -/
def b_30 (c : Nat → DF) : DSt :=
  (dSeq (dAsg (dCall (c 24) (dCons (dVar 0) dNil)) (dgName 2))
  (dSeq (dFor (dIter (dVar 1)) (dgName 3) (dSeq (dIf (dOr (dNot (dTb (dChain (oCmp .le) (oCmp .lt) (dC (.int 0)) (dVar 3) (dCall bLen (dCons (dOp oIx (dVar 0) (dC (.int 1))) dNil))))) (dNot (dTb (dCall (c 26) (dCons (dVar 0) (dCons (dVar 2) (dCons (dVar 3) dNil))))))) (dRet (dC (.bl false))) dNext)
    (dAsg (dCall (c 28) (dCons (dVar 0) (dCons (dVar 2) (dCons (dVar 3) dNil)))) (dgName 2))))
  (dRet (dC (.bl true)))))
def f_30 : FnD := ⟨2, 4, b_30⟩
/- 31: _law_stuck_at(program, state): 0 program 1 state 2 many 3 t -/
def b_31 (c : Nat → DF) : DSt :=
  (dSeq (dAsg (dCall bLen (dCons (dOp oIx (dVar 0) (dC (.int 1))) dNil)) (dgName 2))
  (dRet (dCall bTuple (dCons (dLc (dRng1 (dCons (dVar 2) dNil)) (dgName 3) (dAnd (dTb (dOp (oIs true) (dOp oIx (dOp oIx (dVar 1) (dC (.int 0))) (dVar 3)) (dC .non))) (dTb (dOp (oCmp .lt) (dOp oIx (dOp oIx (dVar 1) (dC (.int 0))) (dVar 3)) (dCall bLen (dCons (dOp oIx (dOp oIx (dVar 0) (dC (.int 1))) (dVar 3)) dNil))))) (dVar 3) [3]) dNil))))
def f_31 : FnD := ⟨2, 4, b_31⟩
/- 32: _law_ending(program, state): 0 program 1 state 2 p -/
def b_32 (c : Nat → DF) : DSt :=
  (dRet (dTup (dCons (dCall bTuple (dCons (dLc (dRng1 (dCons (dOp oIx (dVar 0) (dC (.int 0))) dNil)) (dgName 2) dYes (dCall (c 25) (dCons (dOp oIx (dVar 1) (dC (.int 1))) (dCons (dVar 2) dNil))) [2]) dNil)) (dCons (dCall (c 31) (dCons (dVar 0) (dCons (dVar 1) dNil))) dNil))))
def f_32 : FnD := ⟨2, 3, b_32⟩
/- 33: _law_run_on(program, run): 0 program 1 run 2 state 3 turn 4 able -/
def b_33 (c : Nat → DF) : DSt :=
  (dSeq (dAsg (dCall (c 29) (dCons (dVar 0) (dCons (dVar 1) dNil))) (dgName 2))
  (dSeq (dFor (dRng1 (dCons (dC (.int 60)) dNil)) (dgName 3) (dSeq (dAsg (dCall (c 27) (dCons (dVar 0) (dCons (dVar 2) dNil))) (dgName 4))
    (dSeq (dIf (dTb (dOp (oEq false) (dCall bLen (dCons (dVar 4) dNil)) (dC (.int 0)))) dBreak dNext)
    (dSeq (dAsg (dOp oAdd (dVar 1) (dTup (dCons (dOp oIx (dVar 4) (dC (.int 0))) dNil))) (dgName 1))
    (dAsg (dCall (c 28) (dCons (dVar 0) (dCons (dVar 2) (dCons (dOp oIx (dVar 4) (dC (.int 0))) dNil)))) (dgName 2))))))
  (dRet (dVar 1))))
def f_33 : FnD := ⟨2, 5, b_33⟩
/- 34: _law_drawn_run(draws, program, most): 0 draws 1 program 2 most 3 state 4 run 5 turn 6 able 7 t -/
def b_34 (c : Nat → DF) : DSt :=
  (dSeq (dAsg (dCall (c 24) (dCons (dVar 1) dNil)) (dgName 3))
  (dSeq (dAsg (dTup dNil) (dgName 4))
  (dSeq (dFor (dRng1 (dCons (dVar 2) dNil)) (dgName 5) (dSeq (dAsg (dCall (c 27) (dCons (dVar 1) (dCons (dVar 3) dNil))) (dgName 6))
    (dSeq (dIf (dTb (dOp (oEq false) (dCall bLen (dCons (dVar 6) dNil)) (dC (.int 0)))) dBreak dNext)
    (dSeq (dAsg (dCall (c 17) (dCons (dVar 0) (dCons (dVar 6) dNil))) (dgName 7))
    (dSeq (dAsg (dOp oAdd (dVar 4) (dTup (dCons (dVar 7) dNil))) (dgName 4))
    (dAsg (dCall (c 28) (dCons (dVar 1) (dCons (dVar 3) (dCons (dVar 7) dNil)))) (dgName 3)))))))
  (dRet (dVar 4)))))
def f_34 : FnD := ⟨3, 8, b_34⟩
/- 35: _law_set_of(draws, pool, most): 0 draws 1 pool 2 most 3 found 4 k 5 p -/
def b_35 (c : Nat → DF) : DSt :=
  (dSeq (dAsg (dLst dNil) (dgName 3))
  (dSeq (dFor (dRng1 (dCons (dCall (c 16) (dCons (dVar 0) (dCons (dOp oAdd (dVar 2) (dC (.int 1))) dNil))) dNil)) (dgName 4) (dSeq (dAsg (dCall (c 17) (dCons (dVar 0) (dCons (dVar 1) dNil))) (dgName 5))
    (dIf (dTb (dOp (oIn true) (dVar 5) (dVar 3))) (dDrop (dBM okLst (mLst fAppend) (dVar 3) (dCons (dVar 5) dNil))) dNext)))
  (dRet (dCall bTuple (dCons (dCall bSorted (dCons (dVar 3) dNil)) dNil)))))
def f_35 : FnD := ⟨3, 6, b_35⟩
/- 36: _law_deed(draws, pool, others): 0 draws 1 pool 2 others 3 kind -/
def b_36 (c : Nat → DF) : DSt :=
  (dSeq (dAsg (dCall (c 16) (dCons (dVar 0) (dCons (dC (.int 10)) dNil))) (dgName 3))
  (dSeq (dIf (dAnd (dTb (dOp (oEq false) (dVar 3) (dC (.int 0)))) (dTb (dOp (oCmp .gt) (dCall bLen (dCons (dVar 2) dNil)) (dC (.int 0))))) (dRet (dTup (dCons (dC (.str "start")) (dCons (dCall (c 17) (dCons (dVar 0) (dCons (dVar 2) dNil))) dNil)))) dNext)
  (dSeq (dIf (dTb (dOp (oCmp .lt) (dVar 3) (dC (.int 4)))) (dRet (dTup (dCons (dC (.str "wait")) (dCons (dCall (c 17) (dCons (dVar 0) (dCons (dVar 1) dNil))) dNil)))) dNext)
  (dSeq (dIf (dTb (dOp (oCmp .lt) (dVar 3) (dC (.int 6)))) (dRet (dTup (dCons (dC (.str "race")) (dCons (dCall (c 17) (dCons (dVar 0) (dCons (dVar 1) dNil))) (dCons (dCall bTuple (dCons (dCall (c 20) (dCons (dVar 0) (dCons (dVar 1) (dCons (dC (.int 2)) dNil)))) dNil)) dNil))))) dNext)
  (dRet (dTup (dCons (dC (.str "keep")) (dCons (dCall (c 17) (dCons (dVar 0) (dCons (dVar 1) dNil))) (dCons (dCall (c 23) (dCons (dVar 0) dNil)) (dCons (dCall (c 35) (dCons (dVar 0) (dCons (dVar 1) (dCons (dCall (c 16) (dCons (dVar 0) (dCons (dC (.int 3)) dNil))) dNil)))) dNil))))))))))
def f_36 : FnD := ⟨3, 4, b_36⟩
/- 37: _law_program(draws): 0 draws 1 many 2 pool 3 size 4 rest 5 first 6 t 7 extra 8 k 9 left 10 rows 11 others 12 other 13 deeds -/
def b_37 (c : Nat → DF) : DSt :=
  (dSeq (dAsg (dOp oAdd (dC (.int 1)) (dCall (c 16) (dCons (dVar 0) (dCons (dC (.int 8)) dNil)))) (dgName 1))
  (dSeq (dAsg (dCall (c 20) (dCons (dVar 0) (dCons (dLstRg (dRg1 (dVar 1))) (dCons (dC (.int 4)) dNil)))) (dgName 2))
  (dSeq (dAsg (dOp oAdd (dC (.int 1)) (dCall (c 16) (dCons (dVar 0) (dCons (dC (.int 4)) dNil)))) (dgName 3))
  (dSeq (dAsg (dLstRg (dRg2 (dC (.int 1)) (dVar 3))) (dgName 4))
  (dSeq (dAsg (dLst dNil) (dgName 5))
  (dSeq (dFor (dIter (dCall (c 19) (dCons (dVar 0) (dCons (dVar 4) dNil)))) (dgName 6) (dIf (dTb (dOp (oCmp .gt) (dCall (c 16) (dCons (dVar 0) (dCons (dC (.int 8)) dNil))) (dC (.int 0)))) (dDrop (dBM okLst (mLst fAppend) (dVar 5) (dCons (dTup (dCons (dC (.str "start")) (dCons (dVar 6) dNil))) dNil))) dNext))
  (dSeq (dAsg (dCall (c 16) (dCons (dVar 0) (dCons (dC (.int 3)) dNil))) (dgName 7))
  (dSeq (dFor (dRng1 (dCons (dVar 7) dNil)) (dgName 8) (dDrop (dBM okLst (mLst fInsert) (dVar 5) (dCons (dCall (c 16) (dCons (dVar 0) (dCons (dOp oAdd (dCall bLen (dCons (dVar 5) dNil)) (dC (.int 1))) dNil))) (dCons (dCall (c 36) (dCons (dVar 0) (dCons (dVar 2) (dCons (dVar 4) dNil)))) dNil)))))
  (dSeq (dAsg (dOp oSub (dC (.int 5)) (dVar 7)) (dgName 9))
  (dSeq (dAsg (dLst (dCons (dCall bTuple (dCons (dVar 5) dNil)) dNil)) (dgName 10))
  (dSeq (dFor (dIter (dVar 4)) (dgName 6) (dSeq (dAsg (dLc (dIter (dVar 4)) (dgName 12) (dTb (dOp (oEq true) (dVar 12) (dVar 6))) (dVar 12) [12]) (dgName 11))
    (dSeq (dAsg (dCall bMin2 (dCons (dVar 9) (dCons (dCall (c 17) (dCons (dVar 0) (dCons (dLst (dCons (dC (.int 0)) (dCons (dC (.int 1)) (dCons (dC (.int 1)) (dCons (dC (.int 2)) (dCons (dC (.int 2)) (dCons (dC (.int 2)) dNil))))))) dNil))) dNil))) (dgName 13))
    (dSeq (dAsg (dOp oSub (dVar 9) (dVar 13)) (dgName 9))
    (dDrop (dBM okLst (mLst fAppend) (dVar 10) (dCons (dCall bTuple (dCons (dLc (dRng1 (dCons (dVar 13) dNil)) (dgName 8) dYes (dCall (c 36) (dCons (dVar 0) (dCons (dVar 2) (dCons (dVar 11) dNil)))) [8]) dNil)) dNil)))))))
  (dRet (dTup (dCons (dVar 1) (dCons (dCall bTuple (dCons (dVar 10) dNil)) dNil)))))))))))))))
def f_37 : FnD := ⟨1, 14, b_37⟩
/- 38: _law_rival_program(draws): 0 draws 1 many 2 pool 3 size 4 first 5 t 6 rows 7 row -/
def b_38 (c : Nat → DF) : DSt :=
  (dSeq (dAsg (dOp oAdd (dC (.int 2)) (dCall (c 16) (dCons (dVar 0) (dCons (dC (.int 7)) dNil)))) (dgName 1))
  (dSeq (dAsg (dCall (c 20) (dCons (dVar 0) (dCons (dLstRg (dRg1 (dVar 1))) (dCons (dC (.int 3)) dNil)))) (dgName 2))
  (dSeq (dAsg (dOp oAdd (dC (.int 3)) (dCall bInt (dCons (dOp (oEq false) (dCall (c 16) (dCons (dVar 0) (dCons (dC (.int 3)) dNil))) (dC (.int 0))) dNil))) (dgName 3))
  (dSeq (dAsg (dLc (dIter (dCall (c 19) (dCons (dVar 0) (dCons (dLstRg (dRg2 (dC (.int 1)) (dVar 3))) dNil)))) (dgName 5) dYes (dTup (dCons (dC (.str "start")) (dCons (dVar 5) dNil))) [5]) (dgName 4))
  (dSeq (dIf (dTb (dOp (oEq false) (dCall (c 16) (dCons (dVar 0) (dCons (dC (.int 2)) dNil))) (dC (.int 0)))) (dDrop (dBM okLst (mLst fAppend) (dVar 4) (dCons (dTup (dCons (dC (.str "race")) (dCons (dCall (c 17) (dCons (dVar 0) (dCons (dVar 2) dNil))) (dCons (dCall bTuple (dCons (dCall (c 20) (dCons (dVar 0) (dCons (dVar 2) (dCons (dC (.int 2)) dNil)))) dNil)) dNil)))) dNil))) dNext)
  (dSeq (dAsg (dLst (dCons (dCall bTuple (dCons (dVar 4) dNil)) dNil)) (dgName 6))
  (dSeq (dFor (dRng2 (dCons (dC (.int 1)) (dCons (dVar 3) dNil))) (dgName 5) (dSeq (dAsg (dLst (dCons (dTup (dCons (dC (.str "keep")) (dCons (dCall (c 17) (dCons (dVar 0) (dCons (dVar 2) dNil))) (dCons (dCall (c 23) (dCons (dVar 0) dNil)) (dCons (dTup dNil) dNil))))) dNil)) (dgName 7))
    (dSeq (dIf (dAnd (dTb (dOp (oEq false) (dVar 3) (dC (.int 3)))) (dTb (dOp (oEq false) (dCall (c 16) (dCons (dVar 0) (dCons (dC (.int 2)) dNil))) (dC (.int 0))))) (dDrop (dBM okLst (mLst fAppend) (dVar 7) (dCons (dCall (c 36) (dCons (dVar 0) (dCons (dVar 2) (dCons (dLst dNil) dNil)))) dNil))) dNext)
    (dDrop (dBM okLst (mLst fAppend) (dVar 6) (dCons (dCall bTuple (dCons (dVar 7) dNil)) dNil))))))
  (dRet (dTup (dCons (dVar 1) (dCons (dCall bTuple (dCons (dVar 6) dNil)) dNil)))))))))))
def f_38 : FnD := ⟨1, 8, b_38⟩
/- 39: _law_any_program(draws): 0 draws -/
def b_39 (c : Nat → DF) : DSt :=
  (dSeq (dIf (dTb (dOp (oEq false) (dCall (c 16) (dCons (dVar 0) (dCons (dC (.int 3)) dNil))) (dC (.int 0)))) (dRet (dCall (c 38) (dCons (dVar 0) dNil))) dNext)
  (dRet (dCall (c 37) (dCons (dVar 0) dNil))))
def f_39 : FnD := ⟨1, 1, b_39⟩
/- 40: _law_long_program(draws): 0 draws 1 rows 2 kept 3 spare 4 trailing 5 t 6 row 7 p 8 k -/
def b_40 (c : Nat → DF) : DSt :=
  (dSeq (dAsg (dLst dNil) (dgName 1))
  (dSeq (dAsg (dLst dNil) (dgName 2))
  (dSeq (dAsg (dLst (dCons (dC (.int 6)) (dCons (dC (.int 7)) dNil))) (dgName 3))
  (dSeq (dAsg (dLst (dCons (dCall (c 16) (dCons (dVar 0) (dCons (dC (.int 5)) dNil))) (dCons (dCall (c 16) (dCons (dVar 0) (dCons (dC (.int 5)) dNil))) dNil))) (dgName 4))
  (dSeq (dFor (dRng1 (dCons (dC (.int 6)) dNil)) (dgName 5) (dSeq (dAsg (dLst (dCons (dTup (dCons (dC (.str "keep")) (dCons (dVar 5) (dCons (dCall (c 23) (dCons (dVar 0) dNil)) (dCons (dCall (c 35) (dCons (dVar 0) (dCons (dVar 2) (dCons (dOp oMul (dC (.int 2)) (dCall bInt (dCons (dOp (oCmp .gt) (dVar 5) (dC (.int 0))) dNil))) dNil)))) dNil))))) dNil)) (dgName 6))
    (dSeq (dDrop (dBM okLst (mLst fAppend) (dVar 2) (dCons (dVar 5) dNil)))
    (dSeq (dIf (dAnd (dTb (dOp (oCmp .gt) (dCall bLen (dCons (dVar 3) dNil)) (dC (.int 0)))) (dTb (dOp (oEq false) (dCall (c 16) (dCons (dVar 0) (dCons (dC (.int 4)) dNil))) (dC (.int 0))))) (dSeq (dAsg (dBM okLst (mLst fPopAt) (dVar 3) (dCons (dC (.int 0)) dNil)) (dgName 7))
      (dSeq (dDrop (dBM okLst (mLst fAppend) (dVar 6) (dCons (dTup (dCons (dC (.str "keep")) (dCons (dVar 7) (dCons (dCall (c 23) (dCons (dVar 0) dNil)) (dCons (dCall (c 35) (dCons (dVar 0) (dCons (dVar 2) (dCons (dC (.int 2)) dNil)))) dNil))))) dNil)))
      (dDrop (dBM okLst (mLst fAppend) (dVar 2) (dCons (dVar 7) dNil))))) dNext)
    (dSeq (dFor (dRng1 (dCons (dCall (c 16) (dCons (dVar 0) (dCons (dC (.int 5)) dNil))) dNil)) (dgName 8) (dDrop (dBM okLst (mLst fAppend) (dVar 6) (dCons (dTup (dCons (dC (.str "wait")) (dCons (dCall (c 17) (dCons (dVar 0) (dCons (dVar 2) dNil))) dNil))) dNil))))
    (dSeq (dIf (dTb (dOp (oCmp .lt) (dVar 5) (dC (.int 5)))) (dDrop (dBM okLst (mLst fAppend) (dVar 6) (dCons (dTup (dCons (dC (.str "start")) (dCons (dOp oAdd (dVar 5) (dC (.int 1))) dNil))) dNil))) dNext)
    (dSeq (dIf (dTb (dOp (oIn false) (dVar 5) (dVar 4))) (dDrop (dBM okLst (mLst fAppend) (dVar 6) (dCons (dTup (dCons (dC (.str "wait")) (dCons (dCall (c 17) (dCons (dVar 0) (dCons (dVar 2) dNil))) dNil))) dNil))) dNext)
    (dDrop (dBM okLst (mLst fAppend) (dVar 1) (dCons (dVar 6) dNil))))))))))
  (dSeq (dIf (dAnd (dTb (dOp (oCmp .gt) (dCall bLen (dCons (dVar 3) dNil)) (dC (.int 0)))) (dTb (dOp (oEq false) (dCall (c 16) (dCons (dVar 0) (dCons (dC (.int 3)) dNil))) (dC (.int 0))))) (dDrop (dBM okLst (mLst fInsert) (dOp oIx (dVar 1) (dC (.int 5))) (dCons (dCall (c 16) (dCons (dVar 0) (dCons (dOp oAdd (dCall bLen (dCons (dOp oIx (dVar 1) (dC (.int 5))) dNil)) (dC (.int 1))) dNil))) (dCons (dTup (dCons (dC (.str "wait")) (dCons (dC (.int 7)) dNil))) dNil)))) dNext)
  (dRet (dTup (dCons (dC (.int 8)) (dCons (dCall bTuple (dCons (dLc (dIter (dVar 1)) (dgName 6) dYes (dCall bTuple (dCons (dVar 6) dNil)) [6]) dNil)) dNil))))))))))
def f_40 : FnD := ⟨1, 9, b_40⟩
/- 41: _law_bent_run(draws, program, run): 0 draws 1 program 2 run 3 kind 4 strange 5 k -/
def b_41 (c : Nat → DF) : DSt :=
  (dSeq (dAsg (dCall (c 16) (dCons (dVar 0) (dCons (dC (.int 5)) dNil))) (dgName 3))
  (dSeq (dAsg (dCall (c 17) (dCons (dVar 0) (dCons (dLst (dCons (dUn uNeg (dC (.int 1))) (dCons (dCall bLen (dCons (dOp oIx (dVar 1) (dC (.int 1))) dNil)) (dCons (dOp oPow (dC (.int 10)) (dC (.int 9))) (dCons (dCall (c 16) (dCons (dVar 0) (dCons (dCall bLen (dCons (dOp oIx (dVar 1) (dC (.int 1))) dNil)) dNil))) dNil))))) dNil))) (dgName 4))
  (dSeq (dIf (dOr (dTb (dOp (oEq false) (dVar 3) (dC (.int 0)))) (dTb (dOp (oEq false) (dCall bLen (dCons (dVar 2) dNil)) (dC (.int 0))))) (dRet (dOp oAdd (dVar 2) (dTup (dCons (dVar 4) dNil)))) dNext)
  (dSeq (dAsg (dCall (c 16) (dCons (dVar 0) (dCons (dCall bLen (dCons (dVar 2) dNil)) dNil))) (dgName 5))
  (dSeq (dIf (dTb (dOp (oEq false) (dVar 3) (dC (.int 1)))) (dRet (dCall (c 21) (dCons (dVar 2) (dCons (dVar 5) (dCons (dVar 4) dNil))))) dNext)
  (dSeq (dIf (dTb (dOp (oEq false) (dVar 3) (dC (.int 2)))) (dRet (dCall (c 22) (dCons (dVar 2) (dCons (dVar 5) dNil)))) dNext)
  (dSeq (dIf (dTb (dOp (oEq false) (dVar 3) (dC (.int 3)))) (dRet (dOp oAdd (dOp oAdd (dSl (dVar 2) dNoPart (dPart (dVar 5))) (dTup (dCons (dVar 4) dNil))) (dSl (dVar 2) (dPart (dVar 5)) dNoPart))) dNext)
  (dRet (dOp oAdd (dOp oAdd (dSl (dVar 2) dNoPart (dPart (dVar 5))) (dRvS (dSl (dVar 2) (dPart (dVar 5)) (dPart (dOp oAdd (dVar 5) (dC (.int 2))))))) (dSl (dVar 2) (dPart (dOp oAdd (dVar 5) (dC (.int 2)))) dNoPart))))))))))
def f_41 : FnD := ⟨3, 6, b_41⟩
/- 42: law(script): 0 script 1 draws 2 turn 3 program 4 run 5 due 6 part 7 one 8 k 9 bent -/
def b_42 (c : Nat → DF) : DSt :=
  (dSeq (dAsg (dCall (c 15) (dCons (dVar 0) (dCons (dC (.int 600)) dNil))) (dgName 1))
  (dSeq (dFor (dRng1 (dCons (dC (.int 5)) dNil)) (dgName 2) (dSeq (dAsg (dOp oIx (dLst (dCons (dCall (c 39) (dCons (dVar 1) dNil)) (dCons (dCall (c 40) (dCons (dVar 1) dNil)) dNil))) (dCall bInt (dCons (dOp (oEq false) (dVar 2) (dC (.int 3))) dNil))) (dgName 3))
    (dSeq (dAsg (dCall (c 34) (dCons (dVar 1) (dCons (dVar 3) (dCons (dC (.int 60)) dNil)))) (dgName 4))
    (dSeq (dAsg (dCall (c 32) (dCons (dVar 3) (dCons (dCall (c 29) (dCons (dVar 3) (dCons (dVar 4) dNil))) dNil))) (dgName 5))
    (dSeq (dIf (dOr (dTb (dOp (oIs true) (dCall (c 12) (dCons (dVar 3) (dCons (dVar 4) dNil))) (dC (.bl true)))) (dNot (dTb (dCall (c 18) (dCons (dCall (c 13) (dCons (dVar 3) (dCons (dVar 4) dNil))) (dCons (dVar 5) dNil)))))) (dRet (dC (.bl false))) dNext)
    (dSeq (dAsg (dSl (dVar 4) dNoPart (dPart (dCall (c 16) (dCons (dVar 1) (dCons (dOp oAdd (dCall bLen (dCons (dVar 4) dNil)) (dC (.int 1))) dNil))))) (dgName 6))
    (dSeq (dFor (dIter (dLst (dCons (dTup dNil) (dCons (dVar 6) dNil)))) (dgName 7) (dIf (dNot (dTb (dCall (c 18) (dCons (dCall (c 14) (dCons (dVar 3) (dCons (dVar 7) dNil))) (dCons (dCall (c 33) (dCons (dVar 3) (dCons (dVar 7) dNil))) dNil))))) (dRet (dC (.bl false))) dNext))
    (dFor (dRng1 (dCons (dC (.int 4)) dNil)) (dgName 8) (dSeq (dAsg (dCall (c 41) (dCons (dVar 1) (dCons (dVar 3) (dCons (dCall (c 17) (dCons (dVar 1) (dCons (dLst (dCons (dVar 4) (dCons (dVar 6) dNil))) dNil))) dNil)))) (dgName 9))
      (dIf (dNot (dTb (dCall (c 18) (dCons (dCall (c 12) (dCons (dVar 3) (dCons (dVar 9) dNil))) (dCons (dCall (c 30) (dCons (dVar 3) (dCons (dVar 9) dNil))) dNil))))) (dRet (dC (.bl false))) dNext))))))))))
  (dRet (dAndV (dOp (oIs false) (dCall (c 12) (dCons (dTup (dCons (dC (.int 0)) (dCons (dTup (dCons (dTup dNil) dNil)) dNil))) (dCons (dTup dNil) dNil))) (dC (.bl true))) (dOp (oIs false) (dCall (c 12) (dCons (dTup (dCons (dC (.int 0)) (dCons (dTup (dCons (dTup dNil) dNil)) dNil))) (dCons (dTup (dCons (dC (.int 0)) dNil)) dNil))) (dC (.bl false)))))))
def f_42 : FnD := ⟨1, 10, b_42⟩
def fs : Nat → FnD
  | 0 => f_0
  | 1 => f_1
  | 2 => f_2
  | 3 => f_3
  | 4 => f_4
  | 5 => f_5
  | 6 => f_6
  | 7 => f_7
  | 8 => f_8
  | 9 => f_9
  | 10 => f_10
  | 11 => f_11
  | 12 => f_12
  | 13 => f_13
  | 14 => f_14
  | 15 => f_15
  | 16 => f_16
  | 17 => f_17
  | 18 => f_18
  | 19 => f_19
  | 20 => f_20
  | 21 => f_21
  | 22 => f_22
  | 23 => f_23
  | 24 => f_24
  | 25 => f_25
  | 26 => f_26
  | 27 => f_27
  | 28 => f_28
  | 29 => f_29
  | 30 => f_30
  | 31 => f_31
  | 32 => f_32
  | 33 => f_33
  | 34 => f_34
  | 35 => f_35
  | 36 => f_36
  | 37 => f_37
  | 38 => f_38
  | 39 => f_39
  | 40 => f_40
  | 41 => f_41
  | 42 => f_42
  | _ => ⟨0, 0, fun _ => dNever⟩
theorem run_first_state {n : Nat} {a0 : D} {S : DS} {Q : DK} (h : b_0 (sem fs n) { nx := fun _ S' => Q .non S', rt := Q, bk := fun _ _ => False, ct := fun _ _ => False } [some a0, none] S) : sem fs (n + 1) 0 [a0] S Q := ⟨rfl, h⟩
theorem run_value_of {n : Nat} {a0 a1 : D} {S : DS} {Q : DK} (h : b_1 (sem fs n) { nx := fun _ S' => Q .non S', rt := Q, bk := fun _ _ => False, ct := fun _ _ => False } [some a0, some a1, none, none] S) : sem fs (n + 1) 1 [a0, a1] S Q := ⟨rfl, h⟩
theorem run_next_deed {n : Nat} {a0 a1 a2 : D} {S : DS} {Q : DK} (h : b_2 (sem fs n) { nx := fun _ S' => Q .non S', rt := Q, bk := fun _ _ => False, ct := fun _ _ => False } [some a0, some a1, some a2, none] S) : sem fs (n + 1) 2 [a0, a1, a2] S Q := ⟨rfl, h⟩
theorem run_can_be_done {n : Nat} {a0 a1 : D} {S : DS} {Q : DK} (h : b_3 (sem fs n) { nx := fun _ S' => Q .non S', rt := Q, bk := fun _ _ => False, ct := fun _ _ => False } [some a0, some a1, none] S) : sem fs (n + 1) 3 [a0, a1] S Q := ⟨rfl, h⟩
theorem run_ready_tasks {n : Nat} {a0 a1 : D} {S : DS} {Q : DK} (h : b_4 (sem fs n) { nx := fun _ S' => Q .non S', rt := Q, bk := fun _ _ => False, ct := fun _ _ => False } [some a0, some a1, none, none, none] S) : sem fs (n + 1) 4 [a0, a1] S Q := ⟨rfl, h⟩
theorem run_value_kept_by {n : Nat} {a0 a1 : D} {S : DS} {Q : DK} (h : b_5 (sem fs n) { nx := fun _ S' => Q .non S', rt := Q, bk := fun _ _ => False, ct := fun _ _ => False } [some a0, some a1, none, none] S) : sem fs (n + 1) 5 [a0, a1] S Q := ⟨rfl, h⟩
theorem run_stepped {n : Nat} {a0 a1 a2 : D} {S : DS} {Q : DK} (h : b_6 (sem fs n) { nx := fun _ S' => Q .non S', rt := Q, bk := fun _ _ => False, ct := fun _ _ => False } [some a0, some a1, some a2, none, none, none, none] S) : sem fs (n + 1) 6 [a0, a1, a2] S Q := ⟨rfl, h⟩
theorem run_state_after {n : Nat} {a0 a1 : D} {S : DS} {Q : DK} (h : b_7 (sem fs n) { nx := fun _ S' => Q .non S', rt := Q, bk := fun _ _ => False, ct := fun _ _ => False } [some a0, some a1, none, none] S) : sem fs (n + 1) 7 [a0, a1] S Q := ⟨rfl, h⟩
theorem run_run_on {n : Nat} {a0 a1 : D} {S : DS} {Q : DK} (h : b_8 (sem fs n) { nx := fun _ S' => Q .non S', rt := Q, bk := fun _ _ => False, ct := fun _ _ => False } [some a0, some a1, none, none] S) : sem fs (n + 1) 8 [a0, a1] S Q := ⟨rfl, h⟩
theorem run_stuck_at {n : Nat} {a0 a1 : D} {S : DS} {Q : DK} (h : b_9 (sem fs n) { nx := fun _ S' => Q .non S', rt := Q, bk := fun _ _ => False, ct := fun _ _ => False } [some a0, some a1, none] S) : sem fs (n + 1) 9 [a0, a1] S Q := ⟨rfl, h⟩
theorem run_values_at {n : Nat} {a0 a1 : D} {S : DS} {Q : DK} (h : b_10 (sem fs n) { nx := fun _ S' => Q .non S', rt := Q, bk := fun _ _ => False, ct := fun _ _ => False } [some a0, some a1, none] S) : sem fs (n + 1) 10 [a0, a1] S Q := ⟨rfl, h⟩
theorem run_ending_at {n : Nat} {a0 a1 : D} {S : DS} {Q : DK} (h : b_11 (sem fs n) { nx := fun _ S' => Q .non S', rt := Q, bk := fun _ _ => False, ct := fun _ _ => False } [some a0, some a1] S) : sem fs (n + 1) 11 [a0, a1] S Q := ⟨rfl, h⟩
theorem run_is_run {n : Nat} {a0 a1 : D} {S : DS} {Q : DK} (h : b_12 (sem fs n) { nx := fun _ S' => Q .non S', rt := Q, bk := fun _ _ => False, ct := fun _ _ => False } [some a0, some a1, none, none] S) : sem fs (n + 1) 12 [a0, a1] S Q := ⟨rfl, h⟩
theorem run_outcome_of {n : Nat} {a0 a1 : D} {S : DS} {Q : DK} (h : b_13 (sem fs n) { nx := fun _ S' => Q .non S', rt := Q, bk := fun _ _ => False, ct := fun _ _ => False } [some a0, some a1] S) : sem fs (n + 1) 13 [a0, a1] S Q := ⟨rfl, h⟩
theorem run_first_full_run {n : Nat} {a0 a1 : D} {S : DS} {Q : DK} (h : b_14 (sem fs n) { nx := fun _ S' => Q .non S', rt := Q, bk := fun _ _ => False, ct := fun _ _ => False } [some a0, some a1] S) : sem fs (n + 1) 14 [a0, a1] S Q := ⟨rfl, h⟩
theorem run__law_draws {n : Nat} {a0 a1 : D} {S : DS} {Q : DK} (h : b_15 (sem fs n) { nx := fun _ S' => Q .non S', rt := Q, bk := fun _ _ => False, ct := fun _ _ => False } [some a0, some a1, none, none, none, none, none, none, none] S) : sem fs (n + 1) 15 [a0, a1] S Q := ⟨rfl, h⟩
theorem run__law_take {n : Nat} {a0 a1 : D} {S : DS} {Q : DK} (h : b_16 (sem fs n) { nx := fun _ S' => Q .non S', rt := Q, bk := fun _ _ => False, ct := fun _ _ => False } [some a0, some a1] S) : sem fs (n + 1) 16 [a0, a1] S Q := ⟨rfl, h⟩
theorem run__law_pick {n : Nat} {a0 a1 : D} {S : DS} {Q : DK} (h : b_17 (sem fs n) { nx := fun _ S' => Q .non S', rt := Q, bk := fun _ _ => False, ct := fun _ _ => False } [some a0, some a1] S) : sem fs (n + 1) 17 [a0, a1] S Q := ⟨rfl, h⟩
theorem run__law_same {n : Nat} {a0 a1 : D} {S : DS} {Q : DK} (h : b_18 (sem fs n) { nx := fun _ S' => Q .non S', rt := Q, bk := fun _ _ => False, ct := fun _ _ => False } [some a0, some a1, none] S) : sem fs (n + 1) 18 [a0, a1] S Q := ⟨rfl, h⟩
theorem run__law_shuffled {n : Nat} {a0 a1 : D} {S : DS} {Q : DK} (h : b_19 (sem fs n) { nx := fun _ S' => Q .non S', rt := Q, bk := fun _ _ => False, ct := fun _ _ => False } [some a0, some a1, none, none, none] S) : sem fs (n + 1) 19 [a0, a1] S Q := ⟨rfl, h⟩
theorem run__law_some_of {n : Nat} {a0 a1 a2 : D} {S : DS} {Q : DK} (h : b_20 (sem fs n) { nx := fun _ S' => Q .non S', rt := Q, bk := fun _ _ => False, ct := fun _ _ => False } [some a0, some a1, some a2, none, none, none] S) : sem fs (n + 1) 20 [a0, a1, a2] S Q := ⟨rfl, h⟩
theorem run__law_put {n : Nat} {a0 a1 a2 : D} {S : DS} {Q : DK} (h : b_21 (sem fs n) { nx := fun _ S' => Q .non S', rt := Q, bk := fun _ _ => False, ct := fun _ _ => False } [some a0, some a1, some a2] S) : sem fs (n + 1) 21 [a0, a1, a2] S Q := ⟨rfl, h⟩
theorem run__law_without {n : Nat} {a0 a1 : D} {S : DS} {Q : DK} (h : b_22 (sem fs n) { nx := fun _ S' => Q .non S', rt := Q, bk := fun _ _ => False, ct := fun _ _ => False } [some a0, some a1] S) : sem fs (n + 1) 22 [a0, a1] S Q := ⟨rfl, h⟩
theorem run__law_number {n : Nat} {a0 : D} {S : DS} {Q : DK} (h : b_23 (sem fs n) { nx := fun _ S' => Q .non S', rt := Q, bk := fun _ _ => False, ct := fun _ _ => False } [some a0] S) : sem fs (n + 1) 23 [a0] S Q := ⟨rfl, h⟩
theorem run__law_start_state {n : Nat} {a0 : D} {S : DS} {Q : DK} (h : b_24 (sem fs n) { nx := fun _ S' => Q .non S', rt := Q, bk := fun _ _ => False, ct := fun _ _ => False } [some a0, none] S) : sem fs (n + 1) 24 [a0] S Q := ⟨rfl, h⟩
theorem run__law_worth {n : Nat} {a0 a1 : D} {S : DS} {Q : DK} (h : b_25 (sem fs n) { nx := fun _ S' => Q .non S', rt := Q, bk := fun _ _ => False, ct := fun _ _ => False } [some a0, some a1, none] S) : sem fs (n + 1) 25 [a0, a1] S Q := ⟨rfl, h⟩
theorem run__law_can {n : Nat} {a0 a1 a2 : D} {S : DS} {Q : DK} (h : b_26 (sem fs n) { nx := fun _ S' => Q .non S', rt := Q, bk := fun _ _ => False, ct := fun _ _ => False } [some a0, some a1, some a2, none, none, none, none, none] S) : sem fs (n + 1) 26 [a0, a1, a2] S Q := ⟨rfl, h⟩
theorem run__law_ready {n : Nat} {a0 a1 : D} {S : DS} {Q : DK} (h : b_27 (sem fs n) { nx := fun _ S' => Q .non S', rt := Q, bk := fun _ _ => False, ct := fun _ _ => False } [some a0, some a1, none] S) : sem fs (n + 1) 27 [a0, a1] S Q := ⟨rfl, h⟩
theorem run__law_step {n : Nat} {a0 a1 a2 : D} {S : DS} {Q : DK} (h : b_28 (sem fs n) { nx := fun _ S' => Q .non S', rt := Q, bk := fun _ _ => False, ct := fun _ _ => False } [some a0, some a1, some a2, none, none, none, none, none, none] S) : sem fs (n + 1) 28 [a0, a1, a2] S Q := ⟨rfl, h⟩
theorem run__law_behind {n : Nat} {a0 a1 : D} {S : DS} {Q : DK} (h : b_29 (sem fs n) { nx := fun _ S' => Q .non S', rt := Q, bk := fun _ _ => False, ct := fun _ _ => False } [some a0, some a1, none, none] S) : sem fs (n + 1) 29 [a0, a1] S Q := ⟨rfl, h⟩
theorem run__law_walks {n : Nat} {a0 a1 : D} {S : DS} {Q : DK} (h : b_30 (sem fs n) { nx := fun _ S' => Q .non S', rt := Q, bk := fun _ _ => False, ct := fun _ _ => False } [some a0, some a1, none, none] S) : sem fs (n + 1) 30 [a0, a1] S Q := ⟨rfl, h⟩
theorem run__law_stuck_at {n : Nat} {a0 a1 : D} {S : DS} {Q : DK} (h : b_31 (sem fs n) { nx := fun _ S' => Q .non S', rt := Q, bk := fun _ _ => False, ct := fun _ _ => False } [some a0, some a1, none, none] S) : sem fs (n + 1) 31 [a0, a1] S Q := ⟨rfl, h⟩
theorem run__law_ending {n : Nat} {a0 a1 : D} {S : DS} {Q : DK} (h : b_32 (sem fs n) { nx := fun _ S' => Q .non S', rt := Q, bk := fun _ _ => False, ct := fun _ _ => False } [some a0, some a1, none] S) : sem fs (n + 1) 32 [a0, a1] S Q := ⟨rfl, h⟩
theorem run__law_run_on {n : Nat} {a0 a1 : D} {S : DS} {Q : DK} (h : b_33 (sem fs n) { nx := fun _ S' => Q .non S', rt := Q, bk := fun _ _ => False, ct := fun _ _ => False } [some a0, some a1, none, none, none] S) : sem fs (n + 1) 33 [a0, a1] S Q := ⟨rfl, h⟩
theorem run__law_drawn_run {n : Nat} {a0 a1 a2 : D} {S : DS} {Q : DK} (h : b_34 (sem fs n) { nx := fun _ S' => Q .non S', rt := Q, bk := fun _ _ => False, ct := fun _ _ => False } [some a0, some a1, some a2, none, none, none, none, none] S) : sem fs (n + 1) 34 [a0, a1, a2] S Q := ⟨rfl, h⟩
theorem run__law_set_of {n : Nat} {a0 a1 a2 : D} {S : DS} {Q : DK} (h : b_35 (sem fs n) { nx := fun _ S' => Q .non S', rt := Q, bk := fun _ _ => False, ct := fun _ _ => False } [some a0, some a1, some a2, none, none, none] S) : sem fs (n + 1) 35 [a0, a1, a2] S Q := ⟨rfl, h⟩
theorem run__law_deed {n : Nat} {a0 a1 a2 : D} {S : DS} {Q : DK} (h : b_36 (sem fs n) { nx := fun _ S' => Q .non S', rt := Q, bk := fun _ _ => False, ct := fun _ _ => False } [some a0, some a1, some a2, none] S) : sem fs (n + 1) 36 [a0, a1, a2] S Q := ⟨rfl, h⟩
theorem run__law_program {n : Nat} {a0 : D} {S : DS} {Q : DK} (h : b_37 (sem fs n) { nx := fun _ S' => Q .non S', rt := Q, bk := fun _ _ => False, ct := fun _ _ => False } [some a0, none, none, none, none, none, none, none, none, none, none, none, none, none] S) : sem fs (n + 1) 37 [a0] S Q := ⟨rfl, h⟩
theorem run__law_rival_program {n : Nat} {a0 : D} {S : DS} {Q : DK} (h : b_38 (sem fs n) { nx := fun _ S' => Q .non S', rt := Q, bk := fun _ _ => False, ct := fun _ _ => False } [some a0, none, none, none, none, none, none, none] S) : sem fs (n + 1) 38 [a0] S Q := ⟨rfl, h⟩
theorem run__law_any_program {n : Nat} {a0 : D} {S : DS} {Q : DK} (h : b_39 (sem fs n) { nx := fun _ S' => Q .non S', rt := Q, bk := fun _ _ => False, ct := fun _ _ => False } [some a0] S) : sem fs (n + 1) 39 [a0] S Q := ⟨rfl, h⟩
theorem run__law_long_program {n : Nat} {a0 : D} {S : DS} {Q : DK} (h : b_40 (sem fs n) { nx := fun _ S' => Q .non S', rt := Q, bk := fun _ _ => False, ct := fun _ _ => False } [some a0, none, none, none, none, none, none, none, none] S) : sem fs (n + 1) 40 [a0] S Q := ⟨rfl, h⟩
theorem run__law_bent_run {n : Nat} {a0 a1 a2 : D} {S : DS} {Q : DK} (h : b_41 (sem fs n) { nx := fun _ S' => Q .non S', rt := Q, bk := fun _ _ => False, ct := fun _ _ => False } [some a0, some a1, some a2, none, none, none] S) : sem fs (n + 1) 41 [a0, a1, a2] S Q := ⟨rfl, h⟩
theorem run_law {n : Nat} {a0 : D} {S : DS} {Q : DK} (h : b_42 (sem fs n) { nx := fun _ S' => Q .non S', rt := Q, bk := fun _ _ => False, ct := fun _ _ => False } [some a0, none, none, none, none, none, none, none, none, none] S) : sem fs (n + 1) 42 [a0] S Q := ⟨rfl, h⟩
end Gk33
namespace Gk33
open PySem L2 DL
local macro_rules | `(tactic| walk_at "look") => `(tactic| first | assumption | exact dupd_same | ((with_reducible refine Ext.get (by assumption) ?_); walk_at "look") | ((with_reducible refine But.get (by assumption) ?_ ?_); walk_at "neq"; walk_at "look"))
local macro_rules | `(tactic| walk_at "neq") => `(tactic| first | assumption | (refine Ne.symm ?_; assumption) | (refine dne ?_ (by assumption); walk_at "look"; done) | (refine Ne.symm (dne ?_ (by assumption)); walk_at "look"; done))
local macro_rules | `(tactic| walk_at "fresh") => `(tactic| first | assumption | (refine Ext.back ?_ (by assumption); walk_at "ext"; done) | (refine But.back ?_ ?_ (by assumption); rotate_left; walk_at "neq"; walk_at "but"; done))
local macro_rules | `(tactic| walk_at "ext") => `(tactic| first | assumption | exact Ext.refl _ | ((with_reducible refine Ext.trans ?_ (by assumption)); walk_at "ext"; done) | ((with_reducible refine Ext.but ?_ (by assumption) ?_); rotate_left; walk_at "fresh"; walk_at "ext"; done))
local macro_rules | `(tactic| walk_at "but") => `(tactic| first | assumption | ((with_reducible refine But.ext ?_ (by assumption)); walk_at "but"; done) | ((with_reducible refine But.trans ?_ (by assumption)); walk_at "but"; done) | ((with_reducible refine But.but ?_ (by assumption) ?_); rotate_left; walk_at "fresh"; walk_at "but"; done) | (refine Ext.toBut ?_; walk_at "ext"; done))
local macro_rules | `(tactic| walk_at "d") => `(tactic| first
  | (with_reducible refine i_seq ?_)
  | (with_reducible refine i_asg ?_)
  | ((with_reducible refine' i_var ?e ?_); (case e => rfl))
  | (with_reducible refine i_c ?_)
  | (with_reducible refine i_cons ?_)
  | (with_reducible refine i_nil ?_)
  | ((with_reducible refine i_tup ?_))
  | ((with_reducible refine' i_len ?e ?_); (case e => exact rfl))
  | (with_reducible refine i_lst ?_)
  | (with_reducible refine i_op ?_)
  | (with_reducible refine i_un ?_)
  | (with_reducible refine i_tb ?_)
  | (with_reducible refine i_asB ?_)
  | (with_reducible refine i_call ?_)
  | (with_reducible refine i_bm ?_)
  | (with_reducible refine i_if ?_)
  | (with_reducible refine i_ret ?_)
  | (with_reducible refine i_next ?_)
  | (with_reducible refine i_drop ?_)
  | ((with_reducible refine' i_gname ?e ?_); (case e => (simp only [dwipe, List.set_cons_zero, List.set_cons_succ, List.set_nil]; exact rfl)))
  | ((with_reducible refine i_gtup ?e ?_); (case e => rfl))
  | (with_reducible refine i_gcons ?_)
  | (with_reducible refine i_gnil ?_)
  | (with_reducible refine i_gsub ?_)
  | (with_reducible refine i_and ?_)
  | (with_reducible refine i_or ?_)
  | (with_reducible refine i_not ?_)
  | (with_reducible refine i_andV ?_)
  | (with_reducible refine i_orV ?_)
  | (with_reducible refine i_notV ?_)
  | (with_reducible refine i_ifE ?_)
  | (with_reducible refine i_chain ?_)
  | (with_reducible refine i_sl ?_)
  | (with_reducible refine i_noPart ?_)
  | (with_reducible refine i_part ?_)
  | (with_reducible refine i_asP ?_)
  | (with_reducible refine i_yes ?_)
  | (with_reducible refine i_break ?_)
  | (with_reducible refine i_cont ?_)
  | (with_reducible refine i_retN ?_)
  | (with_reducible refine i_par ?_)
  | ((with_reducible refine' i_par2 ?e ?_); (case e => (simp only [List.set_cons_zero, List.set_cons_succ, List.set_nil]; exact rfl)))
  | ((with_reducible refine' i_aug ?e ?_); (case e => rfl))
  | (with_reducible refine i_augS ?_)
  | (with_reducible refine i_for ?_)
  | ((with_reducible refine' i_lc ?e ?_); (case e => (simp only [dwipe, List.set_cons_zero, List.set_cons_succ, List.set_nil]; exact rfl)))
  | ((with_reducible refine' i_lc2 ?e ?_); (case e => (simp only [dwipe, List.set_cons_zero, List.set_cons_succ, List.set_nil]; exact rfl)))
  | (with_reducible refine i_iter ?_)
  | (with_reducible refine i_iterV_tup ?_)
  | (with_reducible refine i_iterV_fl ?_)
  | ((with_reducible refine' i_iterV_ref ?e ?_); (case e => (walk_at "look"; done)))
  | (with_reducible refine i_rng1 ?_)
  | (with_reducible refine i_rng2 ?_)
  | (with_reducible refine i_rev ?_)
  | (with_reducible refine i_enum ?_)
  | (with_reducible refine i_rg1 ?_)
  | (with_reducible refine i_rg1V ?_)
  | (with_reducible refine i_rg2 ?_)
  | (with_reducible refine i_rg2V ?_)
  | (with_reducible refine i_lstRg ?_)
  | (with_reducible refine i_tupRg ?_)
  | (with_reducible refine i_revR ?_)
  | (with_reducible refine i_rng3 ?_)
  | (with_reducible refine i_zip ?_)
  | (with_reducible refine i_zipT ?_)
  | (with_reducible refine i_rvS ?_)
  | (with_reducible refine i_rvT ?_)
  | (with_reducible refine i_rvF ?_)
  | ((with_reducible refine' i_rvL ?e ?_); (case e => (walk_at "look"; done)))
  | (with_reducible refine o_addI ?_)
  | (with_reducible refine o_subI ?_)
  | (with_reducible refine o_neg ?_)
  | (with_reducible refine o_ltI ?_)
  | (with_reducible refine o_leI ?_)
  | (with_reducible refine o_gtI ?_)
  | (with_reducible refine o_geI ?_)
  | (with_reducible refine o_eqI ?_)
  | (with_reducible refine o_neI ?_)
  | (with_reducible refine o_eqS ?_)
  | (with_reducible refine o_neS ?_)
  | (with_reducible refine o_eqB ?_)
  | (with_reducible refine o_neB ?_)
  | (with_reducible refine o_is ?_)
  | (with_reducible refine o_isnot ?_)
  | (with_reducible refine o_isBl ?_)
  | (with_reducible refine o_notBl ?_)
  | (with_reducible refine o_bitI ?_)
  | (with_reducible refine o_slT ?_)
  | (with_reducible refine o_slF ?_)
  | ((with_reducible refine' o_slL ?e ?_); (case e => (walk_at "look"; done)))
  | (with_reducible refine c_lenT ?_)
  | (with_reducible refine c_lenF ?_)
  | ((with_reducible refine' c_lenL ?e ?_); (case e => (walk_at "look"; done)))
  | (with_reducible refine c_int ?_)
  | (with_reducible refine c_intB ?_)
  | (with_reducible refine c_abs ?_)
  | (with_reducible refine c_max2 ?_)
  | (with_reducible refine c_min2 ?_)
  | (with_reducible refine c_listT ?_)
  | (with_reducible refine c_listF ?_)
  | ((with_reducible refine' c_listL ?e ?_); (case e => (walk_at "look"; done)))
  | (with_reducible refine c_tupleT ?_)
  | (with_reducible refine c_tupleF ?_)
  | ((with_reducible refine' c_tupleL ?e ?_); (case e => (walk_at "look"; done)))
  | ((with_reducible refine' ok_L ?e ?_); (case e => (walk_at "look"; done)))
  | (with_reducible refine ok_S ?_)
  | (with_reducible refine ite_t ?_)
  | (with_reducible refine ite_f ?_)
  | (with_reducible refine ite_nt ?_)
  | (with_reducible refine ite_nf ?_))
def Drw (S : DS) (d : Addr) : Prop := ∃ ns : List Int, S d = some (.lst (ns.map D.int)) ∧ ns.length ≤ 1000000
theorem Drw.ext {S S' : DS} {d : Addr} (h : Drw S d) (e : Ext S S') : Drw S' d := let ⟨ns, h1, h2⟩ := h; ⟨ns, e _ _ h1, h2⟩
theorem Drw.but {S S' : DS} {d p : Addr} (h : Drw S d) (e : But p S S') (n : d ≠ p) : Drw S' d := let ⟨ns, h1, h2⟩ := h; ⟨ns, e _ _ n h1, h2⟩
theorem Drw.ne {S : DS} {d p : Addr} (h : Drw S d) (e : S p = none) : d ≠ p := let ⟨ns, h1, h2⟩ := h; dne h1 e
theorem Drw.ne' {S : DS} {d p : Addr} (h : Drw S d) (e : S p = none) : p ≠ d := (h.ne e).symm
theorem But.refl (d : Addr) (S : DS) : But d S S := fun _ _ _ h => h
theorem atI_some {α : Type} {xs : List α} {k : Int} (h0 : 0 ≤ k) (h1 : k < (xs.length : Int)) : ∃ v, L2.atI xs k = some v ∧ v ∈ xs ∧ xs[k.toNat]? = some v := by
  have hk : k.toNat < xs.length := by omega
  have e : k = ((k.toNat : Nat) : Int) := by omega
  have := L2.atI_nat (List.getElem?_eq_getElem hk)
  rw [← e] at this
  exact ⟨xs[k.toNat], this, List.getElem_mem hk, List.getElem?_eq_getElem hk⟩
theorem atI_at {α : Type} {xs : List α} {j : Nat} {k : Int} {v : α} (e : k = (j : Int)) (h : xs[j]? = some v) : L2.atI xs k = some v := by subst e; exact L2.atI_nat h
theorem ixN_at {n j : Nat} {k : Int} (e : k = (j : Int)) (h : j < n) : ixN n k = some j := by
  subst e; unfold ixN; rw [if_pos (by omega), if_pos (by omega)]; simp
theorem rng_at {lo : Int} {n m : Nat} {x : D} (h : (rngL lo n)[m]? = some x) : x = .int (lo + (m : Int)) ∧ m < n := by
  unfold rngL at h
  rw [List.getElem?_map] at h
  by_cases hm : m < n
  · rw [List.getElem?_range hm] at h; exact ⟨(Option.some.inj h).symm, hm⟩
  · rw [List.getElem?_eq_none (by rw [List.length_range]; omega)] at h; cases h
theorem rng_len {lo : Int} {n : Nat} : (rngL lo n).length = n := by unfold rngL; rw [List.length_map, List.length_range]
theorem log2_lt {z : Nat} {k : Nat} (hz : z < 2 ^ k) : z.log2 ≤ k := by
  by_cases h0 : z = 0
  · subst h0; rw [Nat.log2_zero]; exact Nat.zero_le _
  · exact Nat.le_of_lt ((Nat.log2_lt h0).mpr hz)
theorem lt_log {x y : Int} (hx : x.natAbs < 2 ^ 9000) (hy : y.natAbs < 2 ^ 9000) : x.natAbs.log2 + y.natAbs.log2 < 1000000 := by
  have := log2_lt hx
  have := log2_lt hy
  omega
def Pl : Nat → D → Prop
  | 0, _ => False
  | m + 1, d => match d with
    | .non => True
    | .bl _ => True
    | .int _ => True
    | .str _ => True
    | .tup xs => xs.length ≤ 16777216 ∧ ∀ x ∈ xs, Pl m x
    | _ => False
theorem Pl.up {m : Nat} {d : D} (h : Pl m d) : Pl (m + 1) d := by
  induction m generalizing d with
  | zero => exact h.elim
  | succ m ih =>
    cases d with
    | tup xs => exact ⟨h.1, fun x hx => ih (h.2 x hx)⟩
    | non => trivial
    | bl b => trivial
    | int b => trivial
    | str b => trivial
    | _ => exact h.elim
theorem Pl.int {m : Nat} {i : Int} : Pl (m + 1) (.int i) := True.intro
theorem Pl.str {m : Nat} {i : Str} : Pl (m + 1) (.str i) := True.intro
theorem Pl.bl {m : Nat} {i : Bool} : Pl (m + 1) (.bl i) := True.intro
theorem Pl.non {m : Nat} : Pl (m + 1) .non := True.intro
theorem Pl.tup {m : Nat} {xs : List D} (hl : xs.length ≤ 16777216) (h : ∀ x ∈ xs, Pl m x) : Pl (m + 1) (.tup xs) := ⟨hl, h⟩
theorem pow_le {a b : Nat} (h : a ≤ b) : (2 : Nat) ^ a ≤ 2 ^ b := Nat.pow_le_pow_right (by decide) h
/-- a comprehension over what stands in a list: what each item gives -/
theorem lc_fm {α : Type} {xs : List α} {ex : α → D} (f : α → Option D) (J : DS → Prop) {stay : DS → Prop} {g : DG} {t : DT} {a : DE} {δ : DL.Loc} {KK : List D → DS → Prop} {S : DS} (hl : xs.length ≤ 16777216) (h0 : J S) (hst : ∀ S, J S → stay S)
    (turn : ∀ x ∈ xs, ∀ (acc : List D) S (nx : List D → DS → Prop), acc.length < 16777216 → J S → (∀ S', J S' → nx (acc ++ (f x).toList) S') → g (ex x) δ S fun δ2 S2 => t δ2 S2 fun b S3 => if b = true then a δ2 S3 fun y S4 => acc.length < 16777216 ∧ nx (acc ++ [y]) S4 else nx acc S3)
    (done : ∀ S, J S → KK (xs.filterMap f) S) : lcT stay g t a δ KK (xs.map ex) [] S := by
  refine lc_inv (fun m acc S => acc = (xs.take m).filterMap f ∧ J S) ⟨rfl, h0⟩ (fun m acc S _ p => hst S p.2) (fun m x acc S nx hx hm p hnx => ?_) (fun acc S p => ?_)
  · obtain ⟨rfl, hJ⟩ := p
    rw [List.getElem?_map] at hx
    rw [List.length_map] at hm
    cases e : xs[m]? with
    | none => rw [e] at hx; cases hx
    | some z =>
      rw [e] at hx
      obtain rfl := (Option.some.inj hx).symm
      have hlen : ((xs.take m).filterMap f).length ≤ m := Nat.le_trans (List.length_filterMap_le ..) (List.length_take_le ..)
      refine turn z (List.mem_of_getElem? e) _ S nx (by omega) hJ fun S' hJ' => hnx _ S' ⟨?_, hJ'⟩
      rw [List.take_add_one, e, List.filterMap_append]
      cases hf : f z with
      | none => simp [hf]
      | some y => simp [hf]
  · obtain ⟨rfl, hJ⟩ := p
    rw [List.length_map, List.take_length]
    exact done S hJ
theorem lc_map {α : Type} {xs : List α} {ex : α → D} (f : α → D) (J : DS → Prop) {stay : DS → Prop} {g : DG} {t : DT} {a : DE} {δ : DL.Loc} {KK : List D → DS → Prop} {S : DS} (hl : xs.length ≤ 16777216) (h0 : J S) (hst : ∀ S, J S → stay S)
    (turn : ∀ x ∈ xs, ∀ (acc : List D) S (nx : List D → DS → Prop), acc.length < 16777216 → J S → (∀ S', J S' → nx (acc ++ [f x]) S') → g (ex x) δ S fun δ2 S2 => t δ2 S2 fun b S3 => if b = true then a δ2 S3 fun y S4 => acc.length < 16777216 ∧ nx (acc ++ [y]) S4 else nx acc S3)
    (done : ∀ S, J S → KK (xs.map f) S) : lcT stay g t a δ KK (xs.map ex) [] S :=
  lc_fm (fun x => some (f x)) J hl h0 hst (fun x hx acc S nx hacc hJ hnx => turn x hx acc S nx hacc hJ hnx) fun S hJ => by
    rw [show xs.filterMap (fun x => some (f x)) = xs.map f from congrFun List.filterMap_eq_map xs]
    exact done S hJ
theorem rng_map {lo : Int} {n : Nat} : rngL lo n = (List.range n).map fun (i : Nat) => D.int (lo + (i : Int)) := rfl
theorem lst_map_at {α : Type} {xs : List α} {f : α → D} {j : Nat} {k : Int} {x : α} (e : k = (j : Int)) (h : xs[j]? = some x) : L2.atI (xs.map f) k = some (f x) := atI_at e (by rw [List.getElem?_map, h]; rfl)
theorem map_at {α : Type} {xs : List α} {f : α → D} {j : Nat} {y : D} (h : (xs.map f)[j]? = some y) : ∃ x, xs[j]? = some x ∧ y = f x := by
  rw [List.getElem?_map] at h
  cases e : xs[j]? with
  | none => rw [e] at h; cases h
  | some x => rw [e] at h; exact ⟨x, rfl, (Option.some.inj h).symm⟩
theorem take_succ' {α : Type} {xs : List α} {j : Nat} {x : α} (h : xs[j]? = some x) : xs.take (j + 1) = xs.take j ++ [x] := by
  rw [List.take_add_one, h]; rfl
theorem o_addV {k l m : Int} (h : k + l = m) {S : DS} {Q : DK} (hq : Q (.int m) S) : oAdd (.int k) (.int l) S Q := by
  show Q (.int (k + l)) S
  rw [h]; exact hq
theorem take_spec {n : Nat} {S : DS} {d : Addr} {m : Int} {Q : DK} (hd : Drw S d) (hm : 0 < m) (h : ∀ k S', 0 ≤ k → k < m → But d S S' → Drw S' d → Q (.int k) S') : sem fs (n + 1) 16 [.ref d, .int m] S Q := by
  obtain ⟨ns, h1, h2⟩ := hd
  refine run__law_take ?_
  unfold b_16
  repeat walk_at "d"
  refine ite_dec (fun c => ?_) (fun c => ?_)
  · repeat walk_at "d"
    exact h 0 S (Int.le_refl 0) hm (But.refl _ _) ⟨ns, h1, h2⟩
  · rcases List.eq_nil_or_concat ns with e | ⟨ms, v, e⟩
    · subst e; exact absurd rfl c
    · subst e
      rw [List.concat_eq_append, List.map_append] at h1
      rw [List.concat_eq_append, List.length_append] at h2
      repeat walk_at "d"
      refine m_pop h1 (by rw [List.length_map]; omega) (i_putL fun S1 e1 b1 => ?_)
      repeat walk_at "d"
      exact o_modI hm (h _ S1 (Int.emod_nonneg _ (by omega)) (Int.emod_lt_of_pos _ hm) b1 ⟨ms, e1, by omega⟩)
theorem pick_spec {n : Nat} {S : DS} {d r : Addr} {xs : List D} {Q : DK} (hd : Drw S d) (hr : S r = some (.lst xs)) (hn : xs ≠ []) (hne : r ≠ d) (h : ∀ v S', v ∈ xs → But d S S' → Drw S' d → Q v S') : sem fs (n + 2) 17 [.ref d, .ref r] S Q := by
  refine run__law_pick ?_
  unfold b_17
  repeat walk_at "d"
  have hl : 0 < (xs.length : Int) := by
    cases xs with
    | nil => exact absurd rfl hn
    | cons a b => simp only [List.length_cons]; omega
  refine take_spec hd hl fun k S1 h0 h1 b1 d1 => ?_
  obtain ⟨v, e, hv, _⟩ := atI_some h0 h1
  exact o_ixL (b1.get hne hr) e (h v S1 hv b1 d1)
theorem pickT_spec {n : Nat} {S : DS} {d : Addr} {xs : List D} {Q : DK} (hd : Drw S d) (hn : xs ≠ []) (h : ∀ v S', v ∈ xs → But d S S' → Drw S' d → Q v S') : sem fs (n + 2) 17 [.ref d, .tup xs] S Q := by
  refine run__law_pick ?_
  unfold b_17
  repeat walk_at "d"
  have hl : 0 < (xs.length : Int) := by
    cases xs with
    | nil => exact absurd rfl hn
    | cons a b => simp only [List.length_cons]; omega
  refine take_spec hd hl fun k S1 h0 h1 b1 d1 => ?_
  obtain ⟨v, e, hv, _⟩ := atI_some h0 h1
  exact o_ixT e (h v S1 hv b1 d1)
theorem draws_spec {n : Nat} {S : DS} {ns : List Int} {m : Int} {Q : DK} (hm : 0 ≤ m ∧ m ≤ 1000000) (h : ∀ p S', Ext S S' → S p = none → Drw S' p → Q (.ref p) S') : sem fs (n + 1) 15 [.fl (ns.map D.int), .int m] S Q := by
  refine run__law_draws ?_
  unfold b_15
  repeat walk_at "d"
  refine i_newL fun p0 S0 n0 e0 x0 => ?_
  repeat walk_at "d"
  refine lc_inv (fun j acc S1 => (∃ cs : List Int, acc = cs.map D.int ∧ cs.length = j ∧ ∀ c ∈ cs, 0 ≤ c ∧ c < 2 ^ 7200) ∧ Ext S S1 ∧ S1 p0 = some (.lst (dcut (ns.map D.int) none (some 63)))) ⟨⟨[], rfl, rfl, fun c h => by cases h⟩, x0, e0⟩ (fun j acc S1 hj p => seq_ref p.2.2) (fun j x acc S1 nx hx hj p hnx => ?_) (fun acc S1 p => ?_)
  · obtain ⟨⟨cs, rfl, hl, hc⟩, x1, e1⟩ := p
    have hxm := List.mem_of_getElem? hx
    have hxi : ∃ v, x = D.int v := by
      unfold dcut at hxm
      have := List.mem_of_mem_drop (List.mem_of_mem_take hxm)
      obtain ⟨v, _, q⟩ := List.mem_map.mp this
      exact ⟨v, q.symm⟩
    obtain ⟨v, rfl⟩ := hxi
    have hlen : (dcut (ns.map D.int) none (some 63)).length ≤ 63 := by
      unfold dcut
      rw [List.length_take]
      refine Nat.le_trans (Nat.min_le_left _ _) (Nat.le_trans (Nat.sub_le _ _) ?_)
      exact Nat.min_le_left _ _
    repeat walk_at "d"
    refine o_shlI (by decide) ?_
    repeat walk_at "d"
    have hpos : (0 : Int) < 1 * 2 ^ 7200 := by rw [Int.one_mul]; exact Int.pow_pos (by decide)
    refine o_modI hpos ⟨by rw [List.length_map]; omega, hnx _ _ ⟨⟨cs ++ [v % (1 * 2 ^ 7200)], by rw [List.map_append]; rfl, by rw [List.length_append, hl]; rfl, fun c hc' => ?_⟩, x1, e1⟩⟩
    rcases List.mem_append.mp hc' with q | q
    · exact hc c q
    · rw [List.mem_singleton.mp q]
      exact ⟨Int.emod_nonneg _ (by omega), Int.lt_of_lt_of_le (Int.emod_lt_of_pos _ hpos) (Int.le_of_eq (Int.one_mul _))⟩
  · obtain ⟨⟨cs, rfl, hl, hc⟩, x1, e1⟩ := p
    have hlen : (dcut (ns.map D.int) none (some 63)).length ≤ 63 := by
      unfold dcut
      rw [List.length_take]
      refine Nat.le_trans (Nat.min_le_left _ _) (Nat.le_trans (Nat.sub_le _ _) ?_)
      exact Nat.min_le_left _ _
    refine i_newL fun p1 S2 n2 e2 x2 => ?_
    replace x2 := x1.trans x2
    have n1 := Ext.back x1 n2
    clear x1 e1 x0 e0 n0
    have fin : ∀ (cs : List Int) (S2 : DS), cs ≠ [] → cs.length ≤ 64 → (∀ c ∈ cs, 0 ≤ c ∧ c < 2 ^ 7200) → S2 p1 = some (.lst (cs.map D.int)) → Ext S S2 → (dSeq (dAsg (dCall bList (dCons (dVar 2) dNil)) (dgName 4))
  (dSeq (dAsg (dLst dNil) (dgName 5))
  (dSeq (dFor (dRng1 (dCons (dVar 1) dNil)) (dgName 6) (dSeq (dAsg (dOp oMod (dCall bInt (dCons (dVar 6) dNil)) (dCall bLen (dCons (dVar 2) dNil))) (dgName 7))
    (dIf (dAnd (dTb (dOp (oCmp .ge) (dOp oIx (dVar 2) (dVar 7)) (dOp oPow (dC (.int 10)) (dC (.int 18))))) (dTb (dOp (oCmp .gt) (dOp oIx (dVar 4) (dVar 7)) (dC (.int 0))))) (dSeq (dDrop (dBM okLst (mLst fAppend) (dVar 5) (dCons (dOp oMod (dCall bInt (dCons (dOp oIx (dVar 4) (dVar 7)) dNil)) (dC (.int 1000))) dNil)))
      (dAsg (dOp oFdv (dOp oIx (dVar 4) (dVar 7)) (dC (.int 1000))) (dgSub (dVar 4) (dVar 7) sIx))) (dSeq (dAsg (dOp oMod (dCall bInt (dCons (dOp oAdd (dOp oAdd (dOp oMul (dOp oIx (dVar 2) (dVar 7)) (dC (.int 48271))) (dOp oMul (dVar 6) (dC (.int 69621)))) (dC (.int 11))) dNil)) (dC (.int 2147483647))) (dgName 8))
      (dDrop (dBM okLst (mLst fAppend) (dVar 5) (dCons (dOp oMod (dCall bInt (dCons (dOp oAdd (dOp oAdd (dOp oMul (dVar 8) (dVar 8)) (dOp oMul (dC (.int 3)) (dVar 8))) (dVar 6)) dNil)) (dC (.int 1000003))) dNil)))))))
  (dSeq (dDrop (dBM okLst (mLst fReverse) (dVar 5) dNil))
  (dRet (dVar 5)))))) { nx := fun _ S' => Q .non S', rt := Q, bk := fun _ _ => False, ct := fun _ _ => False } [some (.fl (ns.map D.int)), some (.int m), some (.ref p1), none, none, none, none, none, none] S2 := by
      intro cs S2 hne hl hc e2 x2
      have hp1 : 0 < cs.length := List.length_pos_iff.mpr hne
      repeat walk_at "d"
      refine i_newL fun p2 S3 n3 e3 x3 => ?_
      repeat walk_at "d"
      refine i_newL fun p3 S4 n4 e4 x4 => ?_
      repeat walk_at "d"
      refine i_rng1V (by omega) (for_inv (fun j δ S5 => ∃ a b c, ∃ ls ds : List Int, δ = [some (.fl (ns.map D.int)), some (.int m), some (.ref p1), none, some (.ref p2), some (.ref p3), a, b, c] ∧ ls.length = cs.length ∧ ds.length = j ∧ S5 p1 = some (.lst (cs.map D.int)) ∧ S5 p2 = some (.lst (ls.map D.int)) ∧ S5 p3 = some (.lst (ds.map D.int)) ∧ Ext S S5) ?_ ?_ ?_ ?_)
      · refine ⟨none, none, none, cs, [], rfl, rfl, rfl, x4.get (x3.get e2), x4.get e3, e4, x2.trans (x3.trans x4)⟩
      · exact fun _ _ _ _ _ => True.intro
      · rintro j x δ S5 nx hx hj ⟨a, b, c, ls, ds, rfl, h1, h2, e1, e2', e3', x5⟩ hnx
        obtain ⟨rfl, hjm⟩ := rng_at hx
        rw [Int.zero_add]
        have n12 : p1 ≠ p2 := fun e => by rw [← e] at n3; rw [n3] at e2; cases e2
        have n13 : p1 ≠ p3 := fun e => by rw [← e] at n4; rw [x3.get e2] at n4; cases n4
        have n23 : p2 ≠ p3 := fun e => by rw [← e] at n4; rw [e3] at n4; cases n4
        have bk : ∀ (S6 : DS), But p3 S5 S6 → Ext S S6 := fun S6 b6 => x5.but b6 (Ext.back x2 (Ext.back x3 n4))
        repeat walk_at "d"
        refine o_modI (by rw [List.length_map]; omega) ?_
        rw [List.length_map]
        repeat walk_at "d"
        have g0 := Int.emod_nonneg (j : Int) (show ((cs.length : Nat) : Int) ≠ 0 by omega)
        have g1 := Int.emod_lt_of_pos (j : Int) (show 0 < ((cs.length : Nat) : Int) by omega)
        generalize hk : (j : Int) % (cs.length : Int) = k at g0 g1
        have t1 : ∃ v, L2.atI (cs.map D.int) k = some (.int v) ∧ 0 ≤ v ∧ v < 2 ^ 7200 := by
          obtain ⟨v, q1, q2, q3⟩ := atI_some (xs := cs.map D.int) g0 (by rw [List.length_map]; exact g1)
          obtain ⟨w, q4, q5⟩ := List.mem_map.mp q2
          subst q5
          exact ⟨w, q1, hc w q4⟩
        have t2 : ∃ v, L2.atI (ls.map D.int) k = some (.int v) := by
          obtain ⟨v, q1, q2, q3⟩ := atI_some (xs := ls.map D.int) g0 (by rw [List.length_map, h1]; exact g1)
          obtain ⟨w, q4, q5⟩ := List.mem_map.mp q2
          subst q5
          exact ⟨w, q1⟩
        obtain ⟨v, q1, v0, v1⟩ := t1
        obtain ⟨w, q2⟩ := t2
        refine o_ixL e1 q1 ?_
        repeat walk_at "d"
        refine o_powI (by decide) ?_
        repeat walk_at "d"
        have els : (dSeq (dAsg (dOp oMod (dCall bInt (dCons (dOp oAdd (dOp oAdd (dOp oMul (dOp oIx (dVar 2) (dVar 7)) (dC (.int 48271))) (dOp oMul (dVar 6) (dC (.int 69621)))) (dC (.int 11))) dNil)) (dC (.int 2147483647))) (dgName 8))
      (dDrop (dBM okLst (mLst fAppend) (dVar 5) (dCons (dOp oMod (dCall bInt (dCons (dOp oAdd (dOp oAdd (dOp oMul (dVar 8) (dVar 8)) (dOp oMul (dC (.int 3)) (dVar 8))) (dVar 6)) dNil)) (dC (.int 1000003))) dNil)))) ⟨nx, Q, fun δ S => dSeq (dDrop (dBM okLst (mLst fReverse) (dVar 5) dNil))
  (dRet (dVar 5)) ⟨fun _ S' => Q .non S', Q, fun _ _ => False, fun _ _ => False⟩ δ S, nx⟩ [some (.fl (ns.map D.int)), some (.int m), some (.ref p1), none, some (.ref p2), some (.ref p3), some (.int j), some (.int k), c] S5 := by
          repeat walk_at "d"
          refine o_ixL e1 q1 ?_
          repeat walk_at "d"
          have b7200 : (2 : Int) ^ 7200 = ((2 ^ 7200 : Nat) : Int) := by rw [Int.natCast_pow]; rfl
          have hv : v.natAbs < 2 ^ 9000 := Nat.lt_of_lt_of_le (show v.natAbs < 2 ^ 7200 by rw [b7200] at v1; omega) (Nat.pow_le_pow_right (by decide) (by decide))
          have sm : ∀ z : Int, 0 ≤ z → z < 2 ^ 40 → z.natAbs < 2 ^ 9000 := fun z z0 z1 => Nat.lt_of_lt_of_le (show z.natAbs < 2 ^ 40 by omega) (Nat.pow_le_pow_right (by decide) (by decide))
          refine o_mulI (lt_log hv (sm _ (by decide) (by decide))) ?_
          repeat walk_at "d"
          refine o_mulI (lt_log (sm _ (by omega) (by omega)) (sm _ (by decide) (by decide))) ?_
          repeat walk_at "d"
          refine o_modI (by decide) ?_
          repeat walk_at "d"
          generalize hz : (v * 48271 + (j : Int) * 69621 + 11) % 2147483647 = z
          have z0 : 0 ≤ z := by rw [← hz]; exact Int.emod_nonneg _ (by decide)
          have z1 : z < 2147483647 := by rw [← hz]; exact Int.emod_lt_of_pos _ (by decide)
          refine o_mulI (lt_log (sm _ (by omega) (by omega)) (sm _ (by omega) (by omega))) ?_
          repeat walk_at "d"
          refine o_mulI (lt_log (sm _ (by decide) (by decide)) (sm _ (by omega) (by omega))) ?_
          repeat walk_at "d"
          refine o_modI (by decide) ?_
          repeat walk_at "d"
          refine m_append e3' (by rw [List.length_append, List.length_map]; show ds.length + 1 ≤ _; omega) (i_putL fun S6 e6 b6 => ?_)
          refine hnx _ _ ⟨_, _, _, ls, ds ++ [_], rfl, h1, by rw [List.length_append, h2]; rfl, b6.get n13 e1, b6.get n23 e2', by rw [List.map_append]; exact e6, bk _ b6⟩
        refine ite_dec (fun c1 => ?_) (fun c1 => ?_)
        · repeat walk_at "d"
          refine o_ixL e2' q2 ?_
          repeat walk_at "d"
          refine ite_dec (fun c2 => ?_) (fun c2 => ?_)
          · repeat walk_at "d"
            refine o_ixL e2' q2 ?_
            repeat walk_at "d"
            refine o_modI (by decide) ?_
            repeat walk_at "d"
            refine m_append e3' (by rw [List.length_append, List.length_map]; show ds.length + 1 ≤ _; omega) (i_putL fun S6 e6 b6 => ?_)
            repeat walk_at "d"
            refine o_ixL (b6.get n23 e2') q2 ?_
            repeat walk_at "d"
            refine o_fdvI (by decide) ?_
            repeat walk_at "d"
            refine s_ix (m := k.toNat) (b6.get n23 e2') (ixN_at (by omega) (by rw [List.length_map]; omega)) (i_putL fun S7 e7 b7 => ?_)
            refine hnx _ _ ⟨_, _, _, ls.set k.toNat (w / 1000), ds ++ [_], rfl, by rw [List.length_set]; exact h1, by rw [List.length_append, h2]; rfl, b7.get n12 (b6.get n13 e1), by rw [List.map_set]; exact e7, b7.get n23.symm (by rw [List.map_append]; exact e6), (bk _ b6).but b7 (Ext.back x2 n3)⟩
          · exact els
        · exact els
      · rintro δ S5 ⟨a, b, c, ls, ds, rfl, h1, h2, e1, e2', e3', x5⟩
        rw [rng_len] at h2
        repeat walk_at "d"
        refine m_reverse e3' (by rw [List.length_map]; omega) (i_putL fun S6 e6 b6 => ?_)
        repeat walk_at "d"
        exact h p3 S6 (x5.but b6 (Ext.back x2 (Ext.back x3 n4))) (Ext.back x2 (Ext.back x3 n4)) ⟨ds.reverse, by rw [List.map_reverse]; exact e6, by rw [List.length_reverse]; omega⟩
    repeat walk_at "d"
    refine ite_dec (fun c => ?_) (fun c => ?_)
    · have hcs : cs = [] := by
        rw [List.length_map] at c
        exact List.eq_nil_of_length_eq_zero (by omega)
      subst hcs
      repeat walk_at "d"
      refine m_append e2 (by decide) (i_putL fun S3 e3 b3 => ?_)
      exact fin [0] S3 (by simp) (by decide) (fun c hc => by rw [List.mem_singleton.mp hc]; exact ⟨by decide, Int.pow_pos (by decide)⟩) e3 (x2.but b3 n1)
    · refine i_next ?_
      refine fin cs S2 (fun e => by subst e; exact c rfl) (by rw [hl]; omega) hc e2 x2
theorem same_spec {n : Nat} : ∀ {m : Nat} {d : D} {S : DS} {Q : DK}, Pl m d → (∀ S', Ext S S' → Q (.bl true) S') → sem fs (n + m) 18 [d, d] S Q := by
  intro m
  induction m with
  | zero => intro d S Q h; exact h.elim
  | succ m ih =>
    intro d S Q h hq
    refine run__law_same ?_
    unfold b_18
    cases d with
    | tup xs =>
      obtain ⟨hl, hx⟩ := h
      repeat walk_at "d"
      refine c_isi2 (s := "tuple") rfl rfl rfl ?_
      repeat walk_at "d"
      refine ite_b (fun _ => ?_) (fun e => absurd e (by decide))
      repeat walk_at "d"
      refine c_isi (s := "tuple") rfl rfl ?_
      repeat walk_at "d"
      refine c_isi (s := "tuple") rfl rfl ?_
      repeat walk_at "d"
      refine ite_b (fun e => absurd e Bool.false_ne_true) (fun _ => ?_)
      repeat walk_at "d"
      refine c_isi (s := "tuple") rfl rfl ?_
      repeat walk_at "d"
      refine c_isi (s := "tuple") rfl rfl ?_
      repeat walk_at "d"
      refine ite_b (fun e => absurd e Bool.false_ne_true) (fun _ => ?_)
      repeat walk_at "d"
      refine ite_ndec (fun e => absurd rfl e) (fun _ => ?_)
      repeat walk_at "d"
      refine i_rng1V (by omega) (lc_inv (fun j acc S1 => acc = List.replicate j (D.bl true) ∧ Ext S S1) ⟨rfl, Ext.refl S⟩ (fun _ _ _ _ _ => True.intro) ?_ ?_)
      · rintro j x acc S1 nx hx' hj ⟨rfl, e1⟩ hnx
        obtain ⟨rfl, hjm⟩ := rng_at hx'
        rw [Int.toNat_natCast] at hjm
        rw [Int.zero_add]
        obtain ⟨v, q1, q2, _⟩ := atI_some (xs := xs) (k := (j : Int)) (by omega) (by omega)
        repeat walk_at "d"
        refine o_ixT q1 ?_
        repeat walk_at "d"
        refine o_ixT q1 ?_
        repeat walk_at "d"
        refine ih (hx v q2) fun S2 e2 => ⟨by rw [List.length_replicate]; omega, hnx _ _ ⟨by rw [List.replicate_succ'], e1.trans e2⟩⟩
      · rintro acc S1 ⟨rfl, e1⟩
        refine i_newL fun p S2 n2 e2 x2 => ?_
        have hp : D.plainL ((List.replicate (rngL 0 ((xs.length : Nat) : Int).toNat).length (D.bl true)).map (D.rd S2 3)) = true := by
          generalize (rngL 0 ((xs.length : Nat) : Int).toNat).length = z
          induction z with
          | zero => rfl
          | succ z ihz => rw [List.replicate_succ, List.map_cons, D.plainL, ihz]; rfl
        have hv : (((List.replicate (rngL 0 ((xs.length : Nat) : Int).toNat).length (D.bl true)).map (D.rd S2 3)).any fun e => D.eqv e ((D.bl false).rd S2 3)) = false := by
          rw [List.any_eq_false]
          intro e he
          obtain ⟨w, hw, rfl⟩ := List.mem_map.mp he
          rw [(List.mem_replicate.mp hw).2]
          rw [D.rd_plain _ 3 plain_bl, D.rd_plain _ 3 plain_bl, eqv_bl]
          decide
        have hi : oIn true (.bl false) (.ref p) S2 Q := by
          show (match seqOf S2 (.ref p) with
            | some xs => (((D.bl false).rd S2 3).plain = true ∧ D.plainL (xs.map (D.rd S2 3)) = true ∧ ((D.bl false).rd S2 3).dep ≤ 50) ∧ Q (.bl (true ^^ (xs.map (D.rd S2 3)).any fun e => D.eqv e ((D.bl false).rd S2 3))) S2
            | none => False)
          rw [seq_ref e2]
          refine ⟨⟨by rw [D.rd_plain _ 3 plain_bl]; exact plain_bl, hp, by rw [D.rd_plain _ 3 plain_bl]; exact dep_bl⟩, ?_⟩
          rw [hv]
          exact hq S2 (e1.trans x2)
        exact hi
    | non =>
      repeat walk_at "d"
      refine c_isi2 (s := "NoneType") rfl rfl rfl ?_
      repeat walk_at "d"
      refine ite_b (fun e => absurd e Bool.false_ne_true) (fun _ => ?_)
      repeat walk_at "d"
      refine c_isi (s := "NoneType") rfl rfl ?_
      repeat walk_at "d"
      refine c_isi (s := "NoneType") rfl rfl ?_
      repeat walk_at "d"
      refine ite_b (fun e => absurd e Bool.false_ne_true) (fun _ => ?_)
      repeat walk_at "d"
      refine c_isi (s := "NoneType") rfl rfl ?_
      repeat walk_at "d"
      refine c_isi (s := "NoneType") rfl rfl ?_
      repeat walk_at "d"
      refine ite_b (fun e => absurd e Bool.false_ne_true) (fun _ => ?_)
      repeat walk_at "d"
      refine c_isi (s := "NoneType") rfl rfl ?_
      repeat walk_at "d"
      refine c_isi (s := "NoneType") rfl rfl ?_
      repeat walk_at "d"
      refine ite_b (fun e => absurd e Bool.false_ne_true) (fun _ => ?_)
      repeat walk_at "d"
      refine ite_b (fun e => absurd e Bool.false_ne_true) (fun _ => ?_)
      repeat walk_at "d"
      exact o_eqP plain_non plain_non (.inl dep_non) (hq _ (Ext.refl _))
    | bl b =>
      repeat walk_at "d"
      refine c_isi2 (s := "bool") rfl rfl rfl ?_
      repeat walk_at "d"
      refine ite_b (fun e => absurd e Bool.false_ne_true) (fun _ => ?_)
      repeat walk_at "d"
      refine c_isi (s := "bool") rfl rfl ?_
      repeat walk_at "d"
      refine c_isi (s := "bool") rfl rfl ?_
      repeat walk_at "d"
      refine ite_b (fun e => absurd e Bool.false_ne_true) (fun _ => ?_)
      repeat walk_at "d"
      refine c_isi (s := "bool") rfl rfl ?_
      repeat walk_at "d"
      refine c_isi (s := "bool") rfl rfl ?_
      repeat walk_at "d"
      refine ite_b (fun e => absurd e Bool.false_ne_true) (fun _ => ?_)
      repeat walk_at "d"
      refine c_isi (s := "bool") rfl rfl ?_
      repeat walk_at "d"
      refine c_isi (s := "bool") rfl rfl ?_
      repeat walk_at "d"
      refine ite_b (fun e => absurd e Bool.false_ne_true) (fun _ => ?_)
      repeat walk_at "d"
      refine ite_b (fun e => absurd e Bool.false_ne_true) (fun _ => ?_)
      repeat walk_at "d"
      rw [beq_self_eq_true]
      exact hq _ (Ext.refl _)
    | int i =>
      repeat walk_at "d"
      refine c_isi2 (s := "int") rfl rfl rfl ?_
      repeat walk_at "d"
      refine ite_b (fun e => absurd e Bool.false_ne_true) (fun _ => ?_)
      repeat walk_at "d"
      refine c_isi (s := "int") rfl rfl ?_
      repeat walk_at "d"
      refine c_isi (s := "int") rfl rfl ?_
      repeat walk_at "d"
      refine ite_b (fun e => absurd e Bool.false_ne_true) (fun _ => ?_)
      repeat walk_at "d"
      refine c_isi (s := "int") rfl rfl ?_
      repeat walk_at "d"
      refine c_isi (s := "int") rfl rfl ?_
      repeat walk_at "d"
      refine ite_b (fun e => absurd e Bool.false_ne_true) (fun _ => ?_)
      repeat walk_at "d"
      refine c_isi (s := "int") rfl rfl ?_
      repeat walk_at "d"
      refine c_isi (s := "int") rfl rfl ?_
      repeat walk_at "d"
      refine ite_b (fun e => absurd e Bool.false_ne_true) (fun _ => ?_)
      repeat walk_at "d"
      refine ite_b (fun e => absurd e Bool.false_ne_true) (fun _ => ?_)
      repeat walk_at "d"
      rw [decide_eq_true rfl]
      exact hq _ (Ext.refl _)
    | str z =>
      repeat walk_at "d"
      refine c_isi2 (s := "str") rfl rfl rfl ?_
      repeat walk_at "d"
      refine ite_b (fun e => absurd e Bool.false_ne_true) (fun _ => ?_)
      repeat walk_at "d"
      refine c_isi (s := "str") rfl rfl ?_
      repeat walk_at "d"
      refine c_isi (s := "str") rfl rfl ?_
      repeat walk_at "d"
      refine ite_b (fun e => absurd e Bool.false_ne_true) (fun _ => ?_)
      repeat walk_at "d"
      refine c_isi (s := "str") rfl rfl ?_
      repeat walk_at "d"
      refine c_isi (s := "str") rfl rfl ?_
      repeat walk_at "d"
      refine ite_b (fun e => absurd e Bool.false_ne_true) (fun _ => ?_)
      repeat walk_at "d"
      refine c_isi (s := "str") rfl rfl ?_
      repeat walk_at "d"
      refine c_isi (s := "str") rfl rfl ?_
      repeat walk_at "d"
      refine ite_b (fun e => absurd e Bool.false_ne_true) (fun _ => ?_)
      repeat walk_at "d"
      refine ite_b (fun e => absurd e Bool.false_ne_true) (fun _ => ?_)
      repeat walk_at "d"
      rw [decide_eq_true rfl]
      exact hq _ (Ext.refl _)
    | _ => exact h.elim
theorem tyn_ref {S : DS} {p : Addr} {xs : List D} (e : S p = some (.lst xs)) : tyName S (.ref p) = some "list" := by
  show (match S p with
    | some (.lst _) => some "list"
    | _ => none) = _
  rw [e]
theorem sameL_spec {n m : Nat} {p q : Addr} {xs : List D} {S : DS} {Q : DK} (ep : S p = some (.lst xs)) (eq : S q = some (.lst xs)) (hl : xs.length ≤ 16777216) (hx : ∀ x ∈ xs, Pl m x) (hq : ∀ S', Ext S S' → Q (.bl true) S') : sem fs (n + m + 1) 18 [.ref p, .ref q] S Q := by
  refine run__law_same ?_
  unfold b_18
  repeat walk_at "d"
  refine c_isi2 (tyn_ref eq) rfl rfl ?_
  repeat walk_at "d"
  refine ite_b (fun _ => ?_) (fun e => absurd e (by decide))
  repeat walk_at "d"
  refine c_isi (tyn_ref ep) rfl ?_
  repeat walk_at "d"
  refine c_isi (tyn_ref eq) rfl ?_
  repeat walk_at "d"
  refine ite_b (fun e => absurd e (by decide)) (fun _ => ?_)
  repeat walk_at "d"
  refine c_isi (tyn_ref ep) rfl ?_
  repeat walk_at "d"
  refine c_isi (tyn_ref eq) rfl ?_
  repeat walk_at "d"
  refine ite_b (fun e => absurd e (by decide)) (fun _ => ?_)
  repeat walk_at "d"
  refine ite_ndec (fun e => absurd rfl e) (fun _ => ?_)
  repeat walk_at "d"
  refine i_rng1V (by omega) (lc_inv (fun j acc S1 => acc = List.replicate j (D.bl true) ∧ Ext S S1) ⟨rfl, Ext.refl S⟩ (fun _ _ _ _ _ => True.intro) ?_ ?_)
  · rintro j x acc S1 nx hx' hj ⟨rfl, e1⟩ hnx
    obtain ⟨rfl, hjm⟩ := rng_at hx'
    rw [Int.toNat_natCast] at hjm
    rw [Int.zero_add]
    obtain ⟨v, q1, q2, _⟩ := atI_some (xs := xs) (k := (j : Int)) (by omega) (by omega)
    repeat walk_at "d"
    refine o_ixL (e1.get ep) q1 ?_
    repeat walk_at "d"
    refine o_ixL (e1.get eq) q1 ?_
    repeat walk_at "d"
    refine same_spec (hx v q2) fun S2 e2 => ⟨by rw [List.length_replicate]; omega, hnx _ _ ⟨by rw [List.replicate_succ'], e1.trans e2⟩⟩
  · rintro acc S1 ⟨rfl, e1⟩
    refine i_newL fun r S2 n2 e2 x2 => ?_
    have hp : D.plainL ((List.replicate (rngL 0 ((xs.length : Nat) : Int).toNat).length (D.bl true)).map (D.rd S2 3)) = true := by
      generalize (rngL 0 ((xs.length : Nat) : Int).toNat).length = z
      induction z with
      | zero => rfl
      | succ z ihz => rw [List.replicate_succ, List.map_cons, D.plainL, ihz]; rfl
    have hv : (((List.replicate (rngL 0 ((xs.length : Nat) : Int).toNat).length (D.bl true)).map (D.rd S2 3)).any fun e => D.eqv e ((D.bl false).rd S2 3)) = false := by
      rw [List.any_eq_false]
      intro e he
      obtain ⟨w, hw, rfl⟩ := List.mem_map.mp he
      rw [(List.mem_replicate.mp hw).2]
      rw [D.rd_plain _ 3 plain_bl, D.rd_plain _ 3 plain_bl, eqv_bl]
      decide
    have hi : oIn true (.bl false) (.ref r) S2 Q := by
      show (match seqOf S2 (.ref r) with
        | some xs => (((D.bl false).rd S2 3).plain = true ∧ D.plainL (xs.map (D.rd S2 3)) = true ∧ ((D.bl false).rd S2 3).dep ≤ 50) ∧ Q (.bl (true ^^ (xs.map (D.rd S2 3)).any fun e => D.eqv e ((D.bl false).rd S2 3))) S2
        | none => False)
      rw [seq_ref e2]
      refine ⟨⟨by rw [D.rd_plain _ 3 plain_bl]; exact plain_bl, hp, by rw [D.rd_plain _ 3 plain_bl]; exact dep_bl⟩, ?_⟩
      rw [hv]
      exact hq S2 (e1.trans x2)
    exact hi
theorem shuffled_spec {n : Nat} {S : DS} {d r : Addr} {xs : List D} {Q : DK} (hd : Drw S d) (hr : S r = some (.lst xs)) (hn : xs.length ≤ 100000) (h : ∀ p ys S', ys.Perm xs → S p = none → S' p = some (.lst ys) → p ≠ d → But d S S' → Drw S' d → Q (.ref p) S') : sem fs (n + 2) 19 [.ref d, .ref r] S Q := by
  refine run__law_shuffled ?_
  unfold b_19
  repeat walk_at "d"
  refine i_newL fun p1 S1 n1 e1 x1 => ?_
  repeat walk_at "d"
  refine i_newL fun p2 S2 n2 e2 x2 => ?_
  have d2 := (hd.ext x1).ext x2
  have n12 : p1 ≠ p2 := fun e => by rw [← e] at n2; rw [n2] at e1; cases e1
  have m1 := hd.ne' n1
  have m2 := (hd.ext x1).ne' n2
  repeat walk_at "d"
  refine i_rng1V (by omega) (for_inv (fun j δ S3 => ∃ k, ∃ ls ds : List D, δ = [some (.ref d), some (.ref r), some (.ref p1), some (.ref p2), k] ∧ ls.length + j = xs.length ∧ (ds ++ ls).Perm xs ∧ S3 p1 = some (.lst ls) ∧ S3 p2 = some (.lst ds) ∧ But d S S3 ∧ Drw S3 d) ⟨none, xs, [], rfl, rfl, List.Perm.refl _, x2.get e1, e2, (x1.trans x2).toBut, d2⟩ (fun _ _ _ _ _ => True.intro) ?_ ?_)
  · rintro j x δ S3 nx hx hj ⟨k, ls, ds, rfl, h1, h2, g1, g2, b3, d3⟩ hnx
    obtain ⟨rfl, hjm⟩ := rng_at hx
    rw [Int.toNat_natCast] at hjm
    have hlen := h2.length_eq
    rw [List.length_append] at hlen
    repeat walk_at "d"
    refine take_spec d3 (by omega) fun v S4 v0 v1 b4 d4 => ?_
    repeat walk_at "d"
    have g1' := b4.get m1 g1
    have g2' := b4.get m2 g2
    repeat walk_at "d"
    have hv : v.toNat < ls.length := by omega
    refine m_popAt (m := v.toNat) g1' (ixN_at (by omega) hv) (List.getElem?_eq_getElem hv) (by omega) (i_putL fun S5 e5 b5 => ?_)
    repeat walk_at "d"
    refine m_append (b5.get n12.symm g2') (by rw [List.length_append]; show ds.length + 1 ≤ _; omega) (i_putL fun S6 e6 b6 => ?_)
    refine hnx _ _ ⟨_, ls.eraseIdx v.toNat, ds ++ [ls[v.toNat]], rfl, by rw [List.length_eraseIdx_of_lt hv]; omega, ?_, b6.get n12 e5, e6, ((b3.trans b4).but b5 n1).but b6 (Ext.back x1 n2), (d4.but b5 m1.symm).but b6 m2.symm⟩
    refine List.Perm.trans ?_ h2
    rw [List.append_assoc]
    refine List.Perm.append_left ds ?_
    show (ls[v.toNat] :: ls.eraseIdx v.toNat).Perm ls
    conv => rhs; rw [← List.take_append_drop v.toNat ls, List.drop_eq_getElem_cons hv]
    rw [List.eraseIdx_eq_take_drop_succ]
    exact List.perm_middle.symm
  · rintro δ S3 ⟨k, ls, ds, rfl, h1, h2, g1, g2, b3, d3⟩
    rw [rng_len] at h1
    rw [Int.toNat_natCast] at h1
    have : ls = [] := List.eq_nil_of_length_eq_zero (by omega)
    subst this
    rw [List.append_nil] at h2
    repeat walk_at "d"
    exact h p2 ds S3 h2 (Ext.back x1 n2) g2 m2 b3 d3
theorem letters {z : Str} {k : Int} (hz : z.length = 26) (h0 : 0 ≤ k) (h1 : k < 26) : ∃ c, L2.atI z.cps.toList k = some c := by
  obtain ⟨v, q, _⟩ := atI_some (xs := z.cps.toList) h0 (by rw [Array.length_toList]; show k < ((z.length : Nat) : Int); omega)
  exact ⟨v, q⟩
theorem number_spec {n : Nat} {S : DS} {d : Addr} {Q : DK} (hd : Drw S d) (h : ∀ v S', But d S S' → Drw S' d → -(10 ^ 50) < v → v < 10 ^ 50 → Q (.int v) S') : sem fs (n + 3) 23 [.ref d] S Q := by
  refine run__law_number ?_
  unfold b_23
  repeat walk_at "d"
  refine take_spec hd (by decide) fun k S1 h0 h1 b1 d1 => ?_
  repeat walk_at "d"
  refine ite_dec (fun c => ?_) (fun c => ?_)
  · repeat walk_at "d"
    refine o_powI (by decide) ?_
    repeat walk_at "d"
    refine o_powI (by decide) ?_
    repeat walk_at "d"
    refine o_powI (by decide) ?_
    repeat walk_at "d"
    refine i_newL fun p S2 n2 e2 x2 => ?_
    repeat walk_at "d"
    refine pick_spec (d1.ext x2) e2 (by simp) (d1.ne' n2) fun v S3 hv b3 d3 => ?_
    simp only [List.mem_cons, List.not_mem_nil, or_false] at hv
    rcases hv with rfl | rfl | rfl <;> exact h _ S3 ((b1.ext x2).trans b3) d3 (by decide) (by decide)
  · repeat walk_at "d"
    refine take_spec d1 (by decide) fun l S2 l0 l1 b2 d2 => ?_
    repeat walk_at "d"
    exact h _ S2 (b1.trans b2) d2 (by omega) (by omega)
inductive Deed where
  | start (t : Nat) | wait (p : Int) | keep (p n : Int) (ps : List Int) | race (p : Int) (ps : List Int)
def intsD (ps : List Int) : D := .tup (ps.map D.int)
def Deed.d : Deed → D
  | .start t => .tup [.str "start", .int (t : Int)]
  | .wait p => .tup [.str "wait", .int p]
  | .keep p n ps => .tup [.str "keep", .int p, .int n, intsD ps]
  | .race p ps => .tup [.str "race", .int p, intsD ps]
structure Prog where
  many : Nat
  rows : List (List Deed)
def rowD (r : List Deed) : D := .tup (r.map Deed.d)
def Prog.d (P : Prog) : D := .tup [.int (P.many : Int), .tup (P.rows.map rowD)]
def Deed.ok (n : Nat) : Deed → Prop
  | .start t => t < n
  | .wait _ => True
  | .keep _ _ ps => ps.length ≤ 1000
  | .race _ ps => ps.length ≤ 1000
structure Prog.ok (P : Prog) : Prop where
  many : P.many ≤ 1000
  n0 : 1 ≤ P.rows.length
  n1 : P.rows.length ≤ 1000
  row : ∀ r ∈ P.rows, r.length ≤ 1000
  deed : ∀ r ∈ P.rows, ∀ e ∈ r, e.ok P.rows.length
def optD : Option Nat → D
  | none => .non
  | some c => .int (c : Int)
def optI : Option Int → D
  | none => .non
  | some c => .int c
abbrev Kept := List (Int × Int)
def pairD (k : Int × Int) : D := .tup [.int k.1, .int k.2]
def keptD (ks : Kept) : D := .tup (ks.map pairD)
structure Stt where
  cs : List (Option Nat)
  kept : Kept
def Stt.d (s : Stt) : D := .tup [.tup (s.cs.map optD), keptD s.kept]
structure Stt.ok (P : Prog) (s : Stt) : Prop where
  len : s.cs.length = P.rows.length
  le : ∀ (t c : Nat) (r : List Deed), s.cs[t]? = some (some c) → P.rows[t]? = some r → c ≤ r.length
  kl : s.kept.length ≤ (s.cs.map fun o => o.getD 0).sum
def worth : Kept → Int → Option Int
  | [], _ => none
  | k :: ks, p => if k.1 = p then some k.2 else worth ks p
def deedAt (P : Prog) (t c : Nat) : Option Deed := (P.rows[t]?).bind fun r => r[c]?
def next (P : Prog) (s : Stt) (t : Nat) : Option Deed := match s.cs[t]? with
  | some (some c) => deedAt P t c
  | _ => none
def has (ks : Kept) (p : Int) : Bool := (worth ks p).isSome
def can (ks : Kept) : Deed → Bool
  | .start _ => true
  | .wait p => has ks p
  | .keep _ _ ps => ps.all (has ks)
  | .race _ ps => ps.any (has ks)
def canT (P : Prog) (s : Stt) (t : Nat) : Bool := match next P s t with
  | some e => can s.kept e
  | none => false
def ready (P : Prog) (s : Stt) : List Nat := (List.range P.rows.length).filter (canT P s)
def vals (ks : Kept) (ps : List Int) : List Int := ps.map fun p => (worth ks p).getD 0
def firstIn (ks : Kept) (ps : List Int) : Int := ((ks.find? fun k => decide (k.1 ∈ ps)).map (·.2)).getD 0
def keptBy (ks : Kept) : Deed → Kept
  | .keep p n ps => if has ks p = true then ks else ks ++ [(p, n + (vals ks ps).sum)]
  | .race p ps => if has ks p = true then ks else ks ++ [(p, firstIn ks ps)]
  | _ => ks
def startBy (cs cs0 : List (Option Nat)) : Deed → List (Option Nat)
  | .start t => if cs0[t]? = some none then cs.set t (some 0) else cs
  | _ => cs
def step (P : Prog) (s : Stt) (t : Nat) : Stt := match s.cs[t]?, next P s t with
  | some (some c), some e => ⟨startBy (s.cs.set t (some (c + 1))) s.cs e, keptBy s.kept e⟩
  | _, _ => s
def start (P : Prog) : Stt := ⟨(List.range P.rows.length).map fun t => if t = 0 then some 0 else none, []⟩
theorem optD_non {o : Option Nat} : isNon (optD o) = o.isNone := by cases o <;> rfl
theorem optI_non {o : Option Int} : isNon (optI o) = o.isNone := by cases o <;> rfl
theorem worth_spec {n : Nat} {ks : Kept} {p : Int} {S : DS} {Q : DK} (h : Q (optI (worth ks p)) S) : sem fs (n + 1) 1 [keptD ks, .int p] S Q := by
  refine run_value_of ?_
  unfold b_1 keptD
  repeat walk_at "d"
  refine for_inv (fun j δ S1 => ∃ o2 o3, δ = [some (.tup (ks.map pairD)), some (.int p), o2, o3] ∧ S1 = S ∧ worth ks p = worth (ks.drop j) p) ⟨none, none, rfl, rfl, rfl⟩ (fun _ _ _ _ _ => rfl) ?_ ?_
  · rintro j x δ S1 nx hx hj ⟨o2, o3, rfl, rfl, hw⟩ hnx
    obtain ⟨k, hk, rfl⟩ := map_at hx
    have hd : ks.drop j = k :: ks.drop (j + 1) := by
      rw [List.length_map] at hj
      rw [List.drop_eq_getElem_cons hj]
      rw [List.getElem?_eq_getElem hj] at hk
      rw [Option.some.inj hk]
    unfold pairD
    repeat walk_at "d"
    rw [hd, worth] at hw
    refine ite_dec (fun c => ?_) (fun c => ?_)
    · repeat walk_at "d"
      rw [if_pos c] at hw
      rw [hw] at h
      exact h
    · repeat walk_at "d"
      rw [if_neg c] at hw
      exact hnx _ _ ⟨_, _, rfl, rfl, hw⟩
  · rintro δ S1 ⟨o2, o3, rfl, rfl, hw⟩
    rw [List.length_map, List.drop_length] at hw
    rw [hw] at h
    repeat walk_at "d"
    exact h
theorem lworth_spec {n : Nat} {ks : Kept} {p : Int} {S : DS} {Q : DK} (h : Q (optI (worth ks p)) S) : sem fs (n + 1) 25 [keptD ks, .int p] S Q := by
  refine run__law_worth ?_
  unfold b_25 keptD
  repeat walk_at "d"
  refine for_inv (fun j δ S1 => ∃ o2, δ = [some (.tup (ks.map pairD)), some (.int p), o2] ∧ S1 = S ∧ worth ks p = worth (ks.drop j) p) ⟨none, rfl, rfl, rfl⟩ (fun _ _ _ _ _ => rfl) ?_ ?_
  · rintro j x δ S1 nx hx hj ⟨o2, rfl, rfl, hw⟩ hnx
    obtain ⟨k, hk, rfl⟩ := map_at hx
    have hd : ks.drop j = k :: ks.drop (j + 1) := by
      rw [List.length_map] at hj
      rw [List.drop_eq_getElem_cons hj]
      rw [List.getElem?_eq_getElem hj] at hk
      rw [Option.some.inj hk]
    repeat walk_at "d"
    refine o_ixT (v := .int k.1) rfl ?_
    repeat walk_at "d"
    rw [hd, worth] at hw
    refine ite_dec (fun c => ?_) (fun c => ?_)
    · repeat walk_at "d"
      refine o_ixT (v := .int k.2) rfl ?_
      rw [if_pos c] at hw
      rw [hw] at h
      exact h
    · repeat walk_at "d"
      rw [if_neg c] at hw
      exact hnx _ _ ⟨_, rfl, rfl, hw⟩
  · rintro δ S1 ⟨o2, rfl, rfl, hw⟩
    rw [List.length_map, List.drop_length] at hw
    rw [hw] at h
    repeat walk_at "d"
    exact h
theorem start_spec {n : Nat} {P : Prog} {S : DS} {Q : DK} (hP : P.ok) (h : ∀ S', Ext S S' → Q (start P).d S') : sem fs (n + 1) 0 [P.d] S Q := by
  refine run_first_state ?_
  unfold b_0
  have h1 := hP.n1
  repeat walk_at "d"
  refine o_ixT (v := .tup (P.rows.map rowD)) rfl ?_
  repeat walk_at "d"
  rw [List.length_map]
  refine i_rng1V (by omega) ?_
  rw [Int.toNat_natCast, rng_map]
  refine lc_map (fun t => optD (if t = 0 then some 0 else none)) (Ext S) (by rw [List.length_range]; omega) (Ext.refl S) (fun _ _ => True.intro) ?_ ?_
  · intro t ht acc S1 nx hacc hJ hnx
    repeat walk_at "d"
    refine ite_dec (fun c => ?_) (fun c => ?_)
    · repeat walk_at "d"
      refine ⟨hacc, ?_⟩
      have := hnx S1 hJ
      rwa [if_pos (show t = 0 by omega)] at this
    · repeat walk_at "d"
      refine ⟨hacc, ?_⟩
      have := hnx S1 hJ
      rwa [if_neg (show ¬ t = 0 by omega)] at this
  · intro S1 hJ
    refine i_newL fun q S2 n2 e2 x2 => ?_
    repeat walk_at "d"
    have := h S2 (hJ.trans x2)
    unfold start Stt.d at this
    rw [List.map_map] at this
    exact this
theorem lstart_spec {n : Nat} {P : Prog} {S : DS} {Q : DK} (hP : P.ok) (h : ∀ S', Ext S S' → Q (start P).d S') : sem fs (n + 1) 24 [P.d] S Q := by
  refine run__law_start_state ?_
  unfold b_24
  have h1 := hP.n1
  repeat walk_at "d"
  refine o_ixT (v := .tup (P.rows.map rowD)) rfl ?_
  repeat walk_at "d"
  rw [List.length_map]
  refine i_rng1V (by omega) ?_
  rw [Int.toNat_natCast, rng_map]
  refine lc_map (fun t => optD (if t = 0 then some 0 else none)) (Ext S) (by rw [List.length_range]; omega) (Ext.refl S) (fun _ _ => True.intro) ?_ ?_
  · intro t ht acc S1 nx hacc hJ hnx
    repeat walk_at "d"
    refine i_newL fun q S2 n2 e2 x2 => ?_
    repeat walk_at "d"
    have := hnx S2 (hJ.trans x2)
    by_cases c : t = 0
    · subst c
      exact o_ixL (v := .int 0) e2 rfl ⟨hacc, this⟩
    · rw [if_neg c] at this
      rw [decide_eq_false (by omega)]
      exact o_ixL (v := .non) e2 rfl ⟨hacc, this⟩
  · intro S1 hJ
    refine i_newL fun q S2 n2 e2 x2 => ?_
    repeat walk_at "d"
    have := h S2 (hJ.trans x2)
    unfold start Stt.d at this
    rw [List.map_map] at this
    exact this
theorem start_ok {P : Prog} (hP : P.ok) : (start P).ok P := by
  refine ⟨by unfold start; rw [List.length_map, List.length_range], fun t c r hc hr => ?_, by unfold start; exact Nat.zero_le _⟩
  unfold start at hc
  dsimp only at hc
  rw [List.getElem?_map] at hc
  cases e : (List.range P.rows.length)[t]? with
  | none => rw [e] at hc; cases hc
  | some z =>
    rw [e] at hc
    have this : (if z = 0 then some 0 else none) = some c := Option.some.inj hc
    split at this
    · have := Option.some.inj this; omega
    · cases this
theorem sum_le : ∀ (cs : List (Option Nat)) (rows : List (List Deed)), cs.length = rows.length → (∀ (t c : Nat) (r : List Deed), cs[t]? = some (some c) → rows[t]? = some r → c ≤ r.length) → (∀ r ∈ rows, r.length ≤ 1000) → (cs.map fun o => o.getD 0).sum ≤ 1000 * rows.length
  | [], rows, _, _, _ => Nat.zero_le _
  | o :: cs, [], h, _, _ => by cases h
  | o :: cs, r :: rows, h, h1, h2 => by
    have ih := sum_le cs rows (Nat.succ.inj h) (fun t c r' hc hr => h1 (t + 1) c r' hc hr) fun r' hr => h2 r' (List.mem_cons_of_mem _ hr)
    have h0 : o.getD 0 ≤ 1000 := by
      cases o with
      | none => exact Nat.zero_le _
      | some c => exact Nat.le_trans (h1 0 c r rfl rfl) (h2 r (List.mem_cons_self ..))
    rw [List.map_cons, List.sum_cons, List.length_cons]
    omega
theorem Stt.ok.kl6 {P : Prog} {s : Stt} (h : s.ok P) (hP : P.ok) : s.kept.length ≤ 1000000 := by
  have := sum_le s.cs P.rows h.len h.le hP.row
  have := hP.n1
  have := h.kl
  omega
theorem sum_set : ∀ (cs : List (Option Nat)) (t : Nat) (o o' : Option Nat), cs[t]? = some o → ((cs.set t o').map fun o => o.getD 0).sum + o.getD 0 = (cs.map fun o => o.getD 0).sum + o'.getD 0
  | [], t, o, o', h => by simp at h
  | x :: cs, 0, o, o', h => by
    obtain rfl := Option.some.inj h
    rw [List.set_cons_zero, List.map_cons, List.map_cons, List.sum_cons, List.sum_cons]
    omega
  | x :: cs, t + 1, o, o', h => by
    have := sum_set cs t o o' h
    rw [List.set_cons_succ, List.map_cons, List.map_cons, List.sum_cons, List.sum_cons]
    omega
theorem cs_at {s : Stt} {t : Nat} {o : Option Nat} (h : s.cs[t]? = some o) : L2.atI (s.cs.map optD) (t : Int) = some (optD o) := lst_map_at rfl h
theorem row_at {P : Prog} {t : Nat} {r : List Deed} (h : P.rows[t]? = some r) : L2.atI (P.rows.map rowD) (t : Int) = some (rowD r) := lst_map_at rfl h
theorem deed_at {r : List Deed} {c : Nat} {e : Deed} (h : r[c]? = some e) : L2.atI (r.map Deed.d) (c : Int) = some e.d := lst_map_at rfl h
/-- what stands at a task -/
theorem at_task {P : Prog} {s : Stt} (hs : s.ok P) {t : Nat} (ht : t < P.rows.length) : ∃ o r, s.cs[t]? = some o ∧ P.rows[t]? = some r ∧ ∀ c, o = some c → c ≤ r.length := by
  refine ⟨s.cs[t]'(by rw [hs.len]; exact ht), P.rows[t], List.getElem?_eq_getElem _, List.getElem?_eq_getElem _, fun c hc => hs.le t c _ ?_ (List.getElem?_eq_getElem ht)⟩
  rw [List.getElem?_eq_getElem (by rw [hs.len]; exact ht), hc]
def deedD : Option Deed → D
  | none => .non
  | some e => e.d
theorem next_of {P : Prog} {s : Stt} {t : Nat} {o : Option Nat} {r : List Deed} (h1 : s.cs[t]? = some o) (h2 : P.rows[t]? = some r) : next P s t = o.bind fun c => r[c]? := by
  unfold next deedAt
  rw [h1, h2]
  cases o <;> rfl
theorem next_spec {n : Nat} {P : Prog} {s : Stt} {t : Nat} {S : DS} {Q : DK} (hs : s.ok P) (ht : t < P.rows.length) (h : Q (deedD (next P s t)) S) : sem fs (n + 1) 2 [P.d, s.d, .int (t : Int)] S Q := by
  refine run_next_deed ?_
  unfold b_2
  obtain ⟨o, r, h1, h2, h3⟩ := at_task hs ht
  rw [next_of h1 h2] at h
  repeat walk_at "d"
  refine o_ixT (v := .tup (s.cs.map optD)) rfl ?_
  repeat walk_at "d"
  refine o_ixT (cs_at h1) ?_
  repeat walk_at "d"
  cases o with
  | none =>
    refine ite_t ?_
    repeat walk_at "d"
    exact h
  | some c =>
    refine ite_f ?_
    repeat walk_at "d"
    refine o_ixT (v := .tup (P.rows.map rowD)) rfl ?_
    repeat walk_at "d"
    refine o_ixT (row_at h2) ?_
    repeat walk_at "d"
    refine c_lenT (xs := r.map Deed.d) ?_
    rw [List.length_map]
    refine o_eqI (k := (c : Int)) ?_
    repeat walk_at "d"
    have h3' := h3 c rfl
    refine ite_dec (fun q => ?_) (fun q => ?_)
    · repeat walk_at "d"
      have : r[c]? = none := List.getElem?_eq_none (by omega)
      rw [Option.bind_some, this] at h
      exact h
    · have hlt : c < r.length := by omega
      repeat walk_at "d"
      refine o_ixT (v := .tup (P.rows.map rowD)) rfl ?_
      repeat walk_at "d"
      refine o_ixT (row_at h2) ?_
      repeat walk_at "d"
      rw [Option.bind_some, List.getElem?_eq_getElem hlt] at h
      exact o_ixT (xs := r.map Deed.d) (k := (c : Int)) (deed_at (List.getElem?_eq_getElem hlt)) h
theorem all_bls : ∀ bs : List Bool, bs.all id = bs.all id := fun _ => rfl
theorem can_spec {n : Nat} {ks : Kept} {e : Deed} {m : Nat} {S : DS} {Q : DK} (he : e.ok m) (h : ∀ S', Ext S S' → Q (.bl (can ks e)) S') : sem fs (n + 2) 3 [keptD ks, e.d] S Q := by
  refine run_can_be_done ?_
  unfold b_3
  cases e with
  | start t =>
    repeat walk_at "d"
    refine o_ixT (v := .str "start") rfl ?_
    repeat walk_at "d"
    refine ite_dec (fun q => absurd q (by decide +kernel)) (fun _ => ?_)
    repeat walk_at "d"
    refine o_ixT (v := .str "start") rfl ?_
    repeat walk_at "d"
    refine ite_dec (fun q => absurd q (by decide +kernel)) (fun _ => ?_)
    repeat walk_at "d"
    refine o_ixT (v := .str "start") rfl ?_
    repeat walk_at "d"
    refine ite_dec (fun q => absurd q (by decide +kernel)) (fun _ => ?_)
    repeat walk_at "d"
    exact h S (Ext.refl S)
  | wait p =>
    repeat walk_at "d"
    refine o_ixT (v := .str "wait") rfl ?_
    repeat walk_at "d"
    refine ite_dec (fun _ => ?_) (fun q => absurd rfl q)
    repeat walk_at "d"
    refine o_ixT (v := .int p) rfl ?_
    repeat walk_at "d"
    refine worth_spec ?_
    repeat walk_at "d"
    rw [optI_non, Option.not_isNone]
    exact h S (Ext.refl S)
  | keep p nn ps =>
    repeat walk_at "d"
    refine o_ixT (v := .str "keep") rfl ?_
    repeat walk_at "d"
    refine ite_dec (fun q => absurd q (by decide +kernel)) (fun _ => ?_)
    repeat walk_at "d"
    refine o_ixT (v := .str "keep") rfl ?_
    repeat walk_at "d"
    refine ite_dec (fun _ => ?_) (fun q => absurd rfl q)
    repeat walk_at "d"
    refine o_ixT (v := .tup (ps.map D.int)) rfl ?_
    repeat walk_at "d"
    refine lc_map (fun p => D.bl (has ks p)) (Ext S) (Nat.le_trans he (by decide)) (Ext.refl S) (fun _ _ => rfl) ?_ ?_
    · intro p' hp acc S1 nx hacc hJ hnx
      repeat walk_at "d"
      refine worth_spec ?_
      repeat walk_at "d"
      rw [optI_non, Option.not_isNone]
      exact ⟨hacc, hnx S1 hJ⟩
    · intro S1 hJ
      refine i_newL fun q S2 n2 e2 x2 => ?_
      repeat walk_at "d"
      refine c_all (bs := ps.map (has ks)) (lst_ref (by rw [List.map_map]; exact e2)) ?_
      have := h S2 (hJ.trans x2)
      unfold can at this
      rwa [List.all_map]
  | race p ps =>
    repeat walk_at "d"
    refine o_ixT (v := .str "race") rfl ?_
    repeat walk_at "d"
    refine ite_dec (fun q => absurd q (by decide +kernel)) (fun _ => ?_)
    repeat walk_at "d"
    refine o_ixT (v := .str "race") rfl ?_
    repeat walk_at "d"
    refine ite_dec (fun q => absurd q (by decide +kernel)) (fun _ => ?_)
    repeat walk_at "d"
    refine o_ixT (v := .str "race") rfl ?_
    repeat walk_at "d"
    refine ite_dec (fun _ => ?_) (fun q => absurd rfl q)
    repeat walk_at "d"
    refine o_ixT (v := .tup (ps.map D.int)) rfl ?_
    repeat walk_at "d"
    refine lc_map (fun p => D.bl (has ks p)) (Ext S) (Nat.le_trans he (by decide)) (Ext.refl S) (fun _ _ => rfl) ?_ ?_
    · intro p' hp acc S1 nx hacc hJ hnx
      repeat walk_at "d"
      refine worth_spec ?_
      repeat walk_at "d"
      rw [optI_non, Option.not_isNone]
      exact ⟨hacc, hnx S1 hJ⟩
    · intro S1 hJ
      refine i_newL fun q S2 n2 e2 x2 => ?_
      repeat walk_at "d"
      refine c_any (bs := ps.map (has ks)) (lst_ref (by rw [List.map_map]; exact e2)) ?_
      have := h S2 (hJ.trans x2)
      unfold can at this
      rwa [List.any_map]
theorem next_ok {P : Prog} (hP : P.ok) {s : Stt} {t : Nat} {e : Deed} (h : next P s t = some e) : e.ok P.rows.length ∧ ∃ c r, s.cs[t]? = some (some c) ∧ P.rows[t]? = some r ∧ r[c]? = some e := by
  unfold next deedAt at h
  split at h
  · rename_i c hc
    cases hr : P.rows[t]? with
    | none => rw [hr] at h; cases h
    | some r =>
      rw [hr] at h
      exact ⟨hP.deed r (List.mem_of_getElem? hr) e (List.mem_of_getElem? h), c, r, hc, rfl, h⟩
  · cases h
def natsD (ts : List Nat) : List D := ts.map fun (t : Nat) => D.int (t : Int)
theorem ready_succ {P : Prog} {s : Stt} {m : Nat} : (List.range (m + 1)).filter (canT P s) = (List.range m).filter (canT P s) ++ (if canT P s m = true then [m] else []) := by
  rw [List.range_succ, List.filter_append]
  congr 1
  cases h : canT P s m <;> simp [h]
theorem ready_spec {n : Nat} {P : Prog} {s : Stt} {S : DS} {Q : DK} (hP : P.ok) (hs : s.ok P) (h : ∀ S', Ext S S' → Q (.tup (natsD (ready P s))) S') : sem fs (n + 3) 4 [P.d, s.d] S Q := by
  refine run_ready_tasks ?_
  unfold b_4
  have h1 := hP.n1
  repeat walk_at "d"
  refine i_newL fun a S1 n1 e1 x1 => ?_
  repeat walk_at "d"
  refine o_ixT (v := .tup (P.rows.map rowD)) rfl ?_
  repeat walk_at "d"
  rw [List.length_map]
  refine i_rng1V (by omega) ?_
  rw [Int.toNat_natCast]
  refine for_inv (fun j δ S2 => ∃ o3 o4, δ = [some P.d, some s.d, some (.ref a), o3, o4] ∧ S2 a = some (.lst (natsD ((List.range j).filter (canT P s)))) ∧ Ext S S2) ⟨none, none, rfl, e1, x1⟩ (fun _ _ _ _ _ => True.intro) ?_ ?_
  · rintro j x δ S2 nx hx hj ⟨o3, o4, rfl, e2, x2⟩ hnx
    obtain ⟨rfl, hjm⟩ := rng_at hx
    rw [Int.zero_add]
    repeat walk_at "d"
    refine next_spec hs hjm ?_
    repeat walk_at "d"
    have hsc : ∀ S3, S3 a = some (.lst (natsD ((List.range j).filter (canT P s)))) → Ext S S3 → canT P s j = false → ∀ o3 o4, nx [some P.d, some s.d, some (.ref a), o3, o4] S3 := fun S3 e3 x3 hc o3 o4 => hnx _ _ ⟨_, _, rfl, by rw [ready_succ, hc]; simpa [natsD] using e3, x3⟩
    cases hn : next P s j with
    | none => exact ite_f (i_next (hsc S2 e2 x2 (by unfold canT; rw [hn]) _ _))
    | some e =>
      have hcan : canT P s j = can s.kept e := by unfold canT; rw [hn]
      obtain ⟨hok, _⟩ := next_ok hP hn
      have hnn : isNon (deedD (some e)) = false := by cases e <;> rfl
      rw [hnn]
      refine ite_nf ?_
      repeat walk_at "d"
      refine o_ixT (v := keptD s.kept) rfl ?_
      repeat walk_at "d"
      refine can_spec hok fun S3 x3 => ?_
      have e3 := x3.get e2
      repeat walk_at "d"
      refine ite_b (fun c => ?_) (fun c => ?_)
      · repeat walk_at "d"
        refine m_append e3 ?_ (i_putL fun S4 e4 b4 => ?_)
        · have hf := List.length_filter_le (canT P s) (List.range j)
          rw [List.length_range] at hf
          rw [List.length_append]
          unfold natsD
          rw [List.length_map]
          show _ + 1 ≤ _
          omega
        refine hnx _ _ ⟨_, _, rfl, ?_, (x2.trans x3).but b4 n1⟩
        rw [ready_succ, hcan, c]
        simpa [natsD] using e4
      · exact i_next (hsc S3 e3 (x2.trans x3) (by rw [hcan, c]) _ _)
  · rintro δ S2 ⟨o3, o4, rfl, e2, x2⟩
    rw [rng_len] at e2
    repeat walk_at "d"
    exact h S2 x2
theorem has_get {ks : Kept} {p : Int} (h : has ks p = true) : ∃ v, worth ks p = some v := Option.isSome_iff_exists.mp h
theorem worth_mem : ∀ {ks : Kept} {p v : Int}, worth ks p = some v → (p, v) ∈ ks
  | [], _, _, h => by cases h
  | k :: ks, p, v, h => by
    unfold worth at h
    split at h
    · rename_i e
      obtain rfl := Option.some.inj h
      subst e
      exact List.mem_cons_self ..
    · exact List.mem_cons_of_mem _ (worth_mem h)
theorem has_iff : ∀ {ks : Kept} {p : Int}, has ks p = true ↔ p ∈ ks.map (·.1)
  | [], p => by simp [has, worth]
  | k :: ks, p => by
    unfold has worth
    by_cases e : k.1 = p
    · rw [if_pos e]; simp [e]
    · rw [if_neg e, List.map_cons, List.mem_cons]
      have := has_iff (ks := ks) (p := p)
      unfold has at this
      rw [this]
      constructor
      · exact fun h => .inr h
      · rintro (h | h)
        · exact absurd h.symm e
        · exact h
theorem has_dec {ks : Kept} {p : Int} : decide (p ∈ ks.map (·.1)) = has ks p := by
  rw [Bool.eq_iff_iff, decide_eq_true_iff]; exact has_iff.symm
theorem keptBy_spec {n : Nat} {ks : Kept} {p nn : Int} {ps : List Int} {m : Nat} {S : DS} {Q : DK} (he : (Deed.keep p nn ps).ok m) (hc : can ks (.keep p nn ps) = true) (h : ∀ S', Ext S S' → Q (.int (nn + (vals ks ps).sum)) S') : sem fs (n + 2) 5 [keptD ks, (Deed.keep p nn ps).d] S Q := by
  refine run_value_kept_by ?_
  unfold b_5
  repeat walk_at "d"
  refine o_ixT (v := .str "keep") rfl ?_
  repeat walk_at "d"
  refine ite_dec (fun _ => ?_) (fun q => absurd rfl q)
  repeat walk_at "d"
  refine o_ixT (v := .int nn) rfl ?_
  repeat walk_at "d"
  refine o_ixT (v := .tup (ps.map D.int)) rfl ?_
  repeat walk_at "d"
  refine lc_map (fun p => D.int ((worth ks p).getD 0)) (Ext S) (Nat.le_trans he (by decide)) (Ext.refl S) (fun _ _ => rfl) ?_ ?_
  · intro p' hp acc S1 nx hacc hJ hnx
    repeat walk_at "d"
    refine worth_spec ?_
    obtain ⟨v, hv⟩ := has_get (List.all_eq_true.mp hc p' hp)
    have := hnx S1 hJ
    rw [hv] at this ⊢
    exact ⟨hacc, this⟩
  · intro S1 hJ
    refine i_newL fun q S2 n2 e2 x2 => ?_
    repeat walk_at "d"
    refine c_sum (ns := vals ks ps) (lst_ref (by unfold vals; rw [List.map_map]; exact e2)) ?_
    repeat walk_at "d"
    exact h S2 (hJ.trans x2)
theorem find_drop {α : Type} {f : α → Bool} {xs : List α} {j : Nat} {x : α} (hx : xs[j]? = some x) (h : xs.find? f = (xs.drop j).find? f) : xs.find? f = if f x = true then some x else (xs.drop (j + 1)).find? f := by
  have hj : j < xs.length := by
    rcases Nat.lt_or_ge j xs.length with q | q
    · exact q
    · rw [List.getElem?_eq_none q] at hx; cases hx
  rw [List.drop_eq_getElem_cons hj] at h
  rw [List.getElem?_eq_getElem hj] at hx
  rw [h, List.find?_cons]
  obtain rfl := Option.some.inj hx
  cases f xs[j] <;> rfl
theorem any_find {ks : Kept} {ps : List Int} (h : ps.any (has ks) = true) : ∃ k, ks.find? (fun k => decide (k.1 ∈ ps)) = some k := by
  obtain ⟨p, hp, hh⟩ := List.any_eq_true.mp h
  obtain ⟨v, hv⟩ := has_get hh
  have := worth_mem hv
  cases e : ks.find? (fun k => decide (k.1 ∈ ps)) with
  | some k => exact ⟨k, rfl⟩
  | none =>
    rw [List.find?_eq_none] at e
    exact absurd (decide_eq_true (show (p, v).1 ∈ ps from hp)) (e _ this)
theorem raceBy_spec {n : Nat} {ks : Kept} {p : Int} {ps : List Int} {S : DS} {Q : DK} (hc : can ks (.race p ps) = true) (h : Q (.int (firstIn ks ps)) S) : sem fs (n + 2) 5 [keptD ks, (Deed.race p ps).d] S Q := by
  refine run_value_kept_by ?_
  unfold b_5
  repeat walk_at "d"
  refine o_ixT (v := .str "race") rfl ?_
  repeat walk_at "d"
  refine ite_dec (fun q => absurd q (by decide +kernel)) (fun _ => ?_)
  obtain ⟨k0, hk0⟩ := any_find hc
  have hfi : firstIn ks ps = k0.2 := by unfold firstIn; rw [hk0]; rfl
  rw [hfi] at h
  unfold keptD
  repeat walk_at "d"
  refine for_inv (fun j δ S1 => ∃ o2 o3, δ = [some (.tup (ks.map pairD)), some (Deed.race p ps).d, o2, o3] ∧ S1 = S ∧ ks.find? (fun k => decide (k.1 ∈ ps)) = (ks.drop j).find? (fun k => decide (k.1 ∈ ps))) ⟨none, none, rfl, rfl, rfl⟩ (fun _ _ _ _ _ => rfl) ?_ ?_
  · rintro j x δ S1 nx hx hj ⟨o2, o3, rfl, rfl, hw⟩ hnx
    obtain ⟨k, hk, rfl⟩ := map_at hx
    have hd := find_drop hk hw
    rw [hk0] at hd
    unfold pairD
    repeat walk_at "d"
    refine o_ixT (v := .tup (ps.map D.int)) rfl ?_
    refine o_inI ps ?_
    repeat walk_at "d"
    refine ite_dec (fun c => ?_) (fun c => ?_)
    · repeat walk_at "d"
      rw [if_pos (decide_eq_true c)] at hd
      rw [Option.some.inj hd] at h
      exact h
    · repeat walk_at "d"
      rw [if_neg (by rw [decide_eq_false c]; exact Bool.false_ne_true)] at hd
      exact hnx _ _ ⟨_, _, rfl, rfl, by rw [hk0]; exact hd⟩
  · rintro δ S1 ⟨o2, o3, rfl, rfl, hw⟩
    rw [List.length_map, List.drop_length, hk0] at hw
    cases hw
theorem set_opt {cs : List (Option Nat)} {t : Nat} {o : Option Nat} : (cs.map optD).set t (optD o) = (cs.set t o).map optD := by rw [List.map_set]
theorem kept_app {ks : Kept} {p v : Int} : ks.map pairD ++ [D.tup [.int p, .int v]] = (ks ++ [(p, v)]).map pairD := by rw [List.map_append]; rfl
theorem step_of {P : Prog} {s : Stt} {t c : Nat} {e : Deed} (h1 : s.cs[t]? = some (some c)) (h2 : next P s t = some e) : step P s t = ⟨startBy (s.cs.set t (some (c + 1))) s.cs e, keptBy s.kept e⟩ := by unfold step; rw [h1, h2]
theorem sb_none {cs cs0 : List (Option Nat)} {t : Nat} (h : cs0[t]? = some none) : startBy cs cs0 (.start t) = cs.set t (some 0) := if_pos h
theorem sb_some {cs cs0 : List (Option Nat)} {t : Nat} (h : ¬ cs0[t]? = some none) : startBy cs cs0 (.start t) = cs := if_neg h
theorem kb_keep1 {ks : Kept} {p n : Int} {ps : List Int} (h : has ks p = true) : keptBy ks (.keep p n ps) = ks := if_pos h
theorem kb_keep0 {ks : Kept} {p n : Int} {ps : List Int} (h : ¬ has ks p = true) : keptBy ks (.keep p n ps) = ks ++ [(p, n + (vals ks ps).sum)] := if_neg h
theorem kb_race1 {ks : Kept} {p : Int} {ps : List Int} (h : has ks p = true) : keptBy ks (.race p ps) = ks := if_pos h
theorem kb_race0 {ks : Kept} {p : Int} {ps : List Int} (h : ¬ has ks p = true) : keptBy ks (.race p ps) = ks ++ [(p, firstIn ks ps)] := if_neg h
theorem hasS {ks : Kept} {p v : Int} (h : worth ks p = some v) : has ks p = true := by unfold has; rw [h]; rfl
theorem hasN {ks : Kept} {p : Int} (h : worth ks p = none) : ¬ has ks p = true := by unfold has; rw [h]; exact Bool.false_ne_true
theorem step_spec {n : Nat} {P : Prog} {s : Stt} {t : Nat} {S : DS} {Q : DK} (hP : P.ok) (hs : s.ok P) (ht : t < P.rows.length) (hr : canT P s t = true) (h : ∀ S', Ext S S' → Q (step P s t).d S') : sem fs (n + 3) 6 [P.d, s.d, .int (t : Int)] S Q := by
  refine run_stepped ?_
  unfold b_6
  cases hn : next P s t with
  | none => unfold canT at hr; rw [hn] at hr; cases hr
  | some e =>
    have hcan : can s.kept e = true := by unfold canT at hr; rw [hn] at hr; exact hr
    obtain ⟨hok, c, r, h1, h2, h3⟩ := next_ok hP hn
    rw [step_of h1 hn] at h
    have htl : t < s.cs.length := by rw [hs.len]; exact ht
    have hlen := hs.len
    have hn1 := hP.n1
    have hsd : s.d = .tup [.tup (s.cs.map optD), keptD s.kept] := rfl
    rw [hsd]
    repeat walk_at "d"
    rw [← hsd]
    refine next_spec hs ht ?_
    rw [hn]
    show dgName 5 e.d _ _ _
    repeat walk_at "d"
    refine i_newL fun a S1 n1 e1 x1 => ?_
    repeat walk_at "d"
    refine o_ixT (cs_at h1) ?_
    show dC (.int 1) _ _ _
    repeat walk_at "d"
    show oAdd (.int (c : Int)) (.int 1) S1 _
    repeat walk_at "d"
    refine s_ix (m := t) e1 (ixN_at rfl (by rw [List.length_map]; exact htl)) (i_putL fun S2 e2 b2 => ?_)
    have e2' : S2 a = some (.lst ((s.cs.set t (some (c + 1))).map optD)) := by rw [← set_opt]; exact e2
    have x2 := x1.but b2 n1
    clear e1 e2
    cases e with
    | start t' =>
      have ht' : t' < P.rows.length := hok
      have ht2 : t' < s.cs.length := by omega
      repeat walk_at "d"
      refine o_ixT (v := .str "start") rfl ?_
      repeat walk_at "d"
      refine ite_dec (fun _ => ?_) (fun q => absurd rfl q)
      repeat walk_at "d"
      refine o_ixT (v := .int (t' : Int)) rfl ?_
      repeat walk_at "d"
      refine o_ixT (cs_at (List.getElem?_eq_getElem ht2)) ?_
      repeat walk_at "d"
      rw [optD_non]
      cases ho : s.cs[t'] with
      | none =>
        refine ite_t ?_
        repeat walk_at "d"
        refine o_ixT (v := .int (t' : Int)) rfl ?_
        repeat walk_at "d"
        refine s_ix (m := t') e2' (ixN_at rfl (by rw [List.length_map, List.length_set]; exact ht2)) (i_putL fun S3 e3 b3 => ?_)
        rw [show (D.int 0) = optD (some 0) from rfl, set_opt] at e3
        repeat walk_at "d"
        have := h S3 (x2.but b3 n1)
        rw [sb_none (by rw [List.getElem?_eq_getElem ht2, ho])] at this
        exact this
      | some c' =>
        refine ite_f ?_
        repeat walk_at "d"
        have := h S2 x2
        rw [sb_some (by rw [List.getElem?_eq_getElem ht2, ho]; exact fun q => nomatch q)] at this
        exact this
    | wait p =>
      repeat walk_at "d"
      refine o_ixT (v := .str "wait") rfl ?_
      repeat walk_at "d"
      refine ite_dec (fun q => absurd q (by decide +kernel)) (fun _ => ?_)
      repeat walk_at "d"
      refine o_ixT (v := .str "wait") rfl ?_
      repeat walk_at "d"
      refine ite_ndec (fun q => absurd rfl q) (fun _ => ?_)
      repeat walk_at "d"
      exact h S2 x2
    | keep p nn ps =>
      repeat walk_at "d"
      refine o_ixT (v := .str "keep") rfl ?_
      repeat walk_at "d"
      refine ite_dec (fun q => absurd q (by decide +kernel)) (fun _ => ?_)
      repeat walk_at "d"
      refine o_ixT (v := .str "keep") rfl ?_
      repeat walk_at "d"
      refine ite_ndec (fun _ => ?_) (fun q => absurd q (by decide +kernel))
      repeat walk_at "d"
      refine o_ixT (v := .int p) rfl ?_
      repeat walk_at "d"
      refine worth_spec ?_
      repeat walk_at "d"
      rw [optI_non]
      cases hw : worth s.kept p with
      | some v =>
        refine ite_f ?_
        repeat walk_at "d"
        have := h S2 x2
        rw [kb_keep1 (hasS hw)] at this
        exact this
      | none =>
        refine ite_t ?_
        repeat walk_at "d"
        refine o_ixT (v := .int p) rfl ?_
        repeat walk_at "d"
        refine keptBy_spec hok hcan fun S3 x3 => ?_
        have e3 := x3.get e2'
        repeat walk_at "d"
        refine o_addT (xs := s.kept.map pairD) (by rw [List.length_map]; have := hs.kl6 hP; show _ + 1 ≤ _; omega) ?_
        rw [kept_app]
        repeat walk_at "d"
        have := h S3 (x2.trans x3)
        rw [kb_keep0 (hasN hw)] at this
        exact this
    | race p ps =>
      repeat walk_at "d"
      refine o_ixT (v := .str "race") rfl ?_
      repeat walk_at "d"
      refine ite_dec (fun q => absurd q (by decide +kernel)) (fun _ => ?_)
      repeat walk_at "d"
      refine o_ixT (v := .str "race") rfl ?_
      repeat walk_at "d"
      refine ite_ndec (fun _ => ?_) (fun q => absurd q (by decide +kernel))
      repeat walk_at "d"
      refine o_ixT (v := .int p) rfl ?_
      repeat walk_at "d"
      refine worth_spec ?_
      repeat walk_at "d"
      rw [optI_non]
      cases hw : worth s.kept p with
      | some v =>
        refine ite_f ?_
        repeat walk_at "d"
        have := h S2 x2
        rw [kb_race1 (hasS hw)] at this
        exact this
      | none =>
        refine ite_t ?_
        repeat walk_at "d"
        refine o_ixT (v := .int p) rfl ?_
        repeat walk_at "d"
        refine raceBy_spec hcan ?_
        repeat walk_at "d"
        refine o_addT (xs := s.kept.map pairD) (by rw [List.length_map]; have := hs.kl6 hP; show _ + 1 ≤ _; omega) ?_
        rw [kept_app]
        repeat walk_at "d"
        have := h S2 x2
        rw [kb_race0 (hasN hw)] at this
        exact this
theorem keptBy_len {ks : Kept} {e : Deed} : (keptBy ks e).length ≤ ks.length + 1 := by
  cases e with
  | start t => exact Nat.le_succ _
  | wait p => exact Nat.le_succ _
  | keep p n ps =>
    by_cases h : has ks p = true
    · rw [kb_keep1 h]; exact Nat.le_succ _
    · rw [kb_keep0 h, List.length_append]; exact Nat.le_refl _
  | race p ps =>
    by_cases h : has ks p = true
    · rw [kb_race1 h]; exact Nat.le_succ _
    · rw [kb_race0 h, List.length_append]; exact Nat.le_refl _
theorem startBy_at {cs cs0 : List (Option Nat)} {e : Deed} {t : Nat} {o : Option Nat} (h : (startBy cs cs0 e)[t]? = some o) : cs[t]? = some o ∨ (o = some 0 ∧ e = .start t ∧ t < cs.length) := by
  cases e with
  | start t' =>
    by_cases hc : cs0[t']? = some none
    · rw [sb_none hc] at h
      by_cases ht : t' = t
      · subst ht
        have hl : t' < cs.length := by
          rcases Nat.lt_or_ge t' cs.length with q | q
          · exact q
          · rw [List.getElem?_eq_none (by rw [List.length_set]; exact q)] at h; cases h
        rw [List.getElem?_set_self hl] at h
        exact .inr ⟨(Option.some.inj h).symm, rfl, hl⟩
      · rw [List.getElem?_set_ne ht] at h; exact .inl h
    · rw [sb_some hc] at h; exact .inl h
  | wait p => exact .inl h
  | keep p n ps => exact .inl h
  | race p ps => exact .inl h
theorem startBy_len {cs cs0 : List (Option Nat)} {e : Deed} : (startBy cs cs0 e).length = cs.length := by
  cases e with
  | start t' =>
    by_cases hc : cs0[t']? = some none
    · rw [sb_none hc, List.length_set]
    · rw [sb_some hc]
  | wait p => rfl
  | keep p n ps => rfl
  | race p ps => rfl
theorem startBy_sum {cs cs0 : List (Option Nat)} {e : Deed} (h : ∀ t : Nat, cs0[t]? = some none → cs[t]? = some none) : (cs.map fun o => o.getD 0).sum ≤ ((startBy cs cs0 e).map fun o => o.getD 0).sum := by
  cases e with
  | start t' =>
    by_cases hc : cs0[t']? = some none
    · rw [sb_none hc]
      have := sum_set cs t' none (some 0) (h t' hc)
      simp only [Option.getD_some, Option.getD_none] at this
      omega
    · rw [sb_some hc]; exact Nat.le_refl _
  | wait p => exact Nat.le_refl _
  | keep p n ps => exact Nat.le_refl _
  | race p ps => exact Nat.le_refl _
theorem step_ok {P : Prog} (hP : P.ok) {s : Stt} (hs : s.ok P) {t : Nat} (hr : canT P s t = true) : (step P s t).ok P := by
  cases hn : next P s t with
  | none => unfold canT at hr; rw [hn] at hr; cases hr
  | some e =>
    obtain ⟨hok, c, r, h1, h2, h3⟩ := next_ok hP hn
    rw [step_of h1 hn]
    have htl : t < s.cs.length := by
      rcases Nat.lt_or_ge t s.cs.length with q | q
      · exact q
      · rw [List.getElem?_eq_none q] at h1; cases h1
    have hcr : c < r.length := by
      rcases Nat.lt_or_ge c r.length with q | q
      · exact q
      · rw [List.getElem?_eq_none q] at h3; cases h3
    refine ⟨by dsimp only; rw [startBy_len, List.length_set]; exact hs.len, fun t' c' r' hc hr' => ?_, ?_⟩
    · rcases startBy_at hc with q | ⟨q, _, _⟩
      · by_cases ht : t = t'
        · subst ht
          rw [List.getElem?_set_self htl] at q
          have := Option.some.inj (Option.some.inj q)
          rw [h2] at hr'
          obtain rfl := Option.some.inj hr'
          omega
        · rw [List.getElem?_set_ne ht] at q
          exact hs.le t' c' r' q hr'
      · have := Option.some.inj q; omega
    · dsimp only
      have k1 := keptBy_len (ks := s.kept) (e := e)
      have k2 := sum_set s.cs t (some c) (some (c + 1)) h1
      simp only [Option.getD_some] at k2
      have k3 := startBy_sum (cs := s.cs.set t (some (c + 1))) (cs0 := s.cs) (e := e) fun t' ht' => by
        by_cases ht : t = t'
        · subst ht; rw [h1] at ht'; cases ht'
        · rw [List.getElem?_set_ne ht]; exact ht'
      have := hs.kl
      omega
theorem canT_lt {P : Prog} {s : Stt} {t : Nat} (hP : P.ok) (h : canT P s t = true) : t < P.rows.length := by
  unfold canT at h
  split at h
  · rename_i e he
    obtain ⟨_, c, r, _, h2, _⟩ := next_ok hP he
    rcases Nat.lt_or_ge t P.rows.length with q | q
    · exact q
    · rw [List.getElem?_eq_none q] at h2; cases h2
  · cases h
theorem ready_mem {P : Prog} {s : Stt} {t : Nat} (h : t ∈ ready P s) : canT P s t = true := (List.mem_filter.mp h).2
theorem had_map {ks : Kept} : ks.map (fun k => D.int k.1) = (ks.map (·.1)).map D.int := by rw [List.map_map]; rfl
theorem lcan_spec {n : Nat} {P : Prog} {s : Stt} {t : Nat} {S : DS} {Q : DK} (hP : P.ok) (hs : s.ok P) (ht : t < P.rows.length) (h : ∀ S', Ext S S' → Q (.bl (canT P s t)) S') : sem fs (n + 2) 26 [P.d, s.d, .int (t : Int)] S Q := by
  refine run__law_can ?_
  unfold b_26
  obtain ⟨o, r, h1, h2, h3⟩ := at_task hs ht
  have hnx := next_of h1 h2
  repeat walk_at "d"
  refine o_ixT (v := .tup (s.cs.map optD)) rfl ?_
  repeat walk_at "d"
  refine o_ixT (cs_at h1) ?_
  repeat walk_at "d"
  cases o with
  | none =>
    refine ite_t ?_
    repeat walk_at "d"
    have := h S (Ext.refl S)
    unfold canT at this
    rw [hnx] at this
    exact this
  | some c =>
    refine ite_f ?_
    repeat walk_at "d"
    refine o_ixT (v := .tup (P.rows.map rowD)) rfl ?_
    repeat walk_at "d"
    refine o_ixT (row_at h2) ?_
    repeat walk_at "d"
    refine c_lenT (xs := r.map Deed.d) ?_
    rw [List.length_map]
    refine o_geI (k := (c : Int)) ?_
    repeat walk_at "d"
    have h3' := h3 c rfl
    refine ite_dec (fun q => ?_) (fun q => ?_)
    · repeat walk_at "d"
      have := h S (Ext.refl S)
      unfold canT at this
      rw [hnx, Option.bind_some, List.getElem?_eq_none (by omega)] at this
      exact this
    · have hlt : c < r.length := by omega
      have hn : next P s t = some r[c] := by rw [hnx, Option.bind_some, List.getElem?_eq_getElem hlt]
      obtain ⟨hok, _⟩ := next_ok hP hn
      have hcan : canT P s t = can s.kept r[c] := by unfold canT; rw [hn]
      rw [hcan] at h
      repeat walk_at "d"
      refine o_ixT (v := .tup (P.rows.map rowD)) rfl ?_
      repeat walk_at "d"
      refine o_ixT (row_at h2) ?_
      repeat walk_at "d"
      refine o_ixT (xs := r.map Deed.d) (k := (c : Int)) (deed_at (List.getElem?_eq_getElem hlt)) ?_
      generalize r[c] = e at h hok
      repeat walk_at "d"
      refine o_ixT (v := keptD s.kept) rfl ?_
      unfold keptD
      repeat walk_at "d"
      refine lc_map (fun k => D.int k.1) (Ext S) (Nat.le_trans (hs.kl6 hP) (by decide)) (Ext.refl S) (fun _ _ => rfl) ?_ ?_
      · intro k hk acc S1 nx hacc hJ hnx'
        repeat walk_at "d"
        refine o_ixT (v := .int k.1) rfl ?_
        exact ⟨hacc, hnx' S1 hJ⟩
      intro S1 x1
      rw [had_map]
      refine i_newL fun q S2 n2 e2 x2 => ?_
      have X2 := x1.trans x2
      have mem : ∀ S3 p, Ext S2 S3 → ∀ Q1 : DK, Q1 (.bl (has s.kept p)) S3 → oIn false (.int p) (.ref q) S3 Q1 := fun S3 p x3 Q1 hq => o_inIL _ (x3.get e2) (by rw [has_dec]; exact hq)
      cases e with
      | start t' =>
        repeat walk_at "d"
        refine o_ixT (v := .str "start") rfl ?_
        repeat walk_at "d"
        refine ite_dec (fun q => absurd q (by decide +kernel)) (fun _ => ?_)
        repeat walk_at "d"
        refine o_ixT (v := .str "start") rfl ?_
        repeat walk_at "d"
        refine ite_dec (fun q => absurd q (by decide +kernel)) (fun _ => ?_)
        repeat walk_at "d"
        refine o_ixT (v := .str "start") rfl ?_
        repeat walk_at "d"
        refine ite_dec (fun q => absurd q (by decide +kernel)) (fun _ => ?_)
        repeat walk_at "d"
        exact h S2 X2
      | wait p =>
        repeat walk_at "d"
        refine o_ixT (v := .str "wait") rfl ?_
        repeat walk_at "d"
        refine ite_dec (fun _ => ?_) (fun q => absurd rfl q)
        repeat walk_at "d"
        refine o_ixT (v := .int p) rfl ?_
        repeat walk_at "d"
        exact mem S2 p (Ext.refl _) _ (h S2 X2)
      | keep p nn ps =>
        repeat walk_at "d"
        refine o_ixT (v := .str "keep") rfl ?_
        repeat walk_at "d"
        refine ite_dec (fun q => absurd q (by decide +kernel)) (fun _ => ?_)
        repeat walk_at "d"
        refine o_ixT (v := .str "keep") rfl ?_
        repeat walk_at "d"
        refine ite_dec (fun _ => ?_) (fun q => absurd rfl q)
        repeat walk_at "d"
        refine o_ixT (v := .tup (ps.map D.int)) rfl ?_
        repeat walk_at "d"
        refine lc_map (fun p => D.bl (has s.kept p)) (Ext S2) (Nat.le_trans hok (by decide)) (Ext.refl S2) (fun _ _ => rfl) ?_ ?_
        · intro p' hp acc S3 nx hacc hJ hnx'
          repeat walk_at "d"
          exact mem S3 p' hJ (fun y S4 => acc.length < 16777216 ∧ nx (acc ++ [y]) S4) ⟨hacc, hnx' S3 hJ⟩
        · intro S3 hJ
          refine i_newL fun a S4 n4 e4 x4 => ?_
          have e4' : S4 a = some (.lst ((ps.map (has s.kept)).map D.bl)) := by rw [List.map_map]; exact e4
          refine o_inBL true e4' ?_
          have := h S4 ((X2.trans hJ).trans x4)
          unfold can at this
          rwa [show (true ^^ decide (false ∈ ps.map (has s.kept))) = ps.all (has s.kept) by
            rw [Bool.true_xor, Bool.eq_iff_iff, Bool.not_eq_true', decide_eq_false_iff_not, List.all_eq_true]
            constructor
            · exact fun h1 x hx => by
                cases hb : has s.kept x with
                | true => rfl
                | false => exact absurd (List.mem_map.mpr ⟨x, hx, hb⟩) h1
            · rintro h1 h2
              obtain ⟨x, hx, hb⟩ := List.mem_map.mp h2
              rw [h1 x hx] at hb; cases hb]
      | race p ps =>
        repeat walk_at "d"
        refine o_ixT (v := .str "race") rfl ?_
        repeat walk_at "d"
        refine ite_dec (fun q => absurd q (by decide +kernel)) (fun _ => ?_)
        repeat walk_at "d"
        refine o_ixT (v := .str "race") rfl ?_
        repeat walk_at "d"
        refine ite_dec (fun q => absurd q (by decide +kernel)) (fun _ => ?_)
        repeat walk_at "d"
        refine o_ixT (v := .str "race") rfl ?_
        repeat walk_at "d"
        refine ite_dec (fun _ => ?_) (fun q => absurd rfl q)
        repeat walk_at "d"
        refine o_ixT (v := .tup (ps.map D.int)) rfl ?_
        repeat walk_at "d"
        refine lc_map (fun p => D.bl (has s.kept p)) (Ext S2) (Nat.le_trans hok (by decide)) (Ext.refl S2) (fun _ _ => rfl) ?_ ?_
        · intro p' hp acc S3 nx hacc hJ hnx'
          repeat walk_at "d"
          exact mem S3 p' hJ (fun y S4 => acc.length < 16777216 ∧ nx (acc ++ [y]) S4) ⟨hacc, hnx' S3 hJ⟩
        · intro S3 hJ
          refine i_newL fun a S4 n4 e4 x4 => ?_
          have e4' : S4 a = some (.lst ((ps.map (has s.kept)).map D.bl)) := by rw [List.map_map]; exact e4
          refine o_inBL false e4' ?_
          have := h S4 ((X2.trans hJ).trans x4)
          unfold can at this
          rwa [show (false ^^ decide (true ∈ ps.map (has s.kept))) = ps.any (has s.kept) by
            rw [Bool.false_xor, Bool.eq_iff_iff, decide_eq_true_iff, List.any_eq_true, List.mem_map]]
theorem lready_spec {n : Nat} {P : Prog} {s : Stt} {S : DS} {Q : DK} (hP : P.ok) (hs : s.ok P) (h : ∀ a S', S a = none → S' a = some (.lst (natsD (ready P s))) → Ext S S' → Q (.ref a) S') : sem fs (n + 3) 27 [P.d, s.d] S Q := by
  refine run__law_ready ?_
  unfold b_27
  have h1 := hP.n1
  repeat walk_at "d"
  refine o_ixT (v := .tup (P.rows.map rowD)) rfl ?_
  repeat walk_at "d"
  rw [List.length_map]
  refine i_rng1V (by omega) ?_
  rw [Int.toNat_natCast, rng_map]
  refine lc_fm (fun t => if canT P s t = true then some (D.int (t : Int)) else none) (Ext S) (by rw [List.length_range]; omega) (Ext.refl S) (fun _ _ => True.intro) ?_ ?_
  · intro t ht acc S1 nx hacc hJ hnx
    rw [Int.zero_add]
    repeat walk_at "d"
    refine lcan_spec hP hs (List.mem_range.mp ht) fun S2 x2 => ?_
    have := hnx S2 (hJ.trans x2)
    repeat walk_at "d"
    refine ite_b (fun c => ?_) (fun c => ?_)
    · rw [if_pos c] at this
      repeat walk_at "d"
      exact ⟨hacc, this⟩
    · rw [if_neg (by rw [c]; exact Bool.false_ne_true)] at this
      simpa using this
  · intro S1 hJ
    have e : (List.range P.rows.length).filterMap (fun t => if canT P s t = true then some (D.int (t : Int)) else none) = natsD (ready P s) := by
      unfold natsD ready
      generalize List.range P.rows.length = l
      induction l with
      | nil => rfl
      | cons x l ih =>
        rw [List.filterMap_cons, List.filter_cons]
        by_cases c : canT P s x = true
        · rw [if_pos c, if_pos c, List.map_cons, ih]
        · rw [if_neg c, if_neg c, ih]
    rw [e]
    exact i_newL fun a S2 n2 e2 x2 => h a S2 (Ext.back hJ n2) e2 (hJ.trans x2)
theorem lstep_spec {n : Nat} {P : Prog} {s : Stt} {t : Nat} {S : DS} {Q : DK} (hP : P.ok) (hs : s.ok P) (hr : canT P s t = true) (h : ∀ S', Ext S S' → Q (step P s t).d S') : sem fs (n + 2) 28 [P.d, s.d, .int (t : Int)] S Q := by
  refine run__law_step ?_
  unfold b_28
  have ht := canT_lt hP hr
  cases hn : next P s t with
  | none => unfold canT at hr; rw [hn] at hr; cases hr
  | some e =>
    have hcan : can s.kept e = true := by unfold canT at hr; rw [hn] at hr; exact hr
    obtain ⟨hok, c, r, h1, h2, h3⟩ := next_ok hP hn
    rw [step_of h1 hn] at h
    have htl : t < s.cs.length := by rw [hs.len]; exact ht
    have hlen := hs.len
    have hn1 := hP.n1
    have hkl := hs.kl6 hP
    have hsd : s.d = .tup [.tup (s.cs.map optD), keptD s.kept] := rfl
    rw [hsd]
    repeat walk_at "d"
    rw [← hsd]
    refine o_ixT (v := .tup (P.rows.map rowD)) rfl ?_
    repeat walk_at "d"
    refine o_ixT (row_at h2) ?_
    repeat walk_at "d"
    refine o_ixT (cs_at h1) ?_
    refine o_ixT (xs := r.map Deed.d) (k := (c : Int)) (deed_at h3) ?_
    repeat walk_at "d"
    refine i_newL fun a S1 n1 e1 x1 => ?_
    repeat walk_at "d"
    refine o_ixT (cs_at h1) ?_
    show dC (.int 1) _ _ _
    repeat walk_at "d"
    show oAdd (.int (c : Int)) (.int 1) S1 _
    repeat walk_at "d"
    refine s_ix (m := t) e1 (ixN_at rfl (by rw [List.length_map]; exact htl)) (i_putL fun S2 e2 b2 => ?_)
    have e2' : S2 a = some (.lst ((s.cs.set t (some (c + 1))).map optD)) := by rw [← set_opt]; exact e2
    have x2 := x1.but b2 n1
    clear e1 e2
    cases e with
    | start t' =>
      have ht' : t' < P.rows.length := hok
      have ht2 : t' < s.cs.length := by omega
      have tail : ∀ S3 (cs : List (Option Nat)), S3 a = some (.lst (cs.map optD)) → Q (.tup [.tup (cs.map optD), keptD s.kept]) S3 → (dSeq (dIf (dAnd (dTb (dOp (oEq false) (dOp oIx (dVar 5) (dC (.int 0))) (dC (.str "keep")))) (dTb (dOp (oIs false) (dCall (sem fs (n + 1) 25) (dCons (dVar 4) (dCons (dOp oIx (dVar 5) (dC (.int 1))) dNil))) (dC .non)))) (dAsg (dOp oAdd (dVar 4) (dTup (dCons (dTup (dCons (dOp oIx (dVar 5) (dC (.int 1))) (dCons (dOp oAdd (dOp oIx (dVar 5) (dC (.int 2))) (dCall bSum (dCons (dLc (dIter (dOp oIx (dVar 5) (dC (.int 3)))) (dgName 7) dYes (dCall (sem fs (n + 1) 25) (dCons (dVar 4) (dCons (dVar 7) dNil))) [7]) dNil))) dNil))) dNil))) (dgName 4)) dNext)
          (dSeq (dIf (dAnd (dTb (dOp (oEq false) (dOp oIx (dVar 5) (dC (.int 0))) (dC (.str "race")))) (dTb (dOp (oIs false) (dCall (sem fs (n + 1) 25) (dCons (dVar 4) (dCons (dOp oIx (dVar 5) (dC (.int 1))) dNil))) (dC .non)))) (dAsg (dOp oAdd (dVar 4) (dTup (dCons (dTup (dCons (dOp oIx (dVar 5) (dC (.int 1))) (dCons (dOp oIx (dLc (dIter (dVar 4)) (dgName 8) (dTb (dOp (oIn false) (dOp oIx (dVar 8) (dC (.int 0))) (dOp oIx (dVar 5) (dC (.int 2))))) (dOp oIx (dVar 8) (dC (.int 1))) [8]) (dC (.int 0))) dNil))) dNil))) (dgName 4)) dNext)
          (dRet (dTup (dCons (dCall bTuple (dCons (dVar 6) dNil)) (dCons (dVar 4) dNil)))))) { nx := fun _ S' => Q .non S', rt := Q, bk := fun _ _ => False, ct := fun _ _ => False } [some P.d, some s.d, some (.int (t : Int)), some (.tup (s.cs.map optD)), some (keptD s.kept), some (Deed.start t').d, some (.ref a), none, none] S3 := by
        intro S3 cs e3 hq
        repeat walk_at "d"
        refine o_ixT (v := .str "start") rfl ?_
        repeat walk_at "d"
        refine ite_dec (fun q => absurd q (by decide +kernel)) (fun _ => ?_)
        repeat walk_at "d"
        refine o_ixT (v := .str "start") rfl ?_
        repeat walk_at "d"
        refine ite_dec (fun q => absurd q (by decide +kernel)) (fun _ => ?_)
        repeat walk_at "d"
        exact hq
      repeat walk_at "d"
      refine o_ixT (v := .str "start") rfl ?_
      repeat walk_at "d"
      refine ite_dec (fun _ => ?_) (fun q => absurd rfl q)
      repeat walk_at "d"
      refine o_ixT (v := .int (t' : Int)) rfl ?_
      repeat walk_at "d"
      refine o_ixT (cs_at (List.getElem?_eq_getElem ht2)) ?_
      repeat walk_at "d"
      rw [optD_non]
      cases ho : s.cs[t'] with
      | none =>
        refine ite_t ?_
        repeat walk_at "d"
        refine o_ixT (v := .int (t' : Int)) rfl ?_
        repeat walk_at "d"
        refine s_ix (m := t') e2' (ixN_at rfl (by rw [List.length_map, List.length_set]; exact ht2)) (i_putL fun S3 e3 b3 => ?_)
        rw [show (D.int 0) = optD (some 0) from rfl, set_opt] at e3
        refine tail S3 _ e3 ?_
        have := h S3 (x2.but b3 n1)
        rw [sb_none (by rw [List.getElem?_eq_getElem ht2, ho])] at this
        exact this
      | some c' =>
        refine ite_f (i_next ?_)
        refine tail S2 _ e2' ?_
        have := h S2 x2
        rw [sb_some (by rw [List.getElem?_eq_getElem ht2, ho]; exact fun q => nomatch q)] at this
        exact this
    | wait p =>
      repeat walk_at "d"
      refine o_ixT (v := .str "wait") rfl ?_
      repeat walk_at "d"
      refine ite_dec (fun q => absurd q (by decide +kernel)) (fun _ => ?_)
      repeat walk_at "d"
      refine o_ixT (v := .str "wait") rfl ?_
      repeat walk_at "d"
      refine ite_dec (fun q => absurd q (by decide +kernel)) (fun _ => ?_)
      repeat walk_at "d"
      refine o_ixT (v := .str "wait") rfl ?_
      repeat walk_at "d"
      refine ite_dec (fun q => absurd q (by decide +kernel)) (fun _ => ?_)
      repeat walk_at "d"
      exact h S2 x2
    | keep p nn ps =>
      repeat walk_at "d"
      refine o_ixT (v := .str "keep") rfl ?_
      repeat walk_at "d"
      refine ite_dec (fun q => absurd q (by decide +kernel)) (fun _ => ?_)
      repeat walk_at "d"
      refine o_ixT (v := .str "keep") rfl ?_
      repeat walk_at "d"
      refine ite_dec (fun _ => ?_) (fun q => absurd rfl q)
      repeat walk_at "d"
      refine o_ixT (v := .int p) rfl ?_
      repeat walk_at "d"
      refine lworth_spec ?_
      repeat walk_at "d"
      rw [optI_non]
      cases hw : worth s.kept p with
      | some v =>
        refine ite_f ?_
        repeat walk_at "d"
        refine o_ixT (v := .str "keep") rfl ?_
        repeat walk_at "d"
        refine ite_dec (fun q => absurd q (by decide +kernel)) (fun _ => ?_)
        repeat walk_at "d"
        have := h S2 x2
        rw [kb_keep1 (hasS hw)] at this
        exact this
      | none =>
        refine ite_t ?_
        repeat walk_at "d"
        refine o_ixT (v := .int p) rfl ?_
        repeat walk_at "d"
        refine o_ixT (v := .int nn) rfl ?_
        repeat walk_at "d"
        refine o_ixT (v := .tup (ps.map D.int)) rfl ?_
        repeat walk_at "d"
        refine lc_map (fun p => D.int ((worth s.kept p).getD 0)) (Ext S2) (Nat.le_trans hok (by decide)) (Ext.refl S2) (fun _ _ => rfl) ?_ ?_
        · intro p' hp acc S3 nx hacc hJ hnx
          repeat walk_at "d"
          refine lworth_spec ?_
          obtain ⟨v, hv⟩ := has_get (List.all_eq_true.mp hcan p' hp)
          have := hnx S3 hJ
          rw [hv] at this ⊢
          exact ⟨hacc, this⟩
        · intro S3 hJ
          refine i_newL fun q S4 n4 e4 x4 => ?_
          have x24 := hJ.trans x4
          have e4a := x24.get e2'
          repeat walk_at "d"
          refine c_sum (ns := vals s.kept ps) (lst_ref (by unfold vals; rw [List.map_map]; exact e4)) ?_
          repeat walk_at "d"
          refine o_addT (xs := s.kept.map pairD) (by rw [List.length_map]; show _ + 1 ≤ _; omega) ?_
          rw [kept_app]
          repeat walk_at "d"
          refine o_ixT (v := .str "keep") rfl ?_
          repeat walk_at "d"
          refine ite_dec (fun q => absurd q (by decide +kernel)) (fun _ => ?_)
          repeat walk_at "d"
          have := h S4 (x2.trans x24)
          rw [kb_keep0 (hasN hw)] at this
          exact this
    | race p ps =>
      repeat walk_at "d"
      refine o_ixT (v := .str "race") rfl ?_
      repeat walk_at "d"
      refine ite_dec (fun q => absurd q (by decide +kernel)) (fun _ => ?_)
      repeat walk_at "d"
      refine o_ixT (v := .str "race") rfl ?_
      repeat walk_at "d"
      refine ite_dec (fun q => absurd q (by decide +kernel)) (fun _ => ?_)
      repeat walk_at "d"
      refine o_ixT (v := .str "race") rfl ?_
      repeat walk_at "d"
      refine ite_dec (fun _ => ?_) (fun q => absurd rfl q)
      repeat walk_at "d"
      refine o_ixT (v := .int p) rfl ?_
      repeat walk_at "d"
      refine lworth_spec ?_
      repeat walk_at "d"
      rw [optI_non]
      cases hw : worth s.kept p with
      | some v =>
        refine ite_f ?_
        repeat walk_at "d"
        have := h S2 x2
        rw [kb_race1 (hasS hw)] at this
        exact this
      | none =>
        refine ite_t ?_
        repeat walk_at "d"
        refine o_ixT (v := .int p) rfl ?_
        unfold keptD
        repeat walk_at "d"
        refine lc_fm (fun k : Int × Int => if k.1 ∈ ps then some (D.int k.2) else none) (Ext S2) (Nat.le_trans hkl (by decide)) (Ext.refl S2) (fun _ _ => rfl) ?_ ?_
        · intro k hk acc S3 nx hacc hJ hnx
          repeat walk_at "d"
          refine o_ixT (v := .int k.1) rfl ?_
          repeat walk_at "d"
          refine o_ixT (v := .tup (ps.map D.int)) rfl ?_
          refine o_inI ps ?_
          have := hnx S3 hJ
          repeat walk_at "d"
          refine ite_dec (fun c => ?_) (fun c => ?_)
          · rw [if_pos c] at this
            repeat walk_at "d"
            refine o_ixT (v := .int k.2) rfl ?_
            exact ⟨hacc, this⟩
          · rw [if_neg c] at this
            simpa using this
        · intro S3 hJ
          refine i_newL fun q S4 n4 e4 x4 => ?_
          have x24 := hJ.trans x4
          have e4a := x24.get e2'
          obtain ⟨k0, hk0⟩ := any_find hcan
          have hfi : firstIn s.kept ps = k0.2 := by unfold firstIn; rw [hk0]; rfl
          have hh : (s.kept.filterMap fun k : Int × Int => if k.1 ∈ ps then some (D.int k.2) else none)[0]? = some (D.int (firstIn s.kept ps)) := by
            rw [hfi]
            clear hfi hkl hsd h1 hlen htl e2' hn e4a
            generalize s.kept = ks at hk0
            induction ks with
            | nil => cases hk0
            | cons x ks ih =>
              rw [List.find?_cons] at hk0
              by_cases c : x.1 ∈ ps
              · rw [decide_eq_true c] at hk0
                obtain rfl := Option.some.inj hk0
                rw [List.filterMap_cons, if_pos c]
                rfl
              · rw [decide_eq_false c] at hk0
                rw [List.filterMap_cons, if_neg c]
                exact ih hk0
          repeat walk_at "d"
          refine o_ixL e4 (atI_at (j := 0) rfl hh) ?_
          repeat walk_at "d"
          refine o_addT (xs := s.kept.map pairD) (by rw [List.length_map]; show _ + 1 ≤ _; omega) ?_
          rw [kept_app]
          repeat walk_at "d"
          have := h S4 (x2.trans x24)
          rw [kb_race0 (hasN hw)] at this
          exact this
def after (P : Prog) : Stt → List Nat → Stt
  | s, [] => s
  | s, t :: r => after P (step P s t) r
def goesOn (P : Prog) : Stt → List Nat → Prop
  | _, [] => True
  | s, t :: r => canT P s t = true ∧ goesOn P (step P s t) r
theorem after_app {P : Prog} : ∀ (r : List Nat) (s : Stt) (q : List Nat), after P s (r ++ q) = after P (after P s r) q
  | [], s, q => rfl
  | t :: r, s, q => after_app r (step P s t) q
theorem goes_app {P : Prog} : ∀ (r : List Nat) (s : Stt) (q : List Nat), goesOn P s (r ++ q) ↔ goesOn P s r ∧ goesOn P (after P s r) q
  | [], s, q => ⟨fun h => ⟨True.intro, h⟩, fun h => h.2⟩
  | t :: r, s, q => by
    show (canT P s t = true ∧ goesOn P (step P s t) (r ++ q)) ↔ (canT P s t = true ∧ goesOn P (step P s t) r) ∧ goesOn P (after P (step P s t) r) q
    rw [goes_app r (step P s t) q, and_assoc]
theorem after_ok {P : Prog} (hP : P.ok) : ∀ (r : List Nat) (s : Stt), s.ok P → goesOn P s r → (after P s r).ok P
  | [], s, h, _ => h
  | t :: r, s, h, g => after_ok hP r (step P s t) (step_ok hP h g.1) g.2
theorem goes_take {P : Prog} {r : List Nat} {s : Stt} (h : goesOn P s r) (k : Nat) : goesOn P s (r.take k) := by
  have := (goes_app (P := P) (r.take k) s (r.drop k)).mp (by rw [List.take_append_drop]; exact h)
  exact this.1
theorem goes_at {P : Prog} {r : List Nat} {s : Stt} (h : goesOn P s r) {j t : Nat} (ht : r[j]? = some t) : canT P (after P s (r.take j)) t = true := by
  have := (goes_app (P := P) (r.take (j + 1)) s (r.drop (j + 1))).mp (by rw [List.take_append_drop]; exact h)
  have h2 := this.1
  rw [take_succ' ht] at h2
  exact ((goes_app _ _ _).mp h2).2.1
theorem behind_spec {n : Nat} {P : Prog} {r : List Nat} {S : DS} {Q : DK} (hP : P.ok) (hr : goesOn P (start P) r) (h : ∀ S', Ext S S' → Q (after P (start P) r).d S') : sem fs (n + 4) 7 [P.d, .tup (natsD r)] S Q := by
  refine run_state_after ?_
  unfold b_7
  repeat walk_at "d"
  refine start_spec hP fun S1 x1 => ?_
  repeat walk_at "d"
  refine for_inv (fun j δ S2 => ∃ o3, δ = [some P.d, some (.tup (natsD r)), some (after P (start P) (r.take j)).d, o3] ∧ Ext S S2) ⟨none, rfl, x1⟩ (fun _ _ _ _ _ => rfl) ?_ ?_
  · rintro j x δ S2 nx hx hj ⟨o3, rfl, x2⟩ hnx
    obtain ⟨t, ht, rfl⟩ := map_at hx
    have hc := goes_at hr ht
    repeat walk_at "d"
    refine step_spec hP (after_ok hP _ _ (start_ok hP) (goes_take hr j)) (canT_lt hP hc) hc fun S3 x3 => ?_
    repeat walk_at "d"
    exact hnx _ _ ⟨some (.int (t : Int)), by rw [take_succ' ht, after_app]; rfl, x2.trans x3⟩
  · rintro δ S2 ⟨o3, rfl, x2⟩
    unfold natsD
    rw [List.length_map, List.take_length]
    repeat walk_at "d"
    exact h S2 x2
theorem lbehind_spec {n : Nat} {P : Prog} {r : List Nat} {S : DS} {Q : DK} (hP : P.ok) (hr : goesOn P (start P) r) (h : ∀ S', Ext S S' → Q (after P (start P) r).d S') : sem fs (n + 4) 29 [P.d, .tup (natsD r)] S Q := by
  refine run__law_behind ?_
  unfold b_29
  repeat walk_at "d"
  refine lstart_spec hP fun S1 x1 => ?_
  repeat walk_at "d"
  refine for_inv (fun j δ S2 => ∃ o3, δ = [some P.d, some (.tup (natsD r)), some (after P (start P) (r.take j)).d, o3] ∧ Ext S S2) ⟨none, rfl, x1⟩ (fun _ _ _ _ _ => rfl) ?_ ?_
  · rintro j x δ S2 nx hx hj ⟨o3, rfl, x2⟩ hnx
    obtain ⟨t, ht, rfl⟩ := map_at hx
    have hc := goes_at hr ht
    repeat walk_at "d"
    refine lstep_spec hP (after_ok hP _ _ (start_ok hP) (goes_take hr j)) hc fun S3 x3 => ?_
    repeat walk_at "d"
    exact hnx _ _ ⟨some (.int (t : Int)), by rw [take_succ' ht, after_app]; rfl, x2.trans x3⟩
  · rintro δ S2 ⟨o3, rfl, x2⟩
    unfold natsD
    rw [List.length_map, List.take_length]
    repeat walk_at "d"
    exact h S2 x2
def InR (m : Nat) (p : Int) : Prop := 0 ≤ p ∧ p < (m : Int)
abbrev Asc (ps : List Int) : Prop := ps.Pairwise (· < ·)
def Deed.wf (m : Nat) : Deed → Prop
  | .start t => 1 ≤ t
  | .wait p => InR m p
  | .keep p _ ps => InR m p ∧ (∀ q ∈ ps, InR m q) ∧ Asc ps
  | .race p ps => InR m p ∧ (∀ q ∈ ps, InR m q) ∧ Asc ps ∧ ps ≠ []
def Prog.wf (P : Prog) : Prop := ∀ r ∈ P.rows, ∀ e ∈ r, e.wf P.many
def Good (n m : Nat) (e : Deed) : Prop := e.ok n ∧ e.wf m
theorem asc_sort {ns : List Int} (h : ns.Nodup) : Asc (ns.mergeSort fun a b => decide (a ≤ b)) := by
  have h1 : (ns.mergeSort fun a b => decide (a ≤ b)).Pairwise fun a b => decide (a ≤ b) = true := List.pairwise_mergeSort (fun a b c => by simp only [decide_eq_true_eq]; omega) (fun a b => by simp only [Bool.or_eq_true, decide_eq_true_eq]; omega) ns
  have h2 : (ns.mergeSort fun a b => decide (a ≤ b)).Nodup := (List.mergeSort_perm ns _).nodup_iff.mpr h
  refine List.Pairwise.imp₂ (fun a b h1 h2 => ?_) h1 h2
  have := of_decide_eq_true h1
  have h2' : a ≠ b := h2
  omega
theorem mem_sort {ns : List Int} {x : Int} : x ∈ ns.mergeSort (fun a b => decide (a ≤ b)) ↔ x ∈ ns := (List.mergeSort_perm ns _).mem_iff
theorem some_spec {n : Nat} {S : DS} {d r : Addr} {ns : List Int} {mm : Int} {Q : DK} (hd : Drw S d) (hr : S r = some (.lst (ns.map D.int))) (hne : ns ≠ []) (hrd : r ≠ d) (hm : 1 ≤ mm ∧ mm ≤ 900)
    (h : ∀ a ms S', (∀ x ∈ ms, x ∈ ns) → Asc ms → ms ≠ [] → (ms.length : Int) ≤ mm → S a = none → S' a = some (.lst (ms.map D.int)) → a ≠ d → But d S S' → Drw S' d → Q (.ref a) S') : sem fs (n + 3) 20 [.ref d, .ref r, .int mm] S Q := by
  refine run__law_some_of ?_
  unfold b_20
  repeat walk_at "d"
  refine i_newL fun a S1 n1 e1 x1 => ?_
  have nad := hd.ne' n1
  have nar : a ≠ r := (dne hr n1).symm
  repeat walk_at "d"
  refine take_spec (hd.ext x1) (by omega) fun k S2 k0 k1 b2 d2 => ?_
  repeat walk_at "d"
  refine i_rng1V (by omega) (for_inv (fun j δ S3 => ∃ o4 o5 ms, δ = [some (.ref d), some (.ref r), some (.int mm), some (.ref a), o4, o5] ∧ (∀ x ∈ ms, x ∈ ns) ∧ ms.Nodup ∧ ms.length ≤ j ∧ (1 ≤ j → ms ≠ []) ∧ S3 a = some (.lst (ms.map D.int)) ∧ S3 r = some (.lst (ns.map D.int)) ∧ But d S S3 ∧ Drw S3 d) ⟨none, none, [], rfl, (fun x hx => by cases hx), List.nodup_nil, Nat.le_refl _, fun e => by omega, b2.get nad e1, b2.get hrd (x1.get hr), x1.toBut.trans b2, d2⟩ (fun _ _ _ _ _ => True.intro) ?_ ?_)
  · rintro j x δ S3 nx hx hj ⟨o4, o5, ms, rfl, h1, h2, h3, h4, e3, g3, b3, d3⟩ hnx
    obtain ⟨rfl, hjm⟩ := rng_at hx
    repeat walk_at "d"
    refine pick_spec d3 g3 (fun e => hne (List.map_eq_nil_iff.mp e)) hrd fun v S4 hv b4 d4 => ?_
    obtain ⟨z, hz, rfl⟩ := List.mem_map.mp hv
    have e4 := b4.get nad e3
    have g4 := b4.get hrd g3
    repeat walk_at "d"
    refine o_notinIL ms e4 ?_
    repeat walk_at "d"
    refine ite_ndec (fun c => ?_) (fun c => ?_)
    · repeat walk_at "d"
      refine m_append e4 (by rw [List.length_append, List.length_map]; show ms.length + 1 ≤ _; omega) (i_putL fun S5 e5 b5 => ?_)
      refine hnx _ _ ⟨_, _, ms ++ [z], rfl, fun x hx => ?_, ?_, by rw [List.length_append]; show ms.length + 1 ≤ _; omega, fun _ => by simp, by rw [List.map_append]; exact e5, b5.get nar.symm g4, (b3.trans b4).but b5 n1, d4.but b5 nad.symm⟩
      · rcases List.mem_append.mp hx with q | q
        · exact h1 x q
        · rw [List.mem_singleton.mp q]; exact hz
      · rw [List.nodup_append]
        refine ⟨h2, List.nodup_cons.mpr ⟨List.not_mem_nil, List.nodup_nil⟩, fun x hx y hy e => ?_⟩
        rw [List.mem_singleton] at hy
        subst e hy
        exact c hx
    · repeat walk_at "d"
      exact hnx _ _ ⟨_, _, ms, rfl, h1, h2, by omega, (fun _ e => by subst e; cases c), e4, g4, b3.trans b4, d4⟩
  · rintro δ S3 ⟨o4, o5, ms, rfl, h1, h2, h3, h4, e3, g3, b3, d3⟩
    rw [rng_len] at h3 h4
    repeat walk_at "d"
    refine c_sortedI (lst_ref e3) (i_newL fun b S4 n4 e4 x4 => ?_)
    have nb : S b = none := b3.back (d3.ne' n4) n4
    refine h b _ S4 (fun x hx => h1 x (mem_sort.mp hx)) (asc_sort h2) (fun e => h4 (by omega) ?_) ?_ nb e4 (d3.ne' n4) (b3.ext x4) (d3.ext x4)
    · have := congrArg List.length e
      rw [List.length_mergeSort] at this
      exact List.eq_nil_of_length_eq_zero this
    · rw [List.length_mergeSort]; omega
theorem setof_spec {n : Nat} {S : DS} {d r : Addr} {ns : List Int} {mm : Int} {Q : DK} (hd : Drw S d) (hr : S r = some (.lst (ns.map D.int))) (hne : ns ≠ [] ∨ mm = 0) (hrd : r ≠ d) (hm : 0 ≤ mm ∧ mm ≤ 900)
    (h : ∀ ms S', (∀ x ∈ ms, x ∈ ns) → Asc ms → (ms.length : Int) ≤ mm → But d S S' → Drw S' d → Q (intsD ms) S') : sem fs (n + 3) 35 [.ref d, .ref r, .int mm] S Q := by
  refine run__law_set_of ?_
  unfold b_35
  repeat walk_at "d"
  refine i_newL fun a S1 n1 e1 x1 => ?_
  have nad := hd.ne' n1
  have nar : a ≠ r := (dne hr n1).symm
  repeat walk_at "d"
  refine take_spec (hd.ext x1) (by omega) fun k S2 k0 k1 b2 d2 => ?_
  repeat walk_at "d"
  refine i_rng1V (by omega) (for_inv (fun j δ S3 => ∃ o4 o5 ms, δ = [some (.ref d), some (.ref r), some (.int mm), some (.ref a), o4, o5] ∧ (∀ x ∈ ms, x ∈ ns) ∧ ms.Nodup ∧ ms.length ≤ j ∧ S3 a = some (.lst (ms.map D.int)) ∧ S3 r = some (.lst (ns.map D.int)) ∧ But d S S3 ∧ Drw S3 d) ⟨none, none, [], rfl, (fun x hx => by cases hx), List.nodup_nil, Nat.le_refl _, b2.get nad e1, b2.get hrd (x1.get hr), x1.toBut.trans b2, d2⟩ (fun _ _ _ _ _ => True.intro) ?_ ?_)
  · rintro j x δ S3 nx hx hj ⟨o4, o5, ms, rfl, h1, h2, h3, e3, g3, b3, d3⟩ hnx
    obtain ⟨rfl, hjm⟩ := rng_at hx
    have hne' : ns ≠ [] := by
      rcases hne with q | q
      · exact q
      · omega
    repeat walk_at "d"
    refine pick_spec d3 g3 (fun e => hne' (List.map_eq_nil_iff.mp e)) hrd fun v S4 hv b4 d4 => ?_
    obtain ⟨z, hz, rfl⟩ := List.mem_map.mp hv
    have e4 := b4.get nad e3
    have g4 := b4.get hrd g3
    repeat walk_at "d"
    refine o_notinIL ms e4 ?_
    repeat walk_at "d"
    refine ite_ndec (fun c => ?_) (fun c => ?_)
    · repeat walk_at "d"
      refine m_append e4 (by rw [List.length_append, List.length_map]; show ms.length + 1 ≤ _; omega) (i_putL fun S5 e5 b5 => ?_)
      refine hnx _ _ ⟨_, _, ms ++ [z], rfl, fun x hx => ?_, ?_, by rw [List.length_append]; show ms.length + 1 ≤ _; omega, by rw [List.map_append]; exact e5, b5.get nar.symm g4, (b3.trans b4).but b5 n1, d4.but b5 nad.symm⟩
      · rcases List.mem_append.mp hx with q | q
        · exact h1 x q
        · rw [List.mem_singleton.mp q]; exact hz
      · rw [List.nodup_append]
        refine ⟨h2, List.nodup_cons.mpr ⟨List.not_mem_nil, List.nodup_nil⟩, fun x hx y hy e => ?_⟩
        rw [List.mem_singleton] at hy
        subst e hy
        exact c hx
    · repeat walk_at "d"
      exact hnx _ _ ⟨_, _, ms, rfl, h1, h2, by omega, e4, g4, b3.trans b4, d4⟩
  · rintro δ S3 ⟨o4, o5, ms, rfl, h1, h2, h3, e3, g3, b3, d3⟩
    rw [rng_len] at h3
    repeat walk_at "d"
    refine c_sortedI (lst_ref e3) (i_newL fun b S4 n4 e4 x4 => ?_)
    repeat walk_at "d"
    exact h _ S4 (fun x hx => h1 x (mem_sort.mp hx)) (asc_sort h2) (by rw [List.length_mergeSort]; omega) (b3.ext x4) (d3.ext x4)
theorem deed_spec {n : Nat} {S : DS} {d r o : Addr} {ns : List Int} {ts : List Nat} {m k : Nat} {Q : DK} (hd : Drw S d) (hr : S r = some (.lst (ns.map D.int))) (hne : ns ≠ []) (hns : ∀ x ∈ ns, InR m x) (hrd : r ≠ d) (ho : S o = some (.lst (natsD ts))) (hts : ∀ t ∈ ts, 1 ≤ t ∧ t < k) (hod : o ≠ d)
    (h : ∀ e S', Good k m e → But d S S' → Drw S' d → Q e.d S') : sem fs (n + 4) 36 [.ref d, .ref r, .ref o] S Q := by
  refine run__law_deed ?_
  unfold b_36
  have hnn : ns.map D.int ≠ [] := fun e => hne (List.map_eq_nil_iff.mp e)
  repeat walk_at "d"
  refine take_spec hd (by decide) fun kd S1 k0 k1 b1 d1 => ?_
  have r1 := b1.get hrd hr
  have o1 := b1.get hod ho
  have rest : dSeq (dIf (dTb (dOp (oCmp .lt) (dVar 3) (dC (.int 4)))) (dRet (dTup (dCons (dC (.str "wait")) (dCons (dCall (sem fs (n + 3) 17) (dCons (dVar 0) (dCons (dVar 1) dNil))) dNil)))) dNext)
    (dSeq (dIf (dTb (dOp (oCmp .lt) (dVar 3) (dC (.int 6)))) (dRet (dTup (dCons (dC (.str "race")) (dCons (dCall (sem fs (n + 3) 17) (dCons (dVar 0) (dCons (dVar 1) dNil))) (dCons (dCall bTuple (dCons (dCall (sem fs (n + 3) 20) (dCons (dVar 0) (dCons (dVar 1) (dCons (dC (.int 2)) dNil)))) dNil)) dNil))))) dNext)
    (dRet (dTup (dCons (dC (.str "keep")) (dCons (dCall (sem fs (n + 3) 17) (dCons (dVar 0) (dCons (dVar 1) dNil))) (dCons (dCall (sem fs (n + 3) 23) (dCons (dVar 0) dNil)) (dCons (dCall (sem fs (n + 3) 35) (dCons (dVar 0) (dCons (dVar 1) (dCons (dCall (sem fs (n + 3) 16) (dCons (dVar 0) (dCons (dC (.int 3)) dNil))) dNil)))) dNil)))))))
      { nx := fun _ S' => Q .non S', rt := Q, bk := fun _ _ => False, ct := fun _ _ => False } [some (.ref d), some (.ref r), some (.ref o), some (.int kd)] S1 := by
    repeat walk_at "d"
    refine ite_dec (fun c => ?_) (fun c => ?_)
    · repeat walk_at "d"
      refine pick_spec d1 r1 hnn hrd fun v S2 hv b2 d2 => ?_
      obtain ⟨z, hz, rfl⟩ := List.mem_map.mp hv
      repeat walk_at "d"
      exact h (.wait z) S2 ⟨True.intro, hns z hz⟩ (b1.trans b2) d2
    repeat walk_at "d"
    refine ite_dec (fun c => ?_) (fun c => ?_)
    · repeat walk_at "d"
      refine pick_spec d1 r1 hnn hrd fun v S2 hv b2 d2 => ?_
      obtain ⟨z, hz, rfl⟩ := List.mem_map.mp hv
      have r2 := b2.get hrd r1
      repeat walk_at "d"
      refine some_spec d2 r2 hne hrd (by decide) fun a ms S3 h1 h2 h3 h4 _ e3 nad b3 d3 => ?_
      repeat walk_at "d"
      exact h (.race z ms) S3 ⟨by show ms.length ≤ 1000; omega, hns z hz, fun q hq => hns q (h1 q hq), h2, h3⟩ ((b1.trans b2).trans b3) d3
    · repeat walk_at "d"
      refine pick_spec d1 r1 hnn hrd fun v S2 hv b2 d2 => ?_
      obtain ⟨z, hz, rfl⟩ := List.mem_map.mp hv
      have r2 := b2.get hrd r1
      repeat walk_at "d"
      refine number_spec d2 fun nn S3 b3 d3 _ _ => ?_
      have r3 := b3.get hrd r2
      repeat walk_at "d"
      refine take_spec d3 (by decide) fun w S4 w0 w1 b4 d4 => ?_
      have r4 := b4.get hrd r3
      repeat walk_at "d"
      refine setof_spec d4 r4 (.inl hne) hrd (by omega) fun ms S5 h1 h2 h3 b5 d5 => ?_
      repeat walk_at "d"
      exact h (.keep z nn ms) S5 ⟨by show ms.length ≤ 1000; omega, hns z hz, fun q hq => hns q (h1 q hq), h2⟩ ((((b1.trans b2).trans b3).trans b4).trans b5) d5
  refine i_gname rfl ?_
  refine i_seq (i_if (i_and (i_tb (i_op (i_var rfl (i_c (o_eqI (i_asB ?_))))))))
  refine ite_dec (fun c => ?_) (fun c => ?_)
  · repeat walk_at "d"
    refine ite_dec (fun c2 => ?_) (fun c2 => ?_)
    · repeat walk_at "d"
      refine pick_spec d1 o1 (fun e => by unfold natsD at c2; rw [List.length_map] at c2; rw [List.map_eq_nil_iff.mp e] at c2; exact absurd c2 (by decide)) hod fun v S2 hv b2 d2 => ?_
      obtain ⟨t, ht, rfl⟩ := List.mem_map.mp hv
      repeat walk_at "d"
      exact h (.start t) S2 ⟨(hts t ht).2, (hts t ht).1⟩ (b1.trans b2) d2
    · refine i_next ?_
      exact rest
  · refine ite_f (i_next ?_)
    exact rest
def deedsD (es : List Deed) : List D := es.map Deed.d
theorem deedsD_app {es : List Deed} {e : Deed} : deedsD es ++ [e.d] = deedsD (es ++ [e]) := by unfold deedsD; rw [List.map_append]; rfl
theorem deedsD_len {es : List Deed} : (deedsD es).length = es.length := by unfold deedsD; rw [List.length_map]
def upto (k : Nat) : List Nat := (List.range k).map (1 + ·)
theorem upto_mem {k t : Nat} (h : t ∈ upto k) : 1 ≤ t ∧ t < k + 1 := by
  unfold upto at h
  obtain ⟨z, hz, rfl⟩ := List.mem_map.mp h
  have := List.mem_range.mp hz
  omega
theorem upto_len {k : Nat} : (upto k).length = k := by unfold upto; rw [List.length_map, List.length_range]
theorem rng_upto {k : Nat} : rngL 1 k = natsD (upto k) := by
  unfold rngL natsD upto
  rw [List.map_map]
  refine List.map_congr_left fun i _ => ?_
  show D.int (1 + (i : Int)) = D.int (((1 + i : Nat)) : Int)
  congr 1
theorem rng_zero {k : Nat} : rngL 0 k = ((List.range k).map fun i : Nat => (i : Int)).map D.int := by
  unfold rngL
  rw [List.map_map]
  refine List.map_congr_left fun i _ => ?_
  show D.int (0 + (i : Int)) = D.int (i : Int)
  rw [Int.zero_add]
theorem mem_zero {k : Nat} {x : Int} (h : x ∈ (List.range k).map fun i : Nat => (i : Int)) : InR k x := by
  obtain ⟨i, hi, rfl⟩ := List.mem_map.mp h
  have := List.mem_range.mp hi
  exact ⟨by omega, by omega⟩
def unI : D → Nat
  | .int i => i.toNat
  | _ => 0
theorem unI_nats {ts : List Nat} : (natsD ts).map unI = ts := by
  unfold natsD
  rw [List.map_map]
  exact (List.map_congr_left fun (t : Nat) _ => show unI (.int (t : Int)) = t from Int.toNat_natCast t).trans (List.map_id' ts)
theorem perm_nats {ys : List D} {ts : List Nat} (h : ys.Perm (natsD ts)) : ∃ us : List Nat, ys = natsD us ∧ us.Perm ts := by
  refine ⟨ys.map unI, ?_, by have := h.map unI; rwa [unI_nats] at this⟩
  have hm : ∀ y ∈ ys, y = D.int ((unI y : Nat) : Int) := fun y hy => by
    obtain ⟨t, _, rfl⟩ := List.mem_map.mp (h.mem_iff.mp hy)
    show D.int (t : Int) = D.int (((t : Int).toNat : Nat) : Int)
    rw [Int.toNat_natCast]
  unfold natsD
  rw [List.map_map]
  exact ((List.map_congr_left fun y hy => (hm y hy).symm).trans (List.map_id' ys)).symm
structure Drawn (P : Prog) (k m : Nat) : Prop where
  n1 : P.rows.length = k
  m1 : P.many = m
  row : ∀ r ∈ P.rows, r.length ≤ 10 ∧ ∀ e ∈ r, Good k m e
theorem Drawn.ok {P : Prog} {k m : Nat} (h : Drawn P k m) (h1 : 1 ≤ k ∧ k ≤ 1000) (h2 : m ≤ 1000) : P.ok :=
  ⟨by rw [h.m1]; exact h2, by rw [h.n1]; exact h1.1, by rw [h.n1]; exact h1.2, fun r hr => Nat.le_trans (h.row r hr).1 (by decide), fun r hr e he => by rw [h.n1]; exact ((h.row r hr).2 e he).1⟩
theorem Drawn.wf {P : Prog} {k m : Nat} (h : Drawn P k m) : P.wf := fun r hr e he => by rw [h.m1]; exact ((h.row r hr).2 e he).2
theorem program_spec {n : Nat} {S : DS} {d : Addr} {Q : DK} (hd : Drw S d) (h : ∀ P k m S', Drawn P k m → 1 ≤ k ∧ k ≤ 4 → 1 ≤ m ∧ m ≤ 8 → But d S S' → Drw S' d → Q P.d S') : sem fs (n + 6) 37 [.ref d] S Q := by
  refine run__law_program ?_
  unfold b_37
  repeat walk_at "d"
  refine take_spec hd (by decide) fun v1 S1 v10 v11 b1 d1 => ?_
  obtain ⟨m, hm⟩ : ∃ m : Nat, 1 + v1 = (m : Int) := ⟨(1 + v1).toNat, by omega⟩
  refine o_addV hm ?_
  repeat walk_at "d"
  refine ⟨RgOk.of_le (by decide) (by omega) (by decide) (by omega), i_newL fun r S2 n2 e2 x2 => ?_⟩
  rw [show ((m : Int) - 0).toNat = m by omega, rng_zero] at e2
  have d2 := d1.ext x2
  repeat walk_at "d"
  refine some_spec d2 e2 (fun e => by have := congrArg List.length e; rw [List.length_map, List.length_range] at this; simp at this; omega) (d1.ne' n2) (by decide) fun p ns S3 h1 _ h3 _ _ e3 npd b3 d3 => ?_
  have hns : ∀ x ∈ ns, InR m x := fun x hx => mem_zero (h1 x hx)
  have B3 := (b1.ext x2).trans b3
  repeat walk_at "d"
  refine take_spec d3 (by decide) fun v4 S4 v40 v41 b4 d4 => ?_
  obtain ⟨k, hk⟩ : ∃ k : Nat, 1 + v4 = (k : Int) := ⟨(1 + v4).toNat, by omega⟩
  refine o_addV hk ?_
  have e4 := b4.get npd e3
  have hk1 : 1 ≤ k ∧ k ≤ 4 := by omega
  repeat walk_at "d"
  refine ⟨RgOk.of_le (by decide) (by omega) (by decide) (by omega), i_newL fun q S5 n5 e5 x5 => ?_⟩
  rw [show ((k : Int) - 1).toNat = k - 1 by omega, rng_upto] at e5
  have e5p := x5.get e4
  have d5 := d4.ext x5
  have nqd := d4.ne' n5
  have hts : ∀ t ∈ upto (k - 1), 1 ≤ t ∧ t < k := fun t ht => by have := upto_mem ht; omega
  have B5 := (B3.trans b4).ext x5
  repeat walk_at "d"
  refine i_newL fun f S6 n6 e6 x6 => ?_
  have nfd := d5.ne' n6
  have d6 := d5.ext x6
  have e6p := x6.get e5p
  have e6q := x6.get e5
  have npf := dne e5p n6
  have nqf := dne e5 n6
  have fS : S f = none := B5.back nfd n6
  have B6 := B5.ext x6
  repeat walk_at "d"
  refine shuffled_spec d6 e6q (by unfold natsD; rw [List.length_map, upto_len]; omega) fun a ys S7 hys n7 e7 nad b7 d7 => ?_
  obtain ⟨us, rfl, hus⟩ := perm_nats hys
  have e7p := b7.get npd e6p
  have e7q := b7.get nqd e6q
  have e7f := b7.get nfd e6
  have naf : a ≠ f := (dne e6 n7).symm
  have B7 := B6.trans b7
  have hul : us.length ≤ 3 := by rw [hus.length_eq, upto_len]; omega
  repeat walk_at "d"
  refine for_inv (fun j δ S8 => ∃ o6 es, δ = [some (.ref d), some (.int (m : Int)), some (.ref p), some (.int (k : Int)), some (.ref q), some (.ref f), o6, none, none, none, none, none, none, none] ∧ (∀ e ∈ es, Good k m e) ∧ es.length ≤ j ∧ S8 f = some (.lst (deedsD es)) ∧ S8 a = some (.lst (natsD us)) ∧ S8 p = some (.lst (ns.map D.int)) ∧ S8 q = some (.lst (natsD (upto (k - 1)))) ∧ But d S S8 ∧ Drw S8 d) ⟨none, [], rfl, (fun e he => by cases he), Nat.le_refl _, e7f, e7, e7p, e7q, B7, d7⟩ (fun _ _ _ _ ⟨_, _, _, _, _, _, e, _⟩ => seq_ref e) ?_ ?_
  · rintro j x δ S8 nx hx hj ⟨o6, es, rfl, hes, hel, g1, g2, g3, g4, b8, d8⟩ hnx
    obtain ⟨t, ht, rfl⟩ := map_at hx
    unfold natsD at hj
    rw [List.length_map] at hj
    repeat walk_at "d"
    refine take_spec d8 (by decide) fun w S9 w0 w1 b9 d9 => ?_
    have g1' := b9.get nfd g1
    repeat walk_at "d"
    refine ite_dec (fun c => ?_) (fun c => ?_)
    · repeat walk_at "d"
      refine m_append g1' (by rw [List.length_append, deedsD_len]; show es.length + 1 ≤ _; omega) (i_putL fun S10 e10 b10 => ?_)
      refine hnx _ _ ⟨_, es ++ [.start t], rfl, fun e he => ?_, by rw [List.length_append]; show es.length + 1 ≤ _; omega, by rw [← deedsD_app]; exact e10, b10.get naf (b9.get nad g2), b10.get npf (b9.get npd g3), b10.get nqf (b9.get nqd g4), (b8.trans b9).but b10 fS, d9.but b10 nfd.symm⟩
      rcases List.mem_append.mp he with q | q
      · exact hes e q
      · rw [List.mem_singleton.mp q]
        have := hts t (hus.mem_iff.mp (List.mem_of_getElem? ht))
        exact ⟨this.2, this.1⟩
    · repeat walk_at "d"
      exact hnx _ _ ⟨_, es, rfl, hes, by omega, g1', b9.get nad g2, b9.get npd g3, b9.get nqd g4, b8.trans b9, d9⟩
  · rintro δ S8 ⟨o6, es, rfl, hes, hel, g1, g2, g3, g4, b8, d8⟩
    unfold natsD at hel
    rw [List.length_map] at hel
    repeat walk_at "d"
    refine take_spec d8 (by decide) fun ex S9 ex0 ex1 b9 d9 => ?_
    have g1' := b9.get nfd g1
    have g3' := b9.get npd g3
    have g4' := b9.get nqd g4
    have B9 := b8.trans b9
    clear g1 g2 g3 g4
    repeat walk_at "d"
    refine i_rng1V (by omega) (for_inv (fun j δ S10 => ∃ o8 es, δ = [some (.ref d), some (.int (m : Int)), some (.ref p), some (.int (k : Int)), some (.ref q), some (.ref f), o6, some (.int ex), o8, none, none, none, none, none] ∧ (∀ e ∈ es, Good k m e) ∧ es.length ≤ 3 + j ∧ S10 f = some (.lst (deedsD es)) ∧ S10 p = some (.lst (ns.map D.int)) ∧ S10 q = some (.lst (natsD (upto (k - 1)))) ∧ But d S S10 ∧ Drw S10 d) ⟨none, es, rfl, hes, by omega, g1', g3', g4', B9, d9⟩ (fun _ _ _ _ _ => True.intro) ?_ ?_)
    · rintro j x δ S10 nx hx hj ⟨o8, es, rfl, hes, hel, g1, g3, g4, b10, d10⟩ hnx
      obtain ⟨rfl, hjm⟩ := rng_at hx
      repeat walk_at "d"
      rw [deedsD_len]
      refine take_spec d10 (by omega) fun w S11 w0 w1 b11 d11 => ?_
      have f11 := b11.get nfd g1
      have p11 := b11.get npd g3
      have q11 := b11.get nqd g4
      repeat walk_at "d"
      refine deed_spec d11 p11 h3 hns npd q11 hts nqd fun e S12 he b12 d12 => ?_
      have f12 := b12.get nfd f11
      repeat walk_at "d"
      refine m_insert f12 (by omega) (by rw [deedsD_len]; omega) (i_putL fun S13 e13 b13 => ?_)
      refine hnx _ _ ⟨_, es.take w.toNat ++ [e] ++ es.drop w.toNat, rfl, fun e' he' => ?_, ?_, ?_, b13.get npf (b12.get npd p11), b13.get nqf (b12.get nqd q11), ((b10.trans b11).trans b12).but b13 fS, d12.but b13 nfd.symm⟩
      · rcases List.mem_append.mp he' with q | q
        · rcases List.mem_append.mp q with q | q
          · exact hes e' (List.mem_of_mem_take q)
          · rw [List.mem_singleton.mp q]; exact he
        · exact hes e' (List.mem_of_mem_drop q)
      · simp only [List.length_append, List.length_take, List.length_drop, List.length_singleton]; omega
      · rw [e13]; unfold deedsD; rw [List.map_append, List.map_append, List.map_take, List.map_drop]; rfl
    · rintro δ S10 ⟨o8, es, rfl, hes, hel, g1, g3, g4, b10, d10⟩
      rw [rng_len] at hel
      repeat walk_at "d"
      refine i_newL fun rw' S11 n11 e11 x11 => ?_
      have nrd := d10.ne' n11
      have npr := dne g3 n11
      have nqr := dne g4 n11
      have rS : S rw' = none := b10.back nrd n11
      have p11 := x11.get g3
      have q11 := x11.get g4
      have d11 := d10.ext x11
      repeat walk_at "d"
      refine for_inv (fun j δ S12 => ∃ o6 o8 o11 o13 rs l, δ = [some (.ref d), some (.int (m : Int)), some (.ref p), some (.int (k : Int)), some (.ref q), some (.ref f), o6, some (.int ex), o8, some (.int l), some (.ref rw'), o11, none, o13] ∧ (∀ r ∈ rs, r.length ≤ 10 ∧ ∀ e ∈ r, Good k m e) ∧ rs.length = j + 1 ∧ (0 ≤ l ∧ l ≤ 5) ∧ S12 rw' = some (.lst (rs.map rowD)) ∧ S12 p = some (.lst (ns.map D.int)) ∧ S12 q = some (.lst (natsD (upto (k - 1)))) ∧ But d S S12 ∧ Drw S12 d) ⟨_, _, none, none, [es], 5 - ex, rfl, (fun r hr => by rw [List.mem_singleton.mp hr]; exact ⟨by omega, hes⟩), rfl, by omega, e11, p11, q11, b10.ext x11, d11⟩ (fun _ _ _ _ ⟨_, _, _, _, _, _, _, _, _, _, _, _, e, _⟩ => seq_ref e) ?_ ?_
      · rintro j x δ S12 nx hx hj ⟨o6, o8, o11, o13, rs, l, rfl, hrs, hrl, hl, g1, g3, g4, b12, d12⟩ hnx
        obtain ⟨t, ht, rfl⟩ := map_at hx
        unfold natsD at hj
        rw [List.length_map, upto_len] at hj
        have hq' : S12 q = some (.lst ((upto (k - 1)).map fun (t : Nat) => D.int (t : Int))) := g4
        refine i_seq (i_asg ?_)
        refine i_lc (by simp only [dwipe, List.set_cons_zero, List.set_cons_succ, List.set_nil]; exact rfl) (i_iter (i_var rfl (i_iterV_ref hq' ?_)))
        refine lc_fm (fun (u : Nat) => if u = t then none else some (D.int (u : Int))) (fun S13 => S13 = S12) (by rw [upto_len]; omega) rfl (fun S13 e => by subst e; exact seq_ref hq') ?_ ?_
        · rintro u hu acc S13 nx' hacc rfl hnx'
          have := hnx' S13 rfl
          repeat walk_at "d"
          refine ite_ndec (fun c => ?_) (fun c => ?_)
          · rw [if_neg (show ¬ u = t by omega)] at this
            repeat walk_at "d"
            exact ⟨hacc, this⟩
          · rw [if_pos (show u = t by omega)] at this
            simpa using this
        · rintro S13 rfl
          have hot : ∃ vs : List Nat, (upto (k - 1)).filterMap (fun (u : Nat) => if u = t then none else some (D.int (u : Int))) = natsD vs ∧ ∀ t ∈ vs, 1 ≤ t ∧ t < k := by
            refine ⟨(upto (k - 1)).filter fun u => !decide (u = t), ?_, fun u hu => hts u (List.mem_filter.mp hu).1⟩
            unfold natsD
            generalize upto (k - 1) = L
            induction L with
            | nil => rfl
            | cons x L ih =>
              rw [List.filterMap_cons, List.filter_cons]
              by_cases c : x = t
              · rw [if_pos c, decide_eq_true c]; exact ih
              · rw [if_neg c, decide_eq_false c]
                show _ = (x :: L.filter fun u => !decide (u = t)).map _
                rw [List.map_cons, ← ih]
          obtain ⟨vs, hvs, hvm⟩ := hot
          rw [hvs]
          refine i_newL fun ot S14 n14 e14 x14 => ?_
          have notd := d12.ne' n14
          have d14 := d12.ext x14
          have g1a := x14.get g1
          have g3a := x14.get g3
          have g4a := x14.get g4
          repeat walk_at "d"
          refine i_newL fun u1 S15 n15 e15 x15 => ?_
          repeat walk_at "d"
          refine pick_spec (d14.ext x15) e15 (by simp) (d14.ne' n15) fun v S16 hv b16 d16 => ?_
          obtain ⟨z, rfl, z0, z1⟩ : ∃ z : Int, v = .int z ∧ 0 ≤ z ∧ z ≤ 2 := by
            simp only [List.mem_cons, List.not_mem_nil, or_false] at hv
            rcases hv with rfl | rfl | rfl | rfl | rfl | rfl <;> exact ⟨_, rfl, by decide, by decide⟩
          have g1b := b16.get nrd (x15.get g1a)
          have g3b := b16.get npd (x15.get g3a)
          have g4b := b16.get nqd (x15.get g4a)
          have o16 := b16.get notd (x15.get e14)
          have B16 := ((b12.ext x14).ext x15).trans b16
          repeat walk_at "d"
          refine i_rng1V (by omega) (lc_inv (fun i acc S17 => (∃ es : List Deed, acc = deedsD es ∧ (∀ e ∈ es, Good k m e) ∧ es.length = i) ∧ S17 rw' = some (.lst (rs.map rowD)) ∧ S17 p = some (.lst (ns.map D.int)) ∧ S17 q = some (.lst (natsD (upto (k - 1)))) ∧ S17 ot = some (.lst (natsD vs)) ∧ But d S S17 ∧ Drw S17 d) ⟨⟨[], rfl, (fun e he => by cases he), rfl⟩, g1b, g3b, g4b, o16, B16, d16⟩ (fun _ _ _ _ _ => True.intro) ?_ ?_)
          · rintro i y acc S17 nx' hy hi ⟨⟨es, rfl, hes, hel⟩, k1, k3, k4, k5, b17, d17⟩ hnx'
            obtain ⟨rfl, hyi⟩ := rng_at hy
            repeat walk_at "d"
            refine deed_spec d17 k3 h3 hns npd k5 hvm notd fun e S18 he b18 d18 => ⟨by rw [deedsD_len]; omega, hnx' _ _ ⟨⟨es ++ [e], deedsD_app, fun e' he' => ?_, by rw [List.length_append, hel]; rfl⟩, b18.get nrd k1, b18.get npd k3, b18.get nqd k4, b18.get notd k5, b17.trans b18, d18⟩⟩
            rcases List.mem_append.mp he' with q | q
            · exact hes e' q
            · rw [List.mem_singleton.mp q]; exact he
          · rintro acc S17 ⟨⟨es, rfl, hes, hel⟩, k1, k3, k4, k5, b17, d17⟩
            rw [rng_len] at hel
            refine i_newL fun u2 S18 n18 e18 x18 => ?_
            have k1' := x18.get k1
            repeat walk_at "d"
            refine m_append k1' (by rw [List.length_append, List.length_map]; show rs.length + 1 ≤ _; omega) (i_putL fun S19 e19 b19 => ?_)
            refine hnx _ _ ⟨_, _, _, _, rs ++ [es], l - min l z, rfl, fun r hr => ?_, by rw [List.length_append, hrl]; rfl, by omega, by rw [List.map_append]; exact e19, b19.get npr (x18.get k3), b19.get nqr (x18.get k4), (b17.ext x18).but b19 rS, (d17.ext x18).but b19 nrd.symm⟩
            rcases List.mem_append.mp hr with q | q
            · exact hrs r q
            · rw [List.mem_singleton.mp q]; exact ⟨by omega, hes⟩
      · rintro δ S12 ⟨o6, o8, o11, o13, rs, l, rfl, hrs, hrl, hl, g1, g3, g4, b12, d12⟩
        unfold natsD at hrl
        rw [List.length_map, upto_len] at hrl
        repeat walk_at "d"
        exact h ⟨m, rs⟩ k m S12 ⟨by dsimp only; omega, rfl, hrs⟩ hk1 (by omega) b12 d12
theorem rival_spec {n : Nat} {S : DS} {d : Addr} {Q : DK} (hd : Drw S d) (h : ∀ P k m S', Drawn P k m → 1 ≤ k ∧ k ≤ 4 → 1 ≤ m ∧ m ≤ 8 → But d S S' → Drw S' d → Q P.d S') : sem fs (n + 6) 38 [.ref d] S Q := by
  refine run__law_rival_program ?_
  unfold b_38
  repeat walk_at "d"
  refine take_spec hd (by decide) fun v1 S1 v10 v11 b1 d1 => ?_
  obtain ⟨m, hm⟩ : ∃ m : Nat, 2 + v1 = (m : Int) := ⟨(2 + v1).toNat, by omega⟩
  refine o_addV hm ?_
  repeat walk_at "d"
  refine ⟨RgOk.of_le (by decide) (by omega) (by decide) (by omega), i_newL fun r S2 n2 e2 x2 => ?_⟩
  rw [show ((m : Int) - 0).toNat = m by omega, rng_zero] at e2
  have d2 := d1.ext x2
  repeat walk_at "d"
  refine some_spec d2 e2 (fun e => by have := congrArg List.length e; rw [List.length_map, List.length_range] at this; simp at this; omega) (d1.ne' n2) (by decide) fun p ns S3 h1 _ h3 _ _ e3 npd b3 d3 => ?_
  have hns : ∀ x ∈ ns, InR m x := fun x hx => mem_zero (h1 x hx)
  have hnn : ns.map D.int ≠ [] := fun e => h3 (List.map_eq_nil_iff.mp e)
  have B3 := (b1.ext x2).trans b3
  repeat walk_at "d"
  refine take_spec d3 (by decide) fun v4 S4 v40 v41 b4 d4 => ?_
  repeat walk_at "d"
  obtain ⟨k, hk, hk1⟩ : ∃ k : Nat, 3 + (if decide (v4 = 0) = true then 1 else 0 : Int) = (k : Int) ∧ (k = 3 ∨ k = 4) := by
    by_cases c : v4 = 0
    · exact ⟨4, by rw [if_pos (decide_eq_true c)]; rfl, .inr rfl⟩
    · exact ⟨3, by rw [if_neg (by rw [decide_eq_false c]; exact Bool.false_ne_true)]; rfl, .inl rfl⟩
  rw [hk]
  have e4 := b4.get npd e3
  repeat walk_at "d"
  refine ⟨RgOk.of_le (by decide) (by omega) (by decide) (by omega), i_newL fun q S5 n5 e5 x5 => ?_⟩
  rw [show ((k : Int) - 1).toNat = k - 1 by omega, rng_upto] at e5
  have e5p := x5.get e4
  have d5 := d4.ext x5
  have nqd := d4.ne' n5
  have hts : ∀ t ∈ upto (k - 1), 1 ≤ t ∧ t < k := fun t ht => by have := upto_mem ht; omega
  have B5 := (B3.trans b4).ext x5
  repeat walk_at "d"
  refine shuffled_spec d5 e5 (by unfold natsD; rw [List.length_map, upto_len]; omega) fun a ys S7 hys n7 e7 nad b7 d7 => ?_
  obtain ⟨us, rfl, hus⟩ := perm_nats hys
  have e7p := b7.get npd e5p
  have B7 := B5.trans b7
  have hul : us.length ≤ 3 := by rw [hus.length_eq, upto_len]; omega
  have e7' : S7 a = some (.lst (us.map fun (t : Nat) => D.int (t : Int))) := e7
  refine i_iterV_ref e7' ?_
  refine lc_map (fun t => (Deed.start t).d) (fun S' => S' = S7) (by omega) rfl (fun S' e => by subst e; exact seq_ref e7') ?_ ?_
  · rintro t ht acc S8 nx hacc rfl hnx
    repeat walk_at "d"
    exact ⟨hacc, hnx S8 rfl⟩
  rintro S8 rfl
  refine i_newL fun f S9 n9 e9 x9 => ?_
  have nfd := d7.ne' n9
  have d9 := d7.ext x9
  have p9 := x9.get e7p
  have npf := dne e7p n9
  have fS : S f = none := B7.back nfd n9
  have B9 := B7.ext x9
  have e9' : S9 f = some (.lst (deedsD (us.map Deed.start))) := by unfold deedsD; rw [List.map_map]; exact e9
  have hst : ∀ e ∈ us.map Deed.start, Good k m e := fun e he => by
    obtain ⟨t, ht, rfl⟩ := List.mem_map.mp he
    have := hts t (hus.mem_iff.mp ht)
    exact ⟨this.2, this.1⟩
  have main : ∀ (es : List Deed) S10, (∀ e ∈ es, Good k m e) → es.length ≤ 4 → S10 f = some (.lst (deedsD es)) → S10 p = some (.lst (ns.map D.int)) → But d S S10 → Drw S10 d → (dSeq (dAsg (dLst (dCons (dCall bTuple (dCons (dVar 4) dNil)) dNil)) (dgName 6))
  (dSeq (dFor (dRng2 (dCons (dC (.int 1)) (dCons (dVar 3) dNil))) (dgName 5) (dSeq (dAsg (dLst (dCons (dTup (dCons (dC (.str "keep")) (dCons (dCall (sem fs (n + 5) 17) (dCons (dVar 0) (dCons (dVar 2) dNil))) (dCons (dCall (sem fs (n + 5) 23) (dCons (dVar 0) dNil)) (dCons (dTup dNil) dNil))))) dNil)) (dgName 7))
    (dSeq (dIf (dAnd (dTb (dOp (oEq false) (dVar 3) (dC (.int 3)))) (dTb (dOp (oEq false) (dCall (sem fs (n + 5) 16) (dCons (dVar 0) (dCons (dC (.int 2)) dNil))) (dC (.int 0))))) (dDrop (dBM okLst (mLst fAppend) (dVar 7) (dCons (dCall (sem fs (n + 5) 36) (dCons (dVar 0) (dCons (dVar 2) (dCons (dLst dNil) dNil)))) dNil))) dNext)
    (dDrop (dBM okLst (mLst fAppend) (dVar 6) (dCons (dCall bTuple (dCons (dVar 7) dNil)) dNil))))))
  (dRet (dTup (dCons (dVar 1) (dCons (dCall bTuple (dCons (dVar 6) dNil)) dNil)))))) { nx := fun _ S' => Q .non S', rt := Q, bk := fun _ _ => False, ct := fun _ _ => False } [some (.ref d), some (.int (m : Int)), some (.ref p), some (.int (k : Int)), some (.ref f), none, none, none] S10 := by
    intro es S10 hes hel f10 p10 B10 d10
    repeat walk_at "d"
    refine i_newL fun w S11 n11 e11 x11 => ?_
    have nwd := d10.ne' n11
    have npw := dne p10 n11
    have wS : S w = none := B10.back nwd n11
    have p11 := x11.get p10
    have d11 := d10.ext x11
    repeat walk_at "d"
    refine i_rng2V (by omega) (for_inv (fun j δ S12 => ∃ o5 o7 rs, δ = [some (.ref d), some (.int (m : Int)), some (.ref p), some (.int (k : Int)), some (.ref f), o5, some (.ref w), o7] ∧ (∀ r ∈ rs, r.length ≤ 10 ∧ ∀ e ∈ r, Good k m e) ∧ rs.length = j + 1 ∧ S12 w = some (.lst (rs.map rowD)) ∧ S12 p = some (.lst (ns.map D.int)) ∧ But d S S12 ∧ Drw S12 d) ⟨none, none, [es], rfl, (fun r hr => by rw [List.mem_singleton.mp hr]; exact ⟨by omega, hes⟩), rfl, e11, p11, B10.ext x11, d11⟩ (fun _ _ _ _ _ => True.intro) ?_ ?_)
    · rintro j x δ S12 nx hx hj ⟨o5, o7, rs, rfl, hrs, hrl, g1, g3, b12, d12⟩ hnx
      obtain ⟨rfl, hjm⟩ := rng_at hx
      repeat walk_at "d"
      refine pick_spec d12 g3 hnn npd fun v S13 hv b13 d13 => ?_
      obtain ⟨z, hz, rfl⟩ := List.mem_map.mp hv
      repeat walk_at "d"
      refine number_spec d13 fun nn S14 b14 d14 _ _ => ?_
      repeat walk_at "d"
      refine i_newL fun o S15 n15 e15 x15 => ?_
      have nod := d14.ne' n15
      have d15 := d14.ext x15
      have g1a := x15.get (b14.get nwd (b13.get nwd g1))
      have g3a := x15.get (b14.get npd (b13.get npd g3))
      have nwo := dne (b14.get nwd (b13.get nwd g1)) n15
      have npo := dne (b14.get npd (b13.get npd g3)) n15
      have b15 := ((b12.trans b13).trans b14).ext x15
      have oS : S o = none := ((b12.trans b13).trans b14).back nod n15
      have hk0 : Good k m (.keep z nn []) := ⟨Nat.zero_le _, hns z hz, (fun q hq => by cases hq), List.Pairwise.nil⟩
      have fin : ∀ (es : List Deed) S16, (∀ e ∈ es, Good k m e) → es.length ≤ 3 → S16 o = some (.lst (deedsD es)) → S16 w = some (.lst (rs.map rowD)) → S16 p = some (.lst (ns.map D.int)) → But d S S16 → Drw S16 d → dDrop (dBM okLst (mLst fAppend) (dVar 6) (dCons (dCall bTuple (dCons (dVar 7) dNil)) dNil)) ⟨nx, Q, fun δ S => dRet (dTup (dCons (dVar 1) (dCons (dCall bTuple (dCons (dVar 6) dNil)) dNil))) { nx := fun _ S' => Q .non S', rt := Q, bk := fun _ _ => False, ct := fun _ _ => False } δ S, nx⟩ [some (.ref d), some (.int (m : Int)), some (.ref p), some (.int (k : Int)), some (.ref f), some (.int (1 + (j : Int))), some (.ref w), some (.ref o)] S16 := by
        intro es S16 hes hel o16 w16 p16 b16 d16
        repeat walk_at "d"
        refine m_append w16 (by rw [List.length_append, List.length_map]; show rs.length + 1 ≤ _; omega) (i_putL fun S17 e17 b17 => ?_)
        refine hnx _ _ ⟨_, _, rs ++ [es], rfl, fun r hr => ?_, by rw [List.length_append, hrl]; rfl, by rw [List.map_append]; exact e17, b17.get npw p16, b16.but b17 wS, d16.but b17 nwd.symm⟩
        rcases List.mem_append.mp hr with q | q
        · exact hrs r q
        · rw [List.mem_singleton.mp q]; exact ⟨by omega, hes⟩
      have one : ∀ e ∈ [Deed.keep z nn []], Good k m e := fun e he => by rw [List.mem_singleton.mp he]; exact hk0
      repeat walk_at "d"
      refine ite_dec (fun c => ?_) (fun c => ?_)
      · repeat walk_at "d"
        refine take_spec d15 (by decide) fun w1 S16 w10 w11 b16 d16 => ?_
        have o16 := b16.get nod e15
        have g1b := b16.get nwd g1a
        have g3b := b16.get npd g3a
        repeat walk_at "d"
        refine ite_dec (fun c2 => ?_) (fun c2 => ?_)
        · repeat walk_at "d"
          refine i_newL fun u S17 n17 e17 x17 => ?_
          have nud := d16.ne' n17
          repeat walk_at "d"
          refine deed_spec (ts := []) (k := k) (d16.ext x17) (x17.get g3b) h3 hns npd e17 (fun t ht => by cases ht) nud fun e S18 he b18 d18 => ?_
          have o18 := b18.get nod (x17.get o16)
          repeat walk_at "d"
          refine m_append o18 (by show 2 ≤ _; omega) (i_putL fun S19 e19 b19 => ?_)
          refine fin [.keep z nn [], e] S19 (fun e' he' => ?_) (Nat.le_of_ble_eq_true rfl) e19 (b19.get nwo (b18.get nwd (x17.get g1b))) (b19.get npo (b18.get npd (x17.get g3b))) ((((b15.trans b16).ext x17).trans b18).but b19 oS) (d18.but b19 nod.symm)
          simp only [List.mem_cons, List.not_mem_nil, or_false] at he'
          rcases he' with rfl | rfl
          · exact hk0
          · exact he
        · refine i_next ?_
          exact fin _ S16 one (Nat.le_of_ble_eq_true rfl) o16 g1b g3b (b15.trans b16) d16
      · refine ite_f (i_next ?_)
        exact fin _ S15 one (Nat.le_of_ble_eq_true rfl) e15 g1a g3a b15 d15
    · rintro δ S12 ⟨o5, o7, rs, rfl, hrs, hrl, g1, g3, b12, d12⟩
      rw [rng_len] at hrl
      repeat walk_at "d"
      exact h ⟨m, rs⟩ k m S12 ⟨by dsimp only; omega, rfl, hrs⟩ (by omega) (by omega) b12 d12
  repeat walk_at "d"
  refine take_spec d9 (by decide) fun w1 S10 w10 w11 b10 d10 => ?_
  have f10 := b10.get nfd e9'
  have p10 := b10.get npd p9
  repeat walk_at "d"
  refine ite_dec (fun c => ?_) (fun c => ?_)
  · repeat walk_at "d"
    refine pick_spec d10 p10 hnn npd fun v S11 hv b11 d11 => ?_
    obtain ⟨z, hz, rfl⟩ := List.mem_map.mp hv
    have f11 := b11.get nfd f10
    have p11 := b11.get npd p10
    repeat walk_at "d"
    refine some_spec d11 p11 h3 npd (by decide) fun a2 ms S12 g1 g2 g3 g4 _ e12 na2 b12 d12 => ?_
    have f12 := b12.get nfd f11
    have p12 := b12.get npd p11
    repeat walk_at "d"
    refine m_append f12 (by rw [List.length_append, deedsD_len, List.length_map]; show us.length + 1 ≤ _; omega) (i_putL fun S13 e13 b13 => ?_)
    refine main (us.map Deed.start ++ [.race z ms]) S13 (fun e he => ?_) (by rw [List.length_append, List.length_map]; show us.length + 1 ≤ 4; omega) (by rw [← deedsD_app]; exact e13) (b13.get npf p12) ((((B9.trans b10).trans b11).trans b12).but b13 fS) (d12.but b13 nfd.symm)
    rcases List.mem_append.mp he with q | q
    · exact hst e q
    · rw [List.mem_singleton.mp q]
      exact ⟨by show ms.length ≤ 1000; omega, hns z hz, fun q hq => hns q (g1 q hq), g2, g3⟩
  · refine i_next ?_
    exact main _ S10 hst (by rw [List.length_map]; omega) f10 p10 (B9.trans b10) d10
theorem anyp_spec {n : Nat} {S : DS} {d : Addr} {Q : DK} (hd : Drw S d) (h : ∀ P k m S', Drawn P k m → 1 ≤ k ∧ k ≤ 4 → 1 ≤ m ∧ m ≤ 8 → But d S S' → Drw S' d → Q P.d S') : sem fs (n + 7) 39 [.ref d] S Q := by
  refine run__law_any_program ?_
  unfold b_39
  repeat walk_at "d"
  refine take_spec hd (by decide) fun v S1 v0 v1 b1 d1 => ?_
  repeat walk_at "d"
  refine ite_dec (fun c => ?_) (fun c => ?_)
  · repeat walk_at "d"
    exact rival_spec d1 fun P k m S2 hP h1 h2 b2 d2 => h P k m S2 hP h1 h2 (b1.trans b2) d2
  · repeat walk_at "d"
    exact program_spec d1 fun P k m S2 hP h1 h2 b2 d2 => h P k m S2 hP h1 h2 (b1.trans b2) d2
theorem run_spec {n : Nat} {P : Prog} {S : DS} {d : Addr} {mm : Int} {Q : DK} (hd : Drw S d) (hP : P.ok) (hm : 0 ≤ mm ∧ mm ≤ 1000) (h : ∀ r S', goesOn P (start P) r → (r.length : Int) ≤ mm → But d S S' → Drw S' d → Q (.tup (natsD r)) S') : sem fs (n + 4) 34 [.ref d, P.d, .int mm] S Q := by
  refine run__law_drawn_run ?_
  unfold b_34
  repeat walk_at "d"
  refine lstart_spec hP fun S1 x1 => ?_
  repeat walk_at "d"
  refine i_rng1V (by omega) (for_inv (fun j δ S2 => ∃ r o5 o6 o7, δ = [some (.ref d), some P.d, some (.int mm), some (after P (start P) r).d, some (.tup (natsD r)), o5, o6, o7] ∧ goesOn P (start P) r ∧ r.length ≤ j ∧ But d S S2 ∧ Drw S2 d) ⟨[], none, none, none, rfl, True.intro, Nat.le_refl _, x1.toBut, hd.ext x1⟩ (fun _ _ _ _ _ => True.intro) ?_ ?_)
  · rintro j x δ S2 nx hx hj ⟨r, o5, o6, o7, rfl, hr, hl, b2, d2⟩ hnx
    obtain ⟨rfl, hjm⟩ := rng_at hx
    have hok := after_ok hP r _ (start_ok hP) hr
    repeat walk_at "d"
    refine lready_spec hP hok fun a S3 n3 e3 x3 => ?_
    have nad := d2.ne' n3
    have d3 := d2.ext x3
    repeat walk_at "d"
    refine ite_dec (fun c => ?_) (fun c => ?_)
    · repeat walk_at "d"
      exact h r S3 hr (by omega) (b2.ext x3) d3
    · repeat walk_at "d"
      refine pick_spec d3 e3 (fun e => c (by rw [e]; rfl)) nad fun v S4 hv b4 d4 => ?_
      obtain ⟨t, ht, rfl⟩ := List.mem_map.mp hv
      have hc := ready_mem ht
      repeat walk_at "d"
      refine o_addT (by unfold natsD; rw [List.length_map]; show r.length + 1 ≤ _; omega) ?_
      repeat walk_at "d"
      refine lstep_spec hP hok hc fun S5 x5 => ?_
      repeat walk_at "d"
      refine hnx _ _ ⟨r ++ [t], some (.int (0 + (j : Int))), some (.ref a), some (.int (t : Int)), ?_, (goes_app r _ _).mpr ⟨hr, hc, True.intro⟩, by rw [List.length_append]; show r.length + 1 ≤ _; omega, ((b2.ext x3).trans b4).ext x5, d4.ext x5⟩
      rw [after_app]
      unfold natsD
      rw [List.map_append]
      rfl
  · rintro δ S2 ⟨r, o5, o6, o7, rfl, hr, hl, b2, d2⟩
    rw [rng_len] at hl
    repeat walk_at "d"
    exact h r S2 hr (by omega) b2 d2
structure LS (d rw kp sp tr : Addr) (S0 S : DS) (L : List (Addr × List Deed)) (ks ss : List Int) (ta tb : Int) : Prop where
  rows : S rw = some (.lst (L.map fun x => D.ref x.1))
  kept : S kp = some (.lst (ks.map D.int))
  spare : S sp = some (.lst (ss.map D.int))
  trail : S tr = some (.lst ([ta, tb].map D.int))
  drw : Drw S d
  but : But d S0 S
  each : ∀ x ∈ L, S x.1 = some (.lst (deedsD x.2)) ∧ x.1 ≠ d ∧ x.1 ≠ rw ∧ x.1 ≠ kp ∧ x.1 ≠ sp
  nod : (L.map (·.1)).Nodup
  good : ∀ x ∈ L, x.2.length ≤ 8 ∧ ∀ e ∈ x.2, Good 6 8 e
  inK : ∀ q ∈ ks, InR 8 q
  inS : ∀ q ∈ ss, InR 8 q
  fr : S0 rw = none ∧ S0 kp = none ∧ S0 sp = none ∧ ∀ x ∈ L, S0 x.1 = none
  ne : rw ≠ d ∧ kp ≠ d ∧ sp ≠ d ∧ tr ≠ d ∧ rw ≠ kp ∧ rw ≠ sp ∧ rw ≠ tr ∧ kp ≠ sp ∧ kp ≠ tr ∧ sp ≠ tr
section
variable {d rw kp sp tr : Addr} {S0 S S' : DS} {L : List (Addr × List Deed)} {ks ss : List Int} {ta tb : Int}
theorem LS.dr (h : LS d rw kp sp tr S0 S L ks ss ta tb) (b : But d S S') (g : Drw S' d) : LS d rw kp sp tr S0 S' L ks ss ta tb :=
  ⟨b.get h.ne.1 h.rows, b.get h.ne.2.1 h.kept, b.get h.ne.2.2.1 h.spare, b.get h.ne.2.2.2.1 h.trail, g, h.but.trans b, fun x hx => ⟨b.get (h.each x hx).2.1 (h.each x hx).1, (h.each x hx).2⟩, h.nod, h.good, h.inK, h.inS, h.fr, h.ne⟩
theorem LS.ex (h : LS d rw kp sp tr S0 S L ks ss ta tb) (x : Ext S S') : LS d rw kp sp tr S0 S' L ks ss ta tb := h.dr x.toBut (h.drw.ext x)
theorem LS.kp_add {p : Int} (h : LS d rw kp sp tr S0 S L ks ss ta tb) (hp : InR 8 p) (e : S' kp = some (.lst (ks.map D.int ++ [.int p]))) (b : But kp S S') : LS d rw kp sp tr S0 S' L (ks ++ [p]) ss ta tb := by
  obtain ⟨n1, n2, n3, n4, n5, n6, n7, n8, n9, n10⟩ := h.ne
  refine ⟨b.get n5 h.rows, by rw [List.map_append]; exact e, b.get n8.symm h.spare, b.get n9.symm h.trail, h.drw.but b n2.symm, h.but.but b h.fr.2.1, fun x hx => ?_, h.nod, h.good, fun q hq => ?_, h.inS, h.fr, h.ne⟩
  · obtain ⟨a1, a2, a3, a4, a5⟩ := h.each x hx
    exact ⟨b.get a4 a1, a2, a3, a4, a5⟩
  · rcases List.mem_append.mp hq with z | z
    · exact h.inK q z
    · rw [List.mem_singleton.mp z]; exact hp
theorem LS.sp_pop {p : Int} (h : LS d rw kp sp tr S0 S L ks (p :: ss) ta tb) (e : S' sp = some (.lst (ss.map D.int))) (b : But sp S S') : LS d rw kp sp tr S0 S' L ks ss ta tb ∧ InR 8 p := by
  obtain ⟨n1, n2, n3, n4, n5, n6, n7, n8, n9, n10⟩ := h.ne
  refine ⟨⟨b.get n6 h.rows, b.get n8 h.kept, e, b.get n10.symm h.trail, h.drw.but b n3.symm, h.but.but b h.fr.2.2.1, fun x hx => ?_, h.nod, h.good, h.inK, fun q hq => h.inS q (List.mem_cons_of_mem _ hq), h.fr, h.ne⟩, h.inS p (List.mem_cons_self ..)⟩
  obtain ⟨a1, a2, a3, a4, a5⟩ := h.each x hx
  exact ⟨b.get a5 a1, a2, a3, a4, a5⟩
/-- another row's writing -/
theorem LS.row {o : Addr} (h : LS d rw kp sp tr S0 S L ks ss ta tb) (hS : S0 o = none) (hn : o ≠ d ∧ o ≠ rw ∧ o ≠ kp ∧ o ≠ sp ∧ o ≠ tr) (hL : ∀ x ∈ L, x.1 ≠ o) (b : But o S S') : LS d rw kp sp tr S0 S' L ks ss ta tb := by
  obtain ⟨m1, m2, m3, m4, m5⟩ := hn
  refine ⟨b.get m2.symm h.rows, b.get m3.symm h.kept, b.get m4.symm h.spare, b.get m5.symm h.trail, h.drw.but b m1.symm, h.but.but b hS, fun x hx => ?_, h.nod, h.good, h.inK, h.inS, h.fr, h.ne⟩
  obtain ⟨a1, a2, a3, a4, a5⟩ := h.each x hx
  exact ⟨b.get (hL x hx) a1, a2, a3, a4, a5⟩
theorem LS.add {o : Addr} {es : List Deed} (h : LS d rw kp sp tr S0 S L ks ss ta tb) (hS : S0 o = none) (hn : o ≠ d ∧ o ≠ rw ∧ o ≠ kp ∧ o ≠ sp ∧ o ≠ tr) (hL : ∀ x ∈ L, x.1 ≠ o) (ho : S o = some (.lst (deedsD es))) (hes : es.length ≤ 8 ∧ ∀ e ∈ es, Good 6 8 e)
    (e : S' rw = some (.lst (L.map (fun x => D.ref x.1) ++ [.ref o]))) (b : But rw S S') : LS d rw kp sp tr S0 S' (L ++ [(o, es)]) ks ss ta tb := by
  obtain ⟨n1, n2, n3, n4, n5, n6, n7, n8, n9, n10⟩ := h.ne
  obtain ⟨m1, m2, m3, m4, m5⟩ := hn
  refine ⟨by rw [List.map_append]; exact e, b.get n5.symm h.kept, b.get n6.symm h.spare, b.get n7.symm h.trail, h.drw.but b n1.symm, h.but.but b h.fr.1, fun x hx => ?_, ?_, fun x hx => ?_, h.inK, h.inS, ⟨h.fr.1, h.fr.2.1, h.fr.2.2.1, fun x hx => ?_⟩, h.ne⟩
  · rcases List.mem_append.mp hx with z | z
    · obtain ⟨a1, a2, a3, a4, a5⟩ := h.each x z
      exact ⟨b.get a3 a1, a2, a3, a4, a5⟩
    · rw [List.mem_singleton.mp z]; exact ⟨b.get m2 ho, m1, m2, m3, m4⟩
  · rw [List.map_append, List.nodup_append]
    refine ⟨h.nod, List.nodup_cons.mpr ⟨List.not_mem_nil, List.nodup_nil⟩, fun x hx y hy e => ?_⟩
    obtain ⟨z, hz, rfl⟩ := List.mem_map.mp hx
    rw [List.map_singleton, List.mem_singleton] at hy
    exact hL z hz (e.trans hy)
  · rcases List.mem_append.mp hx with z | z
    · exact h.good x z
    · rw [List.mem_singleton.mp z]; exact hes
  · rcases List.mem_append.mp hx with z | z
    · exact h.fr.2.2.2 x z
    · rw [List.mem_singleton.mp z]; exact hS
end
theorem small_log {x y : Int} (hx : x.natAbs < 2 ^ 60) (hy : y.natAbs < 2 ^ 60) : x.natAbs.log2 + y.natAbs.log2 < 1000000 := lt_log (Nat.lt_of_lt_of_le hx (pow_le (by decide))) (Nat.lt_of_lt_of_le hy (pow_le (by decide)))
theorem wait_row {es : List Deed} {p : Int} (h : ∀ e ∈ es, Good 6 8 e) (hp : InR 8 p) : ∀ e ∈ es ++ [Deed.wait p], Good 6 8 e := fun e he => by
  rcases List.mem_append.mp he with q | q
  · exact h e q
  · rw [List.mem_singleton.mp q]; exact ⟨True.intro, hp⟩
theorem more_row {es : List Deed} {x : Deed} (h : ∀ e ∈ es, Good 6 8 e) (hx : Good 6 8 x) : ∀ e ∈ es ++ [x], Good 6 8 e := fun e he => by
  rcases List.mem_append.mp he with q | q
  · exact h e q
  · rw [List.mem_singleton.mp q]; exact hx
theorem set_same {α : Type} : ∀ {xs : List α} {i : Nat} {x : α}, xs[i]? = some x → xs.set i x = xs
  | [], _, _, h => by simp at h
  | y :: ys, 0, x, h => by obtain rfl := Option.some.inj h; rfl
  | y :: ys, i + 1, x, h => by rw [List.set_cons_succ, set_same (show ys[i]? = some x from h)]
theorem long_spec {n : Nat} {S : DS} {d : Addr} {Q : DK} (hd : Drw S d) (h : ∀ P S', Drawn P 6 8 → But d S S' → Drw S' d → Q P.d S') : sem fs (n + 6) 40 [.ref d] S Q := by
  refine run__law_long_program ?_
  unfold b_40
  repeat walk_at "d"
  refine i_newL fun rw' S1 n1 e1 x1 => ?_
  repeat walk_at "d"
  refine i_newL fun kp S2 n2 e2 x2 => ?_
  repeat walk_at "d"
  refine i_newL fun sp S3 n3 e3 x3 => ?_
  have nrd := hd.ne' n1
  have d1 := hd.ext x1
  have nkd := d1.ne' n2
  have d2 := d1.ext x2
  have nsd := d2.ne' n3
  have d3 := d2.ext x3
  have nrk := dne e1 n2
  have nrs := dne (x2.get e1) n3
  have nks := dne e2 n3
  repeat walk_at "d"
  refine take_spec d3 (by decide) fun ta S4 _ _ b4 d4 => ?_
  repeat walk_at "d"
  refine take_spec d4 (by decide) fun tb S5 _ _ b5 d5 => ?_
  have r5 := b5.get nrd (b4.get nrd (x3.get (x2.get e1)))
  have k5 := b5.get nkd (b4.get nkd (x3.get e2))
  have s5 := b5.get nsd (b4.get nsd e3)
  repeat walk_at "d"
  refine i_newL fun tr S6 n6 e6 x6 => ?_
  have B6 : But d S S6 := ((((x1.trans x2).trans x3).toBut.trans b4).trans b5).ext x6
  have ls0 : LS d rw' kp sp tr S S6 [] [] [6, 7] ta tb := ⟨x6.get r5, x6.get k5, x6.get s5, e6, d5.ext x6, B6, (fun x hx => by cases hx), List.nodup_nil, (fun x hx => by cases hx), (fun x hx => by cases hx), (fun x hx => by
    simp only [List.mem_cons, List.not_mem_nil, or_false] at hx
    rcases hx with rfl | rfl <;> exact ⟨by decide, by decide⟩), ⟨n1, Ext.back x1 n2, Ext.back x1 (Ext.back x2 n3), fun x hx => by cases hx⟩, nrd, nkd, nsd, d5.ne' n6, nrk, nrs, dne r5 n6, nks, dne k5 n6, dne s5 n6⟩
  clear B6 e1 e2 e3 r5 k5 s5
  repeat walk_at "d"
  refine i_rng1V (by decide) (for_inv (fun j δ S7 => ∃ L ks ss o5 o6 o7 o8, δ = [some (.ref d), some (.ref rw'), some (.ref kp), some (.ref sp), some (.ref tr), o5, o6, o7, o8] ∧ LS d rw' kp sp tr S S7 L ks ss ta tb ∧ L.length = j ∧ (1 ≤ j → ks ≠ []) ∧ ks.length ≤ 2 * j ∧ ss.length ≤ 2) ⟨[], [], [6, 7], none, none, none, none, rfl, ls0, rfl, (fun e => by omega), Nat.le_refl _, by decide⟩ (fun _ _ _ _ _ => True.intro) ?_ ?_)
  · rintro j x δ S7 nx hx hj ⟨L, ks, ss, o5, o6, o7, o8, rfl, ls, hL, hk0, hkl, hsl⟩ hnx
    obtain ⟨rfl, hjm⟩ := rng_at hx
    have hj6 : j < 6 := hjm
    rw [Int.zero_add]
    repeat walk_at "d"
    refine number_spec ls.drw fun nn S8 b8 d8 _ _ => ?_
    replace ls := ls.dr b8 d8
    have kk := ls.kept
    repeat walk_at "d"
    obtain ⟨mm, hmm, hm0⟩ : ∃ mm : Int, 2 * (if decide (0 < (j : Int)) = true then 1 else 0 : Int) = mm ∧ ((mm = 0 ∧ j = 0) ∨ (mm = 2 ∧ 1 ≤ j)) := by
      by_cases c : 0 < (j : Int)
      · exact ⟨2, by rw [if_pos (decide_eq_true c)]; rfl, .inr ⟨rfl, by omega⟩⟩
      · exact ⟨0, by rw [if_neg (by rw [decide_eq_false c]; exact Bool.false_ne_true)]; rfl, .inl ⟨rfl, by omega⟩⟩
    refine o_mulI (small_log (by decide) (by split <;> decide)) ?_
    rw [hmm]
    repeat walk_at "d"
    refine setof_spec ls.drw kk (by rcases hm0 with q | q; exact .inr q.1; exact .inl (hk0 q.2)) ls.ne.2.1 (by omega) fun ms S9 g1 g2 g3 b9 d9 => ?_
    replace ls := ls.dr b9 d9
    have hjr : InR 8 (j : Int) := ⟨by omega, by omega⟩
    have hg0 : Good 6 8 (.keep j nn ms) := ⟨by show ms.length ≤ 1000; omega, hjr, fun q hq => ls.inK q (g1 q hq), g2⟩
    repeat walk_at "d"
    refine i_newL fun o S10 n10 e10 x10 => ?_
    have oS : S o = none := ls.but.back (ls.drw.ne' n10) n10
    have on : o ≠ d ∧ o ≠ rw' ∧ o ≠ kp ∧ o ≠ sp ∧ o ≠ tr := ⟨ls.drw.ne' n10, (dne ls.rows n10).symm, (dne ls.kept n10).symm, (dne ls.spare n10).symm, (dne ls.trail n10).symm⟩
    have oL : ∀ x ∈ L, x.1 ≠ o := fun x hx => dne (ls.each x hx).1 n10
    replace ls := ls.ex x10
    have kk := ls.kept
    have o10 : S10 o = some (.lst (deedsD [.keep j nn ms])) := e10
    have gd0 : ∀ e ∈ [Deed.keep j nn ms], Good 6 8 e := fun e he => by rw [List.mem_singleton.mp he]; exact hg0
    clear e10 n10
    repeat walk_at "d"
    refine m_append kk (by rw [List.length_append, List.length_map]; show ks.length + 1 ≤ _; omega) (i_putL fun S11 e11 b11 => ?_)
    replace ls := ls.kp_add hjr e11 b11
    have o11 := b11.get on.2.2.1 o10
    have hks1 : ks ++ [(j : Int)] ≠ [] := by simp
    have hkl1 : (ks ++ [(j : Int)]).length ≤ 2 * j + 1 := by rw [List.length_append]; show ks.length + 1 ≤ _; omega
    clear kk e11 o10 b11
    generalize ks ++ [(j : Int)] = ks1 at ls hks1 hkl1
    have p3 : ∀ (es : List Deed) ks1 ss S12 o7, LS d rw' kp sp tr S S12 L ks1 ss ta tb → ks1 ≠ [] → ks1.length ≤ 2 * (j + 1) → ss.length ≤ 2 → S12 o = some (.lst (deedsD es)) → (∀ e ∈ es, Good 6 8 e) → es.length ≤ 2 →
        ((dSeq (dFor (dRng1 (dCons (dCall (sem fs (n + 5) 16) (dCons (dVar 0) (dCons (dC (.int 5)) dNil))) dNil)) (dgName 8) (dDrop (dBM okLst (mLst fAppend) (dVar 6) (dCons (dTup (dCons (dC (.str "wait")) (dCons (dCall (sem fs (n + 5) 17) (dCons (dVar 0) (dCons (dVar 2) dNil))) dNil))) dNil))))
    (dSeq (dIf (dTb (dOp (oCmp .lt) (dVar 5) (dC (.int 5)))) (dDrop (dBM okLst (mLst fAppend) (dVar 6) (dCons (dTup (dCons (dC (.str "start")) (dCons (dOp oAdd (dVar 5) (dC (.int 1))) dNil))) dNil))) dNext)
    (dSeq (dIf (dTb (dOp (oIn false) (dVar 5) (dVar 4))) (dDrop (dBM okLst (mLst fAppend) (dVar 6) (dCons (dTup (dCons (dC (.str "wait")) (dCons (dCall (sem fs (n + 5) 17) (dCons (dVar 0) (dCons (dVar 2) dNil))) dNil))) dNil))) dNext)
    (dDrop (dBM okLst (mLst fAppend) (dVar 1) (dCons (dVar 6) dNil)))))) ⟨nx, Q, fun δ S =>
        dSeq (dIf (dAnd (dTb (dOp (oCmp .gt) (dCall bLen (dCons (dVar 3) dNil)) (dC (.int 0)))) (dTb (dOp (oEq false) (dCall (sem fs (n + 5) 16) (dCons (dVar 0) (dCons (dC (.int 3)) dNil))) (dC (.int 0))))) (dDrop (dBM okLst (mLst fInsert) (dOp oIx (dVar 1) (dC (.int 5))) (dCons (dCall (sem fs (n + 5) 16) (dCons (dVar 0) (dCons (dOp oAdd (dCall bLen (dCons (dOp oIx (dVar 1) (dC (.int 5))) dNil)) (dC (.int 1))) dNil))) (dCons (dTup (dCons (dC (.str "wait")) (dCons (dC (.int 7)) dNil))) dNil)))) dNext)
        (dRet (dTup (dCons (dC (.int 8)) (dCons (dCall bTuple (dCons (dLc (dIter (dVar 1)) (dgName 6) dYes (dCall bTuple (dCons (dVar 6) dNil)) [6]) dNil)) dNil)))) { nx := fun _ S' => Q .non S', rt := Q, bk := fun _ _ => False, ct := fun _ _ => False } δ S, nx⟩
        [some (.ref d), some (.ref rw'), some (.ref kp), some (.ref sp), some (.ref tr), some (.int (j : Int)), some (.ref o), o7, o8] S12) := by
      intro es ks1 ss S12 o7 ls hk hkl hsl o12 hes hel
      repeat walk_at "d"
      refine take_spec ls.drw (by decide) fun w S13 w0 w1 b13 d13 => ?_
      replace ls := ls.dr b13 d13
      have o13 := b13.get on.1 o12
      repeat walk_at "d"
      refine i_rng1V (by omega) (for_inv (fun i δ S14 => ∃ es o8, δ = [some (.ref d), some (.ref rw'), some (.ref kp), some (.ref sp), some (.ref tr), some (.int (j : Int)), some (.ref o), o7, o8] ∧ LS d rw' kp sp tr S S14 L ks1 ss ta tb ∧ S14 o = some (.lst (deedsD es)) ∧ (∀ e ∈ es, Good 6 8 e) ∧ es.length ≤ 2 + i) ⟨es, _, rfl, ls, o13, hes, by omega⟩ (fun _ _ _ _ _ => True.intro) ?_ ?_)
      · rintro i y δ S14 nx' hy hi ⟨es, o8, rfl, ls, o14, hes, hel⟩ hnx'
        obtain ⟨rfl, hym⟩ := rng_at hy
        repeat walk_at "d"
        refine pick_spec ls.drw ls.kept (fun e => hk (List.map_eq_nil_iff.mp e)) ls.ne.2.1 fun v S15 hv b15 d15 => ?_
        obtain ⟨z, hz, rfl⟩ := List.mem_map.mp hv
        have hzr := ls.inK z hz
        replace ls := ls.dr b15 d15
        have o15 := b15.get on.1 o14
        repeat walk_at "d"
        refine m_append o15 (by rw [List.length_append, deedsD_len]; show es.length + 1 ≤ _; omega) (i_putL fun S16 e16 b16 => ?_)
        exact hnx' _ _ ⟨es ++ [.wait z], _, rfl, ls.row oS on oL b16, by rw [← deedsD_app]; exact e16, wait_row hes hzr, by rw [List.length_append]; show es.length + 1 ≤ _; omega⟩
      · rintro δ S14 ⟨es, o8, rfl, ls, o14, hes, hel⟩
        rw [rng_len] at hel
        have p7 : ∀ (es : List Deed) S15, LS d rw' kp sp tr S S15 L ks1 ss ta tb → S15 o = some (.lst (deedsD es)) → (∀ e ∈ es, Good 6 8 e) → es.length ≤ 7 →
            ((dSeq (dIf (dTb (dOp (oIn false) (dVar 5) (dVar 4))) (dDrop (dBM okLst (mLst fAppend) (dVar 6) (dCons (dTup (dCons (dC (.str "wait")) (dCons (dCall (sem fs (n + 5) 17) (dCons (dVar 0) (dCons (dVar 2) dNil))) dNil))) dNil))) dNext)
    (dDrop (dBM okLst (mLst fAppend) (dVar 1) (dCons (dVar 6) dNil)))) ⟨nx, Q, fun δ S =>
        dSeq (dIf (dAnd (dTb (dOp (oCmp .gt) (dCall bLen (dCons (dVar 3) dNil)) (dC (.int 0)))) (dTb (dOp (oEq false) (dCall (sem fs (n + 5) 16) (dCons (dVar 0) (dCons (dC (.int 3)) dNil))) (dC (.int 0))))) (dDrop (dBM okLst (mLst fInsert) (dOp oIx (dVar 1) (dC (.int 5))) (dCons (dCall (sem fs (n + 5) 16) (dCons (dVar 0) (dCons (dOp oAdd (dCall bLen (dCons (dOp oIx (dVar 1) (dC (.int 5))) dNil)) (dC (.int 1))) dNil))) (dCons (dTup (dCons (dC (.str "wait")) (dCons (dC (.int 7)) dNil))) dNil)))) dNext)
        (dRet (dTup (dCons (dC (.int 8)) (dCons (dCall bTuple (dCons (dLc (dIter (dVar 1)) (dgName 6) dYes (dCall bTuple (dCons (dVar 6) dNil)) [6]) dNil)) dNil)))) { nx := fun _ S' => Q .non S', rt := Q, bk := fun _ _ => False, ct := fun _ _ => False } δ S, nx⟩
        [some (.ref d), some (.ref rw'), some (.ref kp), some (.ref sp), some (.ref tr), some (.int (j : Int)), some (.ref o), o7, o8] S15) := by
          intro es S15 ls o15 hes hel
          have fin : ∀ (es : List Deed) S16, LS d rw' kp sp tr S S16 L ks1 ss ta tb → S16 o = some (.lst (deedsD es)) → (∀ e ∈ es, Good 6 8 e) → es.length ≤ 8 → ∀ S17, S17 rw' = some (.lst (L.map (fun x => D.ref x.1) ++ [.ref o])) → But rw' S16 S17 → nx [some (.ref d), some (.ref rw'), some (.ref kp), some (.ref sp), some (.ref tr), some (.int (j : Int)), some (.ref o), o7, o8] S17 := fun es S16 ls o16 hes hel S17 e17 b17 =>
            hnx _ _ ⟨L ++ [(o, es)], ks1, ss, _, _, _, _, rfl, ls.add oS on oL o16 ⟨hel, hes⟩ e17 b17, by rw [List.length_append, hL]; rfl, fun _ => hk, hkl, hsl⟩
          have tt := ls.trail
          have rr := ls.rows
          refine i_seq (i_if (i_tb (i_op (i_var rfl (i_var rfl (o_inIL [ta, tb] tt (i_asB ?_)))))))
          refine ite_dec (fun c => ?_) (fun c => ?_)
          · repeat walk_at "d"
            refine pick_spec ls.drw ls.kept (fun e => hk (List.map_eq_nil_iff.mp e)) ls.ne.2.1 fun v S16 hv b16 d16 => ?_
            obtain ⟨z, hz, rfl⟩ := List.mem_map.mp hv
            have hzr := ls.inK z hz
            replace ls := ls.dr b16 d16
            have o16 := b16.get on.1 o15
            clear tt rr
            repeat walk_at "d"
            refine m_append o16 (by rw [List.length_append, deedsD_len]; show es.length + 1 ≤ _; omega) (i_putL fun S17 e17 b17 => ?_)
            replace ls := ls.row oS on oL b17
            have rr := ls.rows
            repeat walk_at "d"
            refine m_append rr (by rw [List.length_append, List.length_map]; show L.length + 1 ≤ _; omega) (i_putL fun S18 e18 b18 => ?_)
            exact fin (es ++ [.wait z]) S17 ls (by rw [← deedsD_app]; exact e17) (wait_row hes hzr) (by rw [List.length_append]; show es.length + 1 ≤ 8; omega) S18 e18 b18
          · repeat walk_at "d"
            refine m_append rr (by rw [List.length_append, List.length_map]; show L.length + 1 ≤ _; omega) (i_putL fun S18 e18 b18 => ?_)
            exact fin es S15 ls o15 hes (by omega) S18 e18 b18
        repeat walk_at "d"
        refine ite_dec (fun c => ?_) (fun c => ?_)
        · repeat walk_at "d"
          refine m_append o14 (by rw [List.length_append, deedsD_len]; show es.length + 1 ≤ _; omega) (i_putL fun S15 e15 b15 => ?_)
          have e15' : S15 o = some (.lst (deedsD (es ++ [.start (j + 1)]))) := by rw [← deedsD_app]; exact e15
          exact p7 (es ++ [.start (j + 1)]) S15 (ls.row oS on oL b15) e15' (more_row hes ⟨by show j + 1 < 6; omega, by show 1 ≤ j + 1; omega⟩) (by rw [List.length_append]; show es.length + 1 ≤ 7; omega)
        · refine i_next ?_
          exact p7 es S14 ls o14 hes (by omega)
    have sps := ls.spare
    repeat walk_at "d"
    rw [List.length_map]
    refine ite_dec (fun c => ?_) (fun c => ?_)
    · repeat walk_at "d"
      refine take_spec ls.drw (by decide) fun w S12 w0 w1 b12 d12 => ?_
      replace ls := ls.dr b12 d12
      have o12 := b12.get on.1 o11
      clear sps
      repeat walk_at "d"
      refine ite_dec (fun c2 => ?_) (fun c2 => ?_)
      · cases ss with
        | nil => exact absurd c (by decide)
        | cons q ss =>
          have sps := ls.spare
          repeat walk_at "d"
          refine m_popAt (m := 0) sps (ixN_at (j := 0) rfl (by simp)) rfl (by rw [List.length_map]; omega) (i_putL fun S13 e13 b13 => ?_)
          obtain ⟨ls', hq⟩ := ls.sp_pop e13 b13
          have o13 := b13.get on.2.2.2.1 o12
          clear sps
          repeat walk_at "d"
          refine number_spec ls'.drw fun n2 S14 b14 d14 _ _ => ?_
          replace ls' := ls'.dr b14 d14
          have o14 := b14.get on.1 o13
          have kk := ls'.kept
          repeat walk_at "d"
          refine setof_spec ls'.drw kk (.inl hks1) ls'.ne.2.1 (by decide) fun m2 S15 f1 f2 f3 b15 d15 => ?_
          replace ls' := ls'.dr b15 d15
          have o15 := b15.get on.1 o14
          have hg1 : Good 6 8 (.keep q n2 m2) := ⟨by show m2.length ≤ 1000; omega, hq, fun q hq => ls'.inK q (f1 q hq), f2⟩
          clear kk
          repeat walk_at "d"
          refine m_append o15 (Nat.le_of_ble_eq_true rfl) (i_putL fun S16 e16 b16 => ?_)
          replace ls' := ls'.row oS on oL b16
          have kk := ls'.kept
          have e16' : S16 o = some (.lst (deedsD ([.keep j nn ms] ++ [.keep q n2 m2]))) := by rw [← deedsD_app]; exact e16
          clear e16
          repeat walk_at "d"
          refine m_append kk (by rw [List.length_append, List.length_map]; show ks1.length + 1 ≤ _; omega) (i_putL fun S17 e17 b17 => ?_)
          exact p3 ([.keep j nn ms] ++ [.keep q n2 m2]) (ks1 ++ [q]) ss S17 _ (ls'.kp_add hq e17 b17) (by simp) (by rw [List.length_append]; show ks1.length + 1 ≤ _; omega) (by rw [List.length_cons] at hsl; omega) (b17.get on.2.2.1 e16') (more_row gd0 hg1) (Nat.le_refl _)
      · refine i_next ?_
        exact p3 [.keep j nn ms] ks1 ss S12 _ ls hks1 (by omega) hsl o12 gd0 (Nat.le_succ _)
    · refine ite_f (i_next ?_)
      exact p3 [.keep j nn ms] ks1 ss S11 _ ls hks1 (by omega) hsl o11 gd0 (Nat.le_succ _)
  · rintro δ S7 ⟨L, ks, ss, o5, o6, o7, o8, rfl, ls, hL, hk0, hkl, hsl⟩
    have hL6 : L.length = 6 := hL
    clear hL
    have fin : ∀ S8 (L' : List (Addr × List Deed)), S8 rw' = some (.lst (L'.map fun x => D.ref x.1)) → L'.length = 6 → (∀ x ∈ L', S8 x.1 = some (.lst (deedsD x.2)) ∧ x.2.length ≤ 9 ∧ ∀ e ∈ x.2, Good 6 8 e) → But d S S8 → Drw S8 d → dRet (dTup (dCons (dC (.int 8)) (dCons (dCall bTuple (dCons (dLc (dIter (dVar 1)) (dgName 6) dYes (dCall bTuple (dCons (dVar 6) dNil)) [6]) dNil)) dNil))) { nx := fun _ S' => Q .non S', rt := Q, bk := fun _ _ => False, ct := fun _ _ => False } [some (.ref d), some (.ref rw'), some (.ref kp), some (.ref sp), some (.ref tr), o5, o6, o7, o8] S8 := by
      intro S8 L' r8 hl8 hL8 b8 d8
      repeat walk_at "d"
      refine lc_map (fun x => rowD x.2) (fun S9 => S9 = S8) (by omega) rfl (fun S9 e => by subst e; exact seq_ref r8) ?_ ?_
      · rintro x hx acc S9 nx hacc rfl hnx
        repeat walk_at "d"
        refine c_tupleL (hL8 x hx).1 ⟨hacc, hnx S9 rfl⟩
      · rintro S9 rfl
        refine i_newL fun q S10 n10 e10 x10 => ?_
        repeat walk_at "d"
        have := h ⟨8, L'.map (·.2)⟩ S10 ⟨by dsimp only; rw [List.length_map]; exact hl8, rfl, fun r hr => by
          obtain ⟨x, hx, rfl⟩ := List.mem_map.mp hr
          exact ⟨by have := (hL8 x hx).2.1; omega, (hL8 x hx).2.2⟩⟩ (b8.ext x10) (d8.ext x10)
        unfold Prog.d at this
        rw [List.map_map] at this
        exact this
    have base : ∀ S8, LS d rw' kp sp tr S S8 L ks ss ta tb → dRet (dTup (dCons (dC (.int 8)) (dCons (dCall bTuple (dCons (dLc (dIter (dVar 1)) (dgName 6) dYes (dCall bTuple (dCons (dVar 6) dNil)) [6]) dNil)) dNil))) { nx := fun _ S' => Q .non S', rt := Q, bk := fun _ _ => False, ct := fun _ _ => False } [some (.ref d), some (.ref rw'), some (.ref kp), some (.ref sp), some (.ref tr), o5, o6, o7, o8] S8 := fun S8 ls =>
      fin S8 L ls.rows hL6 (fun x hx => ⟨(ls.each x hx).1, by have := (ls.good x hx).1; omega, (ls.good x hx).2⟩) ls.but ls.drw
    have sps := ls.spare
    repeat walk_at "d"
    rw [List.length_map]
    refine ite_dec (fun c => ?_) (fun c => ?_)
    · repeat walk_at "d"
      refine take_spec ls.drw (by decide) fun w S8 w0 w1 b8 d8 => ?_
      replace ls := ls.dr b8 d8
      clear sps
      repeat walk_at "d"
      refine ite_dec (fun c2 => ?_) (fun c2 => ?_)
      · have h5 : 5 < L.length := by omega
        have hx5 : L[5]? = some L[5] := List.getElem?_eq_getElem h5
        obtain ⟨g1, g2, g3, g4, g5⟩ := ls.each _ (List.mem_of_getElem? hx5)
        obtain ⟨q1, q2⟩ := ls.good _ (List.mem_of_getElem? hx5)
        have rr := ls.rows
        generalize hL5 : L[5] = x5 at hx5 g1 g2 g3 g4 g5 q1 q2
        repeat walk_at "d"
        refine o_ixL rr (lst_map_at (j := 5) rfl hx5) ?_
        repeat walk_at "d"
        refine o_ixL rr (lst_map_at (j := 5) rfl hx5) ?_
        repeat walk_at "d"
        rw [deedsD_len]
        refine take_spec ls.drw (by omega) fun w2 S9 w20 w21 b9 d9 => ?_
        replace ls := ls.dr b9 d9
        have g1' := b9.get g2 g1
        clear rr
        repeat walk_at "d"
        refine m_insert g1' (by omega) (by rw [deedsD_len]; omega) (i_putL fun S10 e10 b10 => ?_)
        have hbS : S x5.1 = none := ls.fr.2.2.2 x5 (List.mem_of_getElem? hx5)
        refine fin S10 (L.set 5 (x5.1, x5.2.take w2.toNat ++ [.wait 7] ++ x5.2.drop w2.toNat)) ?_ (by rw [List.length_set]; exact hL6) (fun x hx => ?_) (ls.but.but b10 hbS) (ls.drw.but b10 g2.symm)
        · rw [b10.get g3.symm ls.rows, List.map_set]
          congr 2
          exact (set_same (by rw [List.getElem?_map, hx5]; rfl)).symm
        · obtain ⟨i, hi⟩ := List.mem_iff_getElem?.mp hx
          by_cases hi5 : 5 = i
          · subst hi5
            rw [List.getElem?_set_self h5] at hi
            obtain rfl := Option.some.inj hi
            refine ⟨?_, ?_, fun e he => ?_⟩
            · dsimp only
              rw [e10]; unfold deedsD; rw [List.map_append, List.map_append, List.map_take, List.map_drop]; rfl
            · simp only [List.length_append, List.length_take, List.length_drop, List.length_singleton]; omega
            · rcases List.mem_append.mp he with z | z
              · rcases List.mem_append.mp z with z | z
                · exact q2 e (List.mem_of_mem_take z)
                · rw [List.mem_singleton.mp z]; exact ⟨True.intro, by decide, by decide⟩
              · exact q2 e (List.mem_of_mem_drop z)
          · rw [List.getElem?_set_ne hi5] at hi
            have hxL := List.mem_of_getElem? hi
            have hne : x.1 ≠ x5.1 := fun e => hi5 (by
              have k1 : (L.map (·.1))[i]? = some x.1 := by rw [List.getElem?_map, hi]; rfl
              have k2 : (L.map (·.1))[5]? = some x5.1 := by rw [List.getElem?_map, hx5]; rfl
              exact (List.getElem?_inj (by rw [List.length_map]; exact h5) ls.nod).mp (by rw [k2, k1, e]))
            exact ⟨b10.get hne (ls.each x hxL).1, by have := (ls.good x hxL).1; omega, (ls.good x hxL).2⟩
      · refine i_next ?_
        exact base S8 ls
    · refine ite_f (i_next ?_)
      exact base S7 ls
theorem vals_spec {n : Nat} {P : Prog} {s : Stt} {S : DS} {Q : DK} (hP : P.ok) (h : ∀ S', Ext S S' → Q (.tup ((List.range P.many).map fun (p : Nat) => optI (worth s.kept (p : Int)))) S') : sem fs (n + 2) 10 [P.d, s.d] S Q := by
  refine run_values_at ?_
  unfold b_10
  have hm := hP.many
  repeat walk_at "d"
  refine o_ixT (v := .int (P.many : Int)) rfl ?_
  repeat walk_at "d"
  refine i_rng1V (by omega) ?_
  rw [Int.toNat_natCast, rng_map]
  refine lc_map (fun (p : Nat) => optI (worth s.kept (p : Int))) (Ext S) (by rw [List.length_range]; omega) (Ext.refl S) (fun _ _ => True.intro) ?_ ?_
  · intro p hp acc S1 nx hacc hJ hnx
    rw [Int.zero_add]
    repeat walk_at "d"
    refine o_ixT (v := keptD s.kept) rfl ?_
    repeat walk_at "d"
    refine worth_spec ⟨hacc, hnx S1 hJ⟩
  · intro S1 hJ
    refine i_newL fun q S2 n2 e2 x2 => ?_
    repeat walk_at "d"
    exact h S2 (hJ.trans x2)
theorem stuckP_spec {n : Nat} {P : Prog} {s : Stt} {S : DS} {Q : DK} (hP : P.ok) (hs : s.ok P) (h : ∀ S', Ext S S' → Q (.tup (natsD ((List.range P.rows.length).filter fun t => (next P s t).isSome))) S') : sem fs (n + 2) 9 [P.d, s.d] S Q := by
  refine run_stuck_at ?_
  unfold b_9
  have h1 := hP.n1
  repeat walk_at "d"
  refine o_ixT (v := .tup (P.rows.map rowD)) rfl ?_
  repeat walk_at "d"
  rw [List.length_map]
  refine i_rng1V (by omega) ?_
  rw [Int.toNat_natCast, rng_map]
  refine lc_fm (fun t => if (next P s t).isSome = true then some (D.int (t : Int)) else none) (Ext S) (by rw [List.length_range]; omega) (Ext.refl S) (fun _ _ => True.intro) ?_ ?_
  · intro t ht acc S1 nx hacc hJ hnx
    rw [Int.zero_add]
    repeat walk_at "d"
    refine next_spec hs (List.mem_range.mp ht) ?_
    have := hnx S1 hJ
    repeat walk_at "d"
    cases hn : next P s t with
    | none =>
      rw [hn] at this
      exact ite_f (by simpa using this)
    | some e =>
      rw [hn] at this
      rw [show isNon (deedD (some e)) = false by cases e <;> rfl]
      refine ite_nf ?_
      repeat walk_at "d"
      exact ⟨hacc, this⟩
  · intro S1 hJ
    have e : (List.range P.rows.length).filterMap (fun t => if (next P s t).isSome = true then some (D.int (t : Int)) else none) = natsD ((List.range P.rows.length).filter fun t => (next P s t).isSome) := by
      unfold natsD
      generalize List.range P.rows.length = l
      induction l with
      | nil => rfl
      | cons x l ih =>
        rw [List.filterMap_cons, List.filter_cons]
        by_cases c : (next P s x).isSome = true
        · rw [if_pos c, if_pos c, List.map_cons, ih]
        · rw [if_neg c, if_neg c, ih]
    rw [e]
    refine i_newL fun a S2 n2 e2 x2 => ?_
    repeat walk_at "d"
    exact h S2 (hJ.trans x2)
theorem lstuck_spec {n : Nat} {P : Prog} {s : Stt} {S : DS} {Q : DK} (hP : P.ok) (hs : s.ok P) (h : ∀ S', Ext S S' → Q (.tup (natsD ((List.range P.rows.length).filter fun t => (next P s t).isSome))) S') : sem fs (n + 1) 31 [P.d, s.d] S Q := by
  refine run__law_stuck_at ?_
  unfold b_31
  have h1 := hP.n1
  repeat walk_at "d"
  refine o_ixT (v := .tup (P.rows.map rowD)) rfl ?_
  repeat walk_at "d"
  rw [List.length_map]
  refine i_rng1V (by omega) ?_
  rw [Int.toNat_natCast, rng_map]
  refine lc_fm (fun t => if (next P s t).isSome = true then some (D.int (t : Int)) else none) (Ext S) (by rw [List.length_range]; omega) (Ext.refl S) (fun _ _ => True.intro) ?_ ?_
  · intro t ht acc S1 nx hacc hJ hnx
    obtain ⟨o, r, h1, h2, h3⟩ := at_task hs (List.mem_range.mp ht)
    rw [next_of h1 h2] at hnx
    have := hnx S1 hJ
    rw [Int.zero_add]
    repeat walk_at "d"
    refine o_ixT (v := .tup (s.cs.map optD)) rfl ?_
    repeat walk_at "d"
    refine o_ixT (cs_at h1) ?_
    repeat walk_at "d"
    cases o with
    | none => exact ite_f (by simpa using this)
    | some c =>
      refine ite_t ?_
      repeat walk_at "d"
      refine o_ixT (v := .tup (s.cs.map optD)) rfl ?_
      repeat walk_at "d"
      refine o_ixT (cs_at h1) ?_
      repeat walk_at "d"
      refine o_ixT (v := .tup (P.rows.map rowD)) rfl ?_
      repeat walk_at "d"
      refine o_ixT (row_at h2) ?_
      repeat walk_at "d"
      refine c_lenT (xs := r.map Deed.d) ?_
      rw [List.length_map]
      refine o_ltI (k := (c : Int)) ?_
      repeat walk_at "d"
      rw [Option.bind_some] at this
      refine ite_dec (fun q => ?_) (fun q => ?_)
      · repeat walk_at "d"
        rw [List.getElem?_eq_getElem (show c < r.length by omega)] at this
        exact ⟨hacc, this⟩
      · rw [List.getElem?_eq_none (show r.length ≤ c by omega)] at this
        simpa using this
  · intro S1 hJ
    have e : (List.range P.rows.length).filterMap (fun t => if (next P s t).isSome = true then some (D.int (t : Int)) else none) = natsD ((List.range P.rows.length).filter fun t => (next P s t).isSome) := by
      unfold natsD
      generalize List.range P.rows.length = l
      induction l with
      | nil => rfl
      | cons x l ih =>
        rw [List.filterMap_cons, List.filter_cons]
        by_cases c : (next P s x).isSome = true
        · rw [if_pos c, if_pos c, List.map_cons, ih]
        · rw [if_neg c, if_neg c, ih]
    rw [e]
    refine i_newL fun a S2 n2 e2 x2 => ?_
    repeat walk_at "d"
    exact h S2 (hJ.trans x2)
theorem pl_nats {m : Nat} {ts : List Nat} (h : ts.length ≤ 16777216) : Pl (m + 2) (.tup (natsD ts)) := ⟨by unfold natsD; rw [List.length_map]; exact h, fun x hx => by
  obtain ⟨i, _, rfl⟩ := List.mem_map.mp hx
  exact True.intro⟩
theorem ready_len {P : Prog} {s : Stt} : (ready P s).length ≤ P.rows.length := by
  unfold ready
  have := List.length_filter_le (canT P s) (List.range P.rows.length)
  rwa [List.length_range] at this
theorem natsD_len {ts : List Nat} : (natsD ts).length = ts.length := by unfold natsD; rw [List.length_map]
theorem natsD_int {ts : List Nat} : natsD ts = (ts.map fun (t : Nat) => (t : Int)).map D.int := by unfold natsD; rw [List.map_map]; rfl
def inR (P : Prog) (s : Stt) (z : Int) : Bool := decide (z ∈ (ready P s).map fun (t : Nat) => (t : Int))
theorem inR_get {P : Prog} {s : Stt} {z : Int} (h : inR P s z = true) : ∃ t : Nat, z = (t : Int) ∧ canT P s t = true := by
  obtain ⟨t, ht, rfl⟩ := List.mem_map.mp (of_decide_eq_true h)
  exact ⟨t, rfl, ready_mem ht⟩
theorem inR_nat {P : Prog} {s : Stt} {t : Nat} (hP : P.ok) : inR P s (t : Int) = canT P s t := by
  unfold inR
  rw [Bool.eq_iff_iff, decide_eq_true_iff]
  constructor
  · intro h
    obtain ⟨u, hu, e⟩ := List.mem_map.mp h
    have : u = t := by have : (u : Int) = (t : Int) := e; omega
    subst this
    exact ready_mem hu
  · exact fun h => List.mem_map.mpr ⟨t, List.mem_filter.mpr ⟨List.mem_range.mpr (canT_lt hP h), h⟩, rfl⟩
theorem inR_neg {P : Prog} {s : Stt} {z : Int} (h : z < 0) : inR P s z = false := by
  unfold inR
  rw [decide_eq_false_iff_not]
  intro q
  obtain ⟨u, hu, e⟩ := List.mem_map.mp q
  have : (u : Int) = z := e
  omega
def walks (P : Prog) : Stt → List Int → Bool
  | _, [] => true
  | s, z :: r => inR P s z && walks P (step P s z.toNat) r
theorem isrun_spec {n : Nat} {P : Prog} {zs : List Int} {S : DS} {Q : DK} (hP : P.ok) (h : ∀ S', Ext S S' → Q (.bl (walks P (start P) zs)) S') : sem fs (n + 4) 12 [P.d, .tup (zs.map D.int)] S Q := by
  refine run_is_run ?_
  unfold b_12
  repeat walk_at "d"
  refine start_spec hP fun S1 x1 => ?_
  repeat walk_at "d"
  refine for_inv (fun j δ S2 => ∃ s o3, δ = [some P.d, some (.tup (zs.map D.int)), some s.d, o3] ∧ s.ok P ∧ walks P (start P) zs = walks P s (zs.drop j) ∧ Ext S S2) ⟨start P, none, rfl, start_ok hP, rfl, x1⟩ (fun _ _ _ _ _ => rfl) ?_ ?_
  · rintro j x δ S2 nx hx hj ⟨s, o3, rfl, hs, hw, x2⟩ hnx
    obtain ⟨z, hz, rfl⟩ := map_at hx
    have hd : zs.drop j = z :: zs.drop (j + 1) := by
      rw [List.length_map] at hj
      rw [List.drop_eq_getElem_cons hj]
      rw [List.getElem?_eq_getElem hj] at hz
      rw [Option.some.inj hz]
    rw [hd, walks] at hw
    repeat walk_at "d"
    refine ready_spec hP hs fun S3 x3 => ?_
    rw [natsD_int]
    refine o_notinI _ ?_
    repeat walk_at "d"
    refine ite_ndec (fun c => ?_) (fun c => ?_)
    · repeat walk_at "d"
      rw [show inR P s z = false from decide_eq_false c, Bool.false_and] at hw
      have := h S3 (x2.trans x3)
      rwa [hw] at this
    · have hin : inR P s z = true := decide_eq_true c
      obtain ⟨t, rfl, ht⟩ := inR_get hin
      rw [hin, Bool.true_and, Int.toNat_natCast] at hw
      repeat walk_at "d"
      refine step_spec hP hs (canT_lt hP ht) ht fun S4 x4 => ?_
      repeat walk_at "d"
      exact hnx _ _ ⟨step P s t, some (.int (t : Int)), rfl, step_ok hP hs ht, hw, (x2.trans x3).trans x4⟩
  · rintro δ S2 ⟨s, o3, rfl, hs, hw, x2⟩
    rw [List.length_map, List.drop_length] at hw
    repeat walk_at "d"
    have := h S2 x2
    rwa [hw] at this
theorem lwalks_spec {n : Nat} {P : Prog} {zs : List Int} {S : DS} {Q : DK} (hP : P.ok) (h : ∀ S', Ext S S' → Q (.bl (walks P (start P) zs)) S') : sem fs (n + 3) 30 [P.d, .tup (zs.map D.int)] S Q := by
  refine run__law_walks ?_
  unfold b_30
  repeat walk_at "d"
  refine lstart_spec hP fun S1 x1 => ?_
  repeat walk_at "d"
  refine for_inv (fun j δ S2 => ∃ s o3, δ = [some P.d, some (.tup (zs.map D.int)), some s.d, o3] ∧ s.ok P ∧ walks P (start P) zs = walks P s (zs.drop j) ∧ Ext S S2) ⟨start P, none, rfl, start_ok hP, rfl, x1⟩ (fun _ _ _ _ _ => rfl) ?_ ?_
  · rintro j x δ S2 nx hx hj ⟨s, o3, rfl, hs, hw, x2⟩ hnx
    obtain ⟨z, hz, rfl⟩ := map_at hx
    have hd : zs.drop j = z :: zs.drop (j + 1) := by
      rw [List.length_map] at hj
      rw [List.drop_eq_getElem_cons hj]
      rw [List.getElem?_eq_getElem hj] at hz
      rw [Option.some.inj hz]
    rw [hd, walks] at hw
    have out : inR P s z = false → ∀ S3, Ext S S3 → Q (.bl false) S3 := fun hin S3 x3 => by
      rw [hin, Bool.false_and] at hw
      have := h S3 x3
      rwa [hw] at this
    repeat walk_at "d"
    refine ite_dec (fun c0 => ?_) (fun c0 => ?_)
    · repeat walk_at "d"
      refine o_ixT (v := .tup (P.rows.map rowD)) rfl ?_
      repeat walk_at "d"
      rw [List.length_map]
      obtain ⟨t, rfl⟩ : ∃ t : Nat, z = (t : Int) := ⟨z.toNat, by omega⟩
      rw [inR_nat hP] at hw out
      refine ite_ndec (fun c1 => ?_) (fun c1 => ?_)
      · repeat walk_at "d"
        refine out ?_ S2 x2
        cases hc : canT P s t with
        | false => rfl
        | true => exact absurd (canT_lt hP hc) (by omega)
      · repeat walk_at "d"
        refine lcan_spec hP hs (by omega) fun S3 x3 => ?_
        repeat walk_at "d"
        cases hc : canT P s t with
        | false =>
          repeat walk_at "d"
          exact out hc S3 (x2.trans x3)
        | true =>
          repeat walk_at "d"
          rw [hc, Bool.true_and, Int.toNat_natCast] at hw
          refine lstep_spec hP hs hc fun S4 x4 => ?_
          repeat walk_at "d"
          exact hnx _ _ ⟨step P s t, some (.int (t : Int)), rfl, step_ok hP hs hc, hw, (x2.trans x3).trans x4⟩
    · repeat walk_at "d"
      exact out (inR_neg (by omega)) S2 x2
  · rintro δ S2 ⟨s, o3, rfl, hs, hw, x2⟩
    rw [List.length_map, List.drop_length] at hw
    repeat walk_at "d"
    have := h S2 x2
    rwa [hw] at this
def tot (P : Prog) : Nat := (P.rows.map List.length).sum
def done (s : Stt) : Nat := (s.cs.map fun o => o.getD 0).sum
theorem done_le : ∀ (cs : List (Option Nat)) (rows : List (List Deed)), cs.length = rows.length → (∀ (t c : Nat) (r : List Deed), cs[t]? = some (some c) → rows[t]? = some r → c ≤ r.length) → (cs.map fun o => o.getD 0).sum ≤ (rows.map List.length).sum
  | [], rows, _, _ => Nat.zero_le _
  | o :: cs, [], h, _ => by cases h
  | o :: cs, r :: rows, h, h1 => by
    have ih := done_le cs rows (Nat.succ.inj h) fun t c r' hc hr => h1 (t + 1) c r' hc hr
    have h0 : o.getD 0 ≤ r.length := by
      cases o with
      | none => exact Nat.zero_le _
      | some c => exact h1 0 c r rfl rfl
    rw [List.map_cons, List.map_cons, List.sum_cons, List.sum_cons]
    omega
theorem step_done {P : Prog} (hP : P.ok) {s : Stt} {t : Nat} (hr : canT P s t = true) : done s + 1 ≤ done (step P s t) := by
  cases hn : next P s t with
  | none => unfold canT at hr; rw [hn] at hr; cases hr
  | some e =>
    obtain ⟨hok, c, r, h1, h2, h3⟩ := next_ok hP hn
    rw [step_of h1 hn]
    have k2 := sum_set s.cs t (some c) (some (c + 1)) h1
    simp only [Option.getD_some] at k2
    have k3 := startBy_sum (cs := s.cs.set t (some (c + 1))) (cs0 := s.cs) (e := e) fun t' ht' => by
      by_cases ht : t = t'
      · subst ht; rw [h1] at ht'; cases ht'
      · rw [List.getElem?_set_ne ht]; exact ht'
    unfold done
    dsimp only
    omega
def firsts (P : Prog) : Nat → Stt → List Nat
  | 0, _ => []
  | f + 1, s => match ready P s with
    | [] => []
    | t :: _ => t :: firsts P f (step P s t)
theorem firsts_nil {P : Prog} {s : Stt} (h : ready P s = []) (f : Nat) : firsts P f s = [] := by
  cases f with
  | zero => rfl
  | succ f => unfold firsts; rw [h]
theorem firsts_cons {P : Prog} {s : Stt} {t : Nat} {r : List Nat} (h : ready P s = t :: r) (f : Nat) : firsts P (f + 1) s = t :: firsts P f (step P s t) := by
  conv => lhs; unfold firsts
  rw [h]
theorem firsts_more {P : Prog} (hP : P.ok) : ∀ (f g : Nat) (s : Stt), s.ok P → tot P ≤ f + done s → f ≤ g → firsts P g s = firsts P f s
  | f, g, s, hs, h, hfg => by
    cases hr : ready P s with
    | nil => rw [firsts_nil hr, firsts_nil hr]
    | cons t r =>
      have hc := ready_mem (P := P) (s := s) (t := t) (by rw [hr]; exact List.mem_cons_self ..)
      have h1 := step_done hP hc
      have hs' := step_ok hP hs hc
      have h2 := done_le _ _ hs'.len hs'.le
      cases f with
      | zero => exfalso; unfold tot done at *; omega
      | succ f =>
        cases g with
        | zero => omega
        | succ g =>
          rw [firsts_cons hr, firsts_cons hr, firsts_more hP f g _ hs' (by omega) (by omega)]
theorem runon_spec {n : Nat} {P : Prog} {s : Stt} {f : Nat} {S : DS} {Q : DK} (hP : P.ok) (hs : s.ok P) (hf : tot P ≤ f + done s) (hf2 : f ≤ 100000) (h : ∀ S', Ext S S' → Q (.tup (natsD (firsts P f s))) S') : sem fs (n + 4) 8 [P.d, s.d] S Q := by
  refine run_run_on ?_
  unfold b_8
  repeat walk_at "d"
  refine i_newL fun a S1 n1 e1 x1 => ?_
  repeat walk_at "d"
  refine while_inv (fun m δ S2 => ∃ g s' fd o3, m = g + 1 ∧ δ = [some P.d, some s'.d, some (.ref a), o3] ∧ s'.ok P ∧ tot P ≤ g + done s' ∧ fd.length + g = f ∧ S2 a = some (.lst (natsD fd)) ∧ Ext S S2 ∧ firsts P f s = fd ++ firsts P g s') (f + 1) ⟨f, s, [], none, rfl, rfl, hs, hf, Nat.zero_add _, e1, x1, rfl⟩ ?_
  rintro m δ S2 nx ⟨g, s', fd, o3, rfl, rfl, hs', hg, hl, e2, x2, hfi⟩ hnx
  repeat walk_at "d"
  refine ready_spec hP hs' fun S3 x3 => ?_
  have e3 := x3.get e2
  repeat walk_at "d"
  rw [natsD_len]
  cases hr : ready P s' with
  | nil =>
    refine ite_dec (fun _ => ?_) (fun c => absurd rfl c)
    repeat walk_at "d"
    rw [firsts_nil hr, List.append_nil] at hfi
    rw [← hfi]
    exact h S3 (x2.trans x3)
  | cons t r =>
    have hc := ready_mem (P := P) (s := s') (t := t) (by rw [hr]; exact List.mem_cons_self ..)
    have h1 := step_done hP hc
    have hs2 := step_ok hP hs' hc
    have h2 := done_le _ _ hs2.len hs2.le
    refine ite_dec (fun c => absurd c (by rw [List.length_cons]; omega)) (fun _ => ?_)
    have hat : L2.atI (natsD (t :: r)) 0 = some (.int (t : Int)) := atI_at (j := 0) rfl rfl
    repeat walk_at "d"
    refine o_ixT hat ?_
    repeat walk_at "d"
    refine m_append e3 (by rw [List.length_append, natsD_len]; show fd.length + 1 ≤ _; omega) (i_putL fun S4 e4 b4 => ?_)
    repeat walk_at "d"
    refine o_ixT hat ?_
    repeat walk_at "d"
    refine step_spec hP hs' (canT_lt hP hc) hc fun S5 x5 => ?_
    repeat walk_at "d"
    obtain ⟨g', rfl⟩ : ∃ g', g = g' + 1 := ⟨g - 1, by unfold tot done at *; omega⟩
    refine hnx (g' + 1) _ _ (by omega) ⟨g', step P s' t, fd ++ [t], _, rfl, rfl, hs2, by omega, by rw [List.length_append]; show fd.length + 1 + g' = f; omega, x5.get (by unfold natsD; rw [List.map_append]; exact e4), ((x2.trans x3).but b4 n1).trans x5, ?_⟩
    rw [hfi, firsts_cons hr, List.append_assoc]
    rfl
theorem lrunon_spec {n : Nat} {P : Prog} {r : List Nat} {S : DS} {Q : DK} (hP : P.ok) (hr : goesOn P (start P) r) (hl : r.length ≤ 100000) (h : ∀ S', Ext S S' → Q (.tup (natsD (r ++ firsts P 60 (after P (start P) r)))) S') : sem fs (n + 5) 33 [P.d, .tup (natsD r)] S Q := by
  refine run__law_run_on ?_
  unfold b_33
  repeat walk_at "d"
  refine lbehind_spec hP hr fun S1 x1 => ?_
  repeat walk_at "d"
  refine i_rng1V (by decide) (for_inv (fun j δ S2 => ∃ s' fd o3 o4, δ = [some P.d, some (.tup (natsD (r ++ fd))), some s'.d, o3, o4] ∧ s'.ok P ∧ fd.length = j ∧ Ext S S2 ∧ firsts P 60 (after P (start P) r) = fd ++ firsts P (60 - j) s') ⟨after P (start P) r, [], none, none, by rw [List.append_nil], after_ok hP _ _ (start_ok hP) hr, rfl, x1, rfl⟩ (fun _ _ _ _ _ => True.intro) ?_ ?_)
  · rintro j x δ S2 nx hx hj ⟨s', fd, o3, o4, rfl, hs', hfl, x2, hfi⟩ hnx
    obtain ⟨rfl, hjm⟩ := rng_at hx
    have hj60 : j < 60 := hjm
    repeat walk_at "d"
    refine lready_spec hP hs' fun a S3 n3 e3 x3 => ?_
    repeat walk_at "d"
    rw [natsD_len]
    cases hr' : ready P s' with
    | nil =>
      refine ite_dec (fun _ => ?_) (fun c => absurd rfl c)
      repeat walk_at "d"
      rw [firsts_nil hr', List.append_nil] at hfi
      rw [← hfi]
      exact h S3 (x2.trans x3)
    | cons t q =>
      rw [hr'] at e3
      have hc := ready_mem (P := P) (s := s') (t := t) (by rw [hr']; exact List.mem_cons_self ..)
      have hs2 := step_ok hP hs' hc
      refine ite_dec (fun c => absurd c (by rw [List.length_cons]; omega)) (fun _ => ?_)
      have hat : L2.atI (natsD (t :: q)) 0 = some (.int (t : Int)) := atI_at (j := 0) rfl rfl
      repeat walk_at "d"
      refine o_ixL e3 hat ?_
      repeat walk_at "d"
      refine o_addT (by rw [natsD_len, List.length_append]; show r.length + fd.length + 1 ≤ _; omega) ?_
      repeat walk_at "d"
      refine o_ixL e3 hat ?_
      repeat walk_at "d"
      refine lstep_spec hP hs' hc fun S5 x5 => ?_
      repeat walk_at "d"
      refine hnx _ _ ⟨step P s' t, fd ++ [t], some (.int (0 + (j : Int))), some (.ref a), ?_, hs2, by rw [List.length_append, hfl]; rfl, (x2.trans x3).trans x5, ?_⟩
      · rw [← List.append_assoc]
        unfold natsD
        rw [List.map_append (l₁ := r ++ fd)]
        rfl
      · rw [hfi, show 60 - j = (60 - (j + 1)) + 1 by omega, firsts_cons hr', List.append_assoc]
        rfl
  · rintro δ S2 ⟨s', fd, o3, o4, rfl, hs', hfl, x2, hfi⟩
    rw [rng_len] at hfl
    repeat walk_at "d"
    rw [rng_len] at hfi
    rw [show fd = firsts P 60 (after P (start P) r) by rw [hfi]; show fd = fd ++ firsts P 0 s'; exact (List.append_nil fd).symm]
    exact h S2 x2
theorem ending_spec {n : Nat} {P : Prog} {s : Stt} {S : DS} {Q : DK} (hP : P.ok) (hs : s.ok P) (h : ∀ S', Ext S S' → Q (.tup [.tup ((List.range P.many).map fun (p : Nat) => optI (worth s.kept (p : Int))), .tup (natsD ((List.range P.rows.length).filter fun t => (next P s t).isSome))]) S') : sem fs (n + 3) 11 [P.d, s.d] S Q := by
  refine run_ending_at ?_
  unfold b_11
  repeat walk_at "d"
  refine vals_spec hP fun S1 x1 => ?_
  repeat walk_at "d"
  refine stuckP_spec hP hs fun S2 x2 => ?_
  repeat walk_at "d"
  exact h S2 (x1.trans x2)
theorem lending_spec {n : Nat} {P : Prog} {s : Stt} {S : DS} {Q : DK} (hP : P.ok) (hs : s.ok P) (h : ∀ S', Ext S S' → Q (.tup [.tup ((List.range P.many).map fun (p : Nat) => optI (worth s.kept (p : Int))), .tup (natsD ((List.range P.rows.length).filter fun t => (next P s t).isSome))]) S') : sem fs (n + 2) 32 [P.d, s.d] S Q := by
  refine run__law_ending ?_
  unfold b_32
  have hm := hP.many
  repeat walk_at "d"
  refine o_ixT (v := .int (P.many : Int)) rfl ?_
  repeat walk_at "d"
  refine i_rng1V (by omega) ?_
  rw [Int.toNat_natCast, rng_map]
  refine lc_map (fun (p : Nat) => optI (worth s.kept (p : Int))) (Ext S) (by rw [List.length_range]; omega) (Ext.refl S) (fun _ _ => True.intro) ?_ ?_
  · intro p hp acc S1 nx hacc hJ hnx
    rw [Int.zero_add]
    repeat walk_at "d"
    refine o_ixT (v := keptD s.kept) rfl ?_
    repeat walk_at "d"
    refine lworth_spec ⟨hacc, hnx S1 hJ⟩
  · intro S1 hJ
    refine i_newL fun q S2 n2 e2 x2 => ?_
    repeat walk_at "d"
    refine lstuck_spec hP hs fun S3 x3 => ?_
    repeat walk_at "d"
    exact h S3 ((hJ.trans x2).trans x3)
theorem dcut_map {α : Type} {xs : List α} {f : α → D} {lo hi : Option Int} : dcut (xs.map f) lo hi = (dcut xs lo hi).map f := by
  unfold dcut
  rw [List.length_map, List.map_take, List.map_drop]
theorem dcut_len {α : Type} {xs : List α} {lo hi : Option Int} : (dcut xs lo hi).length ≤ xs.length := by
  unfold dcut
  rw [List.length_take, List.length_drop]
  omega
theorem cat_ints {xs ys : List Int} (hx : xs.length ≤ 100000) (hy : ys.length ≤ 100000) {S : DS} {Q : DK} (h : Q (.tup ((xs ++ ys).map D.int)) S) : oAdd (.tup (xs.map D.int)) (.tup (ys.map D.int)) S Q :=
  o_addT (by rw [List.length_map, List.length_map]; omega) (by rw [← List.map_append]; exact h)
theorem cut_ints {xs : List Int} {lo hi : Option Int} {S : DS} {Q : DK} (h : Q (.tup ((dcut xs lo hi).map D.int)) S) : oSl (.tup (xs.map D.int)) lo hi S Q := o_slT (by rw [dcut_map]; exact h)
theorem bent_spec {n : Nat} {P : Prog} {zs : List Int} {S : DS} {d : Addr} {Q : DK} (hd : Drw S d) (hP : P.ok) (hz : zs.length ≤ 1000) (h : ∀ (us : List Int) S', us.length ≤ 10000 → But d S S' → Drw S' d → Q (.tup (us.map D.int)) S') : sem fs (n + 3) 41 [.ref d, P.d, .tup (zs.map D.int)] S Q := by
  refine run__law_bent_run ?_
  unfold b_41
  have hn0 := hP.n0
  repeat walk_at "d"
  refine take_spec hd (by decide) fun kd S1 k0 k1 b1 d1 => ?_
  repeat walk_at "d"
  refine o_ixT (v := .tup (P.rows.map rowD)) rfl ?_
  repeat walk_at "d"
  refine o_powI (by decide) ?_
  repeat walk_at "d"
  refine o_ixT (v := .tup (P.rows.map rowD)) rfl ?_
  repeat walk_at "d"
  rw [List.length_map]
  refine take_spec d1 (by omega) fun w S2 w0 w1 b2 d2 => ?_
  repeat walk_at "d"
  refine i_newL fun a S3 n3 e3 x3 => ?_
  repeat walk_at "d"
  refine pick_spec (d2.ext x3) e3 (by simp) (d2.ne' n3) fun v S4 hv b4 d4 => ?_
  obtain ⟨st, rfl⟩ : ∃ st : Int, v = .int st := by
    simp only [List.mem_cons, List.not_mem_nil, or_false] at hv
    rcases hv with rfl | rfl | rfl | rfl <;> exact ⟨_, rfl⟩
  have B4 := ((b1.trans b2).ext x3).trans b4
  have one : D.tup [.int st] = .tup ([st].map D.int) := rfl
  have fin : ∀ (us : List Int) S', us.length ≤ 10000 → But d S S' → Drw S' d → Q (.tup (us.map D.int)) S' := h
  repeat walk_at "d"
  refine ite_dec (fun c => ?_) (fun c => ?_)
  · repeat walk_at "d"
    rw [one]
    exact cat_ints (by omega) (Nat.le_of_ble_eq_true rfl) (h _ S4 (by rw [List.length_append]; show zs.length + 1 ≤ _; omega) B4 d4)
  repeat walk_at "d"
  rw [List.length_map]
  refine ite_dec (fun c2 => ?_) (fun c2 => ?_)
  · repeat walk_at "d"
    rw [one]
    exact cat_ints (by omega) (Nat.le_of_ble_eq_true rfl) (h _ S4 (by rw [List.length_append]; show zs.length + 1 ≤ _; omega) B4 d4)
  repeat walk_at "d"
  rw [List.length_map]
  refine take_spec d4 (by omega) fun k S5 k0 k1 b5 d5 => ?_
  have B5 := B4.trans b5
  have L1 : ∀ (lo hi : Option Int), (dcut zs lo hi).length ≤ 1000 := fun lo hi => Nat.le_trans dcut_len hz
  repeat walk_at "d"
  refine ite_dec (fun c3 => ?_) (fun c3 => ?_)
  · repeat walk_at "d"
    refine run__law_put ?_
    unfold b_21
    repeat walk_at "d"
    rw [dcut_map, one]
    refine cat_ints (Nat.le_trans (L1 _ _) (by decide)) (Nat.le_of_ble_eq_true rfl) ?_
    repeat walk_at "d"
    rw [dcut_map]
    have l2 := L1 none (some k)
    have l3 := L1 (some (k + 1)) none
    refine cat_ints (by rw [List.length_append]; show _ + 1 ≤ _; omega) (by omega) ?_
    exact h _ S5 (by rw [List.length_append, List.length_append]; show _ + 1 + _ ≤ _; omega) B5 d5
  repeat walk_at "d"
  refine ite_dec (fun c4 => ?_) (fun c4 => ?_)
  · repeat walk_at "d"
    refine run__law_without ?_
    unfold b_22
    repeat walk_at "d"
    rw [dcut_map, dcut_map]
    have l2 := L1 none (some k)
    have l3 := L1 (some (k + 1)) none
    refine cat_ints (by omega) (by omega) ?_
    exact h _ S5 (by rw [List.length_append]; omega) B5 d5
  repeat walk_at "d"
  refine ite_dec (fun c5 => ?_) (fun c5 => ?_)
  · repeat walk_at "d"
    rw [dcut_map, one]
    refine cat_ints (Nat.le_trans (L1 _ _) (by decide)) (Nat.le_of_ble_eq_true rfl) ?_
    repeat walk_at "d"
    rw [dcut_map]
    have l2 := L1 none (some k)
    have l3 := L1 (some k) none
    refine cat_ints (by rw [List.length_append]; show _ + 1 ≤ _; omega) (by omega) ?_
    exact h _ S5 (by rw [List.length_append, List.length_append]; show _ + 1 + _ ≤ _; omega) B5 d5
  · repeat walk_at "d"
    rw [dcut_map, dcut_map, ← List.map_reverse]
    have l2 := L1 none (some k)
    have l3 := L1 (some k) (some (k + 2))
    have l4 := L1 (some (k + 2)) none
    refine cat_ints (by omega) (by rw [List.length_reverse]; omega) ?_
    repeat walk_at "d"
    rw [dcut_map]
    refine cat_ints (by rw [List.length_append, List.length_reverse]; omega) (by omega) ?_
    exact h _ S5 (by rw [List.length_append, List.length_append, List.length_reverse]; omega) B5 d5
theorem first_spec {n : Nat} {P : Prog} {r : List Nat} {S : DS} {Q : DK} (hP : P.ok) (ht : tot P ≤ 60) (hr : goesOn P (start P) r) (hl : r.length ≤ 100000) (h : ∀ S', Ext S S' → Q (.tup (natsD (r ++ firsts P 60 (after P (start P) r)))) S') : sem fs (n + 5) 14 [P.d, .tup (natsD r)] S Q := by
  refine run_first_full_run ?_
  unfold b_14
  have hok := after_ok hP r _ (start_ok hP) hr
  repeat walk_at "d"
  refine behind_spec hP hr fun S1 x1 => ?_
  repeat walk_at "d"
  refine runon_spec (f := 60) hP hok (by omega) (by decide) fun S2 x2 => ?_
  have hf : (firsts P 60 (after P (start P) r)).length ≤ 60 := by
    have : ∀ f s, (firsts P f s).length ≤ f := fun f => by
      induction f with
      | zero => exact fun s => Nat.le_refl _
      | succ f ih =>
        intro s
        unfold firsts
        split
        · exact Nat.zero_le _
        · rw [List.length_cons]; exact Nat.succ_le_succ (ih _)
    exact this _ _
  refine o_addT (by rw [natsD_len, natsD_len]; omega) ?_
  have := h S2 (x1.trans x2)
  unfold natsD at this ⊢
  rwa [List.map_append] at this
theorem walks_goes {P : Prog} (hP : P.ok) : ∀ (r : List Nat) (s : Stt), goesOn P s r → walks P s (r.map fun (t : Nat) => (t : Int)) = true
  | [], _, _ => rfl
  | t :: r, s, h => by
    rw [List.map_cons, walks, inR_nat hP, h.1, Int.toNat_natCast, walks_goes hP r _ h.2]; rfl
theorem Drawn.tot60 {P : Prog} {k m : Nat} (h : Drawn P k m) (hk : k ≤ 6) : tot P ≤ 60 := by
  have : ∀ rows : List (List Deed), (∀ r ∈ rows, r.length ≤ 10) → (rows.map List.length).sum ≤ 10 * rows.length := fun rows => by
    induction rows with
    | nil => exact fun _ => Nat.zero_le _
    | cons r rows ih =>
      intro hr
      have := ih fun x hx => hr x (List.mem_cons_of_mem _ hx)
      have := hr r (List.mem_cons_self ..)
      rw [List.map_cons, List.sum_cons, List.length_cons]
      omega
  have := this P.rows fun r hr => (h.row r hr).1
  have := h.n1
  unfold tot
  omega
theorem end_pl {P : Prog} {s : Stt} (hP : P.ok) : Pl 3 (.tup [.tup ((List.range P.many).map fun (p : Nat) => optI (worth s.kept (p : Int))), .tup (natsD ((List.range P.rows.length).filter fun t => (next P s t).isSome))]) := by
  have hm := hP.many
  have hn := hP.n1
  refine ⟨Nat.le_of_ble_eq_true rfl, fun z hz => ?_⟩
  simp only [List.mem_cons, List.not_mem_nil, or_false] at hz
  rcases hz with rfl | rfl
  · refine ⟨by rw [List.length_map, List.length_range]; omega, fun x hx => ?_⟩
    obtain ⟨p, _, rfl⟩ := List.mem_map.mp hx
    cases worth s.kept (p : Int) <;> exact True.intro
  · refine pl_nats (m := 0) ?_
    have := List.length_filter_le (fun t => (next P s t).isSome) (List.range P.rows.length)
    rw [List.length_range] at this
    omega
theorem cut_take {α : Type} {xs : List α} {k : Nat} : dcut xs none (some (k : Int)) = xs.take k := by
  unfold dcut
  rw [HT.sIx_nat]
  show (xs.drop 0).take (min k xs.length - 0) = _
  rw [List.drop_zero, Nat.sub_zero, ← List.take_eq_take_min]
theorem firsts_len {P : Prog} : ∀ (f : Nat) (s : Stt), (firsts P f s).length ≤ f
  | 0, _ => Nat.le_refl _
  | f + 1, s => by
    unfold firsts
    split
    · exact Nat.zero_le _
    · rw [List.length_cons]; exact Nat.succ_le_succ (firsts_len f _)
theorem law_ok : ∀ ns : List Int, ns.length ≤ 63 → sem fs 60 42 [.fl (ns.map D.int)] (fun _ => none) fun d _ => d = .bl true := by
  intro ns _
  refine run_law ?_
  unfold b_42
  repeat walk_at "d"
  refine draws_spec (by decide) fun d S1 _ _ d1 => ?_
  repeat walk_at "d"
  refine i_rng1V (by decide) (for_inv (fun j δ S2 => ∃ o2 o3 o4 o5 o6 o7 o8 o9, δ = [some (.fl (ns.map D.int)), some (.ref d), o2, o3, o4, o5, o6, o7, o8, o9] ∧ Drw S2 d) ⟨none, none, none, none, none, none, none, none, rfl, d1⟩ (fun _ _ _ _ _ => True.intro) ?_ ?_)
  · rintro j x δ S2 nx hx hj ⟨o2, o3, o4, o5, o6, o7, o8, o9, rfl, d2⟩ hnx
    obtain ⟨rfl, hjm⟩ := rng_at hx
    repeat walk_at "d"
    refine anyp_spec d2 fun P1 k m S3 hP1 hk hm b3 d3 => ?_
    repeat walk_at "d"
    refine long_spec d3 fun P2 S4 hP2 b4 d4 => ?_
    repeat walk_at "d"
    refine i_newL fun r0 S5 n5 e5 x5 => ?_
    have d5 := d4.ext x5
    obtain ⟨P, two, hP, ht⟩ : ∃ P : Prog, L2.atI [P1.d, P2.d] (if decide (0 + (j : Int) = 3) = true then 1 else 0) = some P.d ∧ P.ok ∧ tot P ≤ 60 := by
      by_cases c : j = 3
      · exact ⟨P2, by rw [if_pos (decide_eq_true (by omega))]; rfl, hP2.ok (by decide) (by decide), hP2.tot60 (by decide)⟩
      · exact ⟨P1, by rw [if_neg (by rw [decide_eq_false (by omega)]; exact Bool.false_ne_true)]; rfl, hP1.ok (by omega) (by omega), hP1.tot60 (by omega)⟩
    repeat walk_at "d"
    refine o_ixL e5 two ?_
    repeat walk_at "d"
    refine run_spec d5 hP (by decide) fun r S6 hr hrl b6 d6 => ?_
    have hok := after_ok hP r _ (start_ok hP) hr
    repeat walk_at "d"
    refine lbehind_spec hP hr fun S7 x7 => ?_
    repeat walk_at "d"
    refine lending_spec hP hok fun S8 x8 => ?_
    repeat walk_at "d"
    rw [natsD_int]
    refine isrun_spec hP fun S9 x9 => ?_
    rw [walks_goes hP r _ hr, ← natsD_int]
    repeat walk_at "d"
    refine ite_ndec (fun c => absurd rfl c) (fun _ => ?_)
    repeat walk_at "d"
    refine run_outcome_of ?_
    unfold b_13
    repeat walk_at "d"
    refine behind_spec hP hr fun S10 x10 => ?_
    repeat walk_at "d"
    refine ending_spec hP hok fun S11 x11 => ?_
    repeat walk_at "d"
    refine same_spec (m := 3) (end_pl hP) fun S12 x12 => ?_
    have d12 := (((((d6.ext x7).ext x8).ext x9).ext x10).ext x11).ext x12
    clear x7 x8 x9 x10 x11 x12
    repeat walk_at "d"
    rw [natsD_len]
    refine take_spec d12 (by omega) fun w S13 w0 w1 b13 d13 => ?_
    obtain ⟨w, rfl⟩ : ∃ v : Nat, w = (v : Int) := ⟨w.toNat, by omega⟩
    repeat walk_at "d"
    rw [cut_take, show (natsD r).take w = natsD (r.take w) by unfold natsD; rw [List.map_take]]
    repeat walk_at "d"
    refine i_newL fun r1 S14 n14 e14 x14 => ?_
    have hp := goes_take hr w
    have hpl : (r.take w).length ≤ 60 := Nat.le_trans (List.length_take_le' ..) (by omega)
    repeat walk_at "d"
    have cases2 : ∀ i y, [D.tup [], .tup (natsD (r.take w))][i]? = some y → i < 2 → ∃ q : List Nat, y = .tup (natsD q) ∧ goesOn P (start P) q ∧ q.length ≤ 60 := by
      intro i y hy hi
      match i, hy, hi with
      | 0, hy, _ => exact ⟨[], (Option.some.inj hy).symm, True.intro, Nat.zero_le _⟩
      | 1, hy, _ => exact ⟨r.take w, (Option.some.inj hy).symm, hp, hpl⟩
    refine for_inv (fun i δ S15 => ∃ o7, δ = [some (.fl (ns.map D.int)), some (.ref d), some (.int (0 + (j : Int))), some P.d, some (.tup (natsD r)), some (.tup [.tup ((List.range P.many).map fun (p : Nat) => optI (worth (after P (start P) r).kept (p : Int))), .tup (natsD ((List.range P.rows.length).filter fun t => (next P (after P (start P) r) t).isSome))]), some (.tup (natsD (r.take w))), o7, o8, o9] ∧ S15 r1 = some (.lst [D.tup [], .tup (natsD (r.take w))]) ∧ Drw S15 d) ⟨_, rfl, e14, d13.ext x14⟩ (fun _ _ _ _ ⟨_, _, e, _⟩ => seq_ref e) ?_ ?_
    · rintro i y δ S15 nx' hy hi ⟨o7, rfl, e15, d15⟩ hnx'
      obtain ⟨q, rfl, hq, hql⟩ := cases2 i y hy hi
      repeat walk_at "d"
      refine first_spec hP ht hq (by omega) fun S16 x16 => ?_
      repeat walk_at "d"
      refine lrunon_spec hP hq (by omega) fun S17 x17 => ?_
      repeat walk_at "d"
      refine same_spec (m := 2) (pl_nats (m := 0) ?_) fun S18 x18 => ?_
      · rw [List.length_append]
        have := firsts_len (P := P) 60 (after P (start P) q)
        omega
      have X := (x16.trans x17).trans x18
      repeat walk_at "d"
      exact hnx' _ _ ⟨_, rfl, X.get e15, d15.ext X⟩
    · rintro δ S15 ⟨o7, rfl, e15, d15⟩
      repeat walk_at "d"
      refine i_rng1V (by decide) (for_inv (fun i δ S16 => ∃ o8 o9, δ = [some (.fl (ns.map D.int)), some (.ref d), some (.int (0 + (j : Int))), some P.d, some (.tup (natsD r)), some (.tup [.tup ((List.range P.many).map fun (p : Nat) => optI (worth (after P (start P) r).kept (p : Int))), .tup (natsD ((List.range P.rows.length).filter fun t => (next P (after P (start P) r) t).isSome))]), some (.tup (natsD (r.take w))), o7, o8, o9] ∧ Drw S16 d) ⟨_, _, rfl, d15⟩ (fun _ _ _ _ _ => True.intro) ?_ ?_)
      · rintro i y δ S16 nx' hy hi ⟨o8, o9, rfl, d16⟩ hnx'
        obtain ⟨rfl, hym⟩ := rng_at hy
        repeat walk_at "d"
        refine i_newL fun r2 S17 n17 e17 x17 => ?_
        repeat walk_at "d"
        refine pick_spec (d16.ext x17) e17 (by simp) (d16.ne' n17) fun v S18 hv b18 d18 => ?_
        obtain ⟨q, rfl, hql⟩ : ∃ q : List Nat, v = .tup (natsD q) ∧ q.length ≤ 60 := by
          simp only [List.mem_cons, List.not_mem_nil, or_false] at hv
          rcases hv with rfl | rfl
          · exact ⟨r, rfl, by omega⟩
          · exact ⟨r.take w, rfl, hpl⟩
        rw [natsD_int (ts := q)]
        repeat walk_at "d"
        refine bent_spec d18 hP (by rw [List.length_map]; omega) fun us S19 hus b19 d19 => ?_
        repeat walk_at "d"
        refine isrun_spec hP fun S20 x20 => ?_
        repeat walk_at "d"
        refine lwalks_spec hP fun S21 x21 => ?_
        repeat walk_at "d"
        refine same_spec (m := 1) True.intro fun S22 x22 => ?_
        repeat walk_at "d"
        exact hnx' _ _ ⟨_, _, rfl, ((d19.ext x20).ext x21).ext x22⟩
      · rintro δ S16 ⟨o8, o9, rfl, d16⟩
        exact hnx _ _ ⟨_, _, _, _, _, _, _, _, rfl, d16⟩
  · rintro δ S2 ⟨o2, o3, o4, o5, o6, o7, o8, o9, rfl, d2⟩
    repeat walk_at "d"
    have ok1 : (⟨0, [[]]⟩ : Prog).ok := ⟨by decide, by decide, by decide, fun r hr => by rw [List.mem_singleton.mp hr]; decide, fun r hr e he => by rw [List.mem_singleton.mp hr] at he; cases he⟩
    refine isrun_spec (P := ⟨0, [[]]⟩) (zs := []) ok1 fun S3 x3 => ?_
    repeat walk_at "d"
    refine ite_dec (fun _ => ?_) (fun c => absurd rfl c)
    repeat walk_at "d"
    refine isrun_spec (P := ⟨0, [[]]⟩) (zs := [0]) ok1 fun S4 x4 => ?_
    repeat walk_at "d"
    exact congrArg D.bl (by decide)
end Gk33
namespace Gk33
open PySem PySem.Spec PyProof.Rows L2 DL
def top (i : Nat) : Stmt := PySem.Challenge.pw_promiseskept_k33_runs_and_full_runs.main.body.getD i (.Pass ⟨0, 0, 0, 0⟩)
abbrev s_0 : Stmt := top 1
abbrev N_0 : List Str := ["program", "task"]
abbrev P_0 : List Str := ["program"]
theorem sc_0 : FnScope N_0 P_0 (defScope s_0) := ⟨rfl, rfl, rfl, by decide +kernel, rfl, by decide +kernel, by decide +kernel⟩
abbrev s_1 : Stmt := top 2
abbrev N_1 : List Str := ["kept", "promise", "other", "value"]
abbrev P_1 : List Str := ["kept", "promise"]
theorem sc_1 : FnScope N_1 P_1 (defScope s_1) := ⟨rfl, rfl, rfl, by decide +kernel, rfl, by decide +kernel, by decide +kernel⟩
abbrev s_2 : Stmt := top 3
abbrev N_2 : List Str := ["program", "state", "task", "done"]
abbrev P_2 : List Str := ["program", "state", "task"]
theorem sc_2 : FnScope N_2 P_2 (defScope s_2) := ⟨rfl, rfl, rfl, by decide +kernel, rfl, by decide +kernel, by decide +kernel⟩
abbrev s_3 : Stmt := top 4
abbrev N_3 : List Str := ["kept", "deed", "promise"]
abbrev P_3 : List Str := ["kept", "deed"]
theorem sc_3 : FnScope N_3 P_3 (defScope s_3) := ⟨rfl, rfl, rfl, by decide +kernel, rfl, by decide +kernel, by decide +kernel⟩
abbrev s_4 : Stmt := top 5
abbrev N_4 : List Str := ["program", "state", "found", "task", "deed"]
abbrev P_4 : List Str := ["program", "state"]
theorem sc_4 : FnScope N_4 P_4 (defScope s_4) := ⟨rfl, rfl, rfl, by decide +kernel, rfl, by decide +kernel, by decide +kernel⟩
abbrev s_5 : Stmt := top 6
abbrev N_5 : List Str := ["kept", "deed", "promise", "value"]
abbrev P_5 : List Str := ["kept", "deed"]
theorem sc_5 : FnScope N_5 P_5 (defScope s_5) := ⟨rfl, rfl, rfl, by decide +kernel, rfl, by decide +kernel, by decide +kernel⟩
abbrev s_6 : Stmt := top 7
abbrev N_6 : List Str := ["program", "state", "task", "counts", "kept", "deed", "after"]
abbrev P_6 : List Str := ["program", "state", "task"]
theorem sc_6 : FnScope N_6 P_6 (defScope s_6) := ⟨rfl, rfl, rfl, by decide +kernel, rfl, by decide +kernel, by decide +kernel⟩
abbrev s_7 : Stmt := top 8
abbrev N_7 : List Str := ["program", "run", "state", "task"]
abbrev P_7 : List Str := ["program", "run"]
theorem sc_7 : FnScope N_7 P_7 (defScope s_7) := ⟨rfl, rfl, rfl, by decide +kernel, rfl, by decide +kernel, by decide +kernel⟩
abbrev s_8 : Stmt := top 9
abbrev N_8 : List Str := ["program", "state", "found", "ready"]
abbrev P_8 : List Str := ["program", "state"]
theorem sc_8 : FnScope N_8 P_8 (defScope s_8) := ⟨rfl, rfl, rfl, by decide +kernel, rfl, by decide +kernel, by decide +kernel⟩
abbrev s_9 : Stmt := top 10
abbrev N_9 : List Str := ["program", "state", "task"]
abbrev P_9 : List Str := ["program", "state"]
theorem sc_9 : FnScope N_9 P_9 (defScope s_9) := ⟨rfl, rfl, rfl, by decide +kernel, rfl, by decide +kernel, by decide +kernel⟩
abbrev s_10 : Stmt := top 11
abbrev N_10 : List Str := ["program", "state", "promise"]
abbrev P_10 : List Str := ["program", "state"]
theorem sc_10 : FnScope N_10 P_10 (defScope s_10) := ⟨rfl, rfl, rfl, by decide +kernel, rfl, by decide +kernel, by decide +kernel⟩
abbrev s_11 : Stmt := top 12
abbrev N_11 : List Str := ["program", "state"]
abbrev P_11 : List Str := ["program", "state"]
theorem sc_11 : FnScope N_11 P_11 (defScope s_11) := ⟨rfl, rfl, rfl, by decide +kernel, rfl, by decide +kernel, by decide +kernel⟩
abbrev s_12 : Stmt := top 14
abbrev N_12 : List Str := ["program", "run", "state", "task"]
abbrev P_12 : List Str := ["program", "run"]
theorem sc_12 : FnScope N_12 P_12 (defScope s_12) := ⟨rfl, rfl, rfl, by decide +kernel, rfl, by decide +kernel, by decide +kernel⟩
abbrev s_13 : Stmt := top 15
abbrev N_13 : List Str := ["program", "run"]
abbrev P_13 : List Str := ["program", "run"]
theorem sc_13 : FnScope N_13 P_13 (defScope s_13) := ⟨rfl, rfl, rfl, by decide +kernel, rfl, by decide +kernel, by decide +kernel⟩
abbrev s_14 : Stmt := top 16
abbrev N_14 : List Str := ["program", "run"]
abbrev P_14 : List Str := ["program", "run"]
theorem sc_14 : FnScope N_14 P_14 (defScope s_14) := ⟨rfl, rfl, rfl, by decide +kernel, rfl, by decide +kernel, by decide +kernel⟩
abbrev s_15 : Stmt := top 18
abbrev N_15 : List Str := ["script", "many", "cells", "cell", "left", "draws", "k", "place", "mixed"]
abbrev P_15 : List Str := ["script", "many"]
theorem sc_15 : FnScope N_15 P_15 (defScope s_15) := ⟨rfl, rfl, rfl, by decide +kernel, rfl, by decide +kernel, by decide +kernel⟩
abbrev s_16 : Stmt := top 19
abbrev N_16 : List Str := ["draws", "many"]
abbrev P_16 : List Str := ["draws", "many"]
theorem sc_16 : FnScope N_16 P_16 (defScope s_16) := ⟨rfl, rfl, rfl, by decide +kernel, rfl, by decide +kernel, by decide +kernel⟩
abbrev s_17 : Stmt := top 20
abbrev N_17 : List Str := ["draws", "row"]
abbrev P_17 : List Str := ["draws", "row"]
theorem sc_17 : FnScope N_17 P_17 (defScope s_17) := ⟨rfl, rfl, rfl, by decide +kernel, rfl, by decide +kernel, by decide +kernel⟩
abbrev s_18 : Stmt := top 21
abbrev N_18 : List Str := ["actual", "due", "k"]
abbrev P_18 : List Str := ["actual", "due"]
theorem sc_18 : FnScope N_18 P_18 (defScope s_18) := ⟨rfl, rfl, rfl, by decide +kernel, rfl, by decide +kernel, by decide +kernel⟩
abbrev s_19 : Stmt := top 22
abbrev N_19 : List Str := ["draws", "row", "left", "told", "k"]
abbrev P_19 : List Str := ["draws", "row"]
theorem sc_19 : FnScope N_19 P_19 (defScope s_19) := ⟨rfl, rfl, rfl, by decide +kernel, rfl, by decide +kernel, by decide +kernel⟩
abbrev s_20 : Stmt := top 23
abbrev N_20 : List Str := ["draws", "things", "many", "found", "k", "thing"]
abbrev P_20 : List Str := ["draws", "things", "many"]
theorem sc_20 : FnScope N_20 P_20 (defScope s_20) := ⟨rfl, rfl, rfl, by decide +kernel, rfl, by decide +kernel, by decide +kernel⟩
abbrev s_21 : Stmt := top 24
abbrev N_21 : List Str := ["row", "k", "thing"]
abbrev P_21 : List Str := ["row", "k", "thing"]
theorem sc_21 : FnScope N_21 P_21 (defScope s_21) := ⟨rfl, rfl, rfl, by decide +kernel, rfl, by decide +kernel, by decide +kernel⟩
abbrev s_22 : Stmt := top 25
abbrev N_22 : List Str := ["row", "k"]
abbrev P_22 : List Str := ["row", "k"]
theorem sc_22 : FnScope N_22 P_22 (defScope s_22) := ⟨rfl, rfl, rfl, by decide +kernel, rfl, by decide +kernel, by decide +kernel⟩
abbrev s_23 : Stmt := top 26
abbrev N_23 : List Str := ["draws"]
abbrev P_23 : List Str := ["draws"]
theorem sc_23 : FnScope N_23 P_23 (defScope s_23) := ⟨rfl, rfl, rfl, by decide +kernel, rfl, by decide +kernel, by decide +kernel⟩
abbrev s_24 : Stmt := top 27
abbrev N_24 : List Str := ["program", "t"]
abbrev P_24 : List Str := ["program"]
theorem sc_24 : FnScope N_24 P_24 (defScope s_24) := ⟨rfl, rfl, rfl, by decide +kernel, rfl, by decide +kernel, by decide +kernel⟩
abbrev s_25 : Stmt := top 28
abbrev N_25 : List Str := ["kept", "p", "pair"]
abbrev P_25 : List Str := ["kept", "p"]
theorem sc_25 : FnScope N_25 P_25 (defScope s_25) := ⟨rfl, rfl, rfl, by decide +kernel, rfl, by decide +kernel, by decide +kernel⟩
abbrev s_26 : Stmt := top 29
abbrev N_26 : List Str := ["program", "state", "t", "done", "deed", "had", "pair", "p"]
abbrev P_26 : List Str := ["program", "state", "t"]
theorem sc_26 : FnScope N_26 P_26 (defScope s_26) := ⟨rfl, rfl, rfl, by decide +kernel, rfl, by decide +kernel, by decide +kernel⟩
abbrev s_27 : Stmt := top 30
abbrev N_27 : List Str := ["program", "state", "t"]
abbrev P_27 : List Str := ["program", "state"]
theorem sc_27 : FnScope N_27 P_27 (defScope s_27) := ⟨rfl, rfl, rfl, by decide +kernel, rfl, by decide +kernel, by decide +kernel⟩
abbrev s_28 : Stmt := top 31
abbrev N_28 : List Str := ["program", "state", "t", "counts", "kept", "deed", "told", "p", "pair"]
abbrev P_28 : List Str := ["program", "state", "t"]
theorem sc_28 : FnScope N_28 P_28 (defScope s_28) := ⟨rfl, rfl, rfl, by decide +kernel, rfl, by decide +kernel, by decide +kernel⟩
abbrev s_29 : Stmt := top 32
abbrev N_29 : List Str := ["program", "run", "state", "t"]
abbrev P_29 : List Str := ["program", "run"]
theorem sc_29 : FnScope N_29 P_29 (defScope s_29) := ⟨rfl, rfl, rfl, by decide +kernel, rfl, by decide +kernel, by decide +kernel⟩
abbrev s_30 : Stmt := top 33
abbrev N_30 : List Str := ["program", "run", "state", "t"]
abbrev P_30 : List Str := ["program", "run"]
theorem sc_30 : FnScope N_30 P_30 (defScope s_30) := ⟨rfl, rfl, rfl, by decide +kernel, rfl, by decide +kernel, by decide +kernel⟩
abbrev s_31 : Stmt := top 34
abbrev N_31 : List Str := ["program", "state", "many", "t"]
abbrev P_31 : List Str := ["program", "state"]
theorem sc_31 : FnScope N_31 P_31 (defScope s_31) := ⟨rfl, rfl, rfl, by decide +kernel, rfl, by decide +kernel, by decide +kernel⟩
abbrev s_32 : Stmt := top 35
abbrev N_32 : List Str := ["program", "state", "p"]
abbrev P_32 : List Str := ["program", "state"]
theorem sc_32 : FnScope N_32 P_32 (defScope s_32) := ⟨rfl, rfl, rfl, by decide +kernel, rfl, by decide +kernel, by decide +kernel⟩
abbrev s_33 : Stmt := top 36
abbrev N_33 : List Str := ["program", "run", "state", "turn", "able"]
abbrev P_33 : List Str := ["program", "run"]
theorem sc_33 : FnScope N_33 P_33 (defScope s_33) := ⟨rfl, rfl, rfl, by decide +kernel, rfl, by decide +kernel, by decide +kernel⟩
abbrev s_34 : Stmt := top 37
abbrev N_34 : List Str := ["draws", "program", "most", "state", "run", "turn", "able", "t"]
abbrev P_34 : List Str := ["draws", "program", "most"]
theorem sc_34 : FnScope N_34 P_34 (defScope s_34) := ⟨rfl, rfl, rfl, by decide +kernel, rfl, by decide +kernel, by decide +kernel⟩
abbrev s_35 : Stmt := top 38
abbrev N_35 : List Str := ["draws", "pool", "most", "found", "k", "p"]
abbrev P_35 : List Str := ["draws", "pool", "most"]
theorem sc_35 : FnScope N_35 P_35 (defScope s_35) := ⟨rfl, rfl, rfl, by decide +kernel, rfl, by decide +kernel, by decide +kernel⟩
abbrev s_36 : Stmt := top 39
abbrev N_36 : List Str := ["draws", "pool", "others", "kind"]
abbrev P_36 : List Str := ["draws", "pool", "others"]
theorem sc_36 : FnScope N_36 P_36 (defScope s_36) := ⟨rfl, rfl, rfl, by decide +kernel, rfl, by decide +kernel, by decide +kernel⟩
abbrev s_37 : Stmt := top 40
abbrev N_37 : List Str := ["draws", "many", "pool", "size", "rest", "first", "t", "extra", "k", "left", "rows", "others", "other", "deeds"]
abbrev P_37 : List Str := ["draws"]
theorem sc_37 : FnScope N_37 P_37 (defScope s_37) := ⟨rfl, rfl, rfl, by decide +kernel, rfl, by decide +kernel, by decide +kernel⟩
abbrev s_38 : Stmt := top 41
abbrev N_38 : List Str := ["draws", "many", "pool", "size", "first", "t", "rows", "row"]
abbrev P_38 : List Str := ["draws"]
theorem sc_38 : FnScope N_38 P_38 (defScope s_38) := ⟨rfl, rfl, rfl, by decide +kernel, rfl, by decide +kernel, by decide +kernel⟩
abbrev s_39 : Stmt := top 42
abbrev N_39 : List Str := ["draws"]
abbrev P_39 : List Str := ["draws"]
theorem sc_39 : FnScope N_39 P_39 (defScope s_39) := ⟨rfl, rfl, rfl, by decide +kernel, rfl, by decide +kernel, by decide +kernel⟩
abbrev s_40 : Stmt := top 43
abbrev N_40 : List Str := ["draws", "rows", "kept", "spare", "trailing", "t", "row", "p", "k"]
abbrev P_40 : List Str := ["draws"]
theorem sc_40 : FnScope N_40 P_40 (defScope s_40) := ⟨rfl, rfl, rfl, by decide +kernel, rfl, by decide +kernel, by decide +kernel⟩
abbrev s_41 : Stmt := top 44
abbrev N_41 : List Str := ["draws", "program", "run", "kind", "strange", "k"]
abbrev P_41 : List Str := ["draws", "program", "run"]
theorem sc_41 : FnScope N_41 P_41 (defScope s_41) := ⟨rfl, rfl, rfl, by decide +kernel, rfl, by decide +kernel, by decide +kernel⟩
abbrev s_42 : Stmt := top 45
abbrev N_42 : List Str := ["script", "draws", "turn", "program", "run", "due", "part", "one", "k", "bent"]
abbrev P_42 : List Str := ["script"]
theorem sc_42 : FnScope N_42 P_42 (defScope s_42) := ⟨rfl, rfl, rfl, by decide +kernel, rfl, by decide +kernel, by decide +kernel⟩
structure Txt (K : PySem.W.Frag) (mg : Str → Option Value) where
  f : Nat → Addr
  fd : Nat → FuncData
  F0 : Fun K "first_state" "first_state" s_0 (f 0) (fd 0)
  b0 : Binds K (fd 0) P_0 []
  m0 : mg "first_state" = some (.ref (f 0))
  F1 : Fun K "value_of" "value_of" s_1 (f 1) (fd 1)
  b1 : Binds K (fd 1) P_1 []
  m1 : mg "value_of" = some (.ref (f 1))
  F2 : Fun K "next_deed" "next_deed" s_2 (f 2) (fd 2)
  b2 : Binds K (fd 2) P_2 []
  m2 : mg "next_deed" = some (.ref (f 2))
  F3 : Fun K "can_be_done" "can_be_done" s_3 (f 3) (fd 3)
  b3 : Binds K (fd 3) P_3 []
  m3 : mg "can_be_done" = some (.ref (f 3))
  F4 : Fun K "ready_tasks" "ready_tasks" s_4 (f 4) (fd 4)
  b4 : Binds K (fd 4) P_4 []
  m4 : mg "ready_tasks" = some (.ref (f 4))
  F5 : Fun K "value_kept_by" "value_kept_by" s_5 (f 5) (fd 5)
  b5 : Binds K (fd 5) P_5 []
  m5 : mg "value_kept_by" = some (.ref (f 5))
  F6 : Fun K "stepped" "stepped" s_6 (f 6) (fd 6)
  b6 : Binds K (fd 6) P_6 []
  m6 : mg "stepped" = some (.ref (f 6))
  F7 : Fun K "state_after" "state_after" s_7 (f 7) (fd 7)
  b7 : Binds K (fd 7) P_7 []
  m7 : mg "state_after" = some (.ref (f 7))
  F8 : Fun K "run_on" "run_on" s_8 (f 8) (fd 8)
  b8 : Binds K (fd 8) P_8 []
  m8 : mg "run_on" = some (.ref (f 8))
  F9 : Fun K "stuck_at" "stuck_at" s_9 (f 9) (fd 9)
  b9 : Binds K (fd 9) P_9 []
  m9 : mg "stuck_at" = some (.ref (f 9))
  F10 : Fun K "values_at" "values_at" s_10 (f 10) (fd 10)
  b10 : Binds K (fd 10) P_10 []
  m10 : mg "values_at" = some (.ref (f 10))
  F11 : Fun K "ending_at" "ending_at" s_11 (f 11) (fd 11)
  b11 : Binds K (fd 11) P_11 []
  m11 : mg "ending_at" = some (.ref (f 11))
  F12 : Fun K "is_run" "is_run" s_12 (f 12) (fd 12)
  b12 : Binds K (fd 12) P_12 []
  m12 : mg "is_run" = some (.ref (f 12))
  F13 : Fun K "outcome_of" "outcome_of" s_13 (f 13) (fd 13)
  b13 : Binds K (fd 13) P_13 []
  m13 : mg "outcome_of" = some (.ref (f 13))
  F14 : Fun K "first_full_run" "first_full_run" s_14 (f 14) (fd 14)
  b14 : Binds K (fd 14) P_14 []
  m14 : mg "first_full_run" = some (.ref (f 14))
  F15 : Fun K "_law_draws" "_law_draws" s_15 (f 15) (fd 15)
  b15 : Binds K (fd 15) P_15 []
  m15 : mg "_law_draws" = some (.ref (f 15))
  F16 : Fun K "_law_take" "_law_take" s_16 (f 16) (fd 16)
  b16 : Binds K (fd 16) P_16 []
  m16 : mg "_law_take" = some (.ref (f 16))
  F17 : Fun K "_law_pick" "_law_pick" s_17 (f 17) (fd 17)
  b17 : Binds K (fd 17) P_17 []
  m17 : mg "_law_pick" = some (.ref (f 17))
  F18 : Fun K "_law_same" "_law_same" s_18 (f 18) (fd 18)
  b18 : Binds K (fd 18) P_18 []
  m18 : mg "_law_same" = some (.ref (f 18))
  F19 : Fun K "_law_shuffled" "_law_shuffled" s_19 (f 19) (fd 19)
  b19 : Binds K (fd 19) P_19 []
  m19 : mg "_law_shuffled" = some (.ref (f 19))
  F20 : Fun K "_law_some_of" "_law_some_of" s_20 (f 20) (fd 20)
  b20 : Binds K (fd 20) P_20 []
  m20 : mg "_law_some_of" = some (.ref (f 20))
  F21 : Fun K "_law_put" "_law_put" s_21 (f 21) (fd 21)
  b21 : Binds K (fd 21) P_21 []
  m21 : mg "_law_put" = some (.ref (f 21))
  F22 : Fun K "_law_without" "_law_without" s_22 (f 22) (fd 22)
  b22 : Binds K (fd 22) P_22 []
  m22 : mg "_law_without" = some (.ref (f 22))
  F23 : Fun K "_law_number" "_law_number" s_23 (f 23) (fd 23)
  b23 : Binds K (fd 23) P_23 []
  m23 : mg "_law_number" = some (.ref (f 23))
  F24 : Fun K "_law_start_state" "_law_start_state" s_24 (f 24) (fd 24)
  b24 : Binds K (fd 24) P_24 []
  m24 : mg "_law_start_state" = some (.ref (f 24))
  F25 : Fun K "_law_worth" "_law_worth" s_25 (f 25) (fd 25)
  b25 : Binds K (fd 25) P_25 []
  m25 : mg "_law_worth" = some (.ref (f 25))
  F26 : Fun K "_law_can" "_law_can" s_26 (f 26) (fd 26)
  b26 : Binds K (fd 26) P_26 []
  m26 : mg "_law_can" = some (.ref (f 26))
  F27 : Fun K "_law_ready" "_law_ready" s_27 (f 27) (fd 27)
  b27 : Binds K (fd 27) P_27 []
  m27 : mg "_law_ready" = some (.ref (f 27))
  F28 : Fun K "_law_step" "_law_step" s_28 (f 28) (fd 28)
  b28 : Binds K (fd 28) P_28 []
  m28 : mg "_law_step" = some (.ref (f 28))
  F29 : Fun K "_law_behind" "_law_behind" s_29 (f 29) (fd 29)
  b29 : Binds K (fd 29) P_29 []
  m29 : mg "_law_behind" = some (.ref (f 29))
  F30 : Fun K "_law_walks" "_law_walks" s_30 (f 30) (fd 30)
  b30 : Binds K (fd 30) P_30 []
  m30 : mg "_law_walks" = some (.ref (f 30))
  F31 : Fun K "_law_stuck_at" "_law_stuck_at" s_31 (f 31) (fd 31)
  b31 : Binds K (fd 31) P_31 []
  m31 : mg "_law_stuck_at" = some (.ref (f 31))
  F32 : Fun K "_law_ending" "_law_ending" s_32 (f 32) (fd 32)
  b32 : Binds K (fd 32) P_32 []
  m32 : mg "_law_ending" = some (.ref (f 32))
  F33 : Fun K "_law_run_on" "_law_run_on" s_33 (f 33) (fd 33)
  b33 : Binds K (fd 33) P_33 []
  m33 : mg "_law_run_on" = some (.ref (f 33))
  F34 : Fun K "_law_drawn_run" "_law_drawn_run" s_34 (f 34) (fd 34)
  b34 : Binds K (fd 34) P_34 []
  m34 : mg "_law_drawn_run" = some (.ref (f 34))
  F35 : Fun K "_law_set_of" "_law_set_of" s_35 (f 35) (fd 35)
  b35 : Binds K (fd 35) P_35 []
  m35 : mg "_law_set_of" = some (.ref (f 35))
  F36 : Fun K "_law_deed" "_law_deed" s_36 (f 36) (fd 36)
  b36 : Binds K (fd 36) P_36 []
  m36 : mg "_law_deed" = some (.ref (f 36))
  F37 : Fun K "_law_program" "_law_program" s_37 (f 37) (fd 37)
  b37 : Binds K (fd 37) P_37 []
  m37 : mg "_law_program" = some (.ref (f 37))
  F38 : Fun K "_law_rival_program" "_law_rival_program" s_38 (f 38) (fd 38)
  b38 : Binds K (fd 38) P_38 []
  m38 : mg "_law_rival_program" = some (.ref (f 38))
  F39 : Fun K "_law_any_program" "_law_any_program" s_39 (f 39) (fd 39)
  b39 : Binds K (fd 39) P_39 []
  m39 : mg "_law_any_program" = some (.ref (f 39))
  F40 : Fun K "_law_long_program" "_law_long_program" s_40 (f 40) (fd 40)
  b40 : Binds K (fd 40) P_40 []
  m40 : mg "_law_long_program" = some (.ref (f 40))
  F41 : Fun K "_law_bent_run" "_law_bent_run" s_41 (f 41) (fd 41)
  b41 : Binds K (fd 41) P_41 []
  m41 : mg "_law_bent_run" = some (.ref (f 41))
  F42 : Fun K "law" "law" s_42 (f 42) (fd 42)
  b42 : Binds K (fd 42) P_42 []
  m42 : mg "law" = some (.ref (f 42))
  z_all : mg "all" = none
  z_any : mg "any" = none
  z_bool : mg "bool" = none
  z_int : mg "int" = none
  z_isinstance : mg "isinstance" = none
  z_len : mg "len" = none
  z_list : mg "list" = none
  z_min : mg "min" = none
  z_range : mg "range" = none
  z_sorted : mg "sorted" = none
  z_str : mg "str" = none
  z_sum : mg "sum" = none
  z_tuple : mg "tuple" = none
structure IH {K : PySem.W.Frag} {mg : Str → Option Value} (P : Program) (w : World) (base : Heap) (T : Txt K mg) (n : Nat) : Prop where
  o0 : FnOk P w K mg base CX0 n (T.f 0) (T.fd 0) P_0 (liftF K (fs 0).np (sem fs n 0))
  o1 : FnOk P w K mg base CX0 n (T.f 1) (T.fd 1) P_1 (liftF K (fs 1).np (sem fs n 1))
  o2 : FnOk P w K mg base CX0 n (T.f 2) (T.fd 2) P_2 (liftF K (fs 2).np (sem fs n 2))
  o3 : FnOk P w K mg base CX0 n (T.f 3) (T.fd 3) P_3 (liftF K (fs 3).np (sem fs n 3))
  o4 : FnOk P w K mg base CX0 n (T.f 4) (T.fd 4) P_4 (liftF K (fs 4).np (sem fs n 4))
  o5 : FnOk P w K mg base CX0 n (T.f 5) (T.fd 5) P_5 (liftF K (fs 5).np (sem fs n 5))
  o6 : FnOk P w K mg base CX0 n (T.f 6) (T.fd 6) P_6 (liftF K (fs 6).np (sem fs n 6))
  o7 : FnOk P w K mg base CX0 n (T.f 7) (T.fd 7) P_7 (liftF K (fs 7).np (sem fs n 7))
  o8 : FnOk P w K mg base CX0 n (T.f 8) (T.fd 8) P_8 (liftF K (fs 8).np (sem fs n 8))
  o9 : FnOk P w K mg base CX0 n (T.f 9) (T.fd 9) P_9 (liftF K (fs 9).np (sem fs n 9))
  o10 : FnOk P w K mg base CX0 n (T.f 10) (T.fd 10) P_10 (liftF K (fs 10).np (sem fs n 10))
  o11 : FnOk P w K mg base CX0 n (T.f 11) (T.fd 11) P_11 (liftF K (fs 11).np (sem fs n 11))
  o12 : FnOk P w K mg base CX0 n (T.f 12) (T.fd 12) P_12 (liftF K (fs 12).np (sem fs n 12))
  o13 : FnOk P w K mg base CX0 n (T.f 13) (T.fd 13) P_13 (liftF K (fs 13).np (sem fs n 13))
  o14 : FnOk P w K mg base CX0 n (T.f 14) (T.fd 14) P_14 (liftF K (fs 14).np (sem fs n 14))
  o15 : FnOk P w K mg base CX0 n (T.f 15) (T.fd 15) P_15 (liftF K (fs 15).np (sem fs n 15))
  o16 : FnOk P w K mg base CX0 n (T.f 16) (T.fd 16) P_16 (liftF K (fs 16).np (sem fs n 16))
  o17 : FnOk P w K mg base CX0 n (T.f 17) (T.fd 17) P_17 (liftF K (fs 17).np (sem fs n 17))
  o18 : FnOk P w K mg base CX0 n (T.f 18) (T.fd 18) P_18 (liftF K (fs 18).np (sem fs n 18))
  o19 : FnOk P w K mg base CX0 n (T.f 19) (T.fd 19) P_19 (liftF K (fs 19).np (sem fs n 19))
  o20 : FnOk P w K mg base CX0 n (T.f 20) (T.fd 20) P_20 (liftF K (fs 20).np (sem fs n 20))
  o21 : FnOk P w K mg base CX0 n (T.f 21) (T.fd 21) P_21 (liftF K (fs 21).np (sem fs n 21))
  o22 : FnOk P w K mg base CX0 n (T.f 22) (T.fd 22) P_22 (liftF K (fs 22).np (sem fs n 22))
  o23 : FnOk P w K mg base CX0 n (T.f 23) (T.fd 23) P_23 (liftF K (fs 23).np (sem fs n 23))
  o24 : FnOk P w K mg base CX0 n (T.f 24) (T.fd 24) P_24 (liftF K (fs 24).np (sem fs n 24))
  o25 : FnOk P w K mg base CX0 n (T.f 25) (T.fd 25) P_25 (liftF K (fs 25).np (sem fs n 25))
  o26 : FnOk P w K mg base CX0 n (T.f 26) (T.fd 26) P_26 (liftF K (fs 26).np (sem fs n 26))
  o27 : FnOk P w K mg base CX0 n (T.f 27) (T.fd 27) P_27 (liftF K (fs 27).np (sem fs n 27))
  o28 : FnOk P w K mg base CX0 n (T.f 28) (T.fd 28) P_28 (liftF K (fs 28).np (sem fs n 28))
  o29 : FnOk P w K mg base CX0 n (T.f 29) (T.fd 29) P_29 (liftF K (fs 29).np (sem fs n 29))
  o30 : FnOk P w K mg base CX0 n (T.f 30) (T.fd 30) P_30 (liftF K (fs 30).np (sem fs n 30))
  o31 : FnOk P w K mg base CX0 n (T.f 31) (T.fd 31) P_31 (liftF K (fs 31).np (sem fs n 31))
  o32 : FnOk P w K mg base CX0 n (T.f 32) (T.fd 32) P_32 (liftF K (fs 32).np (sem fs n 32))
  o33 : FnOk P w K mg base CX0 n (T.f 33) (T.fd 33) P_33 (liftF K (fs 33).np (sem fs n 33))
  o34 : FnOk P w K mg base CX0 n (T.f 34) (T.fd 34) P_34 (liftF K (fs 34).np (sem fs n 34))
  o35 : FnOk P w K mg base CX0 n (T.f 35) (T.fd 35) P_35 (liftF K (fs 35).np (sem fs n 35))
  o36 : FnOk P w K mg base CX0 n (T.f 36) (T.fd 36) P_36 (liftF K (fs 36).np (sem fs n 36))
  o37 : FnOk P w K mg base CX0 n (T.f 37) (T.fd 37) P_37 (liftF K (fs 37).np (sem fs n 37))
  o38 : FnOk P w K mg base CX0 n (T.f 38) (T.fd 38) P_38 (liftF K (fs 38).np (sem fs n 38))
  o39 : FnOk P w K mg base CX0 n (T.f 39) (T.fd 39) P_39 (liftF K (fs 39).np (sem fs n 39))
  o40 : FnOk P w K mg base CX0 n (T.f 40) (T.fd 40) P_40 (liftF K (fs 40).np (sem fs n 40))
  o41 : FnOk P w K mg base CX0 n (T.f 41) (T.fd 41) P_41 (liftF K (fs 41).np (sem fs n 41))
  o42 : FnOk P w K mg base CX0 n (T.f 42) (T.fd 42) P_42 (liftF K (fs 42).np (sem fs n 42))
section
variable {P : Program} {w : World} {K : PySem.W.Frag} {mg : Str → Option Value} {base : Heap} {n : Nat}
/- first_state -/
theorem w_0 (T : Txt K mg) (ih : IH P w base T n) (cdv : Value) (A : Around) (outer : List Env) (s : Shared) (H : Hp) (E : XK) (hr : Room n (A.deeper (envOfC "first_state" (defScope s_0) s.heap.objs.size (T.f 0) cdv))) :
    PSs (cxOf CX0 P w K mg base N_0 "first_state" (defScope s_0) (T.f 0) cdv A outer s H E).nox (defBody s_0) (liftS K (b_0 (sem fs n))) :=
  (qss_one (qs_ret (qe_tup (qa_cons (qe_callTy dcall_tuple rfl T.z_tuple (by decide +kernel) (qa_cons (qe_lc [("task", 1)] rfl sc_0.nd (qi_range1 rfl T.z_range (qa_cons (qe_callB dcall_len rfl T.z_len (by decide +kernel) (qa_cons (qe_ix (qv 0) qi (fun _ _ => rfl)) qa_nil)) qa_nil)) (okb (by kernel_rfl)) (by decide) (fun _ _ _ _ _ => (qg_name (i := 1) sc_0.nd rfl (by first | exact Or.inl rfl | exact Or.inr rfl))) (fun _ _ _ _ _ => qts_nil) (fun _ _ _ _ _ => (qe_if (qt_cmp (dop_eq (hu100 hr)) (qv 1) qi (nomark _)) qi qn))) qa_nil)) (qa_cons (qe_tup qa_nil) qa_nil)))))
/- value_of -/
theorem w_1 (T : Txt K mg) (ih : IH P w base T n) (cdv : Value) (A : Around) (outer : List Env) (s : Shared) (H : Hp) (E : XK) (hr : Room n (A.deeper (envOfC "value_of" (defScope s_1) s.heap.objs.size (T.f 1) cdv))) :
    PSs (cxOf CX0 P w K mg base N_1 "value_of" (defScope s_1) (T.f 1) cdv A outer s H E).nox (defBody s_1) (liftS K (b_1 (sem fs n))) :=
  (qss_cons (qs_for PassesOwn.never rfl (qi_seq (qv 0)) (qg_tup rfl (qgs_cons (qg_name (i := 2) sc_1.nd rfl (by first | exact Or.inl rfl | exact Or.inr rfl)) (qgs_cons (qg_name (i := 3) sc_1.nd rfl (by first | exact Or.inl rfl | exact Or.inr rfl)) qgs_nil))) (qss_one (qs_if (qt_cmp (dop_eq (hu100 hr)) (qv 2) (qv 1) (nomark _)) (qss_one (qs_ret (qv 3))) qss_nil)))
  (qss_one (qs_ret qn)))
/- next_deed -/
theorem w_2 (T : Txt K mg) (ih : IH P w base T n) (cdv : Value) (A : Around) (outer : List Env) (s : Shared) (H : Hp) (E : XK) (hr : Room n (A.deeper (envOfC "next_deed" (defScope s_2) s.heap.objs.size (T.f 2) cdv))) :
    PSs (cxOf CX0 P w K mg base N_2 "next_deed" (defScope s_2) (T.f 2) cdv A outer s H E).nox (defBody s_2) (liftS K (b_2 (sem fs n))) :=
  (qss_cons (qs_set (i := 3) sc_2.nd rfl (by first | exact Or.inl rfl | exact Or.inr rfl) (qe_ix (qe_ix (qv 1) qi (fun _ _ => rfl)) (qv 2) (fun _ _ => rfl)))
  (qss_cons (qs_if (qt_w (qw_or (qt_cmp dop_is (qv 3) qn (nomark _)) (qw_or1 (qt_cmp (dop_eq (hu100 hr)) (qv 3) (qe_callB dcall_len rfl T.z_len (by decide +kernel) (qa_cons (qe_ix (qe_ix (qv 0) qi (fun _ _ => rfl)) (qv 2) (fun _ _ => rfl)) qa_nil)) (nomark _))))) (qss_one (qs_ret qn)) qss_nil)
  (qss_one (qs_ret (qe_ix (qe_ix (qe_ix (qv 0) qi (fun _ _ => rfl)) (qv 2) (fun _ _ => rfl)) (qv 3) (fun _ _ => rfl))))))
/- can_be_done -/
theorem w_3 (T : Txt K mg) (ih : IH P w base T n) (cdv : Value) (A : Around) (outer : List Env) (s : Shared) (H : Hp) (E : XK) (hr : Room n (A.deeper (envOfC "can_be_done" (defScope s_3) s.heap.objs.size (T.f 3) cdv))) :
    PSs (cxOf CX0 P w K mg base N_3 "can_be_done" (defScope s_3) (T.f 3) cdv A outer s H E).nox (defBody s_3) (liftS K (b_3 (sem fs n))) :=
  (qss_cons (qs_if (qt_cmp (dop_eq (hu100 hr)) (qe_ix (qv 1) qi (fun _ _ => rfl)) qs (nomark _)) (qss_one (qs_ret (qe_cmp dop_isnot (qe_call (sem_len (i := 1)) ih.o1 hr rfl T.m1 T.F1.kp T.b1 (qa_cons (qv 0) (qa_cons (qe_ix (qv 1) qi (fun _ _ => rfl)) qa_nil))) qn (nomark _)))) qss_nil)
  (qss_cons (qs_if (qt_cmp (dop_eq (hu100 hr)) (qe_ix (qv 1) qi (fun _ _ => rfl)) qs (nomark _)) (qss_one (qs_ret (qe_callB (dcall_all rfl) rfl T.z_all (by decide +kernel) (qa_cons (qe_lc [("promise", 2)] rfl sc_3.nd (qi_seq (qe_ix (qv 1) qi (fun _ _ => rfl))) (okb (by kernel_rfl)) (by decide) (fun _ _ _ _ _ => (qg_name (i := 2) sc_3.nd rfl (by first | exact Or.inl rfl | exact Or.inr rfl))) (fun _ _ _ _ _ => qts_nil) (fun _ _ _ _ _ => (qe_cmp dop_isnot (qe_call (sem_len (i := 1)) ih.o1 hr rfl T.m1 T.F1.kp T.b1 (qa_cons (qv 0) (qa_cons (qv 2) qa_nil))) qn (nomark _)))) qa_nil)))) qss_nil)
  (qss_cons (qs_if (qt_cmp (dop_eq (hu100 hr)) (qe_ix (qv 1) qi (fun _ _ => rfl)) qs (nomark _)) (qss_one (qs_ret (qe_callB (dcall_any rfl) rfl T.z_any (by decide +kernel) (qa_cons (qe_lc [("promise", 2)] rfl sc_3.nd (qi_seq (qe_ix (qv 1) qi (fun _ _ => rfl))) (okb (by kernel_rfl)) (by decide) (fun _ _ _ _ _ => (qg_name (i := 2) sc_3.nd rfl (by first | exact Or.inl rfl | exact Or.inr rfl))) (fun _ _ _ _ _ => qts_nil) (fun _ _ _ _ _ => (qe_cmp dop_isnot (qe_call (sem_len (i := 1)) ih.o1 hr rfl T.m1 T.F1.kp T.b1 (qa_cons (qv 0) (qa_cons (qv 2) qa_nil))) qn (nomark _)))) qa_nil)))) qss_nil)
  (qss_one (qs_ret qb)))))
/- ready_tasks -/
theorem w_4 (T : Txt K mg) (ih : IH P w base T n) (cdv : Value) (A : Around) (outer : List Env) (s : Shared) (H : Hp) (E : XK) (hr : Room n (A.deeper (envOfC "ready_tasks" (defScope s_4) s.heap.objs.size (T.f 4) cdv))) :
    PSs (cxOf CX0 P w K mg base N_4 "ready_tasks" (defScope s_4) (T.f 4) cdv A outer s H E).nox (defBody s_4) (liftS K (b_4 (sem fs n))) :=
  (qss_cons (qs_set (i := 2) sc_4.nd rfl (by first | exact Or.inl rfl | exact Or.inr rfl) (qe_lst qa_nil))
  (qss_cons (qs_for PassesOwn.never rfl (qi_range1 rfl T.z_range (qa_cons (qe_callB dcall_len rfl T.z_len (by decide +kernel) (qa_cons (qe_ix (qv 0) qi (fun _ _ => rfl)) qa_nil)) qa_nil)) (qg_name (i := 3) sc_4.nd rfl (by first | exact Or.inl rfl | exact Or.inr rfl)) (qss_cons (qs_set (i := 4) sc_4.nd rfl (by first | exact Or.inl rfl | exact Or.inr rfl) (qe_call (sem_len (i := 2)) ih.o2 hr rfl T.m2 T.F2.kp T.b2 (qa_cons (qv 0) (qa_cons (qv 1) (qa_cons (qv 3) qa_nil)))))
    (qss_one (qs_if (qt_w (qw_and (qt_cmp dop_isnot (qv 4) qn (nomark _)) (qw_and1 (qt_val (qe_call (sem_len (i := 3)) ih.o3 hr rfl T.m3 T.F3.kp T.b3 (qa_cons (qe_ix (qv 1) qi (fun _ _ => rfl)) (qa_cons (qv 4) qa_nil))))))) (qss_one (qs_expr (qe_bm PySem.F.plainAttrs_list PySem.F.slot_list_append PySem.F.type_list_append okLst_ty dmt_append (qv 2) (qa_cons (qv 3) qa_nil)))) qss_nil))))
  (qss_one (qs_ret (qe_callTy dcall_tuple rfl T.z_tuple (by decide +kernel) (qa_cons (qv 2) qa_nil))))))
/- value_kept_by -/
theorem w_5 (T : Txt K mg) (ih : IH P w base T n) (cdv : Value) (A : Around) (outer : List Env) (s : Shared) (H : Hp) (E : XK) (hr : Room n (A.deeper (envOfC "value_kept_by" (defScope s_5) s.heap.objs.size (T.f 5) cdv))) :
    PSs (cxOf CX0 P w K mg base N_5 "value_kept_by" (defScope s_5) (T.f 5) cdv A outer s H E).nox (defBody s_5) (liftS K (b_5 (sem fs n))) :=
  (qss_cons (qs_if (qt_cmp (dop_eq (hu100 hr)) (qe_ix (qv 1) qi (fun _ _ => rfl)) qs (nomark _)) (qss_one (qs_ret (qe_op dop_add (qe_ix (qv 1) qi (fun _ _ => rfl)) (qe_callB (dcall_sum rfl) rfl T.z_sum (by decide +kernel) (qa_cons (qe_lc [("promise", 2)] rfl sc_5.nd (qi_seq (qe_ix (qv 1) qi (fun _ _ => rfl))) (okb (by kernel_rfl)) (by decide) (fun _ _ _ _ _ => (qg_name (i := 2) sc_5.nd rfl (by first | exact Or.inl rfl | exact Or.inr rfl))) (fun _ _ _ _ _ => qts_nil) (fun _ _ _ _ _ => (qe_call (sem_len (i := 1)) ih.o1 hr rfl T.m1 T.F1.kp T.b1 (qa_cons (qv 0) (qa_cons (qv 2) qa_nil))))) qa_nil))))) qss_nil)
  (qss_cons (qs_for PassesOwn.never rfl (qi_seq (qv 0)) (qg_tup rfl (qgs_cons (qg_name (i := 2) sc_5.nd rfl (by first | exact Or.inl rfl | exact Or.inr rfl)) (qgs_cons (qg_name (i := 3) sc_5.nd rfl (by first | exact Or.inl rfl | exact Or.inr rfl)) qgs_nil))) (qss_one (qs_if (qt_cmp (dop_in (hu100 hr)) (qv 2) (qe_ix (qv 1) qi (fun _ _ => rfl)) (by with_unfolding_all rfl)) (qss_one (qs_ret (qv 3))) qss_nil)))
  (qss_one (qs_ret qn))))
/- stepped -/
theorem w_6 (T : Txt K mg) (ih : IH P w base T n) (cdv : Value) (A : Around) (outer : List Env) (s : Shared) (H : Hp) (E : XK) (hr : Room n (A.deeper (envOfC "stepped" (defScope s_6) s.heap.objs.size (T.f 6) cdv))) :
    PSs (cxOf CX0 P w K mg base N_6 "stepped" (defScope s_6) (T.f 6) cdv A outer s H E).nox (defBody s_6) (liftS K (b_6 (sem fs n))) :=
  (qss_cons (qs_asg (qv 1) (qg_tup rfl (qgs_cons (qg_name (i := 3) sc_6.nd rfl (by first | exact Or.inl rfl | exact Or.inr rfl)) (qgs_cons (qg_name (i := 4) sc_6.nd rfl (by first | exact Or.inl rfl | exact Or.inr rfl)) qgs_nil))))
  (qss_cons (qs_set (i := 5) sc_6.nd rfl (by first | exact Or.inl rfl | exact Or.inr rfl) (qe_call (sem_len (i := 2)) ih.o2 hr rfl T.m2 T.F2.kp T.b2 (qa_cons (qv 0) (qa_cons (qv 1) (qa_cons (qv 2) qa_nil)))))
  (qss_cons (qs_set (i := 6) sc_6.nd rfl (by first | exact Or.inl rfl | exact Or.inr rfl) (qe_callTy dcall_list rfl T.z_list (by decide +kernel) (qa_cons (qv 3) qa_nil)))
  (qss_cons (qs_asg (qe_op dop_add (qe_ix (qv 3) (qv 2) (fun _ _ => rfl)) qi) (qg_sub (qv 6) (qv 2) dset_ix))
  (qss_cons (qs_if (qt_cmp (dop_eq (hu100 hr)) (qe_ix (qv 5) qi (fun _ _ => rfl)) qs (nomark _)) (qss_one (qs_if (qt_cmp dop_is (qe_ix (qv 3) (qe_ix (qv 5) qi (fun _ _ => rfl)) (fun _ _ => rfl)) qn (nomark _)) (qss_one (qs_asg qi (qg_sub (qv 6) (qe_ix (qv 5) qi (fun _ _ => rfl)) dset_ix))) qss_nil)) (qss_one (qs_if (qt_w (qw_and (qt_cmp (dop_ne (hu100 hr)) (qe_ix (qv 5) qi (fun _ _ => rfl)) qs (nomark _)) (qw_and1 (qt_cmp dop_is (qe_call (sem_len (i := 1)) ih.o1 hr rfl T.m1 T.F1.kp T.b1 (qa_cons (qv 4) (qa_cons (qe_ix (qv 5) qi (fun _ _ => rfl)) qa_nil))) qn (nomark _))))) (qss_one (qs_set (i := 4) sc_6.nd rfl (by first | exact Or.inl rfl | exact Or.inr rfl) (qe_op dop_add (qv 4) (qe_tup (qa_cons (qe_tup (qa_cons (qe_ix (qv 5) qi (fun _ _ => rfl)) (qa_cons (qe_call (sem_len (i := 5)) ih.o5 hr rfl T.m5 T.F5.kp T.b5 (qa_cons (qv 4) (qa_cons (qv 5) qa_nil))) qa_nil))) qa_nil))))) qss_nil)))
  (qss_one (qs_ret (qe_tup (qa_cons (qe_callTy dcall_tuple rfl T.z_tuple (by decide +kernel) (qa_cons (qv 6) qa_nil)) (qa_cons (qv 4) qa_nil))))))))))
/- state_after -/
theorem w_7 (T : Txt K mg) (ih : IH P w base T n) (cdv : Value) (A : Around) (outer : List Env) (s : Shared) (H : Hp) (E : XK) (hr : Room n (A.deeper (envOfC "state_after" (defScope s_7) s.heap.objs.size (T.f 7) cdv))) :
    PSs (cxOf CX0 P w K mg base N_7 "state_after" (defScope s_7) (T.f 7) cdv A outer s H E).nox (defBody s_7) (liftS K (b_7 (sem fs n))) :=
  (qss_cons (qs_set (i := 2) sc_7.nd rfl (by first | exact Or.inl rfl | exact Or.inr rfl) (qe_call (sem_len (i := 0)) ih.o0 hr rfl T.m0 T.F0.kp T.b0 (qa_cons (qv 0) qa_nil)))
  (qss_cons (qs_for PassesOwn.never rfl (qi_seq (qv 1)) (qg_name (i := 3) sc_7.nd rfl (by first | exact Or.inl rfl | exact Or.inr rfl)) (qss_one (qs_set (i := 2) sc_7.nd rfl (by first | exact Or.inl rfl | exact Or.inr rfl) (qe_call (sem_len (i := 6)) ih.o6 hr rfl T.m6 T.F6.kp T.b6 (qa_cons (qv 0) (qa_cons (qv 2) (qa_cons (qv 3) qa_nil)))))))
  (qss_one (qs_ret (qv 2)))))
/- run_on -/
theorem w_8 (T : Txt K mg) (ih : IH P w base T n) (cdv : Value) (A : Around) (outer : List Env) (s : Shared) (H : Hp) (E : XK) (hr : Room n (A.deeper (envOfC "run_on" (defScope s_8) s.heap.objs.size (T.f 8) cdv))) :
    PSs (cxOf CX0 P w K mg base N_8 "run_on" (defScope s_8) (T.f 8) cdv A outer s H E).nox (defBody s_8) (liftS K (b_8 (sem fs n))) :=
  (qss_cons (qs_set (i := 2) sc_8.nd rfl (by first | exact Or.inl rfl | exact Or.inr rfl) (qe_lst qa_nil))
  (qss_one (qs_while PassesOwn.never (qt_val qb) (qss_cons (qs_set (i := 3) sc_8.nd rfl (by first | exact Or.inl rfl | exact Or.inr rfl) (qe_call (sem_len (i := 4)) ih.o4 hr rfl T.m4 T.F4.kp T.b4 (qa_cons (qv 0) (qa_cons (qv 1) qa_nil))))
    (qss_cons (qs_if (qt_cmp (dop_eq (hu100 hr)) (qe_callB dcall_len rfl T.z_len (by decide +kernel) (qa_cons (qv 3) qa_nil)) qi (nomark _)) (qss_one (qs_ret (qe_callTy dcall_tuple rfl T.z_tuple (by decide +kernel) (qa_cons (qv 2) qa_nil)))) qss_nil)
    (qss_cons (qs_expr (qe_bm PySem.F.plainAttrs_list PySem.F.slot_list_append PySem.F.type_list_append okLst_ty dmt_append (qv 2) (qa_cons (qe_ix (qv 3) qi (fun _ _ => rfl)) qa_nil)))
    (qss_one (qs_set (i := 1) sc_8.nd rfl (by first | exact Or.inl rfl | exact Or.inr rfl) (qe_call (sem_len (i := 6)) ih.o6 hr rfl T.m6 T.F6.kp T.b6 (qa_cons (qv 0) (qa_cons (qv 1) (qa_cons (qe_ix (qv 3) qi (fun _ _ => rfl)) qa_nil))))))))))))
/- stuck_at -/
theorem w_9 (T : Txt K mg) (ih : IH P w base T n) (cdv : Value) (A : Around) (outer : List Env) (s : Shared) (H : Hp) (E : XK) (hr : Room n (A.deeper (envOfC "stuck_at" (defScope s_9) s.heap.objs.size (T.f 9) cdv))) :
    PSs (cxOf CX0 P w K mg base N_9 "stuck_at" (defScope s_9) (T.f 9) cdv A outer s H E).nox (defBody s_9) (liftS K (b_9 (sem fs n))) :=
  (qss_one (qs_ret (qe_callTy dcall_tuple rfl T.z_tuple (by decide +kernel) (qa_cons (qe_lc [("task", 2)] rfl sc_9.nd (qi_range1 rfl T.z_range (qa_cons (qe_callB dcall_len rfl T.z_len (by decide +kernel) (qa_cons (qe_ix (qv 0) qi (fun _ _ => rfl)) qa_nil)) qa_nil)) (okb (by kernel_rfl)) (by decide) (fun _ _ _ _ _ => (qg_name (i := 2) sc_9.nd rfl (by first | exact Or.inl rfl | exact Or.inr rfl))) (fun _ _ _ _ _ => (qts_one (qt_cmp dop_isnot (qe_call (sem_len (i := 2)) ih.o2 hr rfl T.m2 T.F2.kp T.b2 (qa_cons (qv 0) (qa_cons (qv 1) (qa_cons (qv 2) qa_nil)))) qn (nomark _)))) (fun _ _ _ _ _ => (qv 2))) qa_nil))))
/- values_at -/
theorem w_10 (T : Txt K mg) (ih : IH P w base T n) (cdv : Value) (A : Around) (outer : List Env) (s : Shared) (H : Hp) (E : XK) (hr : Room n (A.deeper (envOfC "values_at" (defScope s_10) s.heap.objs.size (T.f 10) cdv))) :
    PSs (cxOf CX0 P w K mg base N_10 "values_at" (defScope s_10) (T.f 10) cdv A outer s H E).nox (defBody s_10) (liftS K (b_10 (sem fs n))) :=
  (qss_one (qs_ret (qe_callTy dcall_tuple rfl T.z_tuple (by decide +kernel) (qa_cons (qe_lc [("promise", 2)] rfl sc_10.nd (qi_range1 rfl T.z_range (qa_cons (qe_ix (qv 0) qi (fun _ _ => rfl)) qa_nil)) (okb (by kernel_rfl)) (by decide) (fun _ _ _ _ _ => (qg_name (i := 2) sc_10.nd rfl (by first | exact Or.inl rfl | exact Or.inr rfl))) (fun _ _ _ _ _ => qts_nil) (fun _ _ _ _ _ => (qe_call (sem_len (i := 1)) ih.o1 hr rfl T.m1 T.F1.kp T.b1 (qa_cons (qe_ix (qv 1) qi (fun _ _ => rfl)) (qa_cons (qv 2) qa_nil))))) qa_nil))))
/- ending_at -/
theorem w_11 (T : Txt K mg) (ih : IH P w base T n) (cdv : Value) (A : Around) (outer : List Env) (s : Shared) (H : Hp) (E : XK) (hr : Room n (A.deeper (envOfC "ending_at" (defScope s_11) s.heap.objs.size (T.f 11) cdv))) :
    PSs (cxOf CX0 P w K mg base N_11 "ending_at" (defScope s_11) (T.f 11) cdv A outer s H E).nox (defBody s_11) (liftS K (b_11 (sem fs n))) :=
  (qss_one (qs_ret (qe_tup (qa_cons (qe_call (sem_len (i := 10)) ih.o10 hr rfl T.m10 T.F10.kp T.b10 (qa_cons (qv 0) (qa_cons (qv 1) qa_nil))) (qa_cons (qe_call (sem_len (i := 9)) ih.o9 hr rfl T.m9 T.F9.kp T.b9 (qa_cons (qv 0) (qa_cons (qv 1) qa_nil))) qa_nil)))))
/- is_run -/
theorem w_12 (T : Txt K mg) (ih : IH P w base T n) (cdv : Value) (A : Around) (outer : List Env) (s : Shared) (H : Hp) (E : XK) (hr : Room n (A.deeper (envOfC "is_run" (defScope s_12) s.heap.objs.size (T.f 12) cdv))) :
    PSs (cxOf CX0 P w K mg base N_12 "is_run" (defScope s_12) (T.f 12) cdv A outer s H E).nox (defBody s_12) (liftS K (b_12 (sem fs n))) :=
  (qss_cons (qs_set (i := 2) sc_12.nd rfl (by first | exact Or.inl rfl | exact Or.inr rfl) (qe_call (sem_len (i := 0)) ih.o0 hr rfl T.m0 T.F0.kp T.b0 (qa_cons (qv 0) qa_nil)))
  (qss_cons (qs_for PassesOwn.never rfl (qi_seq (qv 1)) (qg_name (i := 3) sc_12.nd rfl (by first | exact Or.inl rfl | exact Or.inr rfl)) (qss_cons (qs_if (qt_cmp (dop_notin (hu100 hr)) (qv 3) (qe_call (sem_len (i := 4)) ih.o4 hr rfl T.m4 T.F4.kp T.b4 (qa_cons (qv 0) (qa_cons (qv 2) qa_nil))) (by with_unfolding_all rfl)) (qss_one (qs_ret qb)) qss_nil)
    (qss_one (qs_set (i := 2) sc_12.nd rfl (by first | exact Or.inl rfl | exact Or.inr rfl) (qe_call (sem_len (i := 6)) ih.o6 hr rfl T.m6 T.F6.kp T.b6 (qa_cons (qv 0) (qa_cons (qv 2) (qa_cons (qv 3) qa_nil))))))))
  (qss_one (qs_ret qb))))
/- outcome_of -/
theorem w_13 (T : Txt K mg) (ih : IH P w base T n) (cdv : Value) (A : Around) (outer : List Env) (s : Shared) (H : Hp) (E : XK) (hr : Room n (A.deeper (envOfC "outcome_of" (defScope s_13) s.heap.objs.size (T.f 13) cdv))) :
    PSs (cxOf CX0 P w K mg base N_13 "outcome_of" (defScope s_13) (T.f 13) cdv A outer s H E).nox (defBody s_13) (liftS K (b_13 (sem fs n))) :=
  (qss_one (qs_ret (qe_call (sem_len (i := 11)) ih.o11 hr rfl T.m11 T.F11.kp T.b11 (qa_cons (qv 0) (qa_cons (qe_call (sem_len (i := 7)) ih.o7 hr rfl T.m7 T.F7.kp T.b7 (qa_cons (qv 0) (qa_cons (qv 1) qa_nil))) qa_nil)))))
/- first_full_run -/
theorem w_14 (T : Txt K mg) (ih : IH P w base T n) (cdv : Value) (A : Around) (outer : List Env) (s : Shared) (H : Hp) (E : XK) (hr : Room n (A.deeper (envOfC "first_full_run" (defScope s_14) s.heap.objs.size (T.f 14) cdv))) :
    PSs (cxOf CX0 P w K mg base N_14 "first_full_run" (defScope s_14) (T.f 14) cdv A outer s H E).nox (defBody s_14) (liftS K (b_14 (sem fs n))) :=
  (qss_one (qs_ret (qe_op dop_add (qe_callTy dcall_tuple rfl T.z_tuple (by decide +kernel) (qa_cons (qv 1) qa_nil)) (qe_call (sem_len (i := 8)) ih.o8 hr rfl T.m8 T.F8.kp T.b8 (qa_cons (qv 0) (qa_cons (qe_call (sem_len (i := 7)) ih.o7 hr rfl T.m7 T.F7.kp T.b7 (qa_cons (qv 0) (qa_cons (qv 1) qa_nil))) qa_nil))))))
/- _law_draws -/
theorem w_15 (T : Txt K mg) (ih : IH P w base T n) (cdv : Value) (A : Around) (outer : List Env) (s : Shared) (H : Hp) (E : XK) (hr : Room n (A.deeper (envOfC "_law_draws" (defScope s_15) s.heap.objs.size (T.f 15) cdv))) :
    PSs (cxOf CX0 P w K mg base N_15 "_law_draws" (defScope s_15) (T.f 15) cdv A outer s H E).nox (defBody s_15) (liftS K (b_15 (sem fs n))) :=
  (qss_cons (qs_setLc (i := 2) [("cell", 3)] rfl sc_15.nd rfl rfl (sw_true rfl rfl rfl (by decide +kernel)) (qi_seq (qe_slice (qv 0) qo_none (qo_some qi))) (okb (by kernel_rfl)) (by decide) (fun _ _ _ _ _ => (qg_name (i := 3) sc_15.nd rfl (by first | exact Or.inl rfl | exact Or.inr rfl))) (fun _ _ _ _ _ => qts_nil) (fun _ _ _ _ _ => (qe_op dop_mod (qe_callTy dcall_int rfl T.z_int (by decide +kernel) (qa_cons (qv 3) qa_nil)) (qe_op dop_shl qi qi))))
  (qss_cons (qs_if (qt_cmp (dop_eq (hu100 hr)) (qe_callB dcall_len rfl T.z_len (by decide +kernel) (qa_cons (qv 2) qa_nil)) qi (nomark _)) (qss_one (qs_expr (qe_bm PySem.F.plainAttrs_list PySem.F.slot_list_append PySem.F.type_list_append okLst_ty dmt_append (qv 2) (qa_cons qi qa_nil)))) qss_nil)
  (qss_cons (qs_set (i := 4) sc_15.nd rfl (by first | exact Or.inl rfl | exact Or.inr rfl) (qe_callTy dcall_list rfl T.z_list (by decide +kernel) (qa_cons (qv 2) qa_nil)))
  (qss_cons (qs_set (i := 5) sc_15.nd rfl (by first | exact Or.inl rfl | exact Or.inr rfl) (qe_lst qa_nil))
  (qss_cons (qs_for PassesOwn.never rfl (qi_range1 rfl T.z_range (qa_cons (qv 1) qa_nil)) (qg_name (i := 6) sc_15.nd rfl (by first | exact Or.inl rfl | exact Or.inr rfl)) (qss_cons (qs_set (i := 7) sc_15.nd rfl (by first | exact Or.inl rfl | exact Or.inr rfl) (qe_op dop_mod (qe_callTy dcall_int rfl T.z_int (by decide +kernel) (qa_cons (qv 6) qa_nil)) (qe_callB dcall_len rfl T.z_len (by decide +kernel) (qa_cons (qv 2) qa_nil))))
    (qss_one (qs_if (qt_w (qw_and (qt_cmp (dop_cmp (hu100 hr) .ge) (qe_ix (qv 2) (qv 7) (fun _ _ => rfl)) (qe_op dop_pow qi qi) (nomark _)) (qw_and1 (qt_cmp (dop_cmp (hu100 hr) .gt) (qe_ix (qv 4) (qv 7) (fun _ _ => rfl)) qi (nomark _))))) (qss_cons (qs_expr (qe_bm PySem.F.plainAttrs_list PySem.F.slot_list_append PySem.F.type_list_append okLst_ty dmt_append (qv 5) (qa_cons (qe_op dop_mod (qe_callTy dcall_int rfl T.z_int (by decide +kernel) (qa_cons (qe_ix (qv 4) (qv 7) (fun _ _ => rfl)) qa_nil)) qi) qa_nil)))
      (qss_one (qs_asg (qe_op dop_fdv (qe_ix (qv 4) (qv 7) (fun _ _ => rfl)) qi) (qg_sub (qv 4) (qv 7) dset_ix)))) (qss_cons (qs_set (i := 8) sc_15.nd rfl (by first | exact Or.inl rfl | exact Or.inr rfl) (qe_op dop_mod (qe_callTy dcall_int rfl T.z_int (by decide +kernel) (qa_cons (qe_op dop_add (qe_op dop_add (qe_op dop_mul (qe_ix (qv 2) (qv 7) (fun _ _ => rfl)) qi) (qe_op dop_mul (qv 6) qi)) qi) qa_nil)) qi))
      (qss_one (qs_expr (qe_bm PySem.F.plainAttrs_list PySem.F.slot_list_append PySem.F.type_list_append okLst_ty dmt_append (qv 5) (qa_cons (qe_op dop_mod (qe_callTy dcall_int rfl T.z_int (by decide +kernel) (qa_cons (qe_op dop_add (qe_op dop_add (qe_op dop_mul (qv 8) (qv 8)) (qe_op dop_mul qi (qv 8))) (qv 6)) qa_nil)) qi) qa_nil)))))))))
  (qss_cons (qs_expr (qe_bm0 PySem.F.plainAttrs_list PySem.F.slot_list_reverse PySem.F.type_list_reverse okLst_ty dmt_reverse (qv 5)))
  (qss_one (qs_ret (qv 5)))))))))
/- _law_take -/
theorem w_16 (T : Txt K mg) (ih : IH P w base T n) (cdv : Value) (A : Around) (outer : List Env) (s : Shared) (H : Hp) (E : XK) (hr : Room n (A.deeper (envOfC "_law_take" (defScope s_16) s.heap.objs.size (T.f 16) cdv))) :
    PSs (cxOf CX0 P w K mg base N_16 "_law_take" (defScope s_16) (T.f 16) cdv A outer s H E).nox (defBody s_16) (liftS K (b_16 (sem fs n))) :=
  (qss_cons (qs_if (qt_cmp (dop_eq (hu100 hr)) (qe_callB dcall_len rfl T.z_len (by decide +kernel) (qa_cons (qv 0) qa_nil)) qi (nomark _)) (qss_one (qs_ret qi)) qss_nil)
  (qss_one (qs_ret (qe_op dop_mod (qe_callTy dcall_int rfl T.z_int (by decide +kernel) (qa_cons (qe_bm0 PySem.F.plainAttrs_list PySem.F.slot_list_pop PySem.F.type_list_pop okLst_ty dmt_pop (qv 0)) qa_nil)) (qv 1)))))
/- _law_pick -/
theorem w_17 (T : Txt K mg) (ih : IH P w base T n) (cdv : Value) (A : Around) (outer : List Env) (s : Shared) (H : Hp) (E : XK) (hr : Room n (A.deeper (envOfC "_law_pick" (defScope s_17) s.heap.objs.size (T.f 17) cdv))) :
    PSs (cxOf CX0 P w K mg base N_17 "_law_pick" (defScope s_17) (T.f 17) cdv A outer s H E).nox (defBody s_17) (liftS K (b_17 (sem fs n))) :=
  (qss_one (qs_ret (qe_ix (qv 1) (qe_call (sem_len (i := 16)) ih.o16 hr rfl T.m16 T.F16.kp T.b16 (qa_cons (qv 0) (qa_cons (qe_callB dcall_len rfl T.z_len (by decide +kernel) (qa_cons (qv 1) qa_nil)) qa_nil))) (fun _ _ => rfl))))
/- _law_same -/
theorem w_18 (T : Txt K mg) (ih : IH P w base T n) (cdv : Value) (A : Around) (outer : List Env) (s : Shared) (H : Hp) (E : XK) (hr : Room n (A.deeper (envOfC "_law_same" (defScope s_18) s.heap.objs.size (T.f 18) cdv))) :
    PSs (cxOf CX0 P w K mg base N_18 "_law_same" (defScope s_18) (T.f 18) cdv A outer s H E).nox (defBody s_18) (liftS K (b_18 (sem fs n))) :=
  (qss_cons (qs_if (qt_val (qe_callB dcall_isi rfl T.z_isinstance (by decide +kernel) (qa_cons (qv 1) (qa_cons (qe_tup (qa_cons (qe_ty rfl T.z_tuple (by decide +kernel)) (qa_cons (qe_ty rfl T.z_list (by decide +kernel)) qa_nil))) qa_nil)))) (qss_cons (qs_if (qt_w (qw_or (qt_cmp (dop_ne (hu100 hr)) (qe_callB dcall_isi rfl T.z_isinstance (by decide +kernel) (qa_cons (qv 0) (qa_cons (qe_ty rfl T.z_tuple (by decide +kernel)) qa_nil))) (qe_callB dcall_isi rfl T.z_isinstance (by decide +kernel) (qa_cons (qv 1) (qa_cons (qe_ty rfl T.z_tuple (by decide +kernel)) qa_nil))) (nomark _)) (qw_or1 (qt_cmp (dop_ne (hu100 hr)) (qe_callB dcall_isi rfl T.z_isinstance (by decide +kernel) (qa_cons (qv 0) (qa_cons (qe_ty rfl T.z_list (by decide +kernel)) qa_nil))) (qe_callB dcall_isi rfl T.z_isinstance (by decide +kernel) (qa_cons (qv 1) (qa_cons (qe_ty rfl T.z_list (by decide +kernel)) qa_nil))) (nomark _))))) (qss_one (qs_ret qb)) qss_nil)
    (qss_cons (qs_if (qt_cmp (dop_ne (hu100 hr)) (qe_callB dcall_len rfl T.z_len (by decide +kernel) (qa_cons (qv 0) qa_nil)) (qe_callB dcall_len rfl T.z_len (by decide +kernel) (qa_cons (qv 1) qa_nil)) (nomark _)) (qss_one (qs_ret qb)) qss_nil)
    (qss_one (qs_ret (qe_cmp (dop_notin (hu100 hr)) qb (qe_lc [("k", 2)] rfl sc_18.nd (qi_range1 rfl T.z_range (qa_cons (qe_callB dcall_len rfl T.z_len (by decide +kernel) (qa_cons (qv 1) qa_nil)) qa_nil)) (okb (by kernel_rfl)) (by decide) (fun _ _ _ _ _ => (qg_name (i := 2) sc_18.nd rfl (by first | exact Or.inl rfl | exact Or.inr rfl))) (fun _ _ _ _ _ => qts_nil) (fun _ _ _ _ _ => (qe_call (sem_len (i := 18)) ih.o18 hr rfl T.m18 T.F18.kp T.b18 (qa_cons (qe_ix (qv 0) (qv 2) (fun _ _ => rfl)) (qa_cons (qe_ix (qv 1) (qv 2) (fun _ _ => rfl)) qa_nil))))) (by with_unfolding_all rfl)))))) qss_nil)
  (qss_cons (qs_if (qt_w (qw_or (qt_cmp (dop_ne (hu100 hr)) (qe_callB dcall_isi rfl T.z_isinstance (by decide +kernel) (qa_cons (qv 0) (qa_cons (qe_ty rfl T.z_bool (by decide +kernel)) qa_nil))) (qe_callB dcall_isi rfl T.z_isinstance (by decide +kernel) (qa_cons (qv 1) (qa_cons (qe_ty rfl T.z_bool (by decide +kernel)) qa_nil))) (nomark _)) (qw_or1 (qt_cmp (dop_ne (hu100 hr)) (qe_callB dcall_isi rfl T.z_isinstance (by decide +kernel) (qa_cons (qv 0) (qa_cons (qe_ty rfl T.z_int (by decide +kernel)) qa_nil))) (qe_callB dcall_isi rfl T.z_isinstance (by decide +kernel) (qa_cons (qv 1) (qa_cons (qe_ty rfl T.z_int (by decide +kernel)) qa_nil))) (nomark _))))) (qss_one (qs_ret qb)) qss_nil)
  (qss_cons (qs_if (qt_w (qw_or (qt_cmp (dop_ne (hu100 hr)) (qe_callB dcall_isi rfl T.z_isinstance (by decide +kernel) (qa_cons (qv 0) (qa_cons (qe_ty rfl T.z_str (by decide +kernel)) qa_nil))) (qe_callB dcall_isi rfl T.z_isinstance (by decide +kernel) (qa_cons (qv 1) (qa_cons (qe_ty rfl T.z_str (by decide +kernel)) qa_nil))) (nomark _)) (qw_or1 (qt_cmp (dop_ne (hu100 hr)) (qe_cmp dop_is (qv 0) qn (nomark _)) (qe_cmp dop_is (qv 1) qn (nomark _)) (nomark _))))) (qss_one (qs_ret qb)) qss_nil)
  (qss_one (qs_ret (qe_cmp (dop_eq (hu100 hr)) (qv 0) (qv 1) (nomark _)))))))
/- _law_shuffled -/
theorem w_19 (T : Txt K mg) (ih : IH P w base T n) (cdv : Value) (A : Around) (outer : List Env) (s : Shared) (H : Hp) (E : XK) (hr : Room n (A.deeper (envOfC "_law_shuffled" (defScope s_19) s.heap.objs.size (T.f 19) cdv))) :
    PSs (cxOf CX0 P w K mg base N_19 "_law_shuffled" (defScope s_19) (T.f 19) cdv A outer s H E).nox (defBody s_19) (liftS K (b_19 (sem fs n))) :=
  (qss_cons (qs_set (i := 2) sc_19.nd rfl (by first | exact Or.inl rfl | exact Or.inr rfl) (qe_callTy dcall_list rfl T.z_list (by decide +kernel) (qa_cons (qv 1) qa_nil)))
  (qss_cons (qs_set (i := 3) sc_19.nd rfl (by first | exact Or.inl rfl | exact Or.inr rfl) (qe_lst qa_nil))
  (qss_cons (qs_for PassesOwn.never rfl (qi_range1 rfl T.z_range (qa_cons (qe_callB dcall_len rfl T.z_len (by decide +kernel) (qa_cons (qv 2) qa_nil)) qa_nil)) (qg_name (i := 4) sc_19.nd rfl (by first | exact Or.inl rfl | exact Or.inr rfl)) (qss_one (qs_expr (qe_bm PySem.F.plainAttrs_list PySem.F.slot_list_append PySem.F.type_list_append okLst_ty dmt_append (qv 3) (qa_cons (qe_bm PySem.F.plainAttrs_list PySem.F.slot_list_pop PySem.F.type_list_pop okLst_ty dmt_popAt (qv 2) (qa_cons (qe_call (sem_len (i := 16)) ih.o16 hr rfl T.m16 T.F16.kp T.b16 (qa_cons (qv 0) (qa_cons (qe_callB dcall_len rfl T.z_len (by decide +kernel) (qa_cons (qv 2) qa_nil)) qa_nil))) qa_nil)) qa_nil)))))
  (qss_one (qs_ret (qv 3))))))
/- _law_some_of -/
theorem w_20 (T : Txt K mg) (ih : IH P w base T n) (cdv : Value) (A : Around) (outer : List Env) (s : Shared) (H : Hp) (E : XK) (hr : Room n (A.deeper (envOfC "_law_some_of" (defScope s_20) s.heap.objs.size (T.f 20) cdv))) :
    PSs (cxOf CX0 P w K mg base N_20 "_law_some_of" (defScope s_20) (T.f 20) cdv A outer s H E).nox (defBody s_20) (liftS K (b_20 (sem fs n))) :=
  (qss_cons (qs_set (i := 3) sc_20.nd rfl (by first | exact Or.inl rfl | exact Or.inr rfl) (qe_lst qa_nil))
  (qss_cons (qs_for PassesOwn.never rfl (qi_range1 rfl T.z_range (qa_cons (qe_op dop_add qi (qe_call (sem_len (i := 16)) ih.o16 hr rfl T.m16 T.F16.kp T.b16 (qa_cons (qv 0) (qa_cons (qv 2) qa_nil)))) qa_nil)) (qg_name (i := 4) sc_20.nd rfl (by first | exact Or.inl rfl | exact Or.inr rfl)) (qss_cons (qs_set (i := 5) sc_20.nd rfl (by first | exact Or.inl rfl | exact Or.inr rfl) (qe_call (sem_len (i := 17)) ih.o17 hr rfl T.m17 T.F17.kp T.b17 (qa_cons (qv 0) (qa_cons (qv 1) qa_nil))))
    (qss_one (qs_if (qt_cmp (dop_notin (hu100 hr)) (qv 5) (qv 3) (by with_unfolding_all rfl)) (qss_one (qs_expr (qe_bm PySem.F.plainAttrs_list PySem.F.slot_list_append PySem.F.type_list_append okLst_ty dmt_append (qv 3) (qa_cons (qv 5) qa_nil)))) qss_nil))))
  (qss_one (qs_ret (qe_callB (dcall_sorted (hu100 hr)) rfl T.z_sorted (by decide +kernel) (qa_cons (qv 3) qa_nil))))))
/- _law_put -/
theorem w_21 (T : Txt K mg) (ih : IH P w base T n) (cdv : Value) (A : Around) (outer : List Env) (s : Shared) (H : Hp) (E : XK) (hr : Room n (A.deeper (envOfC "_law_put" (defScope s_21) s.heap.objs.size (T.f 21) cdv))) :
    PSs (cxOf CX0 P w K mg base N_21 "_law_put" (defScope s_21) (T.f 21) cdv A outer s H E).nox (defBody s_21) (liftS K (b_21 (sem fs n))) :=
  (qss_one (qs_ret (qe_op dop_add (qe_op dop_add (qe_slice (qv 0) qo_none (qo_some (qv 1))) (qe_tup (qa_cons (qv 2) qa_nil))) (qe_slice (qv 0) (qo_some (qe_op dop_add (qv 1) qi)) qo_none))))
/- _law_without -/
theorem w_22 (T : Txt K mg) (ih : IH P w base T n) (cdv : Value) (A : Around) (outer : List Env) (s : Shared) (H : Hp) (E : XK) (hr : Room n (A.deeper (envOfC "_law_without" (defScope s_22) s.heap.objs.size (T.f 22) cdv))) :
    PSs (cxOf CX0 P w K mg base N_22 "_law_without" (defScope s_22) (T.f 22) cdv A outer s H E).nox (defBody s_22) (liftS K (b_22 (sem fs n))) :=
  (qss_one (qs_ret (qe_op dop_add (qe_slice (qv 0) qo_none (qo_some (qv 1))) (qe_slice (qv 0) (qo_some (qe_op dop_add (qv 1) qi)) qo_none))))
/- _law_number -/
theorem w_23 (T : Txt K mg) (ih : IH P w base T n) (cdv : Value) (A : Around) (outer : List Env) (s : Shared) (H : Hp) (E : XK) (hr : Room n (A.deeper (envOfC "_law_number" (defScope s_23) s.heap.objs.size (T.f 23) cdv))) :
    PSs (cxOf CX0 P w K mg base N_23 "_law_number" (defScope s_23) (T.f 23) cdv A outer s H E).nox (defBody s_23) (liftS K (b_23 (sem fs n))) :=
  (qss_cons (qs_if (qt_cmp (dop_eq (hu100 hr)) (qe_call (sem_len (i := 16)) ih.o16 hr rfl T.m16 T.F16.kp T.b16 (qa_cons (qv 0) (qa_cons qi qa_nil))) qi (nomark _)) (qss_one (qs_ret (qe_call (sem_len (i := 17)) ih.o17 hr rfl T.m17 T.F17.kp T.b17 (qa_cons (qv 0) (qa_cons (qe_lst (qa_cons (qe_op dop_add (qe_op dop_pow qi qi) qi) (qa_cons (qe_op dop_sub (qe_un dun_neg (qe_op dop_pow qi qi)) qi) (qa_cons (qe_op dop_add (qe_op dop_pow qi qi) qi) qa_nil)))) qa_nil))))) qss_nil)
  (qss_one (qs_ret (qe_op dop_sub (qe_call (sem_len (i := 16)) ih.o16 hr rfl T.m16 T.F16.kp T.b16 (qa_cons (qv 0) (qa_cons qi qa_nil))) qi))))
/- _law_start_state -/
theorem w_24 (T : Txt K mg) (ih : IH P w base T n) (cdv : Value) (A : Around) (outer : List Env) (s : Shared) (H : Hp) (E : XK) (hr : Room n (A.deeper (envOfC "_law_start_state" (defScope s_24) s.heap.objs.size (T.f 24) cdv))) :
    PSs (cxOf CX0 P w K mg base N_24 "_law_start_state" (defScope s_24) (T.f 24) cdv A outer s H E).nox (defBody s_24) (liftS K (b_24 (sem fs n))) :=
  (qss_one (qs_ret (qe_tup (qa_cons (qe_callTy dcall_tuple rfl T.z_tuple (by decide +kernel) (qa_cons (qe_lc [("t", 1)] rfl sc_24.nd (qi_range1 rfl T.z_range (qa_cons (qe_callB dcall_len rfl T.z_len (by decide +kernel) (qa_cons (qe_ix (qv 0) qi (fun _ _ => rfl)) qa_nil)) qa_nil)) (okb (by kernel_rfl)) (by decide) (fun _ _ _ _ _ => (qg_name (i := 1) sc_24.nd rfl (by first | exact Or.inl rfl | exact Or.inr rfl))) (fun _ _ _ _ _ => qts_nil) (fun _ _ _ _ _ => (qe_ix (qe_lst (qa_cons qn (qa_cons qi qa_nil))) (qe_callTy dcall_int rfl T.z_int (by decide +kernel) (qa_cons (qe_cmp (dop_eq (hu100 hr)) (qv 1) qi (nomark _)) qa_nil)) (fun _ _ => rfl)))) qa_nil)) (qa_cons (qe_tup qa_nil) qa_nil)))))
/- _law_worth -/
theorem w_25 (T : Txt K mg) (ih : IH P w base T n) (cdv : Value) (A : Around) (outer : List Env) (s : Shared) (H : Hp) (E : XK) (hr : Room n (A.deeper (envOfC "_law_worth" (defScope s_25) s.heap.objs.size (T.f 25) cdv))) :
    PSs (cxOf CX0 P w K mg base N_25 "_law_worth" (defScope s_25) (T.f 25) cdv A outer s H E).nox (defBody s_25) (liftS K (b_25 (sem fs n))) :=
  (qss_cons (qs_for PassesOwn.never rfl (qi_seq (qv 0)) (qg_name (i := 2) sc_25.nd rfl (by first | exact Or.inl rfl | exact Or.inr rfl)) (qss_one (qs_if (qt_cmp (dop_eq (hu100 hr)) (qe_ix (qv 2) qi (fun _ _ => rfl)) (qv 1) (nomark _)) (qss_one (qs_ret (qe_ix (qv 2) qi (fun _ _ => rfl)))) qss_nil)))
  (qss_one (qs_ret qn)))
/- _law_can -/
theorem w_26 (T : Txt K mg) (ih : IH P w base T n) (cdv : Value) (A : Around) (outer : List Env) (s : Shared) (H : Hp) (E : XK) (hr : Room n (A.deeper (envOfC "_law_can" (defScope s_26) s.heap.objs.size (T.f 26) cdv))) :
    PSs (cxOf CX0 P w K mg base N_26 "_law_can" (defScope s_26) (T.f 26) cdv A outer s H E).nox (defBody s_26) (liftS K (b_26 (sem fs n))) :=
  (qss_cons (qs_set (i := 3) sc_26.nd rfl (by first | exact Or.inl rfl | exact Or.inr rfl) (qe_ix (qe_ix (qv 1) qi (fun _ _ => rfl)) (qv 2) (fun _ _ => rfl)))
  (qss_cons (qs_if (qt_w (qw_or (qt_cmp dop_is (qv 3) qn (nomark _)) (qw_or1 (qt_cmp (dop_cmp (hu100 hr) .ge) (qv 3) (qe_callB dcall_len rfl T.z_len (by decide +kernel) (qa_cons (qe_ix (qe_ix (qv 0) qi (fun _ _ => rfl)) (qv 2) (fun _ _ => rfl)) qa_nil)) (nomark _))))) (qss_one (qs_ret qb)) qss_nil)
  (qss_cons (qs_set (i := 4) sc_26.nd rfl (by first | exact Or.inl rfl | exact Or.inr rfl) (qe_ix (qe_ix (qe_ix (qv 0) qi (fun _ _ => rfl)) (qv 2) (fun _ _ => rfl)) (qv 3) (fun _ _ => rfl)))
  (qss_cons (qs_set (i := 5) sc_26.nd rfl (by first | exact Or.inl rfl | exact Or.inr rfl) (qe_lc [("pair", 6)] rfl sc_26.nd (qi_seq (qe_ix (qv 1) qi (fun _ _ => rfl))) (okb (by kernel_rfl)) (by decide) (fun _ _ _ _ _ => (qg_name (i := 6) sc_26.nd rfl (by first | exact Or.inl rfl | exact Or.inr rfl))) (fun _ _ _ _ _ => qts_nil) (fun _ _ _ _ _ => (qe_ix (qv 6) qi (fun _ _ => rfl)))))
  (qss_cons (qs_if (qt_cmp (dop_eq (hu100 hr)) (qe_ix (qv 4) qi (fun _ _ => rfl)) qs (nomark _)) (qss_one (qs_ret (qe_cmp (dop_in (hu100 hr)) (qe_ix (qv 4) qi (fun _ _ => rfl)) (qv 5) (by with_unfolding_all rfl)))) qss_nil)
  (qss_cons (qs_if (qt_cmp (dop_eq (hu100 hr)) (qe_ix (qv 4) qi (fun _ _ => rfl)) qs (nomark _)) (qss_one (qs_ret (qe_cmp (dop_notin (hu100 hr)) qb (qe_lc [("p", 7)] rfl sc_26.nd (qi_seq (qe_ix (qv 4) qi (fun _ _ => rfl))) (okb (by kernel_rfl)) (by decide) (fun _ _ _ _ _ => (qg_name (i := 7) sc_26.nd rfl (by first | exact Or.inl rfl | exact Or.inr rfl))) (fun _ _ _ _ _ => qts_nil) (fun _ _ _ _ _ => (qe_cmp (dop_in (hu100 hr)) (qv 7) (qv 5) (by with_unfolding_all rfl)))) (by with_unfolding_all rfl)))) qss_nil)
  (qss_cons (qs_if (qt_cmp (dop_eq (hu100 hr)) (qe_ix (qv 4) qi (fun _ _ => rfl)) qs (nomark _)) (qss_one (qs_ret (qe_cmp (dop_in (hu100 hr)) qb (qe_lc [("p", 7)] rfl sc_26.nd (qi_seq (qe_ix (qv 4) qi (fun _ _ => rfl))) (okb (by kernel_rfl)) (by decide) (fun _ _ _ _ _ => (qg_name (i := 7) sc_26.nd rfl (by first | exact Or.inl rfl | exact Or.inr rfl))) (fun _ _ _ _ _ => qts_nil) (fun _ _ _ _ _ => (qe_cmp (dop_in (hu100 hr)) (qv 7) (qv 5) (by with_unfolding_all rfl)))) (by with_unfolding_all rfl)))) qss_nil)
  (qss_one (qs_ret qb)))))))))
/- _law_ready -/
theorem w_27 (T : Txt K mg) (ih : IH P w base T n) (cdv : Value) (A : Around) (outer : List Env) (s : Shared) (H : Hp) (E : XK) (hr : Room n (A.deeper (envOfC "_law_ready" (defScope s_27) s.heap.objs.size (T.f 27) cdv))) :
    PSs (cxOf CX0 P w K mg base N_27 "_law_ready" (defScope s_27) (T.f 27) cdv A outer s H E).nox (defBody s_27) (liftS K (b_27 (sem fs n))) :=
  (qss_one (qs_ret (qe_lc [("t", 2)] rfl sc_27.nd (qi_range1 rfl T.z_range (qa_cons (qe_callB dcall_len rfl T.z_len (by decide +kernel) (qa_cons (qe_ix (qv 0) qi (fun _ _ => rfl)) qa_nil)) qa_nil)) (okb (by kernel_rfl)) (by decide) (fun _ _ _ _ _ => (qg_name (i := 2) sc_27.nd rfl (by first | exact Or.inl rfl | exact Or.inr rfl))) (fun _ _ _ _ _ => (qts_one (qt_val (qe_call (sem_len (i := 26)) ih.o26 hr rfl T.m26 T.F26.kp T.b26 (qa_cons (qv 0) (qa_cons (qv 1) (qa_cons (qv 2) qa_nil))))))) (fun _ _ _ _ _ => (qv 2)))))
/- _law_step -/
theorem w_28 (T : Txt K mg) (ih : IH P w base T n) (cdv : Value) (A : Around) (outer : List Env) (s : Shared) (H : Hp) (E : XK) (hr : Room n (A.deeper (envOfC "_law_step" (defScope s_28) s.heap.objs.size (T.f 28) cdv))) :
    PSs (cxOf CX0 P w K mg base N_28 "_law_step" (defScope s_28) (T.f 28) cdv A outer s H E).nox (defBody s_28) (liftS K (b_28 (sem fs n))) :=
  (qss_cons (qs_asg (qv 1) (qg_tup rfl (qgs_cons (qg_name (i := 3) sc_28.nd rfl (by first | exact Or.inl rfl | exact Or.inr rfl)) (qgs_cons (qg_name (i := 4) sc_28.nd rfl (by first | exact Or.inl rfl | exact Or.inr rfl)) qgs_nil))))
  (qss_cons (qs_set (i := 5) sc_28.nd rfl (by first | exact Or.inl rfl | exact Or.inr rfl) (qe_ix (qe_ix (qe_ix (qv 0) qi (fun _ _ => rfl)) (qv 2) (fun _ _ => rfl)) (qe_ix (qv 3) (qv 2) (fun _ _ => rfl)) (fun _ _ => rfl)))
  (qss_cons (qs_set (i := 6) sc_28.nd rfl (by first | exact Or.inl rfl | exact Or.inr rfl) (qe_callTy dcall_list rfl T.z_list (by decide +kernel) (qa_cons (qv 3) qa_nil)))
  (qss_cons (qs_asg (qe_op dop_add (qe_ix (qv 3) (qv 2) (fun _ _ => rfl)) qi) (qg_sub (qv 6) (qv 2) dset_ix))
  (qss_cons (qs_if (qt_w (qw_and (qt_cmp (dop_eq (hu100 hr)) (qe_ix (qv 5) qi (fun _ _ => rfl)) qs (nomark _)) (qw_and1 (qt_cmp dop_is (qe_ix (qv 3) (qe_ix (qv 5) qi (fun _ _ => rfl)) (fun _ _ => rfl)) qn (nomark _))))) (qss_one (qs_asg qi (qg_sub (qv 6) (qe_ix (qv 5) qi (fun _ _ => rfl)) dset_ix))) qss_nil)
  (qss_cons (qs_if (qt_w (qw_and (qt_cmp (dop_eq (hu100 hr)) (qe_ix (qv 5) qi (fun _ _ => rfl)) qs (nomark _)) (qw_and1 (qt_cmp dop_is (qe_call (sem_len (i := 25)) ih.o25 hr rfl T.m25 T.F25.kp T.b25 (qa_cons (qv 4) (qa_cons (qe_ix (qv 5) qi (fun _ _ => rfl)) qa_nil))) qn (nomark _))))) (qss_one (qs_set (i := 4) sc_28.nd rfl (by first | exact Or.inl rfl | exact Or.inr rfl) (qe_op dop_add (qv 4) (qe_tup (qa_cons (qe_tup (qa_cons (qe_ix (qv 5) qi (fun _ _ => rfl)) (qa_cons (qe_op dop_add (qe_ix (qv 5) qi (fun _ _ => rfl)) (qe_callB (dcall_sum rfl) rfl T.z_sum (by decide +kernel) (qa_cons (qe_lc [("p", 7)] rfl sc_28.nd (qi_seq (qe_ix (qv 5) qi (fun _ _ => rfl))) (okb (by kernel_rfl)) (by decide) (fun _ _ _ _ _ => (qg_name (i := 7) sc_28.nd rfl (by first | exact Or.inl rfl | exact Or.inr rfl))) (fun _ _ _ _ _ => qts_nil) (fun _ _ _ _ _ => (qe_call (sem_len (i := 25)) ih.o25 hr rfl T.m25 T.F25.kp T.b25 (qa_cons (qv 4) (qa_cons (qv 7) qa_nil))))) qa_nil))) qa_nil))) qa_nil))))) qss_nil)
  (qss_cons (qs_if (qt_w (qw_and (qt_cmp (dop_eq (hu100 hr)) (qe_ix (qv 5) qi (fun _ _ => rfl)) qs (nomark _)) (qw_and1 (qt_cmp dop_is (qe_call (sem_len (i := 25)) ih.o25 hr rfl T.m25 T.F25.kp T.b25 (qa_cons (qv 4) (qa_cons (qe_ix (qv 5) qi (fun _ _ => rfl)) qa_nil))) qn (nomark _))))) (qss_one (qs_set (i := 4) sc_28.nd rfl (by first | exact Or.inl rfl | exact Or.inr rfl) (qe_op dop_add (qv 4) (qe_tup (qa_cons (qe_tup (qa_cons (qe_ix (qv 5) qi (fun _ _ => rfl)) (qa_cons (qe_ix (qe_lc [("pair", 8)] rfl sc_28.nd (qi_seq (qv 4)) (okb (by kernel_rfl)) (by decide) (fun _ _ _ _ _ => (qg_name (i := 8) sc_28.nd rfl (by first | exact Or.inl rfl | exact Or.inr rfl))) (fun _ _ _ _ _ => (qts_one (qt_cmp (dop_in (hu100 hr)) (qe_ix (qv 8) qi (fun _ _ => rfl)) (qe_ix (qv 5) qi (fun _ _ => rfl)) (by with_unfolding_all rfl)))) (fun _ _ _ _ _ => (qe_ix (qv 8) qi (fun _ _ => rfl)))) qi (fun _ _ => rfl)) qa_nil))) qa_nil))))) qss_nil)
  (qss_one (qs_ret (qe_tup (qa_cons (qe_callTy dcall_tuple rfl T.z_tuple (by decide +kernel) (qa_cons (qv 6) qa_nil)) (qa_cons (qv 4) qa_nil))))))))))))
/- _law_behind -/
theorem w_29 (T : Txt K mg) (ih : IH P w base T n) (cdv : Value) (A : Around) (outer : List Env) (s : Shared) (H : Hp) (E : XK) (hr : Room n (A.deeper (envOfC "_law_behind" (defScope s_29) s.heap.objs.size (T.f 29) cdv))) :
    PSs (cxOf CX0 P w K mg base N_29 "_law_behind" (defScope s_29) (T.f 29) cdv A outer s H E).nox (defBody s_29) (liftS K (b_29 (sem fs n))) :=
  (qss_cons (qs_set (i := 2) sc_29.nd rfl (by first | exact Or.inl rfl | exact Or.inr rfl) (qe_call (sem_len (i := 24)) ih.o24 hr rfl T.m24 T.F24.kp T.b24 (qa_cons (qv 0) qa_nil)))
  (qss_cons (qs_for PassesOwn.never rfl (qi_seq (qv 1)) (qg_name (i := 3) sc_29.nd rfl (by first | exact Or.inl rfl | exact Or.inr rfl)) (qss_one (qs_set (i := 2) sc_29.nd rfl (by first | exact Or.inl rfl | exact Or.inr rfl) (qe_call (sem_len (i := 28)) ih.o28 hr rfl T.m28 T.F28.kp T.b28 (qa_cons (qv 0) (qa_cons (qv 2) (qa_cons (qv 3) qa_nil)))))))
  (qss_one (qs_ret (qv 2)))))
/- _law_walks -/
theorem w_30 (T : Txt K mg) (ih : IH P w base T n) (cdv : Value) (A : Around) (outer : List Env) (s : Shared) (H : Hp) (E : XK) (hr : Room n (A.deeper (envOfC "_law_walks" (defScope s_30) s.heap.objs.size (T.f 30) cdv))) :
    PSs (cxOf CX0 P w K mg base N_30 "_law_walks" (defScope s_30) (T.f 30) cdv A outer s H E).nox (defBody s_30) (liftS K (b_30 (sem fs n))) :=
  (qss_cons (qs_set (i := 2) sc_30.nd rfl (by first | exact Or.inl rfl | exact Or.inr rfl) (qe_call (sem_len (i := 24)) ih.o24 hr rfl T.m24 T.F24.kp T.b24 (qa_cons (qv 0) qa_nil)))
  (qss_cons (qs_for PassesOwn.never rfl (qi_seq (qv 1)) (qg_name (i := 3) sc_30.nd rfl (by first | exact Or.inl rfl | exact Or.inr rfl)) (qss_cons (qs_if (qt_w (qw_or (qt_not (qt_chain (dop_cmp (hu100 hr) .le) (dop_cmp (hu100 hr) .lt) qi (qv 3) (qe_callB dcall_len rfl T.z_len (by decide +kernel) (qa_cons (qe_ix (qv 0) qi (fun _ _ => rfl)) qa_nil)))) (qw_or1 (qt_not (qt_val (qe_call (sem_len (i := 26)) ih.o26 hr rfl T.m26 T.F26.kp T.b26 (qa_cons (qv 0) (qa_cons (qv 2) (qa_cons (qv 3) qa_nil))))))))) (qss_one (qs_ret qb)) qss_nil)
    (qss_one (qs_set (i := 2) sc_30.nd rfl (by first | exact Or.inl rfl | exact Or.inr rfl) (qe_call (sem_len (i := 28)) ih.o28 hr rfl T.m28 T.F28.kp T.b28 (qa_cons (qv 0) (qa_cons (qv 2) (qa_cons (qv 3) qa_nil))))))))
  (qss_one (qs_ret qb))))
/- _law_stuck_at -/
theorem w_31 (T : Txt K mg) (ih : IH P w base T n) (cdv : Value) (A : Around) (outer : List Env) (s : Shared) (H : Hp) (E : XK) (hr : Room n (A.deeper (envOfC "_law_stuck_at" (defScope s_31) s.heap.objs.size (T.f 31) cdv))) :
    PSs (cxOf CX0 P w K mg base N_31 "_law_stuck_at" (defScope s_31) (T.f 31) cdv A outer s H E).nox (defBody s_31) (liftS K (b_31 (sem fs n))) :=
  (qss_cons (qs_set (i := 2) sc_31.nd rfl (by first | exact Or.inl rfl | exact Or.inr rfl) (qe_callB dcall_len rfl T.z_len (by decide +kernel) (qa_cons (qe_ix (qv 0) qi (fun _ _ => rfl)) qa_nil)))
  (qss_one (qs_ret (qe_callTy dcall_tuple rfl T.z_tuple (by decide +kernel) (qa_cons (qe_lc [("t", 3)] rfl sc_31.nd (qi_range1 rfl T.z_range (qa_cons (qv 2) qa_nil)) (okb (by kernel_rfl)) (by decide) (fun _ _ _ _ _ => (qg_name (i := 3) sc_31.nd rfl (by first | exact Or.inl rfl | exact Or.inr rfl))) (fun _ _ _ _ _ => (qts_one (qt_w (qw_and (qt_cmp dop_isnot (qe_ix (qe_ix (qv 1) qi (fun _ _ => rfl)) (qv 3) (fun _ _ => rfl)) qn (nomark _)) (qw_and1 (qt_cmp (dop_cmp (hu100 hr) .lt) (qe_ix (qe_ix (qv 1) qi (fun _ _ => rfl)) (qv 3) (fun _ _ => rfl)) (qe_callB dcall_len rfl T.z_len (by decide +kernel) (qa_cons (qe_ix (qe_ix (qv 0) qi (fun _ _ => rfl)) (qv 3) (fun _ _ => rfl)) qa_nil)) (nomark _))))))) (fun _ _ _ _ _ => (qv 3))) qa_nil)))))
/- _law_ending -/
theorem w_32 (T : Txt K mg) (ih : IH P w base T n) (cdv : Value) (A : Around) (outer : List Env) (s : Shared) (H : Hp) (E : XK) (hr : Room n (A.deeper (envOfC "_law_ending" (defScope s_32) s.heap.objs.size (T.f 32) cdv))) :
    PSs (cxOf CX0 P w K mg base N_32 "_law_ending" (defScope s_32) (T.f 32) cdv A outer s H E).nox (defBody s_32) (liftS K (b_32 (sem fs n))) :=
  (qss_one (qs_ret (qe_tup (qa_cons (qe_callTy dcall_tuple rfl T.z_tuple (by decide +kernel) (qa_cons (qe_lc [("p", 2)] rfl sc_32.nd (qi_range1 rfl T.z_range (qa_cons (qe_ix (qv 0) qi (fun _ _ => rfl)) qa_nil)) (okb (by kernel_rfl)) (by decide) (fun _ _ _ _ _ => (qg_name (i := 2) sc_32.nd rfl (by first | exact Or.inl rfl | exact Or.inr rfl))) (fun _ _ _ _ _ => qts_nil) (fun _ _ _ _ _ => (qe_call (sem_len (i := 25)) ih.o25 hr rfl T.m25 T.F25.kp T.b25 (qa_cons (qe_ix (qv 1) qi (fun _ _ => rfl)) (qa_cons (qv 2) qa_nil))))) qa_nil)) (qa_cons (qe_call (sem_len (i := 31)) ih.o31 hr rfl T.m31 T.F31.kp T.b31 (qa_cons (qv 0) (qa_cons (qv 1) qa_nil))) qa_nil)))))
/- _law_run_on -/
theorem w_33 (T : Txt K mg) (ih : IH P w base T n) (cdv : Value) (A : Around) (outer : List Env) (s : Shared) (H : Hp) (E : XK) (hr : Room n (A.deeper (envOfC "_law_run_on" (defScope s_33) s.heap.objs.size (T.f 33) cdv))) :
    PSs (cxOf CX0 P w K mg base N_33 "_law_run_on" (defScope s_33) (T.f 33) cdv A outer s H E).nox (defBody s_33) (liftS K (b_33 (sem fs n))) :=
  (qss_cons (qs_set (i := 2) sc_33.nd rfl (by first | exact Or.inl rfl | exact Or.inr rfl) (qe_call (sem_len (i := 29)) ih.o29 hr rfl T.m29 T.F29.kp T.b29 (qa_cons (qv 0) (qa_cons (qv 1) qa_nil))))
  (qss_cons (qs_for PassesOwn.never rfl (qi_range1 rfl T.z_range (qa_cons qi qa_nil)) (qg_name (i := 3) sc_33.nd rfl (by first | exact Or.inl rfl | exact Or.inr rfl)) (qss_cons (qs_set (i := 4) sc_33.nd rfl (by first | exact Or.inl rfl | exact Or.inr rfl) (qe_call (sem_len (i := 27)) ih.o27 hr rfl T.m27 T.F27.kp T.b27 (qa_cons (qv 0) (qa_cons (qv 2) qa_nil))))
    (qss_cons (qs_if (qt_cmp (dop_eq (hu100 hr)) (qe_callB dcall_len rfl T.z_len (by decide +kernel) (qa_cons (qv 4) qa_nil)) qi (nomark _)) (qss_one qs_break) qss_nil)
    (qss_cons (qs_set (i := 1) sc_33.nd rfl (by first | exact Or.inl rfl | exact Or.inr rfl) (qe_op dop_add (qv 1) (qe_tup (qa_cons (qe_ix (qv 4) qi (fun _ _ => rfl)) qa_nil))))
    (qss_one (qs_set (i := 2) sc_33.nd rfl (by first | exact Or.inl rfl | exact Or.inr rfl) (qe_call (sem_len (i := 28)) ih.o28 hr rfl T.m28 T.F28.kp T.b28 (qa_cons (qv 0) (qa_cons (qv 2) (qa_cons (qe_ix (qv 4) qi (fun _ _ => rfl)) qa_nil))))))))))
  (qss_one (qs_ret (qv 1)))))
/- _law_drawn_run -/
theorem w_34 (T : Txt K mg) (ih : IH P w base T n) (cdv : Value) (A : Around) (outer : List Env) (s : Shared) (H : Hp) (E : XK) (hr : Room n (A.deeper (envOfC "_law_drawn_run" (defScope s_34) s.heap.objs.size (T.f 34) cdv))) :
    PSs (cxOf CX0 P w K mg base N_34 "_law_drawn_run" (defScope s_34) (T.f 34) cdv A outer s H E).nox (defBody s_34) (liftS K (b_34 (sem fs n))) :=
  (qss_cons (qs_set (i := 3) sc_34.nd rfl (by first | exact Or.inl rfl | exact Or.inr rfl) (qe_call (sem_len (i := 24)) ih.o24 hr rfl T.m24 T.F24.kp T.b24 (qa_cons (qv 1) qa_nil)))
  (qss_cons (qs_set (i := 4) sc_34.nd rfl (by first | exact Or.inl rfl | exact Or.inr rfl) (qe_tup qa_nil))
  (qss_cons (qs_for PassesOwn.never rfl (qi_range1 rfl T.z_range (qa_cons (qv 2) qa_nil)) (qg_name (i := 5) sc_34.nd rfl (by first | exact Or.inl rfl | exact Or.inr rfl)) (qss_cons (qs_set (i := 6) sc_34.nd rfl (by first | exact Or.inl rfl | exact Or.inr rfl) (qe_call (sem_len (i := 27)) ih.o27 hr rfl T.m27 T.F27.kp T.b27 (qa_cons (qv 1) (qa_cons (qv 3) qa_nil))))
    (qss_cons (qs_if (qt_cmp (dop_eq (hu100 hr)) (qe_callB dcall_len rfl T.z_len (by decide +kernel) (qa_cons (qv 6) qa_nil)) qi (nomark _)) (qss_one qs_break) qss_nil)
    (qss_cons (qs_set (i := 7) sc_34.nd rfl (by first | exact Or.inl rfl | exact Or.inr rfl) (qe_call (sem_len (i := 17)) ih.o17 hr rfl T.m17 T.F17.kp T.b17 (qa_cons (qv 0) (qa_cons (qv 6) qa_nil))))
    (qss_cons (qs_set (i := 4) sc_34.nd rfl (by first | exact Or.inl rfl | exact Or.inr rfl) (qe_op dop_add (qv 4) (qe_tup (qa_cons (qv 7) qa_nil))))
    (qss_one (qs_set (i := 3) sc_34.nd rfl (by first | exact Or.inl rfl | exact Or.inr rfl) (qe_call (sem_len (i := 28)) ih.o28 hr rfl T.m28 T.F28.kp T.b28 (qa_cons (qv 1) (qa_cons (qv 3) (qa_cons (qv 7) qa_nil)))))))))))
  (qss_one (qs_ret (qv 4))))))
/- _law_set_of -/
theorem w_35 (T : Txt K mg) (ih : IH P w base T n) (cdv : Value) (A : Around) (outer : List Env) (s : Shared) (H : Hp) (E : XK) (hr : Room n (A.deeper (envOfC "_law_set_of" (defScope s_35) s.heap.objs.size (T.f 35) cdv))) :
    PSs (cxOf CX0 P w K mg base N_35 "_law_set_of" (defScope s_35) (T.f 35) cdv A outer s H E).nox (defBody s_35) (liftS K (b_35 (sem fs n))) :=
  (qss_cons (qs_set (i := 3) sc_35.nd rfl (by first | exact Or.inl rfl | exact Or.inr rfl) (qe_lst qa_nil))
  (qss_cons (qs_for PassesOwn.never rfl (qi_range1 rfl T.z_range (qa_cons (qe_call (sem_len (i := 16)) ih.o16 hr rfl T.m16 T.F16.kp T.b16 (qa_cons (qv 0) (qa_cons (qe_op dop_add (qv 2) qi) qa_nil))) qa_nil)) (qg_name (i := 4) sc_35.nd rfl (by first | exact Or.inl rfl | exact Or.inr rfl)) (qss_cons (qs_set (i := 5) sc_35.nd rfl (by first | exact Or.inl rfl | exact Or.inr rfl) (qe_call (sem_len (i := 17)) ih.o17 hr rfl T.m17 T.F17.kp T.b17 (qa_cons (qv 0) (qa_cons (qv 1) qa_nil))))
    (qss_one (qs_if (qt_cmp (dop_notin (hu100 hr)) (qv 5) (qv 3) (by with_unfolding_all rfl)) (qss_one (qs_expr (qe_bm PySem.F.plainAttrs_list PySem.F.slot_list_append PySem.F.type_list_append okLst_ty dmt_append (qv 3) (qa_cons (qv 5) qa_nil)))) qss_nil))))
  (qss_one (qs_ret (qe_callTy dcall_tuple rfl T.z_tuple (by decide +kernel) (qa_cons (qe_callB (dcall_sorted (hu100 hr)) rfl T.z_sorted (by decide +kernel) (qa_cons (qv 3) qa_nil)) qa_nil))))))
/- _law_deed -/
theorem w_36 (T : Txt K mg) (ih : IH P w base T n) (cdv : Value) (A : Around) (outer : List Env) (s : Shared) (H : Hp) (E : XK) (hr : Room n (A.deeper (envOfC "_law_deed" (defScope s_36) s.heap.objs.size (T.f 36) cdv))) :
    PSs (cxOf CX0 P w K mg base N_36 "_law_deed" (defScope s_36) (T.f 36) cdv A outer s H E).nox (defBody s_36) (liftS K (b_36 (sem fs n))) :=
  (qss_cons (qs_set (i := 3) sc_36.nd rfl (by first | exact Or.inl rfl | exact Or.inr rfl) (qe_call (sem_len (i := 16)) ih.o16 hr rfl T.m16 T.F16.kp T.b16 (qa_cons (qv 0) (qa_cons qi qa_nil))))
  (qss_cons (qs_if (qt_w (qw_and (qt_cmp (dop_eq (hu100 hr)) (qv 3) qi (nomark _)) (qw_and1 (qt_cmp (dop_cmp (hu100 hr) .gt) (qe_callB dcall_len rfl T.z_len (by decide +kernel) (qa_cons (qv 2) qa_nil)) qi (nomark _))))) (qss_one (qs_ret (qe_tup (qa_cons qs (qa_cons (qe_call (sem_len (i := 17)) ih.o17 hr rfl T.m17 T.F17.kp T.b17 (qa_cons (qv 0) (qa_cons (qv 2) qa_nil))) qa_nil))))) qss_nil)
  (qss_cons (qs_if (qt_cmp (dop_cmp (hu100 hr) .lt) (qv 3) qi (nomark _)) (qss_one (qs_ret (qe_tup (qa_cons qs (qa_cons (qe_call (sem_len (i := 17)) ih.o17 hr rfl T.m17 T.F17.kp T.b17 (qa_cons (qv 0) (qa_cons (qv 1) qa_nil))) qa_nil))))) qss_nil)
  (qss_cons (qs_if (qt_cmp (dop_cmp (hu100 hr) .lt) (qv 3) qi (nomark _)) (qss_one (qs_ret (qe_tup (qa_cons qs (qa_cons (qe_call (sem_len (i := 17)) ih.o17 hr rfl T.m17 T.F17.kp T.b17 (qa_cons (qv 0) (qa_cons (qv 1) qa_nil))) (qa_cons (qe_callTy dcall_tuple rfl T.z_tuple (by decide +kernel) (qa_cons (qe_call (sem_len (i := 20)) ih.o20 hr rfl T.m20 T.F20.kp T.b20 (qa_cons (qv 0) (qa_cons (qv 1) (qa_cons qi qa_nil)))) qa_nil)) qa_nil)))))) qss_nil)
  (qss_one (qs_ret (qe_tup (qa_cons qs (qa_cons (qe_call (sem_len (i := 17)) ih.o17 hr rfl T.m17 T.F17.kp T.b17 (qa_cons (qv 0) (qa_cons (qv 1) qa_nil))) (qa_cons (qe_call (sem_len (i := 23)) ih.o23 hr rfl T.m23 T.F23.kp T.b23 (qa_cons (qv 0) qa_nil)) (qa_cons (qe_call (sem_len (i := 35)) ih.o35 hr rfl T.m35 T.F35.kp T.b35 (qa_cons (qv 0) (qa_cons (qv 1) (qa_cons (qe_call (sem_len (i := 16)) ih.o16 hr rfl T.m16 T.F16.kp T.b16 (qa_cons (qv 0) (qa_cons qi qa_nil))) qa_nil)))) qa_nil)))))))))))
/- _law_program -/
theorem w_37 (T : Txt K mg) (ih : IH P w base T n) (cdv : Value) (A : Around) (outer : List Env) (s : Shared) (H : Hp) (E : XK) (hr : Room n (A.deeper (envOfC "_law_program" (defScope s_37) s.heap.objs.size (T.f 37) cdv))) :
    PSs (cxOf CX0 P w K mg base N_37 "_law_program" (defScope s_37) (T.f 37) cdv A outer s H E).nox (defBody s_37) (liftS K (b_37 (sem fs n))) :=
  (qss_cons (qs_set (i := 1) sc_37.nd rfl (by first | exact Or.inl rfl | exact Or.inr rfl) (qe_op dop_add qi (qe_call (sem_len (i := 16)) ih.o16 hr rfl T.m16 T.F16.kp T.b16 (qa_cons (qv 0) (qa_cons qi qa_nil)))))
  (qss_cons (qs_set (i := 2) sc_37.nd rfl (by first | exact Or.inl rfl | exact Or.inr rfl) (qe_call (sem_len (i := 20)) ih.o20 hr rfl T.m20 T.F20.kp T.b20 (qa_cons (qv 0) (qa_cons (qe_listRg rfl rfl T.z_list (qr_1 rfl T.z_range (qv 1))) (qa_cons qi qa_nil)))))
  (qss_cons (qs_set (i := 3) sc_37.nd rfl (by first | exact Or.inl rfl | exact Or.inr rfl) (qe_op dop_add qi (qe_call (sem_len (i := 16)) ih.o16 hr rfl T.m16 T.F16.kp T.b16 (qa_cons (qv 0) (qa_cons qi qa_nil)))))
  (qss_cons (qs_set (i := 4) sc_37.nd rfl (by first | exact Or.inl rfl | exact Or.inr rfl) (qe_listRg rfl rfl T.z_list (qr_2 rfl T.z_range qi (qv 3))))
  (qss_cons (qs_set (i := 5) sc_37.nd rfl (by first | exact Or.inl rfl | exact Or.inr rfl) (qe_lst qa_nil))
  (qss_cons (qs_for PassesOwn.never rfl (qi_seq (qe_call (sem_len (i := 19)) ih.o19 hr rfl T.m19 T.F19.kp T.b19 (qa_cons (qv 0) (qa_cons (qv 4) qa_nil)))) (qg_name (i := 6) sc_37.nd rfl (by first | exact Or.inl rfl | exact Or.inr rfl)) (qss_one (qs_if (qt_cmp (dop_cmp (hu100 hr) .gt) (qe_call (sem_len (i := 16)) ih.o16 hr rfl T.m16 T.F16.kp T.b16 (qa_cons (qv 0) (qa_cons qi qa_nil))) qi (nomark _)) (qss_one (qs_expr (qe_bm PySem.F.plainAttrs_list PySem.F.slot_list_append PySem.F.type_list_append okLst_ty dmt_append (qv 5) (qa_cons (qe_tup (qa_cons qs (qa_cons (qv 6) qa_nil))) qa_nil)))) qss_nil)))
  (qss_cons (qs_set (i := 7) sc_37.nd rfl (by first | exact Or.inl rfl | exact Or.inr rfl) (qe_call (sem_len (i := 16)) ih.o16 hr rfl T.m16 T.F16.kp T.b16 (qa_cons (qv 0) (qa_cons qi qa_nil))))
  (qss_cons (qs_for PassesOwn.never rfl (qi_range1 rfl T.z_range (qa_cons (qv 7) qa_nil)) (qg_name (i := 8) sc_37.nd rfl (by first | exact Or.inl rfl | exact Or.inr rfl)) (qss_one (qs_expr (qe_bm PySem.F.plainAttrs_list PySem.F.slot_list_insert PySem.F.type_list_insert okLst_ty dmt_insert (qv 5) (qa_cons (qe_call (sem_len (i := 16)) ih.o16 hr rfl T.m16 T.F16.kp T.b16 (qa_cons (qv 0) (qa_cons (qe_op dop_add (qe_callB dcall_len rfl T.z_len (by decide +kernel) (qa_cons (qv 5) qa_nil)) qi) qa_nil))) (qa_cons (qe_call (sem_len (i := 36)) ih.o36 hr rfl T.m36 T.F36.kp T.b36 (qa_cons (qv 0) (qa_cons (qv 2) (qa_cons (qv 4) qa_nil)))) qa_nil))))))
  (qss_cons (qs_set (i := 9) sc_37.nd rfl (by first | exact Or.inl rfl | exact Or.inr rfl) (qe_op dop_sub qi (qv 7)))
  (qss_cons (qs_set (i := 10) sc_37.nd rfl (by first | exact Or.inl rfl | exact Or.inr rfl) (qe_lst (qa_cons (qe_callTy dcall_tuple rfl T.z_tuple (by decide +kernel) (qa_cons (qv 5) qa_nil)) qa_nil)))
  (qss_cons (qs_for PassesOwn.never rfl (qi_seq (qv 4)) (qg_name (i := 6) sc_37.nd rfl (by first | exact Or.inl rfl | exact Or.inr rfl)) (qss_cons (qs_set (i := 11) sc_37.nd rfl (by first | exact Or.inl rfl | exact Or.inr rfl) (qe_lc [("other", 12)] rfl sc_37.nd (qi_seq (qv 4)) (okb (by kernel_rfl)) (by decide) (fun _ _ _ _ _ => (qg_name (i := 12) sc_37.nd rfl (by first | exact Or.inl rfl | exact Or.inr rfl))) (fun _ _ _ _ _ => (qts_one (qt_cmp (dop_ne (hu100 hr)) (qv 12) (qv 6) (nomark _)))) (fun _ _ _ _ _ => (qv 12))))
    (qss_cons (qs_set (i := 13) sc_37.nd rfl (by first | exact Or.inl rfl | exact Or.inr rfl) (qe_callB (dcall_min2 rfl) rfl T.z_min (by decide +kernel) (qa_cons (qv 9) (qa_cons (qe_call (sem_len (i := 17)) ih.o17 hr rfl T.m17 T.F17.kp T.b17 (qa_cons (qv 0) (qa_cons (qe_lst (qa_cons qi (qa_cons qi (qa_cons qi (qa_cons qi (qa_cons qi (qa_cons qi qa_nil))))))) qa_nil))) qa_nil))))
    (qss_cons (qs_set (i := 9) sc_37.nd rfl (by first | exact Or.inl rfl | exact Or.inr rfl) (qe_op dop_sub (qv 9) (qv 13)))
    (qss_one (qs_expr (qe_bm PySem.F.plainAttrs_list PySem.F.slot_list_append PySem.F.type_list_append okLst_ty dmt_append (qv 10) (qa_cons (qe_callTy dcall_tuple rfl T.z_tuple (by decide +kernel) (qa_cons (qe_lc [("k", 8)] rfl sc_37.nd (qi_range1 rfl T.z_range (qa_cons (qv 13) qa_nil)) (okb (by kernel_rfl)) (by decide) (fun _ _ _ _ _ => (qg_name (i := 8) sc_37.nd rfl (by first | exact Or.inl rfl | exact Or.inr rfl))) (fun _ _ _ _ _ => qts_nil) (fun _ _ _ _ _ => (qe_call (sem_len (i := 36)) ih.o36 hr rfl T.m36 T.F36.kp T.b36 (qa_cons (qv 0) (qa_cons (qv 2) (qa_cons (qv 11) qa_nil)))))) qa_nil)) qa_nil))))))))
  (qss_one (qs_ret (qe_tup (qa_cons (qv 1) (qa_cons (qe_callTy dcall_tuple rfl T.z_tuple (by decide +kernel) (qa_cons (qv 10) qa_nil)) qa_nil))))))))))))))))
/- _law_rival_program -/
theorem w_38 (T : Txt K mg) (ih : IH P w base T n) (cdv : Value) (A : Around) (outer : List Env) (s : Shared) (H : Hp) (E : XK) (hr : Room n (A.deeper (envOfC "_law_rival_program" (defScope s_38) s.heap.objs.size (T.f 38) cdv))) :
    PSs (cxOf CX0 P w K mg base N_38 "_law_rival_program" (defScope s_38) (T.f 38) cdv A outer s H E).nox (defBody s_38) (liftS K (b_38 (sem fs n))) :=
  (qss_cons (qs_set (i := 1) sc_38.nd rfl (by first | exact Or.inl rfl | exact Or.inr rfl) (qe_op dop_add qi (qe_call (sem_len (i := 16)) ih.o16 hr rfl T.m16 T.F16.kp T.b16 (qa_cons (qv 0) (qa_cons qi qa_nil)))))
  (qss_cons (qs_set (i := 2) sc_38.nd rfl (by first | exact Or.inl rfl | exact Or.inr rfl) (qe_call (sem_len (i := 20)) ih.o20 hr rfl T.m20 T.F20.kp T.b20 (qa_cons (qv 0) (qa_cons (qe_listRg rfl rfl T.z_list (qr_1 rfl T.z_range (qv 1))) (qa_cons qi qa_nil)))))
  (qss_cons (qs_set (i := 3) sc_38.nd rfl (by first | exact Or.inl rfl | exact Or.inr rfl) (qe_op dop_add qi (qe_callTy dcall_int rfl T.z_int (by decide +kernel) (qa_cons (qe_cmp (dop_eq (hu100 hr)) (qe_call (sem_len (i := 16)) ih.o16 hr rfl T.m16 T.F16.kp T.b16 (qa_cons (qv 0) (qa_cons qi qa_nil))) qi (nomark _)) qa_nil))))
  (qss_cons (qs_setLc (i := 4) [("t", 5)] rfl sc_38.nd rfl rfl (sw_true rfl rfl rfl (by decide +kernel)) (qi_seq (qe_call (sem_len (i := 19)) ih.o19 hr rfl T.m19 T.F19.kp T.b19 (qa_cons (qv 0) (qa_cons (qe_listRg rfl rfl T.z_list (qr_2 rfl T.z_range qi (qv 3))) qa_nil)))) (okb (by kernel_rfl)) (by decide) (fun _ _ _ _ _ => (qg_name (i := 5) sc_38.nd rfl (by first | exact Or.inl rfl | exact Or.inr rfl))) (fun _ _ _ _ _ => qts_nil) (fun _ _ _ _ _ => (qe_tup (qa_cons qs (qa_cons (qv 5) qa_nil)))))
  (qss_cons (qs_if (qt_cmp (dop_eq (hu100 hr)) (qe_call (sem_len (i := 16)) ih.o16 hr rfl T.m16 T.F16.kp T.b16 (qa_cons (qv 0) (qa_cons qi qa_nil))) qi (nomark _)) (qss_one (qs_expr (qe_bm PySem.F.plainAttrs_list PySem.F.slot_list_append PySem.F.type_list_append okLst_ty dmt_append (qv 4) (qa_cons (qe_tup (qa_cons qs (qa_cons (qe_call (sem_len (i := 17)) ih.o17 hr rfl T.m17 T.F17.kp T.b17 (qa_cons (qv 0) (qa_cons (qv 2) qa_nil))) (qa_cons (qe_callTy dcall_tuple rfl T.z_tuple (by decide +kernel) (qa_cons (qe_call (sem_len (i := 20)) ih.o20 hr rfl T.m20 T.F20.kp T.b20 (qa_cons (qv 0) (qa_cons (qv 2) (qa_cons qi qa_nil)))) qa_nil)) qa_nil)))) qa_nil)))) qss_nil)
  (qss_cons (qs_set (i := 6) sc_38.nd rfl (by first | exact Or.inl rfl | exact Or.inr rfl) (qe_lst (qa_cons (qe_callTy dcall_tuple rfl T.z_tuple (by decide +kernel) (qa_cons (qv 4) qa_nil)) qa_nil)))
  (qss_cons (qs_for PassesOwn.never rfl (qi_range2 rfl T.z_range (qa_cons qi (qa_cons (qv 3) qa_nil))) (qg_name (i := 5) sc_38.nd rfl (by first | exact Or.inl rfl | exact Or.inr rfl)) (qss_cons (qs_set (i := 7) sc_38.nd rfl (by first | exact Or.inl rfl | exact Or.inr rfl) (qe_lst (qa_cons (qe_tup (qa_cons qs (qa_cons (qe_call (sem_len (i := 17)) ih.o17 hr rfl T.m17 T.F17.kp T.b17 (qa_cons (qv 0) (qa_cons (qv 2) qa_nil))) (qa_cons (qe_call (sem_len (i := 23)) ih.o23 hr rfl T.m23 T.F23.kp T.b23 (qa_cons (qv 0) qa_nil)) (qa_cons (qe_tup qa_nil) qa_nil))))) qa_nil)))
    (qss_cons (qs_if (qt_w (qw_and (qt_cmp (dop_eq (hu100 hr)) (qv 3) qi (nomark _)) (qw_and1 (qt_cmp (dop_eq (hu100 hr)) (qe_call (sem_len (i := 16)) ih.o16 hr rfl T.m16 T.F16.kp T.b16 (qa_cons (qv 0) (qa_cons qi qa_nil))) qi (nomark _))))) (qss_one (qs_expr (qe_bm PySem.F.plainAttrs_list PySem.F.slot_list_append PySem.F.type_list_append okLst_ty dmt_append (qv 7) (qa_cons (qe_call (sem_len (i := 36)) ih.o36 hr rfl T.m36 T.F36.kp T.b36 (qa_cons (qv 0) (qa_cons (qv 2) (qa_cons (qe_lst qa_nil) qa_nil)))) qa_nil)))) qss_nil)
    (qss_one (qs_expr (qe_bm PySem.F.plainAttrs_list PySem.F.slot_list_append PySem.F.type_list_append okLst_ty dmt_append (qv 6) (qa_cons (qe_callTy dcall_tuple rfl T.z_tuple (by decide +kernel) (qa_cons (qv 7) qa_nil)) qa_nil)))))))
  (qss_one (qs_ret (qe_tup (qa_cons (qv 1) (qa_cons (qe_callTy dcall_tuple rfl T.z_tuple (by decide +kernel) (qa_cons (qv 6) qa_nil)) qa_nil))))))))))))
/- _law_any_program -/
theorem w_39 (T : Txt K mg) (ih : IH P w base T n) (cdv : Value) (A : Around) (outer : List Env) (s : Shared) (H : Hp) (E : XK) (hr : Room n (A.deeper (envOfC "_law_any_program" (defScope s_39) s.heap.objs.size (T.f 39) cdv))) :
    PSs (cxOf CX0 P w K mg base N_39 "_law_any_program" (defScope s_39) (T.f 39) cdv A outer s H E).nox (defBody s_39) (liftS K (b_39 (sem fs n))) :=
  (qss_cons (qs_if (qt_cmp (dop_eq (hu100 hr)) (qe_call (sem_len (i := 16)) ih.o16 hr rfl T.m16 T.F16.kp T.b16 (qa_cons (qv 0) (qa_cons qi qa_nil))) qi (nomark _)) (qss_one (qs_ret (qe_call (sem_len (i := 38)) ih.o38 hr rfl T.m38 T.F38.kp T.b38 (qa_cons (qv 0) qa_nil)))) qss_nil)
  (qss_one (qs_ret (qe_call (sem_len (i := 37)) ih.o37 hr rfl T.m37 T.F37.kp T.b37 (qa_cons (qv 0) qa_nil)))))
/- _law_long_program -/
theorem w_40 (T : Txt K mg) (ih : IH P w base T n) (cdv : Value) (A : Around) (outer : List Env) (s : Shared) (H : Hp) (E : XK) (hr : Room n (A.deeper (envOfC "_law_long_program" (defScope s_40) s.heap.objs.size (T.f 40) cdv))) :
    PSs (cxOf CX0 P w K mg base N_40 "_law_long_program" (defScope s_40) (T.f 40) cdv A outer s H E).nox (defBody s_40) (liftS K (b_40 (sem fs n))) :=
  (qss_cons (qs_set (i := 1) sc_40.nd rfl (by first | exact Or.inl rfl | exact Or.inr rfl) (qe_lst qa_nil))
  (qss_cons (qs_set (i := 2) sc_40.nd rfl (by first | exact Or.inl rfl | exact Or.inr rfl) (qe_lst qa_nil))
  (qss_cons (qs_set (i := 3) sc_40.nd rfl (by first | exact Or.inl rfl | exact Or.inr rfl) (qe_lst (qa_cons qi (qa_cons qi qa_nil))))
  (qss_cons (qs_set (i := 4) sc_40.nd rfl (by first | exact Or.inl rfl | exact Or.inr rfl) (qe_lst (qa_cons (qe_call (sem_len (i := 16)) ih.o16 hr rfl T.m16 T.F16.kp T.b16 (qa_cons (qv 0) (qa_cons qi qa_nil))) (qa_cons (qe_call (sem_len (i := 16)) ih.o16 hr rfl T.m16 T.F16.kp T.b16 (qa_cons (qv 0) (qa_cons qi qa_nil))) qa_nil))))
  (qss_cons (qs_for PassesOwn.never rfl (qi_range1 rfl T.z_range (qa_cons qi qa_nil)) (qg_name (i := 5) sc_40.nd rfl (by first | exact Or.inl rfl | exact Or.inr rfl)) (qss_cons (qs_set (i := 6) sc_40.nd rfl (by first | exact Or.inl rfl | exact Or.inr rfl) (qe_lst (qa_cons (qe_tup (qa_cons qs (qa_cons (qv 5) (qa_cons (qe_call (sem_len (i := 23)) ih.o23 hr rfl T.m23 T.F23.kp T.b23 (qa_cons (qv 0) qa_nil)) (qa_cons (qe_call (sem_len (i := 35)) ih.o35 hr rfl T.m35 T.F35.kp T.b35 (qa_cons (qv 0) (qa_cons (qv 2) (qa_cons (qe_op dop_mul qi (qe_callTy dcall_int rfl T.z_int (by decide +kernel) (qa_cons (qe_cmp (dop_cmp (hu100 hr) .gt) (qv 5) qi (nomark _)) qa_nil))) qa_nil)))) qa_nil))))) qa_nil)))
    (qss_cons (qs_expr (qe_bm PySem.F.plainAttrs_list PySem.F.slot_list_append PySem.F.type_list_append okLst_ty dmt_append (qv 2) (qa_cons (qv 5) qa_nil)))
    (qss_cons (qs_if (qt_w (qw_and (qt_cmp (dop_cmp (hu100 hr) .gt) (qe_callB dcall_len rfl T.z_len (by decide +kernel) (qa_cons (qv 3) qa_nil)) qi (nomark _)) (qw_and1 (qt_cmp (dop_eq (hu100 hr)) (qe_call (sem_len (i := 16)) ih.o16 hr rfl T.m16 T.F16.kp T.b16 (qa_cons (qv 0) (qa_cons qi qa_nil))) qi (nomark _))))) (qss_cons (qs_set (i := 7) sc_40.nd rfl (by first | exact Or.inl rfl | exact Or.inr rfl) (qe_bm PySem.F.plainAttrs_list PySem.F.slot_list_pop PySem.F.type_list_pop okLst_ty dmt_popAt (qv 3) (qa_cons qi qa_nil)))
      (qss_cons (qs_expr (qe_bm PySem.F.plainAttrs_list PySem.F.slot_list_append PySem.F.type_list_append okLst_ty dmt_append (qv 6) (qa_cons (qe_tup (qa_cons qs (qa_cons (qv 7) (qa_cons (qe_call (sem_len (i := 23)) ih.o23 hr rfl T.m23 T.F23.kp T.b23 (qa_cons (qv 0) qa_nil)) (qa_cons (qe_call (sem_len (i := 35)) ih.o35 hr rfl T.m35 T.F35.kp T.b35 (qa_cons (qv 0) (qa_cons (qv 2) (qa_cons qi qa_nil)))) qa_nil))))) qa_nil)))
      (qss_one (qs_expr (qe_bm PySem.F.plainAttrs_list PySem.F.slot_list_append PySem.F.type_list_append okLst_ty dmt_append (qv 2) (qa_cons (qv 7) qa_nil)))))) qss_nil)
    (qss_cons (qs_for PassesOwn.never rfl (qi_range1 rfl T.z_range (qa_cons (qe_call (sem_len (i := 16)) ih.o16 hr rfl T.m16 T.F16.kp T.b16 (qa_cons (qv 0) (qa_cons qi qa_nil))) qa_nil)) (qg_name (i := 8) sc_40.nd rfl (by first | exact Or.inl rfl | exact Or.inr rfl)) (qss_one (qs_expr (qe_bm PySem.F.plainAttrs_list PySem.F.slot_list_append PySem.F.type_list_append okLst_ty dmt_append (qv 6) (qa_cons (qe_tup (qa_cons qs (qa_cons (qe_call (sem_len (i := 17)) ih.o17 hr rfl T.m17 T.F17.kp T.b17 (qa_cons (qv 0) (qa_cons (qv 2) qa_nil))) qa_nil))) qa_nil)))))
    (qss_cons (qs_if (qt_cmp (dop_cmp (hu100 hr) .lt) (qv 5) qi (nomark _)) (qss_one (qs_expr (qe_bm PySem.F.plainAttrs_list PySem.F.slot_list_append PySem.F.type_list_append okLst_ty dmt_append (qv 6) (qa_cons (qe_tup (qa_cons qs (qa_cons (qe_op dop_add (qv 5) qi) qa_nil))) qa_nil)))) qss_nil)
    (qss_cons (qs_if (qt_cmp (dop_in (hu100 hr)) (qv 5) (qv 4) (by with_unfolding_all rfl)) (qss_one (qs_expr (qe_bm PySem.F.plainAttrs_list PySem.F.slot_list_append PySem.F.type_list_append okLst_ty dmt_append (qv 6) (qa_cons (qe_tup (qa_cons qs (qa_cons (qe_call (sem_len (i := 17)) ih.o17 hr rfl T.m17 T.F17.kp T.b17 (qa_cons (qv 0) (qa_cons (qv 2) qa_nil))) qa_nil))) qa_nil)))) qss_nil)
    (qss_one (qs_expr (qe_bm PySem.F.plainAttrs_list PySem.F.slot_list_append PySem.F.type_list_append okLst_ty dmt_append (qv 1) (qa_cons (qv 6) qa_nil)))))))))))
  (qss_cons (qs_if (qt_w (qw_and (qt_cmp (dop_cmp (hu100 hr) .gt) (qe_callB dcall_len rfl T.z_len (by decide +kernel) (qa_cons (qv 3) qa_nil)) qi (nomark _)) (qw_and1 (qt_cmp (dop_eq (hu100 hr)) (qe_call (sem_len (i := 16)) ih.o16 hr rfl T.m16 T.F16.kp T.b16 (qa_cons (qv 0) (qa_cons qi qa_nil))) qi (nomark _))))) (qss_one (qs_expr (qe_bm PySem.F.plainAttrs_list PySem.F.slot_list_insert PySem.F.type_list_insert okLst_ty dmt_insert (qe_ix (qv 1) qi (fun _ _ => rfl)) (qa_cons (qe_call (sem_len (i := 16)) ih.o16 hr rfl T.m16 T.F16.kp T.b16 (qa_cons (qv 0) (qa_cons (qe_op dop_add (qe_callB dcall_len rfl T.z_len (by decide +kernel) (qa_cons (qe_ix (qv 1) qi (fun _ _ => rfl)) qa_nil)) qi) qa_nil))) (qa_cons (qe_tup (qa_cons qs (qa_cons qi qa_nil))) qa_nil))))) qss_nil)
  (qss_one (qs_ret (qe_tup (qa_cons qi (qa_cons (qe_callTy dcall_tuple rfl T.z_tuple (by decide +kernel) (qa_cons (qe_lc [("row", 6)] rfl sc_40.nd (qi_seq (qv 1)) (okb (by kernel_rfl)) (by decide) (fun _ _ _ _ _ => (qg_name (i := 6) sc_40.nd rfl (by first | exact Or.inl rfl | exact Or.inr rfl))) (fun _ _ _ _ _ => qts_nil) (fun _ _ _ _ _ => (qe_callTy dcall_tuple rfl T.z_tuple (by decide +kernel) (qa_cons (qv 6) qa_nil)))) qa_nil)) qa_nil)))))))))))
/- _law_bent_run -/
theorem w_41 (T : Txt K mg) (ih : IH P w base T n) (cdv : Value) (A : Around) (outer : List Env) (s : Shared) (H : Hp) (E : XK) (hr : Room n (A.deeper (envOfC "_law_bent_run" (defScope s_41) s.heap.objs.size (T.f 41) cdv))) :
    PSs (cxOf CX0 P w K mg base N_41 "_law_bent_run" (defScope s_41) (T.f 41) cdv A outer s H E).nox (defBody s_41) (liftS K (b_41 (sem fs n))) :=
  (qss_cons (qs_set (i := 3) sc_41.nd rfl (by first | exact Or.inl rfl | exact Or.inr rfl) (qe_call (sem_len (i := 16)) ih.o16 hr rfl T.m16 T.F16.kp T.b16 (qa_cons (qv 0) (qa_cons qi qa_nil))))
  (qss_cons (qs_set (i := 4) sc_41.nd rfl (by first | exact Or.inl rfl | exact Or.inr rfl) (qe_call (sem_len (i := 17)) ih.o17 hr rfl T.m17 T.F17.kp T.b17 (qa_cons (qv 0) (qa_cons (qe_lst (qa_cons (qe_un dun_neg qi) (qa_cons (qe_callB dcall_len rfl T.z_len (by decide +kernel) (qa_cons (qe_ix (qv 1) qi (fun _ _ => rfl)) qa_nil)) (qa_cons (qe_op dop_pow qi qi) (qa_cons (qe_call (sem_len (i := 16)) ih.o16 hr rfl T.m16 T.F16.kp T.b16 (qa_cons (qv 0) (qa_cons (qe_callB dcall_len rfl T.z_len (by decide +kernel) (qa_cons (qe_ix (qv 1) qi (fun _ _ => rfl)) qa_nil)) qa_nil))) qa_nil))))) qa_nil))))
  (qss_cons (qs_if (qt_w (qw_or (qt_cmp (dop_eq (hu100 hr)) (qv 3) qi (nomark _)) (qw_or1 (qt_cmp (dop_eq (hu100 hr)) (qe_callB dcall_len rfl T.z_len (by decide +kernel) (qa_cons (qv 2) qa_nil)) qi (nomark _))))) (qss_one (qs_ret (qe_op dop_add (qv 2) (qe_tup (qa_cons (qv 4) qa_nil))))) qss_nil)
  (qss_cons (qs_set (i := 5) sc_41.nd rfl (by first | exact Or.inl rfl | exact Or.inr rfl) (qe_call (sem_len (i := 16)) ih.o16 hr rfl T.m16 T.F16.kp T.b16 (qa_cons (qv 0) (qa_cons (qe_callB dcall_len rfl T.z_len (by decide +kernel) (qa_cons (qv 2) qa_nil)) qa_nil))))
  (qss_cons (qs_if (qt_cmp (dop_eq (hu100 hr)) (qv 3) qi (nomark _)) (qss_one (qs_ret (qe_call (sem_len (i := 21)) ih.o21 hr rfl T.m21 T.F21.kp T.b21 (qa_cons (qv 2) (qa_cons (qv 5) (qa_cons (qv 4) qa_nil)))))) qss_nil)
  (qss_cons (qs_if (qt_cmp (dop_eq (hu100 hr)) (qv 3) qi (nomark _)) (qss_one (qs_ret (qe_call (sem_len (i := 22)) ih.o22 hr rfl T.m22 T.F22.kp T.b22 (qa_cons (qv 2) (qa_cons (qv 5) qa_nil))))) qss_nil)
  (qss_cons (qs_if (qt_cmp (dop_eq (hu100 hr)) (qv 3) qi (nomark _)) (qss_one (qs_ret (qe_op dop_add (qe_op dop_add (qe_slice (qv 2) qo_none (qo_some (qv 5))) (qe_tup (qa_cons (qv 4) qa_nil))) (qe_slice (qv 2) (qo_some (qv 5)) qo_none)))) qss_nil)
  (qss_one (qs_ret (qe_op dop_add (qe_op dop_add (qe_slice (qv 2) qo_none (qo_some (qv 5))) (qe_revS (qe_slice (qv 2) (qo_some (qv 5)) (qo_some (qe_op dop_add (qv 5) qi))))) (qe_slice (qv 2) (qo_some (qe_op dop_add (qv 5) qi)) qo_none)))))))))))
/- law -/
theorem w_42 (T : Txt K mg) (ih : IH P w base T n) (cdv : Value) (A : Around) (outer : List Env) (s : Shared) (H : Hp) (E : XK) (hr : Room n (A.deeper (envOfC "law" (defScope s_42) s.heap.objs.size (T.f 42) cdv))) :
    PSs (cxOf CX0 P w K mg base N_42 "law" (defScope s_42) (T.f 42) cdv A outer s H E).nox (defBody s_42) (liftS K (b_42 (sem fs n))) :=
  (qss_cons (qs_set (i := 1) sc_42.nd rfl (by first | exact Or.inl rfl | exact Or.inr rfl) (qe_call (sem_len (i := 15)) ih.o15 hr rfl T.m15 T.F15.kp T.b15 (qa_cons (qv 0) (qa_cons qi qa_nil))))
  (qss_cons (qs_for PassesOwn.never rfl (qi_range1 rfl T.z_range (qa_cons qi qa_nil)) (qg_name (i := 2) sc_42.nd rfl (by first | exact Or.inl rfl | exact Or.inr rfl)) (qss_cons (qs_set (i := 3) sc_42.nd rfl (by first | exact Or.inl rfl | exact Or.inr rfl) (qe_ix (qe_lst (qa_cons (qe_call (sem_len (i := 39)) ih.o39 hr rfl T.m39 T.F39.kp T.b39 (qa_cons (qv 1) qa_nil)) (qa_cons (qe_call (sem_len (i := 40)) ih.o40 hr rfl T.m40 T.F40.kp T.b40 (qa_cons (qv 1) qa_nil)) qa_nil))) (qe_callTy dcall_int rfl T.z_int (by decide +kernel) (qa_cons (qe_cmp (dop_eq (hu100 hr)) (qv 2) qi (nomark _)) qa_nil)) (fun _ _ => rfl)))
    (qss_cons (qs_set (i := 4) sc_42.nd rfl (by first | exact Or.inl rfl | exact Or.inr rfl) (qe_call (sem_len (i := 34)) ih.o34 hr rfl T.m34 T.F34.kp T.b34 (qa_cons (qv 1) (qa_cons (qv 3) (qa_cons qi qa_nil)))))
    (qss_cons (qs_set (i := 5) sc_42.nd rfl (by first | exact Or.inl rfl | exact Or.inr rfl) (qe_call (sem_len (i := 32)) ih.o32 hr rfl T.m32 T.F32.kp T.b32 (qa_cons (qv 3) (qa_cons (qe_call (sem_len (i := 29)) ih.o29 hr rfl T.m29 T.F29.kp T.b29 (qa_cons (qv 3) (qa_cons (qv 4) qa_nil))) qa_nil))))
    (qss_cons (qs_if (qt_w (qw_or (qt_cmp dop_isnot (qe_call (sem_len (i := 12)) ih.o12 hr rfl T.m12 T.F12.kp T.b12 (qa_cons (qv 3) (qa_cons (qv 4) qa_nil))) qb (nomark _)) (qw_or1 (qt_not (qt_val (qe_call (sem_len (i := 18)) ih.o18 hr rfl T.m18 T.F18.kp T.b18 (qa_cons (qe_call (sem_len (i := 13)) ih.o13 hr rfl T.m13 T.F13.kp T.b13 (qa_cons (qv 3) (qa_cons (qv 4) qa_nil))) (qa_cons (qv 5) qa_nil)))))))) (qss_one (qs_ret qb)) qss_nil)
    (qss_cons (qs_set (i := 6) sc_42.nd rfl (by first | exact Or.inl rfl | exact Or.inr rfl) (qe_slice (qv 4) qo_none (qo_some (qe_call (sem_len (i := 16)) ih.o16 hr rfl T.m16 T.F16.kp T.b16 (qa_cons (qv 1) (qa_cons (qe_op dop_add (qe_callB dcall_len rfl T.z_len (by decide +kernel) (qa_cons (qv 4) qa_nil)) qi) qa_nil))))))
    (qss_cons (qs_for PassesOwn.never rfl (qi_seq (qe_lst (qa_cons (qe_tup qa_nil) (qa_cons (qv 6) qa_nil)))) (qg_name (i := 7) sc_42.nd rfl (by first | exact Or.inl rfl | exact Or.inr rfl)) (qss_one (qs_if (qt_not (qt_val (qe_call (sem_len (i := 18)) ih.o18 hr rfl T.m18 T.F18.kp T.b18 (qa_cons (qe_call (sem_len (i := 14)) ih.o14 hr rfl T.m14 T.F14.kp T.b14 (qa_cons (qv 3) (qa_cons (qv 7) qa_nil))) (qa_cons (qe_call (sem_len (i := 33)) ih.o33 hr rfl T.m33 T.F33.kp T.b33 (qa_cons (qv 3) (qa_cons (qv 7) qa_nil))) qa_nil))))) (qss_one (qs_ret qb)) qss_nil)))
    (qss_one (qs_for PassesOwn.never rfl (qi_range1 rfl T.z_range (qa_cons qi qa_nil)) (qg_name (i := 8) sc_42.nd rfl (by first | exact Or.inl rfl | exact Or.inr rfl)) (qss_cons (qs_set (i := 9) sc_42.nd rfl (by first | exact Or.inl rfl | exact Or.inr rfl) (qe_call (sem_len (i := 41)) ih.o41 hr rfl T.m41 T.F41.kp T.b41 (qa_cons (qv 1) (qa_cons (qv 3) (qa_cons (qe_call (sem_len (i := 17)) ih.o17 hr rfl T.m17 T.F17.kp T.b17 (qa_cons (qv 1) (qa_cons (qe_lst (qa_cons (qv 4) (qa_cons (qv 6) qa_nil))) qa_nil))) qa_nil)))))
      (qss_one (qs_if (qt_not (qt_val (qe_call (sem_len (i := 18)) ih.o18 hr rfl T.m18 T.F18.kp T.b18 (qa_cons (qe_call (sem_len (i := 12)) ih.o12 hr rfl T.m12 T.F12.kp T.b12 (qa_cons (qv 3) (qa_cons (qv 9) qa_nil))) (qa_cons (qe_call (sem_len (i := 30)) ih.o30 hr rfl T.m30 T.F30.kp T.b30 (qa_cons (qv 3) (qa_cons (qv 9) qa_nil))) qa_nil))))) (qss_one (qs_ret qb)) qss_nil))))))))))))
  (qss_one (qs_ret (qe_and (qe_cmp dop_is (qe_call (sem_len (i := 12)) ih.o12 hr rfl T.m12 T.F12.kp T.b12 (qa_cons (qe_tup (qa_cons qi (qa_cons (qe_tup (qa_cons (qe_tup qa_nil) qa_nil)) qa_nil))) (qa_cons (qe_tup qa_nil) qa_nil))) qb (nomark _)) (qe_one (qe_cmp dop_is (qe_call (sem_len (i := 12)) ih.o12 hr rfl T.m12 T.F12.kp T.b12 (qa_cons (qe_tup (qa_cons qi (qa_cons (qe_tup (qa_cons (qe_tup qa_nil) qa_nil)) qa_nil))) (qa_cons (qe_tup (qa_cons qi qa_nil)) qa_nil))) qb (nomark _))))))))
end
theorem all {P : Program} {w : World} {K : PySem.W.Frag} {mg : Str → Option Value} {base : Heap} (T : Txt K mg) : ∀ n, IH P w base T n
  | 0 => ⟨FnOk.zero rfl, FnOk.zero rfl, FnOk.zero rfl, FnOk.zero rfl, FnOk.zero rfl, FnOk.zero rfl, FnOk.zero rfl, FnOk.zero rfl, FnOk.zero rfl, FnOk.zero rfl, FnOk.zero rfl, FnOk.zero rfl, FnOk.zero rfl, FnOk.zero rfl, FnOk.zero rfl, FnOk.zero rfl, FnOk.zero rfl, FnOk.zero rfl, FnOk.zero rfl, FnOk.zero rfl, FnOk.zero rfl, FnOk.zero rfl, FnOk.zero rfl, FnOk.zero rfl, FnOk.zero rfl, FnOk.zero rfl, FnOk.zero rfl, FnOk.zero rfl, FnOk.zero rfl, FnOk.zero rfl, FnOk.zero rfl, FnOk.zero rfl, FnOk.zero rfl, FnOk.zero rfl, FnOk.zero rfl, FnOk.zero rfl, FnOk.zero rfl, FnOk.zero rfl, FnOk.zero rfl, FnOk.zero rfl, FnOk.zero rfl, FnOk.zero rfl, FnOk.zero rfl⟩
  | n + 1 => by
    have ih := all (P := P) (w := w) (base := base) T n
    exact ⟨fn_ok T.F0 sc_0 rfl rfl (fun cdv A outer s H E hr => w_0 T ih cdv A outer s H E hr), fn_ok T.F1 sc_1 rfl rfl (fun cdv A outer s H E hr => w_1 T ih cdv A outer s H E hr), fn_ok T.F2 sc_2 rfl rfl (fun cdv A outer s H E hr => w_2 T ih cdv A outer s H E hr), fn_ok T.F3 sc_3 rfl rfl (fun cdv A outer s H E hr => w_3 T ih cdv A outer s H E hr), fn_ok T.F4 sc_4 rfl rfl (fun cdv A outer s H E hr => w_4 T ih cdv A outer s H E hr), fn_ok T.F5 sc_5 rfl rfl (fun cdv A outer s H E hr => w_5 T ih cdv A outer s H E hr), fn_ok T.F6 sc_6 rfl rfl (fun cdv A outer s H E hr => w_6 T ih cdv A outer s H E hr), fn_ok T.F7 sc_7 rfl rfl (fun cdv A outer s H E hr => w_7 T ih cdv A outer s H E hr), fn_ok T.F8 sc_8 rfl rfl (fun cdv A outer s H E hr => w_8 T ih cdv A outer s H E hr), fn_ok T.F9 sc_9 rfl rfl (fun cdv A outer s H E hr => w_9 T ih cdv A outer s H E hr), fn_ok T.F10 sc_10 rfl rfl (fun cdv A outer s H E hr => w_10 T ih cdv A outer s H E hr), fn_ok T.F11 sc_11 rfl rfl (fun cdv A outer s H E hr => w_11 T ih cdv A outer s H E hr), fn_ok T.F12 sc_12 rfl rfl (fun cdv A outer s H E hr => w_12 T ih cdv A outer s H E hr), fn_ok T.F13 sc_13 rfl rfl (fun cdv A outer s H E hr => w_13 T ih cdv A outer s H E hr), fn_ok T.F14 sc_14 rfl rfl (fun cdv A outer s H E hr => w_14 T ih cdv A outer s H E hr), fn_ok T.F15 sc_15 rfl rfl (fun cdv A outer s H E hr => w_15 T ih cdv A outer s H E hr), fn_ok T.F16 sc_16 rfl rfl (fun cdv A outer s H E hr => w_16 T ih cdv A outer s H E hr), fn_ok T.F17 sc_17 rfl rfl (fun cdv A outer s H E hr => w_17 T ih cdv A outer s H E hr), fn_ok T.F18 sc_18 rfl rfl (fun cdv A outer s H E hr => w_18 T ih cdv A outer s H E hr), fn_ok T.F19 sc_19 rfl rfl (fun cdv A outer s H E hr => w_19 T ih cdv A outer s H E hr), fn_ok T.F20 sc_20 rfl rfl (fun cdv A outer s H E hr => w_20 T ih cdv A outer s H E hr), fn_ok T.F21 sc_21 rfl rfl (fun cdv A outer s H E hr => w_21 T ih cdv A outer s H E hr), fn_ok T.F22 sc_22 rfl rfl (fun cdv A outer s H E hr => w_22 T ih cdv A outer s H E hr), fn_ok T.F23 sc_23 rfl rfl (fun cdv A outer s H E hr => w_23 T ih cdv A outer s H E hr), fn_ok T.F24 sc_24 rfl rfl (fun cdv A outer s H E hr => w_24 T ih cdv A outer s H E hr), fn_ok T.F25 sc_25 rfl rfl (fun cdv A outer s H E hr => w_25 T ih cdv A outer s H E hr), fn_ok T.F26 sc_26 rfl rfl (fun cdv A outer s H E hr => w_26 T ih cdv A outer s H E hr), fn_ok T.F27 sc_27 rfl rfl (fun cdv A outer s H E hr => w_27 T ih cdv A outer s H E hr), fn_ok T.F28 sc_28 rfl rfl (fun cdv A outer s H E hr => w_28 T ih cdv A outer s H E hr), fn_ok T.F29 sc_29 rfl rfl (fun cdv A outer s H E hr => w_29 T ih cdv A outer s H E hr), fn_ok T.F30 sc_30 rfl rfl (fun cdv A outer s H E hr => w_30 T ih cdv A outer s H E hr), fn_ok T.F31 sc_31 rfl rfl (fun cdv A outer s H E hr => w_31 T ih cdv A outer s H E hr), fn_ok T.F32 sc_32 rfl rfl (fun cdv A outer s H E hr => w_32 T ih cdv A outer s H E hr), fn_ok T.F33 sc_33 rfl rfl (fun cdv A outer s H E hr => w_33 T ih cdv A outer s H E hr), fn_ok T.F34 sc_34 rfl rfl (fun cdv A outer s H E hr => w_34 T ih cdv A outer s H E hr), fn_ok T.F35 sc_35 rfl rfl (fun cdv A outer s H E hr => w_35 T ih cdv A outer s H E hr), fn_ok T.F36 sc_36 rfl rfl (fun cdv A outer s H E hr => w_36 T ih cdv A outer s H E hr), fn_ok T.F37 sc_37 rfl rfl (fun cdv A outer s H E hr => w_37 T ih cdv A outer s H E hr), fn_ok T.F38 sc_38 rfl rfl (fun cdv A outer s H E hr => w_38 T ih cdv A outer s H E hr), fn_ok T.F39 sc_39 rfl rfl (fun cdv A outer s H E hr => w_39 T ih cdv A outer s H E hr), fn_ok T.F40 sc_40 rfl rfl (fun cdv A outer s H E hr => w_40 T ih cdv A outer s H E hr), fn_ok T.F41 sc_41 rfl rfl (fun cdv A outer s H E hr => w_41 T ih cdv A outer s H E hr), fn_ok T.F42 sc_42 rfl rfl (fun cdv A outer s H E hr => w_42 T ih cdv A outer s H E hr)⟩
theorem all_mk {l : PySem.W.OpenLaw} {w : World} {K : PySem.W.Frag} {h : Heap} {mg : Str → Option Value} {fa f0 f1 f2 f3 f4 f5 f6 f7 f8 f9 f10 f11 f12 f13 f14 f15 f16 f17 f18 f19 f20 f21 f22 f23 f24 f25 f26 f27 f28 f29 f30 f31 f32 f33 f34 f35 f36 f37 f38 f39 f40 f41 f42 : Addr} (X : K.In h) (G : h.Ns mainGlobals mg) (hfa : mg "law" = some (.ref fa))
    {od0 an0 : Option Addr} {sl0 : Array (Option Value)} {oc0 kV0 dc0 pm0 cd0 ct0 : Value}
    {od1 an1 : Option Addr} {sl1 : Array (Option Value)} {oc1 kV1 dc1 pm1 cd1 ct1 : Value}
    {od2 an2 : Option Addr} {sl2 : Array (Option Value)} {oc2 kV2 dc2 pm2 cd2 ct2 : Value}
    {od3 an3 : Option Addr} {sl3 : Array (Option Value)} {oc3 kV3 dc3 pm3 cd3 ct3 : Value}
    {od4 an4 : Option Addr} {sl4 : Array (Option Value)} {oc4 kV4 dc4 pm4 cd4 ct4 : Value}
    {od5 an5 : Option Addr} {sl5 : Array (Option Value)} {oc5 kV5 dc5 pm5 cd5 ct5 : Value}
    {od6 an6 : Option Addr} {sl6 : Array (Option Value)} {oc6 kV6 dc6 pm6 cd6 ct6 : Value}
    {od7 an7 : Option Addr} {sl7 : Array (Option Value)} {oc7 kV7 dc7 pm7 cd7 ct7 : Value}
    {od8 an8 : Option Addr} {sl8 : Array (Option Value)} {oc8 kV8 dc8 pm8 cd8 ct8 : Value}
    {od9 an9 : Option Addr} {sl9 : Array (Option Value)} {oc9 kV9 dc9 pm9 cd9 ct9 : Value}
    {od10 an10 : Option Addr} {sl10 : Array (Option Value)} {oc10 kV10 dc10 pm10 cd10 ct10 : Value}
    {od11 an11 : Option Addr} {sl11 : Array (Option Value)} {oc11 kV11 dc11 pm11 cd11 ct11 : Value}
    {od12 an12 : Option Addr} {sl12 : Array (Option Value)} {oc12 kV12 dc12 pm12 cd12 ct12 : Value}
    {od13 an13 : Option Addr} {sl13 : Array (Option Value)} {oc13 kV13 dc13 pm13 cd13 ct13 : Value}
    {od14 an14 : Option Addr} {sl14 : Array (Option Value)} {oc14 kV14 dc14 pm14 cd14 ct14 : Value}
    {od15 an15 : Option Addr} {sl15 : Array (Option Value)} {oc15 kV15 dc15 pm15 cd15 ct15 : Value}
    {od16 an16 : Option Addr} {sl16 : Array (Option Value)} {oc16 kV16 dc16 pm16 cd16 ct16 : Value}
    {od17 an17 : Option Addr} {sl17 : Array (Option Value)} {oc17 kV17 dc17 pm17 cd17 ct17 : Value}
    {od18 an18 : Option Addr} {sl18 : Array (Option Value)} {oc18 kV18 dc18 pm18 cd18 ct18 : Value}
    {od19 an19 : Option Addr} {sl19 : Array (Option Value)} {oc19 kV19 dc19 pm19 cd19 ct19 : Value}
    {od20 an20 : Option Addr} {sl20 : Array (Option Value)} {oc20 kV20 dc20 pm20 cd20 ct20 : Value}
    {od21 an21 : Option Addr} {sl21 : Array (Option Value)} {oc21 kV21 dc21 pm21 cd21 ct21 : Value}
    {od22 an22 : Option Addr} {sl22 : Array (Option Value)} {oc22 kV22 dc22 pm22 cd22 ct22 : Value}
    {od23 an23 : Option Addr} {sl23 : Array (Option Value)} {oc23 kV23 dc23 pm23 cd23 ct23 : Value}
    {od24 an24 : Option Addr} {sl24 : Array (Option Value)} {oc24 kV24 dc24 pm24 cd24 ct24 : Value}
    {od25 an25 : Option Addr} {sl25 : Array (Option Value)} {oc25 kV25 dc25 pm25 cd25 ct25 : Value}
    {od26 an26 : Option Addr} {sl26 : Array (Option Value)} {oc26 kV26 dc26 pm26 cd26 ct26 : Value}
    {od27 an27 : Option Addr} {sl27 : Array (Option Value)} {oc27 kV27 dc27 pm27 cd27 ct27 : Value}
    {od28 an28 : Option Addr} {sl28 : Array (Option Value)} {oc28 kV28 dc28 pm28 cd28 ct28 : Value}
    {od29 an29 : Option Addr} {sl29 : Array (Option Value)} {oc29 kV29 dc29 pm29 cd29 ct29 : Value}
    {od30 an30 : Option Addr} {sl30 : Array (Option Value)} {oc30 kV30 dc30 pm30 cd30 ct30 : Value}
    {od31 an31 : Option Addr} {sl31 : Array (Option Value)} {oc31 kV31 dc31 pm31 cd31 ct31 : Value}
    {od32 an32 : Option Addr} {sl32 : Array (Option Value)} {oc32 kV32 dc32 pm32 cd32 ct32 : Value}
    {od33 an33 : Option Addr} {sl33 : Array (Option Value)} {oc33 kV33 dc33 pm33 cd33 ct33 : Value}
    {od34 an34 : Option Addr} {sl34 : Array (Option Value)} {oc34 kV34 dc34 pm34 cd34 ct34 : Value}
    {od35 an35 : Option Addr} {sl35 : Array (Option Value)} {oc35 kV35 dc35 pm35 cd35 ct35 : Value}
    {od36 an36 : Option Addr} {sl36 : Array (Option Value)} {oc36 kV36 dc36 pm36 cd36 ct36 : Value}
    {od37 an37 : Option Addr} {sl37 : Array (Option Value)} {oc37 kV37 dc37 pm37 cd37 ct37 : Value}
    {od38 an38 : Option Addr} {sl38 : Array (Option Value)} {oc38 kV38 dc38 pm38 cd38 ct38 : Value}
    {od39 an39 : Option Addr} {sl39 : Array (Option Value)} {oc39 kV39 dc39 pm39 cd39 ct39 : Value}
    {od40 an40 : Option Addr} {sl40 : Array (Option Value)} {oc40 kV40 dc40 pm40 cd40 ct40 : Value}
    {od41 an41 : Option Addr} {sl41 : Array (Option Value)} {oc41 kV41 dc41 pm41 cd41 ct41 : Value}
    {od42 an42 : Option Addr} {sl42 : Array (Option Value)} {oc42 kV42 dc42 pm42 cd42 ct42 : Value}
    (a0 : PySem.W.nsIn K mainGlobals "first_state" = some (some (.ref f0))) (l0 : K.lookup f0 = some ⟨oc0, od0, .func (PySem.W.fnOf "first_state" "first_state" (defArgs s_0) (defBody s_0) (defScope s_0) .none kV0 dc0 pm0 an0 cd0 ct0), sl0⟩) (c0 : PySem.W.codeIn K cd0 "first_state" = true) (k0 : PySem.W.keepIn K (.ref f0) = true)
    (a1 : PySem.W.nsIn K mainGlobals "value_of" = some (some (.ref f1))) (l1 : K.lookup f1 = some ⟨oc1, od1, .func (PySem.W.fnOf "value_of" "value_of" (defArgs s_1) (defBody s_1) (defScope s_1) .none kV1 dc1 pm1 an1 cd1 ct1), sl1⟩) (c1 : PySem.W.codeIn K cd1 "value_of" = true) (k1 : PySem.W.keepIn K (.ref f1) = true)
    (a2 : PySem.W.nsIn K mainGlobals "next_deed" = some (some (.ref f2))) (l2 : K.lookup f2 = some ⟨oc2, od2, .func (PySem.W.fnOf "next_deed" "next_deed" (defArgs s_2) (defBody s_2) (defScope s_2) .none kV2 dc2 pm2 an2 cd2 ct2), sl2⟩) (c2 : PySem.W.codeIn K cd2 "next_deed" = true) (k2 : PySem.W.keepIn K (.ref f2) = true)
    (a3 : PySem.W.nsIn K mainGlobals "can_be_done" = some (some (.ref f3))) (l3 : K.lookup f3 = some ⟨oc3, od3, .func (PySem.W.fnOf "can_be_done" "can_be_done" (defArgs s_3) (defBody s_3) (defScope s_3) .none kV3 dc3 pm3 an3 cd3 ct3), sl3⟩) (c3 : PySem.W.codeIn K cd3 "can_be_done" = true) (k3 : PySem.W.keepIn K (.ref f3) = true)
    (a4 : PySem.W.nsIn K mainGlobals "ready_tasks" = some (some (.ref f4))) (l4 : K.lookup f4 = some ⟨oc4, od4, .func (PySem.W.fnOf "ready_tasks" "ready_tasks" (defArgs s_4) (defBody s_4) (defScope s_4) .none kV4 dc4 pm4 an4 cd4 ct4), sl4⟩) (c4 : PySem.W.codeIn K cd4 "ready_tasks" = true) (k4 : PySem.W.keepIn K (.ref f4) = true)
    (a5 : PySem.W.nsIn K mainGlobals "value_kept_by" = some (some (.ref f5))) (l5 : K.lookup f5 = some ⟨oc5, od5, .func (PySem.W.fnOf "value_kept_by" "value_kept_by" (defArgs s_5) (defBody s_5) (defScope s_5) .none kV5 dc5 pm5 an5 cd5 ct5), sl5⟩) (c5 : PySem.W.codeIn K cd5 "value_kept_by" = true) (k5 : PySem.W.keepIn K (.ref f5) = true)
    (a6 : PySem.W.nsIn K mainGlobals "stepped" = some (some (.ref f6))) (l6 : K.lookup f6 = some ⟨oc6, od6, .func (PySem.W.fnOf "stepped" "stepped" (defArgs s_6) (defBody s_6) (defScope s_6) .none kV6 dc6 pm6 an6 cd6 ct6), sl6⟩) (c6 : PySem.W.codeIn K cd6 "stepped" = true) (k6 : PySem.W.keepIn K (.ref f6) = true)
    (a7 : PySem.W.nsIn K mainGlobals "state_after" = some (some (.ref f7))) (l7 : K.lookup f7 = some ⟨oc7, od7, .func (PySem.W.fnOf "state_after" "state_after" (defArgs s_7) (defBody s_7) (defScope s_7) .none kV7 dc7 pm7 an7 cd7 ct7), sl7⟩) (c7 : PySem.W.codeIn K cd7 "state_after" = true) (k7 : PySem.W.keepIn K (.ref f7) = true)
    (a8 : PySem.W.nsIn K mainGlobals "run_on" = some (some (.ref f8))) (l8 : K.lookup f8 = some ⟨oc8, od8, .func (PySem.W.fnOf "run_on" "run_on" (defArgs s_8) (defBody s_8) (defScope s_8) .none kV8 dc8 pm8 an8 cd8 ct8), sl8⟩) (c8 : PySem.W.codeIn K cd8 "run_on" = true) (k8 : PySem.W.keepIn K (.ref f8) = true)
    (a9 : PySem.W.nsIn K mainGlobals "stuck_at" = some (some (.ref f9))) (l9 : K.lookup f9 = some ⟨oc9, od9, .func (PySem.W.fnOf "stuck_at" "stuck_at" (defArgs s_9) (defBody s_9) (defScope s_9) .none kV9 dc9 pm9 an9 cd9 ct9), sl9⟩) (c9 : PySem.W.codeIn K cd9 "stuck_at" = true) (k9 : PySem.W.keepIn K (.ref f9) = true)
    (a10 : PySem.W.nsIn K mainGlobals "values_at" = some (some (.ref f10))) (l10 : K.lookup f10 = some ⟨oc10, od10, .func (PySem.W.fnOf "values_at" "values_at" (defArgs s_10) (defBody s_10) (defScope s_10) .none kV10 dc10 pm10 an10 cd10 ct10), sl10⟩) (c10 : PySem.W.codeIn K cd10 "values_at" = true) (k10 : PySem.W.keepIn K (.ref f10) = true)
    (a11 : PySem.W.nsIn K mainGlobals "ending_at" = some (some (.ref f11))) (l11 : K.lookup f11 = some ⟨oc11, od11, .func (PySem.W.fnOf "ending_at" "ending_at" (defArgs s_11) (defBody s_11) (defScope s_11) .none kV11 dc11 pm11 an11 cd11 ct11), sl11⟩) (c11 : PySem.W.codeIn K cd11 "ending_at" = true) (k11 : PySem.W.keepIn K (.ref f11) = true)
    (a12 : PySem.W.nsIn K mainGlobals "is_run" = some (some (.ref f12))) (l12 : K.lookup f12 = some ⟨oc12, od12, .func (PySem.W.fnOf "is_run" "is_run" (defArgs s_12) (defBody s_12) (defScope s_12) .none kV12 dc12 pm12 an12 cd12 ct12), sl12⟩) (c12 : PySem.W.codeIn K cd12 "is_run" = true) (k12 : PySem.W.keepIn K (.ref f12) = true)
    (a13 : PySem.W.nsIn K mainGlobals "outcome_of" = some (some (.ref f13))) (l13 : K.lookup f13 = some ⟨oc13, od13, .func (PySem.W.fnOf "outcome_of" "outcome_of" (defArgs s_13) (defBody s_13) (defScope s_13) .none kV13 dc13 pm13 an13 cd13 ct13), sl13⟩) (c13 : PySem.W.codeIn K cd13 "outcome_of" = true) (k13 : PySem.W.keepIn K (.ref f13) = true)
    (a14 : PySem.W.nsIn K mainGlobals "first_full_run" = some (some (.ref f14))) (l14 : K.lookup f14 = some ⟨oc14, od14, .func (PySem.W.fnOf "first_full_run" "first_full_run" (defArgs s_14) (defBody s_14) (defScope s_14) .none kV14 dc14 pm14 an14 cd14 ct14), sl14⟩) (c14 : PySem.W.codeIn K cd14 "first_full_run" = true) (k14 : PySem.W.keepIn K (.ref f14) = true)
    (a15 : PySem.W.nsIn K mainGlobals "_law_draws" = some (some (.ref f15))) (l15 : K.lookup f15 = some ⟨oc15, od15, .func (PySem.W.fnOf "_law_draws" "_law_draws" (defArgs s_15) (defBody s_15) (defScope s_15) .none kV15 dc15 pm15 an15 cd15 ct15), sl15⟩) (c15 : PySem.W.codeIn K cd15 "_law_draws" = true) (k15 : PySem.W.keepIn K (.ref f15) = true)
    (a16 : PySem.W.nsIn K mainGlobals "_law_take" = some (some (.ref f16))) (l16 : K.lookup f16 = some ⟨oc16, od16, .func (PySem.W.fnOf "_law_take" "_law_take" (defArgs s_16) (defBody s_16) (defScope s_16) .none kV16 dc16 pm16 an16 cd16 ct16), sl16⟩) (c16 : PySem.W.codeIn K cd16 "_law_take" = true) (k16 : PySem.W.keepIn K (.ref f16) = true)
    (a17 : PySem.W.nsIn K mainGlobals "_law_pick" = some (some (.ref f17))) (l17 : K.lookup f17 = some ⟨oc17, od17, .func (PySem.W.fnOf "_law_pick" "_law_pick" (defArgs s_17) (defBody s_17) (defScope s_17) .none kV17 dc17 pm17 an17 cd17 ct17), sl17⟩) (c17 : PySem.W.codeIn K cd17 "_law_pick" = true) (k17 : PySem.W.keepIn K (.ref f17) = true)
    (a18 : PySem.W.nsIn K mainGlobals "_law_same" = some (some (.ref f18))) (l18 : K.lookup f18 = some ⟨oc18, od18, .func (PySem.W.fnOf "_law_same" "_law_same" (defArgs s_18) (defBody s_18) (defScope s_18) .none kV18 dc18 pm18 an18 cd18 ct18), sl18⟩) (c18 : PySem.W.codeIn K cd18 "_law_same" = true) (k18 : PySem.W.keepIn K (.ref f18) = true)
    (a19 : PySem.W.nsIn K mainGlobals "_law_shuffled" = some (some (.ref f19))) (l19 : K.lookup f19 = some ⟨oc19, od19, .func (PySem.W.fnOf "_law_shuffled" "_law_shuffled" (defArgs s_19) (defBody s_19) (defScope s_19) .none kV19 dc19 pm19 an19 cd19 ct19), sl19⟩) (c19 : PySem.W.codeIn K cd19 "_law_shuffled" = true) (k19 : PySem.W.keepIn K (.ref f19) = true)
    (a20 : PySem.W.nsIn K mainGlobals "_law_some_of" = some (some (.ref f20))) (l20 : K.lookup f20 = some ⟨oc20, od20, .func (PySem.W.fnOf "_law_some_of" "_law_some_of" (defArgs s_20) (defBody s_20) (defScope s_20) .none kV20 dc20 pm20 an20 cd20 ct20), sl20⟩) (c20 : PySem.W.codeIn K cd20 "_law_some_of" = true) (k20 : PySem.W.keepIn K (.ref f20) = true)
    (a21 : PySem.W.nsIn K mainGlobals "_law_put" = some (some (.ref f21))) (l21 : K.lookup f21 = some ⟨oc21, od21, .func (PySem.W.fnOf "_law_put" "_law_put" (defArgs s_21) (defBody s_21) (defScope s_21) .none kV21 dc21 pm21 an21 cd21 ct21), sl21⟩) (c21 : PySem.W.codeIn K cd21 "_law_put" = true) (k21 : PySem.W.keepIn K (.ref f21) = true)
    (a22 : PySem.W.nsIn K mainGlobals "_law_without" = some (some (.ref f22))) (l22 : K.lookup f22 = some ⟨oc22, od22, .func (PySem.W.fnOf "_law_without" "_law_without" (defArgs s_22) (defBody s_22) (defScope s_22) .none kV22 dc22 pm22 an22 cd22 ct22), sl22⟩) (c22 : PySem.W.codeIn K cd22 "_law_without" = true) (k22 : PySem.W.keepIn K (.ref f22) = true)
    (a23 : PySem.W.nsIn K mainGlobals "_law_number" = some (some (.ref f23))) (l23 : K.lookup f23 = some ⟨oc23, od23, .func (PySem.W.fnOf "_law_number" "_law_number" (defArgs s_23) (defBody s_23) (defScope s_23) .none kV23 dc23 pm23 an23 cd23 ct23), sl23⟩) (c23 : PySem.W.codeIn K cd23 "_law_number" = true) (k23 : PySem.W.keepIn K (.ref f23) = true)
    (a24 : PySem.W.nsIn K mainGlobals "_law_start_state" = some (some (.ref f24))) (l24 : K.lookup f24 = some ⟨oc24, od24, .func (PySem.W.fnOf "_law_start_state" "_law_start_state" (defArgs s_24) (defBody s_24) (defScope s_24) .none kV24 dc24 pm24 an24 cd24 ct24), sl24⟩) (c24 : PySem.W.codeIn K cd24 "_law_start_state" = true) (k24 : PySem.W.keepIn K (.ref f24) = true)
    (a25 : PySem.W.nsIn K mainGlobals "_law_worth" = some (some (.ref f25))) (l25 : K.lookup f25 = some ⟨oc25, od25, .func (PySem.W.fnOf "_law_worth" "_law_worth" (defArgs s_25) (defBody s_25) (defScope s_25) .none kV25 dc25 pm25 an25 cd25 ct25), sl25⟩) (c25 : PySem.W.codeIn K cd25 "_law_worth" = true) (k25 : PySem.W.keepIn K (.ref f25) = true)
    (a26 : PySem.W.nsIn K mainGlobals "_law_can" = some (some (.ref f26))) (l26 : K.lookup f26 = some ⟨oc26, od26, .func (PySem.W.fnOf "_law_can" "_law_can" (defArgs s_26) (defBody s_26) (defScope s_26) .none kV26 dc26 pm26 an26 cd26 ct26), sl26⟩) (c26 : PySem.W.codeIn K cd26 "_law_can" = true) (k26 : PySem.W.keepIn K (.ref f26) = true)
    (a27 : PySem.W.nsIn K mainGlobals "_law_ready" = some (some (.ref f27))) (l27 : K.lookup f27 = some ⟨oc27, od27, .func (PySem.W.fnOf "_law_ready" "_law_ready" (defArgs s_27) (defBody s_27) (defScope s_27) .none kV27 dc27 pm27 an27 cd27 ct27), sl27⟩) (c27 : PySem.W.codeIn K cd27 "_law_ready" = true) (k27 : PySem.W.keepIn K (.ref f27) = true)
    (a28 : PySem.W.nsIn K mainGlobals "_law_step" = some (some (.ref f28))) (l28 : K.lookup f28 = some ⟨oc28, od28, .func (PySem.W.fnOf "_law_step" "_law_step" (defArgs s_28) (defBody s_28) (defScope s_28) .none kV28 dc28 pm28 an28 cd28 ct28), sl28⟩) (c28 : PySem.W.codeIn K cd28 "_law_step" = true) (k28 : PySem.W.keepIn K (.ref f28) = true)
    (a29 : PySem.W.nsIn K mainGlobals "_law_behind" = some (some (.ref f29))) (l29 : K.lookup f29 = some ⟨oc29, od29, .func (PySem.W.fnOf "_law_behind" "_law_behind" (defArgs s_29) (defBody s_29) (defScope s_29) .none kV29 dc29 pm29 an29 cd29 ct29), sl29⟩) (c29 : PySem.W.codeIn K cd29 "_law_behind" = true) (k29 : PySem.W.keepIn K (.ref f29) = true)
    (a30 : PySem.W.nsIn K mainGlobals "_law_walks" = some (some (.ref f30))) (l30 : K.lookup f30 = some ⟨oc30, od30, .func (PySem.W.fnOf "_law_walks" "_law_walks" (defArgs s_30) (defBody s_30) (defScope s_30) .none kV30 dc30 pm30 an30 cd30 ct30), sl30⟩) (c30 : PySem.W.codeIn K cd30 "_law_walks" = true) (k30 : PySem.W.keepIn K (.ref f30) = true)
    (a31 : PySem.W.nsIn K mainGlobals "_law_stuck_at" = some (some (.ref f31))) (l31 : K.lookup f31 = some ⟨oc31, od31, .func (PySem.W.fnOf "_law_stuck_at" "_law_stuck_at" (defArgs s_31) (defBody s_31) (defScope s_31) .none kV31 dc31 pm31 an31 cd31 ct31), sl31⟩) (c31 : PySem.W.codeIn K cd31 "_law_stuck_at" = true) (k31 : PySem.W.keepIn K (.ref f31) = true)
    (a32 : PySem.W.nsIn K mainGlobals "_law_ending" = some (some (.ref f32))) (l32 : K.lookup f32 = some ⟨oc32, od32, .func (PySem.W.fnOf "_law_ending" "_law_ending" (defArgs s_32) (defBody s_32) (defScope s_32) .none kV32 dc32 pm32 an32 cd32 ct32), sl32⟩) (c32 : PySem.W.codeIn K cd32 "_law_ending" = true) (k32 : PySem.W.keepIn K (.ref f32) = true)
    (a33 : PySem.W.nsIn K mainGlobals "_law_run_on" = some (some (.ref f33))) (l33 : K.lookup f33 = some ⟨oc33, od33, .func (PySem.W.fnOf "_law_run_on" "_law_run_on" (defArgs s_33) (defBody s_33) (defScope s_33) .none kV33 dc33 pm33 an33 cd33 ct33), sl33⟩) (c33 : PySem.W.codeIn K cd33 "_law_run_on" = true) (k33 : PySem.W.keepIn K (.ref f33) = true)
    (a34 : PySem.W.nsIn K mainGlobals "_law_drawn_run" = some (some (.ref f34))) (l34 : K.lookup f34 = some ⟨oc34, od34, .func (PySem.W.fnOf "_law_drawn_run" "_law_drawn_run" (defArgs s_34) (defBody s_34) (defScope s_34) .none kV34 dc34 pm34 an34 cd34 ct34), sl34⟩) (c34 : PySem.W.codeIn K cd34 "_law_drawn_run" = true) (k34 : PySem.W.keepIn K (.ref f34) = true)
    (a35 : PySem.W.nsIn K mainGlobals "_law_set_of" = some (some (.ref f35))) (l35 : K.lookup f35 = some ⟨oc35, od35, .func (PySem.W.fnOf "_law_set_of" "_law_set_of" (defArgs s_35) (defBody s_35) (defScope s_35) .none kV35 dc35 pm35 an35 cd35 ct35), sl35⟩) (c35 : PySem.W.codeIn K cd35 "_law_set_of" = true) (k35 : PySem.W.keepIn K (.ref f35) = true)
    (a36 : PySem.W.nsIn K mainGlobals "_law_deed" = some (some (.ref f36))) (l36 : K.lookup f36 = some ⟨oc36, od36, .func (PySem.W.fnOf "_law_deed" "_law_deed" (defArgs s_36) (defBody s_36) (defScope s_36) .none kV36 dc36 pm36 an36 cd36 ct36), sl36⟩) (c36 : PySem.W.codeIn K cd36 "_law_deed" = true) (k36 : PySem.W.keepIn K (.ref f36) = true)
    (a37 : PySem.W.nsIn K mainGlobals "_law_program" = some (some (.ref f37))) (l37 : K.lookup f37 = some ⟨oc37, od37, .func (PySem.W.fnOf "_law_program" "_law_program" (defArgs s_37) (defBody s_37) (defScope s_37) .none kV37 dc37 pm37 an37 cd37 ct37), sl37⟩) (c37 : PySem.W.codeIn K cd37 "_law_program" = true) (k37 : PySem.W.keepIn K (.ref f37) = true)
    (a38 : PySem.W.nsIn K mainGlobals "_law_rival_program" = some (some (.ref f38))) (l38 : K.lookup f38 = some ⟨oc38, od38, .func (PySem.W.fnOf "_law_rival_program" "_law_rival_program" (defArgs s_38) (defBody s_38) (defScope s_38) .none kV38 dc38 pm38 an38 cd38 ct38), sl38⟩) (c38 : PySem.W.codeIn K cd38 "_law_rival_program" = true) (k38 : PySem.W.keepIn K (.ref f38) = true)
    (a39 : PySem.W.nsIn K mainGlobals "_law_any_program" = some (some (.ref f39))) (l39 : K.lookup f39 = some ⟨oc39, od39, .func (PySem.W.fnOf "_law_any_program" "_law_any_program" (defArgs s_39) (defBody s_39) (defScope s_39) .none kV39 dc39 pm39 an39 cd39 ct39), sl39⟩) (c39 : PySem.W.codeIn K cd39 "_law_any_program" = true) (k39 : PySem.W.keepIn K (.ref f39) = true)
    (a40 : PySem.W.nsIn K mainGlobals "_law_long_program" = some (some (.ref f40))) (l40 : K.lookup f40 = some ⟨oc40, od40, .func (PySem.W.fnOf "_law_long_program" "_law_long_program" (defArgs s_40) (defBody s_40) (defScope s_40) .none kV40 dc40 pm40 an40 cd40 ct40), sl40⟩) (c40 : PySem.W.codeIn K cd40 "_law_long_program" = true) (k40 : PySem.W.keepIn K (.ref f40) = true)
    (a41 : PySem.W.nsIn K mainGlobals "_law_bent_run" = some (some (.ref f41))) (l41 : K.lookup f41 = some ⟨oc41, od41, .func (PySem.W.fnOf "_law_bent_run" "_law_bent_run" (defArgs s_41) (defBody s_41) (defScope s_41) .none kV41 dc41 pm41 an41 cd41 ct41), sl41⟩) (c41 : PySem.W.codeIn K cd41 "_law_bent_run" = true) (k41 : PySem.W.keepIn K (.ref f41) = true)
    (a42 : PySem.W.nsIn K mainGlobals "law" = some (some (.ref f42))) (l42 : K.lookup f42 = some ⟨oc42, od42, .func (PySem.W.fnOf "law" "law" (defArgs s_42) (defBody s_42) (defScope s_42) .none kV42 dc42 pm42 an42 cd42 ct42), sl42⟩) (c42 : PySem.W.codeIn K cd42 "law" = true) (k42 : PySem.W.keepIn K (.ref f42) = true)
    (z_all : PySem.W.nsIn K mainGlobals "all" = some none)
    (z_any : PySem.W.nsIn K mainGlobals "any" = some none)
    (z_bool : PySem.W.nsIn K mainGlobals "bool" = some none)
    (z_int : PySem.W.nsIn K mainGlobals "int" = some none)
    (z_isinstance : PySem.W.nsIn K mainGlobals "isinstance" = some none)
    (z_len : PySem.W.nsIn K mainGlobals "len" = some none)
    (z_list : PySem.W.nsIn K mainGlobals "list" = some none)
    (z_min : PySem.W.nsIn K mainGlobals "min" = some none)
    (z_range : PySem.W.nsIn K mainGlobals "range" = some none)
    (z_sorted : PySem.W.nsIn K mainGlobals "sorted" = some none)
    (z_str : PySem.W.nsIn K mainGlobals "str" = some none)
    (z_sum : PySem.W.nsIn K mainGlobals "sum" = some none)
    (z_tuple : PySem.W.nsIn K mainGlobals "tuple" = some none) :
    ∃ fd : FuncData, (∀ (s : Shared) (v : Value), BindsTo s fd ⟨[v], []⟩ [("script", v)]) ∧ ∀ base : Heap, K.In base → base.Ns mainGlobals mg → FnOk l.prog w K mg base CX0 60 fa fd ["script"] (liftF K (fs 42).np (sem fs 60 42)) := by
  have e : f42 = fa := by
    have e := hfa.symm.trans (PySem.W.mg_of X G a42)
    cases e
    rfl
  subst e
  have F0 := fun_mk (st := s_0) l0 c0 k0
  have F1 := fun_mk (st := s_1) l1 c1 k1
  have F2 := fun_mk (st := s_2) l2 c2 k2
  have F3 := fun_mk (st := s_3) l3 c3 k3
  have F4 := fun_mk (st := s_4) l4 c4 k4
  have F5 := fun_mk (st := s_5) l5 c5 k5
  have F6 := fun_mk (st := s_6) l6 c6 k6
  have F7 := fun_mk (st := s_7) l7 c7 k7
  have F8 := fun_mk (st := s_8) l8 c8 k8
  have F9 := fun_mk (st := s_9) l9 c9 k9
  have F10 := fun_mk (st := s_10) l10 c10 k10
  have F11 := fun_mk (st := s_11) l11 c11 k11
  have F12 := fun_mk (st := s_12) l12 c12 k12
  have F13 := fun_mk (st := s_13) l13 c13 k13
  have F14 := fun_mk (st := s_14) l14 c14 k14
  have F15 := fun_mk (st := s_15) l15 c15 k15
  have F16 := fun_mk (st := s_16) l16 c16 k16
  have F17 := fun_mk (st := s_17) l17 c17 k17
  have F18 := fun_mk (st := s_18) l18 c18 k18
  have F19 := fun_mk (st := s_19) l19 c19 k19
  have F20 := fun_mk (st := s_20) l20 c20 k20
  have F21 := fun_mk (st := s_21) l21 c21 k21
  have F22 := fun_mk (st := s_22) l22 c22 k22
  have F23 := fun_mk (st := s_23) l23 c23 k23
  have F24 := fun_mk (st := s_24) l24 c24 k24
  have F25 := fun_mk (st := s_25) l25 c25 k25
  have F26 := fun_mk (st := s_26) l26 c26 k26
  have F27 := fun_mk (st := s_27) l27 c27 k27
  have F28 := fun_mk (st := s_28) l28 c28 k28
  have F29 := fun_mk (st := s_29) l29 c29 k29
  have F30 := fun_mk (st := s_30) l30 c30 k30
  have F31 := fun_mk (st := s_31) l31 c31 k31
  have F32 := fun_mk (st := s_32) l32 c32 k32
  have F33 := fun_mk (st := s_33) l33 c33 k33
  have F34 := fun_mk (st := s_34) l34 c34 k34
  have F35 := fun_mk (st := s_35) l35 c35 k35
  have F36 := fun_mk (st := s_36) l36 c36 k36
  have F37 := fun_mk (st := s_37) l37 c37 k37
  have F38 := fun_mk (st := s_38) l38 c38 k38
  have F39 := fun_mk (st := s_39) l39 c39 k39
  have F40 := fun_mk (st := s_40) l40 c40 k40
  have F41 := fun_mk (st := s_41) l41 c41 k41
  have F42 := fun_mk (st := s_42) l42 c42 k42
  let T : Txt K mg := ⟨fun i => [f0, f1, f2, f3, f4, f5, f6, f7, f8, f9, f10, f11, f12, f13, f14, f15, f16, f17, f18, f19, f20, f21, f22, f23, f24, f25, f26, f27, f28, f29, f30, f31, f32, f33, f34, f35, f36, f37, f38, f39, f40, f41, f42].getD i 0, fun i => ([PySem.W.fnOf "first_state" "first_state" (defArgs s_0) (defBody s_0) (defScope s_0) .none kV0 dc0 pm0 an0 cd0 ct0, PySem.W.fnOf "value_of" "value_of" (defArgs s_1) (defBody s_1) (defScope s_1) .none kV1 dc1 pm1 an1 cd1 ct1, PySem.W.fnOf "next_deed" "next_deed" (defArgs s_2) (defBody s_2) (defScope s_2) .none kV2 dc2 pm2 an2 cd2 ct2, PySem.W.fnOf "can_be_done" "can_be_done" (defArgs s_3) (defBody s_3) (defScope s_3) .none kV3 dc3 pm3 an3 cd3 ct3, PySem.W.fnOf "ready_tasks" "ready_tasks" (defArgs s_4) (defBody s_4) (defScope s_4) .none kV4 dc4 pm4 an4 cd4 ct4, PySem.W.fnOf "value_kept_by" "value_kept_by" (defArgs s_5) (defBody s_5) (defScope s_5) .none kV5 dc5 pm5 an5 cd5 ct5, PySem.W.fnOf "stepped" "stepped" (defArgs s_6) (defBody s_6) (defScope s_6) .none kV6 dc6 pm6 an6 cd6 ct6, PySem.W.fnOf "state_after" "state_after" (defArgs s_7) (defBody s_7) (defScope s_7) .none kV7 dc7 pm7 an7 cd7 ct7, PySem.W.fnOf "run_on" "run_on" (defArgs s_8) (defBody s_8) (defScope s_8) .none kV8 dc8 pm8 an8 cd8 ct8, PySem.W.fnOf "stuck_at" "stuck_at" (defArgs s_9) (defBody s_9) (defScope s_9) .none kV9 dc9 pm9 an9 cd9 ct9, PySem.W.fnOf "values_at" "values_at" (defArgs s_10) (defBody s_10) (defScope s_10) .none kV10 dc10 pm10 an10 cd10 ct10, PySem.W.fnOf "ending_at" "ending_at" (defArgs s_11) (defBody s_11) (defScope s_11) .none kV11 dc11 pm11 an11 cd11 ct11, PySem.W.fnOf "is_run" "is_run" (defArgs s_12) (defBody s_12) (defScope s_12) .none kV12 dc12 pm12 an12 cd12 ct12, PySem.W.fnOf "outcome_of" "outcome_of" (defArgs s_13) (defBody s_13) (defScope s_13) .none kV13 dc13 pm13 an13 cd13 ct13, PySem.W.fnOf "first_full_run" "first_full_run" (defArgs s_14) (defBody s_14) (defScope s_14) .none kV14 dc14 pm14 an14 cd14 ct14, PySem.W.fnOf "_law_draws" "_law_draws" (defArgs s_15) (defBody s_15) (defScope s_15) .none kV15 dc15 pm15 an15 cd15 ct15, PySem.W.fnOf "_law_take" "_law_take" (defArgs s_16) (defBody s_16) (defScope s_16) .none kV16 dc16 pm16 an16 cd16 ct16, PySem.W.fnOf "_law_pick" "_law_pick" (defArgs s_17) (defBody s_17) (defScope s_17) .none kV17 dc17 pm17 an17 cd17 ct17, PySem.W.fnOf "_law_same" "_law_same" (defArgs s_18) (defBody s_18) (defScope s_18) .none kV18 dc18 pm18 an18 cd18 ct18, PySem.W.fnOf "_law_shuffled" "_law_shuffled" (defArgs s_19) (defBody s_19) (defScope s_19) .none kV19 dc19 pm19 an19 cd19 ct19, PySem.W.fnOf "_law_some_of" "_law_some_of" (defArgs s_20) (defBody s_20) (defScope s_20) .none kV20 dc20 pm20 an20 cd20 ct20, PySem.W.fnOf "_law_put" "_law_put" (defArgs s_21) (defBody s_21) (defScope s_21) .none kV21 dc21 pm21 an21 cd21 ct21, PySem.W.fnOf "_law_without" "_law_without" (defArgs s_22) (defBody s_22) (defScope s_22) .none kV22 dc22 pm22 an22 cd22 ct22, PySem.W.fnOf "_law_number" "_law_number" (defArgs s_23) (defBody s_23) (defScope s_23) .none kV23 dc23 pm23 an23 cd23 ct23, PySem.W.fnOf "_law_start_state" "_law_start_state" (defArgs s_24) (defBody s_24) (defScope s_24) .none kV24 dc24 pm24 an24 cd24 ct24, PySem.W.fnOf "_law_worth" "_law_worth" (defArgs s_25) (defBody s_25) (defScope s_25) .none kV25 dc25 pm25 an25 cd25 ct25, PySem.W.fnOf "_law_can" "_law_can" (defArgs s_26) (defBody s_26) (defScope s_26) .none kV26 dc26 pm26 an26 cd26 ct26, PySem.W.fnOf "_law_ready" "_law_ready" (defArgs s_27) (defBody s_27) (defScope s_27) .none kV27 dc27 pm27 an27 cd27 ct27, PySem.W.fnOf "_law_step" "_law_step" (defArgs s_28) (defBody s_28) (defScope s_28) .none kV28 dc28 pm28 an28 cd28 ct28, PySem.W.fnOf "_law_behind" "_law_behind" (defArgs s_29) (defBody s_29) (defScope s_29) .none kV29 dc29 pm29 an29 cd29 ct29, PySem.W.fnOf "_law_walks" "_law_walks" (defArgs s_30) (defBody s_30) (defScope s_30) .none kV30 dc30 pm30 an30 cd30 ct30, PySem.W.fnOf "_law_stuck_at" "_law_stuck_at" (defArgs s_31) (defBody s_31) (defScope s_31) .none kV31 dc31 pm31 an31 cd31 ct31, PySem.W.fnOf "_law_ending" "_law_ending" (defArgs s_32) (defBody s_32) (defScope s_32) .none kV32 dc32 pm32 an32 cd32 ct32, PySem.W.fnOf "_law_run_on" "_law_run_on" (defArgs s_33) (defBody s_33) (defScope s_33) .none kV33 dc33 pm33 an33 cd33 ct33, PySem.W.fnOf "_law_drawn_run" "_law_drawn_run" (defArgs s_34) (defBody s_34) (defScope s_34) .none kV34 dc34 pm34 an34 cd34 ct34, PySem.W.fnOf "_law_set_of" "_law_set_of" (defArgs s_35) (defBody s_35) (defScope s_35) .none kV35 dc35 pm35 an35 cd35 ct35, PySem.W.fnOf "_law_deed" "_law_deed" (defArgs s_36) (defBody s_36) (defScope s_36) .none kV36 dc36 pm36 an36 cd36 ct36, PySem.W.fnOf "_law_program" "_law_program" (defArgs s_37) (defBody s_37) (defScope s_37) .none kV37 dc37 pm37 an37 cd37 ct37, PySem.W.fnOf "_law_rival_program" "_law_rival_program" (defArgs s_38) (defBody s_38) (defScope s_38) .none kV38 dc38 pm38 an38 cd38 ct38, PySem.W.fnOf "_law_any_program" "_law_any_program" (defArgs s_39) (defBody s_39) (defScope s_39) .none kV39 dc39 pm39 an39 cd39 ct39, PySem.W.fnOf "_law_long_program" "_law_long_program" (defArgs s_40) (defBody s_40) (defScope s_40) .none kV40 dc40 pm40 an40 cd40 ct40, PySem.W.fnOf "_law_bent_run" "_law_bent_run" (defArgs s_41) (defBody s_41) (defScope s_41) .none kV41 dc41 pm41 an41 cd41 ct41, PySem.W.fnOf "law" "law" (defArgs s_42) (defBody s_42) (defScope s_42) .none kV42 dc42 pm42 an42 cd42 ct42]).getD i (PySem.W.fnOf "law" "law" (defArgs s_42) (defBody s_42) (defScope s_42) .none kV42 dc42 pm42 an42 cd42 ct42),
    F0, F0.binds (ps := P_0) (fun _ _ _ _ _ _ us hl => match us, hl with | [_], _ => rfl), PySem.W.mg_of X G a0,
    F1, F1.binds (ps := P_1) (fun _ _ _ _ _ _ us hl => match us, hl with | [_, _], _ => rfl), PySem.W.mg_of X G a1,
    F2, F2.binds (ps := P_2) (fun _ _ _ _ _ _ us hl => match us, hl with | [_, _, _], _ => rfl), PySem.W.mg_of X G a2,
    F3, F3.binds (ps := P_3) (fun _ _ _ _ _ _ us hl => match us, hl with | [_, _], _ => rfl), PySem.W.mg_of X G a3,
    F4, F4.binds (ps := P_4) (fun _ _ _ _ _ _ us hl => match us, hl with | [_, _], _ => rfl), PySem.W.mg_of X G a4,
    F5, F5.binds (ps := P_5) (fun _ _ _ _ _ _ us hl => match us, hl with | [_, _], _ => rfl), PySem.W.mg_of X G a5,
    F6, F6.binds (ps := P_6) (fun _ _ _ _ _ _ us hl => match us, hl with | [_, _, _], _ => rfl), PySem.W.mg_of X G a6,
    F7, F7.binds (ps := P_7) (fun _ _ _ _ _ _ us hl => match us, hl with | [_, _], _ => rfl), PySem.W.mg_of X G a7,
    F8, F8.binds (ps := P_8) (fun _ _ _ _ _ _ us hl => match us, hl with | [_, _], _ => rfl), PySem.W.mg_of X G a8,
    F9, F9.binds (ps := P_9) (fun _ _ _ _ _ _ us hl => match us, hl with | [_, _], _ => rfl), PySem.W.mg_of X G a9,
    F10, F10.binds (ps := P_10) (fun _ _ _ _ _ _ us hl => match us, hl with | [_, _], _ => rfl), PySem.W.mg_of X G a10,
    F11, F11.binds (ps := P_11) (fun _ _ _ _ _ _ us hl => match us, hl with | [_, _], _ => rfl), PySem.W.mg_of X G a11,
    F12, F12.binds (ps := P_12) (fun _ _ _ _ _ _ us hl => match us, hl with | [_, _], _ => rfl), PySem.W.mg_of X G a12,
    F13, F13.binds (ps := P_13) (fun _ _ _ _ _ _ us hl => match us, hl with | [_, _], _ => rfl), PySem.W.mg_of X G a13,
    F14, F14.binds (ps := P_14) (fun _ _ _ _ _ _ us hl => match us, hl with | [_, _], _ => rfl), PySem.W.mg_of X G a14,
    F15, F15.binds (ps := P_15) (fun _ _ _ _ _ _ us hl => match us, hl with | [_, _], _ => rfl), PySem.W.mg_of X G a15,
    F16, F16.binds (ps := P_16) (fun _ _ _ _ _ _ us hl => match us, hl with | [_, _], _ => rfl), PySem.W.mg_of X G a16,
    F17, F17.binds (ps := P_17) (fun _ _ _ _ _ _ us hl => match us, hl with | [_, _], _ => rfl), PySem.W.mg_of X G a17,
    F18, F18.binds (ps := P_18) (fun _ _ _ _ _ _ us hl => match us, hl with | [_, _], _ => rfl), PySem.W.mg_of X G a18,
    F19, F19.binds (ps := P_19) (fun _ _ _ _ _ _ us hl => match us, hl with | [_, _], _ => rfl), PySem.W.mg_of X G a19,
    F20, F20.binds (ps := P_20) (fun _ _ _ _ _ _ us hl => match us, hl with | [_, _, _], _ => rfl), PySem.W.mg_of X G a20,
    F21, F21.binds (ps := P_21) (fun _ _ _ _ _ _ us hl => match us, hl with | [_, _, _], _ => rfl), PySem.W.mg_of X G a21,
    F22, F22.binds (ps := P_22) (fun _ _ _ _ _ _ us hl => match us, hl with | [_, _], _ => rfl), PySem.W.mg_of X G a22,
    F23, F23.binds (ps := P_23) (fun _ _ _ _ _ _ us hl => match us, hl with | [_], _ => rfl), PySem.W.mg_of X G a23,
    F24, F24.binds (ps := P_24) (fun _ _ _ _ _ _ us hl => match us, hl with | [_], _ => rfl), PySem.W.mg_of X G a24,
    F25, F25.binds (ps := P_25) (fun _ _ _ _ _ _ us hl => match us, hl with | [_, _], _ => rfl), PySem.W.mg_of X G a25,
    F26, F26.binds (ps := P_26) (fun _ _ _ _ _ _ us hl => match us, hl with | [_, _, _], _ => rfl), PySem.W.mg_of X G a26,
    F27, F27.binds (ps := P_27) (fun _ _ _ _ _ _ us hl => match us, hl with | [_, _], _ => rfl), PySem.W.mg_of X G a27,
    F28, F28.binds (ps := P_28) (fun _ _ _ _ _ _ us hl => match us, hl with | [_, _, _], _ => rfl), PySem.W.mg_of X G a28,
    F29, F29.binds (ps := P_29) (fun _ _ _ _ _ _ us hl => match us, hl with | [_, _], _ => rfl), PySem.W.mg_of X G a29,
    F30, F30.binds (ps := P_30) (fun _ _ _ _ _ _ us hl => match us, hl with | [_, _], _ => rfl), PySem.W.mg_of X G a30,
    F31, F31.binds (ps := P_31) (fun _ _ _ _ _ _ us hl => match us, hl with | [_, _], _ => rfl), PySem.W.mg_of X G a31,
    F32, F32.binds (ps := P_32) (fun _ _ _ _ _ _ us hl => match us, hl with | [_, _], _ => rfl), PySem.W.mg_of X G a32,
    F33, F33.binds (ps := P_33) (fun _ _ _ _ _ _ us hl => match us, hl with | [_, _], _ => rfl), PySem.W.mg_of X G a33,
    F34, F34.binds (ps := P_34) (fun _ _ _ _ _ _ us hl => match us, hl with | [_, _, _], _ => rfl), PySem.W.mg_of X G a34,
    F35, F35.binds (ps := P_35) (fun _ _ _ _ _ _ us hl => match us, hl with | [_, _, _], _ => rfl), PySem.W.mg_of X G a35,
    F36, F36.binds (ps := P_36) (fun _ _ _ _ _ _ us hl => match us, hl with | [_, _, _], _ => rfl), PySem.W.mg_of X G a36,
    F37, F37.binds (ps := P_37) (fun _ _ _ _ _ _ us hl => match us, hl with | [_], _ => rfl), PySem.W.mg_of X G a37,
    F38, F38.binds (ps := P_38) (fun _ _ _ _ _ _ us hl => match us, hl with | [_], _ => rfl), PySem.W.mg_of X G a38,
    F39, F39.binds (ps := P_39) (fun _ _ _ _ _ _ us hl => match us, hl with | [_], _ => rfl), PySem.W.mg_of X G a39,
    F40, F40.binds (ps := P_40) (fun _ _ _ _ _ _ us hl => match us, hl with | [_], _ => rfl), PySem.W.mg_of X G a40,
    F41, F41.binds (ps := P_41) (fun _ _ _ _ _ _ us hl => match us, hl with | [_, _, _], _ => rfl), PySem.W.mg_of X G a41,
    F42, F42.binds (ps := P_42) (fun _ _ _ _ _ _ us hl => match us, hl with | [_], _ => rfl), PySem.W.mg_of X G a42,
    PySem.W.mg_none_of X G z_all,
    PySem.W.mg_none_of X G z_any,
    PySem.W.mg_none_of X G z_bool,
    PySem.W.mg_none_of X G z_int,
    PySem.W.mg_none_of X G z_isinstance,
    PySem.W.mg_none_of X G z_len,
    PySem.W.mg_none_of X G z_list,
    PySem.W.mg_none_of X G z_min,
    PySem.W.mg_none_of X G z_range,
    PySem.W.mg_none_of X G z_sorted,
    PySem.W.mg_none_of X G z_str,
    PySem.W.mg_none_of X G z_sum,
    PySem.W.mg_none_of X G z_tuple⟩
  refine ⟨PySem.W.fnOf "law" "law" (defArgs s_42) (defBody s_42) (defScope s_42) .none kV42 dc42 pm42 an42 cd42 ct42, fun s v => .of_eq rfl, fun base _ _ => ?_⟩
  exact (all (P := l.prog) (w := w) (base := base) T 60).o42
end Gk33
open PySem PySem.W PyProof.Rows
theorem PySem.Challenge.cw_promiseskept_k33_runs_and_full_runs_holds : PySem.Challenge.rw_promiseskept_k33_runs_and_full_runs.Holds := by
  w_on; o_law; k_head; (case hw => w_witness2)
  k_fill
  refine DL.walk_end (l := PySem.Challenge.rw_promiseskept_k33_runs_and_full_runs) (k := 60) (fs := Gk33.fs) (i := 42) rfl rfl ⟨rfl, by decide, by decide⟩ rfl (fun w h Y => PySem.W.kIn_of Y) ?F Gk33.law_ok
  case F =>
    intro w mg fa h KX G hmg
    refine' Gk33.all_mk KX G hmg ?a0 ?l0 ?c0 ?k0 ?a1 ?l1 ?c1 ?k1 ?a2 ?l2 ?c2 ?k2 ?a3 ?l3 ?c3 ?k3 ?a4 ?l4 ?c4 ?k4 ?a5 ?l5 ?c5 ?k5 ?a6 ?l6 ?c6 ?k6 ?a7 ?l7 ?c7 ?k7 ?a8 ?l8 ?c8 ?k8 ?a9 ?l9 ?c9 ?k9 ?a10 ?l10 ?c10 ?k10 ?a11 ?l11 ?c11 ?k11 ?a12 ?l12 ?c12 ?k12 ?a13 ?l13 ?c13 ?k13 ?a14 ?l14 ?c14 ?k14 ?a15 ?l15 ?c15 ?k15 ?a16 ?l16 ?c16 ?k16 ?a17 ?l17 ?c17 ?k17 ?a18 ?l18 ?c18 ?k18 ?a19 ?l19 ?c19 ?k19 ?a20 ?l20 ?c20 ?k20 ?a21 ?l21 ?c21 ?k21 ?a22 ?l22 ?c22 ?k22 ?a23 ?l23 ?c23 ?k23 ?a24 ?l24 ?c24 ?k24 ?a25 ?l25 ?c25 ?k25 ?a26 ?l26 ?c26 ?k26 ?a27 ?l27 ?c27 ?k27 ?a28 ?l28 ?c28 ?k28 ?a29 ?l29 ?c29 ?k29 ?a30 ?l30 ?c30 ?k30 ?a31 ?l31 ?c31 ?k31 ?a32 ?l32 ?c32 ?k32 ?a33 ?l33 ?c33 ?k33 ?a34 ?l34 ?c34 ?k34 ?a35 ?l35 ?c35 ?k35 ?a36 ?l36 ?c36 ?k36 ?a37 ?l37 ?c37 ?k37 ?a38 ?l38 ?c38 ?k38 ?a39 ?l39 ?c39 ?k39 ?a40 ?l40 ?c40 ?k40 ?a41 ?l41 ?c41 ?k41 ?a42 ?l42 ?c42 ?k42 ?z_all ?z_any ?z_bool ?z_int ?z_isinstance ?z_len ?z_list ?z_min ?z_range ?z_sorted ?z_str ?z_sum ?z_tuple
    (case a0 => k_is); (case l0 => k_is); (case c0 => k_is); (case k0 => k_is)
    (case a1 => k_is); (case l1 => k_is); (case c1 => k_is); (case k1 => k_is)
    (case a2 => k_is); (case l2 => k_is); (case c2 => k_is); (case k2 => k_is)
    (case a3 => k_is); (case l3 => k_is); (case c3 => k_is); (case k3 => k_is)
    (case a4 => k_is); (case l4 => k_is); (case c4 => k_is); (case k4 => k_is)
    (case a5 => k_is); (case l5 => k_is); (case c5 => k_is); (case k5 => k_is)
    (case a6 => k_is); (case l6 => k_is); (case c6 => k_is); (case k6 => k_is)
    (case a7 => k_is); (case l7 => k_is); (case c7 => k_is); (case k7 => k_is)
    (case a8 => k_is); (case l8 => k_is); (case c8 => k_is); (case k8 => k_is)
    (case a9 => k_is); (case l9 => k_is); (case c9 => k_is); (case k9 => k_is)
    (case a10 => k_is); (case l10 => k_is); (case c10 => k_is); (case k10 => k_is)
    (case a11 => k_is); (case l11 => k_is); (case c11 => k_is); (case k11 => k_is)
    (case a12 => k_is); (case l12 => k_is); (case c12 => k_is); (case k12 => k_is)
    (case a13 => k_is); (case l13 => k_is); (case c13 => k_is); (case k13 => k_is)
    (case a14 => k_is); (case l14 => k_is); (case c14 => k_is); (case k14 => k_is)
    (case a15 => k_is); (case l15 => k_is); (case c15 => k_is); (case k15 => k_is)
    (case a16 => k_is); (case l16 => k_is); (case c16 => k_is); (case k16 => k_is)
    (case a17 => k_is); (case l17 => k_is); (case c17 => k_is); (case k17 => k_is)
    (case a18 => k_is); (case l18 => k_is); (case c18 => k_is); (case k18 => k_is)
    (case a19 => k_is); (case l19 => k_is); (case c19 => k_is); (case k19 => k_is)
    (case a20 => k_is); (case l20 => k_is); (case c20 => k_is); (case k20 => k_is)
    (case a21 => k_is); (case l21 => k_is); (case c21 => k_is); (case k21 => k_is)
    (case a22 => k_is); (case l22 => k_is); (case c22 => k_is); (case k22 => k_is)
    (case a23 => k_is); (case l23 => k_is); (case c23 => k_is); (case k23 => k_is)
    (case a24 => k_is); (case l24 => k_is); (case c24 => k_is); (case k24 => k_is)
    (case a25 => k_is); (case l25 => k_is); (case c25 => k_is); (case k25 => k_is)
    (case a26 => k_is); (case l26 => k_is); (case c26 => k_is); (case k26 => k_is)
    (case a27 => k_is); (case l27 => k_is); (case c27 => k_is); (case k27 => k_is)
    (case a28 => k_is); (case l28 => k_is); (case c28 => k_is); (case k28 => k_is)
    (case a29 => k_is); (case l29 => k_is); (case c29 => k_is); (case k29 => k_is)
    (case a30 => k_is); (case l30 => k_is); (case c30 => k_is); (case k30 => k_is)
    (case a31 => k_is); (case l31 => k_is); (case c31 => k_is); (case k31 => k_is)
    (case a32 => k_is); (case l32 => k_is); (case c32 => k_is); (case k32 => k_is)
    (case a33 => k_is); (case l33 => k_is); (case c33 => k_is); (case k33 => k_is)
    (case a34 => k_is); (case l34 => k_is); (case c34 => k_is); (case k34 => k_is)
    (case a35 => k_is); (case l35 => k_is); (case c35 => k_is); (case k35 => k_is)
    (case a36 => k_is); (case l36 => k_is); (case c36 => k_is); (case k36 => k_is)
    (case a37 => k_is); (case l37 => k_is); (case c37 => k_is); (case k37 => k_is)
    (case a38 => k_is); (case l38 => k_is); (case c38 => k_is); (case k38 => k_is)
    (case a39 => k_is); (case l39 => k_is); (case c39 => k_is); (case k39 => k_is)
    (case a40 => k_is); (case l40 => k_is); (case c40 => k_is); (case k40 => k_is)
    (case a41 => k_is); (case l41 => k_is); (case c41 => k_is); (case k41 => k_is)
    (case a42 => k_is); (case l42 => k_is); (case c42 => k_is); (case k42 => k_is)
    (case z_all => k_is)
    (case z_any => k_is)
    (case z_bool => k_is)
    (case z_int => k_is)
    (case z_isinstance => k_is)
    (case z_len => k_is)
    (case z_list => k_is)
    (case z_min => k_is)
    (case z_range => k_is)
    (case z_sorted => k_is)
    (case z_str => k_is)
    (case z_sum => k_is)
    (case z_tuple => k_is)
