import PyProof.Rows.All
import Wide.All
import OpenK.AllK
import Wide.FinOn
import HandS.ForMost
import HandS.Wide
import HandS.TupAny
import HandS.TupMul
import KE.KxText
import HandS.IsInst
import KE.DataEq
import KE.DataFind
import KE.DataCmp
import KE.SortData
import KE.DataMinMax
import HandS.SortInts
import HandS.Rev
import HandS.RevRange
import HandS.Zip
import HandS.Style
import HandS.Conv
import HandS.Iter
import HandS.More
import HandS.SetFor
import HandS.Strs
import PySem.Challenge.RW_promiseskept_k80_whole_plans_alike_or_pa
set_option Elab.async false
set_option linter.all false
set_option maxRecDepth 100000
set_option maxHeartbeats 4000000
namespace DL
open PySem PySem.Spec PyProof.Rows L2
inductive D where
  | non | bl (b : Bool) | int (i : Int) | str (x : Str) | tup (xs : List D) | ref (a : Addr) | ty (n : String) | fl (xs : List D)
inductive DO where
  | lst (xs : List D) | ins (C : Addr) (fs : List (Str × D)) | dct (kvs : List (D × D)) | dset (xs : List D)
abbrev DS := Addr → Option DO
def dupd (S : DS) (a : Addr) (o : DO) : DS := fun b => if b = a then some o else S b
theorem dupd_same {S : DS} {a : Addr} {o : DO} : dupd S a o a = some o := by unfold dupd; rw [if_pos rfl]
theorem dupd_ne {S : DS} {a b : Addr} {o : DO} (h : b ≠ a) : dupd S a o b = S b := by unfold dupd; rw [if_neg h]
theorem dne {S : DS} {a b : Addr} {o : DO} (h : S a = some o) (h' : S b = none) : a ≠ b := by
  intro e; subst e; rw [h] at h'; cases h'
/-- a list that nobody writes: the frozen script, a list of the module -/
def FqL (K : PySem.W.Frag) (H : Hp) (a : Addr) (vs : List V) : Prop :=
  (∃ o, H a = some (.frz o (.lst vs))) ∨
    ∃ (o : Obj) (its : Array Value) (n : Nat), K.lookup a = some o ∧ o.cls = .type "list" ∧ o.dict = none ∧ o.data = .seq its n ∧ its.size ≤ sizeLine ∧ Vals vs its.toList
theorem FqL.sq {K : PySem.W.Frag} {H : Hp} {a : Addr} {vs : List V} (h : FqL K H a vs) : SqL K H a vs := h.elim (fun h => .inl (.inr h)) .inr
mutual
inductive Rv (K : PySem.W.Frag) (H : Hp) : D → V → Prop
  | non : Rv K H .non .non
  | bl (b : Bool) : Rv K H (.bl b) (.bl b)
  | int (i : Int) : Rv K H (.int i) (.int i)
  | str (x : Str) : Rv K H (.str x) (.str x)
  | ty (n : String) : Rv K H (.ty n) (.ty n)
  | ref (a : Addr) : Rv K H (.ref a) (.ref a)
  | tup {a : Addr} {vs : List V} {ds : List D} : SqT K H a vs → RvL K H ds vs → Rv K H (.tup ds) (.ref a)
  | fl {a : Addr} {vs : List V} {ds : List D} : FqL K H a vs → RvL K H ds vs → Rv K H (.fl ds) (.ref a)
inductive RvL (K : PySem.W.Frag) (H : Hp) : List D → List V → Prop
  | nil : RvL K H [] []
  | cons {d : D} {ds : List D} {v : V} {vs : List V} : Rv K H d v → RvL K H ds vs → RvL K H (d :: ds) (v :: vs)
end
section
variable {K : PySem.W.Frag} {H H' : Hp}
mutual
theorem Rv.mono (h1 : ∀ a vs, SqT K H a vs → SqT K H' a vs) (h2 : ∀ a vs, FqL K H a vs → FqL K H' a vs) : ∀ (d : D) (v : V), Rv K H d v → Rv K H' d v
  | .non, _, r => by cases r; exact .non
  | .bl _, _, r => by cases r; exact .bl _
  | .int _, _, r => by cases r; exact .int _
  | .str _, _, r => by cases r; exact .str _
  | .ty _, _, r => by cases r; exact .ty _
  | .ref _, _, r => by cases r; exact .ref _
  | .tup ds, _, r => by
    cases r with
    | tup q rr => exact .tup (h1 _ _ q) (RvL.mono h1 h2 ds _ rr)
  | .fl ds, _, r => by
    cases r with
    | fl q rr => exact .fl (h2 _ _ q) (RvL.mono h1 h2 ds _ rr)
theorem RvL.mono (h1 : ∀ a vs, SqT K H a vs → SqT K H' a vs) (h2 : ∀ a vs, FqL K H a vs → FqL K H' a vs) : ∀ (ds : List D) (vs : List V), RvL K H ds vs → RvL K H' ds vs
  | [], _, r => by cases r; exact .nil
  | d :: ds, _, r => by
    cases r with
    | cons q rr => exact .cons (Rv.mono h1 h2 d _ q) (RvL.mono h1 h2 ds _ rr)
end
theorem RvL.length : ∀ {ds : List D} {vs : List V}, RvL K H ds vs → ds.length = vs.length
  | [], _, r => by cases r; rfl
  | d :: ds, _, r => by
    cases r with
    | cons q rr => simp [RvL.length rr]
theorem RvL.get : ∀ {ds : List D} {vs : List V} {i : Nat} {d : D}, RvL K H ds vs → ds[i]? = some d → ∃ v, vs[i]? = some v ∧ Rv K H d v
  | [], _, _, _, r, e => by simp at e
  | d :: ds, _, 0, x, r, e => by
    cases r with
    | cons q rr => simp at e; subst e; exact ⟨_, rfl, q⟩
  | d :: ds, _, i + 1, x, r, e => by
    cases r with
    | cons q rr =>
      obtain ⟨v, h1, h2⟩ := RvL.get (i := i) (d := x) rr (by simpa using e)
      exact ⟨v, by simpa using h1, h2⟩
theorem RvL.getv : ∀ {ds : List D} {vs : List V} {i : Nat} {v : V}, RvL K H ds vs → vs[i]? = some v → ∃ d, ds[i]? = some d ∧ Rv K H d v
  | [], _, _, _, r, e => by cases r; simp at e
  | d :: ds, _, 0, x, r, e => by
    cases r with
    | cons q rr => simp at e; subst e; exact ⟨_, rfl, q⟩
  | d :: ds, _, i + 1, x, r, e => by
    cases r with
    | cons q rr =>
      obtain ⟨v, h1, h2⟩ := RvL.getv (i := i) (v := x) rr (by simpa using e)
      exact ⟨v, by simpa using h1, h2⟩
theorem RvL.append : ∀ {ds es : List D} {vs ws : List V}, RvL K H ds vs → RvL K H es ws → RvL K H (ds ++ es) (vs ++ ws)
  | [], _, _, _, r, q => by cases r; exact q
  | d :: ds, _, _, _, r, q => by
    cases r with
    | cons a rr => exact .cons a (RvL.append rr q)
theorem RvL.take : ∀ {ds : List D} {vs : List V} (n : Nat), RvL K H ds vs → RvL K H (ds.take n) (vs.take n)
  | _, _, 0, _ => by simp only [List.take_zero]; exact .nil
  | [], _, n + 1, r => by cases r; exact .nil
  | d :: ds, _, n + 1, r => by
    cases r with
    | cons a rr => exact .cons a (RvL.take n rr)
theorem RvL.drop : ∀ {ds : List D} {vs : List V} (n : Nat), RvL K H ds vs → RvL K H (ds.drop n) (vs.drop n)
  | _, _, 0, r => r
  | [], _, n + 1, r => by cases r; exact .nil
  | d :: ds, _, n + 1, r => by
    cases r with
    | cons a rr => exact RvL.drop n rr
theorem RvL.set {d : D} {v : V} (q : Rv K H d v) : ∀ {ds : List D} {vs : List V} (n : Nat), RvL K H ds vs → RvL K H (ds.set n d) (vs.set n v)
  | [], _, n, r => by cases r; exact .nil
  | e :: ds, _, 0, r => by
    cases r with
    | cons a rr => exact .cons q rr
  | e :: ds, _, n + 1, r => by
    cases r with
    | cons a rr => exact .cons a (RvL.set q n rr)
theorem RvL.reverse : ∀ {ds : List D} {vs : List V}, RvL K H ds vs → RvL K H ds.reverse vs.reverse
  | [], _, r => by cases r; exact .nil
  | d :: ds, _, r => by
    cases r with
    | cons a rr => rw [List.reverse_cons, List.reverse_cons]; exact RvL.append (RvL.reverse rr) (.cons a .nil)
theorem RvL.erase : ∀ {ds : List D} {vs : List V} (n : Nat), RvL K H ds vs → RvL K H (ds.eraseIdx n) (vs.eraseIdx n)
  | [], _, n, r => by cases r; exact .nil
  | d :: ds, _, 0, r => by
    cases r with
    | cons a rr => exact rr
  | d :: ds, _, n + 1, r => by
    cases r with
    | cons a rr => exact .cons a (RvL.erase n rr)
theorem RvL.dropLast : ∀ {ds : List D} {vs : List V}, RvL K H ds vs → RvL K H ds.dropLast vs.dropLast := fun {ds vs} r => by
  rw [List.dropLast_eq_take, List.dropLast_eq_take, ← r.length]; exact r.take _
theorem RvL.ints : ∀ (ns : List Int), RvL K H (ns.map D.int) (ns.map V.int)
  | [] => .nil
  | n :: ns => .cons (.int n) (RvL.ints ns)
end
def Ro (K : PySem.W.Frag) (H : Hp) : DO → Addr → Prop
  | .lst xs, a => ∃ vs, H a = some (.lst vs) ∧ RvL K H xs vs
  | .ins C fs, a => ∃ dx vs, H a = some (.ins C dx vs) ∧ fs.map (·.1) = vs.map (·.1) ∧ RvL K H (fs.map (·.2)) (vs.map (·.2))
  | .dct _, _ => False
  | .dset _, _ => False
def Sim (K : PySem.W.Frag) (S : DS) (H : Hp) : Prop := ∀ a o, S a = some o → Ro K H o a
/-- from S, H to S', H': the tuples stand, what the store does not know stands, the store learns of new things alone -/
structure Stp (S : DS) (H : Hp) (S' : DS) (H' : Hp) : Prop where
  tup : ∀ b xs, H b = some (.tup xs) → H' b = some (.tup xs)
  frz : ∀ b o u, H b = some (.frz o u) → H' b = some (.frz o u)
  keep : ∀ b o, S b = none → H b = some o → H' b = some o
  hid : ∀ b, H b ≠ none → S b = none → S' b = none
  live : ∀ b, H b ≠ none → H' b ≠ none
theorem upd_live {H : Hp} {p b : Addr} {o : HO} (h : H b ≠ none) : upd H p o b ≠ none := by
  unfold upd; split <;> simp_all
section
variable {K : PySem.W.Frag} {S S' S1 S2 : DS} {H H' H1 H2 : Hp}
theorem Stp.refl (S : DS) (H : Hp) : Stp S H S H := ⟨fun _ _ h => h, fun _ _ _ h => h, fun _ _ _ h => h, fun _ _ h => h, fun _ h => h⟩
theorem Stp.trans (a : Stp S H S1 H1) (b : Stp S1 H1 S2 H2) : Stp S H S2 H2 :=
  ⟨fun c xs h => b.tup c xs (a.tup c xs h), fun c o u h => b.frz c o u (a.frz c o u h),
   fun c o n h => b.keep c o (a.hid c (by rw [h]; simp) n) (a.keep c o n h),
   fun c h n => b.hid c (by
    cases q : H c with
    | none => exact absurd q h
    | some o => rw [a.keep c o n q]; simp) (a.hid c h n), fun c h => b.live c (a.live c h)⟩
/-- tuples and frozen things stand -/
structure Prs (H H' : Hp) : Prop where
  tup : ∀ b xs, H b = some (.tup xs) → H' b = some (.tup xs)
  frz : ∀ b o u, H b = some (.frz o u) → H' b = some (.frz o u)
theorem Stp.prs (a : Stp S H S' H') : Prs H H' := ⟨a.tup, a.frz⟩
theorem Prs.refl (H : Hp) : Prs H H := ⟨fun _ _ h => h, fun _ _ _ h => h⟩
theorem Prs.trans (a : Prs H H1) (b : Prs H1 H2) : Prs H H2 := ⟨fun c xs h => b.tup c xs (a.tup c xs h), fun c o u h => b.frz c o u (a.frz c o u h)⟩
theorem Prs.updL {p : Addr} {ws us : List V} (h : H p = some (.lst ws)) : Prs H (upd H p (.lst us)) :=
  ⟨fun b xs e => by rw [upd_ne (fun z => by subst z; rw [h] at e; cases e)]; exact e, fun b o u e => by rw [upd_ne (fun z => by subst z; rw [h] at e; cases e)]; exact e⟩
theorem Prs.rv (a : Prs H H') {d : D} {v : V} (h : Rv K H d v) : Rv K H' d v := by
  refine Rv.mono (fun b vs q => ?_) (fun b vs q => ?_) d v h
  · rcases q with (q | ⟨o, q⟩) | q
    · exact .inl (.inl (a.tup _ _ q))
    · exact .inl (.inr ⟨o, a.frz _ _ _ q⟩)
    · exact .inr q
  · rcases q with ⟨o, q⟩ | q
    · exact .inl ⟨o, a.frz _ _ _ q⟩
    · exact .inr q
theorem Prs.rvl (a : Prs H H') : ∀ {ds : List D} {vs : List V}, RvL K H ds vs → RvL K H' ds vs
  | [], _, r => by cases r; exact .nil
  | d :: ds, _, r => by
    cases r with
    | cons q rr => exact .cons (a.rv q) (Prs.rvl a rr)
theorem Prs.sqT (a : Prs H H') {b : Addr} {vs : List V} (q : SqT K H b vs) : SqT K H' b vs := by
  rcases q with (q | ⟨o, q⟩) | q
  · exact .inl (.inl (a.tup _ _ q))
  · exact .inl (.inr ⟨o, a.frz _ _ _ q⟩)
  · exact .inr q
theorem Prs.fqL (a : Prs H H') {b : Addr} {vs : List V} (q : FqL K H b vs) : FqL K H' b vs := by
  rcases q with ⟨o, q⟩ | q
  · exact .inl ⟨o, a.frz _ _ _ q⟩
  · exact .inr q
theorem Stp.sqT (a : Stp S H S' H') {b : Addr} {vs : List V} (h : SqT K H b vs) : SqT K H' b vs := by
  rcases h with (h | ⟨o, h⟩) | h
  · exact .inl (.inl (a.tup _ _ h))
  · exact .inl (.inr ⟨o, a.frz _ _ _ h⟩)
  · exact .inr h
theorem Stp.fqL (a : Stp S H S' H') {b : Addr} {vs : List V} (h : FqL K H b vs) : FqL K H' b vs := by
  rcases h with ⟨o, h⟩ | h
  · exact .inl ⟨o, a.frz _ _ _ h⟩
  · exact .inr h
theorem Stp.rv (a : Stp S H S' H') {d : D} {v : V} (h : Rv K H d v) : Rv K H' d v := Rv.mono (fun _ _ => a.sqT) (fun _ _ => a.fqL) d v h
theorem Stp.rvl (a : Stp S H S' H') {d : List D} {v : List V} (h : RvL K H d v) : RvL K H' d v := RvL.mono (fun _ _ => a.sqT) (fun _ _ => a.fqL) d v h
theorem Stp.ro (a : Stp S H S' H') {o : DO} {b : Addr} (hb : H' b = H b) (h : Ro K H o b) : Ro K H' o b := by
  cases o with
  | lst xs => obtain ⟨vs, e, r⟩ := h; exact ⟨vs, hb.trans e, a.rvl r⟩
  | ins C fs => obtain ⟨dx, vs, e, n, r⟩ := h; exact ⟨dx, vs, hb.trans e, n, a.rvl r⟩
  | dct _ => exact h
  | dset _ => exact h
theorem Ro.some {o : DO} {a : Addr} (h : Ro K H o a) : ∃ u, H a = some u ∧ (∀ xs, u ≠ .tup xs) ∧ ∀ x y, u ≠ .frz x y := by
  cases o with
  | lst xs => obtain ⟨vs, e, r⟩ := h; exact ⟨_, e, (fun _ q => nomatch q), fun _ _ q => nomatch q⟩
  | ins C fs => obtain ⟨dx, vs, e, n, r⟩ := h; exact ⟨_, e, (fun _ q => nomatch q), fun _ _ q => nomatch q⟩
  | dct _ => exact h.elim
  | dset _ => exact h.elim
theorem Sim.fresh (x : Sim K S H) {p : Addr} (h : H p = none) : S p = none := by
  cases q : S p with
  | none => rfl
  | some o =>
    obtain ⟨u, e, _⟩ := (x p o q).some
    rw [h] at e; cases e
/-- something new that the store does not know (a tuple) -/
theorem Stp.laid {p : Addr} {o : HO} (h : H p = none) : Stp S H S (upd H p o) :=
  ⟨fun b xs e => by rw [upd_ne (ne_of_none e h)]; exact e, fun b x u e => by rw [upd_ne (ne_of_none e h)]; exact e,
   fun b x _ e => by rw [upd_ne (ne_of_none e h)]; exact e, fun _ _ n => n, fun _ => upd_live⟩
theorem Sim.laid (x : Sim K S H) {p : Addr} {o : HO} (h : H p = none) : Sim K S (upd H p o) := fun a u e => by
  obtain ⟨z, ez, _⟩ := (x a u e).some
  exact (Stp.laid (S := S) h).ro (upd_ne (ne_of_none ez h)) (x a u e)
/-- something new that the store knows -/
theorem Stp.new {p : Addr} {o : HO} {d : DO} (h : H p = none) : Stp S H (dupd S p d) (upd H p o) :=
  ⟨fun b xs e => by rw [upd_ne (ne_of_none e h)]; exact e, fun b x u e => by rw [upd_ne (ne_of_none e h)]; exact e,
   fun b x _ e => by rw [upd_ne (ne_of_none e h)]; exact e, fun b e n => by
    have hb : b ≠ p := fun z => e (by rw [z]; exact h)
    rw [dupd_ne hb]; exact n, fun _ => upd_live⟩
theorem Sim.new (x : Sim K S H) {p : Addr} {o : HO} {d : DO} (h : H p = none) (r : Ro K (upd H p o) d p) : Sim K (dupd S p d) (upd H p o) := fun a u e => by
  by_cases ha : a = p
  · subst ha; rw [dupd_same] at e; cases e; exact r
  · rw [dupd_ne ha] at e
    exact (Stp.laid (S := S) h).ro (upd_ne ha) (x a u e)
/-- a thing that the store knows is changed -/
theorem Stp.write {a : Addr} {o : HO} {d d0 : DO} (x : Sim K S H) (h : S a = some d0) : Stp S H (dupd S a d) (upd H a o) := by
  obtain ⟨z, ez, n1, n2⟩ := (x a d0 h).some
  refine ⟨fun b xs e => ?_, fun b y u e => ?_, fun b y n e => ?_, fun b e n => ?_, fun _ => upd_live⟩
  · rw [upd_ne (fun q => by subst q; rw [ez] at e; cases e; exact n1 _ rfl)]; exact e
  · rw [upd_ne (fun q => by subst q; rw [ez] at e; cases e; exact n2 _ _ rfl)]; exact e
  · rw [upd_ne (fun q => by subst q; rw [h] at n; cases n)]; exact e
  · rw [dupd_ne (fun q => by subst q; rw [h] at n; cases n)]; exact n
theorem Sim.write {a : Addr} {o : HO} {d d0 : DO} (x : Sim K S H) (h : S a = some d0) (r : Ro K (upd H a o) d a) : Sim K (dupd S a d) (upd H a o) := fun b u e => by
  by_cases hb : b = a
  · subst hb; rw [dupd_same] at e; cases e; exact r
  · rw [dupd_ne hb] at e
    exact (Stp.write (d := d) x h).ro (upd_ne hb) (x b u e)
theorem Sim.lst (x : Sim K S H) {a : Addr} {xs : List D} (h : S a = some (.lst xs)) : ∃ vs, H a = some (.lst vs) ∧ RvL K H xs vs := x a _ h
theorem RvL.upd {a : Addr} {o : HO} {d d0 : DO} {ds : List D} {vs : List V} (x : Sim K S H) (h : S a = some d0) (r : RvL K H ds vs) : RvL K (L2.upd H a o) ds vs := (Stp.write (d := d0) x h).rvl r
end
abbrev Loc := List (Option D)
abbrev DK := D → DS → Prop
abbrev DE := Loc → DS → DK → Prop
abbrev DT := Loc → DS → (Bool → DS → Prop) → Prop
abbrev DA := Loc → DS → (List D → DS → Prop) → Prop
structure DEnds where
  nx : Loc → DS → Prop
  rt : DK
  bk : Loc → DS → Prop
  ct : Loc → DS → Prop
abbrev DSt := DEnds → Loc → DS → Prop
abbrev DR2 := D → D → DS → DK → Prop
abbrev DR1 := D → DS → DK → Prop
abbrev DRs := List D → DS → DK → Prop
abbrev DF := List D → DS → DK → Prop
def Rst (K : PySem.W.Frag) (H : Hp) (δ : Loc) (σ : L2.St) : Prop := δ.length = σ.length ∧ ∀ (i : Nat) (d : D), δ[i]? = some (some d) → ∃ v, σ[i]? = some (some v) ∧ Rv K H d v
theorem Rst.stp {K : PySem.W.Frag} {S S' : DS} {H H' : Hp} {δ : Loc} {σ : L2.St} (r : Rst K H δ σ) (a : Stp S H S' H') : Rst K H' δ σ := ⟨r.1, fun i d e => let ⟨v, h1, h2⟩ := r.2 i d e; ⟨v, h1, a.rv h2⟩⟩
theorem Rst.prs {K : PySem.W.Frag} {H H' : Hp} {δ : Loc} {σ : L2.St} (r : Rst K H δ σ) (a : Prs H H') : Rst K H' δ σ := ⟨r.1, fun i d e => let ⟨v, h1, h2⟩ := r.2 i d e; ⟨v, h1, a.rv h2⟩⟩
theorem Rst.set {K : PySem.W.Frag} {H : Hp} {δ : Loc} {σ : L2.St} {i : Nat} {d : D} {v : V} (r : Rst K H δ σ) (q : Rv K H d v) : Rst K H (δ.set i (some d)) (σ.set i (some v)) := by
  refine ⟨by rw [List.length_set, List.length_set]; exact r.1, fun j e h => ?_⟩
  by_cases hj : i = j
  · subst hj
    by_cases hl : i < δ.length
    · rw [List.getElem?_set_self hl] at h
      simp only [Option.some.injEq] at h
      subst h
      exact ⟨v, List.getElem?_set_self (by rw [← r.1]; exact hl), q⟩
    · rw [List.getElem?_eq_none (by simpa using hl)] at h; cases h
  · rw [List.getElem?_set_ne hj] at h
    obtain ⟨w, h1, h2⟩ := r.2 j e h
    exact ⟨w, by rw [List.getElem?_set_ne hj]; exact h1, h2⟩
def liftE (K : PySem.W.Frag) (t : DE) : TE := fun σ H Q => ∃ δ S Q0, Rst K H δ σ ∧ Sim K S H ∧ t δ S Q0 ∧ ∀ d S' v H', Q0 d S' → Rv K H' d v → Sim K S' H' → Stp S H S' H' → Q v H'
def liftT (K : PySem.W.Frag) (t : DT) : TT := fun σ H Q => ∃ δ S Q0, Rst K H δ σ ∧ Sim K S H ∧ t δ S Q0 ∧ ∀ b S' H', Q0 b S' → Sim K S' H' → Stp S H S' H' → Q b H'
def liftA (K : PySem.W.Frag) (t : DA) : TA := fun σ H Q => ∃ δ S Q0, Rst K H δ σ ∧ Sim K S H ∧ t δ S Q0 ∧ ∀ ds S' vs H', Q0 ds S' → RvL K H' ds vs → Sim K S' H' → Stp S H S' H' → Q vs H'
def liftO (K : PySem.W.Frag) (r : DR2) : R2 := fun x y H Q => ∃ dx dy S Q0, Rv K H dx x ∧ Rv K H dy y ∧ Sim K S H ∧ r dx dy S Q0 ∧ ∀ d S' v H', Q0 d S' → Rv K H' d v → Sim K S' H' → Stp S H S' H' → Q v H'
def liftU (K : PySem.W.Frag) (r : DR1) : V → Hp → VK → Prop := fun x H Q => ∃ dx S Q0, Rv K H dx x ∧ Sim K S H ∧ r dx S Q0 ∧ ∀ d S' v H', Q0 d S' → Rv K H' d v → Sim K S' H' → Stp S H S' H' → Q v H'
def liftC (K : PySem.W.Frag) (r : DRs) : List V → Hp → VK → Prop := fun xs H Q => ∃ ds S Q0, RvL K H ds xs ∧ Sim K S H ∧ r ds S Q0 ∧ ∀ d S' v H', Q0 d S' → Rv K H' d v → Sim K S' H' → Stp S H S' H' → Q v H'
def liftF (K : PySem.W.Frag) (np : Nat) (c : DF) : Sp := fun vs H Q _ => vs.length = np ∧ liftC K c vs H Q
structure Cov (K : PySem.W.Frag) (S : DS) (H : Hp) (D0 : DEnds) (E : L2.Ends) : Prop where
  nx : ∀ δ S' σ H', D0.nx δ S' → Rst K H' δ σ → Sim K S' H' → Stp S H S' H' → E.nx σ H'
  rt : ∀ d S' v H', D0.rt d S' → Rv K H' d v → Sim K S' H' → Stp S H S' H' → E.rt v H'
  bk : ∀ δ S' σ H', D0.bk δ S' → Rst K H' δ σ → Sim K S' H' → Stp S H S' H' → E.bk σ H'
  ct : ∀ δ S' σ H', D0.ct δ S' → Rst K H' δ σ → Sim K S' H' → Stp S H S' H' → E.ct σ H'
theorem Cov.stp {K : PySem.W.Frag} {S S1 : DS} {H H1 : Hp} {D0 : DEnds} {E : L2.Ends} (c : Cov K S H D0 E) (a : Stp S H S1 H1) : Cov K S1 H1 D0 E :=
  ⟨fun δ S' σ H' h r x b => c.nx δ S' σ H' h r x (a.trans b), fun d S' v H' h r x b => c.rt d S' v H' h r x (a.trans b),
   fun δ S' σ H' h r x b => c.bk δ S' σ H' h r x (a.trans b), fun δ S' σ H' h r x b => c.ct δ S' σ H' h r x (a.trans b)⟩
def liftS (K : PySem.W.Frag) (t : DSt) : TS := fun E σ H => ∃ δ S D0, Rst K H δ σ ∧ Sim K S H ∧ t D0 δ S ∧ Cov K S H D0 E
section
variable {X : Cx} {e : Expr} {es : List Expr} {st : Stmt} {sts : List Stmt} {pos : Pos}
theorem PE.imp {t t' : TE} (p : PE X e t) (h : ∀ σ H Q, t' σ H Q → t σ H Q) : PE X e t' := ⟨fun pins s σ H Q I hw => p.run pins s σ H Q I (h _ _ _ hw)⟩
theorem PT.imp {t t' : TT} (p : PT X e t) (h : ∀ σ H Q, t' σ H Q → t σ H Q) : PT X e t' := ⟨fun pins s σ H Q I hw => p.run pins s σ H Q I (h _ _ _ hw)⟩
theorem PW.imp {t t' : TT} (p : PW X e t) (h : ∀ σ H Q, t' σ H Q → t σ H Q) : PW X e t' := ⟨fun wh pins s σ H Q I hw => p.run wh pins s σ H Q I (h _ _ _ hw)⟩
theorem PA.imp {t t' : TA} (p : PA X es t) (h : ∀ σ H Q, t' σ H Q → t σ H Q) : PA X es t' := ⟨fun po pins s σ H Q I hw => p.run po pins s σ H Q I (h _ _ _ hw)⟩
theorem PS.imp {t t' : TS} (p : PS X st t) (h : ∀ E σ H, t' E σ H → t E σ H) : PS X st t' := ⟨fun pins s σ H E I hw => p.run pins s σ H E I (h _ _ _ hw)⟩
theorem PSs.imp {t t' : TS} (p : PSs X sts t) (h : ∀ E σ H, t' E σ H → t E σ H) : PSs X sts t' := ⟨fun pins s σ H E I hw => p.run pins s σ H E I (h _ _ _ hw)⟩
theorem PI.imp {tg : Expr} {t t' : TI} (p : PI X tg e t) (h : ∀ σ H R, t' σ H R → t σ H R) : PI X tg e t' := ⟨fun pins s σ H R I hw => p.run pins s σ H R I (h _ _ _ hw)⟩
def dVar (i : Nat) : DE := fun δ S Q => ∃ d, δ[i]? = some (some d) ∧ Q d S
def dC (d : D) : DE := fun _ S Q => Q d S
def dNil : DA := fun _ S Q => Q [] S
def dCons (a : DE) (r : DA) : DA := fun δ S Q => a δ S fun x S1 => r δ S1 fun xs S2 => Q (x :: xs) S2
def dTup (a : DA) : DE := fun δ S Q => a δ S fun xs S1 => xs.length ≤ 16777216 ∧ Q (.tup xs) S1
def dLst (a : DA) : DE := fun δ S Q => a δ S fun xs S1 => xs.length ≤ 16777216 ∧ ∀ p, S1 p = none → Q (.ref p) (dupd S1 p (.lst xs))
theorem qv (i : Nat) {x : Str} (hN : X.N[i]? = some x := by rfl) (hv : Vis X.env.scope x := by first | exact Or.inl rfl | exact Or.inr (Or.inl rfl) | exact Or.inr (Or.inr rfl)) (hd : (x == ("__debug__" : Str)) = false := by decide)
    (hcd : (x == ("__classdict__" : Str)) = false := by decide) : PE X (.Name x pos) (liftE X.K (dVar i)) :=
  PE.imp (pv i hN hv hd hcd) fun σ H Q ⟨δ, S, Q0, hr, hs, ⟨d, e, h⟩, hq⟩ => by
    obtain ⟨v, h1, h2⟩ := hr.2 i d e
    exact ⟨v, h1, hq d S v H h h2 hs (.refl _ _)⟩
theorem qe_const {d : D} {v : V} {e : Expr} (p : PE X e (tC v)) (hr : ∀ H, Rv X.K H d v) : PE X e (liftE X.K (dC d)) :=
  PE.imp p fun σ H Q ⟨δ, S, Q0, _, hs, h, hq⟩ => hq d S v H h (hr H) hs (.refl _ _)
theorem qi {i : Int} {j} : PE X (.Constant (.int i) j pos) (liftE X.K (dC (.int i))) := qe_const pe_int fun _ => .int _
theorem qb {b : Bool} {j} : PE X (.Constant (.bool b) j pos) (liftE X.K (dC (.bl b))) := qe_const pe_bl fun _ => .bl _
theorem qn {j} : PE X (.Constant .none j pos) (liftE X.K (dC .non)) := qe_const pe_non fun _ => .non
theorem qs {x : Str} {j} : PE X (.Constant (.str x) j pos) (liftE X.K (dC (.str x))) := qe_const pe_str fun _ => .str _
theorem qa_nil : PA X [] (liftA X.K dNil) := PA.imp pa_nil fun σ H Q ⟨δ, S, Q0, _, hs, h, hq⟩ => hq [] S [] H h .nil hs (.refl _ _)
theorem qa_cons {a : DE} {r : DA} (ha : PE X e (liftE X.K a)) (hr : PA X es (liftA X.K r)) (hs : starEach (e :: es) X.env = (false, eval e X.env) :: starEach es X.env := by rfl) : PA X (e :: es) (liftA X.K (dCons a r)) :=
  PA.imp (pa_cons ha hr hs) fun σ H Q ⟨δ, S, Q0, hr, hs, h, hq⟩ =>
    ⟨δ, S, _, hr, hs, h, fun d S1 v H1 h1 r1 s1 a1 => ⟨δ, S1, _, hr.stp a1, s1, h1, fun ds S2 vs H2 h2 r2 s2 a2 => hq _ _ _ _ h2 (.cons (a2.rv r1) r2) s2 (a1.trans a2)⟩⟩
theorem szl : sizeLine = 16777216 := by decide
theorem qe_tup {a : DA} {k} (ha : PA X es (liftA X.K a)) : PE X (.Tuple es k pos) (liftE X.K (dTup a)) :=
  PE.imp (pe_tup ha) fun σ H Q ⟨δ, S, Q0, hr, hs, h, hq⟩ =>
    ⟨δ, S, _, hr, hs, h, fun ds S1 vs H1 ⟨z, h1⟩ r1 s1 a1 => ⟨by rw [← r1.length, szl]; exact z, fun p hp =>
      hq _ _ _ _ h1 (.tup (.inl (.inl upd_same)) ((Stp.laid (S := S1) hp).rvl r1)) (s1.laid hp) (a1.trans (Stp.laid hp))⟩⟩
theorem qe_lst {a : DA} (ha : PA X es (liftA X.K a)) : PE X (.List es pos) (liftE X.K (dLst a)) :=
  PE.imp (pe_lst ha) fun σ H Q ⟨δ, S, Q0, hr, hs, h, hq⟩ =>
    ⟨δ, S, _, hr, hs, h, fun ds S1 vs H1 ⟨z, h1⟩ r1 s1 a1 => ⟨by rw [← r1.length, szl]; exact z, fun p hp =>
      hq _ _ _ _ (h1 p (s1.fresh hp)) (.ref p) (s1.new hp ⟨vs, upd_same, (Stp.laid (S := S1) hp).rvl r1⟩) (a1.trans (Stp.new hp))⟩⟩
def dOp (r : DR2) (a b : DE) : DE := fun δ S Q => a δ S fun x S1 => b δ S1 fun y S2 => r x y S2 Q
def dUn (r : DR1) (a : DE) : DE := fun δ S Q => a δ S fun x S1 => r x S1 Q
theorem lift_op {r : DR2} {ta tb : DE} : ∀ σ H Q, liftE X.K (dOp r ta tb) σ H Q → tOp (liftO X.K r) (liftE X.K ta) (liftE X.K tb) σ H Q :=
  fun σ H Q ⟨δ, S, Q0, hr, hs, h, hq⟩ => ⟨δ, S, _, hr, hs, h, fun x S1 v H1 h1 r1 s1 a1 => ⟨δ, S1, _, hr.stp a1, s1, h1, fun y S2 u H2 h2 r2 s2 a2 =>
    ⟨x, y, S2, _, a2.rv r1, r2, s2, h2, fun d S' v H' q r s a => hq d S' v H' q r s ((a1.trans a2).trans a)⟩⟩⟩
variable {a b c : Expr} {ta tb tc : DE}
theorem qe_op {op : Operator} {r : DR2} (ho : OpR X (binaryOp op) (liftO X.K r)) (ha : PE X a (liftE X.K ta)) (hb : PE X b (liftE X.K tb)) : PE X (.BinOp a op b pos) (liftE X.K (dOp r ta tb)) :=
  PE.imp (pe_op ho ha hb) lift_op
theorem qe_un {op : UnaryOp} {r : DR1} (ho : UnR X (unaryOp op) (liftU X.K r)) (ha : PE X a (liftE X.K ta)) : PE X (.UnaryOp op a pos) (liftE X.K (dUn r ta)) :=
  PE.imp (pe_un ho ha) fun σ H Q ⟨δ, S, Q0, hr, hs, h, hq⟩ => ⟨δ, S, _, hr, hs, h, fun x S1 v H1 h1 r1 s1 a1 =>
    ⟨x, S1, _, r1, s1, h1, fun d S' v H' q r s a => hq d S' v H' q r s (a1.trans a)⟩⟩
theorem qe_cmp {op : CmpOp} {r : DR2} (ho : OpR X (compareOp op) (liftO X.K r)) (ha : PE X a (liftE X.K ta)) (hb : PE X b (liftE X.K tb)) (hm : behindInMarks op b = false) : PE X (.Compare a [op] [b] pos) (liftE X.K (dOp r ta tb)) :=
  PE.imp (pe_cmpR ho ha hb hm) lift_op
/-- a comparison as a test -/
def dTb (t : DE) : DT := fun δ S Q => t δ S fun x S1 => match x with
  | .bl k => Q k S1
  | _ => False
theorem qt_cmp {op : CmpOp} {r : DR2} (ho : OpR X (compareOp op) (liftO X.K r)) (ha : PE X a (liftE X.K ta)) (hb : PE X b (liftE X.K tb)) (hm : behindInMarks op b = false) : PT X (.Compare a [op] [b] pos) (liftT X.K (dTb (dOp r ta tb))) :=
  PT.imp (pt_cmpR ho ha hb hm) fun σ H Q ⟨δ, S, Q0, hr, hs, h, hq⟩ => lift_op σ H _ ⟨δ, S, _, hr, hs, h, fun d S' v H' q r s a => by
    cases d with
    | bl k => cases r; exact ⟨k, rfl, hq k S' H' q s a⟩
    | _ => exact q.elim⟩
/-- any expression whose value is a bool, as a test -/
theorem qt_val {t : DE} (h : PE X e (liftE X.K t)) (he : ∀ whole, isTrue e X.env whole = (do let v ← whole; standAt e.pos; holding [v] (truthy v)) := by intro _; rfl) : PT X e (liftT X.K (dTb t)) :=
  PT.imp (pt_val h he) fun σ H Q ⟨δ, S, Q0, hr, hs, h, hq⟩ => ⟨δ, S, _, hr, hs, h, fun d S' v H' q r s a => by
    cases d with
    | bl k => cases r; exact ⟨k, rfl, hq k S' H' q s a⟩
    | _ => exact q.elim⟩
/-- a < b < c -/
def dChain (r r' : DR2) (a b c : DE) : DE := fun δ S Q => a δ S fun x S1 => b δ S1 fun y S2 => r x y S2 fun z S3 => match z with
  | .bl k => if k = true then c δ S3 fun w S4 => r' y w S4 Q else Q (.bl false) S3
  | _ => False
theorem lift_chain {r r' : DR2} : ∀ σ H Q, liftE X.K (dChain r r' ta tb tc) σ H Q → tChain (liftO X.K r) (liftO X.K r') (liftE X.K ta) (liftE X.K tb) (liftE X.K tc) σ H Q :=
  fun σ H Q ⟨δ, S, Q0, hr, hs, h, hq⟩ => ⟨δ, S, _, hr, hs, h, fun x S1 v H1 h1 r1 s1 a1 => ⟨δ, S1, _, hr.stp a1, s1, h1, fun y S2 u H2 h2 r2 s2 a2 =>
    ⟨x, y, S2, _, a2.rv r1, r2, s2, h2, fun d S3 v3 H3 q3 r3 s3 a3 => by
      cases d with
      | bl k =>
        cases r3
        refine ⟨k, rfl, ?_⟩
        cases k with
        | true =>
          simp only [if_true] at q3 ⊢
          exact ⟨δ, S3, _, hr.stp ((a1.trans a2).trans a3), s3, q3, fun w S4 v4 H4 h4 r4 s4 a4 => ⟨y, w, S4, _, (a3.trans a4).rv r2, r4, s4, h4, fun d S' v H' q r s a => hq d S' v H' q r s ((((a1.trans a2).trans a3).trans a4).trans a)⟩⟩
        | false =>
          simp only [Bool.false_eq_true, if_false] at q3 ⊢
          exact hq _ _ _ _ q3 (.bl false) s3 ((a1.trans a2).trans a3)
      | _ => exact q3.elim⟩⟩⟩
def dAnd (t u : DT) : DT := fun δ S Q => t δ S fun c S1 => if c = true then u δ S1 Q else Q false S1
def dOr (t u : DT) : DT := fun δ S Q => t δ S fun c S1 => if c = true then Q true S1 else u δ S1 Q
def dNot (t : DT) : DT := fun δ S Q => t δ S fun c S1 => Q (!c) S1
variable {t u : DT} {rest : List Expr}
theorem qw_and1 (ha : PT X a (liftT X.K t)) : PW X (.BoolOp .And [a] pos) (liftT X.K t) := pw_and1 ha
theorem qw_or1 (ha : PT X a (liftT X.K t)) : PW X (.BoolOp .Or [a] pos) (liftT X.K t) := pw_or1 ha
theorem qw_and (ha : PT X a (liftT X.K t)) (hb : PW X (.BoolOp .And (b :: rest) pos) (liftT X.K u)) : PW X (.BoolOp .And (a :: b :: rest) pos) (liftT X.K (dAnd t u)) :=
  PW.imp (pw_and ha hb) fun σ H Q ⟨δ, S, Q0, hr, hs, h, hq⟩ => ⟨δ, S, _, hr, hs, h, fun k S1 H1 h1 s1 a1 => by
    cases k with
    | true => rw [if_pos rfl] at h1 ⊢; exact ⟨δ, S1, _, hr.stp a1, s1, h1, fun k S2 H2 h2 s2 a2 => hq k S2 H2 h2 s2 (a1.trans a2)⟩
    | false => rw [if_neg Bool.false_ne_true] at h1 ⊢; exact hq _ _ _ h1 s1 a1⟩
theorem qw_or (ha : PT X a (liftT X.K t)) (hb : PW X (.BoolOp .Or (b :: rest) pos) (liftT X.K u)) : PW X (.BoolOp .Or (a :: b :: rest) pos) (liftT X.K (dOr t u)) :=
  PW.imp (pw_or ha hb) fun σ H Q ⟨δ, S, Q0, hr, hs, h, hq⟩ => ⟨δ, S, _, hr, hs, h, fun k S1 H1 h1 s1 a1 => by
    cases k with
    | false => rw [if_neg Bool.false_ne_true] at h1 ⊢; exact ⟨δ, S1, _, hr.stp a1, s1, h1, fun k S2 H2 h2 s2 a2 => hq k S2 H2 h2 s2 (a1.trans a2)⟩
    | true => rw [if_pos rfl] at h1 ⊢; exact hq _ _ _ h1 s1 a1⟩
theorem qt_w (h : PW X e (liftT X.K t)) : PT X e (liftT X.K t) := h.pt
theorem qt_not (ha : PT X a (liftT X.K t)) : PT X (.UnaryOp .Not a pos) (liftT X.K (dNot t)) :=
  PT.imp (pt_not ha) fun σ H Q ⟨δ, S, Q0, hr, hs, h, hq⟩ => ⟨δ, S, _, hr, hs, h, fun k S1 H1 h1 s1 a1 => hq _ _ _ h1 s1 a1⟩
/-- and, or, not as values (of bools) -/
def dAndV (a b : DE) : DE := fun δ S Q => a δ S fun x S1 => match x with
  | .bl c => if c = true then b δ S1 Q else Q (.bl false) S1
  | _ => False
def dOrV (a b : DE) : DE := fun δ S Q => a δ S fun x S1 => match x with
  | .bl c => if c = true then Q (.bl true) S1 else b δ S1 Q
  | _ => False
def dNotV (a : DE) : DE := fun δ S Q => a δ S fun x S1 => match x with
  | .bl c => Q (.bl (!c)) S1
  | _ => False
theorem qe_one {op} {t : DE} (h : PE X a (liftE X.K t)) : PE X (.BoolOp op [a] pos) (liftE X.K t) := pe_one h
theorem qe_and (ha : PE X a (liftE X.K ta)) (hb : PE X (.BoolOp .And (b :: rest) pos) (liftE X.K tb)) : PE X (.BoolOp .And (a :: b :: rest) pos) (liftE X.K (dAndV ta tb)) :=
  PE.imp (pe_and ha hb) fun σ H Q ⟨δ, S, Q0, hr, hs, h, hq⟩ => ⟨δ, S, _, hr, hs, h, fun k S1 v H1 h1 r1 s1 a1 => by
    cases k with
    | bl k =>
      cases r1
      refine ⟨k, rfl, ?_⟩
      cases k with
      | true => simp only [if_true] at h1 ⊢; exact ⟨δ, S1, _, hr.stp a1, s1, h1, fun k S2 v H2 h2 r2 s2 a2 => hq k S2 v H2 h2 r2 s2 (a1.trans a2)⟩
      | false => rw [if_neg Bool.false_ne_true]; simp only [Bool.false_eq_true, if_false] at h1; exact hq _ _ _ _ h1 (.bl _) s1 a1
    | _ => exact h1.elim⟩
theorem qe_or (ha : PE X a (liftE X.K ta)) (hb : PE X (.BoolOp .Or (b :: rest) pos) (liftE X.K tb)) : PE X (.BoolOp .Or (a :: b :: rest) pos) (liftE X.K (dOrV ta tb)) :=
  PE.imp (pe_or ha hb) fun σ H Q ⟨δ, S, Q0, hr, hs, h, hq⟩ => ⟨δ, S, _, hr, hs, h, fun k S1 v H1 h1 r1 s1 a1 => by
    cases k with
    | bl k =>
      cases r1
      refine ⟨k, rfl, ?_⟩
      cases k with
      | false => rw [if_neg Bool.false_ne_true]; simp only [Bool.false_eq_true, if_false] at h1; exact ⟨δ, S1, _, hr.stp a1, s1, h1, fun k S2 v H2 h2 r2 s2 a2 => hq k S2 v H2 h2 r2 s2 (a1.trans a2)⟩
      | true => simp only [if_true] at h1 ⊢; exact hq _ _ _ _ h1 (.bl _) s1 a1
    | _ => exact h1.elim⟩
theorem qe_not (ha : PE X a (liftE X.K ta)) : PE X (.UnaryOp .Not a pos) (liftE X.K (dNotV ta)) :=
  PE.imp (pe_not ha) fun σ H Q ⟨δ, S, Q0, hr, hs, h, hq⟩ => ⟨δ, S, _, hr, hs, h, fun k S1 v H1 h1 r1 s1 a1 => by
    cases k with
    | bl k => cases r1; exact ⟨k, rfl, hq _ _ _ _ h1 (.bl _) s1 a1⟩
    | _ => exact h1.elim⟩
def dIfE (t : DT) (a b : DE) : DE := fun δ S Q => t δ S fun c S1 => if c = true then a δ S1 Q else b δ S1 Q
theorem qe_if (hc : PT X c (liftT X.K t)) (ha : PE X a (liftE X.K ta)) (hb : PE X b (liftE X.K tb)) : PE X (.IfExp c a b pos) (liftE X.K (dIfE t ta tb)) :=
  PE.imp (pe_ifExp hc ha hb) fun σ H Q ⟨δ, S, Q0, hr, hs, h, hq⟩ => ⟨δ, S, _, hr, hs, h, fun k S1 H1 h1 s1 a1 => by
    cases k with
    | true => rw [if_pos rfl] at h1 ⊢; exact ⟨δ, S1, _, hr.stp a1, s1, h1, fun k S2 v H2 h2 r2 s2 a2 => hq k S2 v H2 h2 r2 s2 (a1.trans a2)⟩
    | false => rw [if_neg Bool.false_ne_true] at h1 ⊢; exact ⟨δ, S1, _, hr.stp a1, s1, h1, fun k S2 v H2 h2 r2 s2 a2 => hq k S2 v H2 h2 r2 s2 (a1.trans a2)⟩⟩
end
section
variable {X : Cx} {e : Expr} {st : Stmt} {sts : List Stmt} {pos : Pos} {t u : DSt} {te : DE}
def dNext : DSt := fun D δ S => D.nx δ S
def dSeq (t u : DSt) : DSt := fun D δ S => t { D with nx := fun δ S => u D δ S } δ S
def dBreak : DSt := fun D δ S => D.bk δ S
def dCont : DSt := fun D δ S => D.ct δ S
def dDrop (te : DE) : DSt := fun D δ S => te δ S fun _ S1 => D.nx δ S1
def dRet (te : DE) : DSt := fun D δ S => te δ S D.rt
def dRetN : DSt := fun D _ S => D.rt .non S
def dIf (c : DT) (t u : DSt) : DSt := fun D δ S => c δ S fun b S1 => if b = true then t D δ S1 else u D δ S1
def dNever : DSt := fun _ _ _ => False
theorem qss_nil : PSs X [] (liftS X.K dNext) := PSs.imp pss_nil fun E σ H ⟨δ, S, D0, hr, hs, h, cv⟩ => cv.nx δ S σ H h hr hs (.refl _ _)
theorem qss_cons (h1 : PS X st (liftS X.K t)) (h2 : PSs X sts (liftS X.K u)) : PSs X (st :: sts) (liftS X.K (dSeq t u)) :=
  PSs.imp (pss_cons h1 h2) fun E σ H ⟨δ, S, D0, hr, hs, h, cv⟩ => ⟨δ, S, _, hr, hs, h, ⟨fun δ' S' σ' H' h r s a => ⟨δ', S', D0, r, s, h, cv.stp a⟩, cv.rt, cv.bk, cv.ct⟩⟩
theorem qss_one (h1 : PS X st (liftS X.K t)) : PSs X [st] (liftS X.K t) := pss_one h1
theorem qs_pass : PS X (.Pass pos) (liftS X.K dNext) := PS.imp ps_pass fun E σ H ⟨δ, S, D0, hr, hs, h, cv⟩ => cv.nx δ S σ H h hr hs (.refl _ _)
theorem qs_break : PS X (.Break pos) (liftS X.K dBreak) := PS.imp ps_break fun E σ H ⟨δ, S, D0, hr, hs, h, cv⟩ => cv.bk δ S σ H h hr hs (.refl _ _)
theorem qs_cont : PS X (.Continue pos) (liftS X.K dCont) := PS.imp ps_continue fun E σ H ⟨δ, S, D0, hr, hs, h, cv⟩ => cv.ct δ S σ H h hr hs (.refl _ _)
theorem qs_expr (he : PE X e (liftE X.K te)) (hs : swapsWith e none pos.line X.env = pure false := by rfl) : PS X (.Expr e pos) (liftS X.K (dDrop te)) :=
  PS.imp (ps_expr he hs) fun E σ H ⟨δ, S, D0, hr, hs, h, cv⟩ => ⟨δ, S, _, hr, hs, h, fun d S' v H' q r s a => cv.nx δ S' σ H' q (hr.stp a) s a⟩
theorem qs_ret (he : PE X e (liftE X.K te)) : PS X (.Return (some e) pos) (liftS X.K (dRet te)) :=
  PS.imp (ps_ret he) fun E σ H ⟨δ, S, D0, hr, hs, h, cv⟩ => ⟨δ, S, _, hr, hs, h, fun d S' v H' q r s a => cv.rt d S' v H' q r s a⟩
theorem qs_retN : PS X (.Return none pos) (liftS X.K dRetN) :=
  PS.imp ps_retN fun E σ H ⟨δ, S, D0, hr, hs, h, cv⟩ => cv.rt _ _ _ _ h .non hs (.refl _ _)
theorem qs_if {c : Expr} {a b : List Stmt} {tc : DT} (hc : PT X c (liftT X.K tc)) (ha : PSs X a (liftS X.K t)) (hb : PSs X b (liftS X.K u)) : PS X (.If c a b pos) (liftS X.K (dIf tc t u)) :=
  PS.imp (ps_if hc ha hb) fun E σ H ⟨δ, S, D0, hr, hs, h, cv⟩ => ⟨δ, S, _, hr, hs, h, fun k S1 H1 h1 s1 a1 => by
    cases k with
    | true => rw [if_pos rfl] at h1 ⊢; exact ⟨δ, S1, D0, hr.stp a1, s1, h1, cv.stp a1⟩
    | false => rw [if_neg Bool.false_ne_true] at h1 ⊢; exact ⟨δ, S1, D0, hr.stp a1, s1, h1, cv.stp a1⟩⟩
theorem qs_never : PS X st (liftS X.K dNever) := PS.imp ps_never fun E σ H ⟨δ, S, D0, _, _, h, _⟩ => h.elim
abbrev DG := D → Loc → DS → (Loc → DS → Prop) → Prop
abbrev DGs := List D → Loc → DS → (Loc → DS → Prop) → Prop
/-- sl: the slots that it may store -/
def liftG (K : PySem.W.Frag) (sl : List Nat) (g : DG) : TG := fun v σ H Q => ∃ d δ S Q0, Rv K H d v ∧ Rst K H δ σ ∧ Sim K S H ∧ g d δ S Q0 ∧
  ∀ δ' S' σ' H', Q0 δ' S' → Rst K H' δ' σ' → σ'.length = σ.length → (∀ i, i ∉ sl → σ'[i]? = σ[i]?) → Sim K S' H' → Stp S H S' H' → Q σ' H'
def liftGs (K : PySem.W.Frag) (sl : List Nat) (g : DGs) : TGs := fun vs σ H Q => ∃ ds δ S Q0, RvL K H ds vs ∧ Rst K H δ σ ∧ Sim K S H ∧ g ds δ S Q0 ∧
  ∀ δ' S' σ' H', Q0 δ' S' → Rst K H' δ' σ' → σ'.length = σ.length → (∀ i, i ∉ sl → σ'[i]? = σ[i]?) → Sim K S' H' → Stp S H S' H' → Q σ' H'
theorem PG.imp {tg : Expr} {g g' : TG} (p : PG X tg g) (h : ∀ v σ H Q, g' v σ H Q → g v σ H Q) : PG X tg g' := ⟨fun pins s σ H v u Q I r hw => p.run pins s σ H v u Q I r (h _ _ _ _ hw)⟩
theorem PGs.imp {tg : List Expr} {g g' : TGs} (p : PGs X tg g) (h : ∀ v σ H Q, g' v σ H Q → g v σ H Q) : PGs X tg g' := ⟨fun pins s σ H v u Q I r hw => p.run pins s σ H v u Q I r (h _ _ _ _ hw)⟩
def dgName (i : Nat) : DG := fun d δ S Q => Q (δ.set i (some d)) S
def dgNil : DGs := fun ds δ S Q => ds = [] ∧ Q δ S
def dgCons (t : DG) (u : DGs) : DGs := fun ds δ S Q => match ds with
  | d :: r => t d δ S fun δ' S' => u r δ' S' Q
  | [] => False
def dgTup (n : Nat) (t : DGs) : DG := fun d δ S Q => match d with
  | .tup xs => xs.length = n ∧ t xs δ S Q
  | _ => False
theorem qg_name {i : Nat} {x : Str} (hN : X.N.Nodup) (hi : X.N[i]? = some x) (hx : L2.Loc X.env.scope x) (hf : X.fn x = true ∨ X.env.scope.names.lookup x = some .local := by first | exact .inl rfl | exact .inr rfl | assumption) : PG X (.Name x pos) (liftG X.K [i] (dgName i)) :=
  PG.imp (pg_name hN hi hx hf) fun v σ H Q ⟨d, δ, S, Q0, rv, rst, sim, h, hq⟩ => hq _ S _ H h (rst.set rv) (List.length_set ..) (fun j hj => List.getElem?_set_ne (fun z => hj (by rw [z]; exact List.mem_singleton.mpr rfl))) sim (.refl _ _)
theorem qgs_nil : PGs X [] (liftGs X.K [] dgNil) :=
  PGs.imp pgs_nil fun vs σ H Q ⟨ds, δ, S, Q0, rv, rst, sim, ⟨e, h⟩, hq⟩ => by
    subst e
    cases rv
    exact ⟨rfl, hq _ S _ H h rst rfl (fun _ _ => rfl) sim (.refl _ _)⟩
theorem qgs_cons {e : Expr} {es : List Expr} {g : DG} {u : DGs} {sl sm : List Nat} (h1 : PG X e (liftG X.K sl g)) (h2 : PGs X es (liftGs X.K sm u))
    (hs : (assignEach (e :: es) X.env).map (·.2) = assign e X.env :: (assignEach es X.env).map (·.2) := by rfl) : PGs X (e :: es) (liftGs X.K (sl ++ sm) (dgCons g u)) :=
  PGs.imp (pgs_cons h1 h2 hs) fun vs σ H Q ⟨ds, δ, S, Q0, rv, rst, sim, h, hq⟩ => by
    cases ds with
    | nil => exact h.elim
    | cons d r =>
      cases rv with
      | cons rd rr =>
        refine ⟨_, _, rfl, d, δ, S, _, rd, rst, sim, h, fun δ1 S1 σ1 H1 q1 r1 l1 n1 s1 a1 => ⟨r, δ1, S1, _, a1.rvl rr, r1, s1, q1, fun δ2 S2 σ2 H2 q2 r2 l2 n2 s2 a2 => ?_⟩⟩
        exact hq δ2 S2 σ2 H2 q2 r2 (l2.trans l1) (fun i hi => (n2 i fun z => hi (List.mem_append_right _ z)).trans (n1 i fun z => hi (List.mem_append_left _ z))) s2 (a1.trans a2)
theorem qg_tup {es : List Expr} {k : Nat} {g : DGs} {n : Nat} {sl : List Nat} (hc : X.calm = true) (h : PGs X es (liftGs X.K sl g))
    (hn : (assignEach es X.env).length = n := by rfl) (hst : (assignEach es X.env).findIdx? (·.1) = none := by rfl) : PG X (.Tuple es k pos) (liftG X.K sl (dgTup n g)) :=
  PG.imp (pg_tup hc h hn hst) fun v σ H Q ⟨d, δ, S, Q0, rv, rst, sim, h, hq⟩ => by
    cases d with
    | tup xs =>
      cases rv with
      | tup hs rl => exact ⟨_, _, rfl, hs, by rw [← rl.length]; exact h.1, xs, δ, S, Q0, rl, rst, sim, h.2, hq⟩
    | _ => exact h.elim
def dAsg (te : DE) (g : DG) : DSt := fun D δ S => te δ S fun x S1 => g x δ S1 D.nx
theorem lift_asg {g : DG} {sl : List Nat} : ∀ E σ H, liftS X.K (dAsg te g) E σ H → tAsg (liftE X.K te) (liftG X.K sl g) E σ H :=
  fun E σ H ⟨δ, S, D0, hr, hs, h, cv⟩ => ⟨δ, S, _, hr, hs, h, fun d S1 v H1 h1 r1 s1 a1 => ⟨d, δ, S1, _, r1, hr.stp a1, s1, h1, fun δ' S' σ' H' q r _ _ s a => cv.nx δ' S' σ' H' q r s (a1.trans a)⟩⟩
theorem qs_asg {tg e : Expr} {g : DG} {sl : List Nat} (he : PE X e (liftE X.K te)) (hg : PG X tg (liftG X.K sl g)) (hs : swapsWithSole [tg] e pos.line X.env = pure false := by rfl) (hw : swappedStores [tg] e X.env = pure none := by rfl)
    (h1 : (assignEach [tg] X.env).map (·.2) = [assign tg X.env] := by rfl) : PS X (.Assign [tg] e pos) (liftS X.K (dAsg te g)) := PS.imp (ps_asg he hg hs hw h1) lift_asg
theorem qs_set {i : Nat} {x : Str} {e : Expr} {pos' : Pos} (hN : X.N.Nodup) (hi : X.N[i]? = some x) (hx : L2.Loc X.env.scope x) (he : PE X e (liftE X.K te)) (hs : swapsWith e (some (.Name x pos')) pos.line X.env = pure false := by rfl)
    (hf : X.fn x = true ∨ X.env.scope.names.lookup x = some .local := by first | exact .inl rfl | exact .inr rfl | assumption) : PS X (.Assign [.Name x pos'] e pos) (liftS X.K (dAsg te (dgName i))) :=
  PS.imp (ps_set hN hi hx he hs hf) fun E σ H ⟨δ, S, D0, hr, hs, h, cv⟩ => ⟨δ, S, _, hr, hs, h, fun d S1 v H1 h1 r1 s1 a1 => cv.nx _ S1 _ H1 h1 ((hr.stp a1).set r1) s1 a1⟩
def dAug (i : Nat) (te : DE) (r : DR2) : DSt := fun D δ S => ∃ x, δ[i]? = some (some x) ∧ te δ S fun y S1 => r x y S1 fun z S2 => D.nx (δ.set i (some z)) S2
theorem qs_aug {i : Nat} {x : Str} {e : Expr} {op : Operator} {r : DR2} {pos' : Pos} (hN : X.N.Nodup) (hi : X.N[i]? = some x) (hx : L2.Loc X.env.scope x) (he : PE X e (liftE X.K te)) (ho : OpR X (inplaceOp op) (liftO X.K r))
    (hf : X.fn x = true ∨ X.env.scope.names.lookup x = some .local := by first | exact .inl rfl | exact .inr rfl | assumption) : PS X (.AugAssign (.Name x pos') op e pos) (liftS X.K (dAug i te r)) :=
  PS.imp (ps_aug (ti := liftO X.K r) hN hi hx he ho hf) fun E σ H ⟨δ, S, D0, hr, hs, ⟨d, e, h⟩, cv⟩ => by
    obtain ⟨v, h1, h2⟩ := hr.2 i d e
    exact ⟨v, h1, δ, S, _, hr, hs, h, fun y S1 u H1 q1 r1 s1 a1 => ⟨d, y, S1, _, a1.rv h2, r1, s1, q1, fun z S2 w H2 q2 r2 s2 a2 => cv.nx _ S2 _ H2 q2 ((hr.stp (a1.trans a2)).set r2) s2 (a1.trans a2)⟩⟩
/-- o[i] = v, by values -/
abbrev DSet := D → D → D → DS → (DS → Prop) → Prop
def liftSet (K : PySem.W.Frag) (r : DSet) : TSet := fun o i v H Q => ∃ od i_d vd S Q0, Rv K H od o ∧ Rv K H i_d i ∧ Rv K H vd v ∧ Sim K S H ∧ r od i_d vd S Q0 ∧ ∀ S' H', Q0 S' → Sim K S' H' → Stp S H S' H' → Q H'
def dgSub (to ti : DE) (r : DSet) : DG := fun v δ S Q => to δ S fun o S1 => ti δ S1 fun i S2 => r o i v S2 fun S3 => Q δ S3
theorem qg_sub {o i : Expr} {to ti : DE} {r : DSet} (ho : PE X o (liftE X.K to)) (hi : PE X i (liftE X.K ti)) (hs : PSet X (liftSet X.K r))
    (ha : ∀ v, assign (.Subscript o i pos) X.env v = (do
      let ov ← holding [v] (eval o X.env)
      let iv ← holding [v, ov] (eval i X.env)
      standAt pos
      holding [v, ov, iv] (setItem ov iv v)
      release [v, ov, iv] []) := by intro _; rfl) : PG X (.Subscript o i pos) (liftG X.K [] (dgSub to ti r)) :=
  PG.imp (pg_sub ho hi hs ha) fun v σ H Q ⟨d, δ, S, Q0, rv, rst, sim, h, hq⟩ => ⟨δ, S, _, rst, sim, h, fun x S1 vx H1 h1 r1 s1 a1 => ⟨δ, S1, _, rst.stp a1, s1, h1, fun y S2 vy H2 h2 r2 s2 a2 =>
    ⟨x, y, d, S2, _, a2.rv r1, r2, (a1.trans a2).rv rv, s2, h2, fun S3 H3 q3 s3 a3 => hq _ S3 _ H3 q3 (rst.stp ((a1.trans a2).trans a3)) rfl (fun _ _ => rfl) s3 ((a1.trans a2).trans a3)⟩⟩⟩
/-- o[i] op= e -/
def dAugS (to ti te : DE) (rg rp : DR2) (rs : DSet) : DSt := fun D δ S => to δ S fun o S1 => ti δ S1 fun i S2 => rg o i S2 fun x S3 => te δ S3 fun y S4 => rp x y S4 fun z S5 => rs o i z S5 fun S6 => D.nx δ S6
theorem qs_augS {o i e : Expr} {to ti : DE} {rg rp : DR2} {rs : DSet} {op : Operator} {tpos : Pos} (ho : PE X o (liftE X.K to)) (hi : PE X i (liftE X.K ti)) (hg : PGet X (liftO X.K rg)) (he : PE X e (liftE X.K te)) (hp : OpR X (inplaceOp op) (liftO X.K rp)) (hs : PSet X (liftSet X.K rs))
    (ha : ∀ ov iv new, augStore i ov iv new = (do holding [new, ov, iv] (setItem ov iv new); release [new, ov, iv] []; pure .next) := by intros; rfl) : PS X (.AugAssign (.Subscript o i tpos) op e pos) (liftS X.K (dAugS to ti te rg rp rs)) :=
  PS.imp (ps_augS ho hi hg he hp hs ha) fun E σ H ⟨δ, S, D0, hr, hs, h, cv⟩ => ⟨δ, S, _, hr, hs, h, fun x1 S1 v1 H1 h1 r1 s1 a1 => ⟨δ, S1, _, hr.stp a1, s1, h1, fun x2 S2 v2 H2 h2 r2 s2 a2 =>
    ⟨x1, x2, S2, _, a2.rv r1, r2, s2, h2, fun x3 S3 v3 H3 h3 r3 s3 a3 => ⟨δ, S3, _, hr.stp ((a1.trans a2).trans a3), s3, h3, fun x4 S4 v4 H4 h4 r4 s4 a4 =>
      ⟨x3, x4, S4, _, a4.rv r3, r4, s4, h4, fun x5 S5 v5 H5 h5 r5 s5 a5 => ⟨x1, x2, x5, S5, _, (a2.trans ((a3.trans a4).trans a5)).rv r1, ((a3.trans a4).trans a5).rv r2, r5, s5, h5, fun S6 H6 h6 s6 a6 =>
        cv.nx δ S6 σ H6 h6 (hr.stp (((a1.trans a2).trans ((a3.trans a4).trans a5)).trans a6)) s6 (((a1.trans a2).trans ((a3.trans a4).trans a5)).trans a6)⟩⟩⟩⟩⟩⟩
def dWhileN (c : DT) (tb : DSt) : Nat → DSt
  | 0 => fun _ _ _ => False
  | n + 1 => fun D δ S => c δ S fun b S1 => if b = true then tb { nx := fun δ S => dWhileN c tb n D δ S, rt := D.rt, bk := D.nx, ct := fun δ S => dWhileN c tb n D δ S } δ S1 else D.nx δ S1
def dWhile (c : DT) (tb : DSt) : DSt := fun D δ S => ∃ n, dWhileN c tb n D δ S
theorem qs_while {c : Expr} {body : List Stmt} {tc : DT} {tb : DSt} (hp : PassesOwn (model X.prog X.w) X.A X.env X.xe) (hc : PT X c (liftT X.K tc)) (hb : PSs X body (liftS X.K tb)) : PS X (.While c body [] pos) (liftS X.K (dWhile tc tb)) :=
  PS.imp (ps_while hp hc hb) fun E σ H ⟨δ, S, D0, hr, hs, ⟨n, h⟩, cv⟩ => by
    refine ⟨fun m σ' H' => ∃ δ' S', Stp S H S' H' ∧ Rst X.K H' δ' σ' ∧ Sim X.K S' H' ∧ dWhileN tc tb m D0 δ' S', ⟨n, δ, S, .refl _ _, hr, hs, h⟩, ?_⟩
    rintro m σ1 H1 ⟨δ1, S1, a1, r1, s1, h1⟩
    cases m with
    | zero => exact h1.elim
    | succ m =>
      refine ⟨δ1, S1, _, r1, s1, h1, fun b S2 H2 q2 s2 a2 => ?_⟩
      cases b with
      | true =>
        simp only [if_true] at q2 ⊢
        refine ⟨fun σ' H' => ∃ δ' S', Stp S H S' H' ∧ Rst X.K H' δ' σ' ∧ Sim X.K S' H' ∧ dWhileN tc tb m D0 δ' S', fun σ' H' w => ⟨m, Nat.lt_succ_self m, w⟩, ?_⟩
        exact ⟨δ1, S2, _, r1.stp a2, s2, q2, ⟨fun δ' S' σ' H' h r s a => ⟨δ', S', (a1.trans a2).trans a, r, s, h⟩, (cv.stp (a1.trans a2)).rt, (cv.stp (a1.trans a2)).nx, fun δ' S' σ' H' h r s a => ⟨δ', S', (a1.trans a2).trans a, r, s, h⟩⟩⟩
      | false =>
        simp only [Bool.false_eq_true, if_false] at q2 ⊢
        exact cv.nx δ1 S2 σ1 H2 q2 (r1.stp a2) s2 (a1.trans a2)
end
abbrev DI := Loc → DS → (List D → (DS → Prop) → DS → Prop) → Prop
def JOk (K : PySem.W.Frag) (H0 : Hp) (xs : List D) (stay : DS → Prop) (J : It) : Prop :=
  ∀ i S H, Prs H0 H → Sim K S H → stay S → (xs.length ≤ i → J.stop i H) ∧ ∀ d, xs[i]? = some d → J.go i H ∧ ∀ x H', J.yld i H x H' → Rv K H' d x ∧ Sim K S H' ∧ Stp S H S H'
def liftI (K : PySem.W.Frag) (di : DI) : TI := fun σ H R => ∃ δ S Q0, Rst K H δ σ ∧ Sim K S H ∧ di δ S Q0 ∧ ∀ xs stay S' H' J, Q0 xs stay S' → Sim K S' H' → Stp S H S' H' → JOk K H' xs stay J → R J H'
def forT (stay : DS → Prop) (g : DG) (tb : DSt) (E : DEnds) : List D → Loc → DS → Prop
  | [], δ, S => stay S ∧ E.nx δ S
  | x :: r, δ, S => stay S ∧ g x δ S fun δ1 S1 => tb { nx := fun δ S => forT stay g tb E r δ S, rt := E.rt, bk := E.nx, ct := fun δ S => forT stay g tb E r δ S } δ1 S1
def dFor (di : DI) (g : DG) (tb : DSt) : DSt := fun D δ S => di δ S fun xs stay S1 => forT stay g tb D xs δ S1
section
variable {X : Cx} {tg iter : Expr} {pos : Pos}
theorem drop_get {α : Type} {xs : List α} {i : Nat} {x : α} {r : List α} (h : xs.drop i = x :: r) : xs[i]? = some x ∧ r = xs.drop (i + 1) ∧ i < xs.length := by
  have hi : i < xs.length := by
    by_cases q : i < xs.length
    · exact q
    · rw [List.drop_eq_nil_of_le (by omega)] at h; cases h
  rw [List.drop_eq_getElem_cons hi] at h
  injection h with h1 h2
  exact ⟨by rw [List.getElem?_eq_getElem hi, h1], h2.symm, hi⟩
theorem qs_for {body : List Stmt} {di : DI} {g : DG} {tb : DSt} {sl : List Nat} (hp : PassesOwn (model X.prog X.w) X.A X.env X.xe) (hc : X.calm = true) (hi : PI X tg iter (liftI X.K di)) (hg : PG X tg (liftG X.K sl g)) (hb : PSs X body (liftS X.K tb))
    (hs : ∀ x, foldedSetIterable iter X.env x = pure x := by intro _; rfl) : PS X (.For tg iter body [] pos) (liftS X.K (dFor di g tb)) :=
  PS.imp (ps_for hp hc hi hg hb hs) fun E σ H ⟨δ, S, D0, hr, hs, h, cv⟩ => by
    refine ⟨δ, S, _, hr, hs, h, fun xs stay S1 H1 J q1 s1 a1 jok => ?_⟩
    refine ⟨fun i m σ' H' => m + i = xs.length ∧ ∃ δ' S', Stp S1 H1 S' H' ∧ Rst X.K H' δ' σ' ∧ Sim X.K S' H' ∧ forT stay g tb D0 (xs.drop i) δ' S', ⟨xs.length, by omega, δ, S1, .refl _ _, hr.stp a1, s1, by simpa using q1⟩, ?_⟩
    rintro i m σ2 H2 ⟨em, δ2, S2, a2, r2, s2, h2⟩
    cases hx : xs.drop i with
    | nil =>
      rw [hx] at h2
      have hl : xs.length ≤ i := List.drop_eq_nil_iff.mp hx
      exact .inl ⟨(jok i S2 H2 a2.prs s2 h2.1).1 hl, cv.nx δ2 S2 σ2 H2 h2.2 r2 s2 (a1.trans a2)⟩
    | cons x r =>
      rw [hx] at h2
      obtain ⟨hg1, hr1, hl⟩ := drop_get hx
      obtain ⟨hgo, hy⟩ := (jok i S2 H2 a2.prs s2 h2.1).2 x hg1
      refine .inr ⟨hgo, fun σ' H' => ∃ δ' S', Stp S1 H1 S' H' ∧ Rst X.K H' δ' σ' ∧ Sim X.K S' H' ∧ forT stay g tb D0 r δ' S', fun σ' H' ⟨δ', S', a', r', s', h'⟩ => ⟨m - 1, by omega, by omega, δ', S', a', r', s', by rw [← hr1]; exact h'⟩, fun x' H' y => ?_⟩
      obtain ⟨rx, sx, ax⟩ := hy x' H' y
      refine ⟨x, δ2, S2, _, rx, r2.stp ax, sx, h2.2, fun δ3 S3 σ3 H3 q3 r3 _ _ s3 a3 => ⟨δ3, S3, _, r3, s3, q3, ?_⟩⟩
      have ac := (a2.trans ax).trans a3
      exact ⟨fun δ' S' σ' H' h r s a => ⟨δ', S', ac.trans a, r, s, h⟩, (cv.stp (a1.trans ac)).rt, (cv.stp (a1.trans ac)).nx, fun δ' S' σ' H' h r s a => ⟨δ', S', ac.trans a, r, s, h⟩⟩
def dwipe (δ : Loc) : List Nat → Loc
  | [] => δ
  | v :: vs => (dwipe δ vs).set v none
theorem dwipe_some {δ : Loc} {i : Nat} {d : D} : ∀ {vs : List Nat}, (dwipe δ vs)[i]? = some (some d) → δ[i]? = some (some d) ∧ i ∉ vs
  | [], h => ⟨h, by simp⟩
  | v :: vs, h => by
    unfold dwipe at h
    by_cases hi : v = i
    · subst hi
      by_cases hv : v < (dwipe δ vs).length
      · rw [List.getElem?_set_self hv] at h; cases h
      · rw [List.getElem?_eq_none (by simpa using hv)] at h; cases h
    · rw [List.getElem?_set_ne hi] at h
      obtain ⟨h1, h2⟩ := dwipe_some h
      exact ⟨h1, by simp only [List.mem_cons, not_or]; exact ⟨fun e => hi e.symm, h2⟩⟩
theorem dwipe_length (δ : Loc) : ∀ vs : List Nat, (dwipe δ vs).length = δ.length
  | [] => rfl
  | v :: vs => by unfold dwipe; rw [List.length_set, dwipe_length δ vs]
theorem wipe_in {σ : L2.St} {i : Nat} : ∀ {vs : List Nat}, i ∈ vs → i < σ.length → (wipe σ vs)[i]? = some none
  | [], h, _ => by cases h
  | v :: vs, h, hl => by
    unfold wipe
    by_cases hi : v = i
    · subst hi
      exact List.getElem?_set_self (by rw [wipe_length]; exact hl)
    · rw [List.getElem?_set_ne hi]
      exact wipe_in (by rcases List.mem_cons.mp h with z | z; exact absurd z.symm hi; exact z) hl
theorem Rst.wipe {K : PySem.W.Frag} {H : Hp} {δ : Loc} {σ : L2.St} {vs : List Nat} (r : Rst K H δ σ) : Rst K H (dwipe δ vs) (L2.wipe σ vs) := by
  refine ⟨by rw [dwipe_length, wipe_length]; exact r.1, fun i d h => ?_⟩
  obtain ⟨h1, h2⟩ := dwipe_some h
  obtain ⟨v, h3, h4⟩ := r.2 i d h1
  exact ⟨v, by rw [wipe_out h2]; exact h3, h4⟩
theorem wipe_same {σ τ : L2.St} {sl vs : List Nat} (hl : τ.length = σ.length) (h : ∀ i, i ∉ sl → τ[i]? = (wipe σ vs)[i]?) (hs : ∀ i ∈ sl, i ∈ vs) : wipe τ vs = wipe σ vs := by
  apply List.ext_getElem?
  intro i
  by_cases hi : i ∈ vs
  · by_cases hlt : i < σ.length
    · rw [wipe_in hi (by omega), wipe_in hi hlt]
    · rw [List.getElem?_eq_none (by rw [wipe_length]; omega), List.getElem?_eq_none (by rw [wipe_length]; omega)]
  · rw [wipe_out hi, h i fun z => hi (hs i z)]
def lcT (stay : DS → Prop) (g : DG) (tt : DT) (te : DE) (δ : Loc) (K : List D → DS → Prop) : List D → List D → DS → Prop
  | [], acc, S => stay S ∧ K acc S
  | x :: r, acc, S => stay S ∧ g x δ S fun δ2 S2 => tt δ2 S2 fun b S3 => if b = true then te δ2 S3 fun y S4 => acc.length < 16777216 ∧ lcT stay g tt te δ K r (acc ++ [y]) S4 else lcT stay g tt te δ K r acc S3
def dLc (di : DI) (g : DG) (tt : DT) (te : DE) (vs : List Nat) : DE := fun δ S Q => di δ S fun xs stay S1 => lcT stay g tt te (dwipe δ vs) (fun ys S2 => ∀ p, S2 p = none → Q (.ref p) (dupd S2 p (.lst ys))) xs [] S1
theorem Stp.updD {S0 S : DS} {H0 H : Hp} {p : Addr} {o : HO} (a : Stp S0 H0 S H) (h : H0 p = none) : Stp S0 H0 S (L2.upd H p o) :=
  ⟨fun b xs e => by rw [upd_ne (ne_of_none e h)]; exact a.tup b xs e, fun b x u e => by rw [upd_ne (ne_of_none e h)]; exact a.frz b x u e,
   fun b x n e => by rw [upd_ne (ne_of_none e h)]; exact a.keep b x n e, a.hid, fun b e => upd_live (a.live b e)⟩
theorem Stp.newD {S0 S : DS} {H0 H : Hp} {p : Addr} {d : DO} (a : Stp S0 H0 S H) (h : H0 p = none) : Stp S0 H0 (dupd S p d) H :=
  ⟨a.tup, a.frz, a.keep, fun b e n => by rw [dupd_ne (fun z => e (by rw [z]; exact h))]; exact a.hid b e n, a.live⟩
theorem Rv.updL {K : PySem.W.Frag} {H : Hp} {p : Addr} {ws us : List V} (h : H p = some (.lst ws)) {d : D} {v : V} (r : Rv K H d v) : Rv K (L2.upd H p (.lst us)) d v := by
  refine Rv.mono (fun a vs q => ?_) (fun a vs q => ?_) d v r
  · rcases q with (q | ⟨o, q⟩) | q
    · exact .inl (.inl (by rw [upd_ne (fun z => by subst z; rw [h] at q; cases q)]; exact q))
    · exact .inl (.inr ⟨o, by rw [upd_ne (fun z => by subst z; rw [h] at q; cases q)]; exact q⟩)
    · exact .inr q
  · rcases q with ⟨o, q⟩ | q
    · exact .inl ⟨o, by rw [upd_ne (fun z => by subst z; rw [h] at q; cases q)]; exact q⟩
    · exact .inr q
theorem RvL.updL {K : PySem.W.Frag} {H : Hp} {p : Addr} {ws us : List V} (h : H p = some (.lst ws)) : ∀ {ds : List D} {vs : List V}, RvL K H ds vs → RvL K (L2.upd H p (.lst us)) ds vs
  | [], _, r => by cases r; exact .nil
  | d :: ds, _, r => by
    cases r with
    | cons q rr => exact .cons (q.updL h) (RvL.updL h rr)
theorem Sim.updL {K : PySem.W.Frag} {S : DS} {H : Hp} {p : Addr} {ws us : List V} (x : Sim K S H) (h : H p = some (.lst ws)) (n : S p = none) : Sim K S (L2.upd H p (.lst us)) := fun a o e => by
  have ha : a ≠ p := fun z => by subst z; rw [n] at e; cases e
  cases o with
  | lst xs => obtain ⟨vs, e, r⟩ := x a _ e; exact ⟨vs, (upd_ne ha).trans e, r.updL h⟩
  | ins C fs => obtain ⟨dx, vs, e, z, r⟩ := x a _ e; exact ⟨dx, vs, (upd_ne ha).trans e, z, r.updL h⟩
  | dct _ => exact (x a _ e).elim
  | dset _ => exact (x a _ e).elim
theorem lift_lc {di : DI} {g : DG} {tt : DT} {te : DE} {sl vs : List Nat} (hsl : ∀ i ∈ sl, i ∈ vs) : ∀ σ H Q, liftE X.K (dLc di g tt te vs) σ H Q → tLc (liftI X.K di) (liftG X.K sl g) (liftT X.K tt) (liftE X.K te) vs σ H Q :=
  fun σ H Q ⟨δ, S, Q0, hr, hs, h, hq⟩ => by
    refine ⟨δ, S, _, hr, hs, h, fun xs stay S1 H1 J q1 s1 a1 jok p hp => ?_⟩
    have hp1 : S1 p = none := s1.fresh hp
    let Kd : List D → DS → Prop := fun ys S2 => ∀ p, S2 p = none → Q0 (.ref p) (dupd S2 p (.lst ys))
    refine ⟨fun i m H' => m + i = xs.length ∧ ∃ acc ws S', Stp S1 H1 S' H' ∧ Sim X.K S' H' ∧ S' p = none ∧ H' p = some (.lst ws) ∧ RvL X.K H' acc ws ∧ lcT stay g tt te (dwipe δ vs) Kd (xs.drop i) acc S',
      ⟨xs.length, by omega, [], [], S1, (Stp.refl _ _).updD hp, s1.laid hp, hp1, upd_same, .nil, by simpa using q1⟩, ?_⟩
    rintro i m H2 ⟨em, acc, ws, S2, a2, s2, n2, e2, r2, h2⟩
    cases hx : xs.drop i with
    | nil =>
      rw [hx] at h2
      have hl : xs.length ≤ i := List.drop_eq_nil_iff.mp hx
      refine .inl ⟨(jok i S2 H2 a2.prs s2 h2.1).1 hl, hq _ _ _ _ (h2.2 p n2) (.ref p) (fun a u e => ?_) ((a1.trans a2).newD ?_)⟩
      · by_cases ha : a = p
        · subst ha; rw [dupd_same] at e; cases e; exact ⟨ws, e2, r2⟩
        · rw [dupd_ne ha] at e; exact s2 a u e
      · cases q : H p with
        | none => rfl
        | some o => exact absurd hp (a1.live p (by rw [q]; simp))
    | cons x r =>
      rw [hx] at h2
      obtain ⟨hg1, hr1, hl⟩ := drop_get hx
      obtain ⟨hgo, hy⟩ := (jok i S2 H2 a2.prs s2 h2.1).2 x hg1
      refine .inr ⟨hgo, fun H' => ∃ acc ws S', Stp S1 H1 S' H' ∧ Sim X.K S' H' ∧ S' p = none ∧ H' p = some (.lst ws) ∧ RvL X.K H' acc ws ∧ lcT stay g tt te (dwipe δ vs) Kd r acc S',
        fun H' ⟨acc, ws, S', h1, h2, h3, h4, h5, h6⟩ => ⟨m - 1, by omega, by omega, acc, ws, S', h1, h2, h3, h4, h5, by rw [← hr1]; exact h6⟩, fun x' H' y => ?_⟩
      obtain ⟨rx, sx, ax⟩ := hy x' H' y
      have hrw : Rst X.K H1 (dwipe δ vs) (L2.wipe σ vs) := (hr.stp a1).wipe
      refine ⟨x, _, S2, _, rx, hrw.stp (a2.trans ax), sx, h2.2, fun δ3 S3 σ3 H3 q3 r3 l3 n3 s3 a3 => ⟨wipe_same (by rw [l3, wipe_length]) n3 hsl, δ3, S3, _, r3, s3, q3, fun b S4 H4 q4 s4 a4 => ?_⟩⟩
      have b4 := (ax.trans a3).trans a4
      have n4 : S4 p = none := b4.hid p (by rw [e2]; simp) n2
      have e4 : H4 p = some (.lst ws) := b4.keep p _ n2 e2
      cases b with
      | false =>
        simp only [Bool.false_eq_true, if_false] at q4 ⊢
        exact ⟨acc, ws, S4, a2.trans b4, s4, n4, e4, b4.rvl r2, q4⟩
      | true =>
        simp only [if_true] at q4 ⊢
        refine ⟨δ3, S4, _, r3.stp a4, s4, q4, fun y S5 v H5 ⟨z5, q5⟩ r5 s5 a5 => ?_⟩
        have n5 : S5 p = none := a5.hid p (by rw [e4]; simp) n4
        have e5 : H5 p = some (.lst ws) := a5.keep p _ n4 e4
        have r2' := (b4.trans a5).rvl r2
        refine ⟨ws, e5, by rw [← r2.length, szl]; exact z5, acc ++ [y], ws ++ [v], S5, (a2.trans (b4.trans a5)).updD hp, s5.updL e5 n5, n5, upd_same, (r2'.append (.cons r5 .nil)).updL e5, q5⟩
end
section
variable {X : Cx} {pos : Pos}
def liftTs (K : PySem.W.Frag) (t : DT) : TT := liftT K t
def dYes : DT := fun _ S Q => Q true S
theorem PTs.imp {ifs : List Expr} {t t' : TT} (p : PTs X ifs t) (h : ∀ σ H Q, t' σ H Q → t σ H Q) : PTs X ifs t' := ⟨fun pins s σ H Q I hw => p.run pins s σ H Q I (h _ _ _ hw)⟩
theorem qts_nil : PTs X [] (liftT X.K dYes) := PTs.imp pts_nil fun σ H Q ⟨δ, S, Q0, hr, hs, h, hq⟩ => hq _ _ _ h hs (.refl _ _)
theorem qts_one {c : Expr} {t : DT} (h : PT X c (liftT X.K t)) : PTs X [c] (liftT X.K t) := pts_one h
theorem qe_lc {elt tg iter : Expr} {ifs : List Expr} {scope : Scope} (own : List (Str × Nat)) {di : DI} {g : DG} {tt : DT} {te : DE} {sl : List Nat} (hc : X.calm = true) (hN : X.N.Nodup) (hi : PI X tg iter (liftI X.K di)) (ok : blkC X.N X.env.scope scope own = true)
    (hsl : ∀ i ∈ sl, i ∈ own.map (·.2))
    (hg : ∀ (s : Shared) (H : Hp) (C : Addr) (cl : List (Str × Addr)) (fp : List Addr), PG (X.blk s H scope (compEnvC scope cl C X.env) fp) tg (liftG X.K sl g))
    (ht : ∀ (s : Shared) (H : Hp) (C : Addr) (cl : List (Str × Addr)) (fp : List Addr), PTs (X.blk s H scope (compEnvC scope cl C X.env) fp) ifs (liftT X.K tt))
    (he : ∀ (s : Shared) (H : Hp) (C : Addr) (cl : List (Str × Addr)) (fp : List Addr), PE (X.blk s H scope (compEnvC scope cl C X.env) fp) elt (liftE X.K te)) (hs : ∀ x, foldedSetIterable iter X.env x = pure x := by intro _; rfl) :
    PE X (.ListComp elt [⟨tg, iter, ifs, 0⟩] scope pos) (liftE X.K (dLc di g tt te (own.map (·.2)))) := PE.imp (pe_lc hc hN hi (blkOk_by ok) hg ht he hs) (lift_lc hsl)
theorem qs_setLc {i : Nat} {y : Str} {py spos : Pos} {elt tg iter : Expr} {ifs : List Expr} {scope : Scope} (own : List (Str × Nat)) {di : DI} {g : DG} {tt : DT} {te : DE} {sl : List Nat} (hc : X.calm = true) (hN : X.N.Nodup) (hy : X.N[i]? = some y) (hyl : X.env.scope.names.lookup y = some .local)
    (hsw : swapsWith (.ListComp elt [⟨tg, iter, ifs, 0⟩] scope pos) (some (.Name y py)) spos.line X.env = pure true) (hi : PI X tg iter (liftI X.K di)) (ok : blkC X.N X.env.scope scope own = true)
    (hsl : ∀ i ∈ sl, i ∈ own.map (·.2))
    (hg : ∀ (s : Shared) (H : Hp) (C : Addr) (cl : List (Str × Addr)) (fp : List Addr), PG (X.blk s H scope (compEnvC scope cl C X.env) fp) tg (liftG X.K sl g))
    (ht : ∀ (s : Shared) (H : Hp) (C : Addr) (cl : List (Str × Addr)) (fp : List Addr), PTs (X.blk s H scope (compEnvC scope cl C X.env) fp) ifs (liftT X.K tt))
    (he : ∀ (s : Shared) (H : Hp) (C : Addr) (cl : List (Str × Addr)) (fp : List Addr), PE (X.blk s H scope (compEnvC scope cl C X.env) fp) elt (liftE X.K te)) (hs : ∀ x, foldedSetIterable iter X.env x = pure x := by intro _; rfl) :
    PS X (.Assign [.Name y py] (.ListComp elt [⟨tg, iter, ifs, 0⟩] scope pos) spos) (liftS X.K (dAsg (dLc di g tt te (own.map (·.2))) (dgName i))) :=
  PS.imp (ps_setLc hc hN hy hyl hsw hi (blkOk_by ok) hg ht he hs) fun E σ H ⟨δ, S, D0, hr, hsim, h, cv⟩ =>
    lift_lc hsl σ H _ ⟨δ, S, _, hr, hsim, h, fun d S1 v H1 h1 r1 s1 a1 => cv.nx _ S1 _ H1 h1 ((hr.stp a1).set r1) s1 a1⟩
/-- two clauses -/
def lcT2 (stay : DS → Prop) (g : DG) (tt : DT) (di1 : DI) (g1 : DG) (tt1 : DT) (te : DE) (δ : Loc) (vs1 : List Nat) (K : List D → DS → Prop) : List D → List D → DS → Prop
  | [], acc, S => stay S ∧ K acc S
  | x :: r, acc, S => stay S ∧ g x δ S fun δ2 S2 => tt δ2 S2 fun b S3 => if b = true then di1 δ2 S3 fun ys stay1 S4 => lcT stay1 g1 tt1 te (dwipe δ2 vs1) (fun acc S => lcT2 stay g tt di1 g1 tt1 te δ vs1 K r acc S) ys acc S4
      else lcT2 stay g tt di1 g1 tt1 te δ vs1 K r acc S3
def dLc2 (di : DI) (g : DG) (tt : DT) (di1 : DI) (g1 : DG) (tt1 : DT) (te : DE) (vs vs1 : List Nat) : DE := fun δ S Q => di δ S fun xs stay S1 => lcT2 stay g tt di1 g1 tt1 te (dwipe δ vs) vs1 (fun ys S2 => ∀ p, S2 p = none → Q (.ref p) (dupd S2 p (.lst ys))) xs [] S1
theorem lift_lc2 {di di1 : DI} {g g1 : DG} {tt tt1 : DT} {te : DE} {sl sl1 vs vs1 : List Nat} (hsl : ∀ i ∈ sl, i ∈ vs) (hsl1 : ∀ i ∈ sl1, i ∈ vs1) : ∀ σ H Q, liftE X.K (dLc2 di g tt di1 g1 tt1 te vs vs1) σ H Q →
    tLc2 (liftI X.K di) (liftG X.K sl g) (liftT X.K tt) (liftI X.K di1) (liftG X.K sl1 g1) (liftT X.K tt1) (liftE X.K te) vs vs1 σ H Q :=
  fun σ H Q ⟨δ, S, Q0, hr, hs, h, hq⟩ => by
    refine ⟨δ, S, _, hr, hs, h, fun xs stay S1 H1 J q1 s1 a1 jok p hp => ?_⟩
    have hp1 : S1 p = none := s1.fresh hp
    let Kd : List D → DS → Prop := fun ys S2 => ∀ p, S2 p = none → Q0 (.ref p) (dupd S2 p (.lst ys))
    refine ⟨fun i m H' => m + i = xs.length ∧ ∃ acc ws S', Stp S1 H1 S' H' ∧ Sim X.K S' H' ∧ S' p = none ∧ H' p = some (.lst ws) ∧ RvL X.K H' acc ws ∧ lcT2 stay g tt di1 g1 tt1 te (dwipe δ vs) vs1 Kd (xs.drop i) acc S',
      ⟨xs.length, by omega, [], [], S1, (Stp.refl _ _).updD hp, s1.laid hp, hp1, upd_same, .nil, by simpa using q1⟩, ?_⟩
    rintro i m H2 ⟨em, acc, ws, S2, a2, s2, n2, e2, r2, h2⟩
    cases hx : xs.drop i with
    | nil =>
      rw [hx] at h2
      have hl : xs.length ≤ i := List.drop_eq_nil_iff.mp hx
      refine .inl ⟨(jok i S2 H2 a2.prs s2 h2.1).1 hl, hq _ _ _ _ (h2.2 p n2) (.ref p) (fun a u e => ?_) ((a1.trans a2).newD ?_)⟩
      · by_cases ha : a = p
        · subst ha; rw [dupd_same] at e; cases e; exact ⟨ws, e2, r2⟩
        · rw [dupd_ne ha] at e; exact s2 a u e
      · cases q : H p with
        | none => rfl
        | some o => exact absurd hp (a1.live p (by rw [q]; simp))
    | cons x r =>
      rw [hx] at h2
      obtain ⟨hg1, hr1, hl⟩ := drop_get hx
      obtain ⟨hgo, hy⟩ := (jok i S2 H2 a2.prs s2 h2.1).2 x hg1
      let Nx : Hp → Prop := fun H' => ∃ acc ws S', Stp S1 H1 S' H' ∧ Sim X.K S' H' ∧ S' p = none ∧ H' p = some (.lst ws) ∧ RvL X.K H' acc ws ∧ lcT2 stay g tt di1 g1 tt1 te (dwipe δ vs) vs1 Kd r acc S'
      refine .inr ⟨hgo, Nx, fun H' ⟨acc, ws, S', h1, h2, h3, h4, h5, h6⟩ => ⟨m - 1, by omega, by omega, acc, ws, S', h1, h2, h3, h4, h5, by rw [← hr1]; exact h6⟩, fun x' H' y => ?_⟩
      obtain ⟨rx, sx, ax⟩ := hy x' H' y
      have hrw : Rst X.K H1 (dwipe δ vs) (L2.wipe σ vs) := (hr.stp a1).wipe
      refine ⟨x, _, S2, _, rx, hrw.stp (a2.trans ax), sx, h2.2, fun δ3 S3 σ3 H3 q3 r3 l3 n3 s3 a3 => ⟨wipe_same (by rw [l3, wipe_length]) n3 hsl, δ3, S3, _, r3, s3, q3, fun b S4 H4 q4 s4 a4 => ?_⟩⟩
      have b4 := (ax.trans a3).trans a4
      have n4 : S4 p = none := b4.hid p (by rw [e2]; simp) n2
      have e4 : H4 p = some (.lst ws) := b4.keep p _ n2 e2
      cases b with
      | false =>
        simp only [Bool.false_eq_true, if_false] at q4 ⊢
        exact ⟨acc, ws, S4, a2.trans b4, s4, n4, e4, b4.rvl r2, q4⟩
      | true =>
        simp only [if_true] at q4 ⊢
        refine ⟨δ3, S4, _, r3.stp a4, s4, q4, fun ys stay1 S5 H5 J1 q5 s5 a5 jok1 => ?_⟩
        have b5 := b4.trans a5
        have n5 : S5 p = none := a5.hid p (by rw [e4]; simp) n4
        have e5 : H5 p = some (.lst ws) := a5.keep p _ n4 e4
        let Kj : List D → DS → Prop := fun acc S => lcT2 stay g tt di1 g1 tt1 te (dwipe δ vs) vs1 Kd r acc S
        refine ⟨fun j k H' => k + j = ys.length ∧ ∃ acc ws S', Stp S1 H1 S' H' ∧ Prs H5 H' ∧ Sim X.K S' H' ∧ S' p = none ∧ H' p = some (.lst ws) ∧ RvL X.K H' acc ws ∧ lcT stay1 g1 tt1 te (dwipe δ3 vs1) Kj (ys.drop j) acc S',
          ⟨ys.length, by omega, acc, ws, S5, a2.trans b5, .refl _, s5, n5, e5, b5.rvl r2, by simpa using q5⟩, ?_⟩
        rintro j k H6 ⟨ek, acc6, ws6, S6, a6, c6, s6, n6, e6, r6, h6⟩
        cases hy : ys.drop j with
        | nil =>
          rw [hy] at h6
          have hl : ys.length ≤ j := List.drop_eq_nil_iff.mp hy
          exact .inl ⟨(jok1 j S6 H6 c6 s6 h6.1).1 hl, acc6, ws6, S6, a6, s6, n6, e6, r6, h6.2⟩
        | cons y ry =>
          rw [hy] at h6
          obtain ⟨hg1, hr1, hl⟩ := drop_get hy
          obtain ⟨hgo, hyy⟩ := (jok1 j S6 H6 c6 s6 h6.1).2 y hg1
          refine .inr ⟨hgo, fun H' => ∃ acc ws S', Stp S1 H1 S' H' ∧ Prs H5 H' ∧ Sim X.K S' H' ∧ S' p = none ∧ H' p = some (.lst ws) ∧ RvL X.K H' acc ws ∧ lcT stay1 g1 tt1 te (dwipe δ3 vs1) Kj ry acc S',
            fun H' ⟨acc, ws, S', h1, h2, h3, h4, h5, h6, h7⟩ => ⟨k - 1, by omega, by omega, acc, ws, S', h1, h2, h3, h4, h5, h6, by rw [← hr1]; exact h7⟩, fun x7 H7 y7 => ?_⟩
          obtain ⟨rx7, s7, a7⟩ := hyy x7 H7 y7
          have hrw1 : Rst X.K H7 (dwipe δ3 vs1) (L2.wipe σ3 vs1) := (((r3.stp (a4.trans a5)).prs c6).stp a7).wipe
          refine ⟨y, _, S6, _, rx7, hrw1, s7, h6.2, fun δ8 S8 σ8 H8 q8 r8 l8 m8 s8 a8 => ⟨wipe_same (by rw [l8, wipe_length]) m8 hsl1, δ8, S8, _, r8, s8, q8, fun b S9 H9 q9 s9 a9 => ?_⟩⟩
          have b9 := (a7.trans a8).trans a9
          have n9 : S9 p = none := b9.hid p (by rw [e6]; simp) n6
          have e9 : H9 p = some (.lst ws6) := b9.keep p _ n6 e6
          cases b with
          | false =>
            simp only [Bool.false_eq_true, if_false] at q9 ⊢
            exact ⟨acc6, ws6, S9, a6.trans b9, c6.trans b9.prs, s9, n9, e9, b9.rvl r6, q9⟩
          | true =>
            simp only [if_true] at q9 ⊢
            refine ⟨δ8, S9, _, r8.stp a9, s9, q9, fun z S10 v H10 ⟨z10, q10⟩ r10 s10 a10 => ?_⟩
            have n10 : S10 p = none := a10.hid p (by rw [e9]; simp) n9
            have e10 : H10 p = some (.lst ws6) := a10.keep p _ n9 e9
            have r6' := (b9.trans a10).rvl r6
            exact ⟨ws6, e10, by rw [← r6.length, szl]; exact z10, acc6 ++ [z], ws6 ++ [v], S10, (a6.trans (b9.trans a10)).updD hp, (c6.trans (b9.trans a10).prs).trans (Prs.updL e10), s10.updL e10 n10, n10, upd_same, (r6'.append (.cons r10 .nil)).updL e10, q10⟩
theorem qe_lc2 {elt tg iter tg1 iter1 : Expr} {ifs ifs1 : List Expr} {scope : Scope} (own : List (Str × Nat)) (vs1 : List Nat) {di di1 : DI} {g g1 : DG} {tt tt1 : DT} {te : DE} {sl sl1 : List Nat} (hc : X.calm = true) (hN : X.N.Nodup) (hi : PI X tg iter (liftI X.K di)) (ok : blkC X.N X.env.scope scope own = true)
    (hv : ∀ i ∈ vs1, i ∈ own.map (·.2)) (hsl : ∀ i ∈ sl, i ∈ own.map (·.2)) (hsl1 : ∀ i ∈ sl1, i ∈ vs1)
    (hg : ∀ (s : Shared) (H : Hp) (C : Addr) (cl : List (Str × Addr)) (fp : List Addr), PG (X.blk s H scope (compEnvC scope cl C X.env) fp) tg (liftG X.K sl g))
    (ht : ∀ (s : Shared) (H : Hp) (C : Addr) (cl : List (Str × Addr)) (fp : List Addr), PTs (X.blk s H scope (compEnvC scope cl C X.env) fp) ifs (liftT X.K tt))
    (hi1 : ∀ (s : Shared) (H : Hp) (C : Addr) (cl : List (Str × Addr)) (fp : List Addr), PI (X.blk s H scope (compEnvC scope cl C X.env) fp) tg1 iter1 (liftI X.K di1))
    (hg1 : ∀ (s : Shared) (H : Hp) (C : Addr) (cl : List (Str × Addr)) (fp : List Addr), PG (X.blk s H scope (compEnvC scope cl C X.env) fp) tg1 (liftG X.K sl1 g1))
    (ht1 : ∀ (s : Shared) (H : Hp) (C : Addr) (cl : List (Str × Addr)) (fp : List Addr), PTs (X.blk s H scope (compEnvC scope cl C X.env) fp) ifs1 (liftT X.K tt1))
    (he : ∀ (s : Shared) (H : Hp) (C : Addr) (cl : List (Str × Addr)) (fp : List Addr), PE (X.blk s H scope (compEnvC scope cl C X.env) fp) elt (liftE X.K te)) (hs : ∀ x, foldedSetIterable iter X.env x = pure x := by intro _; rfl) (hs1 : ∀ env x, foldedSetIterable iter1 env x = pure x := by intro _ _; rfl) :
    PE X (.ListComp elt [⟨tg, iter, ifs, 0⟩, ⟨tg1, iter1, ifs1, 0⟩] scope pos) (liftE X.K (dLc2 di g tt di1 g1 tt1 te (own.map (·.2)) vs1)) := PE.imp (pe_lc2 hc hN hi (blkOk_by ok) hv hg ht hi1 hg1 ht1 he hs hs1) (lift_lc2 hsl hsl1)
theorem qs_setLc2 {i : Nat} {y : Str} {py spos : Pos} {elt tg iter tg1 iter1 : Expr} {ifs ifs1 : List Expr} {scope : Scope} (own : List (Str × Nat)) (vs1 : List Nat) {di di1 : DI} {g g1 : DG} {tt tt1 : DT} {te : DE} {sl sl1 : List Nat} (hc : X.calm = true) (hN : X.N.Nodup) (hy : X.N[i]? = some y) (hyl : X.env.scope.names.lookup y = some .local)
    (hsw : swapsWith (.ListComp elt [⟨tg, iter, ifs, 0⟩, ⟨tg1, iter1, ifs1, 0⟩] scope pos) (some (.Name y py)) spos.line X.env = pure true) (hi : PI X tg iter (liftI X.K di)) (ok : blkC X.N X.env.scope scope own = true)
    (hv : ∀ i ∈ vs1, i ∈ own.map (·.2)) (hsl : ∀ i ∈ sl, i ∈ own.map (·.2)) (hsl1 : ∀ i ∈ sl1, i ∈ vs1)
    (hg : ∀ (s : Shared) (H : Hp) (C : Addr) (cl : List (Str × Addr)) (fp : List Addr), PG (X.blk s H scope (compEnvC scope cl C X.env) fp) tg (liftG X.K sl g))
    (ht : ∀ (s : Shared) (H : Hp) (C : Addr) (cl : List (Str × Addr)) (fp : List Addr), PTs (X.blk s H scope (compEnvC scope cl C X.env) fp) ifs (liftT X.K tt))
    (hi1 : ∀ (s : Shared) (H : Hp) (C : Addr) (cl : List (Str × Addr)) (fp : List Addr), PI (X.blk s H scope (compEnvC scope cl C X.env) fp) tg1 iter1 (liftI X.K di1))
    (hg1 : ∀ (s : Shared) (H : Hp) (C : Addr) (cl : List (Str × Addr)) (fp : List Addr), PG (X.blk s H scope (compEnvC scope cl C X.env) fp) tg1 (liftG X.K sl1 g1))
    (ht1 : ∀ (s : Shared) (H : Hp) (C : Addr) (cl : List (Str × Addr)) (fp : List Addr), PTs (X.blk s H scope (compEnvC scope cl C X.env) fp) ifs1 (liftT X.K tt1))
    (he : ∀ (s : Shared) (H : Hp) (C : Addr) (cl : List (Str × Addr)) (fp : List Addr), PE (X.blk s H scope (compEnvC scope cl C X.env) fp) elt (liftE X.K te)) (hs : ∀ x, foldedSetIterable iter X.env x = pure x := by intro _; rfl) (hs1 : ∀ env x, foldedSetIterable iter1 env x = pure x := by intro _ _; rfl) :
    PS X (.Assign [.Name y py] (.ListComp elt [⟨tg, iter, ifs, 0⟩, ⟨tg1, iter1, ifs1, 0⟩] scope pos) spos) (liftS X.K (dAsg (dLc2 di g tt di1 g1 tt1 te (own.map (·.2)) vs1) (dgName i))) :=
  PS.imp (ps_setLc2 hc hN hy hyl hsw hi (blkOk_by ok) hv hg ht hi1 hg1 ht1 he hs hs1) fun E σ H ⟨δ, S, D0, hr, hsim, h, cv⟩ =>
    lift_lc2 hsl hsl1 σ H _ ⟨δ, S, _, hr, hsim, h, fun d S1 v H1 h1 r1 s1 a1 => cv.nx _ S1 _ H1 h1 ((hr.stp a1).set r1) s1 a1⟩
end
section
variable {X : Cx} {x : Str} {p pos : Pos} {e : Expr} {es : List Expr} {t : DA} {id T : String}
def dCall (c : DF) (t : DA) : DE := fun δ S Q => t δ S fun ds S1 => c ds S1 Q
theorem lift_args {t : DA} {r : DRs} : ∀ σ H Q, liftE X.K (dCall r t) σ H Q → liftA X.K t σ H fun vs H1 => liftC X.K r vs H1 Q :=
  fun σ H Q ⟨δ, S, Q0, hr, hs, h, hq⟩ => ⟨δ, S, _, hr, hs, h, fun ds S1 vs H1 h1 r1 s1 a1 => ⟨ds, S1, _, r1, s1, h1, fun d S' v H' q r s a => hq d S' v H' q r s (a1.trans a)⟩⟩
theorem lift_call {t : DA} {c : DF} {np : Nat} (hn : ∀ ds S Q, c ds S Q → ds.length = np) : ∀ σ H Q, liftE X.K (dCall c t) σ H Q → tCall (liftF X.K np c) [] E0 (liftA X.K t) σ H Q :=
  fun σ H Q ⟨δ, S, Q0, hr, hs, h, hq⟩ => ⟨δ, S, _, hr, hs, h, fun ds S1 vs H1 h1 r1 s1 a1 => by
    show liftF X.K np c (vs ++ []) H1 Q E0
    rw [List.append_nil]
    exact ⟨by rw [← r1.length]; exact hn _ _ _ h1, ds, S1, _, r1, s1, h1, fun d S' v H' q r s a => hq d S' v H' q r s (a1.trans a)⟩⟩
variable {k np : Nat} {f : Addr} {fd : FuncData} {ps : List Str} {c : DF}
theorem qe_call (hn : ∀ ds S Q, c ds S Q → ds.length = np) (F : FnOk X.prog X.w X.K X.mg X.base CX0 k f fd ps (liftF X.K np c)) (hr : Room k X.A) (hg : Gl X x) (hm : X.mg x = some (.ref f)) (hk : PySem.W.keepIn X.K (.ref f) = true) (hb : Binds X.K fd ps [])
    (ha : PA X (e :: es) (liftA X.K t)) (hdb : (x == ("__debug__" : Str)) = false := by decide) (he : starEach (e :: es) X.env = (false, eval e X.env) :: starEach es X.env := by rfl) (hpl : (backTo pos (starEach es X.env)).any (·.1) = false := by rfl) :
    PE X (.Call (.Name x p) (e :: es) [] pos) (liftE X.K (dCall c t)) := PE.imp (pe_call F hr hg hm hk hb .nil pass0 ha hdb he hpl) (lift_call hn)
theorem qe_callB {r : DRs} (hc : CallR X (.builtin id) (liftC X.K r)) (hg : Gl X x) (hm : X.mg x = none) (hv : bootBuiltins x = some (.builtin id)) (ha : PA X (e :: es) (liftA X.K t)) (hn : x ≠ "__name__" := by decide) (hdb : (x == ("__debug__" : Str)) = false := by decide)
    (he : starEach (e :: es) X.env = (false, eval e X.env) :: starEach es X.env := by rfl) (hpl : (backTo pos (starEach es X.env)).any (·.1) = false := by rfl) :
    PE X (.Call (.Name x p) (e :: es) [] pos) (liftE X.K (dCall r t)) := PE.imp (pe_callB hc hg hm hv ha hn hdb he hpl) lift_args
theorem qe_callTy {r : DRs} (hc : CallR X (.type T) (liftC X.K r)) (hg : Gl X x) (hm : X.mg x = none) (hv : bootBuiltins x = some (.type T)) (ha : PA X (e :: es) (liftA X.K t)) (hn : x ≠ "__name__" := by decide) (hdb : (x == ("__debug__" : Str)) = false := by decide)
    (he : starEach (e :: es) X.env = (false, eval e X.env) :: starEach es X.env := by rfl) (hpl : (backTo pos (starEach es X.env)).any (·.1) = false := by rfl) :
    PE X (.Call (.Name x p) (e :: es) [] pos) (liftE X.K (dCall r t)) := PE.imp (pe_callTy hc hg hm hv ha hn hdb he hpl) lift_args
end
end DL
namespace DL
open PySem PySem.Spec PyProof.Rows L2
mutual
def D.py : D → PyData
  | .non => .none | .bl b => .bool b | .int i => .int i | .str x => .str x | .tup xs => .tuple (D.pyL xs) | .fl xs => .list (D.pyL xs) | .ref _ => .dict [] | .ty _ => .dict []
def D.pyL : List D → List PyData
  | [] => []
  | x :: xs => D.py x :: D.pyL xs
end
mutual
/-- no mutable thing within -/
def D.plain : D → Bool
  | .non => true | .bl _ => true | .int _ => true | .str _ => true | .tup xs => D.plainL xs | .fl xs => D.plainL xs | .ref _ => false | .ty _ => false
def D.plainL : List D → Bool
  | [] => true
  | x :: xs => D.plain x && D.plainL xs
end
mutual
def D.dep : D → Nat
  | .non => 0 | .bl _ => 0 | .int _ => 0 | .str _ => 0 | .tup xs => D.depL xs + 1 | .fl xs => D.depL xs + 1 | .ref _ => 0 | .ty _ => 0
def D.depL : List D → Nat
  | [] => 0
  | x :: xs => max (D.dep x) (D.depL xs)
end
theorem D.pyL_map : ∀ xs : List D, D.pyL xs = xs.map D.py
  | [] => rfl
  | x :: xs => by rw [D.pyL, D.pyL_map xs, List.map_cons]
mutual
theorem D.plain_py : ∀ d : D, d.plain = true → d.py.plain = true
  | .non, _ => by rw [D.py, PyData.plain]
  | .bl _, _ => by rw [D.py, PyData.plain]
  | .int _, _ => by rw [D.py, PyData.plain]
  | .str _, _ => by rw [D.py, PyData.plain]
  | .tup xs, h => by rw [D.py, PyData.plain]; exact D.plainL_py xs (by rw [D.plain] at h; exact h)
  | .fl xs, h => by rw [D.py, PyData.plain]; exact D.plainL_py xs (by rw [D.plain] at h; exact h)
  | .ref _, h => by rw [D.plain] at h; cases h
  | .ty _, h => by rw [D.plain] at h; cases h
theorem D.plainL_py : ∀ ds : List D, D.plainL ds = true → PyData.plainAll (D.pyL ds) = true
  | [], _ => by rw [D.pyL, PyData.plainAll]
  | x :: xs, h => by
    rw [D.plainL, Bool.and_eq_true] at h
    rw [D.pyL, PyData.plainAll, D.plain_py x h.1, D.plainL_py xs h.2]
    rfl
end
mutual
theorem D.dep_py : ∀ d : D, d.plain = true → d.py.depth = d.dep
  | .non, _ => by rw [D.py, PyData.depth, D.dep]
  | .bl _, _ => by rw [D.py, PyData.depth, D.dep]
  | .int _, _ => by rw [D.py, PyData.depth, D.dep]
  | .str _, _ => by rw [D.py, PyData.depth, D.dep]
  | .tup xs, h => by rw [D.py, PyData.depth, D.dep, D.depL_py xs (by rw [D.plain] at h; exact h)]
  | .fl xs, h => by rw [D.py, PyData.depth, D.dep, D.depL_py xs (by rw [D.plain] at h; exact h)]
  | .ref _, h => by rw [D.plain] at h; cases h
  | .ty _, h => by rw [D.plain] at h; cases h
theorem D.depL_py : ∀ ds : List D, D.plainL ds = true → PyData.depthAll (D.pyL ds) = D.depL ds
  | [], _ => by rw [D.pyL, PyData.depthAll, D.depL]
  | x :: xs, h => by
    rw [D.plainL, Bool.and_eq_true] at h
    rw [D.pyL, PyData.depthAll, D.depL, D.dep_py x h.1, D.depL_py xs h.2]
end
def D.eqv (a b : D) : Bool := PyData.eqv a.py b.py
/-- a mutable list gives way to what stands in it, n deep -/
def D.rd (S : DS) : Nat → D → D
  | 0, d => d
  | n + 1, .ref a => match S a with
    | some (.lst xs) => .fl (xs.map (D.rd S n))
    | _ => .ref a
  | n + 1, .tup xs => .tup (xs.map (D.rd S n))
  | n + 1, .fl xs => .fl (xs.map (D.rd S n))
  | _ + 1, .non => .non
  | _ + 1, .bl b => .bl b
  | _ + 1, .int i => .int i
  | _ + 1, .str x => .str x
  | _ + 1, .ty n => .ty n
section
variable {K : PySem.W.Frag} {H : Hp} {S : DS}
theorem D.plainL_mem : ∀ {xs : List D}, D.plainL xs = true → ∀ x ∈ xs, x.plain = true
  | [], _, x, h => by cases h
  | y :: ys, h, x, hx => by
    rw [D.plainL, Bool.and_eq_true] at h
    rcases List.mem_cons.mp hx with e | hx
    · rw [e]; exact h.1
    · exact D.plainL_mem h.2 x hx
theorem D.plainL_of : ∀ {xs : List D}, (∀ x ∈ xs, x.plain = true) → D.plainL xs = true
  | [], _ => by rw [D.plainL]
  | y :: ys, h => by rw [D.plainL, h y List.mem_cons_self, D.plainL_of fun x hx => h x (List.mem_cons_of_mem _ hx)]; rfl
theorem D.depL_le {n : Nat} : ∀ {xs : List D}, (∀ x ∈ xs, x.dep ≤ n) → D.depL xs ≤ n
  | [], _ => by rw [D.depL]; exact Nat.zero_le _
  | y :: ys, h => by rw [D.depL]; exact Nat.max_le.mpr ⟨h y List.mem_cons_self, D.depL_le fun x hx => h x (List.mem_cons_of_mem _ hx)⟩
theorem D.depL_mem : ∀ {xs : List D} {x : D}, x ∈ xs → x.dep ≤ D.depL xs
  | y :: ys, x, hx => by
    rw [D.depL]
    rcases List.mem_cons.mp hx with e | hx
    · rw [e]; exact Nat.le_max_left _ _
    · exact Nat.le_trans (D.depL_mem hx) (Nat.le_max_right _ _)
theorem FqL.dp {a : Addr} {vs : List V} (h : FqL K H a vs) {ds : List PyData} (r : DpAll K H vs ds) : Dp K H (.ref a) (.list ds) := .lst h.sq r
mutual
/-- what a value is, as the hand layer's data -/
theorem Rv.dp : ∀ (d : D) (v : V), d.plain = true → Rv K H d v → Dp K H v d.py
  | .non, _, _, r => by cases r; rw [D.py]; exact .non
  | .bl _, _, _, r => by cases r; rw [D.py]; exact .bl _
  | .int _, _, _, r => by cases r; rw [D.py]; exact .int _
  | .str _, _, _, r => by cases r; rw [D.py]; exact .str _
  | .tup ds, _, h, r => by
    cases r with
    | tup q rr => rw [D.py]; exact .tup q (RvL.dp ds _ (by rw [D.plain] at h; exact h) rr)
  | .fl ds, _, h, r => by
    cases r with
    | fl q rr => rw [D.py]; exact q.dp (RvL.dp ds _ (by rw [D.plain] at h; exact h) rr)
  | .ref _, _, h, _ => by rw [D.plain] at h; cases h
  | .ty _, _, h, _ => by rw [D.plain] at h; cases h
theorem RvL.dp : ∀ (ds : List D) (vs : List V), D.plainL ds = true → RvL K H ds vs → DpAll K H vs (D.pyL ds)
  | [], _, _, r => by cases r; rw [D.pyL]; exact .nil
  | d :: ds, _, h, r => by
    rw [D.plainL, Bool.and_eq_true] at h
    cases r with
    | cons q rr => rw [D.pyL]; exact .cons (Rv.dp d _ h.1 q) (RvL.dp ds _ h.2 rr)
end
/-- the same with the lists of the store read -/
theorem Rv.dp_rd (s : Sim K S H) : ∀ (n : Nat) (d : D) (v : V), (d.rd S n).plain = true → Rv K H d v → Dp K H v (d.rd S n).py
  | 0, d, v, h, r => Rv.dp d v h r
  | n + 1, .non, _, h, r => Rv.dp _ _ h r
  | n + 1, .bl _, _, h, r => Rv.dp _ _ h r
  | n + 1, .int _, _, h, r => Rv.dp _ _ h r
  | n + 1, .str _, _, h, r => Rv.dp _ _ h r
  | n + 1, .ty _, _, h, r => by rw [D.rd, D.plain] at h; cases h
  | n + 1, .tup ds, _, h, r => by
    cases r with
    | tup q rr =>
      rw [D.rd, D.plain] at h
      rw [D.rd, D.py]
      refine .tup q ?_
      have all : ∀ (ds : List D) (vs : List V), D.plainL (ds.map (D.rd S n)) = true → RvL K H ds vs → DpAll K H vs (D.pyL (ds.map (D.rd S n))) := by
        intro ds
        induction ds with
        | nil => intro vs h r; cases r; exact .nil
        | cons d ds ih =>
          intro vs h r
          rw [List.map_cons, D.plainL, Bool.and_eq_true] at h
          cases r with
          | cons q rr => rw [List.map_cons, D.pyL]; exact .cons (Rv.dp_rd s n d _ h.1 q) (ih _ h.2 rr)
      exact all ds _ h rr
  | n + 1, .fl ds, _, h, r => by
    cases r with
    | fl q rr =>
      rw [D.rd, D.plain] at h
      rw [D.rd, D.py]
      refine q.dp ?_
      have all : ∀ (ds : List D) (vs : List V), D.plainL (ds.map (D.rd S n)) = true → RvL K H ds vs → DpAll K H vs (D.pyL (ds.map (D.rd S n))) := by
        intro ds
        induction ds with
        | nil => intro vs h r; cases r; exact .nil
        | cons d ds ih =>
          intro vs h r
          rw [List.map_cons, D.plainL, Bool.and_eq_true] at h
          cases r with
          | cons q rr => rw [List.map_cons, D.pyL]; exact .cons (Rv.dp_rd s n d _ h.1 q) (ih _ h.2 rr)
      exact all ds _ h rr
  | n + 1, .ref a, _, h, r => by
    cases r with
    | ref a =>
      cases e : S a with
      | none => rw [D.rd] at h; simp only [e] at h; rw [D.plain] at h; cases h
      | some o =>
        cases o with
        | lst xs =>
          obtain ⟨vs, hv, rr⟩ := s.lst e
          rw [D.rd] at h ⊢
          simp only [e] at h ⊢
          rw [D.plain] at h
          rw [D.py]
          refine .lst (.of hv) ?_
          have all : ∀ (ds : List D) (vs : List V), D.plainL (ds.map (D.rd S n)) = true → RvL K H ds vs → DpAll K H vs (D.pyL (ds.map (D.rd S n))) := by
            intro ds
            induction ds with
            | nil => intro vs h r; cases r; exact .nil
            | cons d ds ih =>
              intro vs h r
              rw [List.map_cons, D.plainL, Bool.and_eq_true] at h
              cases r with
              | cons q rr => rw [List.map_cons, D.pyL]; exact .cons (Rv.dp_rd s n d _ h.1 q) (ih _ h.2 rr)
          exact all xs _ h rr
        | ins _ _ => rw [D.rd] at h; simp only [e] at h; rw [D.plain] at h; cases h
        | dct _ => rw [D.rd] at h; simp only [e] at h; rw [D.plain] at h; cases h
        | dset _ => rw [D.rd] at h; simp only [e] at h; rw [D.plain] at h; cases h
mutual
theorem D.rd_plain : ∀ (d : D) (n : Nat), d.plain = true → d.rd S n = d
  | _, 0, _ => rfl
  | .non, n + 1, _ => rfl
  | .bl _, n + 1, _ => rfl
  | .int _, n + 1, _ => rfl
  | .str _, n + 1, _ => rfl
  | .tup ds, n + 1, h => by rw [D.rd, D.rdL_plain ds n (by rw [D.plain] at h; exact h)]
  | .fl ds, n + 1, h => by rw [D.rd, D.rdL_plain ds n (by rw [D.plain] at h; exact h)]
  | .ref _, _ + 1, h => by rw [D.plain] at h; cases h
  | .ty _, _ + 1, h => by rw [D.plain] at h; cases h
theorem D.rdL_plain : ∀ (ds : List D) (n : Nat), D.plainL ds = true → ds.map (D.rd S n) = ds
  | [], _, _ => rfl
  | d :: ds, n, h => by
    rw [D.plainL, Bool.and_eq_true] at h
    rw [List.map_cons, D.rd_plain d n h.1, D.rdL_plain ds n h.2]
end
end
def lstOf (S : DS) : D → Option (List D)
  | .ref a => match S a with
    | some (.lst xs) => some xs
    | _ => none
  | .fl xs => some xs
  | _ => none
def seqOf (S : DS) : D → Option (List D)
  | .tup xs => some xs
  | .ref a => match S a with
    | some (.lst xs) => some xs
    | _ => none
  | .fl xs => some xs
  | _ => none
section
variable {K : PySem.W.Frag} {H : Hp} {S : DS} {d : D} {v : V} {xs : List D}
theorem lst_of (s : Sim K S H) (r : Rv K H d v) (h : lstOf S d = some xs) : ∃ a vs, v = .ref a ∧ SqL K H a vs ∧ RvL K H xs vs := by
  cases d with
  | ref a =>
    cases r
    rw [lstOf] at h
    split at h
    · rename_i e
      cases h
      obtain ⟨vs, hv, rr⟩ := s.lst e
      exact ⟨a, vs, rfl, .of hv, rr⟩
    · cases h
  | fl ys =>
    cases h
    cases r with
    | fl q rr => exact ⟨_, _, rfl, q.sq, rr⟩
  | _ => cases h
theorem seq_of (s : Sim K S H) (r : Rv K H d v) (h : seqOf S d = some xs) : ∃ a vs, v = .ref a ∧ (SqL K H a vs ∨ SqT K H a vs) ∧ RvL K H xs vs := by
  cases d with
  | ref a =>
    cases r
    rw [seqOf] at h
    split at h
    · rename_i e
      cases h
      obtain ⟨vs, hv, rr⟩ := s.lst e
      exact ⟨a, vs, rfl, .inl (.of hv), rr⟩
    · cases h
  | fl ys =>
    cases h
    cases r with
    | fl q rr => exact ⟨_, _, rfl, .inl q.sq, rr⟩
  | tup ys =>
    cases h
    cases r with
    | tup q rr => exact ⟨_, _, rfl, .inr q, rr⟩
  | _ => cases h
end
def oAdd : DR2 := fun x y S Q => match x, y with
  | .int i, .int j => Q (.int (i + j)) S
  | .int i, .bl k => Q (.int (i + b2i k)) S
  | .str a, .str b => a.length + b.length ≤ 16777216 ∧ Q (.str (a ++ b)) S
  | .tup a, .tup b => a.length + b.length ≤ 16777216 ∧ Q (.tup (a ++ b)) S
  | .ref a, .ref b => match S a, S b with
    | some (.lst xs), some (.lst ys) => xs.length + ys.length ≤ 16777216 ∧ ∀ p, S p = none → Q (.ref p) (dupd S p (.lst (xs ++ ys)))
    | _, _ => False
  | _, _ => False
def oSub : DR2 := fun x y S Q => match x, y with
  | .int i, .int j => Q (.int (i - j)) S
  | _, _ => False
def oMul : DR2 := fun x y S Q => match x, y with
  | .int i, .int j => i.natAbs.log2 + j.natAbs.log2 < 1000000 ∧ Q (.int (i * j)) S
  | .ref a, .int k => match S a with
    | some (.lst xs) => (-(2 ^ 63) ≤ k ∧ k < 2 ^ 63 ∧ xs.length * k.toNat ≤ 16777216) ∧ ∀ p, S p = none → Q (.ref p) (dupd S p (.lst (List.replicate k.toNat xs).flatten))
    | _ => False
  | .tup xs, .int k => (xs ≠ [] ∧ 1 ≤ k ∧ k ≤ 1000 ∧ xs.length ≤ 1000) ∧ Q (.tup (List.replicate k.toNat xs).flatten) S
  | _, _ => False
def oFdv : DR2 := fun x y S Q => match x, y with
  | .int i, .int j => (0 < j ∧ j.natAbs.log2 < 9000) ∧ Q (.int (i / j)) S
  | _, _ => False
def oMod : DR2 := fun x y S Q => match x, y with
  | .int i, .int j => 0 < j ∧ Q (.int (i % j)) S
  | _, _ => False
def oPow : DR2 := fun x y S Q => match x, y with
  | .int i, .int j => (0 ≤ j ∧ j ≤ 1000000 ∧ i.natAbs < 2 ^ 64) ∧ Q (.int (i ^ j.toNat)) S
  | _, _ => False
def oShl : DR2 := fun x y S Q => match x, y with
  | .int i, .int j => (0 ≤ j ∧ j ≤ 1000000 ∧ i.natAbs < 2 ^ 64) ∧ Q (.int (i * 2 ^ j.toNat)) S
  | _, _ => False
def oShr : DR2 := fun x y S Q => match x, y with
  | .int i, .int j => 0 ≤ j ∧ Q (.int (i / 2 ^ j.toNat)) S
  | _, _ => False
def oBit (f : Int → Int → Int) : DR2 := fun x y S Q => match x, y with
  | .int i, .int j => Q (.int (f i j)) S
  | _, _ => False
def uNeg : DR1 := fun x S Q => match x with
  | .int i => Q (.int (-i)) S
  | _ => False
def oEq (neg : Bool) : DR2 := fun x y S Q => ((x.rd S 4).plain = true ∧ (y.rd S 4).plain = true ∧ ((x.rd S 4).dep ≤ 50 ∨ (y.rd S 4).dep ≤ 50)) ∧ Q (.bl (neg ^^ D.eqv (x.rd S 4) (y.rd S 4))) S
/-- what is the same whatever the operator (<, <=, ..) -/
inductive COp where | lt | le | gt | ge
def COp.int : COp → Int → Int → Bool
  | .lt, i, j => decide (i < j) | .le, i, j => decide (i ≤ j) | .gt, i, j => decide (j < i) | .ge, i, j => decide (j ≤ i)
def COp.dat : COp → PyData → PyData → Bool
  | .lt, a, b => PySem.W.dataLt a b | .le, a, b => !PySem.W.dataLt b a | .gt, a, b => PySem.W.dataLt b a | .ge, a, b => !PySem.W.dataLt a b
def COp.op : COp → CmpOp
  | .lt => .Lt | .le => .LtE | .gt => .Gt | .ge => .GtE
def oCmp (o : COp) : DR2 := fun x y S Q => match x, y with
  | .int i, .int j => Q (.bl (o.int i j)) S
  | x, y => (x.plain = true ∧ y.plain = true ∧ PySem.W.alike x.py y.py = true ∧ x.py ≠ .none ∧ x.dep ≤ 50) ∧ Q (.bl (o.dat x.py y.py)) S
def oIs (neg : Bool) : DR2 := fun x y S Q => match y with
  | .non => Q (.bl (match x with | .non => !neg | _ => neg)) S
  | _ => False
def oIn (neg : Bool) : DR2 := fun x y S Q => match seqOf S y with
  | some xs => ((x.rd S 3).plain = true ∧ D.plainL (xs.map (D.rd S 3)) = true ∧ (x.rd S 3).dep ≤ 50) ∧ Q (.bl (neg ^^ (xs.map (D.rd S 3)).any fun e => D.eqv e (x.rd S 3))) S
  | none => False
section
variable {X : Cx}
theorem dl_op {f : Value → Value → Sem Value} {r : DR2}
    (h : ∀ (pins : List (Addr × Obj)) (s : Shared) (σ : L2.St) (H : Hp) (x y : D) (xv yv : V) (v u : Value) (S : DS) (Q : VK) (Q0 : DK), Inv X pins σ H s → RelV xv v → RelV yv u → Rv X.K H x xv → Rv X.K H y yv → Sim X.K S H → r x y S Q0 →
      (∀ d S' v H', Q0 d S' → Rv X.K H' d v → Sim X.K S' H' → Stp S H S' H' → Q v H') → wpAny (model X.prog X.w) X.A (f v u) (EP X pins σ Q) X.xe s) : OpR X f (liftO X.K r) := by
  rintro pins s σ H xv yv v u Q I rx ry ⟨x, y, S, Q0, hx, hy, hs, hr, hq⟩
  exact h pins s σ H x y xv yv v u S Q Q0 I rx ry hx hy hs hr hq
theorem dop_add : OpR X (binaryOp .Add) (liftO X.K oAdd) := dl_op fun pins s σ H x y xv yv v u S Q Q0 I rx ry hx hy hs hr hq => by
  cases x with
  | int i =>
    cases hx
    cases y with
    | int j => cases hy; exact op_add pins s σ H _ _ v u Q I rx ry ⟨i, j, rfl, rfl, hq _ _ _ _ hr (.int _) hs (.refl _ _)⟩
    | bl k => cases hy; exact op_add_ib pins s σ H _ _ v u Q I rx ry ⟨i, k, rfl, rfl, hq _ _ _ _ hr (.int _) hs (.refl _ _)⟩
    | _ => exact hr.elim
  | str a =>
    cases hx
    cases y with
    | str b => cases hy; exact op_add_str pins s σ H _ _ v u Q I rx ry ⟨a, b, rfl, rfl, by rw [szl]; exact hr.1, hq _ _ _ _ hr.2 (.str _) hs (.refl _ _)⟩
    | _ => exact hr.elim
  | tup a =>
    cases y with
    | tup b =>
      cases hx with
      | @tup p vs _ q1 r1 =>
        cases hy with
        | @tup q ws _ q2 r2 =>
          refine op_catA pins s σ H _ _ v u Q I rx ry ⟨p, q, vs, ws, rfl, rfl, q1, q2, by rw [szl, ← r1.length, ← r2.length]; exact hr.1, fun e => ?_, fun e1 e2 => ?_, fun e1 e2 p hp => ?_⟩
          · subst e; cases r1; exact hq _ _ _ _ hr.2 (.tup q2 r2) hs (.refl _ _)
          · subst e2; cases r2
            have hr2 : Q0 (.tup (a ++ [])) S := hr.2
            rw [List.append_nil] at hr2
            exact hq _ _ _ _ hr2 (.tup q1 r1) hs (.refl _ _)
          · exact hq _ _ _ _ hr.2 (.tup (.inl (.inl upd_same)) ((Stp.laid (S := S) hp).rvl (r1.append r2))) (hs.laid hp) (Stp.laid hp)
    | _ => exact hr.elim
  | ref a =>
    cases hx
    cases y with
    | ref b =>
      cases hy
      have hr' : (match S a, S b with
        | some (.lst xs), some (.lst ys) => xs.length + ys.length ≤ 16777216 ∧ ∀ p, S p = none → Q0 (.ref p) (dupd S p (.lst (xs ++ ys)))
        | _, _ => False) := hr
      split at hr'
      · rename_i xs ys ea eb
        obtain ⟨vs, h1, r1⟩ := hs.lst ea
        obtain ⟨ws, h2, r2⟩ := hs.lst eb
        exact op_cat pins s σ H _ _ v u Q I rx ry ⟨a, b, vs, ws, rfl, rfl, h1, h2, by rw [szl, ← r1.length, ← r2.length]; exact hr'.1, fun p hp =>
          hq _ _ _ _ (hr'.2 p (hs.fresh hp)) (.ref p) (hs.new hp ⟨_, upd_same, (Stp.laid (S := S) hp).rvl (r1.append r2)⟩) (Stp.new hp)⟩
      · exact hr'.elim
    | _ => exact hr.elim
  | _ => exact hr.elim
theorem dop_sub : OpR X (binaryOp .Sub) (liftO X.K oSub) := dl_op fun pins s σ H x y xv yv v u S Q Q0 I rx ry hx hy hs hr hq => by
  cases x with
  | int i =>
    cases hx
    cases y with
    | int j => cases hy; exact op_sub pins s σ H _ _ v u Q I rx ry ⟨i, j, rfl, rfl, hq _ _ _ _ hr (.int _) hs (.refl _ _)⟩
    | _ => exact hr.elim
  | _ => exact hr.elim
theorem flatten_rep {K : PySem.W.Frag} {H : Hp} {ds : List D} {vs : List V} (r : RvL K H ds vs) : ∀ n, RvL K H (List.replicate n ds).flatten (List.replicate n vs).flatten
  | 0 => .nil
  | n + 1 => by rw [List.replicate_succ, List.replicate_succ, List.flatten_cons, List.flatten_cons]; exact r.append (flatten_rep r n)
theorem tuple_mul1 (l : Addr) (items : Array Value) (n : Nat) (dd : Option Addr) (sl : Array (Option Value)) (u : Tok) :
    Meets (Builtin.«tuple.__mul__» ⟨[.ref l, .int 1 u], []⟩) (fun _ R s => s.heap.get? l = some { cls := .type "tuple", dict := dd, data := .seq items n, slots := sl } ∧
      R (.ok (.ret (Value.ref l))) s) :=
  .of_wp fun prog w A R s h => by
    obtain ⟨hp, g, d, tk, os⟩ := s
    obtain ⟨hl, h⟩ := h
    have f1 := PySem.AutoSeq1.idx_int
    have c0 : (decide ((1:Int) < -(2 ^ 63)) || decide ((1:Int) ≥ 2 ^ 63)) = false := by decide
    wp_walk using wpAny_loadPart' hl
    exact ⟨_, rfl, h⟩
def rRepT1 (K : PySem.W.Frag) : R2 := fun x y H Q => ∃ l xs, x = .ref l ∧ y = .int 1 ∧ SqT K H l xs ∧ Q (.ref l) H
theorem op_repT1 : OpR X (binaryOp .Mult) (rRepT1 X.K) := by
  intro pins s σ H x y v u Q I rx ry h
  obtain ⟨l, xs, rfl, rfl, hT, q⟩ := h
  cases rx
  obtain ⟨t, rfl⟩ := ry
  obtain ⟨its, r, ⟨⟨cls, dd, data, sl⟩, ho, hc, n, hd⟩, hs⟩ := I.tuple hT
  simp only at hc hd
  subst hc hd
  refine wpAny_binaryOp_repeat_ref (T := "tuple") (U := "int") (by decide) ⟨_, ho, rfl⟩ (fun s' => typeIs_int s' 1 t) noFill_tuple_mul F.fills_int_mul F.slot_int_rmul repeat_tuple F.slot_int_index.lookup
    (call_meets F.slot_int_rmul (typeIs_int s 1 t) F.entry_int_rmul (F.args_int_rmul_2 _ _) (int_rmul_tuple 1 t l its.toArray n dd sl)
      ⟨ho, rfl, ⟨_, ho, rfl⟩, call_meets F.slot_tuple_mul ⟨_, ho, rfl⟩ F.entry_tuple_mul (F.args_tuple_mul_2 _ _) (tuple_mul1 l its.toArray n dd sl t) ⟨ho, ?_⟩⟩)
  exact ⟨.ref l, _, I, rfl, q⟩
theorem dop_mul : OpR X (binaryOp .Mult) (liftO X.K oMul) := dl_op fun pins s σ H x y xv yv v u S Q Q0 I rx ry hx hy hs hr hq => by
  cases x with
  | int i =>
    cases hx
    cases y with
    | int j => cases hy; exact op_mulW pins s σ H _ _ v u Q I rx ry ⟨i, j, rfl, rfl, hr.1, hq _ _ _ _ hr.2 (.int _) hs (.refl _ _)⟩
    | _ => exact hr.elim
  | ref a =>
    cases hx
    cases y with
    | int k =>
      cases hy
      have hr' : (match S a with
        | some (.lst xs) => (-(2 ^ 63) ≤ k ∧ k < 2 ^ 63 ∧ xs.length * k.toNat ≤ 16777216) ∧ ∀ p, S p = none → Q0 (.ref p) (dupd S p (.lst (List.replicate k.toNat xs).flatten))
        | _ => False) := hr
      split at hr'
      · rename_i xs ea
        obtain ⟨vs, h1, r1⟩ := hs.lst ea
        exact op_rep pins s σ H _ _ v u Q I rx ry ⟨a, k, vs, rfl, rfl, h1, hr'.1.1, hr'.1.2.1, by rw [szl, ← r1.length]; exact hr'.1.2.2, fun p hp =>
          hq _ _ _ _ (hr'.2 p (hs.fresh hp)) (.ref p) (hs.new hp ⟨_, upd_same, (Stp.laid (S := S) hp).rvl (flatten_rep r1 _)⟩) (Stp.new hp)⟩
      · exact hr'.elim
    | _ => exact hr.elim
  | tup a =>
    cases y with
    | int k =>
      cases hy
      cases hx with
      | @tup p vs _ q1 r1 =>
        by_cases h1 : k = 1
        · subst h1
          have hr2 : Q0 (.tup (List.replicate 1 a).flatten) S := hr.2
          rw [show (List.replicate 1 a).flatten = a by simp] at hr2
          exact op_repT1 pins s σ H _ _ v u Q I rx ry ⟨p, vs, rfl, rfl, q1, hq _ _ _ _ hr2 (.tup q1 r1) hs (.refl _ _)⟩
        · obtain ⟨⟨c1, c2, c3, c4⟩, hr2⟩ := hr
          have hl := r1.length
          refine op_repT pins s σ H _ _ v u Q I rx ry ⟨p, k, vs, rfl, rfl, q1, fun e => ?_, by omega, c3, by omega, fun p hp => ?_⟩
          · subst e; cases r1; exact c1 rfl
          · exact hq _ _ _ _ hr2 (.tup (.inl (.inl upd_same)) ((Stp.laid (S := S) hp).rvl (flatten_rep r1 _))) (hs.laid hp) (Stp.laid hp)
    | _ => exact hr.elim
  | _ => exact hr.elim
theorem dop_int2 {f : Value → Value → Sem Value} {C : Int → Int → Prop} {g : Int → Int → Int} {r : DR2} (ho : OpR X f (rI C fun i j => .int (g i j)))
    (hr : ∀ x y S Q, r x y S Q → ∃ i j, x = .int i ∧ y = .int j ∧ C i j ∧ Q (.int (g i j)) S) : OpR X f (liftO X.K r) := dl_op fun pins s σ H x y xv yv v u S Q Q0 I rx ry hx hy hs h hq => by
  obtain ⟨i, j, rfl, rfl, c, q⟩ := hr x y S Q0 h
  cases hx
  cases hy
  exact ho pins s σ H _ _ v u Q I rx ry ⟨i, j, rfl, rfl, c, hq _ _ _ _ q (.int _) hs (.refl _ _)⟩
theorem dop_fdv : OpR X (binaryOp .FloorDiv) (liftO X.K oFdv) := dop_int2 op_fdivW fun x y S Q h => by
  cases x with
  | int i =>
    cases y with
    | int j => exact ⟨i, j, rfl, rfl, h.1, h.2⟩
    | _ => exact h.elim
  | _ => exact h.elim
theorem dop_mod : OpR X (binaryOp .Mod) (liftO X.K oMod) := dop_int2 op_mod fun x y S Q h => by
  cases x with
  | int i =>
    cases y with
    | int j => exact ⟨i, j, rfl, rfl, h.1, h.2⟩
    | _ => exact h.elim
  | _ => exact h.elim
theorem dop_pow : OpR X (binaryOp .Pow) (liftO X.K oPow) := dop_int2 op_pow fun x y S Q h => by
  cases x with
  | int i =>
    cases y with
    | int j => exact ⟨i, j, rfl, rfl, h.1, h.2⟩
    | _ => exact h.elim
  | _ => exact h.elim
theorem dop_shl : OpR X (binaryOp .LShift) (liftO X.K oShl) := dop_int2 op_shl fun x y S Q h => by
  cases x with
  | int i =>
    cases y with
    | int j => exact ⟨i, j, rfl, rfl, h.1, h.2⟩
    | _ => exact h.elim
  | _ => exact h.elim
theorem dop_shr : OpR X (binaryOp .RShift) (liftO X.K oShr) := dop_int2 op_shr fun x y S Q h => by
  cases x with
  | int i =>
    cases y with
    | int j => exact ⟨i, j, rfl, rfl, h.1, h.2⟩
    | _ => exact h.elim
  | _ => exact h.elim
theorem dop_int20 {f : Value → Value → Sem Value} {g : Int → Int → Int} {r : DR2} (ho : OpR X f (rI0 fun i j => .int (g i j)))
    (hr : ∀ x y S Q, r x y S Q → ∃ i j, x = .int i ∧ y = .int j ∧ Q (.int (g i j)) S) : OpR X f (liftO X.K r) := dl_op fun pins s σ H x y xv yv v u S Q Q0 I rx ry hx hy hs h hq => by
  obtain ⟨i, j, rfl, rfl, q⟩ := hr x y S Q0 h
  cases hx
  cases hy
  exact ho pins s σ H _ _ v u Q I rx ry ⟨i, j, rfl, rfl, hq _ _ _ _ q (.int _) hs (.refl _ _)⟩
theorem oBit_get {f : Int → Int → Int} (x y : D) (S : DS) (Q : DK) (h : oBit f x y S Q) : ∃ i j, x = .int i ∧ y = .int j ∧ Q (.int (f i j)) S := by
  cases x with
  | int i =>
    cases y with
    | int j => exact ⟨i, j, rfl, rfl, h⟩
    | _ => exact h.elim
  | _ => exact h.elim
theorem dop_and : OpR X (binaryOp .BitAnd) (liftO X.K (oBit Builtin.bitAnd)) := dop_int20 op_and oBit_get
theorem dop_or : OpR X (binaryOp .BitOr) (liftO X.K (oBit Builtin.bitOr)) := dop_int20 op_or oBit_get
theorem dop_xor : OpR X (binaryOp .BitXor) (liftO X.K (oBit Builtin.bitXor)) := dop_int20 op_xor oBit_get
theorem dip_add : OpR X (inplaceOp .Add) (liftO X.K (oBit (· + ·))) := dop_int20 iop_add oBit_get
theorem dip_sub : OpR X (inplaceOp .Sub) (liftO X.K (oBit (· - ·))) := dop_int20 iop_sub oBit_get
theorem dip_and : OpR X (inplaceOp .BitAnd) (liftO X.K (oBit Builtin.bitAnd)) := dop_int20 iop_and oBit_get
theorem dip_or : OpR X (inplaceOp .BitOr) (liftO X.K (oBit Builtin.bitOr)) := dop_int20 iop_or oBit_get
theorem dun_neg : UnR X (unaryOp .USub) (liftU X.K uNeg) := by
  rintro pins s σ H xv v Q I rx ⟨x, S, Q0, hx, hs, hr, hq⟩
  cases x with
  | int i => cases hx; exact un_neg pins s σ H _ v Q I rx ⟨i, rfl, hq _ _ _ _ hr (.int _) hs (.refl _ _)⟩
  | _ => exact hr.elim
theorem Rv.reads {pins : List (Addr × Obj)} {σ : L2.St} {H : Hp} {s : Shared} {S : DS} {d : D} {v : V} {u : Value} (I : Inv X pins σ H s) (hs : Sim X.K S H) (n : Nat) (hp : (d.rd S n).plain = true) (r : Rv X.K H d v) (ru : RelV v u) : ∃ as, Reads s.heap u (d.rd S n).py as :=
  Dp.reads I _ _ _ (Rv.dp_rd hs n d v hp r) ru
theorem dop_eq (hu : X.A.units + 100 < cLine) : OpR X (compareOp .Eq) (liftO X.K (oEq false)) := dl_op fun pins s σ H x y xv yv v u S Q Q0 I rx ry hx hy hs hr hq => by
  obtain ⟨⟨hp1, hp2, hd⟩, hr⟩ := hr
  obtain ⟨as, q1⟩ := Rv.reads I hs 4 hp1 hx rx
  obtain ⟨bs, q2⟩ := Rv.reads I hs 4 hp2 hy ry
  refine PySem.SeqAt.eq_plain q1 q2 (D.plain_py _ hp1) (D.plain_py _ hp2) ?_ ⟨.bl _, H, I, rfl, hq _ _ _ _ hr (by rw [Bool.false_xor]; exact .bl _) hs (.refl _ _)⟩
  rw [D.dep_py _ hp1, D.dep_py _ hp2]
  omega
theorem dop_ne (hu : X.A.units + 100 < cLine) : OpR X (compareOp .NotEq) (liftO X.K (oEq true)) := dl_op fun pins s σ H x y xv yv v u S Q Q0 I rx ry hx hy hs hr hq => by
  obtain ⟨⟨hp1, hp2, hd⟩, hr⟩ := hr
  obtain ⟨as, q1⟩ := Rv.reads I hs 4 hp1 hx rx
  obtain ⟨bs, q2⟩ := Rv.reads I hs 4 hp2 hy ry
  refine PySem.SeqAt.ne_plain q1 q2 (D.plain_py _ hp1) (D.plain_py _ hp2) ?_ ⟨.bl _, H, I, rfl, hq _ _ _ _ hr (by rw [Bool.true_xor]; exact .bl _) hs (.refl _ _)⟩
  rw [D.dep_py _ hp1, D.dep_py _ hp2]
  omega
theorem dop_cmp (hu : X.A.units + 100 < cLine) (o : COp) : OpR X (compareOp o.op) (liftO X.K (oCmp o)) := dl_op fun pins s σ H x y xv yv v u S Q Q0 I rx ry hx hy hs hr hq => by
  have gen : (x.plain = true ∧ y.plain = true ∧ PySem.W.alike x.py y.py = true ∧ x.py ≠ .none ∧ x.dep ≤ 50) ∧ Q0 (.bl (o.dat x.py y.py)) S → wpAny (model X.prog X.w) X.A (compareOp o.op v u) (EP X pins σ Q) X.xe s := by
    rintro ⟨⟨hp1, hp2, ha, hn, hd⟩, hr⟩
    obtain ⟨as, q1⟩ := Dp.reads I _ _ _ (Rv.dp x xv hp1 hx) rx
    obtain ⟨bs, q2⟩ := Dp.reads I _ _ _ (Rv.dp y yv hp2 hy) ry
    have hdep : X.A.units + min x.py.depth y.py.depth < cLine := by rw [D.dep_py _ hp1]; omega
    have fin : EP X pins σ Q (.bool (o.dat x.py y.py)) s := ⟨.bl _, H, I, rfl, hq _ _ _ _ hr (.bl _) hs (.refl _ _)⟩
    cases o with
    | lt => exact PySem.W.lt_data q1 q2 ha hn hdep fin
    | le => exact PySem.W.le_data q1 q2 ha hn hdep fin
    | gt => exact PySem.W.gt_data q1 q2 ha hn hdep fin
    | ge => exact PySem.W.ge_data q1 q2 ha hn hdep fin
  cases x with
  | int i =>
    cases y with
    | int j =>
      cases hx
      cases hy
      have fin := hq _ _ _ _ hr (.bl _) hs (.refl _ _)
      cases o with
      | lt => exact op_lt pins s σ H _ _ v u Q I rx ry ⟨i, j, rfl, rfl, fin⟩
      | le => exact op_le pins s σ H _ _ v u Q I rx ry ⟨i, j, rfl, rfl, fin⟩
      | gt => exact op_gt pins s σ H _ _ v u Q I rx ry ⟨i, j, rfl, rfl, fin⟩
      | ge => exact op_ge pins s σ H _ _ v u Q I rx ry ⟨i, j, rfl, rfl, fin⟩
    | _ => exact gen hr
  | _ => exact gen hr
theorem dop_is : OpR X (compareOp .Is) (liftO X.K (oIs false)) := dl_op fun pins s σ H x y xv yv v u S Q Q0 I rx ry hx hy hs hr hq => by
  cases y with
  | non =>
    cases hy
    refine op_isN pins s σ H _ _ v u Q I rx ry ⟨rfl, ?_⟩
    cases hx <;> exact hq _ _ _ _ hr (.bl _) hs (.refl _ _)
  | _ => exact hr.elim
theorem dop_isnot : OpR X (compareOp .IsNot) (liftO X.K (oIs true)) := dl_op fun pins s σ H x y xv yv v u S Q Q0 I rx ry hx hy hs hr hq => by
  cases y with
  | non =>
    cases hy
    refine op_notN pins s σ H _ _ v u Q I rx ry ⟨rfl, ?_⟩
    cases hx <;> exact hq _ _ _ _ hr (.bl _) hs (.refl _ _)
  | _ => exact hr.elim
theorem any_py (d : D) : ∀ xs : List D, ((D.pyL xs).any fun y => PyData.eqv y d.py) = xs.any fun e => D.eqv e d
  | [] => rfl
  | x :: xs => by rw [D.pyL, List.any_cons, List.any_cons, any_py d xs]; rfl
theorem rd_seq {K : PySem.W.Frag} {H : Hp} {S : DS} {y : D} {yv : V} {xs : List D} (hs : Sim K S H) (hy : Rv K H y yv) (e : seqOf S y = some xs) (hp : D.plainL (xs.map (D.rd S 3)) = true) :
    Dp K H yv (.list (D.pyL (xs.map (D.rd S 3)))) ∨ Dp K H yv (.tuple (D.pyL (xs.map (D.rd S 3)))) := by
  cases y with
  | tup zs =>
    cases e
    have := Rv.dp_rd hs 4 (.tup xs) yv (by rw [D.rd, D.plain]; exact hp) hy
    rw [D.rd, D.py] at this
    exact .inr this
  | fl zs =>
    cases e
    have := Rv.dp_rd hs 4 (.fl xs) yv (by rw [D.rd, D.plain]; exact hp) hy
    rw [D.rd, D.py] at this
    exact .inl this
  | ref a =>
    rw [seqOf] at e
    split at e
    · rename_i ea
      cases e
      have e4 : D.rd S 4 (.ref a) = .fl (xs.map (D.rd S 3)) := by rw [D.rd, ea]
      have := Rv.dp_rd hs 4 (.ref a) yv (by rw [e4, D.plain]; exact hp) hy
      rw [e4, D.py] at this
      exact .inl this
    · cases e
  | _ => cases e
theorem dop_in (hu : X.A.units + 100 < cLine) : OpR X (compareOp .In) (liftO X.K (oIn false)) := dl_op fun pins s σ H x y xv yv v u S Q Q0 I rx ry hx hy hs hr hq => by
  rw [oIn] at hr
  split at hr
  · rename_i xs e
    obtain ⟨⟨hp1, hp2, hd⟩, hr⟩ := hr
    obtain ⟨as, q1⟩ := Rv.reads I hs 3 hp1 hx rx
    have fin : EP X pins σ Q (.bool ((D.pyL (xs.map (D.rd S 3))).any fun e => PyData.eqv e (x.rd S 3).py)) s := ⟨.bl _, H, I, rfl, hq _ _ _ _ hr (by rw [Bool.false_xor, any_py]; exact .bl _) hs (.refl _ _)⟩
    have hdep : X.A.units + 1 + min (PyData.depthAll (D.pyL (xs.map (D.rd S 3)))) (x.rd S 3).py.depth < cLine := by rw [D.dep_py _ hp1]; omega
    rcases rd_seq hs hy e hp2 with q | q
    · obtain ⟨bs, q2⟩ := Dp.reads I _ _ _ q ry
      exact PySem.SeqAt.in_list_data q2 q1 (D.plainL_py _ hp2) (D.plain_py _ hp1) hdep fin
    · obtain ⟨bs, q2⟩ := Dp.reads I _ _ _ q ry
      exact PySem.SeqAt.in_tuple_data q2 q1 (D.plainL_py _ hp2) (D.plain_py _ hp1) hdep fin
  · exact hr.elim
theorem dop_notin (hu : X.A.units + 100 < cLine) : OpR X (compareOp .NotIn) (liftO X.K (oIn true)) := dl_op fun pins s σ H x y xv yv v u S Q Q0 I rx ry hx hy hs hr hq => by
  rw [oIn] at hr
  split at hr
  · rename_i xs e
    obtain ⟨⟨hp1, hp2, hd⟩, hr⟩ := hr
    obtain ⟨as, q1⟩ := Rv.reads I hs 3 hp1 hx rx
    have fin : EP X pins σ Q (.bool (!(D.pyL (xs.map (D.rd S 3))).any fun e => PyData.eqv e (x.rd S 3).py)) s := ⟨.bl _, H, I, rfl, hq _ _ _ _ hr (by rw [Bool.true_xor, any_py]; exact .bl _) hs (.refl _ _)⟩
    have hdep : X.A.units + 1 + min (PyData.depthAll (D.pyL (xs.map (D.rd S 3)))) (x.rd S 3).py.depth < cLine := by rw [D.dep_py _ hp1]; omega
    rcases rd_seq hs hy e hp2 with q | q
    · obtain ⟨bs, q2⟩ := Dp.reads I _ _ _ q ry
      exact PySem.SeqAt.notIn_list_data q2 q1 (D.plainL_py _ hp2) (D.plain_py _ hp1) hdep fin
    · obtain ⟨bs, q2⟩ := Dp.reads I _ _ _ q ry
      exact PySem.SeqAt.notIn_tuple_data q2 q1 (D.plainL_py _ hp2) (D.plain_py _ hp1) hdep fin
  · exact hr.elim
end
def oIx : DR2 := fun x y S Q => match y with
  | .int i => match x with
    | .str z => z.length ≤ 16777216 ∧ match atI z.cps.toList i with
      | some c => Q (.str ⟨#[c]⟩) S
      | none => False
    | x => match seqOf S x with
      | some xs => match atI xs i with
        | some d => Q d S
        | none => False
      | none => False
  | _ => False
theorem RvL.atI {K : PySem.W.Frag} {H : Hp} {ds : List D} {vs : List V} {i : Int} {d : D} (r : RvL K H ds vs) (h : L2.atI ds i = some d) : ∃ v, L2.atI vs i = some v ∧ Rv K H d v := by
  unfold L2.atI at h ⊢
  rw [← r.length]
  cases e : ixN ds.length i with
  | none => rw [e] at h; cases h
  | some j =>
    rw [e] at h
    exact r.get h
section
variable {X : Cx} {e a b : Expr} {te ta tb : DE} {pos p2 : Pos}
theorem dix : IxR X (liftO X.K oIx) := by
  rintro value slice pins s σ H xv yv v u Q I rx ry ⟨x, y, S, Q0, hx, hy, hs, hr, hq⟩ hsub
  cases y with
  | int i =>
    cases hy
    have seq : ∀ xs d, seqOf S x = some xs → L2.atI xs i = some d → Q0 d S → wpAny (model X.prog X.w) X.A (subscriptTail value slice v u) (EP X pins σ Q) X.xe s := fun xs d e1 e2 q => by
      obtain ⟨p, vs, rfl, hv, r⟩ := seq_of hs hx e1
      obtain ⟨w, h1, h2⟩ := r.atI e2
      rcases hv with hv | hv
      · exact ix_list value slice pins s σ H _ _ v u Q I rx ry ⟨p, vs, i, w, rfl, rfl, hv, h1, hq d S w H q h2 hs (.refl _ _)⟩ hsub
      · exact ix_tup value slice pins s σ H _ _ v u Q I rx ry ⟨p, vs, i, w, rfl, rfl, hv, h1, hq d S w H q h2 hs (.refl _ _)⟩ hsub
    have gen : (match seqOf S x with
      | some xs => match L2.atI xs i with
        | some d => Q0 d S
        | none => False
      | none => False) → wpAny (model X.prog X.w) X.A (subscriptTail value slice v u) (EP X pins σ Q) X.xe s := fun h => by
      split at h
      · rename_i xs e1
        split at h
        · rename_i d e2
          exact seq xs d e1 e2 h
        · exact h.elim
      · exact h.elim
    cases x with
    | str z =>
      cases hx
      have hr' : z.length ≤ 16777216 ∧ (match L2.atI z.cps.toList i with
        | some c => Q0 (.str ⟨#[c]⟩) S
        | none => False) := hr
      obtain ⟨hz, hr'⟩ := hr'
      split at hr'
      · rename_i c e1
        exact ix_str value slice pins s σ H _ _ v u Q I rx ry ⟨z, i, c, rfl, rfl, by rw [szl]; exact hz, e1, hq _ S _ H hr' (.str _) hs (.refl _ _)⟩ hsub
      · exact hr'.elim
    | _ => exact gen hr
  | _ => exact hr.elim
theorem qe_ix (ha : PE X a (liftE X.K ta)) (hb : PE X b (liftE X.K tb)) (hs : PlainIx b) : PE X (.Subscript a b pos) (liftE X.K (dOp oIx ta tb)) := PE.imp (pe_ix dix ha hb hs) lift_op
abbrev DO' := Loc → DS → (Option Int → DS → Prop) → Prop
def liftP (K : PySem.W.Frag) (t : DO') : TO := fun σ H Q => ∃ δ S Q0, Rst K H δ σ ∧ Sim K S H ∧ t δ S Q0 ∧ ∀ o S' H', Q0 o S' → Sim K S' H' → Stp S H S' H' → Q o H'
def dNoPart : DO' := fun _ S Q => Q none S
def dPart (t : DE) : DO' := fun δ S Q => t δ S fun x S1 => match x with
  | .int i => Q (some i) S1
  | _ => False
theorem PO.imp {e : Option Expr} {t t' : TO} (p : PO X e t) (h : ∀ σ H Q, t' σ H Q → t σ H Q) : PO X e t' := ⟨fun pins s σ H Q I hw => p.run pins s σ H Q I (h _ _ _ hw)⟩
theorem qo_none : PO X none (liftP X.K dNoPart) := PO.imp po_none fun σ H Q ⟨δ, S, Q0, hr, hs, h, hq⟩ => hq _ _ _ h hs (.refl _ _)
theorem qo_some (h : PE X e (liftE X.K te)) : PO X (some e) (liftP X.K (dPart te)) := PO.imp (po_some h) fun σ H Q ⟨δ, S, Q0, hr, hs, h, hq⟩ => ⟨δ, S, _, hr, hs, h, fun x S1 v H1 q r s1 a1 => by
  cases x with
  | int i => cases r; exact ⟨i, rfl, hq _ _ _ q s1 a1⟩
  | _ => exact q.elim⟩
def dcut {α : Type} (xs : List α) (lo hi : Option Int) : List α := (xs.drop (HT.sIx xs.length 0 lo)).take (HT.sIx xs.length xs.length hi - HT.sIx xs.length 0 lo)
theorem RvL.cut {K : PySem.W.Frag} {H : Hp} {ds : List D} {vs : List V} {lo hi : Option Int} (r : RvL K H ds vs) : RvL K H (dcut ds lo hi) (cutV vs lo hi) := by
  unfold dcut cutV
  rw [← r.length]
  exact (r.drop _).take _
def oSl (x : D) (lo hi : Option Int) (S : DS) (Q : DK) : Prop := match x with
  | .tup xs => Q (.tup (dcut xs lo hi)) S
  | .str z => z.length ≤ 16777216 ∧ Q (.str (cutS z lo hi)) S
  | x => match lstOf S x with
    | some xs => ∀ p, S p = none → Q (.ref p) (dupd S p (.lst (dcut xs lo hi)))
    | none => False
def liftSl (K : PySem.W.Frag) : V → Option Int → Option Int → Hp → VK → Prop := fun x lo hi H Q => ∃ d S Q0, Rv K H d x ∧ Sim K S H ∧ oSl d lo hi S Q0 ∧ ∀ d S' v H', Q0 d S' → Rv K H' d v → Sim K S' H' → Stp S H S' H' → Q v H'
theorem cut_whole {α : Type} {xs : List α} {lo hi : Option Int} (h : HT.sIx xs.length 0 lo = 0 ∧ HT.sIx xs.length xs.length hi = xs.length) : dcut xs lo hi = xs := by
  unfold dcut
  rw [h.1, h.2]
  simp
theorem dsl : SlR X (liftSl X.K) := by
  rintro pins s σ H xv v vl vu lo hi sl Q I rx hsl pl pu ⟨d, S, Q0, hd, hs, hr, hq⟩
  have lst : ∀ xs, lstOf S d = some xs → (∀ p, S p = none → Q0 (.ref p) (dupd S p (.lst (dcut xs lo hi)))) →
      ∃ T id, typeLookup (.type T) "__getitem__" = pure (some (.builtin id)) ∧ s.TypeIs v T ∧ wpAny (model X.prog X.w) X.A (getItem v (.ref sl)) (EP X pins σ Q) X.xe s := fun xs e h => by
    obtain ⟨a, vs, rfl, hv, r⟩ := lst_of hs hd e
    exact sl_list pins s σ H _ v vl vu lo hi sl Q I rx hsl pl pu ⟨a, vs, rfl, hv, fun p hp => hq _ _ _ _ (h p (hs.fresh hp)) (.ref p) (hs.new hp ⟨_, upd_same, (Stp.laid (S := S) hp).rvl r.cut⟩) (Stp.new hp)⟩
  cases d with
  | tup xs =>
    cases hd with
    | @tup a vs _ q r =>
      refine sl_tupA pins s σ H _ v vl vu lo hi sl Q I rx hsl pl pu ⟨a, vs, rfl, q, fun w => ?_, fun w p hp => ?_⟩
      · rw [← r.length] at w
        have hr' : Q0 (.tup (dcut xs lo hi)) S := hr
        rw [cut_whole w] at hr'
        exact hq _ _ _ _ hr' (.tup q r) hs (.refl _ _)
      · exact hq _ _ _ _ hr (.tup (.inl (.inl upd_same)) ((Stp.laid (S := S) hp).rvl r.cut)) (hs.laid hp) (Stp.laid hp)
  | str z =>
    cases hd
    exact sl_str pins s σ H _ v vl vu lo hi sl Q I rx hsl pl pu ⟨z, rfl, by rw [szl]; exact hr.1, hq _ _ _ _ hr.2 (.str _) hs (.refl _ _)⟩
  | ref a =>
    have hr' : (match lstOf S (.ref a) with
      | some xs => ∀ p, S p = none → Q0 (.ref p) (dupd S p (.lst (dcut xs lo hi)))
      | none => False) := hr
    split at hr'
    · rename_i xs e; exact lst xs e hr'
    · exact hr'.elim
  | fl xs => exact lst xs rfl hr
  | _ => exact hr.elim
def dSl (te : DE) (lo hi : DO') : DE := fun δ S Q => te δ S fun x S1 => lo δ S1 fun l S2 => hi δ S2 fun u S3 => oSl x l u S3 Q
theorem qe_slice {lo hi : Option Expr} {tl th : DO'} (he : PE X e (liftE X.K te)) (hl : PO X lo (liftP X.K tl)) (hu : PO X hi (liftP X.K th)) : PE X (.Subscript e (.Slice lo hi none p2) pos) (liftE X.K (dSl te tl th)) :=
  PE.imp (pe_slice dsl he hl hu) fun σ H Q ⟨δ, S, Q0, hr, hs, h, hq⟩ => ⟨δ, S, _, hr, hs, h, fun x S1 v H1 h1 r1 s1 a1 => ⟨δ, S1, _, hr.stp a1, s1, h1, fun l S2 H2 h2 s2 a2 => ⟨δ, S2, _, hr.stp (a1.trans a2), s2, h2, fun u S3 H3 h3 s3 a3 =>
    ⟨x, S3, _, (a2.trans a3).rv r1, s3, h3, fun d S' v H' q r s a => hq d S' v H' q r s (((a1.trans a2).trans a3).trans a)⟩⟩⟩⟩
/-- xs[i] = v -/
def sIx : DSet := fun o i v S Q => match o, i with
  | .ref a, .int k => match S a with
    | some (.lst xs) => match ixN xs.length k with
      | some j => Q (dupd S a (.lst (xs.set j v)))
      | none => False
    | _ => False
  | _, _ => False
theorem dset_ix : PSet X (liftSet X.K sIx) := by
  rintro pins s σ H o i v ov iv u Q I ro ri rv ⟨od, id, vd, S, Q0, ho, hi, hv, hs, hr, hq⟩
  cases od with
  | ref a =>
    cases ho
    cases id with
    | int k =>
      cases hi
      have hr' : (match S a with
        | some (.lst xs) => match ixN xs.length k with
          | some j => Q0 (dupd S a (.lst (xs.set j vd)))
          | none => False
        | _ => False) := hr
      split at hr'
      · rename_i xs ea
        split at hr'
        · rename_i j ej
          obtain ⟨vs, h1, r⟩ := hs.lst ea
          refine set_list pins s σ H _ _ v ov iv u Q I ro ri rv ⟨a, vs, k, j, rfl, rfl, h1, by rw [← r.length]; exact ej, hq _ _ hr' (hs.write ea ⟨_, upd_same, ?_⟩) (Stp.write hs ea)⟩
          exact RvL.updL h1 (r.set hv j)
        · exact hr'.elim
      · exact hr'.elim
    | _ => exact hr.elim
  | _ => exact hr.elim
end
def lenOf (S : DS) : D → Option Nat
  | .str z => if z.length ≤ 16777216 then some z.length else none
  | d => (seqOf S d).map (·.length)
def bLen : DRs := fun ds S Q => match ds with
  | [d] => match lenOf S d with
    | some n => Q (.int n) S
    | none => False
  | _ => False
def bInt : DRs := fun ds S Q => match ds with
  | [.int i] => Q (.int i) S
  | [.bl k] => Q (.int (if k then 1 else 0)) S
  | _ => False
def bAbs : DRs := fun ds S Q => match ds with
  | [.int i] => Q (.int (if i < 0 then -i else i)) S
  | _ => False
def bMax2 : DRs := fun ds S Q => match ds with
  | [.int i, .int j] => Q (.int (if j > i then j else i)) S
  | _ => False
def bMin2 : DRs := fun ds S Q => match ds with
  | [.int i, .int j] => Q (.int (if j < i then j else i)) S
  | _ => False
def bList : DRs := fun ds S Q => match ds with
  | [d] => match seqOf S d with
    | some xs => ∀ p, S p = none → Q (.ref p) (dupd S p (.lst xs))
    | none => False
  | _ => False
def bTuple : DRs := fun ds S Q => match ds with
  | [d] => match seqOf S d with
    | some xs => Q (.tup xs) S
    | none => False
  | _ => False
def tyName (S : DS) : D → Option String
  | .non => some "NoneType" | .bl _ => some "bool" | .int _ => some "int" | .str _ => some "str" | .tup _ => some "tuple" | .fl _ => some "list" | .ty _ => none
  | .ref a => match S a with
    | some (.lst _) => some "list"
    | _ => none
def isi (t T : String) : Bool := t == T || (t == "bool" && T == "int")
def knownTy (t : String) : Bool := t == "bool" || t == "int" || t == "str" || t == "tuple" || t == "list"
def bIsi : DRs := fun ds S Q => match ds with
  | [x, .ty T] => match tyName S x with
    | some t => knownTy T = true ∧ Q (.bl (isi t T)) S
    | none => False
  | [x, .tup [.ty T, .ty U]] => match tyName S x with
    | some t => (knownTy T = true ∧ knownTy U = true) ∧ Q (.bl (isi t T || isi t U)) S
    | none => False
  | _ => False
def dle (a b : D) : Bool := PySem.W.dataLe false D.py a b
def bSorted : DRs := fun ds S Q => match ds with
  | [d] => match lstOf S d with
    | some xs => ((∀ x ∈ xs, x.plain = true ∧ x.dep ≤ 50) ∧ PySem.W.AllAlike (xs.map D.py) ∧ PySem.W.Sortable (xs.map D.py)) ∧ ∀ p, S p = none → Q (.ref p) (dupd S p (.lst (xs.mergeSort dle)))
    | none => False
  | _ => False
def bSum : DRs := fun ds S Q => match ds with
  | [d] => match lstOf S d with
    | some xs => ∃ ns : List Int, xs = ns.map D.int ∧ Q (.int ns.sum) S
    | none => False
  | _ => False
def bAny : DRs := fun ds S Q => match ds with
  | [d] => match lstOf S d with
    | some xs => ∃ bs : List Bool, xs = bs.map D.bl ∧ Q (.bl (bs.any id)) S
    | none => False
  | _ => False
def bAll : DRs := fun ds S Q => match ds with
  | [d] => match lstOf S d with
    | some xs => ∃ bs : List Bool, xs = bs.map D.bl ∧ Q (.bl (bs.all id)) S
    | none => False
  | _ => False
section
variable {X : Cx}
theorem dl_call {f : Value} {r : DRs}
    (h : ∀ (pins : List (Addr × Obj)) (s : Shared) (σ : L2.St) (H : Hp) (ds : List D) (xs : List V) (us : List Value) (S : DS) (Q : VK) (Q0 : DK), Inv X pins σ H s → Vals xs us → RvL X.K H ds xs → Sim X.K S H → r ds S Q0 →
      (∀ d S' v H', Q0 d S' → Rv X.K H' d v → Sim X.K S' H' → Stp S H S' H' → Q v H') → wpAny (model X.prog X.w) X.A (call f us) (EP X pins σ Q) X.xe s) : CallR X f (liftC X.K r) := by
  rintro pins s σ H xs us Q I rx ⟨ds, S, Q0, hx, hs, hr, hq⟩
  exact h pins s σ H ds xs us S Q Q0 I rx hx hs hr hq
theorem RvL.one {K : PySem.W.Frag} {H : Hp} {d : D} {vs : List V} (r : RvL K H [d] vs) : ∃ v, vs = [v] ∧ Rv K H d v := by
  cases r with
  | cons q rr => cases rr; exact ⟨_, rfl, q⟩
theorem RvL.two {K : PySem.W.Frag} {H : Hp} {d e : D} {vs : List V} (r : RvL K H [d, e] vs) : ∃ v w, vs = [v, w] ∧ Rv K H d v ∧ Rv K H e w := by
  cases r with
  | cons q rr =>
    obtain ⟨w, rfl, q2⟩ := rr.one
    exact ⟨_, w, rfl, q, q2⟩
theorem dcall_len : CallR X (.builtin "len") (liftC X.K bLen) := dl_call fun pins s σ H ds xs us S Q Q0 I ru rv hs hr hq => by
  match ds, hr, rv with
  | [d], hr, rv =>
    obtain ⟨v, rfl, rd⟩ := rv.one
    have hr' : (match lenOf S d with
      | some n => Q0 (.int n) S
      | none => False) := hr
    split at hr'
    · rename_i n e
      have seq : (seqOf S d).map (·.length) = some n → wpAny (model X.prog X.w) X.A (call (.builtin "len") us) (EP X pins σ Q) X.xe s := fun e => by
        obtain ⟨zs, e1, e2⟩ := Option.map_eq_some_iff.mp e
        obtain ⟨a, ws, rfl, hv, r⟩ := seq_of hs rd e1
        refine call_len_seq pins s σ H _ us Q I ru ⟨a, ws, rfl, hv, hq _ _ _ _ hr' ?_ hs (.refl _ _)⟩
        rw [← e2, r.length]; exact .int _
      cases d with
      | str z =>
        cases rd
        rw [lenOf] at e
        split at e
        · rename_i hz
          cases e
          exact call_len_str pins s σ H _ us Q I ru ⟨z, rfl, by rw [szl]; exact hz, hq _ _ _ _ hr' (.int _) hs (.refl _ _)⟩
        · cases e
      | tup _ => exact seq e
      | fl _ => exact seq e
      | ref _ => exact seq e
      | _ => cases e
    · exact hr'.elim
theorem dcall_int : CallR X (.type "int") (liftC X.K bInt) := dl_call fun pins s σ H ds xs us S Q Q0 I ru rv hs hr hq => by
  match ds, hr, rv with
  | [.int i], hr, rv =>
    obtain ⟨v, rfl, rd⟩ := rv.one
    cases rd
    exact call_int1 pins s σ H _ us Q I ru (.inl ⟨i, rfl, hq _ _ _ _ hr (.int _) hs (.refl _ _)⟩)
  | [.bl k], hr, rv =>
    obtain ⟨v, rfl, rd⟩ := rv.one
    cases rd
    exact call_int1 pins s σ H _ us Q I ru (.inr ⟨k, rfl, hq _ _ _ _ hr (.int _) hs (.refl _ _)⟩)
theorem dcall_abs : CallR X (.builtin "abs") (liftC X.K bAbs) := dl_call fun pins s σ H ds xs us S Q Q0 I ru rv hs hr hq => by
  match ds, hr, rv with
  | [.int i], hr, rv =>
    obtain ⟨v, rfl, rd⟩ := rv.one
    cases rd
    exact call_abs pins s σ H _ us Q I ru ⟨i, rfl, hq _ _ _ _ hr (.int _) hs (.refl _ _)⟩
theorem dcall_max2 (hc : X.calm = true) : CallR X (.builtin "max") (liftC X.K bMax2) := dl_call fun pins s σ H ds xs us S Q Q0 I ru rv hs hr hq => by
  match ds, hr, rv with
  | [.int i, .int j], hr, rv =>
    obtain ⟨v, w, rfl, rd, re⟩ := rv.two
    cases rd
    cases re
    exact call_max2 hc pins s σ H _ us Q I ru ⟨i, j, rfl, hq _ _ _ _ hr (.int _) hs (.refl _ _)⟩
theorem dcall_min2 (hc : X.calm = true) : CallR X (.builtin "min") (liftC X.K bMin2) := dl_call fun pins s σ H ds xs us S Q Q0 I ru rv hs hr hq => by
  match ds, hr, rv with
  | [.int i, .int j], hr, rv =>
    obtain ⟨v, w, rfl, rd, re⟩ := rv.two
    cases rd
    cases re
    exact call_min2 hc pins s σ H _ us Q I ru ⟨i, j, rfl, hq _ _ _ _ hr (.int _) hs (.refl _ _)⟩
theorem dcall_list : CallR X (.type "list") (liftC X.K bList) := dl_call fun pins s σ H ds xs us S Q Q0 I ru rv hs hr hq => by
  match ds, hr, rv with
  | [d], hr, rv =>
    obtain ⟨v, rfl, rd⟩ := rv.one
    have hr' : (match seqOf S d with
      | some xs => ∀ p, S p = none → Q0 (.ref p) (dupd S p (.lst xs))
      | none => False) := hr
    split at hr'
    · rename_i zs e
      obtain ⟨a, ws, rfl, hv, r⟩ := seq_of hs rd e
      exact call_list_of pins s σ H _ us Q I ru ⟨a, ws, rfl, hv, fun p hp => hq _ _ _ _ (hr' p (hs.fresh hp)) (.ref p) (hs.new hp ⟨_, upd_same, (Stp.laid (S := S) hp).rvl r⟩) (Stp.new hp)⟩
    · exact hr'.elim
theorem dcall_tuple : CallR X (.type "tuple") (liftC X.K bTuple) := dl_call fun pins s σ H ds xs us S Q Q0 I ru rv hs hr hq => by
  match ds, hr, rv with
  | [d], hr, rv =>
    obtain ⟨v, rfl, rd⟩ := rv.one
    have hr' : (match seqOf S d with
      | some xs => Q0 (.tup xs) S
      | none => False) := hr
    split at hr'
    · rename_i zs e
      obtain ⟨a, ws, rfl, hv, r⟩ := seq_of hs rd e
      refine call_tuple_of pins s σ H _ us Q I ru ⟨a, ws, rfl, ?_⟩
      rcases hv with hv | hv
      · exact .inl ⟨hv, fun p hp => hq _ _ _ _ hr' (.tup (.inl (.inl upd_same)) ((Stp.laid (S := S) hp).rvl r)) (hs.laid hp) (Stp.laid hp)⟩
      · exact .inr ⟨hv, hq _ _ _ _ hr' (.tup hv r) hs (.refl _ _)⟩
    · exact hr'.elim
theorem tyx_of {K : PySem.W.Frag} {H : Hp} {S : DS} {d : D} {v : V} {t : String} (hs : Sim K S H) (r : Rv K H d v) (h : tyName S d = some t) : TyX K H v (.type t) := by
  cases d with
  | non => cases r; cases h; exact .base .non
  | bl b => cases r; cases h; exact .base (.bl _)
  | int b => cases r; cases h; exact .base (.int _)
  | str b => cases r; cases h; exact .base (.str _)
  | tup xs =>
    cases h
    cases r with
    | tup q rr =>
      rcases q with (q | ⟨o, q⟩) | ⟨o, its, n, q, c, _⟩
      · exact .base (.tup q)
      · exact .fTuple q
      · exact .kTuple q c
  | fl xs =>
    cases h
    cases r with
    | fl q rr =>
      rcases q with ⟨o, q⟩ | ⟨o, its, n, q, c, _⟩
      · exact .base (.frz q)
      · exact .kList q c
  | ref a =>
    cases r
    rw [tyName] at h
    split at h
    · rename_i e
      cases h
      obtain ⟨vs, hv, _⟩ := hs.lst e
      exact .base (.lst hv)
    · cases h
  | ty _ => cases h
theorem kit_isi {K : PySem.W.Frag} {S : DS} {d : D} {t T : String} (h : tyName S d = some t) (k : knownTy T = true) : PySem.W.kitOne K (.type t) (.type T) = some (isi t T) := by
  have ht : t = "NoneType" ∨ t = "bool" ∨ t = "int" ∨ t = "str" ∨ t = "tuple" ∨ t = "list" := by
    cases d <;> simp [tyName] at h
    all_goals first | (subst h; simp) | skip
    · split at h
      · cases h; simp
      · cases h
  have hT : T = "bool" ∨ T = "int" ∨ T = "str" ∨ T = "tuple" ∨ T = "list" := by
    unfold knownTy at k
    simp only [Bool.or_eq_true, beq_iff_eq] at k
    rcases k with (((k | k) | k) | k) | k <;> simp [k]
  rcases ht with rfl | rfl | rfl | rfl | rfl | rfl <;> rcases hT with rfl | rfl | rfl | rfl | rfl <;> exact kit_ty (by decide +kernel)
theorem dcall_isi : CallR X (.builtin "isinstance") (liftC X.K bIsi) := dl_call fun pins s σ H ds xs us S Q Q0 I ru rv hs hr hq => by
  match ds, hr, rv with
  | [x, .ty T], hr, rv =>
    obtain ⟨v, w, rfl, rd, re⟩ := rv.two
    cases re
    have hr' : (match tyName S x with
      | some t => knownTy T = true ∧ Q0 (.bl (isi t T)) S
      | none => False) := hr
    split at hr'
    · rename_i t e
      exact call_isi pins s σ H _ us Q I ru ⟨v, _, _, _, _, rfl, .ty T, tyx_of hs rd e, kit_isi e hr'.1, hq _ _ _ _ hr'.2 (.bl _) hs (.refl _ _)⟩
    · exact hr'.elim
  | [x, .tup [.ty T, .ty U]], hr, rv =>
    obtain ⟨v, w, rfl, rd, re⟩ := rv.two
    have hr' : (match tyName S x with
      | some t => (knownTy T = true ∧ knownTy U = true) ∧ Q0 (.bl (isi t T || isi t U)) S
      | none => False) := hr
    split at hr'
    · rename_i t e
      have hk : PySem.W.kitAny X.K (.type t) [.type T, .type U] = some (isi t T || isi t U) := by
        refine kitAny_cons (kit_isi e hr'.1.1) (fun h1 => ?_) (fun h1 => by rw [h1]; rfl)
        rw [h1, Bool.false_or]
        exact kitAny_cons (kit_isi e hr'.1.2) (fun h2 => by rw [h2]; exact kitAny_nil) (fun h2 => h2)
      cases re with
      | @tup tp cs _ q rr =>
        obtain ⟨c1, c2, rfl, k1, k2⟩ := rr.two
        cases k1
        cases k2
        have fin := hq _ _ _ _ hr'.2 (.bl _) hs (.refl _ _)
        obtain ⟨u1, u2, rfl, r1, r2⟩ := vals2 ru
        cases (show u2 = Value.ref tp from r2)
        obtain ⟨P, Z, p, hx⟩ := kit_of I r1 (tyx_of hs rd e)
        obtain ⟨its, rv3, ⟨o, h1, h2, n, h3⟩, _⟩ := I.tuple q
        have e3 : its = [.type T, .type U] := by
          cases rv3 with
          | cons a b =>
            cases b with
            | cons c d => cases d; cases a; cases c; rfl
        subst e3
        obtain ⟨oc, od, dt, sl⟩ := o
        simp only at h2 h3
        subst h2 h3
        exact PySem.W.kia_tup Z I.kIn p h1 hk hx fun tk => ⟨.bl _, H, I.tok tk, .refl _, fin⟩
    · exact hr'.elim
theorem EachIs.rvl {K : PySem.W.Frag} {H : Hp} : ∀ {us : List Value} {ds : List D}, PySem.W.EachIs (fun u d => ∃ v, RelV v u ∧ Rv K H d v) us ds → ∃ vs, Vals vs us ∧ RvL K H ds vs
  | _, _, .nil => ⟨[], .nil, .nil⟩
  | _, _, .cons ⟨v, h1, h2⟩ t => by
    obtain ⟨vs, h3, h4⟩ := EachIs.rvl t
    exact ⟨v :: vs, .cons h1 h3, .cons h2 h4⟩
theorem RvL.each {K : PySem.W.Frag} {H : Hp} : ∀ {us : List Value} {vs : List V} {ds : List D}, Vals vs us → RvL K H ds vs → PySem.W.EachIs (fun u d => ∃ v, RelV v u ∧ Rv K H d v) us ds
  | _, _, [], r, h => by cases h; cases r; exact .nil
  | _, _, d :: ds, r, h => by
    cases h with
    | cons a b =>
      cases r with
      | cons c e => exact .cons ⟨_, c, a⟩ (RvL.each e b)
theorem each_reads {pins : List (Addr × Obj)} {σ : L2.St} {H : Hp} {s : Shared} (I : Inv X pins σ H s) : ∀ {us : List Value} {vs : List V} {ds : List D}, (∀ x ∈ ds, x.plain = true ∧ x.dep ≤ 50) → Vals vs us → RvL X.K H ds vs →
    PySem.W.EachIs (fun u d => ∃ as, Reads s.heap u d.py as) us ds
  | _, _, [], _, r, h => by cases h; cases r; exact .nil
  | _, _, d :: ds, hp, r, h => by
    cases h with
    | cons a b =>
      cases r with
      | cons c e => exact .cons (Dp.reads I _ _ _ (Rv.dp d _ (hp d List.mem_cons_self).1 a) c) (each_reads I (fun x hx => hp x (List.mem_cons_of_mem _ hx)) e b)
theorem dcall_sorted (hu : X.A.units + 100 < cLine) : CallR X (.builtin "sorted") (liftC X.K bSorted) := dl_call fun pins s σ H ds xs us S Q Q0 I ru rv hs hr hq => by
  match ds, hr, rv with
  | [d], hr, rv =>
    obtain ⟨v, rfl, rd⟩ := rv.one
    have hr' : (match lstOf S d with
      | some xs => ((∀ x ∈ xs, x.plain = true ∧ x.dep ≤ 50) ∧ PySem.W.AllAlike (xs.map D.py) ∧ PySem.W.Sortable (xs.map D.py)) ∧ ∀ p, S p = none → Q0 (.ref p) (dupd S p (.lst (xs.mergeSort dle)))
      | none => False) := hr
    split at hr'
    · rename_i zs e
      obtain ⟨⟨h1, h2, h3⟩, hr'⟩ := hr'
      obtain ⟨a, ws, rfl, hv, r⟩ := lst_of hs rd e
      obtain ⟨its, r1, hl, hz⟩ := I.list hv
      rw [Vals.ref1 ru]
      refine PySem.W.sorted_data (enc := D.py) (R := fun u d => ∃ v, RelV v u ∧ Rv X.K H d v) hl.isList (RvL.each r1 r) (each_reads I h1 r1 r) h2 h3 (by rw [r.length]; exact hz)
        (fun b hb => by rw [D.dep_py _ (h1 b hb).1]; have := (h1 b hb).2; omega) fun out hl2 he => ?_
      obtain ⟨vs2, k1, k2⟩ := EachIs.rvl he
      obtain ⟨ep, he'⟩ := PyProof.Rows.sortedAll_at s.heap its out.toArray
      have hfr : H (s.heap.objs.size + 1) = none := I.hok.fresh (Nat.le_succ _)
      have hlen : vs2.length ≤ sizeLine := by
        rw [← k2.length, List.length_mergeSort, r.length]; exact hz
      refine ⟨.ref _, upd H (s.heap.objs.size + 1) (.lst vs2), I.laid (t' := s.toks) (fun _ _ => PyProof.Rows.sortedAll_old) (Nat.le_succ _) ⟨hlen, out, ep, k1, he'⟩, rfl, ?_⟩
      exact hq _ _ _ _ (hr' _ (hs.fresh hfr)) (.ref _) (hs.new hfr ⟨vs2, upd_same, (Stp.laid (S := S) hfr).rvl k2⟩) (Stp.new hfr)
    · exact hr'.elim
theorem rvl_ints {K : PySem.W.Frag} {H : Hp} : ∀ {ns : List Int} {vs : List V}, RvL K H (ns.map D.int) vs → vs = ns.map V.int
  | [], _, r => by cases r; rfl
  | n :: ns, _, r => by
    cases r with
    | cons a b => cases a; rw [rvl_ints b]; rfl
theorem rvl_bls {K : PySem.W.Frag} {H : Hp} : ∀ {ns : List Bool} {vs : List V}, RvL K H (ns.map D.bl) vs → vs = ns.map V.bl
  | [], _, r => by cases r; rfl
  | n :: ns, _, r => by
    cases r with
    | cons a b => cases a; rw [rvl_bls b]; rfl
theorem dcall_sum (hc : X.calm = true) : CallR X (.builtin "sum") (liftC X.K bSum) := dl_call fun pins s σ H ds xs us S Q Q0 I ru rv hs hr hq => by
  match ds, hr, rv with
  | [d], hr, rv =>
    obtain ⟨v, rfl, rd⟩ := rv.one
    have hr' : (match lstOf S d with
      | some xs => ∃ ns : List Int, xs = ns.map D.int ∧ Q0 (.int ns.sum) S
      | none => False) := hr
    split at hr'
    · rename_i zs e
      obtain ⟨ns, rfl, q⟩ := hr'
      obtain ⟨a, ws, rfl, hv, r⟩ := lst_of hs rd e
      exact cr_sum hc pins s σ H _ us Q I ru ⟨a, ns, rfl, by rw [← rvl_ints r]; exact hv, hq _ _ _ _ q (.int _) hs (.refl _ _)⟩
    · exact hr'.elim
theorem dcall_any (hc : X.calm = true) : CallR X (.builtin "any") (liftC X.K bAny) := dl_call fun pins s σ H ds xs us S Q Q0 I ru rv hs hr hq => by
  match ds, hr, rv with
  | [d], hr, rv =>
    obtain ⟨v, rfl, rd⟩ := rv.one
    have hr' : (match lstOf S d with
      | some xs => ∃ bs : List Bool, xs = bs.map D.bl ∧ Q0 (.bl (bs.any id)) S
      | none => False) := hr
    split at hr'
    · rename_i zs e
      obtain ⟨ns, rfl, q⟩ := hr'
      obtain ⟨a, ws, rfl, hv, r⟩ := lst_of hs rd e
      exact cr_any hc pins s σ H _ us Q I ru ⟨a, ns, rfl, by rw [← rvl_bls r]; exact hv, hq _ _ _ _ q (.bl _) hs (.refl _ _)⟩
    · exact hr'.elim
theorem dcall_all (hc : X.calm = true) : CallR X (.builtin "all") (liftC X.K bAll) := dl_call fun pins s σ H ds xs us S Q Q0 I ru rv hs hr hq => by
  match ds, hr, rv with
  | [d], hr, rv =>
    obtain ⟨v, rfl, rd⟩ := rv.one
    have hr' : (match lstOf S d with
      | some xs => ∃ bs : List Bool, xs = bs.map D.bl ∧ Q0 (.bl (bs.all id)) S
      | none => False) := hr
    split at hr'
    · rename_i zs e
      obtain ⟨ns, rfl, q⟩ := hr'
      obtain ⟨a, ws, rfl, hv, r⟩ := lst_of hs rd e
      exact cr_all hc pins s σ H _ us Q I ru ⟨a, ns, rfl, by rw [← rvl_bls r]; exact hv, hq _ _ _ _ q (.bl _) hs (.refl _ _)⟩
    · exact hr'.elim
abbrev DM := D → List D → DS → DK → Prop
def liftM (K : PySem.W.Frag) (r : DM) : V → List V → Hp → VK → Prop := fun x xs H Q => ∃ dx ds S Q0, Rv K H dx x ∧ RvL K H ds xs ∧ Sim K S H ∧ r dx ds S Q0 ∧ ∀ d S' v H', Q0 d S' → Rv K H' d v → Sim K S' H' → Stp S H S' H' → Q v H'
def dBM (ok : DS → D → Prop) (r : DM) (to : DE) (t : DA) : DE := fun δ S Q => to δ S fun x S1 => ok S1 x ∧ t δ S1 fun xs S2 => r x xs S2 Q
def okLst : DS → D → Prop := fun S d => (lstOf S d).isSome = true
def okStr : DS → D → Prop := fun _ d => match d with
  | .str _ => True
  | _ => False
def OkTy (K : PySem.W.Frag) (T : String) (ok : DS → D → Prop) : Prop := ∀ S H d v, Sim K S H → Rv K H d v → ok S d → tyV K T v H
theorem okLst_ty {K : PySem.W.Frag} : OkTy K "list" okLst := fun S H d v hs r h => by
  obtain ⟨xs, e⟩ := Option.isSome_iff_exists.mp h
  obtain ⟨a, vs, rfl, hv, _⟩ := lst_of hs r e
  exact .inl ⟨rfl, vs, hv⟩
theorem okStr_ty {K : PySem.W.Frag} : OkTy K "str" okStr := fun S H d v hs r h => by
  cases d with
  | str _ => cases r; exact (rfl : ("str" : String) = "str")
  | _ => exact h.elim
variable {o e : Expr} {es : List Expr} {to : DE} {t : DA} {name : Str} {apos cpos : Pos} {T id : String} {r : DM} {ok : DS → D → Prop}
theorem qe_bm0 (pa : PlainAttrs T) (slot : Slot T name id) (hty : typeOf (.builtin id) = pure (.type "method_descriptor")) (ht : OkTy X.K T ok) (hm : MtR X id (liftM X.K r)) (ho : PE X o (liftE X.K to))
    (hbase : attributeBase o name X.env (eval o X.env) = eval o X.env := by rfl) (hline : (apos.endLine == cpos.line) = true := by rfl) : PE X (.Call (.Attribute o name apos) [] [] cpos) (liftE X.K (dBM ok r to dNil)) :=
  PE.imp (pe_bm0 pa slot hty hm ho hbase hline) fun σ H Q ⟨δ, S, Q0, hr, hs, h, hq⟩ => ⟨δ, S, _, hr, hs, h, fun x S1 v H1 ⟨k, h1⟩ r1 s1 a1 => ⟨ht S1 H1 x v s1 r1 k, x, [], S1, _, r1, .nil, s1, h1, fun d S' v H' q r s a => hq d S' v H' q r s (a1.trans a)⟩⟩
theorem qe_bm (pa : PlainAttrs T) (slot : Slot T name id) (hty : typeOf (.builtin id) = pure (.type "method_descriptor")) (ht : OkTy X.K T ok) (hm : MtR X id (liftM X.K r)) (ho : PE X o (liftE X.K to)) (ha : PA X (e :: es) (liftA X.K t))
    (hbase : attributeBase o name X.env (eval o X.env) = eval o X.env := by rfl)
    (hfew : ((backTo cpos (starEach (e :: es) X.env)).all (fun x => !x.1) && (backToKw cpos (keywordEach [] X.env)).all (fun x => x.1.isSome)
      && decide ((e :: es).length + ([] : List Keyword).length + (if ([] : List Keyword).isEmpty then 0 else 1) < 30)) = true := by rfl)
    (hline : (apos.endLine == cpos.line) = true := by rfl) (hs : starEach (e :: es) X.env = (false, eval e X.env) :: starEach es X.env := by rfl) (hplain : (backTo cpos (starEach es X.env)).any (·.1) = false := by rfl) :
    PE X (.Call (.Attribute o name apos) (e :: es) [] cpos) (liftE X.K (dBM ok r to t)) :=
  PE.imp (pe_bm pa slot hty hm ho ha hbase hfew hline hs hplain) fun σ H Q ⟨δ, S, Q0, hr, hs, h, hq⟩ => ⟨δ, S, _, hr, hs, h, fun x S1 v H1 ⟨k, h1⟩ r1 s1 a1 => ⟨ht S1 H1 x v s1 r1 k, δ, S1, _, hr.stp a1, s1, h1, fun xs S2 vs H2 h2 r2 s2 a2 =>
    ⟨x, xs, S2, _, a2.rv r1, r2, s2, h2, fun d S' v H' q r s a => hq d S' v H' q r s ((a1.trans a2).trans a)⟩⟩⟩
theorem dl_m {id : String}
    (h : ∀ (pins : List (Addr × Obj)) (s : Shared) (σ : L2.St) (H : Hp) (d : D) (ds : List D) (x : V) (xs : List V) (v : Value) (us : List Value) (S : DS) (Q : VK) (Q0 : DK), Inv X pins σ H s → RelV x v → Vals xs us → Rv X.K H d x → RvL X.K H ds xs → Sim X.K S H → r d ds S Q0 →
      (∀ d S' v H', Q0 d S' → Rv X.K H' d v → Sim X.K S' H' → Stp S H S' H' → Q v H') → wpAny (model X.prog X.w) X.A (call (.builtin id) (v :: us)) (EP X pins σ Q) X.xe s) : MtR X id (liftM X.K r) := by
  rintro pins s σ H x xs v us Q I rx rs ⟨d, ds, S, Q0, hd, hx, hs, hr, hq⟩
  exact h pins s σ H d ds x xs v us S Q Q0 I rx rs hd hx hs hr hq
/-- a method that changes a list: f tells what it gives back and the list behind -/
def mLst (f : List D → List D → Option (D × List D)) : DM := fun d ds S Q => match d with
  | .ref a => match S a with
    | some (.lst xs) => match f xs ds with
      | some (r, ys) => ys.length ≤ 16777216 ∧ Q r (dupd S a (.lst ys))
      | none => False
    | _ => False
  | _ => False
theorem mLst_get {f : List D → List D → Option (D × List D)} {d : D} {ds : List D} {S : DS} {Q : DK} (h : mLst f d ds S Q) : ∃ a xs r ys, d = .ref a ∧ S a = some (.lst xs) ∧ f xs ds = some (r, ys) ∧ ys.length ≤ 16777216 ∧ Q r (dupd S a (.lst ys)) := by
  cases d with
  | ref a =>
    have h' : (match S a with
      | some (.lst xs) => match f xs ds with
        | some (r, ys) => ys.length ≤ 16777216 ∧ Q r (dupd S a (.lst ys))
        | none => False
      | _ => False) := h
    split at h'
    · rename_i xs ea
      split at h'
      · rename_i r ys ef
        exact ⟨a, xs, r, ys, rfl, ea, ef, h'.1, h'.2⟩
      · exact h'.elim
    · exact h'.elim
  | _ => exact h.elim
def fAppend : List D → List D → Option (D × List D) := fun xs ds => match ds with
  | [y] => some (.non, xs ++ [y])
  | _ => none
def fPop : List D → List D → Option (D × List D) := fun xs ds => match ds with
  | [] => match xs[xs.length - 1]? with
    | some y => some (y, xs.dropLast)
    | none => none
  | _ => none
def fPopAt : List D → List D → Option (D × List D) := fun xs ds => match ds with
  | [.int i] => match ixN xs.length i with
    | some k => match xs[k]? with
      | some y => some (y, xs.eraseIdx k)
      | none => none
    | none => none
  | _ => none
def fReverse : List D → List D → Option (D × List D) := fun xs ds => match ds with
  | [] => some (.non, xs.reverse)
  | _ => none
theorem dmt_append : MtR X "list.append" (liftM X.K (mLst fAppend)) := dl_m fun pins s σ H d ds x xs v us S Q Q0 I rx ru rd rds hs hr hq => by
  obtain ⟨a, zs, r, ys, rfl, ea, ef, hl, q⟩ := mLst_get hr
  match ds, ef, rds with
  | [y], ef, rds =>
    cases ef
    cases rd
    obtain ⟨w, rfl, rw'⟩ := rds.one
    obtain ⟨vs, h1, r1⟩ := hs.lst ea
    refine mt_append pins s σ H _ _ v us Q I rx ru ⟨a, vs, w, rfl, rfl, h1, by rw [szl, ← r1.length]; rw [List.length_append, List.length_singleton] at hl; omega, hq _ _ _ _ q .non (hs.write ea ⟨_, upd_same, ?_⟩) (Stp.write hs ea)⟩
    exact (r1.append (.cons rw' .nil)).updL h1
theorem dmt_pop : MtR X "list.pop" (liftM X.K (mLst fPop)) := dl_m fun pins s σ H d ds x xs v us S Q Q0 I rx ru rd rds hs hr hq => by
  obtain ⟨a, zs, r, ys, rfl, ea, ef, hl, q⟩ := mLst_get hr
  match ds, ef, rds with
  | [], ef, rds =>
    cases rds
    cases rd
    obtain ⟨vs, h1, r1⟩ := hs.lst ea
    have ef' : (match zs[zs.length - 1]? with
      | some y => some (y, zs.dropLast)
      | none => none) = some (r, ys) := ef
    split at ef'
    · rename_i y ey
      cases ef'
      obtain ⟨w, hw, rw'⟩ := r1.get ey
      refine mt_pop pins s σ H _ _ v us Q I rx ru ⟨a, vs, w, rfl, rfl, h1, by rw [← r1.length]; exact hw, hq _ _ _ _ q (rw'.updL h1) (hs.write ea ⟨_, upd_same, ?_⟩) (Stp.write hs ea)⟩
      exact r1.dropLast.updL h1
    · cases ef'
theorem dmt_popAt : MtR X "list.pop" (liftM X.K (mLst fPopAt)) := dl_m fun pins s σ H d ds x xs v us S Q Q0 I rx ru rd rds hs hr hq => by
  obtain ⟨a, zs, r, ys, rfl, ea, ef, hl, q⟩ := mLst_get hr
  match ds, ef, rds with
  | [.int i], ef, rds =>
    obtain ⟨w0, rfl, rw0⟩ := rds.one
    cases rw0
    cases rd
    obtain ⟨vs, h1, r1⟩ := hs.lst ea
    have ef' : (match ixN zs.length i with
      | some k => match zs[k]? with
        | some y => some (y, zs.eraseIdx k)
        | none => none
      | none => none) = some (r, ys) := ef
    split at ef'
    · rename_i k ek
      split at ef'
      · rename_i y ey
        cases ef'
        obtain ⟨w, hw, rw'⟩ := r1.get ey
        obtain ⟨g1, g2, g3, g4⟩ := ixN_seq ek
        obtain ⟨hz, _⟩ := I.hok a _ h1
        rw [szl, ← r1.length] at hz
        refine mt_popAt pins s σ H _ _ v us Q I rx ru ⟨a, vs, i, k, w, rfl, rfl, h1, by omega, by omega, by rw [← r1.length]; exact g1, hw, hq _ _ _ _ q (rw'.updL h1) (hs.write ea ⟨_, upd_same, ?_⟩) (Stp.write hs ea)⟩
        exact (r1.erase k).updL h1
      · cases ef'
    · cases ef'
theorem dmt_reverse : MtR X "list.reverse" (liftM X.K (mLst fReverse)) := dl_m fun pins s σ H d ds x xs v us S Q Q0 I rx ru rd rds hs hr hq => by
  obtain ⟨a, zs, r, ys, rfl, ea, ef, hl, q⟩ := mLst_get hr
  match ds, ef, rds with
  | [], ef, rds =>
    cases ef
    cases rds
    cases rd
    obtain ⟨vs, h1, r1⟩ := hs.lst ea
    exact mt_reverse pins s σ H _ _ v us Q I rx ru ⟨a, vs, rfl, rfl, h1, hq _ _ _ _ q .non (hs.write ea ⟨_, upd_same, r1.reverse.updL h1⟩) (Stp.write hs ea)⟩
/-- xs.extend(ys), ys a list -/
def mExtend : DM := fun d ds S Q => match d, ds with
  | .ref a, [.ref b] => match S a, S b with
    | some (.lst xs), some (.lst ys) => xs.length + ys.length ≤ 16777216 ∧ Q .non (dupd S a (.lst (xs ++ ys)))
    | _, _ => False
  | _, _ => False
theorem dmt_extend : MtR X "list.extend" (liftM X.K mExtend) := dl_m fun pins s σ H d ds x xs v us S Q Q0 I rx ru rd rds hs hr hq => by
  match d, ds, hr, rd, rds with
  | .ref a, [.ref b], hr, rd, rds =>
    obtain ⟨w0, rfl, rw0⟩ := rds.one
    cases rw0
    cases rd
    have hr' : (match S a, S b with
      | some (.lst xs), some (.lst ys) => xs.length + ys.length ≤ 16777216 ∧ Q0 .non (dupd S a (.lst (xs ++ ys)))
      | _, _ => False) := hr
    split at hr'
    · rename_i zs ys ea eb
      obtain ⟨vs, h1, r1⟩ := hs.lst ea
      obtain ⟨ws, h2, r2⟩ := hs.lst eb
      exact mt_extend pins s σ H _ _ v us Q I rx ru ⟨a, b, vs, ws, rfl, rfl, h1, h2, by rw [szl, ← r1.length, ← r2.length]; exact hr'.1, hq _ _ _ _ hr'.2 .non (hs.write ea ⟨_, upd_same, (r1.append r2).updL h1⟩) (Stp.write hs ea)⟩
    · exact hr'.elim
/-- sep.join(xs) -/
def mJoin : DM := fun d ds S Q => match d, ds with
  | .str a, [y] => match seqOf S y with
    | some xs => ∃ ys : List Str, xs = ys.map D.str ∧ (ys.map (·.length)).sum + ys.length * a.length ≤ 16777216 ∧ Q (.str (Txt.join a ys)) S
    | none => False
  | _, _ => False
theorem rvl_strs {K : PySem.W.Frag} {H : Hp} : ∀ {ns : List Str} {vs : List V}, RvL K H (ns.map D.str) vs → vs = ns.map V.str
  | [], _, r => by cases r; rfl
  | n :: ns, _, r => by
    cases r with
    | cons a b => cases a; rw [rvl_strs b]; rfl
theorem dmt_join : MtR X "str.join" (liftM X.K mJoin) := dl_m fun pins s σ H d ds x xs v us S Q Q0 I rx ru rd rds hs hr hq => by
  match d, ds, hr, rd, rds with
  | .str a, [y], hr, rd, rds =>
    obtain ⟨w0, rfl, rw0⟩ := rds.one
    cases rd
    have hr' : (match seqOf S y with
      | some xs => ∃ ys : List Str, xs = ys.map D.str ∧ (ys.map (·.length)).sum + ys.length * a.length ≤ 16777216 ∧ Q0 (.str (Txt.join a ys)) S
      | none => False) := hr
    split at hr'
    · rename_i zs e
      obtain ⟨ys, rfl, hz, q⟩ := hr'
      obtain ⟨p, ws, rfl, hv, r⟩ := seq_of hs rw0 e
      have e2 := rvl_strs r
      subst e2
      exact mt_join pins s σ H _ _ v us Q I rx ru ⟨a, p, ys, rfl, rfl, hv, hz, hq _ _ _ _ q (.str _) hs (.refl _ _)⟩
    · exact hr'.elim
end
end DL
namespace DL
open PySem PySem.Spec PyProof.Rows L2
def dIter (te : DE) : DI := fun δ S Q => te δ S fun x S1 => match x with
  | .str z => Q (z.cps.toList.map fun c => D.str ⟨#[c]⟩) (fun _ => True) S1
  | x => match seqOf S1 x with
    | some xs => Q xs (fun S' => seqOf S' x = some xs) S1
    | none => False
section
variable {X : Cx} {tg : Expr}
/-- a value is walked: from its iterator's making -/
def IterR (X : Cx) (tg : Expr) (r : V → Hp → (It → Hp → Prop) → Prop) : Prop :=
  ∀ (pins : List (Addr × Obj)) (s : Shared) (σ : L2.St) (H : Hp) (x : V) (v : Value) (R : It → Hp → Prop), Inv X pins σ H s → RelV x v → r x H R → wpAny (model X.prog X.w) X.A (pyIter v) (PIE X pins σ tg R) X.xe s
theorem pi_of {l : Expr} {tl : TE} {r : V → Hp → (It → Hp → Prop) → Prop} (hl : PE X l tl) (hr : IterR X tg r) : PI X tg l (fun σ H R => tl σ H fun x H1 => r x H1 R) :=
  ⟨fun pins s σ H R I h => thn (hl.run pins s σ H _ I h) fun v s1 ⟨x, H1, I1, r1, q1⟩ => hr pins s1 σ H1 x v R I1 r1 q1⟩
theorem ir_list : IterR X tg (fun x H R => ∃ a, x = .ref a ∧ (∃ xs, SqL X.K H a xs) ∧ R (Itl X.K a) H) := by
  rintro pins s1 σ H1 x v R I1 r1 ⟨a, e, ⟨xs, hq⟩, q⟩
  subst e
  cases r1
  obtain ⟨its, rv, p, hz⟩ := I1.list hq
  refine wpAny_pyIter_list p.isList ?_
  refine ⟨s1.heap.objs.size, [s1.heap.objs.size], _, _, H1, rfl, I1.kept (t' := s1.toks) fun b o e => Heap.get?_push_of_some _ e, turn_list a _, ⟨_, Heap.get?_push_size _ rfl, rfl, rfl⟩, fun b hb => ?_, q⟩
  have e : b = s1.heap.objs.size := by simpa using hb
  subst e
  exact I1.fpOk (Nat.le_refl _) (I1.hok.fresh (Nat.le_refl _))
theorem ir_tup : IterR X tg (fun x H R => ∃ a, x = .ref a ∧ (∃ xs, SqT X.K H a xs) ∧ R (Itt X.K a) H) := by
  rintro pins s1 σ H1 x v R I1 r1 ⟨a, e, ⟨xs, hq⟩, q⟩
  subst e
  cases r1
  obtain ⟨its, rv, p, hz⟩ := I1.tuple hq
  refine wpAny_pyIter_tuple (show s1.heap.IsTuple a its.toArray from p) ?_
  refine ⟨s1.heap.objs.size, [s1.heap.objs.size], _, _, H1, rfl, I1.kept (t' := s1.toks) fun b o e => Heap.get?_push_of_some _ e, turn_tuple a _, ⟨_, Heap.get?_push_size _ rfl, rfl, rfl⟩, fun b hb => ?_, q⟩
  have e : b = s1.heap.objs.size := by simpa using hb
  subst e
  exact I1.fpOk (Nat.le_refl _) (I1.hok.fresh (Nat.le_refl _))
theorem ir_str : IterR X tg (fun v H R => ∃ x, v = .str x ∧ R (Its x) H) := by
  rintro pins s1 σ H1 y v R I1 r1 ⟨x, ex, q⟩
  subst ex
  obtain ⟨t, rfl⟩ := r1
  cases ha : x.cps.all (· < 128)
  · exact wpAny_pyIter_wide ha (pi_one (tk := s1.toks) I1 _ (turn_str _ x t "str_iterator" (.inr rfl)) ⟨_, Heap.get?_push_size _ rfl, rfl, rfl⟩ q)
  · exact wpAny_pyIter_ascii ha (pi_one (tk := s1.toks) I1 _ (turn_str _ x t "str_ascii_iterator" (.inl rfl)) ⟨_, Heap.get?_push_size _ rfl, rfl, rfl⟩ q)
theorem jok_list {K : PySem.W.Frag} {H0 : Hp} {a : Addr} {xs : List D} {stay : DS → Prop} (h : ∀ S H, Prs H0 H → Sim K S H → stay S → ∃ vs, SqL K H a vs ∧ RvL K H xs vs) : JOk K H0 xs stay (Itl K a) := by
  intro i S H p hs st
  obtain ⟨vs, h1, r⟩ := h S H p hs st
  refine ⟨fun hi => ⟨vs, h1, by rw [← r.length]; exact hi⟩, fun d hd => ?_⟩
  obtain ⟨v, h2, h3⟩ := r.get hd
  refine ⟨⟨vs, v, h1, h2⟩, fun x H' ⟨e, y⟩ => ?_⟩
  subst e
  have := y vs h1
  rw [h2] at this
  cases this
  exact ⟨h3, hs, .refl _ _⟩
theorem jok_tup {K : PySem.W.Frag} {H0 : Hp} {a : Addr} {xs : List D} {vs : List V} {stay : DS → Prop} (h1 : SqT K H0 a vs) (r : RvL K H0 xs vs) (inj : ∀ H, Prs H0 H → ∀ ws, SqT K H a ws → ws = vs) : JOk K H0 xs stay (Itt K a) := by
  intro i S H p hs st
  refine ⟨fun hi => ⟨vs, p.sqT h1, by rw [← r.length]; exact hi⟩, fun d hd => ?_⟩
  obtain ⟨v, h2, h3⟩ := r.get hd
  refine ⟨⟨vs, v, p.sqT h1, h2⟩, fun x H' ⟨e, y⟩ => ?_⟩
  subst e
  have := y vs (p.sqT h1)
  rw [h2] at this
  cases this
  exact ⟨p.rv h3, hs, .refl _ _⟩
theorem jok_tup' {K : PySem.W.Frag} {H0 : Hp} {a : Addr} {xs : List D} {vs : List V} {stay : DS → Prop} (h1 : SqT K H0 a vs) (r : RvL K H0 xs vs) : JOk K H0 xs stay (Itt K a) := by
  intro i S H p hs st
  refine ⟨fun hi => ⟨vs, p.sqT h1, by rw [← r.length]; exact hi⟩, fun d hd => ?_⟩
  obtain ⟨v, h2, h3⟩ := r.get hd
  refine ⟨⟨vs, v, p.sqT h1, h2⟩, fun x H' ⟨e, y⟩ => ?_⟩
  subst e
  have := y vs (p.sqT h1)
  rw [h2] at this
  cases this
  exact ⟨p.rv h3, hs, .refl _ _⟩
theorem jok_str {K : PySem.W.Frag} {H0 : Hp} {z : Str} {stay : DS → Prop} : JOk K H0 (z.cps.toList.map fun c => D.str ⟨#[c]⟩) stay (Its z) := by
  intro i S H p hs st
  refine ⟨fun hi => by rw [List.length_map, Array.length_toList] at hi; exact hi, fun d hd => ?_⟩
  rw [List.getElem?_map] at hd
  obtain ⟨c, h1, h2⟩ := Option.map_eq_some_iff.mp hd
  subst h2
  rw [Array.getElem?_toList] at h1
  refine ⟨(Array.getElem?_eq_some_iff.mp h1).1, fun x H' ⟨e, c2, e2, e3⟩ => ?_⟩
  subst e e3
  rw [h1] at e2
  cases e2
  exact ⟨.str _, hs, .refl _ _⟩
/-- the store's own list, a frozen one -/
theorem stay_list {K : PySem.W.Frag} {H0 : Hp} {a : Addr} {d : D} {xs : List D} (hr : Rv K H0 d (.ref a)) (nt : ∀ ys, d ≠ .tup ys) : ∀ S H, Prs H0 H → Sim K S H → seqOf S d = some xs → ∃ vs, SqL K H a vs ∧ RvL K H xs vs := by
  intro S H p hs e
  cases d with
  | ref b =>
    cases hr
    obtain ⟨c, vs, e1, hv, r⟩ := seq_of hs (.ref a) e
    cases e1
    rcases hv with hv | hv
    · exact ⟨vs, hv, r⟩
    · rw [seqOf] at e
      split at e
      · rename_i ea
        cases e
        obtain ⟨ws, h1, r1⟩ := hs.lst ea
        exact ⟨ws, .of h1, r1⟩
      · cases e
  | fl ys =>
    cases e
    cases hr with
    | fl q rr => exact ⟨_, (p.fqL q).sq, p.rvl rr⟩
  | tup ys => exact absurd rfl (nt ys)
  | _ => cases hr
theorem qi_seq {l : Expr} {te : DE} (hl : PE X l (liftE X.K te)) : PI X tg l (liftI X.K (dIter te)) := by
  refine PI.imp (pi_of (r := fun x H R => (∃ a, x = .ref a ∧ (∃ xs, SqL X.K H a xs) ∧ R (Itl X.K a) H) ∨ (∃ a, x = .ref a ∧ (∃ xs, SqT X.K H a xs) ∧ R (Itt X.K a) H) ∨ (∃ z, x = .str z ∧ R (Its z) H)) hl ?_) ?_
  · intro pins s σ H x v R I rx h
    rcases h with h | h | h
    · exact ir_list pins s σ H x v R I rx h
    · exact ir_tup pins s σ H x v R I rx h
    · exact ir_str pins s σ H x v R I rx h
  · rintro σ H R ⟨δ, S, Q0, hr, hs, h, hq⟩
    refine ⟨δ, S, _, hr, hs, h, fun d S1 v H1 h1 r1 s1 a1 => ?_⟩
    have gen : (match seqOf S1 d with
      | some xs => Q0 xs (fun S' => seqOf S' d = some xs) S1
      | none => False) → (∃ a, v = .ref a ∧ (∃ xs, SqL X.K H1 a xs) ∧ R (Itl X.K a) H1) ∨ (∃ a, v = .ref a ∧ (∃ xs, SqT X.K H1 a xs) ∧ R (Itt X.K a) H1) ∨ (∃ z, v = .str z ∧ R (Its z) H1) := fun h => by
      split at h
      · rename_i xs e
        cases d with
        | tup ys =>
          cases e
          cases r1 with
          | tup q rr => exact .inr (.inl ⟨_, rfl, ⟨_, q⟩, hq _ _ _ _ _ h s1 a1 (jok_tup' q rr)⟩)
        | fl ys =>
          cases e
          cases r1 with
          | fl q rr => exact .inl ⟨_, rfl, ⟨_, q.sq⟩, hq _ _ _ _ _ h s1 a1 (jok_list (stay_list (.fl q rr) fun _ z => nomatch z))⟩
        | ref b =>
          cases r1
          obtain ⟨c, vs, e1, hv, rr⟩ := seq_of s1 (.ref b) e
          cases e1
          obtain ⟨ws, k1, k2⟩ := stay_list (.ref b) (fun _ z => nomatch z) S1 H1 (.refl _) s1 e
          exact .inl ⟨_, rfl, ⟨_, k1⟩, hq _ _ _ _ _ h s1 a1 (jok_list (stay_list (.ref b) fun _ z => nomatch z))⟩
        | _ => cases e
      · exact h.elim
    cases d with
    | str z => cases r1; exact .inr (.inr ⟨z, rfl, hq _ _ _ _ _ h1 s1 a1 jok_str⟩)
    | _ => exact gen h1
/-- range -/
def rngL (lo : Int) (n : Nat) : List D := (List.range n).map fun i => D.int (lo + (i : Nat))
def dRng1 (t : DA) : DI := fun δ S Q => t δ S fun ds S1 => match ds with
  | [.int j] => (-(2 ^ 62) ≤ j ∧ j < 2 ^ 62) ∧ Q (rngL 0 j.toNat) (fun _ => True) S1
  | _ => False
def dRng2 (t : DA) : DI := fun δ S Q => t δ S fun ds S1 => match ds with
  | [.int i, .int j] => (-(2 ^ 62) ≤ i ∧ i < 2 ^ 62 ∧ -(2 ^ 62) ≤ j ∧ j < 2 ^ 62) ∧ Q (rngL i (j - i).toNat) (fun _ => True) S1
  | _ => False
theorem jok_rng {K : PySem.W.Frag} {H0 : Hp} {lo : Int} {n : Nat} {stay : DS → Prop} : JOk K H0 (rngL lo n) stay (Itr lo n) := by
  intro i S H p hs st
  refine ⟨fun hi => by rw [rngL, List.length_map, List.length_range] at hi; exact hi, fun d hd => ?_⟩
  rw [rngL, List.getElem?_map] at hd
  obtain ⟨c, h1, h2⟩ := Option.map_eq_some_iff.mp hd
  subst h2
  obtain ⟨h3, h4⟩ := List.getElem?_eq_some_iff.mp h1
  rw [List.length_range] at h3
  rw [List.getElem_range] at h4
  subst h4
  refine ⟨h3, fun x H' ⟨e, e3⟩ => ?_⟩
  subst e e3
  exact ⟨.int _, hs, .refl _ _⟩
theorem qi_range1 {a : Expr} {t : DA} {p pos : Pos} (hg : Gl X "range") (hm : X.mg "range" = none) (ha : PA X [a] (liftA X.K t)) (hs : starEach [a] X.env = [(false, eval a X.env)] := by rfl) : PI X tg (.Call (.Name "range" p) [a] [] pos) (liftI X.K (dRng1 t)) :=
  PI.imp (pi_range1 hg hm ha hs) fun σ H R ⟨δ, S, Q0, hr, hs, h, hq⟩ => ⟨δ, S, _, hr, hs, h, fun ds S1 vs H1 h1 r1 s1 a1 => by
    match ds, h1, r1 with
    | [.int j], h1, r1 =>
      obtain ⟨v, rfl, rd⟩ := r1.one
      cases rd
      exact ⟨j, rfl, h1.1.1, h1.1.2, hq _ _ _ _ _ h1.2 s1 a1 jok_rng⟩⟩
theorem qi_range2 {a b : Expr} {t : DA} {p pos : Pos} (hg : Gl X "range") (hm : X.mg "range" = none) (ha : PA X [a, b] (liftA X.K t)) (hs : starEach [a, b] X.env = [(false, eval a X.env), (false, eval b X.env)] := by rfl) (hs2 : starEach [b] X.env = [(false, eval b X.env)] := by rfl) :
    PI X tg (.Call (.Name "range" p) [a, b] [] pos) (liftI X.K (dRng2 t)) :=
  PI.imp (pi_range2 hg hm ha hs hs2) fun σ H R ⟨δ, S, Q0, hr, hs, h, hq⟩ => ⟨δ, S, _, hr, hs, h, fun ds S1 vs H1 h1 r1 s1 a1 => by
    match ds, h1, r1 with
    | [.int i, .int j], h1, r1 =>
      obtain ⟨v, w, rfl, rd, re⟩ := r1.two
      cases rd
      cases re
      exact ⟨i, j, rfl, h1.1, hq _ _ _ _ _ h1.2 s1 a1 jok_rng⟩⟩
/-- reversed(x) of a list or a tuple -/
def dRev (te : DE) : DI := fun δ S Q => te δ S fun x S1 => match seqOf S1 x with
  | some xs => Q xs.reverse (fun S' => seqOf S' x = some xs) S1
  | none => False
theorem rev_get {α : Type} {xs : List α} {i : Nat} {x : α} (h : xs.reverse[i]? = some x) : i < xs.length ∧ xs[xs.length - 1 - i]? = some x := by
  have hi : i < xs.length := by
    have := (List.getElem?_eq_some_iff.mp h).1
    rwa [List.length_reverse] at this
  rw [List.getElem?_reverse hi] at h
  exact ⟨hi, h⟩
theorem jok_rev {K : PySem.W.Frag} {H0 : Hp} {a : Addr} {xs : List D} {n : Nat} {stay : DS → Prop} (hn : n = xs.length) (h : ∀ S H, Prs H0 H → Sim K S H → stay S → ∃ vs, SqL K H a vs ∧ RvL K H xs vs) : JOk K H0 xs.reverse stay (Itv K a n) := by
  subst hn
  intro i S H p hs st
  obtain ⟨vs, h1, r⟩ := h S H p hs st
  refine ⟨fun hi => by rw [List.length_reverse] at hi; exact hi, fun d hd => ?_⟩
  obtain ⟨hi, hd⟩ := rev_get hd
  obtain ⟨v, h2, h3⟩ := r.get hd
  refine ⟨⟨hi, vs, v, h1, h2⟩, fun x H' ⟨e, y⟩ => ?_⟩
  subst e
  have := y vs h1
  rw [h2] at this
  cases this
  exact ⟨h3, hs, .refl _ _⟩
theorem jok_revT {K : PySem.W.Frag} {H0 : Hp} {a : Addr} {xs : List D} {vs : List V} {n : Nat} {stay : DS → Prop} (hn : n = xs.length) (h1 : SqT K H0 a vs) (r : RvL K H0 xs vs) : JOk K H0 xs.reverse stay (RT.ItvT K a n) := by
  subst hn
  intro i S H p hs st
  refine ⟨fun hi => by rw [List.length_reverse] at hi; exact hi, fun d hd => ?_⟩
  obtain ⟨hi, hd⟩ := rev_get hd
  obtain ⟨v, h2, h3⟩ := r.get hd
  refine ⟨⟨hi, vs, v, p.sqT h1, h2⟩, fun x H' ⟨e, y⟩ => ?_⟩
  subst e
  have := y vs (p.sqT h1)
  rw [h2] at this
  cases this
  exact ⟨p.rv h3, hs, .refl _ _⟩
theorem qi_rev {e : Expr} {te : DE} {p pos : Pos} (hg : Gl X "reversed") (hm : X.mg "reversed" = none) (he : PE X e (liftE X.K te)) (hs : starEach [e] X.env = (false, eval e X.env) :: starEach [] X.env := by rfl) : PI X tg (.Call (.Name "reversed" p) [e] [] pos) (liftI X.K (dRev te)) :=
  PI.imp (RT.pi_revA hg hm he hs) fun σ H R ⟨δ, S, Q0, hr, hs, h, hq⟩ => ⟨δ, S, _, hr, hs, h, fun d S1 v H1 h1 r1 s1 a1 => by
    have h1' : (match seqOf S1 d with
      | some xs => Q0 xs.reverse (fun S' => seqOf S' d = some xs) S1
      | none => False) := h1
    split at h1'
    · rename_i xs e
      cases d with
      | tup ys =>
        cases e
        cases r1 with
        | tup q rr => exact ⟨_, _, rfl, .inr ⟨q, hq _ _ _ _ _ h1' s1 a1 (jok_revT rr.length.symm q rr)⟩⟩
      | fl ys =>
        cases e
        cases r1 with
        | fl q rr => exact ⟨_, _, rfl, .inl ⟨q.sq, hq _ _ _ _ _ h1' s1 a1 (jok_rev rr.length.symm (stay_list (.fl q rr) fun _ z => nomatch z))⟩⟩
      | ref b =>
        cases r1
        obtain ⟨ws, k1, k2⟩ := stay_list (.ref b) (fun _ z => nomatch z) S1 H1 (.refl _) s1 e
        exact ⟨_, ws, rfl, .inl ⟨k1, hq _ _ _ _ _ h1' s1 a1 (jok_rev k2.length.symm (stay_list (.ref b) fun _ z => nomatch z))⟩⟩
      | _ => cases e
    · exact h1'.elim⟩
/-- enumerate(x) of a list -/
def numL (xs : List D) : List D := (List.range xs.length).map fun i => D.tup [.int (i : Nat), (xs[i]?).getD .non]
def dEnum (t : DA) : DI := fun δ S Q => t δ S fun ds S1 => match ds with
  | [x] => match lstOf S1 x with
    | some xs => Q (numL xs) (fun S' => lstOf S' x = some xs) S1
    | none => False
  | _ => False
theorem numL_get {xs : List D} {i : Nat} {d : D} (h : (numL xs)[i]? = some d) : ∃ x, xs[i]? = some x ∧ d = .tup [.int (i : Nat), x] := by
  rw [numL, List.getElem?_map] at h
  obtain ⟨c, h1, h2⟩ := Option.map_eq_some_iff.mp h
  obtain ⟨h3, h4⟩ := List.getElem?_eq_some_iff.mp h1
  rw [List.length_range] at h3
  rw [List.getElem_range] at h4
  subst h4
  rw [List.getElem?_eq_getElem h3] at h2
  exact ⟨_, List.getElem?_eq_getElem h3, h2.symm⟩
theorem jok_enum {K : PySem.W.Frag} {H0 : Hp} {a : Addr} {xs : List D} {stay : DS → Prop} (h : ∀ S H, Prs H0 H → Sim K S H → stay S → ∃ vs, SqL K H a vs ∧ RvL K H xs vs) : JOk K H0 (numL xs) stay (Ite K a) := by
  intro i S H p hs st
  obtain ⟨vs, h1, r⟩ := h S H p hs st
  refine ⟨fun hi => ⟨vs, h1, by rw [← r.length]; rw [numL, List.length_map, List.length_range] at hi; exact hi⟩, fun d hd => ?_⟩
  obtain ⟨x, hx, rfl⟩ := numL_get hd
  obtain ⟨v, h2, h3⟩ := r.get hx
  refine ⟨⟨vs, v, h1, h2⟩, fun x' H' ⟨T, y, e1, e2, e3, e4⟩ => ?_⟩
  have := e4 vs h1
  rw [h2] at this
  cases this
  subst e1 e3
  exact ⟨.tup (.inl (.inl upd_same)) (.cons (.int _) (.cons ((Stp.laid (S := S) e2).rv h3) .nil)), hs.laid e2, Stp.laid e2⟩
theorem lst_seq {S : DS} {d : D} {xs : List D} (h : lstOf S d = some xs) : seqOf S d = some xs ∧ ∀ ys, d ≠ .tup ys := by
  cases d with
  | ref a => exact ⟨h, fun _ z => nomatch z⟩
  | fl a => exact ⟨h, fun _ z => nomatch z⟩
  | _ => cases h
theorem stay_lst {K : PySem.W.Frag} {H0 : Hp} {a : Addr} {d : D} {xs : List D} (hr : Rv K H0 d (.ref a)) : ∀ S H, Prs H0 H → Sim K S H → lstOf S d = some xs → ∃ vs, SqL K H a vs ∧ RvL K H xs vs :=
  fun S H p hs e => stay_list hr (lst_seq e).2 S H p hs (lst_seq e).1
theorem qi_enum {e : Expr} {t : DA} {p pos tpos : Pos} {elts : List Expr} {kk : Nat} (hg : Gl X "enumerate") (hm : X.mg "enumerate" = none) (ha : PA X [e] (liftA X.K t)) (hs : starEach [e] X.env = [(false, eval e X.env)] := by rfl) :
    PI X (.Tuple elts kk tpos) (.Call (.Name "enumerate" p) [e] [] pos) (liftI X.K (dEnum t)) :=
  PI.imp (pi_enum hg hm ha hs) fun σ H R ⟨δ, S, Q0, hr, hs, h, hq⟩ => ⟨δ, S, _, hr, hs, h, fun ds S1 vs H1 h1 r1 s1 a1 => by
    match ds, h1, r1 with
    | [x], h1, r1 =>
      obtain ⟨v, rfl, rd⟩ := r1.one
      have h1' : (match lstOf S1 x with
        | some xs => Q0 (numL xs) (fun S' => lstOf S' x = some xs) S1
        | none => False) := h1
      split at h1'
      · rename_i xs e
        obtain ⟨a, ws, rfl, hv, rr⟩ := lst_of s1 rd e
        exact ⟨a, ws, rfl, hv, hq _ _ _ _ _ h1' s1 a1 (jok_enum (stay_lst rd))⟩
      · exact h1'.elim⟩
end
structure FnD where
  np : Nat
  nl : Nat
  body : (Nat → DF) → DSt
def runF (f : FnD) (c : Nat → DF) : DF := fun ds S Q => ds.length = f.np ∧ f.body c { nx := fun _ S' => Q .non S', rt := Q, bk := fun _ _ => False, ct := fun _ _ => False } (ds.map some ++ List.replicate (f.nl - f.np) none) S
def sem (fs : Nat → FnD) : Nat → Nat → DF
  | 0, _ => fun _ _ _ => False
  | n + 1, i => runF (fs i) (sem fs n)
theorem sem_len {fs : Nat → FnD} {n i : Nat} (ds : List D) (S : DS) (Q : DK) (h : sem fs n i ds S Q) : ds.length = (fs i).np := by
  cases n with
  | zero => exact h.elim
  | succ n => exact h.1
section
variable {P : Program} {w : World} {K : PySem.W.Frag} {mg : Str → Option Value} {base : Heap}
theorem FnOk.zero {f : Addr} {fd : FuncData} {ps : List Str} {fs : Nat → FnD} {i : Nat} (hn : ps.length = (fs i).np) : FnOk P w K mg base CX0 0 f fd ps (liftF K (fs i).np (sem fs 0 i)) :=
  ⟨fun vs H Q E h => by rw [h.1, hn], fun A outer s H args us vs Q E hr e0 hb hv hsp => by obtain ⟨_, _, _, _, _, _, h, _⟩ := hsp; exact h.elim⟩
theorem rst_start {H : Hp} {N : List Str} {ds : List D} {vs : List V} (r : RvL K H ds vs) {m : Nat} (hm : m = N.length - vs.length) : Rst K H (ds.map some ++ List.replicate m none) (L2.start N vs) := by
  subst hm
  unfold L2.start
  refine ⟨by simp [r.length], fun i d h => ?_⟩
  by_cases hi : i < ds.length
  · rw [List.getElem?_append_left (by simpa using hi), List.getElem?_map] at h
    obtain ⟨x, h1, h2⟩ := Option.map_eq_some_iff.mp h
    cases h2
    obtain ⟨v, h3, h4⟩ := r.get h1
    have hv : i < vs.length := by rw [← r.length]; exact hi
    exact ⟨v, by rw [List.getElem?_append_left (by simpa using hv), List.getElem?_map, h3]; rfl, h4⟩
  · rw [List.getElem?_append_right (by simpa using hi), List.getElem?_replicate] at h
    split at h <;> cases h
/-- one def: its body's walk at every context -/
theorem fn_ok {x qual : Str} {st : Stmt} {f : Addr} {fd : FuncData} {N ps : List Str} {n : Nat} {fs : Nat → FnD} {i : Nat} (F : Fun K x qual st f fd) (Sc : FnScope N ps (defScope st)) (hn : ps.length = (fs i).np) (hl : N.length = (fs i).nl)
    (hbody : ∀ (cdv : Value) (A : Around) (outer : List Env) (s : Shared) (H : Hp) (E : XK), Room n (A.deeper (envOfC qual (defScope st) s.heap.objs.size f cdv)) →
      PSs (cxOf CX0 P w K mg base N qual (defScope st) f cdv A outer s H E).nox (defBody st) (liftS K ((fs i).body (sem fs n)))) :
    FnOk P w K mg base CX0 (n + 1) f fd ps (liftF K (fs i).np (sem fs (n + 1) i)) := by
  refine F.ok Sc (fun vs H Q E h => by rw [h.1, hn]) (fun cdv A outer s H vs Q E hr h => ?_)
  obtain ⟨hlen, ds, S, Q0, rv, hs, hc, hq⟩ := h
  refine ⟨_, hbody cdv A outer s H E hr, ?_⟩
  refine ⟨_, S, _, rst_start rv (m := (fs i).nl - (fs i).np) (by rw [hl, hlen]), hs, hc.2, ⟨fun δ S' σ H' h r x a => hq _ _ _ _ h .non x a, fun d S' v H' h r x a => hq _ _ _ _ h r x a, fun _ _ _ _ h => h.elim, fun _ _ _ _ h => h.elim⟩⟩
end
end DL
namespace DL
open PySem PySem.Spec PyProof.Rows L2
section
variable {X : Cx} {a b c : Expr} {ta tb tc : DE} {pos : Pos}
theorem qe_chain {op op' : CmpOp} {r r' : DR2} (ho : OpR X (compareOp op) (liftO X.K r)) (ho' : OpR X (compareOp op') (liftO X.K r')) (ha : PE X a (liftE X.K ta)) (hb : PE X b (liftE X.K tb)) (hc : PE X c (liftE X.K tc))
    (hm : lastMarks [op, op'] [b, c] = false := by with_unfolding_all rfl) : PE X (.Compare a [op, op'] [b, c] pos) (liftE X.K (dChain r r' ta tb tc)) := PE.imp (pe_chain ho ho' ha hb hc hm) lift_chain
theorem qt_chain {op op' : CmpOp} {r r' : DR2} (ho : OpR X (compareOp op) (liftO X.K r)) (ho' : OpR X (compareOp op') (liftO X.K r')) (ha : PE X a (liftE X.K ta)) (hb : PE X b (liftE X.K tb)) (hc : PE X c (liftE X.K tc))
    (hm : lastMarks [op, op'] [b, c] = false := by with_unfolding_all rfl) : PT X (.Compare a [op, op'] [b, c] pos) (liftT X.K (dTb (dChain r r' ta tb tc))) :=
  PT.imp (pt_chain ho ho' ha hb hc hm) fun σ H Q ⟨δ, S, Q0, hr, hs, h, hq⟩ => lift_chain σ H _ ⟨δ, S, _, hr, hs, h, fun d S' v H' q r s a => by
    cases d with
    | bl k => cases r; exact ⟨k, rfl, hq k S' H' q s a⟩
    | _ => exact q.elim⟩
def dPar (i j : Nat) (t : DA) : DSt := fun D δ S => t δ S fun ds S1 => match ds with
  | [d, e] => D.nx ((δ.set i (some d)).set j (some e)) S1
  | _ => False
theorem qs_par {i j : Nat} {x y : Str} {a b : Expr} {t : DA} {px py pt : Pos} {kt k2 pt2} (hc : X.calm = true) (hN : X.N.Nodup) (hi : X.N[i]? = some x) (hj : X.N[j]? = some y) (hij : i ≠ j)
    (hx : X.env.scope.names.lookup x = some .local) (hy : X.env.scope.names.lookup y = some .local) (ha : PA X [a, b] (liftA X.K t))
    (hw : swappedStores [.Tuple [.Name x px, .Name y py] kt pt] (.Tuple [a, b] k2 pt2) X.env = pure (some [x, y]))
    (hs : swapsWithSole [.Tuple [.Name x px, .Name y py] kt pt] (.Tuple [a, b] k2 pt2) pos.line X.env = pure false := by rfl) :
    PS X (.Assign [.Tuple [.Name x px, .Name y py] kt pt] (.Tuple [a, b] k2 pt2) pos) (liftS X.K (dPar i j t)) :=
  PS.imp (ps_par hc hN hi hj hij hx hy ha hw hs) fun E σ H ⟨δ, S, D0, hr, hsim, h, cv⟩ => ⟨δ, S, _, hr, hsim, h, fun ds S1 vs H1 h1 r1 s1 a1 => by
    match ds, h1, r1 with
    | [d, e], h1, r1 =>
      obtain ⟨v, w, rfl, rd, re⟩ := r1.two
      exact ⟨v, w, rfl, cv.nx _ S1 _ H1 h1 (((hr.stp a1).set rd).set re) s1 a1⟩⟩
/-- a constant of the module -/
def GlobD (K : PySem.W.Frag) (mg : Str → Option Value) (x : Str) (d : D) : Prop := ∃ u v, mg x = some u ∧ RelV v u ∧ ∀ H, Rv K H d v
theorem qe_glob {x : Str} {d : D} (g : GlobD X.K X.mg x d) (hg : Gl X x) (hd : (x == ("__debug__" : Str)) = false := by decide) : PE X (.Name x pos) (liftE X.K (dC d)) := by
  obtain ⟨u, v, h1, h2, h3⟩ := g
  exact qe_const (pe_glob hg h1 h2 hd) h3
theorem qe_ty {x : Str} {n : String} (hg : Gl X x) (hm : X.mg x = none) (hv : bootBuiltins x = some (.type n)) (hn : x ≠ "__name__" := by decide) (hd : (x == ("__debug__" : Str)) = false := by decide) : PE X (.Name x pos) (liftE X.K (dC (.ty n))) :=
  qe_const (pe_bltn (v := .ty n) hg hm hv rfl hn hd) fun _ => .ty n
theorem hu100 {k : Nat} {A : Around} (h : Room k A) : A.units + 100 < cLine := by have := h.un; omega
theorem okb {N : List Str} {sc scope : Scope} {own : List (Str × Nat)} (h : blkC N sc scope own = true) : blkC N sc scope own = true := h
end
theorem law_sp {K : PySem.W.Frag} {c : DF} {np : Nat} (hnp : np = 1) {H : Hp} {a : Addr} {ns : List Int} (hO : Only H) (hS : SqL K H a (ns.map V.int)) {E : XK}
    (h : c [.fl (ns.map D.int)] (fun _ => none) fun d _ => d = .bl true) : liftF K np c [.ref a] H (fun v _ => v = .bl true) E := by
  refine ⟨hnp.symm, [.fl (ns.map D.int)], fun _ => none, _, .cons (.fl ?_ (RvL.ints ns)) .nil, fun _ _ e => (nomatch e), h, fun d S' v H' e r _ _ => ?_⟩
  · rcases hS with (hS | ⟨o, hS⟩) | hS
    · rcases hO a with z | ⟨o, xs, z⟩
      · rw [z] at hS; cases hS
      · rw [z] at hS; cases hS
    · exact .inl ⟨o, hS⟩
    · exact .inr hS
  · subst e; cases r; rfl
theorem walk_end {l : PySem.W.OpenLaw} {k : Nat} {q : Program} {loose : List Str} {XP : (Str → Option Value) → Heap → Prop} {YP : World → Heap → Prop} {d : DefRec} {K : Params → PySem.W.Frag} {fs : Nat → FnD} {i : Nat}
    (hn : l.most = some 63) (hdf : d.params.defaults = []) (hr : Room k callerA) (hnp : (fs i).np = 1)
    (hY : ∀ (w : World) (h : Heap), YP w h → (K w.params).In h)
    (F : ∀ (w : World) (mg : Str → Option Value) (fa : Addr) (h : Heap), (K w.params).In h → h.Ns mainGlobals mg → mg d.name = some (.ref fa) →
      ∃ fd : FuncData, (∀ (s : Shared) (u : Value), BindsTo s fd ⟨[u], []⟩ [("script", u)]) ∧
        ∀ base : Heap, (K w.params).In base → base.Ns mainGlobals mg → FnOk l.prog w (K w.params) mg base CX0 k fa fd ["script"] (liftF (K w.params) (fs i).np (sem fs k i)))
    (law : ∀ ns : List Int, ns.length ≤ 63 → sem fs k i [.fl (ns.map D.int)] (fun _ => none) fun d _ => d = .bl true) :
    PySem.W.WalkO q loose XP YP l.row.toRowW d [] (fun f vs => PySem.call f vs) :=
  L2.walk_of (n := 63) (k := k) (x := "script") (CX := fun _ => CX0) (sp := fun w => liftF (K w.params) (fs i).np (sem fs k i)) hn (by decide) hdf hr hY F
    (fun w H a ns hl hO hS => law_sp hnp.symm.symm hO hS (law ns hl)) fun _ _ _ _ _ z => z
end DL
namespace DL
open PySem PySem.Spec PyProof.Rows L2
section
variable {prog : Program} {w : World} {A : Around} {E : Value → Shared → Prop} {s : Shared}
theorem places_rev (n : Nat) : Builtin.Slice.slicePlaces ((n : Int) - 1) (-1) (-1) = n := by
  unfold Builtin.Slice.slicePlaces
  rw [if_neg (by decide)]
  by_cases h : (n : Int) - 1 > -1
  · rw [if_pos h, show -(-1 : Int) = 1 by decide, Int.ediv_one]; omega
  · rw [if_neg h]; omega
theorem sliceApplied_rev {sl : Addr} {vs : Value} {n : Nat} {Q : Int × Int × Nat → Shared → Prop} (hs : s.heap.IsSliceOf sl .none .none vs) (ps : IsPart vs (some (-1)))
    (h : Q ((n : Int) - 1, -1, n) s) : wpAny (model prog w) A (Builtin.Slice.sliceApplied (.ref sl) (pure (n : Int))) Q E s := by
  obtain ⟨os, hos, hcs, hds⟩ := id hs
  unfold Builtin.Slice.sliceApplied Builtin.Slice.sliceFields
  refine wpAny_bind (wpAny_bind (wpAny_field hos hds (x := .none) rfl (wpAny_bind (wpAny_field hos hds (x := .none) rfl (wpAny_bind (wpAny_field hos hds (x := vs) rfl (wpAny_pure ?_)))))))
  refine wpAny_bind (HT.slicePart_ ps ?_)
  show wpAny _ _ (if ((-1 : Int) == 0) = true then _ else _) _ _ s
  rw [if_neg (by decide)]
  refine wpAny_bind (slicePart_none (wpAny_bind (slicePart_none (wpAny_bind (wpAny_pure ?_)))))
  show wpAny _ _ (pure ((n : Int) - 1, (-1 : Int), Builtin.Slice.slicePlaces ((n : Int) - 1) (-1) (-1))) _ _ s
  rw [places_rev]
  exact wpAny_pure h
theorem pick_rev (xs : Array Value) : ((List.range xs.size).filterMap fun (m : Nat) => xs[((xs.size : Int) - 1 + (m : Int) * -1).toNat]?).toArray = xs.toList.reverse.toArray := by
  congr 1
  apply List.ext_getElem?
  intro i
  have e : ∀ m ∈ List.range xs.size, xs[((xs.size : Int) - 1 + (m : Int) * -1).toNat]? = some (xs.getD (xs.size - 1 - m) .none) := by
    intro m hm
    rw [List.mem_range] at hm
    rw [show ((xs.size : Int) - 1 + (m : Int) * -1).toNat = xs.size - 1 - m by omega]
    rw [Array.getElem?_eq_getElem (by omega)]
    simp [Array.getD, show xs.size - 1 - m < xs.size by omega]
  have e2 : (List.range xs.size).filterMap (fun (m : Nat) => xs[((xs.size : Int) - 1 + (m : Int) * -1).toNat]?) = (List.range xs.size).map fun m => xs.getD (xs.size - 1 - m) .none := by
    rw [← List.filterMap_eq_map]
    generalize List.range xs.size = l at e
    induction l with
    | nil => rfl
    | cons a r ih => simp only [List.filterMap_cons, e a (List.mem_cons_self ..), ih fun m hm => e m (List.mem_cons_of_mem _ hm), Function.comp]
  rw [e2, List.getElem?_map]
  by_cases h : i < xs.size
  · rw [List.getElem?_range h, List.getElem?_reverse (by rw [Array.length_toList]; exact h), Array.length_toList, Array.getElem?_toList, Array.getElem?_eq_getElem (by omega)]
    simp [Array.getD, show xs.size - 1 - i < xs.size by omega]
  · rw [List.getElem?_eq_none (by rw [List.length_range]; omega), List.getElem?_eq_none (by rw [List.length_reverse, Array.length_toList]; omega)]; rfl
theorem getItem_tuple_rev {t sl : Addr} {items : Array Value} {vs : Value} {Q : Value → Shared → Prop} (ht : IsTup s.heap t items) (hs : s.heap.IsSliceOf sl .none .none vs) (ps : IsPart vs (some (-1)))
    (h : Q (.ref s.heap.objs.size) { s with heap := s.heap.push { cls := .type "tuple", data := .seq items.toList.reverse.toArray } })
    (hsz : items.size ≤ sizeLine) : wpAny (model prog w) A (getItem (.ref t) (.ref sl)) Q E s := by
  have htake : sizeOk (.seq items.toList.reverse.toArray) := by
    show items.toList.reverse.toArray.size ≤ sizeLine
    rw [List.size_toArray, List.length_reverse, Array.length_toList]
    omega
  obtain ⟨os, hos, hcs, hds⟩ := id hs
  have hTs : s.TypeIs (.ref sl) "slice" := ⟨os, hos, hcs⟩
  unfold getItem
  try with_reducible refine wpAny_holding ?_
  first | refine wpAny_bind (wpAny_pure ?_) | skip
  refine wpAny_bind (wpAny_sequenceKey ht.typeIs (by decide) ?_)
  refine wpAny_bind (wpAny_callSpecial?_slot (name := Str.ofString "__getitem__") ht.typeIs PyProof.Rows.slot_tuple_getitem
    (wpAny_call_entry PyProof.Rows.slot_tuple_getitem ht.typeIs entry_tuple_getitem ?_ (args_tuple_getitem _ _)))
  show wpAny _ _ (Builtin.Tuple.tupleItemsOf (.ref t) >>= _) _ _ s
  refine wpAny_bind (tupleItemsOf_ ht ?_)
  refine wpAny_bind (wpAny_typeOf hTs ?_)
  rw [if_pos (by decide)]
  refine wpAny_bind (sliceApplied_rev (n := items.size) hs ps ?_)
  have hno : ¬ (((((items.size : Nat) : Int) - 1) == 0 && (-1 : Int) == 1 && items.size == items.size) = true) := by
    rw [show ((-1 : Int) == 1) = false by decide, Bool.and_false, Bool.false_and]; exact Bool.false_ne_true
  show wpAny _ _ (if ((((items.size : Nat) : Int) - 1) == 0 && (-1 : Int) == 1 && items.size == items.size) = true then _ else _) _ _ s
  rw [if_neg hno, pick_rev]
  first
    | exact wpAny_bind (m := Builtin.Tuple.tupleExact _) (wpAny_newObj_type (wpAny_pure ⟨_, rfl, wpAny_pure h⟩) htake)
    | exact wpAny_bind (m := Builtin.Tuple.tupleExact _) (wpAny_newObj_type (wpAny_bind (wpAny_pure (wpAny_pure ⟨_, rfl, wpAny_pure h⟩))) htake)
    | exact wpAny_bind (wpAny_bind (m := Builtin.Tuple.tupleExact _) (wpAny_newObj_type (wpAny_pure (wpAny_pure ⟨_, rfl, wpAny_pure h⟩)) htake))
    | exact wpAny_bind (wpAny_bind (m := Builtin.Tuple.tupleExact _) (wpAny_newObj_type (wpAny_pure ⟨_, rfl, wpAny_pure h⟩) htake))
end
section
variable {X : Cx} {e : Expr} {te : DE}
/-- x[::-1] of a list or a tuple -/
def dRvS (te : DE) : DE := fun δ S Q => te δ S fun x S1 => match x with
  | .tup xs => Q (.tup xs.reverse) S1
  | x => match lstOf S1 x with
    | some xs => ∀ p, S1 p = none → Q (.ref p) (dupd S1 p (.lst xs.reverse))
    | none => False
def tRevA (K : PySem.W.Frag) (te : TE) : TE := fun σ H Q => te σ H fun x H1 => ∃ a xs, x = .ref a ∧ ((SqL K H1 a xs ∧ ∀ p, H1 p = none → Q (.ref p) (upd H1 p (.lst xs.reverse))) ∨ (SqT K H1 a xs ∧ ∀ p, H1 p = none → Q (.ref p) (upd H1 p (.tup xs.reverse))))
theorem pe_revA {te : TE} {k : Nat} {p1 p2 p3 pos : Pos} (he : PE X e te) : PE X (.Subscript e (.Slice none none (some (.UnaryOp .USub (.Constant (.int 1) k p1) p2)) p3) pos) (tRevA X.K te) := by
  refine ⟨fun pins s σ H Q I h => ?_⟩
  refine Subscript_ (thn (he.run pins s σ H _ I h) fun v s1 ⟨x, H1, I1, r1, q1⟩ => ?_)
  obtain ⟨a, xs, ex, hx⟩ := q1
  subst ex
  cases r1
  have hst : PO X (some (.UnaryOp .USub (.Constant (.int 1) k p1) p2)) (tPart (tUn (rU fun i => .int (-i)) (tC (.int 1)))) := po_some (pe_un un_neg pe_int)
  refine wpAny_Slice (thn (po_none.run pins s1 σ H1 (fun o H2 => o = none ∧ H2 = H1) I1 ⟨rfl, rfl⟩) fun vl s2 ⟨l, H2, I2, pl, el, e2⟩ => ?_)
  subst el e2
  refine thn (po_none.run pins s2 σ H2 (fun o H3 => o = none ∧ H3 = H2) I2 ⟨rfl, rfl⟩) fun vu s3 ⟨u, H3, I3, pu, eu, e3⟩ => ?_
  subst eu e3
  refine thn (hst.run pins s3 σ H3 (fun o H4 => o = some (-1) ∧ H4 = H3) I3 ⟨1, rfl, -1, rfl, rfl, rfl⟩) fun vs s4 ⟨o, H4, I4, ps, eo, e4⟩ => ?_
  subst eo e4
  have I5 : Inv X pins σ H4 { s4 with heap := s4.heap.push { cls := .type "slice", data := .fields #[vl, vu, vs] } } := I4.kept (t' := s4.toks) fun b ob q => Heap.get?_push_of_some _ q
  rcases hx with ⟨hx, q⟩ | ⟨hx, q⟩
  · obtain ⟨its, r, ht, hz⟩ := I5.list hx
    have hlen := r.length
    show wpAny (model X.prog X.w) X.A (subscriptTail e (.Slice none none (some (.UnaryOp .USub (.Constant (.int 1) k p1) p2)) p3) (.ref a) (.ref s4.heap.objs.size)) (EP X pins σ Q) X.xe { s4 with heap := s4.heap.push { cls := .type "slice", data := .fields #[vl, vu, vs] } }
    refine tail_any (ops := [.ref a, .ref s4.heap.objs.size]) ht.isList.typeIs (PySem.slot_list_getitem.lookup) ?_ (by with_unfolding_all rfl)
    refine wpAny_getItem_list_slice ht.isList (Heap.IsSliceOf.new _ vl vu vs) pl pu ps (by decide) ?_ (by rw [List.size_toArray]; omega)
    rw [PySem.W.krv_pick]
    refine ⟨.ref _, _, I5.laid (t' := s4.toks) (o := .lst xs.reverse) (fun b ob q => Heap.get?_push_of_some _ q) (Nat.le_refl _) ?_, rfl, q _ (I5.hok.fresh (Nat.le_refl _))⟩
    exact ⟨by rw [List.length_reverse]; exact hz, _, 0, r.reverse, Heap.get?_push_size _ rfl⟩
  · obtain ⟨its, r, ht, hz⟩ := I5.tuple hx
    have hlen := r.length
    show wpAny (model X.prog X.w) X.A (subscriptTail e (.Slice none none (some (.UnaryOp .USub (.Constant (.int 1) k p1) p2)) p3) (.ref a) (.ref s4.heap.objs.size)) (EP X pins σ Q) X.xe { s4 with heap := s4.heap.push { cls := .type "slice", data := .fields #[vl, vu, vs] } }
    refine tail_any (ops := [.ref a, .ref s4.heap.objs.size]) ht.typeIs (PyProof.Rows.slot_tuple_getitem.lookup) ?_ (by with_unfolding_all rfl)
    cases pl
    cases pu
    refine getItem_tuple_rev ht (Heap.IsSliceOf.new _ .none .none vs) ps ?_ (by rw [List.size_toArray]; omega)
    refine ⟨.ref _, _, I5.laid (t' := s4.toks) (o := .tup xs.reverse) (fun b ob q => Heap.get?_push_of_some _ q) (Nat.le_refl _) ?_, rfl, q _ (I5.hok.fresh (Nat.le_refl _))⟩
    exact ⟨by rw [List.length_reverse]; exact hz, _, r.reverse, IsTup.new _ _⟩
theorem qe_revS {k : Nat} {p1 p2 p3 pos : Pos} (he : PE X e (liftE X.K te)) : PE X (.Subscript e (.Slice none none (some (.UnaryOp .USub (.Constant (.int 1) k p1) p2)) p3) pos) (liftE X.K (dRvS te)) :=
  PE.imp (pe_revA he) fun σ H Q ⟨δ, S, Q0, hr, hs, h, hq⟩ => ⟨δ, S, _, hr, hs, h, fun x S1 v H1 h1 r1 s1 a1 => by
    have lst : ∀ xs, lstOf S1 x = some xs → (∀ p, S1 p = none → Q0 (.ref p) (dupd S1 p (.lst xs.reverse))) → ∃ a ys, v = .ref a ∧ ((SqL X.K H1 a ys ∧ ∀ p, H1 p = none → Q (.ref p) (upd H1 p (.lst ys.reverse))) ∨ (SqT X.K H1 a ys ∧ ∀ p, H1 p = none → Q (.ref p) (upd H1 p (.tup ys.reverse)))) := fun xs e h => by
      obtain ⟨a, vs, rfl, hv, r⟩ := lst_of s1 r1 e
      exact ⟨a, vs, rfl, .inl ⟨hv, fun p hp => hq _ _ _ _ (h p (s1.fresh hp)) (.ref p) (s1.new hp ⟨_, upd_same, (Stp.laid (S := S1) hp).rvl r.reverse⟩) (a1.trans (Stp.new hp))⟩⟩
    cases x with
    | tup xs =>
      cases r1 with
      | @tup a vs _ q r => exact ⟨a, vs, rfl, .inr ⟨q, fun p hp => hq _ _ _ _ h1 (.tup (.inl (.inl upd_same)) ((Stp.laid (S := S1) hp).rvl r.reverse)) (s1.laid hp) (a1.trans (Stp.laid hp))⟩⟩
    | ref a =>
      have h1' : (match lstOf S1 (.ref a) with
        | some xs => ∀ p, S1 p = none → Q0 (.ref p) (dupd S1 p (.lst xs.reverse))
        | none => False) := h1
      split at h1'
      · rename_i xs e; exact lst xs e h1'
      · exact h1'.elim
    | fl xs => exact lst xs rfl h1
    | _ => exact h1.elim⟩
end
def isMax (ns : List Int) (m : Int) : Prop := m ∈ ns ∧ ∀ y ∈ ns, y ≤ m
def isMin (ns : List Int) (m : Int) : Prop := m ∈ ns ∧ ∀ y ∈ ns, m ≤ y
def bMax1 : DRs := fun ds S Q => match ds with
  | [d] => match lstOf S d with
    | some xs => ∃ ns : List Int, xs = ns.map D.int ∧ ns ≠ [] ∧ ∀ m, isMax ns m → Q (.int m) S
    | none => False
  | _ => False
def bMin1 : DRs := fun ds S Q => match ds with
  | [d] => match lstOf S d with
    | some xs => ∃ ns : List Int, xs = ns.map D.int ∧ ns ≠ [] ∧ ∀ m, isMin ns m → Q (.int m) S
    | none => False
  | _ => False
section
variable {X : Cx}
theorem dcall_max1 (hc : X.calm = true) : CallR X (.builtin "max") (liftC X.K bMax1) := dl_call fun pins s σ H ds xs us S Q Q0 I ru rv hs hr hq => by
  match ds, hr, rv with
  | [d], hr, rv =>
    obtain ⟨v, rfl, rd⟩ := rv.one
    have hr' : (match lstOf S d with
      | some xs => ∃ ns : List Int, xs = ns.map D.int ∧ ns ≠ [] ∧ ∀ m, isMax ns m → Q0 (.int m) S
      | none => False) := hr
    split at hr'
    · rename_i zs e
      obtain ⟨ns, rfl, hn, q⟩ := hr'
      obtain ⟨a, ws, rfl, hv, r⟩ := lst_of hs rd e
      exact cr_max hc pins s σ H _ us Q I ru ⟨a, ns, rfl, by rw [← rvl_ints r]; exact hv, List.length_pos_iff.mpr hn, fun m h1 h2 => hq _ _ _ _ (q m ⟨h1, h2⟩) (.int _) hs (.refl _ _)⟩
    · exact hr'.elim
theorem dcall_min1 (hc : X.calm = true) : CallR X (.builtin "min") (liftC X.K bMin1) := dl_call fun pins s σ H ds xs us S Q Q0 I ru rv hs hr hq => by
  match ds, hr, rv with
  | [d], hr, rv =>
    obtain ⟨v, rfl, rd⟩ := rv.one
    have hr' : (match lstOf S d with
      | some xs => ∃ ns : List Int, xs = ns.map D.int ∧ ns ≠ [] ∧ ∀ m, isMin ns m → Q0 (.int m) S
      | none => False) := hr
    split at hr'
    · rename_i zs e
      obtain ⟨ns, rfl, hn, q⟩ := hr'
      obtain ⟨a, ws, rfl, hv, r⟩ := lst_of hs rd e
      exact cr_min hc pins s σ H _ us Q I ru ⟨a, ns, rfl, by rw [← rvl_ints r]; exact hv, List.length_pos_iff.mpr hn, fun m h1 h2 => hq _ _ _ _ (q m ⟨h1, h2⟩) (.int _) hs (.refl _ _)⟩
    · exact hr'.elim
def fInsert : List D → List D → Option (D × List D) := fun xs ds => match ds with
  | [.int i, y] => if 0 ≤ i ∧ i < 2 ^ 63 then some (.non, xs.take i.toNat ++ [y] ++ xs.drop i.toNat) else none
  | _ => none
theorem dmt_insert : MtR X "list.insert" (liftM X.K (mLst fInsert)) := dl_m fun pins s σ H d ds x xs v us S Q Q0 I rx ru rd rds hs hr hq => by
  obtain ⟨a, zs, r, ys, rfl, ea, ef, hl, q⟩ := mLst_get hr
  match ds, ef, rds with
  | [.int i, y], ef, rds =>
    have ef' : (if 0 ≤ i ∧ i < 2 ^ 63 then some (D.non, zs.take i.toNat ++ [y] ++ zs.drop i.toNat) else none) = some (r, ys) := ef
    split at ef'
    · rename_i hi
      cases ef'
      cases rd
      obtain ⟨w1, w2, rfl, r1, r2⟩ := rds.two
      cases r1
      obtain ⟨vs, h1, rr⟩ := hs.lst ea
      have hlen : zs.length < sizeLine := by
        rw [szl]
        simp only [List.length_append, List.length_take, List.length_drop, List.length_singleton] at hl
        omega
      refine mt_insert pins s σ H _ _ v us Q I rx ru ⟨a, vs, i, w2, rfl, rfl, h1, by rw [← rr.length]; exact hlen, hi.1, hi.2, hq _ _ _ _ q .non (hs.write ea ⟨_, upd_same, ?_⟩) (Stp.write hs ea)⟩
      exact (((rr.take _).append (.cons r2 .nil)).append (rr.drop _)).updL h1
    · cases ef'
abbrev DRg := Loc → DS → (Int → Int → DS → Prop) → Prop
def dRg1 (ta : DE) : DRg := fun δ S Q => ta δ S fun x S1 => match x with
  | .int j => Q 0 j S1
  | _ => False
def dRg2 (ta tb : DE) : DRg := fun δ S Q => ta δ S fun x S1 => tb δ S1 fun y S2 => match x, y with
  | .int i, .int j => Q i j S2
  | _, _ => False
def liftRg (K : PySem.W.Frag) (t : DRg) : L2.St → Hp → (Int → Int → Hp → Prop) → Prop := fun σ H Q => ∃ δ S Q0, Rst K H δ σ ∧ Sim K S H ∧ t δ S Q0 ∧ ∀ i j S' H', Q0 i j S' → Sim K S' H' → Stp S H S' H' → Q i j H'
theorem PRg.imp {e : Expr} {t t' : L2.St → Hp → (Int → Int → Hp → Prop) → Prop} (p : PRg X e t) (h : ∀ σ H Q, t' σ H Q → t σ H Q) : PRg X e t' := fun pins s σ H Q I hw => p pins s σ H Q I (h _ _ _ hw)
theorem qr_1 {a : Expr} {ta : DE} {p pos : Pos} (hg : Gl X "range") (hm : X.mg "range" = none) (ha : PE X a (liftE X.K ta)) (na : starEach [a] X.env = (false, eval a X.env) :: starEach [] X.env := by rfl) : PRg X (.Call (.Name "range" p) [a] [] pos) (liftRg X.K (dRg1 ta)) :=
  PRg.imp (prg_1 hg hm ha na) fun σ H Q ⟨δ, S, Q0, hr, hs, h, hq⟩ => ⟨δ, S, _, hr, hs, h, fun d S1 v H1 q r s1 a1 => by
    cases d with
    | int j => cases r; exact ⟨j, rfl, hq _ _ _ _ q s1 a1⟩
    | _ => exact q.elim⟩
theorem qr_2 {a b : Expr} {ta tb : DE} {p pos : Pos} (hg : Gl X "range") (hm : X.mg "range" = none) (ha : PE X a (liftE X.K ta)) (hb : PE X b (liftE X.K tb)) (na : starEach [a, b] X.env = (false, eval a X.env) :: starEach [b] X.env := by rfl)
    (nb : starEach [b] X.env = (false, eval b X.env) :: starEach [] X.env := by rfl) (hp : (backTo pos (starEach [b] X.env)).any (·.1) = false := by rfl) : PRg X (.Call (.Name "range" p) [a, b] [] pos) (liftRg X.K (dRg2 ta tb)) :=
  PRg.imp (prg_2 hg hm ha hb na nb hp) fun σ H Q ⟨δ, S, Q0, hr, hs, h, hq⟩ => ⟨δ, S, _, hr, hs, h, fun d S1 v H1 q r s1 a1 => ⟨δ, S1, _, hr.stp a1, s1, q, fun e S2 u H2 q2 r2 s2 a2 => by
    cases d with
    | int i =>
      cases r
      cases e with
      | int j => cases r2; exact ⟨i, j, rfl, rfl, hq _ _ _ _ q2 s2 (a1.trans a2)⟩
      | _ => exact q2.elim
    | _ => cases e <;> exact q2.elim⟩⟩
theorem rvl_rg {K : PySem.W.Frag} {H : Hp} {a b : Int} : RvL K H (rngL a (b - a).toNat) (rgV a b) := by
  unfold rngL rgV
  generalize List.range (b - a).toNat = l
  induction l with
  | nil => exact .nil
  | cons x r ih => exact .cons (.int _) ih
def dLstRg (t : DRg) : DE := fun δ S Q => t δ S fun a b S1 => RgOk a b ∧ ∀ p, S1 p = none → Q (.ref p) (dupd S1 p (.lst (rngL a (b - a).toNat)))
def dTupRg (t : DRg) : DE := fun δ S Q => t δ S fun a b S1 => RgOk a b ∧ Q (.tup (rngL a (b - a).toNat)) S1
theorem qe_listRg {e : Expr} {t : DRg} {p pos : Pos} (hc : X.calm = true) (hg : Gl X "list") (hm : X.mg "list" = none) (he : PRg X e (liftRg X.K t)) (na : starEach [e] X.env = (false, eval e X.env) :: starEach [] X.env := by rfl) : PE X (.Call (.Name "list" p) [e] [] pos) (liftE X.K (dLstRg t)) :=
  PE.imp (pe_listRg hc hg hm he na) fun σ H Q ⟨δ, S, Q0, hr, hs, h, hq⟩ => ⟨δ, S, _, hr, hs, h, fun a b S1 H1 q s1 a1 => ⟨q.1, fun p hp => hq _ _ _ _ (q.2 p (s1.fresh hp)) (.ref p) (s1.new hp ⟨_, upd_same, rvl_rg⟩) (a1.trans (Stp.new hp))⟩⟩
theorem qe_tupRg {e : Expr} {t : DRg} {p pos : Pos} (hc : X.calm = true) (hg : Gl X "tuple") (hm : X.mg "tuple" = none) (he : PRg X e (liftRg X.K t)) (na : starEach [e] X.env = (false, eval e X.env) :: starEach [] X.env := by rfl) : PE X (.Call (.Name "tuple" p) [e] [] pos) (liftE X.K (dTupRg t)) :=
  PE.imp (pe_tupRg hc hg hm he na) fun σ H Q ⟨δ, S, Q0, hr, hs, h, hq⟩ => ⟨δ, S, _, hr, hs, h, fun a b S1 H1 q s1 a1 => ⟨q.1, fun p hp => hq _ _ _ _ q.2 (.tup (.inl (.inl upd_same)) rvl_rg) (s1.laid hp) (a1.trans (Stp.laid hp))⟩⟩
/-- ints with a step -/
def rngC (lo c : Int) (n : Nat) : List D := (List.range n).map fun i => D.int (lo + (i : Nat) * c)
theorem jok_rngC {K : PySem.W.Frag} {H0 : Hp} {lo c : Int} {n : Nat} {stay : DS → Prop} : JOk K H0 (rngC lo c n) stay (Itc lo c n) := by
  intro i S H p hs st
  refine ⟨fun hi => by rw [rngC, List.length_map, List.length_range] at hi; exact hi, fun d hd => ?_⟩
  rw [rngC, List.getElem?_map] at hd
  obtain ⟨z, h1, h2⟩ := Option.map_eq_some_iff.mp hd
  subst h2
  obtain ⟨h3, h4⟩ := List.getElem?_eq_some_iff.mp h1
  rw [List.length_range] at h3
  rw [List.getElem_range] at h4
  subst h4
  refine ⟨h3, fun x H' ⟨e, e3⟩ => ?_⟩
  subst e e3
  exact ⟨.int _, hs, .refl _ _⟩
def dRevR (t : DRg) : DI := fun δ S Q => t δ S fun a b S1 => (-(2 ^ 62) ≤ a ∧ a < 2 ^ 62 ∧ -(2 ^ 62) ≤ b ∧ b < 2 ^ 62) ∧ Q (rngC (a + (((b - a).toNat : Nat) : Int) - 1) (-1) (b - a).toNat) (fun _ => True) S1
theorem qi_revR {tg e : Expr} {t : DRg} {p pos : Pos} (hg : Gl X "reversed") (hm : X.mg "reversed" = none) (he : PRg X e (liftRg X.K t)) (hs : starEach [e] X.env = (false, eval e X.env) :: starEach [] X.env := by rfl) : PI X tg (.Call (.Name "reversed" p) [e] [] pos) (liftI X.K (dRevR t)) :=
  PI.imp (pi_revR hg hm he hs) fun σ H R ⟨δ, S, Q0, hr, hs, h, hq⟩ => ⟨δ, S, _, hr, hs, h, fun a b S1 H1 q s1 a1 => ⟨q.1.1, q.1.2.1, q.1.2.2.1, q.1.2.2.2, hq _ _ _ _ _ q.2 s1 a1 jok_rngC⟩⟩
def dRng3 (t : DA) : DI := fun δ S Q => t δ S fun ds S1 => match ds with
  | [.int i, .int j, .int c] => ∃ n, RgC i j c n ∧ Q (rngC i c n) (fun _ => True) S1
  | _ => False
theorem RvL.three {K : PySem.W.Frag} {H : Hp} {d e f : D} {vs : List V} (r : RvL K H [d, e, f] vs) : ∃ v w x, vs = [v, w, x] ∧ Rv K H d v ∧ Rv K H e w ∧ Rv K H f x := by
  cases r with
  | cons q rr =>
    obtain ⟨v, w, rfl, r1, r2⟩ := rr.two
    exact ⟨_, v, w, rfl, q, r1, r2⟩
theorem qi_range3 {tg a b c : Expr} {t : DA} {p pos : Pos} (hg : Gl X "range") (hm : X.mg "range" = none) (ha : PA X [a, b, c] (liftA X.K t))
    (hs : starEach [a, b, c] X.env = (false, eval a X.env) :: starEach [b, c] X.env := by rfl) (hpl : (backTo pos (starEach [b, c] X.env)).any (·.1) = false := by rfl) : PI X tg (.Call (.Name "range" p) [a, b, c] [] pos) (liftI X.K (dRng3 t)) :=
  PI.imp (pi_range3 hg hm ha hs hpl) fun σ H R ⟨δ, S, Q0, hr, hs, h, hq⟩ => ⟨δ, S, _, hr, hs, h, fun ds S1 vs H1 h1 r1 s1 a1 => by
    match ds, h1, r1 with
    | [.int i, .int j, .int c], h1, r1 =>
      obtain ⟨v, w, x, rfl, rd, re, rf⟩ := r1.three
      cases rd
      cases re
      cases rf
      obtain ⟨n, hn, q⟩ := h1
      exact ⟨i, j, c, n, rfl, hn, hq _ _ _ _ _ q s1 a1 jok_rngC⟩⟩
/-- zip of two lists, of two tuples -/
def dZip (t : DA) : DI := fun δ S Q => t δ S fun ds S1 => match ds with
  | [.tup xs, .tup ys] => Q ((List.zip xs ys).map fun p => D.tup [p.1, p.2]) (fun _ => True) S1
  | [x, y] => match lstOf S1 x, lstOf S1 y with
    | some xs, some ys => Q ((List.zip xs ys).map fun p => D.tup [p.1, p.2]) (fun S' => lstOf S' x = some xs ∧ lstOf S' y = some ys) S1
    | _, _ => False
  | _ => False
theorem zip_get {xs ys : List D} {i : Nat} {d : D} (h : ((List.zip xs ys).map fun p => D.tup [p.1, p.2])[i]? = some d) : ∃ x y, xs[i]? = some x ∧ ys[i]? = some y ∧ d = .tup [x, y] := by
  rw [List.getElem?_map] at h
  obtain ⟨⟨x, y⟩, h1, h2⟩ := Option.map_eq_some_iff.mp h
  rw [List.getElem?_zip_eq_some] at h1
  exact ⟨x, y, h1.1, h1.2, h2.symm⟩
theorem jok_zip {K : PySem.W.Frag} {H0 : Hp} {a b : Addr} {xs ys : List D} {stay : DS → Prop} (h : ∀ S H, Prs H0 H → Sim K S H → stay S → (∃ vs, SqL K H a vs ∧ RvL K H xs vs) ∧ ∃ vs, SqL K H b vs ∧ RvL K H ys vs) : JOk K H0 ((List.zip xs ys).map fun p => D.tup [p.1, p.2]) stay (Itz K a b) := by
  intro i S H p hs st
  obtain ⟨⟨vs, h1, r⟩, ⟨ws, h2, r2⟩⟩ := h S H p hs st
  refine ⟨fun hi => ⟨vs, ws, h1, h2, ?_⟩, fun d hd => ?_⟩
  · rw [List.length_map, List.length_zip] at hi
    rw [← r.length, ← r2.length]
    omega
  · obtain ⟨x, y, hx, hy, rfl⟩ := zip_get hd
    obtain ⟨v, k1, k2⟩ := r.get hx
    obtain ⟨u, k3, k4⟩ := r2.get hy
    refine ⟨⟨vs, ws, v, u, h1, h2, k1, k3⟩, fun x' H' ⟨T, v', u', e1, e2, e3, e4, e5⟩ => ?_⟩
    have q1 := e4 vs h1
    rw [k1] at q1
    cases q1
    have q2 := e5 ws h2
    rw [k3] at q2
    cases q2
    subst e1 e3
    exact ⟨.tup (.inl (.inl upd_same)) (.cons ((Stp.laid (S := S) e2).rv k2) (.cons ((Stp.laid (S := S) e2).rv k4) .nil)), hs.laid e2, Stp.laid e2⟩
theorem jok_zipT {K : PySem.W.Frag} {H0 : Hp} {a b : Addr} {xs ys : List D} {vs ws : List V} {stay : DS → Prop} (h1 : SqT K H0 a vs) (r : RvL K H0 xs vs) (h2 : SqT K H0 b ws) (r2 : RvL K H0 ys ws) : JOk K H0 ((List.zip xs ys).map fun p => D.tup [p.1, p.2]) stay (RZ.ItzT K a b) := by
  intro i S H p hs st
  refine ⟨fun hi => ⟨vs, ws, p.sqT h1, p.sqT h2, ?_⟩, fun d hd => ?_⟩
  · rw [List.length_map, List.length_zip] at hi
    rw [← r.length, ← r2.length]
    omega
  · obtain ⟨x, y, hx, hy, rfl⟩ := zip_get hd
    obtain ⟨v, k1, k2⟩ := r.get hx
    obtain ⟨u, k3, k4⟩ := r2.get hy
    refine ⟨⟨vs, ws, v, u, p.sqT h1, p.sqT h2, k1, k3⟩, fun x' H' ⟨T, v', u', e1, e2, e3, e4, e5⟩ => ?_⟩
    have q1 := e4 vs (p.sqT h1)
    rw [k1] at q1
    cases q1
    have q2 := e5 ws (p.sqT h2)
    rw [k3] at q2
    cases q2
    subst e1 e3
    exact ⟨.tup (.inl (.inl upd_same)) (.cons ((Stp.laid (S := S) e2).rv (p.rv k2)) (.cons ((Stp.laid (S := S) e2).rv (p.rv k4)) .nil)), hs.laid e2, Stp.laid e2⟩
theorem qi_zip {e e2 : Expr} {t : DA} {p pos tpos : Pos} {elts : List Expr} {kk : Nat} (hg : Gl X "zip") (hm : X.mg "zip" = none) (ha : PA X [e, e2] (liftA X.K t))
    (hs : starEach [e, e2] X.env = (false, eval e X.env) :: starEach [e2] X.env := by rfl) (hpl : (backTo pos (starEach [e2] X.env)).any (·.1) = false := by rfl) :
    PI X (.Tuple elts kk tpos) (.Call (.Name "zip" p) [e, e2] [] pos) (liftI X.K (dZip t)) :=
  PI.imp (RZ.pi_zipA hg hm ha hs hpl) fun σ H R ⟨δ, S, Q0, hr, hs, h, hq⟩ => ⟨δ, S, _, hr, hs, h, fun ds S1 vs H1 h1 r1 s1 a1 => by
    have lists : ∀ x y, ds = [x, y] → (match lstOf S1 x, lstOf S1 y with
        | some xs, some ys => Q0 ((List.zip xs ys).map fun p => D.tup [p.1, p.2]) (fun S' => lstOf S' x = some xs ∧ lstOf S' y = some ys) S1
        | _, _ => False) → ∃ a b xs ys, vs = [.ref a, .ref b] ∧ ((SqL X.K H1 a xs ∧ SqL X.K H1 b ys ∧ R (Itz X.K a b) H1) ∨ (SqT X.K H1 a xs ∧ SqT X.K H1 b ys ∧ R (RZ.ItzT X.K a b) H1)) := by
      rintro x y rfl h1'
      obtain ⟨v, w, rfl, rd, re⟩ := r1.two
      split at h1'
      · rename_i xs ys e1 e2
        obtain ⟨a, zs, rfl, hv, rr⟩ := lst_of s1 rd e1
        obtain ⟨b, us, rfl, hv2, rr2⟩ := lst_of s1 re e2
        exact ⟨a, b, zs, us, rfl, .inl ⟨hv, hv2, hq _ _ _ _ _ h1' s1 a1 (jok_zip fun S H p hs st => ⟨stay_lst rd S H p hs st.1, stay_lst re S H p hs st.2⟩)⟩⟩
      · exact h1'.elim
    match ds, h1, r1, lists with
    | [.tup xs, .tup ys], h1, r1, _ =>
      obtain ⟨v, w, rfl, rd, re⟩ := r1.two
      cases rd with
      | @tup a us _ q rr =>
        cases re with
        | @tup b ws _ q2 rr2 => exact ⟨a, b, us, ws, rfl, .inr ⟨q, q2, hq _ _ _ _ _ h1 s1 a1 (jok_zipT q rr q2 rr2)⟩⟩
    | [.ref x, y], h1, r1, lists => exact lists _ _ rfl h1
    | [.fl x, y], h1, r1, lists => exact lists _ _ rfl h1
    | [.tup xs, .ref y], h1, r1, lists => exact lists _ _ rfl h1
    | [.tup xs, .fl y], h1, r1, lists => exact lists _ _ rfl h1
    | [.tup xs, .non], h1, r1, lists => exact lists _ _ rfl h1
    | [.tup xs, .bl _], h1, r1, lists => exact lists _ _ rfl h1
    | [.tup xs, .int _], h1, r1, lists => exact lists _ _ rfl h1
    | [.tup xs, .str _], h1, r1, lists => exact lists _ _ rfl h1
    | [.tup xs, .ty _], h1, r1, lists => exact lists _ _ rfl h1
    | [.non, y], h1, r1, lists => exact lists _ _ rfl h1
    | [.bl _, y], h1, r1, lists => exact lists _ _ rfl h1
    | [.int _, y], h1, r1, lists => exact lists _ _ rfl h1
    | [.str _, y], h1, r1, lists => exact lists _ _ rfl h1
    | [.ty _, y], h1, r1, lists => exact lists _ _ rfl h1⟩
end
end DL
namespace DL
open PySem L2
def Ext (S S' : DS) : Prop := ∀ a o, S a = some o → S' a = some o
def But (d : Addr) (S S' : DS) : Prop := ∀ a o, a ≠ d → S a = some o → S' a = some o
theorem Ext.refl (S : DS) : Ext S S := fun _ _ h => h
theorem Ext.trans {S S1 S2 : DS} (a : Ext S S1) (b : Ext S1 S2) : Ext S S2 := fun c o h => b c o (a c o h)
theorem Ext.get {S S' : DS} {b : Addr} {o : DO} (e : Ext S S') (h : S b = some o) : S' b = some o := e b o h
theorem But.get {S S' : DS} {a b : Addr} {o : DO} (e : But a S S') (n : b ≠ a) (h : S b = some o) : S' b = some o := e b o n h
theorem Ext.back {S S' : DS} {a : Addr} (e : Ext S S') (h : S' a = none) : S a = none := by
  cases q : S a with
  | none => rfl
  | some o => rw [e a o q] at h; cases h
theorem But.back {S S' : DS} {d a : Addr} (e : But d S S') (n : a ≠ d) (h : S' a = none) : S a = none := by
  cases q : S a with
  | none => rfl
  | some o => rw [e a o n q] at h; cases h
theorem Ext.but {S S1 S2 : DS} {a : Addr} (e : Ext S S1) (b : But a S1 S2) (h : S a = none) : Ext S S2 := fun c o q => b c o (dne q h) (e c o q)
theorem But.ext {S S1 S2 : DS} {d : Addr} (e : But d S S1) (b : Ext S1 S2) : But d S S2 := fun c o n q => b c o (e c o n q)
theorem But.trans {S S1 S2 : DS} {d : Addr} (e : But d S S1) (b : But d S1 S2) : But d S S2 := fun c o n q => b c o n (e c o n q)
theorem But.but {S S1 S2 : DS} {d a : Addr} (e : But d S S1) (b : But a S1 S2) (h : S a = none) : But d S S2 := fun c o n q => b c o (dne q h) (e c o n q)
theorem Ext.toBut {S S1 : DS} {d : Addr} (e : Ext S S1) : But d S S1 := fun c o _ q => e c o q
theorem ext_new {S : DS} {p : Addr} {o : DO} (h : S p = none) : Ext S (dupd S p o) := fun a u q => by rw [dupd_ne (dne q h)]; exact q
theorem but_upd {S : DS} {p : Addr} {o : DO} : But p S (dupd S p o) := fun a u n q => by rw [dupd_ne n]; exact q
def asB (x : D) (S : DS) (Q : Bool → DS → Prop) : Prop := match x with
  | .bl k => Q k S
  | _ => False
def asP (x : D) (S : DS) (Q : Option Int → DS → Prop) : Prop := match x with
  | .int i => Q (some i) S
  | _ => False
section
variable {nx bk ct : Loc → DS → Prop} {rt : DK} {δ δ' : Loc} {S S1 : DS} {Q : DK} {QB : Bool → DS → Prop} {QA : List D → DS → Prop} {QL : Loc → DS → Prop} {QO : Option Int → DS → Prop} {E : DEnds} {i j n : Nat} {d x y : D} {a b c : DE} {r r' : DR2} {r1 : DR1} {t u : DT} {as : DA} {st su : DSt} {g : DG} {gs : DGs} {xs ys : List D} {f : DF} {QI : List D → (DS → Prop) → DS → Prop} {tb : DSt} {stay : DS → Prop}
theorem i_var (e : δ[i]? = some (some d)) (h : Q d S) : dVar i δ S Q := ⟨d, e, h⟩
theorem i_c (h : Q d S) : dC d δ S Q := h
theorem i_nil (h : QA [] S) : dNil δ S QA := h
theorem i_cons (h : a δ S fun x S1 => as δ S1 fun xs S2 => QA (x :: xs) S2) : dCons a as δ S QA := h
theorem i_tup (h : as δ S fun xs S1 => xs.length ≤ 16777216 ∧ Q (.tup xs) S1) : dTup as δ S Q := h
def newL (xs : List D) (S : DS) (Q : DK) : Prop := ∀ p, S p = none → Q (.ref p) (dupd S p (.lst xs))
theorem i_newL (h : ∀ p S1, S p = none → S1 p = some (.lst xs) → Ext S S1 → Q (.ref p) S1) : newL xs S Q := fun p hp => h p _ hp dupd_same (ext_new hp)
theorem i_len {P : Prop} (e : Nat.ble xs.length 16777216 = true) (h : P) : xs.length ≤ 16777216 ∧ P := ⟨Nat.le_of_ble_eq_true e, h⟩
theorem i_lst (h : as δ S fun xs S1 => xs.length ≤ 16777216 ∧ newL xs S1 Q) : dLst as δ S Q := h
theorem i_op (h : a δ S fun x S1 => b δ S1 fun y S2 => r x y S2 Q) : dOp r a b δ S Q := h
theorem i_un (h : a δ S fun x S1 => r1 x S1 Q) : dUn r1 a δ S Q := h
theorem i_tb (h : a δ S fun x S1 => asB x S1 QB) : dTb a δ S QB := h
theorem i_asB {k : Bool} (h : QB k S) : asB (.bl k) S QB := h
theorem i_chain (h : a δ S fun x S1 => b δ S1 fun y S2 => r x y S2 fun z S3 => asB z S3 fun k S4 => if k = true then c δ S4 fun w S5 => r' y w S5 Q else Q (.bl false) S4) : dChain r r' a b c δ S Q := h
theorem i_and (h : t δ S fun c S1 => if c = true then u δ S1 QB else QB false S1) : dAnd t u δ S QB := h
theorem i_or (h : t δ S fun c S1 => if c = true then QB true S1 else u δ S1 QB) : dOr t u δ S QB := h
theorem i_not (h : t δ S fun c S1 => QB (!c) S1) : dNot t δ S QB := h
theorem i_andV (h : a δ S fun x S1 => asB x S1 fun c S2 => if c = true then b δ S2 Q else Q (.bl false) S2) : dAndV a b δ S Q := h
theorem i_orV (h : a δ S fun x S1 => asB x S1 fun c S2 => if c = true then Q (.bl true) S2 else b δ S2 Q) : dOrV a b δ S Q := h
theorem i_notV (h : a δ S fun x S1 => asB x S1 fun c S2 => Q (.bl (!c)) S2) : dNotV a δ S Q := h
theorem i_ifE (h : t δ S fun c S1 => if c = true then a δ S1 Q else b δ S1 Q) : dIfE t a b δ S Q := h
theorem i_call (h : as δ S fun ds S1 => f ds S1 Q) : dCall f as δ S Q := h
theorem i_bm {ok : DS → D → Prop} {m : DM} (h : a δ S fun x S1 => ok S1 x ∧ as δ S1 fun xs S2 => m x xs S2 Q) : dBM ok m a as δ S Q := h
theorem i_noPart (h : QO none S) : dNoPart δ S QO := h
theorem i_part (h : a δ S fun x S1 => asP x S1 QO) : dPart a δ S QO := h
theorem i_asP {k : Int} (h : QO (some k) S) : asP (.int k) S QO := h
theorem i_sl {lo hi : DO'} (h : a δ S fun x S1 => lo δ S1 fun l S2 => hi δ S2 fun u S3 => oSl x l u S3 Q) : dSl a lo hi δ S Q := h
theorem i_yes (h : QB true S) : dYes δ S QB := h
theorem i_seq (h : st ⟨fun δ S => su ⟨nx, rt, bk, ct⟩ δ S, rt, bk, ct⟩ δ S) : dSeq st su ⟨nx, rt, bk, ct⟩ δ S := h
theorem i_next (h : nx δ S) : dNext ⟨nx, rt, bk, ct⟩ δ S := h
theorem i_break (h : bk δ S) : dBreak ⟨nx, rt, bk, ct⟩ δ S := h
theorem i_cont (h : ct δ S) : dCont ⟨nx, rt, bk, ct⟩ δ S := h
theorem i_drop (h : a δ S fun _ S1 => nx δ S1) : dDrop a ⟨nx, rt, bk, ct⟩ δ S := h
theorem i_ret (h : a δ S rt) : dRet a ⟨nx, rt, bk, ct⟩ δ S := h
theorem i_retN (h : rt .non S) : dRetN ⟨nx, rt, bk, ct⟩ δ S := h
theorem i_if (h : t δ S fun b S1 => if b = true then st E δ S1 else su E δ S1) : dIf t st su E δ S := h
theorem i_asg (h : a δ S fun x S1 => g x δ S1 nx) : dAsg a g ⟨nx, rt, bk, ct⟩ δ S := h
theorem i_gname (e : δ.set i (some d) = δ') (h : QL δ' S) : dgName i d δ S QL := by subst e; exact h
theorem i_gtup (e : xs.length = n) (h : gs xs δ S QL) : dgTup n gs (.tup xs) δ S QL := ⟨e, h⟩
theorem i_gcons (h : g d δ S fun δ' S' => gs xs δ' S' QL) : dgCons g gs (d :: xs) δ S QL := h
theorem i_gnil (h : QL δ S) : dgNil [] δ S QL := ⟨rfl, h⟩
theorem i_gsub {sr : DSet} (h : a δ S fun o S1 => b δ S1 fun i S2 => sr o i d S2 fun S3 => QL δ S3) : dgSub a b sr d δ S QL := h
def par2 (i j : Nat) (nx : Loc → DS → Prop) (δ : Loc) (ds : List D) (S : DS) : Prop := match ds with
  | [d, e] => nx ((δ.set i (some d)).set j (some e)) S
  | _ => False
theorem i_par (h : as δ S fun ds S1 => par2 i j nx δ ds S1) : dPar i j as ⟨nx, rt, bk, ct⟩ δ S := h
theorem i_par2 (e : (δ.set i (some x)).set j (some y) = δ') (h : nx δ' S) : par2 i j nx δ [x, y] S := by subst e; exact h
theorem i_aug (e : δ[i]? = some (some d)) (h : a δ S fun y S1 => r d y S1 fun z S2 => dgName i z δ S2 nx) : dAug i a r ⟨nx, rt, bk, ct⟩ δ S := ⟨d, e, h⟩
theorem i_augS {rg rp : DR2} {rs : DSet} (h : a δ S fun o S1 => b δ S1 fun i S2 => rg o i S2 fun x S3 => c δ S3 fun y S4 => rp x y S4 fun z S5 => rs o i z S5 fun S6 => nx δ S6) : dAugS a b c rg rp rs ⟨nx, rt, bk, ct⟩ δ S := h
theorem i_for {di : DI} (h : di δ S fun xs stay S1 => forT stay g tb E xs δ S1) : dFor di g tb E δ S := h
theorem i_lc {di : DI} {vs : List Nat} (e : dwipe δ vs = δ') (h : di δ S fun xs stay S1 => lcT stay g t a δ' (fun ys S2 => newL ys S2 Q) xs [] S1) : dLc di g t a vs δ S Q := by subst e; exact h
theorem i_lc2 {di di1 : DI} {g1 : DG} {t1 : DT} {vs vs1 : List Nat} (e : dwipe δ vs = δ') (h : di δ S fun xs stay S1 => lcT2 stay g t di1 g1 t1 a δ' vs1 (fun ys S2 => newL ys S2 Q) xs [] S1) : dLc2 di g t di1 g1 t1 a vs vs1 δ S Q := by subst e; exact h
theorem i_run {F : FnD} {cs : Nat → DF} (e : xs.length = F.np) (el : xs.map some ++ List.replicate (F.nl - F.np) none = δ) (h : F.body cs { nx := fun _ S' => Q .non S', rt := Q, bk := fun _ _ => False, ct := fun _ _ => False } δ S) : runF F cs xs S Q := by subst el; exact ⟨e, h⟩
theorem i_iterT (h : QI xs (fun S' => seqOf S' (.tup xs) = some xs) S) : dIter (dC (.tup xs)) δ S QI := h
def iterV (x : D) (S : DS) (Q : List D → (DS → Prop) → DS → Prop) : Prop := match x with
  | .str z => Q (z.cps.toList.map fun c => D.str ⟨#[c]⟩) (fun _ => True) S
  | x => match seqOf S x with
    | some xs => Q xs (fun S' => seqOf S' x = some xs) S
    | none => False
theorem i_iter (h : a δ S fun x S1 => iterV x S1 QI) : dIter a δ S QI := h
theorem i_iterV_tup (h : QI xs (fun S' => seqOf S' (.tup xs) = some xs) S) : iterV (.tup xs) S QI := h
theorem i_iterV_fl (h : QI xs (fun S' => seqOf S' (.fl xs) = some xs) S) : iterV (.fl xs) S QI := h
theorem seq_ref {p : Addr} (e : S p = some (.lst xs)) : seqOf S (.ref p) = some xs := by
  show (match S p with
    | some (.lst xs) => some xs
    | _ => none) = some xs
  rw [e]
theorem lst_ref {p : Addr} (e : S p = some (.lst xs)) : lstOf S (.ref p) = some xs := by
  show (match S p with
    | some (.lst xs) => some xs
    | _ => none) = some xs
  rw [e]
theorem i_iterV_ref {p : Addr} (e : S p = some (.lst xs)) (h : QI xs (fun S' => seqOf S' (.ref p) = some xs) S) : iterV (.ref p) S QI := by
  unfold iterV
  show (match seqOf S (.ref p) with
    | some xs => QI xs (fun S' => seqOf S' (.ref p) = some xs) S
    | none => False)
  rw [seq_ref e]
  exact h
def rng1V (ds : List D) (S : DS) (Q : List D → (DS → Prop) → DS → Prop) : Prop := match ds with
  | [.int j] => (-(2 ^ 62) ≤ j ∧ j < 2 ^ 62) ∧ Q (rngL 0 j.toNat) (fun _ => True) S
  | _ => False
def rng2V (ds : List D) (S : DS) (Q : List D → (DS → Prop) → DS → Prop) : Prop := match ds with
  | [.int i, .int j] => (-(2 ^ 62) ≤ i ∧ i < 2 ^ 62 ∧ -(2 ^ 62) ≤ j ∧ j < 2 ^ 62) ∧ Q (rngL i (j - i).toNat) (fun _ => True) S
  | _ => False
theorem i_rng1 (h : as δ S fun ds S1 => rng1V ds S1 QI) : dRng1 as δ S QI := h
theorem i_rng1V {k : Int} (hb : -(2 ^ 62) ≤ k ∧ k < 2 ^ 62) (h : QI (rngL 0 k.toNat) (fun _ => True) S) : rng1V [.int k] S QI := ⟨hb, h⟩
theorem i_rng2 (h : as δ S fun ds S1 => rng2V ds S1 QI) : dRng2 as δ S QI := h
theorem i_rng2V {k l : Int} (hb : -(2 ^ 62) ≤ k ∧ k < 2 ^ 62 ∧ -(2 ^ 62) ≤ l ∧ l < 2 ^ 62) (h : QI (rngL k (l - k).toNat) (fun _ => True) S) : rng2V [.int k, .int l] S QI := ⟨hb, h⟩
def revV (x : D) (S : DS) (Q : List D → (DS → Prop) → DS → Prop) : Prop := match seqOf S x with
  | some xs => Q xs.reverse (fun S' => seqOf S' x = some xs) S
  | none => False
theorem i_rev (h : a δ S fun x S1 => revV x S1 QI) : dRev a δ S QI := h
theorem i_revV (e : seqOf S x = some xs) (h : QI xs.reverse (fun S' => seqOf S' x = some xs) S) : revV x S QI := by unfold revV; rw [e]; exact h
def enumV (ds : List D) (S : DS) (Q : List D → (DS → Prop) → DS → Prop) : Prop := match ds with
  | [x] => match lstOf S x with
    | some xs => Q (numL xs) (fun S' => lstOf S' x = some xs) S
    | none => False
  | _ => False
theorem i_enum (h : as δ S fun ds S1 => enumV ds S1 QI) : dEnum as δ S QI := h
theorem i_enumV (e : lstOf S x = some xs) (h : QI (numL xs) (fun S' => lstOf S' x = some xs) S) : enumV [x] S QI := by
  show (match lstOf S x with
    | some xs => QI (numL xs) (fun S' => lstOf S' x = some xs) S
    | none => False)
  rw [e]; exact h
variable {k l : Int} {p q : Addr} {z w : Str}
theorem o_addI (h : Q (.int (k + l)) S) : oAdd (.int k) (.int l) S Q := h
theorem o_addS (hl : z.length + w.length ≤ 16777216) (h : Q (.str (z ++ w)) S) : oAdd (.str z) (.str w) S Q := ⟨hl, h⟩
theorem o_addT (hl : xs.length + ys.length ≤ 16777216) (h : Q (.tup (xs ++ ys)) S) : oAdd (.tup xs) (.tup ys) S Q := ⟨hl, h⟩
theorem o_addL (e1 : S p = some (.lst xs)) (e2 : S q = some (.lst ys)) (hl : xs.length + ys.length ≤ 16777216) (h : newL (xs ++ ys) S Q) : oAdd (.ref p) (.ref q) S Q := by
  show (match S p, S q with
    | some (.lst xs), some (.lst ys) => xs.length + ys.length ≤ 16777216 ∧ ∀ p, S p = none → Q (.ref p) (dupd S p (.lst (xs ++ ys)))
    | _, _ => False)
  rw [e1, e2]; exact ⟨hl, h⟩
theorem o_subI (h : Q (.int (k - l)) S) : oSub (.int k) (.int l) S Q := h
theorem o_mulI (hl : k.natAbs.log2 + l.natAbs.log2 < 1000000) (h : Q (.int (k * l)) S) : oMul (.int k) (.int l) S Q := ⟨hl, h⟩
theorem o_mulL (e : S p = some (.lst xs)) (hl : -(2 ^ 63) ≤ k ∧ k < 2 ^ 63 ∧ xs.length * k.toNat ≤ 16777216) (h : newL (List.replicate k.toNat xs).flatten S Q) : oMul (.ref p) (.int k) S Q := by
  show (match S p with
    | some (.lst xs) => (-(2 ^ 63) ≤ k ∧ k < 2 ^ 63 ∧ xs.length * k.toNat ≤ 16777216) ∧ ∀ p, S p = none → Q (.ref p) (dupd S p (.lst (List.replicate k.toNat xs).flatten))
    | _ => False)
  rw [e]; exact ⟨hl, h⟩
theorem o_mulT (h1 : xs ≠ []) (h2 : 1 ≤ k) (h3 : k ≤ 1000) (h4 : xs.length ≤ 1000) (h : Q (.tup (List.replicate k.toNat xs).flatten) S) : oMul (.tup xs) (.int k) S Q := ⟨⟨h1, h2, h3, h4⟩, h⟩
theorem o_fdvI (hl : 0 < l ∧ l.natAbs.log2 < 9000) (h : Q (.int (k / l)) S) : oFdv (.int k) (.int l) S Q := ⟨hl, h⟩
theorem o_modI (hl : 0 < l) (h : Q (.int (k % l)) S) : oMod (.int k) (.int l) S Q := ⟨hl, h⟩
theorem o_powI (hl : 0 ≤ l ∧ l ≤ 1000000 ∧ k.natAbs < 2 ^ 64) (h : Q (.int (k ^ l.toNat)) S) : oPow (.int k) (.int l) S Q := ⟨hl, h⟩
theorem o_shlI (hl : 0 ≤ l ∧ l ≤ 1000000 ∧ k.natAbs < 2 ^ 64) (h : Q (.int (k * 2 ^ l.toNat)) S) : oShl (.int k) (.int l) S Q := ⟨hl, h⟩
theorem o_bitI {f : Int → Int → Int} (h : Q (.int (f k l)) S) : oBit f (.int k) (.int l) S Q := h
theorem o_neg (h : Q (.int (-k)) S) : uNeg (.int k) S Q := h
theorem o_cmpI {o : COp} (h : Q (.bl (o.int k l)) S) : oCmp o (.int k) (.int l) S Q := h
theorem o_ltI (h : Q (.bl (decide (k < l))) S) : oCmp .lt (.int k) (.int l) S Q := h
theorem o_leI (h : Q (.bl (decide (k ≤ l))) S) : oCmp .le (.int k) (.int l) S Q := h
theorem o_gtI (h : Q (.bl (decide (l < k))) S) : oCmp .gt (.int k) (.int l) S Q := h
theorem o_geI (h : Q (.bl (decide (l ≤ k))) S) : oCmp .ge (.int k) (.int l) S Q := h
theorem eqv_int : D.eqv (.int k) (.int l) = decide (k = l) := by unfold D.eqv; rw [D.py, D.py, PyData.eqv]; rw [Bool.eq_iff_iff]; simp
theorem eqv_str : D.eqv (.str z) (.str w) = decide (z = w) := by unfold D.eqv; rw [D.py, D.py, PyData.eqv]; rw [Bool.eq_iff_iff]; simp
theorem eqv_bl {b c : Bool} : D.eqv (.bl b) (.bl c) = (b == c) := by unfold D.eqv; rw [D.py, D.py, PyData.eqv]
theorem plain_int : (D.int k).plain = true := by rw [D.plain]
theorem plain_str : (D.str z).plain = true := by rw [D.plain]
theorem plain_bl {b : Bool} : (D.bl b).plain = true := by rw [D.plain]
theorem plain_non : D.non.plain = true := by rw [D.plain]
/-- == of things without mutable parts -/
theorem o_eqP {neg : Bool} (hx : x.plain = true) (hy : y.plain = true) (hd : x.dep ≤ 50 ∨ y.dep ≤ 50) (h : Q (.bl (neg ^^ D.eqv x y)) S) : oEq neg x y S Q := by
  unfold oEq
  rw [D.rd_plain x 4 hx, D.rd_plain y 4 hy]
  exact ⟨⟨hx, hy, hd⟩, h⟩
theorem rdL_plain {xs : List D} {n : Nat} (h : D.plainL xs = true) : xs.map (D.rd S n) = xs := by
  have : ∀ y ∈ xs, D.rd S n y = y := fun y hy => D.rd_plain y n (D.plainL_mem h y hy)
  exact (List.map_congr_left this).trans (List.map_id' xs)
theorem o_inT {neg : Bool} (hx : x.plain = true) (hxs : D.plainL xs = true) (hd : x.dep ≤ 50) (h : Q (.bl (neg ^^ xs.any fun e => D.eqv e x)) S) : oIn neg x (.tup xs) S Q := by
  show (((x.rd S 3).plain = true ∧ D.plainL (xs.map (D.rd S 3)) = true ∧ (x.rd S 3).dep ≤ 50) ∧ Q (.bl (neg ^^ (xs.map (D.rd S 3)).any fun e => D.eqv e (x.rd S 3))) S)
  rw [D.rd_plain x 3 hx, rdL_plain hxs]
  exact ⟨⟨hx, hxs, hd⟩, h⟩
theorem o_inL {neg : Bool} (e : S p = some (.lst xs)) (hx : x.plain = true) (hxs : D.plainL xs = true) (hd : x.dep ≤ 50) (h : Q (.bl (neg ^^ xs.any fun e => D.eqv e x)) S) : oIn neg x (.ref p) S Q := by
  show (match seqOf S (.ref p) with
    | some xs => ((x.rd S 3).plain = true ∧ D.plainL (xs.map (D.rd S 3)) = true ∧ (x.rd S 3).dep ≤ 50) ∧ Q (.bl (neg ^^ (xs.map (D.rd S 3)).any fun e => D.eqv e (x.rd S 3))) S
    | none => False)
  rw [seq_ref e]
  show (((x.rd S 3).plain = true ∧ D.plainL (xs.map (D.rd S 3)) = true ∧ (x.rd S 3).dep ≤ 50) ∧ Q (.bl (neg ^^ (xs.map (D.rd S 3)).any fun e => D.eqv e (x.rd S 3))) S)
  rw [D.rd_plain x 3 hx, rdL_plain hxs]
  exact ⟨⟨hx, hxs, hd⟩, h⟩
theorem plainL_strs : ∀ zs : List Str, D.plainL (zs.map D.str) = true
  | [] => by rw [List.map_nil, D.plainL]
  | z :: zs => by rw [List.map_cons, D.plainL, plainL_strs zs, plain_str]; rfl
theorem plainL_ints : ∀ zs : List Int, D.plainL (zs.map D.int) = true
  | [] => by rw [List.map_nil, D.plainL]
  | z :: zs => by rw [List.map_cons, D.plainL, plainL_ints zs, plain_int]; rfl
theorem any_strs {z : Str} : ∀ zs : List Str, ((zs.map D.str).any fun e => D.eqv e (.str z)) = decide (z ∈ zs)
  | [] => rfl
  | y :: zs => by
    rw [List.map_cons, List.any_cons, any_strs zs, eqv_str, Bool.eq_iff_iff, Bool.or_eq_true, decide_eq_true_iff, decide_eq_true_iff, decide_eq_true_iff, List.mem_cons]
    exact or_congr eq_comm Iff.rfl
theorem any_ints {z : Int} : ∀ zs : List Int, ((zs.map D.int).any fun e => D.eqv e (.int z)) = decide (z ∈ zs)
  | [] => rfl
  | y :: zs => by
    rw [List.map_cons, List.any_cons, any_ints zs, eqv_int, Bool.eq_iff_iff, Bool.or_eq_true, decide_eq_true_iff, decide_eq_true_iff, decide_eq_true_iff, List.mem_cons]
    exact or_congr eq_comm Iff.rfl
theorem dep_str0 {z : Str} : (D.str z).dep ≤ 50 := by rw [D.dep]; decide
theorem dep_int0 {z : Int} : (D.int z).dep ≤ 50 := by rw [D.dep]; decide
theorem o_inS (zs : List Str) (h : Q (.bl (decide (z ∈ zs))) S) : oIn false (.str z) (.tup (zs.map D.str)) S Q := o_inT plain_str (plainL_strs zs) dep_str0 (by rw [Bool.false_xor, any_strs]; exact h)
theorem o_notinS (zs : List Str) (h : Q (.bl (!decide (z ∈ zs))) S) : oIn true (.str z) (.tup (zs.map D.str)) S Q := o_inT plain_str (plainL_strs zs) dep_str0 (by rw [Bool.true_xor, any_strs]; exact h)
theorem o_inI (zs : List Int) (h : Q (.bl (decide (k ∈ zs))) S) : oIn false (.int k) (.tup (zs.map D.int)) S Q := o_inT plain_int (plainL_ints zs) dep_int0 (by rw [Bool.false_xor, any_ints]; exact h)
theorem o_notinI (zs : List Int) (h : Q (.bl (!decide (k ∈ zs))) S) : oIn true (.int k) (.tup (zs.map D.int)) S Q := o_inT plain_int (plainL_ints zs) dep_int0 (by rw [Bool.true_xor, any_ints]; exact h)
theorem o_inIL (zs : List Int) (e : S p = some (.lst (zs.map D.int))) (h : Q (.bl (decide (k ∈ zs))) S) : oIn false (.int k) (.ref p) S Q := o_inL e plain_int (plainL_ints zs) dep_int0 (by rw [Bool.false_xor, any_ints]; exact h)
theorem o_notinIL (zs : List Int) (e : S p = some (.lst (zs.map D.int))) (h : Q (.bl (!decide (k ∈ zs))) S) : oIn true (.int k) (.ref p) S Q := o_inL e plain_int (plainL_ints zs) dep_int0 (by rw [Bool.true_xor, any_ints]; exact h)
theorem dep_int : (D.int k).dep ≤ 50 := by rw [D.dep]; decide
theorem dep_str : (D.str z).dep ≤ 50 := by rw [D.dep]; decide
theorem dep_bl {b : Bool} : (D.bl b).dep ≤ 50 := by rw [D.dep]; decide
theorem dep_non : D.non.dep ≤ 50 := by rw [D.dep]; decide
theorem o_eqI (h : Q (.bl (decide (k = l))) S) : oEq false (.int k) (.int l) S Q := o_eqP plain_int plain_int (.inl dep_int) (by rw [Bool.false_xor, eqv_int]; exact h)
theorem o_neI (h : Q (.bl (!decide (k = l))) S) : oEq true (.int k) (.int l) S Q := o_eqP plain_int plain_int (.inl dep_int) (by rw [Bool.true_xor, eqv_int]; exact h)
theorem o_eqS (h : Q (.bl (decide (z = w))) S) : oEq false (.str z) (.str w) S Q := o_eqP plain_str plain_str (.inl dep_str) (by rw [Bool.false_xor, eqv_str]; exact h)
theorem o_neS (h : Q (.bl (!decide (z = w))) S) : oEq true (.str z) (.str w) S Q := o_eqP plain_str plain_str (.inl dep_str) (by rw [Bool.true_xor, eqv_str]; exact h)
theorem o_eqB {b c : Bool} (h : Q (.bl (b == c)) S) : oEq false (.bl b) (.bl c) S Q := o_eqP plain_bl plain_bl (.inl dep_bl) (by rw [Bool.false_xor, eqv_bl]; exact h)
theorem o_neB {b c : Bool} (h : Q (.bl (!(b == c))) S) : oEq true (.bl b) (.bl c) S Q := o_eqP plain_bl plain_bl (.inl dep_bl) (by rw [Bool.true_xor, eqv_bl]; exact h)
def isNon : D → Bool
  | .non => true
  | _ => false
theorem o_is (h : Q (.bl (isNon x)) S) : oIs false x .non S Q := by
  cases x <;> exact h
theorem o_isnot (h : Q (.bl (!isNon x)) S) : oIs true x .non S Q := by
  cases x <;> exact h
/-- an item -/
theorem o_ixT {v : D} (e : atI xs k = some v) (h : Q v S) : oIx (.tup xs) (.int k) S Q := by
  show (match atI xs k with
    | some d => Q d S
    | none => False)
  rw [e]; exact h
theorem o_ixF {v : D} (e : atI xs k = some v) (h : Q v S) : oIx (.fl xs) (.int k) S Q := by
  show (match atI xs k with
    | some d => Q d S
    | none => False)
  rw [e]; exact h
theorem o_ixL {v : D} (e0 : S p = some (.lst xs)) (e : atI xs k = some v) (h : Q v S) : oIx (.ref p) (.int k) S Q := by
  show (match seqOf S (.ref p) with
    | some xs => match atI xs k with
      | some d => Q d S
      | none => False
    | none => False)
  rw [seq_ref e0]
  show (match atI xs k with
    | some d => Q d S
    | none => False)
  rw [e]; exact h
theorem o_ixS {c : Nat} (hz : z.length ≤ 16777216) (e : atI z.cps.toList k = some c) (h : Q (.str ⟨#[c]⟩) S) : oIx (.str z) (.int k) S Q := by
  refine ⟨hz, ?_⟩
  show (match atI z.cps.toList k with
    | some c => Q (.str ⟨#[c]⟩) S
    | none => False)
  rw [e]; exact h
theorem o_slT {lo hi : Option Int} (h : Q (.tup (dcut xs lo hi)) S) : oSl (.tup xs) lo hi S Q := h
theorem o_slF {lo hi : Option Int} (h : newL (dcut xs lo hi) S Q) : oSl (.fl xs) lo hi S Q := h
theorem o_slL {lo hi : Option Int} (e : S p = some (.lst xs)) (h : newL (dcut xs lo hi) S Q) : oSl (.ref p) lo hi S Q := by
  show (match lstOf S (.ref p) with
    | some xs => ∀ p, S p = none → Q (.ref p) (dupd S p (.lst (dcut xs lo hi)))
    | none => False)
  rw [lst_ref e]; exact h
def putL (p : Addr) (xs : List D) (S : DS) (Q : DS → Prop) : Prop := Q (dupd S p (.lst xs))
theorem i_putL {QS : DS → Prop} (h : ∀ S1, S1 p = some (.lst xs) → But p S S1 → QS S1) : putL p xs S QS := h _ dupd_same but_upd
theorem s_ix {QS : DS → Prop} {v : D} {m : Nat} (e : S p = some (.lst xs)) (ek : ixN xs.length k = some m) (h : putL p (xs.set m v) S QS) : sIx (.ref p) (.int k) v S QS := by
  show (match S p with
    | some (.lst xs) => match ixN xs.length k with
      | some j => QS (dupd S p (.lst (xs.set j v)))
      | none => False
    | _ => False)
  rw [e]
  show (match ixN xs.length k with
    | some j => QS (dupd S p (.lst (xs.set j v)))
    | none => False)
  rw [ek]; exact h
theorem c_lenT (h : Q (.int xs.length) S) : bLen [.tup xs] S Q := h
theorem c_lenF (h : Q (.int xs.length) S) : bLen [.fl xs] S Q := h
theorem c_lenL (e : S p = some (.lst xs)) (h : Q (.int xs.length) S) : bLen [.ref p] S Q := by
  show (match (seqOf S (.ref p)).map (fun l : List D => l.length) with
    | some n => Q (.int ((n : Nat) : Int)) S
    | none => False)
  rw [seq_ref e]; exact h
theorem c_lenS (hz : z.length ≤ 16777216) (h : Q (.int z.length) S) : bLen [.str z] S Q := by
  show (match lenOf S (.str z) with
    | some n => Q (.int n) S
    | none => False)
  rw [lenOf, if_pos hz]; exact h
theorem c_int (h : Q (.int k) S) : bInt [.int k] S Q := h
theorem c_intB {b : Bool} (h : Q (.int (if b then 1 else 0)) S) : bInt [.bl b] S Q := h
theorem c_abs (h : Q (.int (if k < 0 then -k else k)) S) : bAbs [.int k] S Q := h
theorem c_max2 (h : Q (.int (max k l)) S) : bMax2 [.int k, .int l] S Q := by
  show Q (.int (if l > k then l else k)) S
  rw [show (if l > k then l else k) = max k l by rw [Int.max_def]; split <;> split <;> omega]; exact h
theorem c_min2 (h : Q (.int (min k l)) S) : bMin2 [.int k, .int l] S Q := by
  show Q (.int (if l < k then l else k)) S
  rw [show (if l < k then l else k) = min k l by rw [Int.min_def]; split <;> split <;> omega]; exact h
theorem c_listT (h : newL xs S Q) : bList [.tup xs] S Q := h
theorem c_listF (h : newL xs S Q) : bList [.fl xs] S Q := h
theorem c_listL (e : S p = some (.lst xs)) (h : newL xs S Q) : bList [.ref p] S Q := by
  show (match seqOf S (.ref p) with
    | some xs => ∀ p, S p = none → Q (.ref p) (dupd S p (.lst xs))
    | none => False)
  rw [seq_ref e]; exact h
theorem c_tupleT (h : Q (.tup xs) S) : bTuple [.tup xs] S Q := h
theorem c_tupleF (h : Q (.tup xs) S) : bTuple [.fl xs] S Q := h
theorem c_tupleL (e : S p = some (.lst xs)) (h : Q (.tup xs) S) : bTuple [.ref p] S Q := by
  show (match seqOf S (.ref p) with
    | some xs => Q (.tup xs) S
    | none => False)
  rw [seq_ref e]; exact h
theorem c_isi {T : String} {s : String} (e : tyName S x = some s) (kT : knownTy T = true) (h : Q (.bl (isi s T)) S) : bIsi [x, .ty T] S Q := by
  show (match tyName S x with
    | some t => knownTy T = true ∧ Q (.bl (isi t T)) S
    | none => False)
  rw [e]; exact ⟨kT, h⟩
theorem c_isi2 {T U : String} {s : String} (e : tyName S x = some s) (kT : knownTy T = true) (kU : knownTy U = true) (h : Q (.bl (isi s T || isi s U)) S) : bIsi [x, .tup [.ty T, .ty U]] S Q := by
  show (match tyName S x with
    | some t => (knownTy T = true ∧ knownTy U = true) ∧ Q (.bl (isi t T || isi t U)) S
    | none => False)
  rw [e]; exact ⟨⟨kT, kU⟩, h⟩
theorem c_sorted (e : lstOf S x = some xs) (h1 : ∀ x ∈ xs, x.plain = true ∧ x.dep ≤ 50) (h2 : PySem.W.AllAlike (xs.map D.py)) (h3 : PySem.W.Sortable (xs.map D.py)) (h : newL (xs.mergeSort dle) S Q) : bSorted [x] S Q := by
  show (match lstOf S x with
    | some xs => ((∀ x ∈ xs, x.plain = true ∧ x.dep ≤ 50) ∧ PySem.W.AllAlike (xs.map D.py) ∧ PySem.W.Sortable (xs.map D.py)) ∧ ∀ p, S p = none → Q (.ref p) (dupd S p (.lst (xs.mergeSort dle)))
    | none => False)
  rw [e]; exact ⟨⟨h1, h2, h3⟩, h⟩
theorem dle_int {i j : Int} : dle (.int i) (.int j) = decide (i ≤ j) := by
  show (!PySem.W.dataLt (D.py (.int j)) (D.py (.int i))) = _
  rw [show D.py (.int i) = .int i by rw [D.py], show D.py (.int j) = .int j by rw [D.py], PySem.W.dataLt_int]
  rw [Bool.eq_iff_iff]; simp
theorem c_sortedI {ns : List Int} (e : lstOf S x = some (ns.map D.int)) (h : newL ((ns.mergeSort fun a b => decide (a ≤ b)).map D.int) S Q) : bSorted [x] S Q := by
  refine c_sorted e ?_ ?_ ?_ ?_
  · intro x hx
    obtain ⟨i, _, rfl⟩ := List.mem_map.mp hx
    exact ⟨plain_int, dep_int⟩
  · intro d hd d' hd'
    rw [List.map_map] at hd hd'
    obtain ⟨i, _, rfl⟩ := List.mem_map.mp hd
    obtain ⟨j, _, rfl⟩ := List.mem_map.mp hd'
    simp [Function.comp, D.py, PySem.W.alike]
  · right
    intro d hd
    rw [List.map_map] at hd
    obtain ⟨i, _, rfl⟩ := List.mem_map.mp hd
    simp [Function.comp, D.py]
  · rw [← List.map_mergeSort (r := fun a b => decide (a ≤ b)) (fun a _ b _ => dle_int.symm)]
    exact h
theorem c_sum {ns : List Int} (e : lstOf S x = some (ns.map D.int)) (h : Q (.int ns.sum) S) : bSum [x] S Q := by
  show (match lstOf S x with
    | some xs => ∃ ns : List Int, xs = ns.map D.int ∧ Q (.int ns.sum) S
    | none => False)
  rw [e]; exact ⟨ns, rfl, h⟩
theorem c_any {bs : List Bool} (e : lstOf S x = some (bs.map D.bl)) (h : Q (.bl (bs.any id)) S) : bAny [x] S Q := by
  show (match lstOf S x with
    | some xs => ∃ bs : List Bool, xs = bs.map D.bl ∧ Q (.bl (bs.any id)) S
    | none => False)
  rw [e]; exact ⟨bs, rfl, h⟩
theorem c_all {bs : List Bool} (e : lstOf S x = some (bs.map D.bl)) (h : Q (.bl (bs.all id)) S) : bAll [x] S Q := by
  show (match lstOf S x with
    | some xs => ∃ bs : List Bool, xs = bs.map D.bl ∧ Q (.bl (bs.all id)) S
    | none => False)
  rw [e]; exact ⟨bs, rfl, h⟩
theorem ok_L {p : Addr} (e : S p = some (.lst xs)) {P : Prop} (h : P) : okLst S (.ref p) ∧ P := ⟨by unfold okLst; rw [lst_ref e]; rfl, h⟩
theorem ok_S {P : Prop} (h : P) : okStr S (.str z) ∧ P := ⟨True.intro, h⟩
theorem m_lst {fm : List D → List D → Option (D × List D)} {v : D} (e : S p = some (.lst xs)) (ef : fm xs ys = some (v, zs)) (hl : zs.length ≤ 16777216) (h : putL p zs S (Q v)) : mLst fm (.ref p) ys S Q := by
  show (match S p with
    | some (.lst xs) => match fm xs ys with
      | some (r, ys) => ys.length ≤ 16777216 ∧ Q r (dupd S p (.lst ys))
      | none => False
    | _ => False)
  rw [e]
  show (match fm xs ys with
    | some (r, ys) => ys.length ≤ 16777216 ∧ Q r (dupd S p (.lst ys))
    | none => False)
  rw [ef]; exact ⟨hl, h⟩
theorem m_append (e : S p = some (.lst xs)) (hl : (xs ++ [x]).length ≤ 16777216) (h : putL p (xs ++ [x]) S (Q .non)) : mLst fAppend (.ref p) [x] S Q := m_lst e rfl hl h
theorem m_pop (e : S p = some (.lst (xs ++ [x]))) (hl : xs.length ≤ 16777216) (h : putL p xs S (Q x)) : mLst fPop (.ref p) [] S Q := by
  refine m_lst e ?_ hl h
  show (match (xs ++ [x])[(xs ++ [x]).length - 1]? with
    | some y => some (y, (xs ++ [x]).dropLast)
    | none => none) = some (x, xs)
  simp
theorem m_reverse (e : S p = some (.lst xs)) (hl : xs.length ≤ 16777216) (h : putL p xs.reverse S (Q .non)) : mLst fReverse (.ref p) [] S Q := m_lst e rfl (by rw [List.length_reverse]; exact hl) h
theorem m_popAt {m : Nat} (e : S p = some (.lst xs)) (ek : ixN xs.length k = some m) (ex : xs[m]? = some x) (hl : xs.length ≤ 16777216) (h : putL p (xs.eraseIdx m) S (Q x)) : mLst fPopAt (.ref p) [.int k] S Q := by
  refine m_lst e ?_ (Nat.le_trans (List.length_eraseIdx_le ..) hl) h
  show (match ixN xs.length k with
    | some k => match xs[k]? with
      | some y => some (y, xs.eraseIdx k)
      | none => none
    | none => none) = some (x, xs.eraseIdx m)
  rw [ek]
  show (match xs[m]? with
    | some y => some (y, xs.eraseIdx m)
    | none => none) = some (x, xs.eraseIdx m)
  rw [ex]
theorem m_extend (e1 : S p = some (.lst xs)) (e2 : S q = some (.lst ys)) (hl : xs.length + ys.length ≤ 16777216) (h : putL p (xs ++ ys) S (Q .non)) : mExtend (.ref p) [.ref q] S Q := by
  show (match S p, S q with
    | some (.lst xs), some (.lst ys) => xs.length + ys.length ≤ 16777216 ∧ Q .non (dupd S p (.lst (xs ++ ys)))
    | _, _ => False)
  rw [e1, e2]; exact ⟨hl, h⟩
theorem m_join {zs : List Str} (e : seqOf S y = some (zs.map D.str)) (hl : (zs.map (·.length)).sum + zs.length * z.length ≤ 16777216) (h : Q (.str (Txt.join z zs)) S) : mJoin (.str z) [y] S Q := by
  show (match seqOf S y with
    | some xs => ∃ ys : List Str, xs = ys.map D.str ∧ (ys.map (·.length)).sum + ys.length * z.length ≤ 16777216 ∧ Q (.str (Txt.join z ys)) S
    | none => False)
  rw [e]; exact ⟨zs, rfl, hl, h⟩
theorem ite_dec {P A B : Prop} [Decidable P] (h1 : P → A) (h2 : ¬ P → B) : if decide P = true then A else B := by
  by_cases h : P
  · rw [if_pos (decide_eq_true h)]; exact h1 h
  · rw [if_neg (by rw [decide_eq_false h]; exact Bool.false_ne_true)]; exact h2 h
theorem ite_ndec {P A B : Prop} [Decidable P] (h1 : ¬ P → A) (h2 : P → B) : if (!decide P) = true then A else B := by
  by_cases h : P
  · rw [decide_eq_true h]; exact (if_neg Bool.false_ne_true).mpr (h2 h)
  · rw [decide_eq_false h]; exact (if_pos rfl).mpr (h1 h)
theorem ite_t {A B : Prop} (h : A) : if true = true then A else B := (if_pos rfl).mpr h
theorem ite_f {A B : Prop} (h : B) : if false = true then A else B := (if_neg Bool.false_ne_true).mpr h
theorem ite_nt {A B : Prop} (h : B) : if (!true) = true then A else B := (if_neg Bool.false_ne_true).mpr h
theorem ite_nf {A B : Prop} (h : A) : if (!false) = true then A else B := (if_pos rfl).mpr h
theorem ite_b {b : Bool} {A B : Prop} (h1 : b = true → A) (h2 : b = false → B) : if b = true then A else B := by
  cases b with
  | true => exact ite_t (h1 rfl)
  | false => exact ite_f (h2 rfl)
/-- a for loop by an invariant over the turns -/
theorem for_inv (P : Nat → Loc → DS → Prop) (h0 : P 0 δ S) (hst : ∀ m δ S, m ≤ xs.length → P m δ S → stay S)
    (turn : ∀ m x δ S (nx' : Loc → DS → Prop), xs[m]? = some x → m < xs.length → P m δ S → (∀ δ S, P (m + 1) δ S → nx' δ S) → g x δ S fun δ1 S1 => tb ⟨nx', rt, nx, nx'⟩ δ1 S1)
    (done : ∀ δ S, P xs.length δ S → nx δ S) : forT stay g tb ⟨nx, rt, bk, ct⟩ xs δ S := by
  have all : ∀ k m δ S, xs.length - m = k → m ≤ xs.length → P m δ S → forT stay g tb ⟨nx, rt, bk, ct⟩ (xs.drop m) δ S := by
    intro k
    induction k with
    | zero =>
      intro m δ S hk hm p
      have : m = xs.length := by omega
      subst this
      rw [List.drop_length]
      exact ⟨hst _ δ S (Nat.le_refl _) p, done δ S p⟩
    | succ k ih =>
      intro m δ S hk hm p
      have hlt : m < xs.length := by omega
      rw [List.drop_eq_getElem_cons hlt]
      exact ⟨hst m δ S hm p, turn m xs[m] δ S _ (List.getElem?_eq_getElem hlt) hlt p fun δ2 S2 h2 => ih (m + 1) δ2 S2 (by omega) (by omega) h2⟩
  have := all _ 0 δ S rfl (Nat.zero_le _) h0
  rwa [List.drop_zero] at this
theorem lc_inv {δ : Loc} {KK : List D → DS → Prop} (P : Nat → List D → DS → Prop) (h0 : P 0 [] S) (hst : ∀ m acc S, m ≤ xs.length → P m acc S → stay S)
    (turn : ∀ m x acc S (nx : List D → DS → Prop), xs[m]? = some x → m < xs.length → P m acc S → (∀ acc S, P (m + 1) acc S → nx acc S) → g x δ S fun δ2 S2 => t δ2 S2 fun b S3 => if b = true then a δ2 S3 fun y S4 => acc.length < 16777216 ∧ nx (acc ++ [y]) S4 else nx acc S3)
    (done : ∀ acc S, P xs.length acc S → KK acc S) : lcT stay g t a δ KK xs [] S := by
  have all : ∀ k m acc S, xs.length - m = k → m ≤ xs.length → P m acc S → lcT stay g t a δ KK (xs.drop m) acc S := by
    intro k
    induction k with
    | zero =>
      intro m acc S hk hm p
      have : m = xs.length := by omega
      subst this
      rw [List.drop_length]
      exact ⟨hst _ acc S (Nat.le_refl _) p, done acc S p⟩
    | succ k ih =>
      intro m acc S hk hm p
      have hlt : m < xs.length := by omega
      rw [List.drop_eq_getElem_cons hlt]
      exact ⟨hst m acc S hm p, turn m xs[m] acc S _ (List.getElem?_eq_getElem hlt) hlt p fun δ2 S2 h2 => ih (m + 1) δ2 S2 (by omega) (by omega) h2⟩
  have := all _ 0 [] S rfl (Nat.zero_le _) h0
  rwa [List.drop_zero] at this
/-- the same from any list so far -/
theorem lc_inv' {δ : Loc} {KK : List D → DS → Prop} {acc0 : List D} (P : Nat → List D → DS → Prop) (h0 : P 0 acc0 S) (hst : ∀ m acc S, m ≤ xs.length → P m acc S → stay S)
    (turn : ∀ m x acc S (nx : List D → DS → Prop), xs[m]? = some x → m < xs.length → P m acc S → (∀ acc S, P (m + 1) acc S → nx acc S) → g x δ S fun δ2 S2 => t δ2 S2 fun b S3 => if b = true then a δ2 S3 fun y S4 => acc.length < 16777216 ∧ nx (acc ++ [y]) S4 else nx acc S3)
    (done : ∀ acc S, P xs.length acc S → KK acc S) : lcT stay g t a δ KK xs acc0 S := by
  have all : ∀ k m acc S, xs.length - m = k → m ≤ xs.length → P m acc S → lcT stay g t a δ KK (xs.drop m) acc S := by
    intro k
    induction k with
    | zero =>
      intro m acc S hk hm p
      have : m = xs.length := by omega
      subst this
      rw [List.drop_length]
      exact ⟨hst _ acc S (Nat.le_refl _) p, done acc S p⟩
    | succ k ih =>
      intro m acc S hk hm p
      have hlt : m < xs.length := by omega
      rw [List.drop_eq_getElem_cons hlt]
      exact ⟨hst m acc S hm p, turn m xs[m] acc S _ (List.getElem?_eq_getElem hlt) hlt p fun δ2 S2 h2 => ih (m + 1) δ2 S2 (by omega) (by omega) h2⟩
  have := all _ 0 acc0 S rfl (Nat.zero_le _) h0
  rwa [List.drop_zero] at this
theorem lc2_inv {δ : Loc} {KK : List D → DS → Prop} {di1 : DI} {g1 : DG} {t1 : DT} {vs1 : List Nat} {acc0 : List D} (P : Nat → List D → DS → Prop) (h0 : P 0 acc0 S) (hst : ∀ m acc S, m ≤ xs.length → P m acc S → stay S)
    (turn : ∀ m x acc S (nx : List D → DS → Prop), xs[m]? = some x → m < xs.length → P m acc S → (∀ acc S, P (m + 1) acc S → nx acc S) →
      g x δ S fun δ2 S2 => t δ2 S2 fun b S3 => if b = true then di1 δ2 S3 fun ys stay1 S4 => lcT stay1 g1 t1 a (dwipe δ2 vs1) nx ys acc S4 else nx acc S3)
    (done : ∀ acc S, P xs.length acc S → KK acc S) : lcT2 stay g t di1 g1 t1 a δ vs1 KK xs acc0 S := by
  have all : ∀ k m acc S, xs.length - m = k → m ≤ xs.length → P m acc S → lcT2 stay g t di1 g1 t1 a δ vs1 KK (xs.drop m) acc S := by
    intro k
    induction k with
    | zero =>
      intro m acc S hk hm p
      have : m = xs.length := by omega
      subst this
      rw [List.drop_length]
      exact ⟨hst _ acc S (Nat.le_refl _) p, done acc S p⟩
    | succ k ih =>
      intro m acc S hk hm p
      have hlt : m < xs.length := by omega
      rw [List.drop_eq_getElem_cons hlt]
      exact ⟨hst m acc S hm p, turn m xs[m] acc S _ (List.getElem?_eq_getElem hlt) hlt p fun acc S h => ih (m + 1) acc S (by omega) (by omega) h⟩
  have := all _ 0 acc0 S rfl (Nat.zero_le _) h0
  rwa [List.drop_zero] at this
theorem while_inv (P : Nat → Loc → DS → Prop) (n : Nat) (h0 : P n δ S)
    (turn : ∀ m δ S (nx' : Loc → DS → Prop), P m δ S → (∀ m' δ S, m' < m → P m' δ S → nx' δ S) → t δ S fun b S1 => if b = true then tb ⟨nx', rt, nx, nx'⟩ δ S1 else nx δ S1) : dWhile t tb ⟨nx, rt, bk, ct⟩ δ S := by
  have all : ∀ k m δ S, m < k → P m δ S → dWhileN t tb k ⟨nx, rt, bk, ct⟩ δ S := by
    intro k
    induction k with
    | zero => intro m δ S h; omega
    | succ k ih =>
      intro m δ S hm p
      exact turn m δ S _ p fun m' δ' S' h' p' => ih m' δ' S' (by omega) p'
  exact ⟨n + 1, all _ n δ S (Nat.lt_succ_self n) h0⟩
end
end DL
namespace Gk80
open PySem L2 DL
/- 0: retry_waits(plan): 0 plan 1 many 2 first 3 factor 4 most 5 limit 6 waits 7 _ -/
def b_0 (c : Nat → DF) : DSt :=
  (dSeq (dAsg (dVar 0) (dgTup 5 (dgCons (dgName 1) (dgCons (dgName 2) (dgCons (dgName 3) (dgCons (dgName 4) (dgCons (dgName 5) dgNil)))))))
  (dSeq (dAsg (dLst dNil) (dgName 6))
  (dSeq (dFor (dRng1 (dCons (dOp oSub (dVar 1) (dC (.int 1))) dNil)) (dgName 7) (dDrop (dBM okLst (mLst fAppend) (dVar 6) (dCons (dIfE (dTb (dOp (oCmp .gt) (dCall bLen (dCons (dVar 6) dNil)) (dC (.int 0)))) (dCall bMin2 (dCons (dVar 4) (dCons (dOp oMul (dOp oIx (dVar 6) (dUn uNeg (dC (.int 1)))) (dVar 3)) dNil))) (dCall bMin2 (dCons (dVar 4) (dCons (dVar 2) dNil)))) dNil))))
  (dRet (dCall bTuple (dCons (dVar 6) dNil))))))
def f_0 : FnD := ⟨1, 8, b_0⟩
/- 1: is_behind(time, limit): 0 time 1 limit -/
def b_1 (c : Nat → DF) : DSt :=
  (dRet (dAndV (dOp (oIs true) (dVar 1) (dC .non)) (dOp (oCmp .gt) (dVar 0) (dVar 1))))
def f_1 : FnD := ⟨2, 2, b_1⟩
/- 2: retried(plan, series): 0 plan 1 series 2 many 3 first 4 factor 5 most 6 limit 7 waits 8 begins 9 now 10 made 11 cost 12 outcome -/
def b_2 (c : Nat → DF) : DSt :=
  (dSeq (dAsg (dVar 0) (dgTup 5 (dgCons (dgName 2) (dgCons (dgName 3) (dgCons (dgName 4) (dgCons (dgName 5) (dgCons (dgName 6) dgNil)))))))
  (dSeq (dAsg (dCall (c 0) (dCons (dVar 0) dNil)) (dgName 7))
  (dSeq (dAsg (dLst dNil) (dgName 8))
  (dSeq (dAsg (dC (.int 0)) (dgName 9))
  (dWhile (dTb (dC (.bl true))) (dSeq (dDrop (dBM okLst (mLst fAppend) (dVar 8) (dCons (dVar 9) dNil)))
    (dSeq (dAsg (dCall bLen (dCons (dVar 8) dNil)) (dgName 10))
    (dSeq (dIf (dTb (dOp (oCmp .gt) (dVar 10) (dCall bLen (dCons (dVar 1) dNil)))) (dRet (dTup (dCons (dCall bTuple (dCons (dVar 8) dNil)) (dCons (dIfE (dTb (dOp (oIs false) (dVar 6) (dC .non))) (dC .non) (dTup (dCons (dVar 6) (dCons (dC (.tup [(.str "bad"), (.str "late")])) dNil)))) dNil)))) dNext)
    (dSeq (dAsg (dOp oIx (dVar 1) (dOp oSub (dVar 10) (dC (.int 1)))) (dgTup 2 (dgCons (dgName 11) (dgCons (dgName 12) dgNil))))
    (dSeq (dIf (dTb (dCall (c 1) (dCons (dOp oAdd (dVar 9) (dVar 11)) (dCons (dVar 6) dNil)))) (dRet (dTup (dCons (dCall bTuple (dCons (dVar 8) dNil)) (dCons (dTup (dCons (dVar 6) (dCons (dC (.tup [(.str "bad"), (.str "late")])) dNil))) dNil)))) dNext)
    (dSeq (dAug 9 (dVar 11) (oBit (· + ·)))
    (dSeq (dIf (dOr (dTb (dOp (oEq false) (dOp oIx (dVar 12) (dC (.int 0))) (dC (.str "good")))) (dOr (dTb (dOp (oEq false) (dOp oIx (dVar 12) (dC (.int 1))) (dC (.str "final")))) (dTb (dOp (oEq false) (dVar 10) (dVar 2))))) (dRet (dTup (dCons (dCall bTuple (dCons (dVar 8) dNil)) (dCons (dTup (dCons (dVar 9) (dCons (dVar 12) dNil))) dNil)))) dNext)
    (dSeq (dIf (dTb (dCall (c 1) (dCons (dOp oAdd (dVar 9) (dOp oIx (dVar 7) (dOp oSub (dVar 10) (dC (.int 1))))) (dCons (dVar 6) dNil)))) (dRet (dTup (dCons (dCall bTuple (dCons (dVar 8) dNil)) (dCons (dTup (dCons (dVar 9) (dCons (dVar 12) dNil))) dNil)))) dNext)
    (dAug 9 (dOp oIx (dVar 7) (dOp oSub (dVar 10) (dC (.int 1)))) (oBit (· + ·))))))))))))))))
def f_2 : FnD := ⟨2, 13, b_2⟩
/- 3: bad_series(many, c): 0 many 1 c 2 _ -/
def b_3 (c : Nat → DF) : DSt :=
  (dRet (dCall bTuple (dCons (dLc (dRng1 (dCons (dVar 0) dNil)) (dgName 2) dYes (dTup (dCons (dVar 1) (dCons (dTup (dCons (dC (.str "bad")) (dCons (dC (.str "x")) dNil))) dNil))) [2]) dNil)))
def f_3 : FnD := ⟨2, 3, b_3⟩
/- 4: counting_waits(plan): 0 plan 1 found 2 total 3 wait -/
def b_4 (c : Nat → DF) : DSt :=
  (dSeq (dAsg (dLst dNil) (dgName 1))
  (dSeq (dAsg (dC (.int 0)) (dgName 2))
  (dSeq (dFor (dIter (dCall (c 0) (dCons (dVar 0) dNil))) (dgName 3) (dSeq (dAug 2 (dVar 3) (oBit (· + ·)))
    (dSeq (dIf (dTb (dCall (c 1) (dCons (dVar 2) (dCons (dOp oIx (dVar 0) (dC (.int 4))) dNil)))) dBreak dNext)
    (dDrop (dBM okLst (mLst fAppend) (dVar 1) (dCons (dVar 3) dNil))))))
  (dRet (dCall bTuple (dCons (dVar 1) dNil))))))
def f_4 : FnD := ⟨1, 4, b_4⟩
/- 5: plans_alike(one, other): 0 one 1 other -/
def b_5 (c : Nat → DF) : DSt :=
  (dRet (dAndV (dOp (oEq false) (dOp oIx (dVar 0) (dC (.int 4))) (dOp oIx (dVar 1) (dC (.int 4)))) (dOp (oEq false) (dCall (c 4) (dCons (dVar 0) dNil)) (dCall (c 4) (dCons (dVar 1) dNil)))))
def f_5 : FnD := ⟨2, 2, b_5⟩
/- 6: parting_series(one, other): 0 one 1 other 2 limits 3 limit 4 first 5 second 6 alike -/
def b_6 (c : Nat → DF) : DSt :=
  (dSeq (dIf (dTb (dCall (c 5) (dCons (dVar 0) (dCons (dVar 1) dNil)))) (dRet (dC .non)) dNext)
  (dSeq (dIf (dTb (dOp (oEq true) (dOp oIx (dVar 0) (dC (.int 4))) (dOp oIx (dVar 1) (dC (.int 4))))) (dSeq (dAsg (dLc (dIter (dTup (dCons (dOp oIx (dVar 0) (dC (.int 4))) (dCons (dOp oIx (dVar 1) (dC (.int 4))) dNil)))) (dgName 3) (dTb (dOp (oIs true) (dVar 3) (dC .non))) (dVar 3) [3]) (dgName 2))
    (dRet (dTup (dCons (dTup (dCons (dOp oAdd (dCall bMin1 (dCons (dVar 2) dNil)) (dC (.int 1))) (dCons (dTup (dCons (dC (.str "good")) (dCons (dC (.int 0)) dNil))) dNil))) dNil)))) dNext)
  (dSeq (dAsg (dCall (c 4) (dCons (dVar 0) dNil)) (dgName 4))
  (dSeq (dAsg (dCall (c 4) (dCons (dVar 1) dNil)) (dgName 5))
  (dSeq (dAsg (dC (.int 0)) (dgName 6))
  (dSeq (dWhile (dAnd (dTb (dOp (oCmp .lt) (dVar 6) (dCall bMin2 (dCons (dCall bLen (dCons (dVar 4) dNil)) (dCons (dCall bLen (dCons (dVar 5) dNil)) dNil))))) (dTb (dOp (oEq false) (dOp oIx (dVar 4) (dVar 6)) (dOp oIx (dVar 5) (dVar 6))))) (dAug 6 (dC (.int 1)) (oBit (· + ·))))
  (dRet (dCall (c 3) (dCons (dOp oAdd (dVar 6) (dC (.int 1))) (dCons (dC (.int 0)) dNil))))))))))
def f_6 : FnD := ⟨2, 7, b_6⟩
/- 7: judge_parting_series(one, other, series): 0 one 1 other 2 series -/
def b_7 (c : Nat → DF) : DSt :=
  (dRet (dOp (oEq true) (dCall (c 2) (dCons (dVar 0) (dCons (dVar 2) dNil))) (dCall (c 2) (dCons (dVar 1) (dCons (dVar 2) dNil)))))
def f_7 : FnD := ⟨3, 3, b_7⟩
/- 8: _law_draws(script, many): 0 script 1 many 2 cells 3 cell 4 left 5 draws 6 k 7 place 8 mixed -/
def b_8 (c : Nat → DF) : DSt :=
  (dSeq (dAsg (dLc (dIter (dSl (dVar 0) dNoPart (dPart (dC (.int 63))))) (dgName 3) dYes (dOp oMod (dCall bInt (dCons (dVar 3) dNil)) (dOp oShl (dC (.int 1)) (dC (.int 7200)))) [3]) (dgName 2))
  (dSeq (dIf (dTb (dOp (oEq false) (dCall bLen (dCons (dVar 2) dNil)) (dC (.int 0)))) (dDrop (dBM okLst (mLst fAppend) (dVar 2) (dCons (dC (.int 0)) dNil))) dNext)
  (dSeq (dAsg (dCall bList (dCons (dVar 2) dNil)) (dgName 4))
  (dSeq (dAsg (dLst dNil) (dgName 5))
  (dSeq (dFor (dRng1 (dCons (dVar 1) dNil)) (dgName 6) (dSeq (dAsg (dOp oMod (dCall bInt (dCons (dVar 6) dNil)) (dCall bLen (dCons (dVar 2) dNil))) (dgName 7))
    (dIf (dAnd (dTb (dOp (oCmp .ge) (dOp oIx (dVar 2) (dVar 7)) (dOp oPow (dC (.int 10)) (dC (.int 18))))) (dTb (dOp (oCmp .gt) (dOp oIx (dVar 4) (dVar 7)) (dC (.int 0))))) (dSeq (dDrop (dBM okLst (mLst fAppend) (dVar 5) (dCons (dOp oMod (dCall bInt (dCons (dOp oIx (dVar 4) (dVar 7)) dNil)) (dC (.int 1000))) dNil)))
      (dAsg (dOp oFdv (dOp oIx (dVar 4) (dVar 7)) (dC (.int 1000))) (dgSub (dVar 4) (dVar 7) sIx))) (dSeq (dAsg (dOp oMod (dCall bInt (dCons (dOp oAdd (dOp oAdd (dOp oMul (dOp oIx (dVar 2) (dVar 7)) (dC (.int 48271))) (dOp oMul (dVar 6) (dC (.int 69621)))) (dC (.int 11))) dNil)) (dC (.int 2147483647))) (dgName 8))
      (dDrop (dBM okLst (mLst fAppend) (dVar 5) (dCons (dOp oMod (dCall bInt (dCons (dOp oAdd (dOp oAdd (dOp oMul (dVar 8) (dVar 8)) (dOp oMul (dC (.int 3)) (dVar 8))) (dVar 6)) dNil)) (dC (.int 1000003))) dNil)))))))
  (dSeq (dDrop (dBM okLst (mLst fReverse) (dVar 5) dNil))
  (dRet (dVar 5))))))))
def f_8 : FnD := ⟨2, 9, b_8⟩
/- 9: _law_take(draws, many): 0 draws 1 many -/
def b_9 (c : Nat → DF) : DSt :=
  (dSeq (dIf (dTb (dOp (oEq false) (dCall bLen (dCons (dVar 0) dNil)) (dC (.int 0)))) (dRet (dC (.int 0))) dNext)
  (dRet (dOp oMod (dCall bInt (dCons (dBM okLst (mLst fPop) (dVar 0) dNil) dNil)) (dVar 1))))
def f_9 : FnD := ⟨2, 2, b_9⟩
/- 10: _law_pick(draws, row): 0 draws 1 row -/
def b_10 (c : Nat → DF) : DSt :=
  (dRet (dOp oIx (dVar 1) (dCall (c 9) (dCons (dVar 0) (dCons (dCall bLen (dCons (dVar 1) dNil)) dNil)))))
def f_10 : FnD := ⟨2, 2, b_10⟩
/- 11: _law_same(actual, due): 0 actual 1 due 2 k -/
def b_11 (c : Nat → DF) : DSt :=
  (dSeq (dIf (dTb (dCall bIsi (dCons (dVar 1) (dCons (dTup (dCons (dC (.ty "tuple")) (dCons (dC (.ty "list")) dNil))) dNil)))) (dSeq (dIf (dOr (dTb (dOp (oEq true) (dCall bIsi (dCons (dVar 0) (dCons (dC (.ty "tuple")) dNil))) (dCall bIsi (dCons (dVar 1) (dCons (dC (.ty "tuple")) dNil))))) (dTb (dOp (oEq true) (dCall bIsi (dCons (dVar 0) (dCons (dC (.ty "list")) dNil))) (dCall bIsi (dCons (dVar 1) (dCons (dC (.ty "list")) dNil)))))) (dRet (dC (.bl false))) dNext)
    (dSeq (dIf (dTb (dOp (oEq true) (dCall bLen (dCons (dVar 0) dNil)) (dCall bLen (dCons (dVar 1) dNil)))) (dRet (dC (.bl false))) dNext)
    (dRet (dOp (oIn true) (dC (.bl false)) (dLc (dRng1 (dCons (dCall bLen (dCons (dVar 1) dNil)) dNil)) (dgName 2) dYes (dCall (c 11) (dCons (dOp oIx (dVar 0) (dVar 2)) (dCons (dOp oIx (dVar 1) (dVar 2)) dNil))) [2]))))) dNext)
  (dSeq (dIf (dOr (dTb (dOp (oEq true) (dCall bIsi (dCons (dVar 0) (dCons (dC (.ty "bool")) dNil))) (dCall bIsi (dCons (dVar 1) (dCons (dC (.ty "bool")) dNil))))) (dTb (dOp (oEq true) (dCall bIsi (dCons (dVar 0) (dCons (dC (.ty "int")) dNil))) (dCall bIsi (dCons (dVar 1) (dCons (dC (.ty "int")) dNil)))))) (dRet (dC (.bl false))) dNext)
  (dSeq (dIf (dOr (dTb (dOp (oEq true) (dCall bIsi (dCons (dVar 0) (dCons (dC (.ty "str")) dNil))) (dCall bIsi (dCons (dVar 1) (dCons (dC (.ty "str")) dNil))))) (dTb (dOp (oEq true) (dOp (oIs false) (dVar 0) (dC .non)) (dOp (oIs false) (dVar 1) (dC .non))))) (dRet (dC (.bl false))) dNext)
  (dRet (dOp (oEq false) (dVar 0) (dVar 1))))))
def f_11 : FnD := ⟨2, 3, b_11⟩
/- 12: _law_is_int(thing): 0 thing -/
def b_12 (c : Nat → DF) : DSt :=
  (dRet (dAndV (dCall bIsi (dCons (dVar 0) (dCons (dC (.ty "int")) dNil))) (dNotV (dCall bIsi (dCons (dVar 0) (dCons (dC (.ty "bool")) dNil))))))
def f_12 : FnD := ⟨1, 1, b_12⟩
/- 13: _law_word(draws): 0 draws 1 size 2 j -/
def b_13 (c : Nat → DF) : DSt :=
  (dSeq (dAsg (dOp oAdd (dC (.int 1)) (dCall (c 9) (dCons (dVar 0) (dCons (dC (.int 3)) dNil)))) (dgName 1))
  (dSeq (dIf (dTb (dOp (oEq false) (dCall (c 9) (dCons (dVar 0) (dCons (dC (.int 9)) dNil))) (dC (.int 0)))) (dAsg (dOp oAdd (dOp oAdd (dVar 1) (dC (.int 3))) (dCall (c 9) (dCons (dVar 0) (dCons (dC (.int 20)) dNil)))) (dgName 1)) dNext)
  (dRet (dBM okStr mJoin (dC (.str "")) (dCons (dLc (dRng1 (dCons (dVar 1) dNil)) (dgName 2) dYes (dOp oIx (dC (.str "abcdefghijklmnopqrstuvwxyz")) (dCall (c 9) (dCons (dVar 0) (dCons (dC (.int 26)) dNil)))) [2]) dNil)))))
def f_13 : FnD := ⟨1, 3, b_13⟩
/- 14: _law_number(draws): 0 draws -/
def b_14 (c : Nat → DF) : DSt :=
  (dSeq (dIf (dTb (dOp (oEq false) (dCall (c 9) (dCons (dVar 0) (dCons (dC (.int 9)) dNil))) (dC (.int 0)))) (dRet (dCall (c 10) (dCons (dVar 0) (dCons (dLst (dCons (dOp oAdd (dOp oPow (dC (.int 10)) (dC (.int 9))) (dC (.int 7))) (dCons (dOp oSub (dUn uNeg (dOp oPow (dC (.int 10)) (dC (.int 17)))) (dC (.int 3))) (dCons (dOp oAdd (dOp oPow (dC (.int 10)) (dC (.int 40))) (dC (.int 121))) dNil)))) dNil)))) dNext)
  (dRet (dOp oSub (dCall (c 9) (dCons (dVar 0) (dCons (dC (.int 13)) dNil))) (dC (.int 4)))))
def f_14 : FnD := ⟨1, 1, b_14⟩
/- 15: _law_value(draws): 0 draws 1 kind 2 row 3 k -/
def b_15 (c : Nat → DF) : DSt :=
  (dSeq (dAsg (dCall (c 9) (dCons (dVar 0) (dCons (dC (.int 8)) dNil))) (dgName 1))
  (dSeq (dIf (dTb (dOp (oEq false) (dVar 1) (dC (.int 0)))) (dRet (dCall (c 13) (dCons (dVar 0) dNil))) dNext)
  (dSeq (dIf (dTb (dOp (oEq false) (dVar 1) (dC (.int 1)))) (dSeq (dAsg (dLc (dRng1 (dCons (dCall (c 9) (dCons (dVar 0) (dCons (dC (.int 3)) dNil))) dNil)) (dgName 3) dYes (dCall (c 14) (dCons (dVar 0) dNil)) [3]) (dgName 2))
    (dRet (dCall bTuple (dCons (dOp oAdd (dVar 2) (dOp oMul (dLst (dCons (dTup (dCons (dCall (c 14) (dCons (dVar 0) dNil)) dNil)) dNil)) (dCall (c 9) (dCons (dVar 0) (dCons (dC (.int 2)) dNil))))) dNil)))) dNext)
  (dRet (dCall (c 14) (dCons (dVar 0) dNil))))))
def f_15 : FnD := ⟨1, 4, b_15⟩
/- 16: _law_waits(plan): 0 plan 1 many 2 first 3 factor 4 most 5 limit 6 told 7 wait 8 k -/
def b_16 (c : Nat → DF) : DSt :=
  (dSeq (dAsg (dVar 0) (dgTup 5 (dgCons (dgName 1) (dgCons (dgName 2) (dgCons (dgName 3) (dgCons (dgName 4) (dgCons (dgName 5) dgNil)))))))
  (dSeq (dAsg (dLst dNil) (dgName 6))
  (dSeq (dAsg (dCall bMin2 (dCons (dVar 2) (dCons (dVar 4) dNil))) (dgName 7))
  (dSeq (dFor (dRng1 (dCons (dOp oSub (dVar 1) (dC (.int 1))) dNil)) (dgName 8) (dSeq (dDrop (dBM okLst (mLst fAppend) (dVar 6) (dCons (dVar 7) dNil)))
    (dAsg (dCall bMin2 (dCons (dVar 4) (dCons (dOp oMul (dVar 7) (dVar 3)) dNil))) (dgName 7))))
  (dRet (dVar 6))))))
def f_16 : FnD := ⟨1, 9, b_16⟩
/- 17: _law_retried(plan, series): 0 plan 1 series 2 many 3 limit 4 waits 5 begins 6 time 7 k 8 end 9 outcome -/
def b_17 (c : Nat → DF) : DSt :=
  (dSeq (dPar 2 3 (dCons (dOp oIx (dVar 0) (dC (.int 0))) (dCons (dOp oIx (dVar 0) (dC (.int 4))) dNil)))
  (dSeq (dAsg (dCall (c 16) (dCons (dVar 0) dNil)) (dgName 4))
  (dSeq (dAsg (dLst dNil) (dgName 5))
  (dSeq (dAsg (dC (.int 0)) (dgName 6))
  (dSeq (dFor (dRng1 (dCons (dVar 2) dNil)) (dgName 7) (dSeq (dDrop (dBM okLst (mLst fAppend) (dVar 5) (dCons (dVar 6) dNil)))
    (dSeq (dIf (dTb (dOp (oCmp .ge) (dVar 7) (dCall bLen (dCons (dVar 1) dNil)))) (dRet (dTup (dCons (dCall bTuple (dCons (dVar 5) dNil)) (dCons (dOp oIx (dLst (dCons (dTup (dCons (dVar 3) (dCons (dTup (dCons (dC (.str "bad")) (dCons (dC (.str "late")) dNil))) dNil))) (dCons (dC .non) dNil))) (dCall bInt (dCons (dOp (oIs false) (dVar 3) (dC .non)) dNil))) dNil)))) dNext)
    (dSeq (dAsg (dOp oAdd (dVar 6) (dOp oIx (dOp oIx (dVar 1) (dVar 7)) (dC (.int 0)))) (dgName 8))
    (dSeq (dAsg (dOp oIx (dOp oIx (dVar 1) (dVar 7)) (dC (.int 1))) (dgName 9))
    (dSeq (dIf (dAnd (dTb (dOp (oIs true) (dVar 3) (dC .non))) (dTb (dOp (oCmp .gt) (dVar 8) (dVar 3)))) (dRet (dTup (dCons (dCall bTuple (dCons (dVar 5) dNil)) (dCons (dTup (dCons (dVar 3) (dCons (dTup (dCons (dC (.str "bad")) (dCons (dC (.str "late")) dNil))) dNil))) dNil)))) dNext)
    (dSeq (dIf (dOr (dTb (dOp (oEq false) (dOp oIx (dVar 9) (dC (.int 0))) (dC (.str "good")))) (dOr (dTb (dOp (oEq false) (dOp oIx (dVar 9) (dC (.int 1))) (dC (.str "final")))) (dTb (dOp (oEq false) (dVar 7) (dOp oSub (dVar 2) (dC (.int 1))))))) (dRet (dTup (dCons (dCall bTuple (dCons (dVar 5) dNil)) (dCons (dTup (dCons (dVar 8) (dCons (dVar 9) dNil))) dNil)))) dNext)
    (dSeq (dIf (dAnd (dTb (dOp (oIs true) (dVar 3) (dC .non))) (dTb (dOp (oCmp .gt) (dOp oAdd (dVar 8) (dOp oIx (dVar 4) (dVar 7))) (dVar 3)))) (dRet (dTup (dCons (dCall bTuple (dCons (dVar 5) dNil)) (dCons (dTup (dCons (dVar 8) (dCons (dVar 9) dNil))) dNil)))) dNext)
    (dAsg (dOp oAdd (dVar 8) (dOp oIx (dVar 4) (dVar 7))) (dgName 6))))))))))
  (dRet (dC .non)))))))
def f_17 : FnD := ⟨2, 10, b_17⟩
/- 18: _law_length(draws): 0 draws -/
def b_18 (c : Nat → DF) : DSt :=
  (dSeq (dIf (dTb (dOp (oEq false) (dCall (c 9) (dCons (dVar 0) (dCons (dC (.int 9)) dNil))) (dC (.int 0)))) (dRet (dCall (c 10) (dCons (dVar 0) (dCons (dLst (dCons (dOp oAdd (dOp oPow (dC (.int 10)) (dC (.int 6))) (dC (.int 3))) (dCons (dOp oAdd (dOp oPow (dC (.int 10)) (dC (.int 15))) (dC (.int 37))) (dCons (dOp oAdd (dOp oPow (dC (.int 10)) (dC (.int 40))) (dC (.int 121))) dNil)))) dNil)))) dNext)
  (dRet (dCall (c 9) (dCons (dVar 0) (dCons (dCall (c 10) (dCons (dVar 0) (dCons (dLst (dCons (dC (.int 2)) (dCons (dC (.int 4)) (dCons (dC (.int 10)) dNil)))) dNil))) dNil)))))
def f_18 : FnD := ⟨1, 1, b_18⟩
/- 19: _law_plan(draws, most_many): 0 draws 1 most_many 2 many -/
def b_19 (c : Nat → DF) : DSt :=
  (dSeq (dAsg (dOp oAdd (dC (.int 1)) (dCall (c 9) (dCons (dVar 0) (dCons (dCall (c 10) (dCons (dVar 0) (dCons (dLst (dCons (dC (.int 3)) (dCons (dC (.int 8)) (dCons (dVar 1) dNil)))) dNil))) dNil)))) (dgName 2))
  (dRet (dTup (dCons (dVar 2) (dCons (dCall (c 18) (dCons (dVar 0) dNil)) (dCons (dOp oAdd (dC (.int 1)) (dCall (c 9) (dCons (dVar 0) (dCons (dC (.int 4)) dNil)))) (dCons (dOp oAdd (dCall (c 18) (dCons (dVar 0) dNil)) (dCall (c 18) (dCons (dVar 0) dNil))) (dCons (dC .non) dNil))))))))
def f_19 : FnD := ⟨2, 3, b_19⟩
/- 20: _law_series(draws, many): 0 draws 1 many 2 told 3 k 4 kind 5 outcome -/
def b_20 (c : Nat → DF) : DSt :=
  (dSeq (dAsg (dLst dNil) (dgName 2))
  (dSeq (dFor (dRng1 (dCons (dCall (c 9) (dCons (dVar 0) (dCons (dOp oAdd (dVar 1) (dC (.int 1))) dNil))) dNil)) (dgName 3) (dSeq (dAsg (dCall (c 9) (dCons (dVar 0) (dCons (dC (.int 8)) dNil))) (dgName 4))
    (dSeq (dAsg (dTup (dCons (dC (.str "bad")) (dCons (dCall (c 13) (dCons (dVar 0) dNil)) dNil))) (dgName 5))
    (dSeq (dIf (dTb (dOp (oEq false) (dVar 4) (dC (.int 0)))) (dAsg (dTup (dCons (dC (.str "good")) (dCons (dCall (c 15) (dCons (dVar 0) dNil)) dNil))) (dgName 5)) dNext)
    (dSeq (dIf (dTb (dOp (oEq false) (dVar 4) (dC (.int 1)))) (dAsg (dTup (dCons (dC (.str "bad")) (dCons (dC (.str "final")) dNil))) (dgName 5)) dNext)
    (dDrop (dBM okLst (mLst fAppend) (dVar 2) (dCons (dTup (dCons (dCall (c 18) (dCons (dVar 0) dNil)) (dCons (dVar 5) dNil))) dNil))))))))
  (dRet (dCall bTuple (dCons (dVar 2) dNil)))))
def f_20 : FnD := ⟨2, 6, b_20⟩
/- 21: _law_limited(draws, plan, series): 0 draws 1 plan 2 series 3 begins 4 k 5 time 6 limit -/
def b_21 (c : Nat → DF) : DSt :=
  (dSeq (dAsg (dOp oIx (dCall (c 17) (dCons (dVar 1) (dCons (dVar 2) dNil))) (dC (.int 0))) (dgName 3))
  (dSeq (dAsg (dCall (c 9) (dCons (dVar 0) (dCons (dCall bLen (dCons (dVar 3) dNil)) dNil))) (dgName 4))
  (dSeq (dAsg (dOp oIx (dVar 3) (dVar 4)) (dgName 5))
  (dSeq (dIf (dAnd (dTb (dOp (oCmp .lt) (dVar 4) (dCall bLen (dCons (dVar 2) dNil)))) (dTb (dOp (oEq false) (dCall (c 9) (dCons (dVar 0) (dCons (dC (.int 2)) dNil))) (dC (.int 0))))) (dAsg (dOp oAdd (dVar 5) (dOp oIx (dOp oIx (dVar 2) (dVar 4)) (dC (.int 0)))) (dgName 5)) dNext)
  (dSeq (dAsg (dCall bMax2 (dCons (dC (.int 0)) (dCons (dOp oAdd (dVar 5) (dCall (c 10) (dCons (dVar 0) (dCons (dLst (dCons (dC (.int 0)) (dCons (dC (.int 0)) (dCons (dUn uNeg (dC (.int 1))) (dCons (dC (.int 1)) (dCons (dC (.int 5)) dNil)))))) dNil)))) dNil))) (dgName 6))
  (dRet (dOp oAdd (dSl (dVar 1) dNoPart (dPart (dC (.int 4)))) (dTup (dCons (dVar 6) dNil)))))))))
def f_21 : FnD := ⟨3, 7, b_21⟩
/- 22: _law_counted(plan): 0 plan 1 told 2 total 3 wait -/
def b_22 (c : Nat → DF) : DSt :=
  (dSeq (dAsg (dLst dNil) (dgName 1))
  (dSeq (dAsg (dC (.int 0)) (dgName 2))
  (dSeq (dFor (dIter (dCall (c 16) (dCons (dVar 0) dNil))) (dgName 3) (dSeq (dAsg (dOp oAdd (dVar 2) (dVar 3)) (dgName 2))
    (dSeq (dIf (dAnd (dTb (dOp (oIs true) (dOp oIx (dVar 0) (dC (.int 4))) (dC .non))) (dTb (dOp (oCmp .gt) (dVar 2) (dOp oIx (dVar 0) (dC (.int 4)))))) (dRet (dVar 1)) dNext)
    (dDrop (dBM okLst (mLst fAppend) (dVar 1) (dCons (dVar 3) dNil))))))
  (dRet (dVar 1)))))
def f_22 : FnD := ⟨1, 4, b_22⟩
/- 23: _law_own_series(one, other): 0 one 1 other 2 limits 3 plan -/
def b_23 (c : Nat → DF) : DSt :=
  (dSeq (dAsg (dLc (dIter (dTup (dCons (dVar 0) (dCons (dVar 1) dNil)))) (dgName 3) (dTb (dOp (oIs true) (dOp oIx (dVar 3) (dC (.int 4))) (dC .non))) (dOp oIx (dVar 3) (dC (.int 4))) [3]) (dgName 2))
  (dSeq (dIf (dTb (dOp (oEq true) (dOp oIx (dVar 0) (dC (.int 4))) (dOp oIx (dVar 1) (dC (.int 4))))) (dRet (dTup (dCons (dTup (dCons (dOp oAdd (dCall bMin1 (dCons (dVar 2) dNil)) (dC (.int 1))) (dCons (dTup (dCons (dC (.str "good")) (dCons (dC (.int 1)) dNil))) dNil))) dNil))) dNext)
  (dRet (dOp oMul (dTup (dCons (dTup (dCons (dC (.int 0)) (dCons (dTup (dCons (dC (.str "bad")) (dCons (dC (.str "no")) dNil))) dNil))) dNil)) (dCall bMax2 (dCons (dOp oIx (dVar 0) (dC (.int 0))) (dCons (dOp oIx (dVar 1) (dC (.int 0))) dNil)))))))
def f_23 : FnD := ⟨2, 4, b_23⟩
/- 24: _law_is_series(thing): 0 thing 1 attempt -/
def b_24 (c : Nat → DF) : DSt :=
  (dSeq (dIf (dOr (dNot (dTb (dCall bIsi (dCons (dVar 0) (dCons (dC (.ty "tuple")) dNil))))) (dTb (dOp (oCmp .gt) (dCall bLen (dCons (dVar 0) dNil)) (dC (.int 500))))) (dRet (dC (.bl false))) dNext)
  (dSeq (dFor (dIter (dVar 0)) (dgName 1) (dSeq (dIf (dOr (dNot (dTb (dCall bIsi (dCons (dVar 1) (dCons (dC (.ty "tuple")) dNil))))) (dOr (dTb (dOp (oEq true) (dCall bLen (dCons (dVar 1) dNil)) (dC (.int 2)))) (dOr (dNot (dTb (dCall (c 12) (dCons (dOp oIx (dVar 1) (dC (.int 0))) dNil)))) (dTb (dOp (oCmp .lt) (dOp oIx (dVar 1) (dC (.int 0))) (dC (.int 0))))))) (dRet (dC (.bl false))) dNext)
    (dSeq (dIf (dOr (dNot (dTb (dCall bIsi (dCons (dOp oIx (dVar 1) (dC (.int 1))) (dCons (dC (.ty "tuple")) dNil))))) (dOr (dTb (dOp (oEq true) (dCall bLen (dCons (dOp oIx (dVar 1) (dC (.int 1))) dNil)) (dC (.int 2)))) (dTb (dOp (oIn true) (dOp oIx (dOp oIx (dVar 1) (dC (.int 1))) (dC (.int 0))) (dTup (dCons (dC (.str "good")) (dCons (dC (.str "bad")) dNil))))))) (dRet (dC (.bl false))) dNext)
    (dIf (dAnd (dTb (dOp (oEq false) (dOp oIx (dOp oIx (dVar 1) (dC (.int 1))) (dC (.int 0))) (dC (.str "bad")))) (dNot (dTb (dCall bIsi (dCons (dOp oIx (dOp oIx (dVar 1) (dC (.int 1))) (dC (.int 1))) (dCons (dC (.ty "str")) dNil)))))) (dRet (dC (.bl false))) dNext))))
  (dRet (dC (.bl true)))))
def f_24 : FnD := ⟨1, 2, b_24⟩
/- 25: _law_twins(draws, plan): 0 draws 1 plan 2 many 3 first 4 factor 5 most 6 limit 7 told 8 sums -/
def b_25 (c : Nat → DF) : DSt :=
  (dSeq (dAsg (dVar 1) (dgTup 5 (dgCons (dgName 2) (dgCons (dgName 3) (dgCons (dgName 4) (dgCons (dgName 5) (dgCons (dgName 6) dgNil)))))))
  (dSeq (dAsg (dLst (dCons (dVar 1) (dCons (dTup (dCons (dVar 2) (dCons (dCall bMin2 (dCons (dVar 3) (dCons (dVar 5) dNil))) (dCons (dVar 4) (dCons (dVar 5) (dCons (dVar 6) dNil)))))) (dCons (dTup (dCons (dVar 2) (dCons (dOp oAdd (dVar 3) (dVar 5)) (dCons (dVar 4) (dCons (dVar 5) (dCons (dVar 6) dNil)))))) dNil)))) (dgName 7))
  (dSeq (dDrop (dBM okLst (mLst fAppend) (dVar 7) (dCons (dTup (dCons (dCall bMin2 (dCons (dC (.int 500)) (dCons (dOp oAdd (dVar 2) (dC (.int 1))) dNil))) (dCons (dVar 3) (dCons (dVar 4) (dCons (dVar 5) (dCons (dVar 6) dNil)))))) dNil)))
  (dSeq (dDrop (dBM okLst (mLst fAppend) (dVar 7) (dCons (dTup (dCons (dVar 2) (dCons (dVar 3) (dCons (dOp oAdd (dVar 4) (dC (.int 1))) (dCons (dVar 5) (dCons (dVar 6) dNil)))))) dNil)))
  (dSeq (dDrop (dBM okLst (mLst fAppend) (dVar 7) (dCons (dTup (dCons (dVar 2) (dCons (dVar 3) (dCons (dVar 4) (dCons (dOp oAdd (dVar 5) (dC (.int 1))) (dCons (dVar 6) dNil)))))) dNil)))
  (dSeq (dDrop (dBM okLst (mLst fAppend) (dVar 7) (dCons (dTup (dCons (dVar 2) (dCons (dVar 3) (dCons (dC (.int 1)) (dCons (dCall bMin2 (dCons (dVar 3) (dCons (dVar 5) dNil))) (dCons (dVar 6) dNil)))))) dNil)))
  (dSeq (dAsg (dCall bSum (dCons (dCall (c 22) (dCons (dTup (dCons (dVar 2) (dCons (dVar 3) (dCons (dVar 4) (dCons (dVar 5) (dCons (dC .non) dNil)))))) dNil)) dNil)) (dgName 8))
  (dSeq (dDrop (dBM okLst (mLst fAppend) (dVar 7) (dCons (dTup (dCons (dVar 2) (dCons (dVar 3) (dCons (dVar 4) (dCons (dVar 5) (dCons (dVar 8) dNil)))))) dNil)))
  (dSeq (dDrop (dBM okLst (mLst fAppend) (dVar 7) (dCons (dTup (dCons (dOp oSub (dOp oAdd (dVar 2) (dC (.int 1))) (dCall bInt (dCons (dOp (oEq false) (dVar 2) (dC (.int 500))) dNil))) (dCons (dVar 3) (dCons (dVar 4) (dCons (dVar 5) (dCons (dVar 8) dNil)))))) dNil)))
  (dSeq (dDrop (dBM okLst (mLst fAppend) (dVar 7) (dCons (dTup (dCons (dVar 2) (dCons (dVar 3) (dCons (dVar 4) (dCons (dVar 5) (dCons (dCall bMax2 (dCons (dC (.int 0)) (dCons (dOp oSub (dVar 8) (dC (.int 1))) dNil))) dNil)))))) dNil)))
  (dSeq (dDrop (dBM okLst (mLst fAppend) (dVar 7) (dCons (dTup (dCons (dVar 2) (dCons (dVar 3) (dCons (dVar 4) (dCons (dVar 5) (dCons (dCall (c 10) (dCons (dVar 0) (dCons (dLst (dCons (dC .non) (dCons (dC (.int 0)) (dCons (dOp oAdd (dVar 8) (dC (.int 1))) dNil)))) dNil))) dNil)))))) dNil)))
  (dRet (dVar 7)))))))))))))
def f_25 : FnD := ⟨2, 9, b_25⟩
/- 26: _law_goes(draws, one, other): 0 draws 1 one 2 other 3 due 4 series 5 asked 6 there -/
def b_26 (c : Nat → DF) : DSt :=
  (dSeq (dAsg (dAndV (dOp (oEq false) (dOp oIx (dVar 1) (dC (.int 4))) (dOp oIx (dVar 2) (dC (.int 4)))) (dOp (oEq false) (dCall (c 22) (dCons (dVar 1) dNil)) (dCall (c 22) (dCons (dVar 2) dNil)))) (dgName 3))
  (dSeq (dIf (dNot (dTb (dCall (c 11) (dCons (dCall (c 5) (dCons (dVar 1) (dCons (dVar 2) dNil))) (dCons (dVar 3) dNil))))) (dRet (dC (.bl false))) dNext)
  (dSeq (dAsg (dCall (c 6) (dCons (dVar 1) (dCons (dVar 2) dNil))) (dgName 4))
  (dSeq (dAsg (dOp oAdd (dLst (dCons (dCall (c 20) (dCons (dVar 0) (dCons (dC (.int 5)) dNil))) (dCons (dCall (c 23) (dCons (dVar 1) (dCons (dVar 2) dNil))) dNil))) (dLst (dCons (dTup dNil) dNil))) (dgName 5))
  (dSeq (dIf (dTb (dVar 3)) (dIf (dTb (dOp (oIs true) (dVar 4) (dC .non))) (dRet (dC (.bl false))) dNext) (dSeq (dIf (dOr (dNot (dTb (dCall (c 24) (dCons (dVar 4) dNil)))) (dTb (dOp (oEq false) (dCall (c 17) (dCons (dVar 1) (dCons (dVar 4) dNil))) (dCall (c 17) (dCons (dVar 2) (dCons (dVar 4) dNil)))))) (dRet (dC (.bl false))) dNext)
    (dAsg (dOp oAdd (dVar 5) (dLst (dCons (dVar 4) (dCons (dSl (dVar 4) dNoPart (dPart (dUn uNeg (dC (.int 1))))) (dCons (dSl (dCall (c 23) (dCons (dVar 1) (dCons (dVar 2) dNil))) dNoPart (dPart (dUn uNeg (dC (.int 1))))) dNil))))) (dgName 5))))
  (dSeq (dFor (dIter (dVar 5)) (dgName 4) (dSeq (dAsg (dCall (c 17) (dCons (dVar 1) (dCons (dVar 4) dNil))) (dgName 6))
    (dSeq (dIf (dNot (dTb (dCall (c 11) (dCons (dCall (c 7) (dCons (dVar 1) (dCons (dVar 2) (dCons (dVar 4) dNil)))) (dCons (dOp (oEq true) (dVar 6) (dCall (c 17) (dCons (dVar 2) (dCons (dVar 4) dNil)))) dNil))))) (dRet (dC (.bl false))) dNext)
    (dIf (dNot (dTb (dCall (c 11) (dCons (dLst (dCons (dCall (c 2) (dCons (dVar 1) (dCons (dVar 4) dNil))) (dCons (dCall (c 2) (dCons (dVar 2) (dCons (dVar 4) dNil))) dNil))) (dCons (dLst (dCons (dVar 6) (dCons (dCall (c 17) (dCons (dVar 2) (dCons (dVar 4) dNil))) dNil))) dNil))))) (dRet (dC (.bl false))) dNext))))
  (dRet (dC (.bl true)))))))))
def f_26 : FnD := ⟨3, 7, b_26⟩
/- 27: law(script): 0 script 1 draws 2 k 3 plan 4 twins 5 j -/
def b_27 (c : Nat → DF) : DSt :=
  (dSeq (dAsg (dCall (c 8) (dCons (dVar 0) (dCons (dC (.int 600)) dNil))) (dgName 1))
  (dSeq (dFor (dRng1 (dCons (dC (.int 2)) dNil)) (dgName 2) (dSeq (dAsg (dCall (c 19) (dCons (dVar 1) (dCons (dOp oIx (dLst (dCons (dC (.int 20)) (dCons (dC (.int 500)) dNil))) (dVar 2)) dNil))) (dgName 3))
    (dSeq (dIf (dTb (dOp (oEq false) (dCall (c 9) (dCons (dVar 1) (dCons (dC (.int 2)) dNil))) (dC (.int 0)))) (dAsg (dCall (c 21) (dCons (dVar 1) (dCons (dVar 3) (dCons (dOp oMul (dTup (dCons (dTup (dCons (dC (.int 0)) (dCons (dTup (dCons (dC (.str "bad")) (dCons (dC (.str "no")) dNil))) dNil))) dNil)) (dOp oIx (dVar 3) (dC (.int 0)))) dNil)))) (dgName 3)) dNext)
    (dSeq (dAsg (dCall (c 25) (dCons (dVar 1) (dCons (dVar 3) dNil))) (dgName 4))
    (dSeq (dFor (dRng1 (dCons (dC (.int 5)) dNil)) (dgName 5) (dIf (dNot (dTb (dCall (c 26) (dCons (dVar 1) (dCons (dCall (c 10) (dCons (dVar 1) (dCons (dVar 4) dNil))) (dCons (dCall (c 10) (dCons (dVar 1) (dCons (dVar 4) dNil))) dNil)))))) (dRet (dC (.bl false))) dNext))
    (dIf (dOr (dNot (dTb (dCall (c 26) (dCons (dVar 1) (dCons (dOp oIx (dVar 4) (dC (.int 0))) (dCons (dOp oIx (dVar 4) (dC (.int 1))) dNil)))))) (dNot (dTb (dCall (c 26) (dCons (dVar 1) (dCons (dCall (c 19) (dCons (dVar 1) (dCons (dC (.int 6)) dNil))) (dCons (dVar 3) dNil))))))) (dRet (dC (.bl false))) dNext))))))
  (dRet (dC (.bl true)))))
def f_27 : FnD := ⟨1, 6, b_27⟩
def fs : Nat → FnD
  | 0 => f_0
  | 1 => f_1
  | 2 => f_2
  | 3 => f_3
  | 4 => f_4
  | 5 => f_5
  | 6 => f_6
  | 7 => f_7
  | 8 => f_8
  | 9 => f_9
  | 10 => f_10
  | 11 => f_11
  | 12 => f_12
  | 13 => f_13
  | 14 => f_14
  | 15 => f_15
  | 16 => f_16
  | 17 => f_17
  | 18 => f_18
  | 19 => f_19
  | 20 => f_20
  | 21 => f_21
  | 22 => f_22
  | 23 => f_23
  | 24 => f_24
  | 25 => f_25
  | 26 => f_26
  | 27 => f_27
  | _ => ⟨0, 0, fun _ => dNever⟩
theorem run_retry_waits {n : Nat} {a0 : D} {S : DS} {Q : DK} (h : b_0 (sem fs n) { nx := fun _ S' => Q .non S', rt := Q, bk := fun _ _ => False, ct := fun _ _ => False } [some a0, none, none, none, none, none, none, none] S) : sem fs (n + 1) 0 [a0] S Q := ⟨rfl, h⟩
theorem run_is_behind {n : Nat} {a0 a1 : D} {S : DS} {Q : DK} (h : b_1 (sem fs n) { nx := fun _ S' => Q .non S', rt := Q, bk := fun _ _ => False, ct := fun _ _ => False } [some a0, some a1] S) : sem fs (n + 1) 1 [a0, a1] S Q := ⟨rfl, h⟩
theorem run_retried {n : Nat} {a0 a1 : D} {S : DS} {Q : DK} (h : b_2 (sem fs n) { nx := fun _ S' => Q .non S', rt := Q, bk := fun _ _ => False, ct := fun _ _ => False } [some a0, some a1, none, none, none, none, none, none, none, none, none, none, none] S) : sem fs (n + 1) 2 [a0, a1] S Q := ⟨rfl, h⟩
theorem run_bad_series {n : Nat} {a0 a1 : D} {S : DS} {Q : DK} (h : b_3 (sem fs n) { nx := fun _ S' => Q .non S', rt := Q, bk := fun _ _ => False, ct := fun _ _ => False } [some a0, some a1, none] S) : sem fs (n + 1) 3 [a0, a1] S Q := ⟨rfl, h⟩
theorem run_counting_waits {n : Nat} {a0 : D} {S : DS} {Q : DK} (h : b_4 (sem fs n) { nx := fun _ S' => Q .non S', rt := Q, bk := fun _ _ => False, ct := fun _ _ => False } [some a0, none, none, none] S) : sem fs (n + 1) 4 [a0] S Q := ⟨rfl, h⟩
theorem run_plans_alike {n : Nat} {a0 a1 : D} {S : DS} {Q : DK} (h : b_5 (sem fs n) { nx := fun _ S' => Q .non S', rt := Q, bk := fun _ _ => False, ct := fun _ _ => False } [some a0, some a1] S) : sem fs (n + 1) 5 [a0, a1] S Q := ⟨rfl, h⟩
theorem run_parting_series {n : Nat} {a0 a1 : D} {S : DS} {Q : DK} (h : b_6 (sem fs n) { nx := fun _ S' => Q .non S', rt := Q, bk := fun _ _ => False, ct := fun _ _ => False } [some a0, some a1, none, none, none, none, none] S) : sem fs (n + 1) 6 [a0, a1] S Q := ⟨rfl, h⟩
theorem run_judge_parting_series {n : Nat} {a0 a1 a2 : D} {S : DS} {Q : DK} (h : b_7 (sem fs n) { nx := fun _ S' => Q .non S', rt := Q, bk := fun _ _ => False, ct := fun _ _ => False } [some a0, some a1, some a2] S) : sem fs (n + 1) 7 [a0, a1, a2] S Q := ⟨rfl, h⟩
theorem run__law_draws {n : Nat} {a0 a1 : D} {S : DS} {Q : DK} (h : b_8 (sem fs n) { nx := fun _ S' => Q .non S', rt := Q, bk := fun _ _ => False, ct := fun _ _ => False } [some a0, some a1, none, none, none, none, none, none, none] S) : sem fs (n + 1) 8 [a0, a1] S Q := ⟨rfl, h⟩
theorem run__law_take {n : Nat} {a0 a1 : D} {S : DS} {Q : DK} (h : b_9 (sem fs n) { nx := fun _ S' => Q .non S', rt := Q, bk := fun _ _ => False, ct := fun _ _ => False } [some a0, some a1] S) : sem fs (n + 1) 9 [a0, a1] S Q := ⟨rfl, h⟩
theorem run__law_pick {n : Nat} {a0 a1 : D} {S : DS} {Q : DK} (h : b_10 (sem fs n) { nx := fun _ S' => Q .non S', rt := Q, bk := fun _ _ => False, ct := fun _ _ => False } [some a0, some a1] S) : sem fs (n + 1) 10 [a0, a1] S Q := ⟨rfl, h⟩
theorem run__law_same {n : Nat} {a0 a1 : D} {S : DS} {Q : DK} (h : b_11 (sem fs n) { nx := fun _ S' => Q .non S', rt := Q, bk := fun _ _ => False, ct := fun _ _ => False } [some a0, some a1, none] S) : sem fs (n + 1) 11 [a0, a1] S Q := ⟨rfl, h⟩
theorem run__law_is_int {n : Nat} {a0 : D} {S : DS} {Q : DK} (h : b_12 (sem fs n) { nx := fun _ S' => Q .non S', rt := Q, bk := fun _ _ => False, ct := fun _ _ => False } [some a0] S) : sem fs (n + 1) 12 [a0] S Q := ⟨rfl, h⟩
theorem run__law_word {n : Nat} {a0 : D} {S : DS} {Q : DK} (h : b_13 (sem fs n) { nx := fun _ S' => Q .non S', rt := Q, bk := fun _ _ => False, ct := fun _ _ => False } [some a0, none, none] S) : sem fs (n + 1) 13 [a0] S Q := ⟨rfl, h⟩
theorem run__law_number {n : Nat} {a0 : D} {S : DS} {Q : DK} (h : b_14 (sem fs n) { nx := fun _ S' => Q .non S', rt := Q, bk := fun _ _ => False, ct := fun _ _ => False } [some a0] S) : sem fs (n + 1) 14 [a0] S Q := ⟨rfl, h⟩
theorem run__law_value {n : Nat} {a0 : D} {S : DS} {Q : DK} (h : b_15 (sem fs n) { nx := fun _ S' => Q .non S', rt := Q, bk := fun _ _ => False, ct := fun _ _ => False } [some a0, none, none, none] S) : sem fs (n + 1) 15 [a0] S Q := ⟨rfl, h⟩
theorem run__law_waits {n : Nat} {a0 : D} {S : DS} {Q : DK} (h : b_16 (sem fs n) { nx := fun _ S' => Q .non S', rt := Q, bk := fun _ _ => False, ct := fun _ _ => False } [some a0, none, none, none, none, none, none, none, none] S) : sem fs (n + 1) 16 [a0] S Q := ⟨rfl, h⟩
theorem run__law_retried {n : Nat} {a0 a1 : D} {S : DS} {Q : DK} (h : b_17 (sem fs n) { nx := fun _ S' => Q .non S', rt := Q, bk := fun _ _ => False, ct := fun _ _ => False } [some a0, some a1, none, none, none, none, none, none, none, none] S) : sem fs (n + 1) 17 [a0, a1] S Q := ⟨rfl, h⟩
theorem run__law_length {n : Nat} {a0 : D} {S : DS} {Q : DK} (h : b_18 (sem fs n) { nx := fun _ S' => Q .non S', rt := Q, bk := fun _ _ => False, ct := fun _ _ => False } [some a0] S) : sem fs (n + 1) 18 [a0] S Q := ⟨rfl, h⟩
theorem run__law_plan {n : Nat} {a0 a1 : D} {S : DS} {Q : DK} (h : b_19 (sem fs n) { nx := fun _ S' => Q .non S', rt := Q, bk := fun _ _ => False, ct := fun _ _ => False } [some a0, some a1, none] S) : sem fs (n + 1) 19 [a0, a1] S Q := ⟨rfl, h⟩
theorem run__law_series {n : Nat} {a0 a1 : D} {S : DS} {Q : DK} (h : b_20 (sem fs n) { nx := fun _ S' => Q .non S', rt := Q, bk := fun _ _ => False, ct := fun _ _ => False } [some a0, some a1, none, none, none, none] S) : sem fs (n + 1) 20 [a0, a1] S Q := ⟨rfl, h⟩
theorem run__law_limited {n : Nat} {a0 a1 a2 : D} {S : DS} {Q : DK} (h : b_21 (sem fs n) { nx := fun _ S' => Q .non S', rt := Q, bk := fun _ _ => False, ct := fun _ _ => False } [some a0, some a1, some a2, none, none, none, none] S) : sem fs (n + 1) 21 [a0, a1, a2] S Q := ⟨rfl, h⟩
theorem run__law_counted {n : Nat} {a0 : D} {S : DS} {Q : DK} (h : b_22 (sem fs n) { nx := fun _ S' => Q .non S', rt := Q, bk := fun _ _ => False, ct := fun _ _ => False } [some a0, none, none, none] S) : sem fs (n + 1) 22 [a0] S Q := ⟨rfl, h⟩
theorem run__law_own_series {n : Nat} {a0 a1 : D} {S : DS} {Q : DK} (h : b_23 (sem fs n) { nx := fun _ S' => Q .non S', rt := Q, bk := fun _ _ => False, ct := fun _ _ => False } [some a0, some a1, none, none] S) : sem fs (n + 1) 23 [a0, a1] S Q := ⟨rfl, h⟩
theorem run__law_is_series {n : Nat} {a0 : D} {S : DS} {Q : DK} (h : b_24 (sem fs n) { nx := fun _ S' => Q .non S', rt := Q, bk := fun _ _ => False, ct := fun _ _ => False } [some a0, none] S) : sem fs (n + 1) 24 [a0] S Q := ⟨rfl, h⟩
theorem run__law_twins {n : Nat} {a0 a1 : D} {S : DS} {Q : DK} (h : b_25 (sem fs n) { nx := fun _ S' => Q .non S', rt := Q, bk := fun _ _ => False, ct := fun _ _ => False } [some a0, some a1, none, none, none, none, none, none, none] S) : sem fs (n + 1) 25 [a0, a1] S Q := ⟨rfl, h⟩
theorem run__law_goes {n : Nat} {a0 a1 a2 : D} {S : DS} {Q : DK} (h : b_26 (sem fs n) { nx := fun _ S' => Q .non S', rt := Q, bk := fun _ _ => False, ct := fun _ _ => False } [some a0, some a1, some a2, none, none, none, none] S) : sem fs (n + 1) 26 [a0, a1, a2] S Q := ⟨rfl, h⟩
theorem run_law {n : Nat} {a0 : D} {S : DS} {Q : DK} (h : b_27 (sem fs n) { nx := fun _ S' => Q .non S', rt := Q, bk := fun _ _ => False, ct := fun _ _ => False } [some a0, none, none, none, none, none] S) : sem fs (n + 1) 27 [a0] S Q := ⟨rfl, h⟩
end Gk80
namespace Gk80
open PySem L2 DL
local macro_rules | `(tactic| walk_at "look") => `(tactic| first | assumption | exact dupd_same | ((with_reducible refine Ext.get (by assumption) ?_); walk_at "look") | ((with_reducible refine But.get (by assumption) ?_ ?_); walk_at "neq"; walk_at "look"))
local macro_rules | `(tactic| walk_at "neq") => `(tactic| first | assumption | (refine Ne.symm ?_; assumption) | (refine dne ?_ (by assumption); walk_at "look"; done) | (refine Ne.symm (dne ?_ (by assumption)); walk_at "look"; done))
local macro_rules | `(tactic| walk_at "fresh") => `(tactic| first | assumption | (refine Ext.back ?_ (by assumption); walk_at "ext"; done) | (refine But.back ?_ ?_ (by assumption); rotate_left; walk_at "neq"; walk_at "but"; done))
local macro_rules | `(tactic| walk_at "ext") => `(tactic| first | assumption | exact Ext.refl _ | ((with_reducible refine Ext.trans ?_ (by assumption)); walk_at "ext"; done) | ((with_reducible refine Ext.but ?_ (by assumption) ?_); rotate_left; walk_at "fresh"; walk_at "ext"; done))
local macro_rules | `(tactic| walk_at "but") => `(tactic| first | assumption | ((with_reducible refine But.ext ?_ (by assumption)); walk_at "but"; done) | ((with_reducible refine But.trans ?_ (by assumption)); walk_at "but"; done) | ((with_reducible refine But.but ?_ (by assumption) ?_); rotate_left; walk_at "fresh"; walk_at "but"; done) | (refine Ext.toBut ?_; walk_at "ext"; done))
local macro_rules | `(tactic| walk_at "d") => `(tactic| first
  | (with_reducible refine i_seq ?_)
  | (with_reducible refine i_asg ?_)
  | ((with_reducible refine' i_var ?e ?_); (case e => rfl))
  | (with_reducible refine i_c ?_)
  | (with_reducible refine i_cons ?_)
  | (with_reducible refine i_nil ?_)
  | ((with_reducible refine i_tup ?_))
  | ((with_reducible refine' i_len ?e ?_); (case e => exact rfl))
  | (with_reducible refine i_lst ?_)
  | (with_reducible refine i_op ?_)
  | (with_reducible refine i_un ?_)
  | (with_reducible refine i_tb ?_)
  | (with_reducible refine i_asB ?_)
  | (with_reducible refine i_call ?_)
  | (with_reducible refine i_bm ?_)
  | (with_reducible refine i_if ?_)
  | (with_reducible refine i_ret ?_)
  | (with_reducible refine i_next ?_)
  | (with_reducible refine i_drop ?_)
  | ((with_reducible refine' i_gname ?e ?_); (case e => (simp only [dwipe, List.set_cons_zero, List.set_cons_succ, List.set_nil]; exact rfl)))
  | ((with_reducible refine i_gtup ?e ?_); (case e => rfl))
  | (with_reducible refine i_gcons ?_)
  | (with_reducible refine i_gnil ?_)
  | (with_reducible refine i_gsub ?_)
  | (with_reducible refine i_and ?_)
  | (with_reducible refine i_or ?_)
  | (with_reducible refine i_not ?_)
  | (with_reducible refine i_andV ?_)
  | (with_reducible refine i_orV ?_)
  | (with_reducible refine i_notV ?_)
  | (with_reducible refine i_ifE ?_)
  | (with_reducible refine i_chain ?_)
  | (with_reducible refine i_sl ?_)
  | (with_reducible refine i_noPart ?_)
  | (with_reducible refine i_part ?_)
  | (with_reducible refine i_asP ?_)
  | (with_reducible refine i_yes ?_)
  | (with_reducible refine i_break ?_)
  | (with_reducible refine i_cont ?_)
  | (with_reducible refine i_retN ?_)
  | (with_reducible refine i_par ?_)
  | ((with_reducible refine' i_par2 ?e ?_); (case e => (simp only [List.set_cons_zero, List.set_cons_succ, List.set_nil]; exact rfl)))
  | ((with_reducible refine' i_aug ?e ?_); (case e => rfl))
  | (with_reducible refine i_augS ?_)
  | (with_reducible refine i_for ?_)
  | ((with_reducible refine' i_lc ?e ?_); (case e => (simp only [dwipe, List.set_cons_zero, List.set_cons_succ, List.set_nil]; exact rfl)))
  | ((with_reducible refine' i_lc2 ?e ?_); (case e => (simp only [dwipe, List.set_cons_zero, List.set_cons_succ, List.set_nil]; exact rfl)))
  | (with_reducible refine i_iter ?_)
  | (with_reducible refine i_iterV_tup ?_)
  | (with_reducible refine i_iterV_fl ?_)
  | ((with_reducible refine' i_iterV_ref ?e ?_); (case e => (walk_at "look"; done)))
  | (with_reducible refine i_rng1 ?_)
  | (with_reducible refine i_rng2 ?_)
  | (with_reducible refine i_rev ?_)
  | (with_reducible refine i_enum ?_)
  | (with_reducible refine o_addI ?_)
  | (with_reducible refine o_subI ?_)
  | (with_reducible refine o_neg ?_)
  | (with_reducible refine o_ltI ?_)
  | (with_reducible refine o_leI ?_)
  | (with_reducible refine o_gtI ?_)
  | (with_reducible refine o_geI ?_)
  | (with_reducible refine o_eqI ?_)
  | (with_reducible refine o_neI ?_)
  | (with_reducible refine o_eqS ?_)
  | (with_reducible refine o_neS ?_)
  | (with_reducible refine o_eqB ?_)
  | (with_reducible refine o_neB ?_)
  | (with_reducible refine o_is ?_)
  | (with_reducible refine o_isnot ?_)
  | (with_reducible refine o_bitI ?_)
  | (with_reducible refine o_slT ?_)
  | (with_reducible refine o_slF ?_)
  | ((with_reducible refine' o_slL ?e ?_); (case e => (walk_at "look"; done)))
  | (with_reducible refine c_lenT ?_)
  | (with_reducible refine c_lenF ?_)
  | ((with_reducible refine' c_lenL ?e ?_); (case e => (walk_at "look"; done)))
  | (with_reducible refine c_int ?_)
  | (with_reducible refine c_intB ?_)
  | (with_reducible refine c_abs ?_)
  | (with_reducible refine c_max2 ?_)
  | (with_reducible refine c_min2 ?_)
  | (with_reducible refine c_listT ?_)
  | (with_reducible refine c_listF ?_)
  | ((with_reducible refine' c_listL ?e ?_); (case e => (walk_at "look"; done)))
  | (with_reducible refine c_tupleT ?_)
  | (with_reducible refine c_tupleF ?_)
  | ((with_reducible refine' c_tupleL ?e ?_); (case e => (walk_at "look"; done)))
  | ((with_reducible refine' ok_L ?e ?_); (case e => (walk_at "look"; done)))
  | (with_reducible refine ok_S ?_)
  | (with_reducible refine ite_t ?_)
  | (with_reducible refine ite_f ?_)
  | (with_reducible refine ite_nt ?_)
  | (with_reducible refine ite_nf ?_))
def Drw (S : DS) (d : Addr) : Prop := ∃ ns : List Int, S d = some (.lst (ns.map D.int)) ∧ ns.length ≤ 1000000
theorem Drw.ext {S S' : DS} {d : Addr} (h : Drw S d) (e : Ext S S') : Drw S' d := let ⟨ns, h1, h2⟩ := h; ⟨ns, e _ _ h1, h2⟩
theorem Drw.but {S S' : DS} {d p : Addr} (h : Drw S d) (e : But p S S') (n : d ≠ p) : Drw S' d := let ⟨ns, h1, h2⟩ := h; ⟨ns, e _ _ n h1, h2⟩
theorem Drw.ne {S : DS} {d p : Addr} (h : Drw S d) (e : S p = none) : d ≠ p := let ⟨ns, h1, h2⟩ := h; dne h1 e
theorem Drw.ne' {S : DS} {d p : Addr} (h : Drw S d) (e : S p = none) : p ≠ d := (h.ne e).symm
theorem But.refl (d : Addr) (S : DS) : But d S S := fun _ _ _ h => h
theorem atI_some {α : Type} {xs : List α} {k : Int} (h0 : 0 ≤ k) (h1 : k < (xs.length : Int)) : ∃ v, L2.atI xs k = some v ∧ v ∈ xs ∧ xs[k.toNat]? = some v := by
  have hk : k.toNat < xs.length := by omega
  have e : k = ((k.toNat : Nat) : Int) := by omega
  have := L2.atI_nat (List.getElem?_eq_getElem hk)
  rw [← e] at this
  exact ⟨xs[k.toNat], this, List.getElem_mem hk, List.getElem?_eq_getElem hk⟩
theorem atI_at {α : Type} {xs : List α} {j : Nat} {k : Int} {v : α} (e : k = (j : Int)) (h : xs[j]? = some v) : L2.atI xs k = some v := by subst e; exact L2.atI_nat h
theorem ixN_at {n j : Nat} {k : Int} (e : k = (j : Int)) (h : j < n) : ixN n k = some j := by
  subst e; unfold ixN; rw [if_pos (by omega), if_pos (by omega)]; simp
theorem rng_at {lo : Int} {n m : Nat} {x : D} (h : (rngL lo n)[m]? = some x) : x = .int (lo + (m : Int)) ∧ m < n := by
  unfold rngL at h
  rw [List.getElem?_map] at h
  by_cases hm : m < n
  · rw [List.getElem?_range hm] at h; exact ⟨(Option.some.inj h).symm, hm⟩
  · rw [List.getElem?_eq_none (by rw [List.length_range]; omega)] at h; cases h
theorem rng_len {lo : Int} {n : Nat} : (rngL lo n).length = n := by unfold rngL; rw [List.length_map, List.length_range]
theorem log2_lt {z : Nat} {k : Nat} (hz : z < 2 ^ k) : z.log2 ≤ k := by
  by_cases h0 : z = 0
  · subst h0; rw [Nat.log2_zero]; exact Nat.zero_le _
  · exact Nat.le_of_lt ((Nat.log2_lt h0).mpr hz)
theorem lt_log {x y : Int} (hx : x.natAbs < 2 ^ 9000) (hy : y.natAbs < 2 ^ 9000) : x.natAbs.log2 + y.natAbs.log2 < 1000000 := by
  have := log2_lt hx
  have := log2_lt hy
  omega
def Pl : Nat → D → Prop
  | 0, _ => False
  | m + 1, d => match d with
    | .non => True
    | .bl _ => True
    | .int _ => True
    | .str _ => True
    | .tup xs => xs.length ≤ 16777216 ∧ ∀ x ∈ xs, Pl m x
    | _ => False
theorem Pl.up {m : Nat} {d : D} (h : Pl m d) : Pl (m + 1) d := by
  induction m generalizing d with
  | zero => exact h.elim
  | succ m ih =>
    cases d with
    | tup xs => exact ⟨h.1, fun x hx => ih (h.2 x hx)⟩
    | non => trivial
    | bl b => trivial
    | int b => trivial
    | str b => trivial
    | _ => exact h.elim
theorem Pl.int {m : Nat} {i : Int} : Pl (m + 1) (.int i) := True.intro
theorem Pl.str {m : Nat} {i : Str} : Pl (m + 1) (.str i) := True.intro
theorem Pl.bl {m : Nat} {i : Bool} : Pl (m + 1) (.bl i) := True.intro
theorem Pl.non {m : Nat} : Pl (m + 1) .non := True.intro
theorem Pl.tup {m : Nat} {xs : List D} (hl : xs.length ≤ 16777216) (h : ∀ x ∈ xs, Pl m x) : Pl (m + 1) (.tup xs) := ⟨hl, h⟩
theorem pow_le {a b : Nat} (h : a ≤ b) : (2 : Nat) ^ a ≤ 2 ^ b := Nat.pow_le_pow_right (by decide) h
theorem take_spec {n : Nat} {S : DS} {d : Addr} {m : Int} {Q : DK} (hd : Drw S d) (hm : 0 < m) (h : ∀ k S', 0 ≤ k → k < m → But d S S' → Drw S' d → Q (.int k) S') : sem fs (n + 1) 9 [.ref d, .int m] S Q := by
  obtain ⟨ns, h1, h2⟩ := hd
  refine run__law_take ?_
  unfold b_9
  repeat walk_at "d"
  refine ite_dec (fun c => ?_) (fun c => ?_)
  · repeat walk_at "d"
    exact h 0 S (Int.le_refl 0) hm (But.refl _ _) ⟨ns, h1, h2⟩
  · rcases List.eq_nil_or_concat ns with e | ⟨ms, v, e⟩
    · subst e; exact absurd rfl c
    · subst e
      rw [List.concat_eq_append, List.map_append] at h1
      rw [List.concat_eq_append, List.length_append] at h2
      repeat walk_at "d"
      refine m_pop h1 (by rw [List.length_map]; omega) (i_putL fun S1 e1 b1 => ?_)
      repeat walk_at "d"
      exact o_modI hm (h _ S1 (Int.emod_nonneg _ (by omega)) (Int.emod_lt_of_pos _ hm) b1 ⟨ms, e1, by omega⟩)
theorem pick_spec {n : Nat} {S : DS} {d r : Addr} {xs : List D} {Q : DK} (hd : Drw S d) (hr : S r = some (.lst xs)) (hn : xs ≠ []) (hne : r ≠ d) (h : ∀ v S', v ∈ xs → But d S S' → Drw S' d → Q v S') : sem fs (n + 2) 10 [.ref d, .ref r] S Q := by
  refine run__law_pick ?_
  unfold b_10
  repeat walk_at "d"
  have hl : 0 < (xs.length : Int) := by
    cases xs with
    | nil => exact absurd rfl hn
    | cons a b => simp only [List.length_cons]; omega
  refine take_spec hd hl fun k S1 h0 h1 b1 d1 => ?_
  obtain ⟨v, e, hv, _⟩ := atI_some h0 h1
  exact o_ixL (b1.get hne hr) e (h v S1 hv b1 d1)
theorem pickT_spec {n : Nat} {S : DS} {d : Addr} {xs : List D} {Q : DK} (hd : Drw S d) (hn : xs ≠ []) (h : ∀ v S', v ∈ xs → But d S S' → Drw S' d → Q v S') : sem fs (n + 2) 10 [.ref d, .tup xs] S Q := by
  refine run__law_pick ?_
  unfold b_10
  repeat walk_at "d"
  have hl : 0 < (xs.length : Int) := by
    cases xs with
    | nil => exact absurd rfl hn
    | cons a b => simp only [List.length_cons]; omega
  refine take_spec hd hl fun k S1 h0 h1 b1 d1 => ?_
  obtain ⟨v, e, hv, _⟩ := atI_some h0 h1
  exact o_ixT e (h v S1 hv b1 d1)
theorem draws_spec {n : Nat} {S : DS} {ns : List Int} {m : Int} {Q : DK} (hm : 0 ≤ m ∧ m ≤ 1000000) (h : ∀ p S', Ext S S' → S p = none → Drw S' p → Q (.ref p) S') : sem fs (n + 1) 8 [.fl (ns.map D.int), .int m] S Q := by
  refine run__law_draws ?_
  unfold b_8
  repeat walk_at "d"
  refine i_newL fun p0 S0 n0 e0 x0 => ?_
  repeat walk_at "d"
  refine lc_inv (fun j acc S1 => (∃ cs : List Int, acc = cs.map D.int ∧ cs.length = j ∧ ∀ c ∈ cs, 0 ≤ c ∧ c < 2 ^ 7200) ∧ Ext S S1 ∧ S1 p0 = some (.lst (dcut (ns.map D.int) none (some 63)))) ⟨⟨[], rfl, rfl, fun c h => by cases h⟩, x0, e0⟩ (fun j acc S1 hj p => seq_ref p.2.2) (fun j x acc S1 nx hx hj p hnx => ?_) (fun acc S1 p => ?_)
  · obtain ⟨⟨cs, rfl, hl, hc⟩, x1, e1⟩ := p
    have hxm := List.mem_of_getElem? hx
    have hxi : ∃ v, x = D.int v := by
      unfold dcut at hxm
      have := List.mem_of_mem_drop (List.mem_of_mem_take hxm)
      obtain ⟨v, _, q⟩ := List.mem_map.mp this
      exact ⟨v, q.symm⟩
    obtain ⟨v, rfl⟩ := hxi
    have hlen : (dcut (ns.map D.int) none (some 63)).length ≤ 63 := by
      unfold dcut
      rw [List.length_take]
      refine Nat.le_trans (Nat.min_le_left _ _) (Nat.le_trans (Nat.sub_le _ _) ?_)
      exact Nat.min_le_left _ _
    repeat walk_at "d"
    refine o_shlI (by decide) ?_
    repeat walk_at "d"
    have hpos : (0 : Int) < 1 * 2 ^ 7200 := by rw [Int.one_mul]; exact Int.pow_pos (by decide)
    refine o_modI hpos ⟨by rw [List.length_map]; omega, hnx _ _ ⟨⟨cs ++ [v % (1 * 2 ^ 7200)], by rw [List.map_append]; rfl, by rw [List.length_append, hl]; rfl, fun c hc' => ?_⟩, x1, e1⟩⟩
    rcases List.mem_append.mp hc' with q | q
    · exact hc c q
    · rw [List.mem_singleton.mp q]
      exact ⟨Int.emod_nonneg _ (by omega), Int.lt_of_lt_of_le (Int.emod_lt_of_pos _ hpos) (Int.le_of_eq (Int.one_mul _))⟩
  · obtain ⟨⟨cs, rfl, hl, hc⟩, x1, e1⟩ := p
    have hlen : (dcut (ns.map D.int) none (some 63)).length ≤ 63 := by
      unfold dcut
      rw [List.length_take]
      refine Nat.le_trans (Nat.min_le_left _ _) (Nat.le_trans (Nat.sub_le _ _) ?_)
      exact Nat.min_le_left _ _
    refine i_newL fun p1 S2 n2 e2 x2 => ?_
    replace x2 := x1.trans x2
    have n1 := Ext.back x1 n2
    clear x1 e1 x0 e0 n0
    have fin : ∀ (cs : List Int) (S2 : DS), cs ≠ [] → cs.length ≤ 64 → (∀ c ∈ cs, 0 ≤ c ∧ c < 2 ^ 7200) → S2 p1 = some (.lst (cs.map D.int)) → Ext S S2 → (dSeq (dAsg (dCall bList (dCons (dVar 2) dNil)) (dgName 4))
  (dSeq (dAsg (dLst dNil) (dgName 5))
  (dSeq (dFor (dRng1 (dCons (dVar 1) dNil)) (dgName 6) (dSeq (dAsg (dOp oMod (dCall bInt (dCons (dVar 6) dNil)) (dCall bLen (dCons (dVar 2) dNil))) (dgName 7))
    (dIf (dAnd (dTb (dOp (oCmp .ge) (dOp oIx (dVar 2) (dVar 7)) (dOp oPow (dC (.int 10)) (dC (.int 18))))) (dTb (dOp (oCmp .gt) (dOp oIx (dVar 4) (dVar 7)) (dC (.int 0))))) (dSeq (dDrop (dBM okLst (mLst fAppend) (dVar 5) (dCons (dOp oMod (dCall bInt (dCons (dOp oIx (dVar 4) (dVar 7)) dNil)) (dC (.int 1000))) dNil)))
      (dAsg (dOp oFdv (dOp oIx (dVar 4) (dVar 7)) (dC (.int 1000))) (dgSub (dVar 4) (dVar 7) sIx))) (dSeq (dAsg (dOp oMod (dCall bInt (dCons (dOp oAdd (dOp oAdd (dOp oMul (dOp oIx (dVar 2) (dVar 7)) (dC (.int 48271))) (dOp oMul (dVar 6) (dC (.int 69621)))) (dC (.int 11))) dNil)) (dC (.int 2147483647))) (dgName 8))
      (dDrop (dBM okLst (mLst fAppend) (dVar 5) (dCons (dOp oMod (dCall bInt (dCons (dOp oAdd (dOp oAdd (dOp oMul (dVar 8) (dVar 8)) (dOp oMul (dC (.int 3)) (dVar 8))) (dVar 6)) dNil)) (dC (.int 1000003))) dNil)))))))
  (dSeq (dDrop (dBM okLst (mLst fReverse) (dVar 5) dNil))
  (dRet (dVar 5)))))) { nx := fun _ S' => Q .non S', rt := Q, bk := fun _ _ => False, ct := fun _ _ => False } [some (.fl (ns.map D.int)), some (.int m), some (.ref p1), none, none, none, none, none, none] S2 := by
      intro cs S2 hne hl hc e2 x2
      have hp1 : 0 < cs.length := List.length_pos_iff.mpr hne
      repeat walk_at "d"
      refine i_newL fun p2 S3 n3 e3 x3 => ?_
      repeat walk_at "d"
      refine i_newL fun p3 S4 n4 e4 x4 => ?_
      repeat walk_at "d"
      refine i_rng1V (by omega) (for_inv (fun j δ S5 => ∃ a b c, ∃ ls ds : List Int, δ = [some (.fl (ns.map D.int)), some (.int m), some (.ref p1), none, some (.ref p2), some (.ref p3), a, b, c] ∧ ls.length = cs.length ∧ ds.length = j ∧ S5 p1 = some (.lst (cs.map D.int)) ∧ S5 p2 = some (.lst (ls.map D.int)) ∧ S5 p3 = some (.lst (ds.map D.int)) ∧ Ext S S5) ?_ ?_ ?_ ?_)
      · refine ⟨none, none, none, cs, [], rfl, rfl, rfl, x4.get (x3.get e2), x4.get e3, e4, x2.trans (x3.trans x4)⟩
      · exact fun _ _ _ _ _ => True.intro
      · rintro j x δ S5 nx hx hj ⟨a, b, c, ls, ds, rfl, h1, h2, e1, e2', e3', x5⟩ hnx
        obtain ⟨rfl, hjm⟩ := rng_at hx
        rw [Int.zero_add]
        have n12 : p1 ≠ p2 := fun e => by rw [← e] at n3; rw [n3] at e2; cases e2
        have n13 : p1 ≠ p3 := fun e => by rw [← e] at n4; rw [x3.get e2] at n4; cases n4
        have n23 : p2 ≠ p3 := fun e => by rw [← e] at n4; rw [e3] at n4; cases n4
        have bk : ∀ (S6 : DS), But p3 S5 S6 → Ext S S6 := fun S6 b6 => x5.but b6 (Ext.back x2 (Ext.back x3 n4))
        repeat walk_at "d"
        refine o_modI (by rw [List.length_map]; omega) ?_
        rw [List.length_map]
        repeat walk_at "d"
        have g0 := Int.emod_nonneg (j : Int) (show ((cs.length : Nat) : Int) ≠ 0 by omega)
        have g1 := Int.emod_lt_of_pos (j : Int) (show 0 < ((cs.length : Nat) : Int) by omega)
        generalize hk : (j : Int) % (cs.length : Int) = k at g0 g1
        have t1 : ∃ v, L2.atI (cs.map D.int) k = some (.int v) ∧ 0 ≤ v ∧ v < 2 ^ 7200 := by
          obtain ⟨v, q1, q2, q3⟩ := atI_some (xs := cs.map D.int) g0 (by rw [List.length_map]; exact g1)
          obtain ⟨w, q4, q5⟩ := List.mem_map.mp q2
          subst q5
          exact ⟨w, q1, hc w q4⟩
        have t2 : ∃ v, L2.atI (ls.map D.int) k = some (.int v) := by
          obtain ⟨v, q1, q2, q3⟩ := atI_some (xs := ls.map D.int) g0 (by rw [List.length_map, h1]; exact g1)
          obtain ⟨w, q4, q5⟩ := List.mem_map.mp q2
          subst q5
          exact ⟨w, q1⟩
        obtain ⟨v, q1, v0, v1⟩ := t1
        obtain ⟨w, q2⟩ := t2
        refine o_ixL e1 q1 ?_
        repeat walk_at "d"
        refine o_powI (by decide) ?_
        repeat walk_at "d"
        have els : (dSeq (dAsg (dOp oMod (dCall bInt (dCons (dOp oAdd (dOp oAdd (dOp oMul (dOp oIx (dVar 2) (dVar 7)) (dC (.int 48271))) (dOp oMul (dVar 6) (dC (.int 69621)))) (dC (.int 11))) dNil)) (dC (.int 2147483647))) (dgName 8))
      (dDrop (dBM okLst (mLst fAppend) (dVar 5) (dCons (dOp oMod (dCall bInt (dCons (dOp oAdd (dOp oAdd (dOp oMul (dVar 8) (dVar 8)) (dOp oMul (dC (.int 3)) (dVar 8))) (dVar 6)) dNil)) (dC (.int 1000003))) dNil)))) ⟨nx, Q, fun δ S => dSeq (dDrop (dBM okLst (mLst fReverse) (dVar 5) dNil))
  (dRet (dVar 5)) ⟨fun _ S' => Q .non S', Q, fun _ _ => False, fun _ _ => False⟩ δ S, nx⟩ [some (.fl (ns.map D.int)), some (.int m), some (.ref p1), none, some (.ref p2), some (.ref p3), some (.int j), some (.int k), c] S5 := by
          repeat walk_at "d"
          refine o_ixL e1 q1 ?_
          repeat walk_at "d"
          have b7200 : (2 : Int) ^ 7200 = ((2 ^ 7200 : Nat) : Int) := by rw [Int.natCast_pow]; rfl
          have hv : v.natAbs < 2 ^ 9000 := Nat.lt_of_lt_of_le (show v.natAbs < 2 ^ 7200 by rw [b7200] at v1; omega) (Nat.pow_le_pow_right (by decide) (by decide))
          have sm : ∀ z : Int, 0 ≤ z → z < 2 ^ 40 → z.natAbs < 2 ^ 9000 := fun z z0 z1 => Nat.lt_of_lt_of_le (show z.natAbs < 2 ^ 40 by omega) (Nat.pow_le_pow_right (by decide) (by decide))
          refine o_mulI (lt_log hv (sm _ (by decide) (by decide))) ?_
          repeat walk_at "d"
          refine o_mulI (lt_log (sm _ (by omega) (by omega)) (sm _ (by decide) (by decide))) ?_
          repeat walk_at "d"
          refine o_modI (by decide) ?_
          repeat walk_at "d"
          generalize hz : (v * 48271 + (j : Int) * 69621 + 11) % 2147483647 = z
          have z0 : 0 ≤ z := by rw [← hz]; exact Int.emod_nonneg _ (by decide)
          have z1 : z < 2147483647 := by rw [← hz]; exact Int.emod_lt_of_pos _ (by decide)
          refine o_mulI (lt_log (sm _ (by omega) (by omega)) (sm _ (by omega) (by omega))) ?_
          repeat walk_at "d"
          refine o_mulI (lt_log (sm _ (by decide) (by decide)) (sm _ (by omega) (by omega))) ?_
          repeat walk_at "d"
          refine o_modI (by decide) ?_
          repeat walk_at "d"
          refine m_append e3' (by rw [List.length_append, List.length_map]; show ds.length + 1 ≤ _; omega) (i_putL fun S6 e6 b6 => ?_)
          refine hnx _ _ ⟨_, _, _, ls, ds ++ [_], rfl, h1, by rw [List.length_append, h2]; rfl, b6.get n13 e1, b6.get n23 e2', by rw [List.map_append]; exact e6, bk _ b6⟩
        refine ite_dec (fun c1 => ?_) (fun c1 => ?_)
        · repeat walk_at "d"
          refine o_ixL e2' q2 ?_
          repeat walk_at "d"
          refine ite_dec (fun c2 => ?_) (fun c2 => ?_)
          · repeat walk_at "d"
            refine o_ixL e2' q2 ?_
            repeat walk_at "d"
            refine o_modI (by decide) ?_
            repeat walk_at "d"
            refine m_append e3' (by rw [List.length_append, List.length_map]; show ds.length + 1 ≤ _; omega) (i_putL fun S6 e6 b6 => ?_)
            repeat walk_at "d"
            refine o_ixL (b6.get n23 e2') q2 ?_
            repeat walk_at "d"
            refine o_fdvI (by decide) ?_
            repeat walk_at "d"
            refine s_ix (m := k.toNat) (b6.get n23 e2') (ixN_at (by omega) (by rw [List.length_map]; omega)) (i_putL fun S7 e7 b7 => ?_)
            refine hnx _ _ ⟨_, _, _, ls.set k.toNat (w / 1000), ds ++ [_], rfl, by rw [List.length_set]; exact h1, by rw [List.length_append, h2]; rfl, b7.get n12 (b6.get n13 e1), by rw [List.map_set]; exact e7, b7.get n23.symm (by rw [List.map_append]; exact e6), (bk _ b6).but b7 (Ext.back x2 n3)⟩
          · exact els
        · exact els
      · rintro δ S5 ⟨a, b, c, ls, ds, rfl, h1, h2, e1, e2', e3', x5⟩
        rw [rng_len] at h2
        repeat walk_at "d"
        refine m_reverse e3' (by rw [List.length_map]; omega) (i_putL fun S6 e6 b6 => ?_)
        repeat walk_at "d"
        exact h p3 S6 (x5.but b6 (Ext.back x2 (Ext.back x3 n4))) (Ext.back x2 (Ext.back x3 n4)) ⟨ds.reverse, by rw [List.map_reverse]; exact e6, by rw [List.length_reverse]; omega⟩
    repeat walk_at "d"
    refine ite_dec (fun c => ?_) (fun c => ?_)
    · have hcs : cs = [] := by
        rw [List.length_map] at c
        exact List.eq_nil_of_length_eq_zero (by omega)
      subst hcs
      repeat walk_at "d"
      refine m_append e2 (by decide) (i_putL fun S3 e3 b3 => ?_)
      exact fin [0] S3 (by simp) (by decide) (fun c hc => by rw [List.mem_singleton.mp hc]; exact ⟨by decide, Int.pow_pos (by decide)⟩) e3 (x2.but b3 n1)
    · refine i_next ?_
      refine fin cs S2 (fun e => by subst e; exact c rfl) (by rw [hl]; omega) hc e2 x2
theorem same_spec {n : Nat} : ∀ {m : Nat} {d : D} {S : DS} {Q : DK}, Pl m d → (∀ S', Ext S S' → Q (.bl true) S') → sem fs (n + m) 11 [d, d] S Q := by
  intro m
  induction m with
  | zero => intro d S Q h; exact h.elim
  | succ m ih =>
    intro d S Q h hq
    refine run__law_same ?_
    unfold b_11
    cases d with
    | tup xs =>
      obtain ⟨hl, hx⟩ := h
      repeat walk_at "d"
      refine c_isi2 (s := "tuple") rfl rfl rfl ?_
      repeat walk_at "d"
      refine ite_b (fun _ => ?_) (fun e => absurd e (by decide))
      repeat walk_at "d"
      refine c_isi (s := "tuple") rfl rfl ?_
      repeat walk_at "d"
      refine c_isi (s := "tuple") rfl rfl ?_
      repeat walk_at "d"
      refine ite_b (fun e => absurd e Bool.false_ne_true) (fun _ => ?_)
      repeat walk_at "d"
      refine c_isi (s := "tuple") rfl rfl ?_
      repeat walk_at "d"
      refine c_isi (s := "tuple") rfl rfl ?_
      repeat walk_at "d"
      refine ite_b (fun e => absurd e Bool.false_ne_true) (fun _ => ?_)
      repeat walk_at "d"
      refine ite_ndec (fun e => absurd rfl e) (fun _ => ?_)
      repeat walk_at "d"
      refine i_rng1V (by omega) (lc_inv (fun j acc S1 => acc = List.replicate j (D.bl true) ∧ Ext S S1) ⟨rfl, Ext.refl S⟩ (fun _ _ _ _ _ => True.intro) ?_ ?_)
      · rintro j x acc S1 nx hx' hj ⟨rfl, e1⟩ hnx
        obtain ⟨rfl, hjm⟩ := rng_at hx'
        rw [Int.toNat_natCast] at hjm
        rw [Int.zero_add]
        obtain ⟨v, q1, q2, _⟩ := atI_some (xs := xs) (k := (j : Int)) (by omega) (by omega)
        repeat walk_at "d"
        refine o_ixT q1 ?_
        repeat walk_at "d"
        refine o_ixT q1 ?_
        repeat walk_at "d"
        refine ih (hx v q2) fun S2 e2 => ⟨by rw [List.length_replicate]; omega, hnx _ _ ⟨by rw [List.replicate_succ'], e1.trans e2⟩⟩
      · rintro acc S1 ⟨rfl, e1⟩
        refine i_newL fun p S2 n2 e2 x2 => ?_
        have hp : D.plainL ((List.replicate (rngL 0 ((xs.length : Nat) : Int).toNat).length (D.bl true)).map (D.rd S2 3)) = true := by
          generalize (rngL 0 ((xs.length : Nat) : Int).toNat).length = z
          induction z with
          | zero => rfl
          | succ z ihz => rw [List.replicate_succ, List.map_cons, D.plainL, ihz]; rfl
        have hv : (((List.replicate (rngL 0 ((xs.length : Nat) : Int).toNat).length (D.bl true)).map (D.rd S2 3)).any fun e => D.eqv e ((D.bl false).rd S2 3)) = false := by
          rw [List.any_eq_false]
          intro e he
          obtain ⟨w, hw, rfl⟩ := List.mem_map.mp he
          rw [(List.mem_replicate.mp hw).2]
          rw [D.rd_plain _ 3 plain_bl, D.rd_plain _ 3 plain_bl, eqv_bl]
          decide
        have hi : oIn true (.bl false) (.ref p) S2 Q := by
          show (match seqOf S2 (.ref p) with
            | some xs => (((D.bl false).rd S2 3).plain = true ∧ D.plainL (xs.map (D.rd S2 3)) = true ∧ ((D.bl false).rd S2 3).dep ≤ 50) ∧ Q (.bl (true ^^ (xs.map (D.rd S2 3)).any fun e => D.eqv e ((D.bl false).rd S2 3))) S2
            | none => False)
          rw [seq_ref e2]
          refine ⟨⟨by rw [D.rd_plain _ 3 plain_bl]; exact plain_bl, hp, by rw [D.rd_plain _ 3 plain_bl]; exact dep_bl⟩, ?_⟩
          rw [hv]
          exact hq S2 (e1.trans x2)
        exact hi
    | non =>
      repeat walk_at "d"
      refine c_isi2 (s := "NoneType") rfl rfl rfl ?_
      repeat walk_at "d"
      refine ite_b (fun e => absurd e Bool.false_ne_true) (fun _ => ?_)
      repeat walk_at "d"
      refine c_isi (s := "NoneType") rfl rfl ?_
      repeat walk_at "d"
      refine c_isi (s := "NoneType") rfl rfl ?_
      repeat walk_at "d"
      refine ite_b (fun e => absurd e Bool.false_ne_true) (fun _ => ?_)
      repeat walk_at "d"
      refine c_isi (s := "NoneType") rfl rfl ?_
      repeat walk_at "d"
      refine c_isi (s := "NoneType") rfl rfl ?_
      repeat walk_at "d"
      refine ite_b (fun e => absurd e Bool.false_ne_true) (fun _ => ?_)
      repeat walk_at "d"
      refine c_isi (s := "NoneType") rfl rfl ?_
      repeat walk_at "d"
      refine c_isi (s := "NoneType") rfl rfl ?_
      repeat walk_at "d"
      refine ite_b (fun e => absurd e Bool.false_ne_true) (fun _ => ?_)
      repeat walk_at "d"
      refine ite_b (fun e => absurd e Bool.false_ne_true) (fun _ => ?_)
      repeat walk_at "d"
      exact o_eqP plain_non plain_non (.inl dep_non) (hq _ (Ext.refl _))
    | bl b =>
      repeat walk_at "d"
      refine c_isi2 (s := "bool") rfl rfl rfl ?_
      repeat walk_at "d"
      refine ite_b (fun e => absurd e Bool.false_ne_true) (fun _ => ?_)
      repeat walk_at "d"
      refine c_isi (s := "bool") rfl rfl ?_
      repeat walk_at "d"
      refine c_isi (s := "bool") rfl rfl ?_
      repeat walk_at "d"
      refine ite_b (fun e => absurd e Bool.false_ne_true) (fun _ => ?_)
      repeat walk_at "d"
      refine c_isi (s := "bool") rfl rfl ?_
      repeat walk_at "d"
      refine c_isi (s := "bool") rfl rfl ?_
      repeat walk_at "d"
      refine ite_b (fun e => absurd e Bool.false_ne_true) (fun _ => ?_)
      repeat walk_at "d"
      refine c_isi (s := "bool") rfl rfl ?_
      repeat walk_at "d"
      refine c_isi (s := "bool") rfl rfl ?_
      repeat walk_at "d"
      refine ite_b (fun e => absurd e Bool.false_ne_true) (fun _ => ?_)
      repeat walk_at "d"
      refine ite_b (fun e => absurd e Bool.false_ne_true) (fun _ => ?_)
      repeat walk_at "d"
      rw [beq_self_eq_true]
      exact hq _ (Ext.refl _)
    | int i =>
      repeat walk_at "d"
      refine c_isi2 (s := "int") rfl rfl rfl ?_
      repeat walk_at "d"
      refine ite_b (fun e => absurd e Bool.false_ne_true) (fun _ => ?_)
      repeat walk_at "d"
      refine c_isi (s := "int") rfl rfl ?_
      repeat walk_at "d"
      refine c_isi (s := "int") rfl rfl ?_
      repeat walk_at "d"
      refine ite_b (fun e => absurd e Bool.false_ne_true) (fun _ => ?_)
      repeat walk_at "d"
      refine c_isi (s := "int") rfl rfl ?_
      repeat walk_at "d"
      refine c_isi (s := "int") rfl rfl ?_
      repeat walk_at "d"
      refine ite_b (fun e => absurd e Bool.false_ne_true) (fun _ => ?_)
      repeat walk_at "d"
      refine c_isi (s := "int") rfl rfl ?_
      repeat walk_at "d"
      refine c_isi (s := "int") rfl rfl ?_
      repeat walk_at "d"
      refine ite_b (fun e => absurd e Bool.false_ne_true) (fun _ => ?_)
      repeat walk_at "d"
      refine ite_b (fun e => absurd e Bool.false_ne_true) (fun _ => ?_)
      repeat walk_at "d"
      rw [decide_eq_true rfl]
      exact hq _ (Ext.refl _)
    | str z =>
      repeat walk_at "d"
      refine c_isi2 (s := "str") rfl rfl rfl ?_
      repeat walk_at "d"
      refine ite_b (fun e => absurd e Bool.false_ne_true) (fun _ => ?_)
      repeat walk_at "d"
      refine c_isi (s := "str") rfl rfl ?_
      repeat walk_at "d"
      refine c_isi (s := "str") rfl rfl ?_
      repeat walk_at "d"
      refine ite_b (fun e => absurd e Bool.false_ne_true) (fun _ => ?_)
      repeat walk_at "d"
      refine c_isi (s := "str") rfl rfl ?_
      repeat walk_at "d"
      refine c_isi (s := "str") rfl rfl ?_
      repeat walk_at "d"
      refine ite_b (fun e => absurd e Bool.false_ne_true) (fun _ => ?_)
      repeat walk_at "d"
      refine c_isi (s := "str") rfl rfl ?_
      repeat walk_at "d"
      refine c_isi (s := "str") rfl rfl ?_
      repeat walk_at "d"
      refine ite_b (fun e => absurd e Bool.false_ne_true) (fun _ => ?_)
      repeat walk_at "d"
      refine ite_b (fun e => absurd e Bool.false_ne_true) (fun _ => ?_)
      repeat walk_at "d"
      rw [decide_eq_true rfl]
      exact hq _ (Ext.refl _)
    | _ => exact h.elim
theorem tyn_ref {S : DS} {p : Addr} {xs : List D} (e : S p = some (.lst xs)) : tyName S (.ref p) = some "list" := by
  show (match S p with
    | some (.lst _) => some "list"
    | _ => none) = _
  rw [e]
theorem sameL_spec {n m : Nat} {p q : Addr} {xs : List D} {S : DS} {Q : DK} (ep : S p = some (.lst xs)) (eq : S q = some (.lst xs)) (hl : xs.length ≤ 16777216) (hx : ∀ x ∈ xs, Pl m x) (hq : ∀ S', Ext S S' → Q (.bl true) S') : sem fs (n + m + 1) 11 [.ref p, .ref q] S Q := by
  refine run__law_same ?_
  unfold b_11
  repeat walk_at "d"
  refine c_isi2 (tyn_ref eq) rfl rfl ?_
  repeat walk_at "d"
  refine ite_b (fun _ => ?_) (fun e => absurd e (by decide))
  repeat walk_at "d"
  refine c_isi (tyn_ref ep) rfl ?_
  repeat walk_at "d"
  refine c_isi (tyn_ref eq) rfl ?_
  repeat walk_at "d"
  refine ite_b (fun e => absurd e (by decide)) (fun _ => ?_)
  repeat walk_at "d"
  refine c_isi (tyn_ref ep) rfl ?_
  repeat walk_at "d"
  refine c_isi (tyn_ref eq) rfl ?_
  repeat walk_at "d"
  refine ite_b (fun e => absurd e (by decide)) (fun _ => ?_)
  repeat walk_at "d"
  refine ite_ndec (fun e => absurd rfl e) (fun _ => ?_)
  repeat walk_at "d"
  refine i_rng1V (by omega) (lc_inv (fun j acc S1 => acc = List.replicate j (D.bl true) ∧ Ext S S1) ⟨rfl, Ext.refl S⟩ (fun _ _ _ _ _ => True.intro) ?_ ?_)
  · rintro j x acc S1 nx hx' hj ⟨rfl, e1⟩ hnx
    obtain ⟨rfl, hjm⟩ := rng_at hx'
    rw [Int.toNat_natCast] at hjm
    rw [Int.zero_add]
    obtain ⟨v, q1, q2, _⟩ := atI_some (xs := xs) (k := (j : Int)) (by omega) (by omega)
    repeat walk_at "d"
    refine o_ixL (e1.get ep) q1 ?_
    repeat walk_at "d"
    refine o_ixL (e1.get eq) q1 ?_
    repeat walk_at "d"
    refine same_spec (hx v q2) fun S2 e2 => ⟨by rw [List.length_replicate]; omega, hnx _ _ ⟨by rw [List.replicate_succ'], e1.trans e2⟩⟩
  · rintro acc S1 ⟨rfl, e1⟩
    refine i_newL fun r S2 n2 e2 x2 => ?_
    have hp : D.plainL ((List.replicate (rngL 0 ((xs.length : Nat) : Int).toNat).length (D.bl true)).map (D.rd S2 3)) = true := by
      generalize (rngL 0 ((xs.length : Nat) : Int).toNat).length = z
      induction z with
      | zero => rfl
      | succ z ihz => rw [List.replicate_succ, List.map_cons, D.plainL, ihz]; rfl
    have hv : (((List.replicate (rngL 0 ((xs.length : Nat) : Int).toNat).length (D.bl true)).map (D.rd S2 3)).any fun e => D.eqv e ((D.bl false).rd S2 3)) = false := by
      rw [List.any_eq_false]
      intro e he
      obtain ⟨w, hw, rfl⟩ := List.mem_map.mp he
      rw [(List.mem_replicate.mp hw).2]
      rw [D.rd_plain _ 3 plain_bl, D.rd_plain _ 3 plain_bl, eqv_bl]
      decide
    have hi : oIn true (.bl false) (.ref r) S2 Q := by
      show (match seqOf S2 (.ref r) with
        | some xs => (((D.bl false).rd S2 3).plain = true ∧ D.plainL (xs.map (D.rd S2 3)) = true ∧ ((D.bl false).rd S2 3).dep ≤ 50) ∧ Q (.bl (true ^^ (xs.map (D.rd S2 3)).any fun e => D.eqv e ((D.bl false).rd S2 3))) S2
        | none => False)
      rw [seq_ref e2]
      refine ⟨⟨by rw [D.rd_plain _ 3 plain_bl]; exact plain_bl, hp, by rw [D.rd_plain _ 3 plain_bl]; exact dep_bl⟩, ?_⟩
      rw [hv]
      exact hq S2 (e1.trans x2)
    exact hi
theorem letters {z : Str} {k : Int} (hz : z.length = 26) (h0 : 0 ≤ k) (h1 : k < 26) : ∃ c, L2.atI z.cps.toList k = some c := by
  obtain ⟨v, q, _⟩ := atI_some (xs := z.cps.toList) h0 (by rw [Array.length_toList]; show k < ((z.length : Nat) : Int); omega)
  exact ⟨v, q⟩
theorem word_spec {n : Nat} {S : DS} {d : Addr} {Q : DK} (hd : Drw S d) (h : ∀ w S', w.length ≤ 30 → But d S S' → Drw S' d → Q (.str w) S') : sem fs (n + 2) 13 [.ref d] S Q := by
  have main : ∀ (z : Int) (S1 : DS), 0 ≤ z → z ≤ 30 → But d S S1 → Drw S1 d → dRet (dBM okStr mJoin (dC (.str "")) (dCons (dLc (dRng1 (dCons (dVar 1) dNil)) (dgName 2) dYes (dOp oIx (dC (.str "abcdefghijklmnopqrstuvwxyz")) (dCall (sem fs (n + 1) 9) (dCons (dVar 0) (dCons (dC (.int 26)) dNil)))) [2]) dNil)) { nx := fun _ S' => Q .non S', rt := Q, bk := fun _ _ => False, ct := fun _ _ => False } [some (.ref d), some (.int z), none] S1 := by
    intro z S1 z0 z1 b1 d1
    repeat walk_at "d"
    refine i_rng1V (by omega) (lc_inv (fun j acc S2 => (∃ ws : List Str, acc = ws.map D.str ∧ ws.length = j ∧ ∀ w ∈ ws, w.length = 1) ∧ But d S S2 ∧ Drw S2 d) ⟨⟨[], rfl, rfl, fun w hw => by cases hw⟩, b1, d1⟩ (fun _ _ _ _ _ => True.intro) ?_ ?_)
    · rintro j x acc S2 nx hx hj ⟨⟨ws, rfl, hl, hw⟩, b2, d2⟩ hnx
      obtain ⟨rfl, hjm⟩ := rng_at hx
      repeat walk_at "d"
      refine take_spec d2 (by decide) fun k S3 k0 k1 b3 d3 => ?_
      obtain ⟨c, hc⟩ := letters (z := "abcdefghijklmnopqrstuvwxyz") (by decide +kernel) k0 k1
      refine o_ixS (by decide +kernel) hc ⟨by rw [List.length_map]; omega, hnx _ _ ⟨⟨ws ++ [⟨#[c]⟩], by rw [List.map_append]; rfl, by rw [List.length_append, hl]; rfl, fun w h' => ?_⟩, b2.trans b3, d3⟩⟩
      rcases List.mem_append.mp h' with q | q
      · exact hw w q
      · rw [List.mem_singleton.mp q]; rfl
    · rintro acc S2 ⟨⟨ws, rfl, hl, hw⟩, b2, d2⟩
      rw [rng_len] at hl
      refine i_newL fun p S3 n3 e3 x3 => ?_
      repeat walk_at "d"
      have hs : (ws.map (·.length)).sum = ws.length := by
        clear hl e3
        induction ws with
        | nil => rfl
        | cons a r ih => rw [List.map_cons, List.sum_cons, ih fun w q => hw w (List.mem_cons_of_mem _ q), hw a (List.mem_cons_self ..), List.length_cons]; omega
      refine m_join (seq_ref e3) (by rw [hs, show Str.length "" = 0 by decide +kernel]; omega) (h _ S3 ?_ (b2.ext x3) (d2.ext x3))
      exact Nat.le_trans (Nat.le_of_eq (PySem.W.KT.join_ones ws hw)) (by omega)
  refine run__law_word ?_
  unfold b_13
  repeat walk_at "d"
  refine take_spec hd (by decide) fun k S1 k0 k1 b1 d1 => ?_
  repeat walk_at "d"
  refine take_spec d1 (by decide) fun l S2 l0 l1 b2 d2 => ?_
  repeat walk_at "d"
  refine ite_dec (fun c => ?_) (fun c => ?_)
  · repeat walk_at "d"
    refine take_spec d2 (by decide) fun l S3 l0 l1 b3 d3 => ?_
    refine o_addI (i_gname rfl ?_)
    exact main _ S3 (by omega) (by omega) ((b1.trans b2).trans b3) d3
  · refine i_next ?_
    exact main _ S2 (by omega) (by omega) (b1.trans b2) d2
theorem number_spec {n : Nat} {S : DS} {d : Addr} {Q : DK} (hd : Drw S d) (h : ∀ v S', But d S S' → Drw S' d → -(10 ^ 50) < v → v < 10 ^ 50 → Q (.int v) S') : sem fs (n + 3) 14 [.ref d] S Q := by
  refine run__law_number ?_
  unfold b_14
  repeat walk_at "d"
  refine take_spec hd (by decide) fun k S1 h0 h1 b1 d1 => ?_
  repeat walk_at "d"
  refine ite_dec (fun c => ?_) (fun c => ?_)
  · repeat walk_at "d"
    refine o_powI (by decide) ?_
    repeat walk_at "d"
    refine o_powI (by decide) ?_
    repeat walk_at "d"
    refine o_powI (by decide) ?_
    repeat walk_at "d"
    refine i_newL fun p S2 n2 e2 x2 => ?_
    repeat walk_at "d"
    refine pick_spec (d1.ext x2) e2 (by simp) (d1.ne' n2) fun v S3 hv b3 d3 => ?_
    simp only [List.mem_cons, List.not_mem_nil, or_false] at hv
    rcases hv with rfl | rfl | rfl <;> exact h _ S3 ((b1.ext x2).trans b3) d3 (by decide) (by decide)
  · repeat walk_at "d"
    refine take_spec d1 (by decide) fun l S2 l0 l1 b2 d2 => ?_
    repeat walk_at "d"
    exact h _ S2 (b1.trans b2) d2 (by omega) (by omega)
theorem value_spec {n : Nat} {S : DS} {d : Addr} {Q : DK} (hd : Drw S d) (h : ∀ v S', But d S S' → Drw S' d → Pl 3 v → Q v S') : sem fs (n + 4) 15 [.ref d] S Q := by
  refine run__law_value ?_
  unfold b_15
  repeat walk_at "d"
  refine take_spec hd (by decide) fun k S1 h0 h1 b1 d1 => ?_
  repeat walk_at "d"
  refine ite_dec (fun c => ?_) (fun c => ?_)
  · repeat walk_at "d"
    exact word_spec d1 fun w S2 _ b2 d2 => h _ S2 (b1.trans b2) d2 True.intro
  repeat walk_at "d"
  refine ite_dec (fun c => ?_) (fun c => ?_)
  · repeat walk_at "d"
    refine take_spec d1 (by decide) fun l S2 l0 l1 b2 d2 => ?_
    repeat walk_at "d"
    refine i_rng1V (by omega) (lc_inv (fun j acc S3 => (∃ zs : List Int, acc = zs.map D.int ∧ zs.length = j) ∧ But d S S3 ∧ Drw S3 d) ⟨⟨[], rfl, rfl⟩, b1.trans b2, d2⟩ (fun _ _ _ _ _ => True.intro) ?_ ?_)
    · rintro j x acc S3 nx hx hj ⟨⟨zs, rfl, hz⟩, b3, d3⟩ hnx
      obtain ⟨rfl, hjm⟩ := rng_at hx
      repeat walk_at "d"
      refine number_spec d3 fun v S4 b4 d4 _ _ => ⟨by rw [List.length_map]; omega, hnx _ _ ⟨⟨zs ++ [v], by rw [List.map_append]; rfl, by rw [List.length_append, hz]; rfl⟩, b3.trans b4, d4⟩⟩
    · rintro acc S3 ⟨⟨zs, rfl, hz⟩, b3, d3⟩
      rw [rng_len] at hz
      refine i_newL fun p S4 n4 e4 x4 => ?_
      have npd := d3.ne' n4
      have d4 := d3.ext x4
      repeat walk_at "d"
      refine number_spec d4 fun v S5 b5 d5 _ _ => ?_
      repeat walk_at "d"
      refine i_newL fun q S6 n6 e6 x6 => ?_
      have nqd := d5.ne' n6
      have d6 := d5.ext x6
      repeat walk_at "d"
      refine take_spec d6 (by decide) fun w S7 w0 w1 b7 d7 => ?_
      have e7 := b7.get nqd e6
      refine o_mulL e7 (by simp only [List.length_cons, List.length_nil]; omega) (i_newL fun r S8 n8 e8 x8 => ?_)
      have e4' := x8.get (b7.get npd (x6.get (b5.get npd e4)))
      have hw : (List.replicate w.toNat [D.tup [.int v]]).flatten.length ≤ 2 := by
        rw [List.length_flatten, List.map_replicate, List.sum_replicate_nat]
        simp only [List.length_cons, List.length_nil]
        omega
      refine o_addL e4' e8 (by rw [List.length_map]; omega) (i_newL fun t S9 n9 e9 x9 => ?_)
      repeat walk_at "d"
      refine h _ S9 ((((((b3.ext x4).trans b5).ext x6).trans b7).ext x8).ext x9) ((d7.ext x8).ext x9) (Pl.tup ?_ fun x hx => ?_)
      · rw [List.length_append, List.length_map]; omega
      · rcases List.mem_append.mp hx with q | q
        · obtain ⟨i, _, rfl⟩ := List.mem_map.mp q
          exact True.intro
        · obtain ⟨l, hl, hx'⟩ := List.mem_flatten.mp q
          rw [(List.mem_replicate.mp hl).2] at hx'
          rw [List.mem_singleton.mp hx']
          exact Pl.tup (Nat.le_of_ble_eq_true rfl) fun y hy => by
            rw [List.mem_singleton.mp hy]; exact True.intro
  · repeat walk_at "d"
    exact number_spec d1 fun v S2 b2 d2 _ _ => h _ S2 (b1.trans b2) d2 True.intro
structure Pn where
  many : Nat
  first : Int
  factor : Int
  most : Int
  lim : Option Int
def limD : Option Int → D
  | none => .non
  | some l => .int l
def Pn.d (p : Pn) : D := .tup [.int (p.many : Int), .int p.first, .int p.factor, .int p.most, limD p.lim]
def Pn.ok (p : Pn) : Prop := (1 ≤ p.many ∧ p.many ≤ 600) ∧ (0 ≤ p.first ∧ p.first < 10 ^ 51) ∧ (0 ≤ p.factor ∧ p.factor ≤ 10) ∧ 0 ≤ p.most ∧ p.most < 10 ^ 51
def Pn.W (p : Pn) : Nat → Int
  | 0 => min p.most p.first
  | k + 1 => min p.most (p.W k * p.factor)
theorem Pn.W_ok {p : Pn} (h : p.ok) : ∀ k, 0 ≤ p.W k ∧ p.W k < 10 ^ 51
  | 0 => by obtain ⟨_, h1, _, h2⟩ := h; unfold Pn.W; omega
  | k + 1 => by
    have ih := (Pn.W_ok h k).1
    obtain ⟨_, h1, h3, h2⟩ := h
    have : 0 ≤ p.W k * p.factor := Int.mul_nonneg ih h3.1
    unfold Pn.W
    generalize p.W k * p.factor = z at this
    omega
def Pn.ws (p : Pn) (n : Nat) : List D := (List.range n).map fun k => D.int (p.W k)
theorem Pn.ws_len {p : Pn} {n : Nat} : (p.ws n).length = n := by unfold Pn.ws; rw [List.length_map, List.length_range]
theorem Pn.ws_succ {p : Pn} {n : Nat} : p.ws (n + 1) = p.ws n ++ [D.int (p.W n)] := by unfold Pn.ws; rw [List.range_succ, List.map_append]; rfl
theorem Pn.ws_at {p : Pn} {n j : Nat} {k : Int} (e : k = (j : Int)) (h : j < n) : L2.atI (p.ws n) k = some (.int (p.W j)) := atI_at e (by unfold Pn.ws; rw [List.getElem?_map, List.getElem?_range h]; rfl)
theorem sm_log {x y : Int} (hx : 0 ≤ x ∧ x < 10 ^ 51) (hy : 0 ≤ y ∧ y ≤ 10) : x.natAbs.log2 + y.natAbs.log2 < 1000000 := by
  have h1 : x.natAbs < 2 ^ 200 := by omega
  have h2 : y.natAbs < 2 ^ 200 := by omega
  exact lt_log (Nat.lt_of_lt_of_le h1 (pow_le (by decide))) (Nat.lt_of_lt_of_le h2 (pow_le (by decide)))
theorem waits_spec {n : Nat} {p : Pn} {S : DS} {Q : DK} (hp : p.ok) (h : ∀ S', Ext S S' → Q (.tup (p.ws (p.many - 1))) S') : sem fs (n + 1) 0 [p.d] S Q := by
  refine run_retry_waits ?_
  unfold b_0 Pn.d
  have hW := Pn.W_ok hp
  obtain ⟨h0, _, h3, _⟩ := hp
  repeat walk_at "d"
  refine i_newL fun q S1 n1 e1 x1 => ?_
  repeat walk_at "d"
  refine i_rng1V (by omega) (for_inv (fun j δ S2 => ∃ o, δ = [some (.tup [.int (p.many : Int), .int p.first, .int p.factor, .int p.most, limD p.lim]), some (.int (p.many : Int)), some (.int p.first), some (.int p.factor), some (.int p.most), some (limD p.lim), some (.ref q), o] ∧ S2 q = some (.lst (p.ws j)) ∧ Ext S S2) ⟨none, rfl, e1, x1⟩ (fun _ _ _ _ _ => True.intro) ?_ ?_)
  · rintro j x δ S2 nx hx hj ⟨o, rfl, e2, x2⟩ hnx
    obtain ⟨rfl, hjm⟩ := rng_at hx
    have fin : ∀ S3, S3 q = some (.lst (p.ws j ++ [.int (p.W j)])) → But q S2 S3 → nx [some (.tup [.int (p.many : Int), .int p.first, .int p.factor, .int p.most, limD p.lim]), some (.int (p.many : Int)), some (.int p.first), some (.int p.factor), some (.int p.most), some (limD p.lim), some (.ref q), some (.int (0 + (j : Int)))] S3 := fun S3 e3 b3 => hnx _ _ ⟨_, rfl, by rw [Pn.ws_succ]; exact e3, x2.but b3 n1⟩
    repeat walk_at "d"
    rw [Pn.ws_len]
    refine ite_dec (fun c => ?_) (fun c => ?_)
    · repeat walk_at "d"
      cases j with
      | zero => exact absurd c (by decide)
      | succ j =>
        refine o_ixL (v := .int (p.W j)) e2 (by rw [Pn.ws_succ]; exact L2.atI_last _ _) ?_
        repeat walk_at "d"
        refine o_mulI (sm_log (hW j) h3) ?_
        repeat walk_at "d"
        refine m_append e2 (by rw [List.length_append, Pn.ws_len]; show j + 1 + 1 ≤ _; omega) (i_putL fun S3 e3 b3 => ?_)
        exact fin S3 e3 b3
    · have : j = 0 := by omega
      subst this
      repeat walk_at "d"
      refine m_append e2 (Nat.le_of_ble_eq_true rfl) (i_putL fun S3 e3 b3 => ?_)
      exact fin S3 e3 b3
  · rintro δ S2 ⟨o, rfl, e2, x2⟩
    rw [rng_len] at e2
    repeat walk_at "d"
    rw [show ((p.many : Int) - 1).toNat = p.many - 1 by omega]
    exact h S2 x2
theorem lwaits_spec {n : Nat} {p : Pn} {S : DS} {Q : DK} (hp : p.ok) (h : ∀ q S', S q = none → S' q = some (.lst (p.ws (p.many - 1))) → Ext S S' → Q (.ref q) S') : sem fs (n + 1) 16 [p.d] S Q := by
  refine run__law_waits ?_
  unfold b_16 Pn.d
  have hW := Pn.W_ok hp
  obtain ⟨h0, _, h3, _⟩ := hp
  repeat walk_at "d"
  refine i_newL fun q S1 n1 e1 x1 => ?_
  repeat walk_at "d"
  refine i_rng1V (by omega) (for_inv (fun j δ S2 => ∃ o, δ = [some (.tup [.int (p.many : Int), .int p.first, .int p.factor, .int p.most, limD p.lim]), some (.int (p.many : Int)), some (.int p.first), some (.int p.factor), some (.int p.most), some (limD p.lim), some (.ref q), some (.int (p.W j)), o] ∧ S2 q = some (.lst (p.ws j)) ∧ Ext S S2) ⟨none, by unfold Pn.W; rw [Int.min_comm], e1, x1⟩ (fun _ _ _ _ _ => True.intro) ?_ ?_)
  · rintro j x δ S2 nx hx hj ⟨o, rfl, e2, x2⟩ hnx
    obtain ⟨rfl, hjm⟩ := rng_at hx
    repeat walk_at "d"
    refine m_append e2 (by rw [List.length_append, Pn.ws_len]; show j + 1 ≤ _; omega) (i_putL fun S3 e3 b3 => ?_)
    repeat walk_at "d"
    refine o_mulI (sm_log (hW j) h3) ?_
    repeat walk_at "d"
    refine hnx _ _ ⟨_, rfl, by rw [Pn.ws_succ]; exact e3, x2.but b3 n1⟩
  · rintro δ S2 ⟨o, rfl, e2, x2⟩
    rw [rng_len] at e2
    rw [show ((p.many : Int) - 1).toNat = p.many - 1 by omega] at e2
    repeat walk_at "d"
    exact h q S2 n1 e2 x2
def isb (t : Int) : Option Int → Bool
  | none => false
  | some l => decide (l < t)
theorem behind_spec {n : Nat} {t : Int} {l : Option Int} {S : DS} {Q : DK} (h : Q (.bl (isb t l)) S) : sem fs (n + 1) 1 [.int t, limD l] S Q := by
  refine run_is_behind ?_
  unfold b_1
  repeat walk_at "d"
  cases l with
  | none => exact ite_f h
  | some l =>
    refine ite_t ?_
    unfold limD
    repeat walk_at "d"
    exact h
theorem Pl.plain : ∀ {m : Nat} {d : D}, Pl m d → d.plain = true
  | 0, _, h => h.elim
  | m + 1, d, h => by
    cases d with
    | tup xs => rw [D.plain]; exact D.plainL_of fun x hx => Pl.plain (h.2 x hx)
    | non => exact plain_non
    | bl b => exact plain_bl
    | int b => exact plain_int
    | str b => exact plain_str
    | _ => exact h.elim
theorem Pl.dep : ∀ {m : Nat} {d : D}, Pl m d → d.dep ≤ m
  | 0, _, h => h.elim
  | m + 1, d, h => by
    cases d with
    | tup xs => rw [D.dep]; have := D.depL_le (n := m) fun x hx => Pl.dep (h.2 x hx); omega
    | non => rw [D.dep]; omega
    | bl b => rw [D.dep]; omega
    | int b => rw [D.dep]; omega
    | str b => rw [D.dep]; omega
    | _ => exact h.elim
theorem o_eqPl {m k : Nat} {x y : D} {neg : Bool} {S : DS} {Q : DK} (hx : Pl m x) (hy : Pl k y) (hm : m ≤ 50) (h : Q (.bl (neg ^^ D.eqv x y)) S) : oEq neg x y S Q :=
  o_eqP hx.plain hy.plain (.inl (Nat.le_trans hx.dep hm)) h
theorem Pl.le {m k : Nat} {d : D} (h : Pl m d) (hk : m ≤ k) : Pl k d := by
  induction hk with
  | refl => exact h
  | step _ ih => exact ih.up
theorem lim_pl {l : Option Int} {m : Nat} : Pl (m + 1) (limD l) := by cases l <;> exact True.intro
theorem pl2 {m : Nat} {x y : D} (hx : Pl m x) (hy : Pl m y) : Pl (m + 1) (.tup [x, y]) := ⟨Nat.le_of_ble_eq_true rfl, fun z hz => by
  simp only [List.mem_cons, List.not_mem_nil, or_false] at hz
  rcases hz with rfl | rfl
  · exact hx
  · exact hy⟩
theorem pl_ints {m : Nat} {ns : List Int} (h : ns.length ≤ 16777216) : Pl (m + 2) (.tup (ns.map D.int)) := ⟨by rw [List.length_map]; exact h, fun x hx => by
  obtain ⟨i, _, rfl⟩ := List.mem_map.mp hx
  exact True.intro⟩
theorem eqvAll_ints : ∀ a b : List Int, PyData.eqvAll (D.pyL (a.map D.int)) (D.pyL (b.map D.int)) = decide (a = b)
  | [], [] => by simp [D.pyL, PyData.eqvAll]
  | [], y :: ys => by simp [D.pyL, PyData.eqvAll]
  | x :: xs, [] => by simp [D.pyL, PyData.eqvAll]
  | x :: xs, y :: ys => by
    rw [List.map_cons, List.map_cons, D.pyL, D.pyL, PyData.eqvAll, eqvAll_ints xs ys]
    rw [show PyData.eqv (D.py (.int x)) (D.py (.int y)) = decide (x = y) from eqv_int]
    rw [Bool.eq_iff_iff]; simp
theorem eqv_tupI {a b : List Int} : D.eqv (.tup (a.map D.int)) (.tup (b.map D.int)) = decide (a = b) := by
  unfold D.eqv; rw [D.py, D.py, PyData.eqv]; exact eqvAll_ints a b
theorem eqv_flI {a b : List Int} : D.eqv (.fl (a.map D.int)) (.fl (b.map D.int)) = decide (a = b) := by
  unfold D.eqv; rw [D.py, D.py, PyData.eqv]; exact eqvAll_ints a b
theorem eqv_lim {a b : Option Int} : D.eqv (limD a) (limD b) = decide (a = b) := by
  cases a with
  | none =>
    cases b with
    | none => simp [limD, D.eqv, D.py, PyData.eqv]
    | some y => simp [limD, D.eqv, D.py, PyData.eqv]
  | some x =>
    cases b with
    | none => simp [limD, D.eqv, D.py, PyData.eqv]
    | some y =>
      show D.eqv (.int x) (.int y) = _
      rw [eqv_int, Bool.eq_iff_iff]; simp
theorem eqv_two {x y x' y' : D} : D.eqv (.tup [x, y]) (.tup [x', y']) = (D.eqv x x' && D.eqv y y') := by
  unfold D.eqv
  simp [D.py, D.pyL, PyData.eqv, PyData.eqvAll]
inductive Out where
  | good (v : D) | bad (w : Str)
def Out.d : Out → D
  | .good v => .tup [.str "good", v]
  | .bad w => .tup [.str "bad", .str w]
def Out.ok : Out → Prop
  | .good v => Pl 4 v
  | .bad _ => True
def Out.ends : Out → Bool
  | .good _ => true
  | .bad w => decide (w = Str.ofString "final")
theorem Out.pl {o : Out} (h : o.ok) : Pl 5 o.d := by
  cases o with
  | good v => exact pl2 Pl.str h
  | bad w => exact pl2 Pl.str Pl.str
def lateD : D := .tup [.str "bad", .str "late"]
abbrev Sr := List (Int × Out)
def serD (ss : Sr) : List D := ss.map fun e => D.tup [.int e.1, e.2.d]
theorem serD_len {ss : Sr} : (serD ss).length = ss.length := by unfold serD; rw [List.length_map]
def costs (ss : Sr) (k : Nat) : Int := (ss[k]?.map (·.1)).getD 0
def Pn.T (p : Pn) (ss : Sr) : Nat → Int
  | 0 => 0
  | k + 1 => p.T ss k + costs ss k + p.W k
def Pn.late (p : Pn) (ss : Sr) (k : Nat) : Bool := isb (p.T ss k + costs ss k) p.lim
def Pn.behind (p : Pn) (ss : Sr) (k : Nat) : Bool := isb (p.T ss k + costs ss k + p.W k) p.lim
def Pn.stop (p : Pn) (ss : Sr) (k : Nat) : Bool := match ss[k]? with
  | none => true
  | some (_, o) => p.late ss k || o.ends || decide (k + 1 = p.many) || p.behind ss k
def Pn.cnt (p : Pn) (ss : Sr) : Nat → Nat → Nat
  | 0, k => k
  | f + 1, k => if p.stop ss k = true then k + 1 else p.cnt ss f (k + 1)
def Pn.begs (p : Pn) (ss : Sr) (n : Nat) : List Int := (List.range n).map fun k => p.T ss k
theorem Pn.begs_len {p : Pn} {ss : Sr} {n : Nat} : (p.begs ss n).length = n := by unfold Pn.begs; rw [List.length_map, List.length_range]
theorem Pn.begs_lenD {p : Pn} {ss : Sr} {n : Nat} : ((p.begs ss n).map D.int).length = n := by rw [List.length_map, Pn.begs_len]
theorem Pn.begs_succ {p : Pn} {ss : Sr} {n : Nat} : (p.begs ss (n + 1)).map D.int = (p.begs ss n).map D.int ++ [D.int (p.T ss n)] := by unfold Pn.begs; rw [List.range_succ, List.map_append, List.map_append]; rfl
def Pn.fin (p : Pn) (ss : Sr) (k : Nat) : D := match ss[k]? with
  | none => match p.lim with
    | none => .non
    | some l => .tup [.int l, lateD]
  | some (c, o) => if p.late ss k = true then .tup [limD p.lim, lateD] else .tup [.int (p.T ss k + c), o.d]
def Pn.num (p : Pn) (ss : Sr) : Nat := p.cnt ss p.many 0
def Pn.res (p : Pn) (ss : Sr) : D := .tup [.tup ((p.begs ss (p.num ss)).map D.int), p.fin ss (p.num ss - 1)]
theorem Pn.res_now {p : Pn} {ss : Sr} {f k : Nat} (h : p.cnt ss (f + 1) k = p.num ss) (hs : p.stop ss k = true) : p.res ss = .tup [.tup ((p.begs ss (k + 1)).map D.int), p.fin ss k] := by
  have : p.num ss = k + 1 := by rw [← h]; unfold Pn.cnt; rw [if_pos hs]
  unfold Pn.res; rw [this]; rfl
theorem serD_at {ss : Sr} {k : Int} {j : Nat} {c : Int} {o : Out} (e : k = (j : Int)) (h : ss[j]? = some (c, o)) : L2.atI (serD ss) k = some (.tup [.int c, o.d]) :=
  atI_at e (by unfold serD; rw [List.getElem?_map, h]; rfl)
theorem costs_at {ss : Sr} {j : Nat} {c : Int} {o : Out} (h : ss[j]? = some (c, o)) : costs ss j = c := by unfold costs; rw [h]; rfl
theorem retried_spec {n : Nat} {p : Pn} {S : DS} {Q : DK} {ss : Sr} (hp : p.ok) (h : ∀ S', Ext S S' → Q (p.res ss) S') : sem fs (n + 2) 2 [p.d, .tup (serD ss)] S Q := by
  refine run_retried ?_
  unfold b_2
  have hQ : ∀ X S', p.res ss = X → Ext S S' → Q X S' := fun X S' e x => e ▸ h S' x
  have ht : p.d = .tup [.int (p.many : Int), .int p.first, .int p.factor, .int p.most, limD p.lim] := rfl
  have h0 := hp.1
  rw [ht]
  repeat walk_at "d"
  rw [← ht]
  refine waits_spec hp fun S1 x1 => ?_
  repeat walk_at "d"
  refine i_newL fun b S2 n2 e2 x2 => ?_
  repeat walk_at "d"
  refine while_inv (fun m δ S3 => ∃ k o1 o2 o3, m + k = p.many ∧ k < p.many ∧ δ = [some p.d, some (.tup (serD ss)), some (.int (p.many : Int)), some (.int p.first), some (.int p.factor), some (.int p.most), some (limD p.lim), some (.tup (p.ws (p.many - 1))), some (.ref b), some (.int (p.T ss k)), o1, o2, o3] ∧ S3 b = some (.lst ((p.begs ss k).map D.int)) ∧ Ext S S3 ∧ p.cnt ss m k = p.num ss ∧ k ≤ ss.length) p.many ⟨0, none, none, none, rfl, by omega, rfl, e2, x1.trans x2, rfl, Nat.zero_le _⟩ ?_
  rintro m δ S3 nx ⟨k, o1, o2, o3, hm, hk, rfl, e3, x3, hc, hks⟩ hnx
  obtain ⟨f, rfl⟩ : ∃ f, m = f + 1 := ⟨m - 1, by omega⟩
  repeat walk_at "d"
  refine m_append e3 (by rw [List.length_append, Pn.begs_lenD]; show k + 1 ≤ _; omega) (i_putL fun S4 e4 b4 => ?_)
  have x4 := x3.but b4 (Ext.back x1 n2)
  rw [← Pn.begs_succ] at e4
  clear e3
  repeat walk_at "d"
  rw [Pn.begs_lenD, serD_len]
  cases hsk : ss[k]? with
  | none =>
    have hle : ss.length ≤ k := List.getElem?_eq_none_iff.mp hsk
    have := Pn.res_now hc (by unfold Pn.stop; rw [hsk])
    unfold Pn.fin at this
    rw [hsk] at this
    refine ite_dec (fun _ => ?_) (fun q => by omega)
    repeat walk_at "d"
    cases hlim : p.lim with
    | none =>
      rw [hlim] at this
      refine ite_t ?_
      repeat walk_at "d"
      exact hQ _ S4 this x4
    | some l =>
      rw [hlim] at this
      refine ite_f ?_
      repeat walk_at "d"
      exact hQ _ S4 this x4
  | some e =>
    obtain ⟨c, o⟩ := e
    have hlt : k < ss.length := by
      rcases Nat.lt_or_ge k ss.length with q | q
      · exact q
      · rw [List.getElem?_eq_none q] at hsk; cases hsk
    have hco := costs_at hsk
    refine ite_dec (fun q => by omega) (fun _ => ?_)
    repeat walk_at "d"
    refine o_ixT (serD_at (j := k) (by omega) hsk) ?_
    repeat walk_at "d"
    refine behind_spec ?_
    repeat walk_at "d"
    refine ite_b (fun hl => ?_) (fun hl => ?_)
    · repeat walk_at "d"
      have hl' : p.late ss k = true := by unfold Pn.late; rw [hco]; exact hl
      have := Pn.res_now hc (by unfold Pn.stop; rw [hsk]; dsimp only; rw [hl']; rfl)
      unfold Pn.fin at this
      rw [hsk] at this
      dsimp only at this
      rw [if_pos hl'] at this
      exact hQ _ S4 this x4
    have nl : p.late ss k = false := by unfold Pn.late; rw [hco]; exact hl
    have fk : p.fin ss k = .tup [.int (p.T ss k + c), o.d] := by unfold Pn.fin; rw [hsk]; dsimp only; rw [if_neg (by rw [nl]; exact Bool.false_ne_true)]
    have now : p.stop ss k = true → Q (.tup [.tup ((p.begs ss (k + 1)).map D.int), .tup [.int (p.T ss k + c), o.d]]) S4 := fun hst => by
      have := Pn.res_now hc hst
      rw [fk] at this
      exact hQ _ S4 this x4
    repeat walk_at "d"
    cases o with
    | good v =>
      refine o_ixT (v := .str "good") rfl ?_
      repeat walk_at "d"
      refine ite_dec (fun _ => ?_) (fun q => absurd rfl q)
      repeat walk_at "d"
      exact now (by unfold Pn.stop; rw [hsk]; dsimp only; rw [show (Out.good v).ends = true from rfl, Bool.or_true, Bool.true_or, Bool.true_or])
    | bad w =>
      refine o_ixT (v := .str "bad") rfl ?_
      repeat walk_at "d"
      refine ite_dec (fun q => absurd q (by decide +kernel)) (fun _ => ?_)
      repeat walk_at "d"
      refine o_ixT (v := .str w) rfl ?_
      repeat walk_at "d"
      refine ite_dec (fun q => ?_) (fun nf => ?_)
      · repeat walk_at "d"
        exact now (by unfold Pn.stop; rw [hsk]; dsimp only; rw [show (Out.bad w).ends = true from decide_eq_true q, Bool.or_true, Bool.true_or, Bool.true_or])
      repeat walk_at "d"
      refine ite_dec (fun q => ?_) (fun q => ?_)
      · repeat walk_at "d"
        exact now (by unfold Pn.stop; rw [hsk]; dsimp only; rw [decide_eq_true (show k + 1 = p.many by omega), Bool.or_true, Bool.true_or])
      repeat walk_at "d"
      refine o_ixT (Pn.ws_at (j := k) (by omega) (by omega)) ?_
      repeat walk_at "d"
      refine behind_spec ?_
      repeat walk_at "d"
      refine ite_b (fun hb => ?_) (fun hb => ?_)
      · repeat walk_at "d"
        exact now (by unfold Pn.stop Pn.behind; rw [hsk, hco]; dsimp only; rw [hb, Bool.or_true])
      repeat walk_at "d"
      refine o_ixT (Pn.ws_at (j := k) (by omega) (by omega)) ?_
      repeat walk_at "d"
      refine hnx f _ _ (by omega) ⟨k + 1, _, _, _, by omega, by omega, by rw [show p.T ss (k + 1) = p.T ss k + c + p.W k by rw [Pn.T, hco]], e4, x4, ?_, hlt⟩
      rw [← hc]
      conv => rhs; unfold Pn.cnt
      rw [if_neg]
      unfold Pn.stop Pn.behind
      rw [hsk, hco]
      dsimp only
      rw [show (Out.bad w).ends = false from decide_eq_false nf, nl, hb, decide_eq_false (by omega)]
      decide
theorem lretried_spec {n : Nat} {p : Pn} {S : DS} {Q : DK} {ss : Sr} (hp : p.ok) (h : ∀ S', Ext S S' → Q (p.res ss) S') : sem fs (n + 2) 17 [p.d, .tup (serD ss)] S Q := by
  refine run__law_retried ?_
  unfold b_17
  have hQ : ∀ X S', p.res ss = X → Ext S S' → Q X S' := fun X S' e x => e ▸ h S' x
  have h0 := hp.1
  repeat walk_at "d"
  refine o_ixT (v := .int p.many) rfl ?_
  repeat walk_at "d"
  refine o_ixT (v := limD p.lim) rfl ?_
  repeat walk_at "d"
  refine lwaits_spec hp fun a S1 n1 e1 x1 => ?_
  repeat walk_at "d"
  refine i_newL fun b S2 n2 e2 x2 => ?_
  have nab : a ≠ b := fun e => by rw [← e] at n2; rw [n2] at e1; cases e1
  repeat walk_at "d"
  refine i_rng1V (by omega) (for_inv (fun k δ S3 => ∃ o1 o2 o3, δ = [some p.d, some (.tup (serD ss)), some (.int (p.many : Int)), some (limD p.lim), some (.ref a), some (.ref b), some (.int (p.T ss k)), o1, o2, o3] ∧ S3 a = some (.lst (p.ws (p.many - 1))) ∧ S3 b = some (.lst ((p.begs ss k).map D.int)) ∧ Ext S S3 ∧ (p.cnt ss (p.many - k) k = p.num ss) ∧ k < p.many ∧ k ≤ ss.length) ⟨none, none, none, rfl, x2.get e1, e2, x1.trans x2, rfl, by omega, Nat.zero_le _⟩ (fun _ _ _ _ _ => True.intro) ?_ ?_)
  · rintro k x δ S3 nx hx hj ⟨o1, o2, o3, rfl, g3, e3, x3, hc, hk, hks⟩ hnx
    obtain ⟨rfl, hjm⟩ := rng_at hx
    obtain ⟨f, hf⟩ : ∃ f, p.many - k = f + 1 := ⟨p.many - k - 1, by omega⟩
    rw [hf] at hc
    rw [Int.zero_add]
    repeat walk_at "d"
    refine m_append e3 (by rw [List.length_append, Pn.begs_lenD]; show k + 1 ≤ _; omega) (i_putL fun S4 e4 b4 => ?_)
    have x4 := x3.but b4 (Ext.back x1 n2)
    replace g3 := b4.get nab g3
    rw [← Pn.begs_succ] at e4
    clear e3
    repeat walk_at "d"
    rw [serD_len]
    cases hsk : ss[k]? with
    | none =>
      have hle : ss.length ≤ k := List.getElem?_eq_none_iff.mp hsk
      have := Pn.res_now hc (by unfold Pn.stop; rw [hsk])
      unfold Pn.fin at this
      rw [hsk] at this
      refine ite_dec (fun _ => ?_) (fun q => by omega)
      repeat walk_at "d"
      refine i_newL fun r S5 n5 e5 x5 => ?_
      have e4' := x5.get e4
      repeat walk_at "d"
      cases hlim : p.lim with
      | none =>
        rw [hlim] at this
        rw [hlim] at e5
        refine o_ixL (v := .non) e5 rfl ?_
        repeat walk_at "d"
        exact hQ _ S5 this (x4.trans x5)
      | some l =>
        rw [hlim] at this
        rw [hlim] at e5
        refine o_ixL (v := .tup [.int l, lateD]) e5 rfl ?_
        repeat walk_at "d"
        exact hQ _ S5 this (x4.trans x5)
    | some e =>
      obtain ⟨c, o⟩ := e
      have hlt : k < ss.length := by
        rcases Nat.lt_or_ge k ss.length with q | q
        · exact q
        · rw [List.getElem?_eq_none q] at hsk; cases hsk
      have hco := costs_at hsk
      refine ite_dec (fun q => by omega) (fun _ => ?_)
      repeat walk_at "d"
      refine o_ixT (serD_at (j := k) (by omega) hsk) ?_
      repeat walk_at "d"
      refine o_ixT (v := .int c) rfl ?_
      repeat walk_at "d"
      refine o_ixT (serD_at (j := k) (by omega) hsk) ?_
      repeat walk_at "d"
      refine o_ixT (v := o.d) rfl ?_
      have nowL : p.late ss k = true → Q (.tup [.tup ((p.begs ss (k + 1)).map D.int), .tup [limD p.lim, lateD]]) S4 := fun hl' => by
        have := Pn.res_now hc (by unfold Pn.stop; rw [hsk]; dsimp only; rw [hl']; rfl)
        unfold Pn.fin at this
        rw [hsk] at this
        dsimp only at this
        rw [if_pos hl'] at this
        exact hQ _ S4 this x4
      have now : p.late ss k = false → p.stop ss k = true → Q (.tup [.tup ((p.begs ss (k + 1)).map D.int), .tup [.int (p.T ss k + c), o.d]]) S4 := fun nl hst => by
        have := Pn.res_now hc hst
        rw [show p.fin ss k = .tup [.int (p.T ss k + c), o.d] by unfold Pn.fin; rw [hsk]; dsimp only; rw [if_neg (by rw [nl]; exact Bool.false_ne_true)]] at this
        exact hQ _ S4 this x4
      have go : p.late ss k = false → o.ends = false → k + 1 ≠ p.many → p.behind ss k = false → ∀ o1 o2 o3, nx [some p.d, some (.tup (serD ss)), some (.int (p.many : Int)), some (limD p.lim), some (.ref a), some (.ref b), some (.int (p.T ss k + c + p.W k)), o1, o2, o3] S4 := fun nl ne nm nb o1 o2 o3 => by
        refine hnx _ _ ⟨_, _, _, by rw [show p.T ss (k + 1) = p.T ss k + c + p.W k by rw [Pn.T, hco]], g3, e4, x4, ?_, by omega, hlt⟩
        rw [← hc, show p.many - (k + 1) = f by omega]
        conv => rhs; unfold Pn.cnt
        rw [if_neg]
        unfold Pn.stop
        rw [hsk]
        dsimp only
        rw [ne, nl, nb, decide_eq_false nm]
        decide
      have sE : o.ends = true → p.stop ss k = true := fun q => by unfold Pn.stop; rw [hsk]; dsimp only; rw [q, Bool.or_true, Bool.true_or, Bool.true_or]
      have sM : k + 1 = p.many → p.stop ss k = true := fun q => by unfold Pn.stop; rw [hsk]; dsimp only; rw [decide_eq_true q, Bool.or_true, Bool.true_or]
      have sB : p.behind ss k = true → p.stop ss k = true := fun q => by unfold Pn.stop; rw [hsk]; dsimp only; rw [q, Bool.or_true]
      have lt' : p.late ss k = isb (p.T ss k + c) p.lim := by unfold Pn.late; rw [hco]
      have bt' : p.behind ss k = isb (p.T ss k + c + p.W k) p.lim := by unfold Pn.behind; rw [hco]
      repeat walk_at "d"
      cases hlim : p.lim with
      | none =>
        have nl : p.late ss k = false := by rw [lt', hlim]; rfl
        have nb : p.behind ss k = false := by rw [bt', hlim]; rfl
        refine ite_f ?_
        repeat walk_at "d"
        cases o with
        | good v =>
          refine o_ixT (v := .str "good") rfl ?_
          repeat walk_at "d"
          refine ite_dec (fun _ => ?_) (fun q => absurd rfl q)
          repeat walk_at "d"
          exact now nl (sE rfl)
        | bad w =>
          refine o_ixT (v := .str "bad") rfl ?_
          repeat walk_at "d"
          refine ite_dec (fun q => absurd q (by decide +kernel)) (fun _ => ?_)
          repeat walk_at "d"
          refine o_ixT (v := .str w) rfl ?_
          repeat walk_at "d"
          refine ite_dec (fun q => ?_) (fun nf => ?_)
          · repeat walk_at "d"
            exact now nl (sE (decide_eq_true q))
          repeat walk_at "d"
          refine ite_dec (fun q => ?_) (fun q => ?_)
          · repeat walk_at "d"
            exact now nl (sM (by omega))
          repeat walk_at "d"
          refine ite_f ?_
          repeat walk_at "d"
          refine o_ixL (v := .int (p.W k)) g3 (Pn.ws_at (j := k) (by omega) (by omega)) ?_
          repeat walk_at "d"
          have := go nl (decide_eq_false nf) (by omega) nb
          rw [hlim] at this
          exact this _ _ _
      | some l =>
        refine ite_t ?_
        repeat walk_at "d"
        refine o_gtI (l := l) ?_
        repeat walk_at "d"
        refine ite_dec (fun q => ?_) (fun q => ?_)
        · repeat walk_at "d"
          have := nowL (by rw [lt', hlim]; exact decide_eq_true q)
          rw [hlim] at this
          exact this
        have nl : p.late ss k = false := by rw [lt', hlim]; exact decide_eq_false q
        repeat walk_at "d"
        cases o with
        | good v =>
          refine o_ixT (v := .str "good") rfl ?_
          repeat walk_at "d"
          refine ite_dec (fun _ => ?_) (fun q => absurd rfl q)
          repeat walk_at "d"
          exact now nl (sE rfl)
        | bad w =>
          refine o_ixT (v := .str "bad") rfl ?_
          repeat walk_at "d"
          refine ite_dec (fun q => absurd q (by decide +kernel)) (fun _ => ?_)
          repeat walk_at "d"
          refine o_ixT (v := .str w) rfl ?_
          repeat walk_at "d"
          refine ite_dec (fun q => ?_) (fun nf => ?_)
          · repeat walk_at "d"
            exact now nl (sE (decide_eq_true q))
          repeat walk_at "d"
          refine ite_dec (fun q => ?_) (fun q => ?_)
          · repeat walk_at "d"
            exact now nl (sM (by omega))
          repeat walk_at "d"
          refine ite_t ?_
          repeat walk_at "d"
          refine o_ixL (v := .int (p.W k)) g3 (Pn.ws_at (j := k) (by omega) (by omega)) ?_
          repeat walk_at "d"
          refine o_gtI (l := l) ?_
          repeat walk_at "d"
          refine ite_dec (fun q => ?_) (fun q => ?_)
          · repeat walk_at "d"
            exact now nl (sB (by rw [bt', hlim]; exact decide_eq_true q))
          have nb : p.behind ss k = false := by rw [bt', hlim]; exact decide_eq_false q
          repeat walk_at "d"
          refine o_ixL (v := .int (p.W k)) g3 (Pn.ws_at (j := k) (by omega) (by omega)) ?_
          repeat walk_at "d"
          have := go nl (decide_eq_false nf) (by omega) nb
          rw [hlim] at this
          exact this _ _ _
  · rintro δ S3 ⟨o1, o2, o3, rfl, g3, e3, x3, hc, hk, _⟩
    rw [rng_len] at hk
    omega
def Pn.sm (p : Pn) : Nat → Int
  | 0 => 0
  | k + 1 => p.sm k + p.W k
def Pn.cc (p : Pn) : Nat → Nat → Nat
  | 0, k => k
  | f + 1, k => if isb (p.sm (k + 1)) p.lim = true then k else p.cc f (k + 1)
def Pn.mc (p : Pn) : Nat := p.cc (p.many - 1) 0
def Pn.C (p : Pn) : List Int := (List.range p.mc).map p.W
theorem Pn.C_len {p : Pn} : p.C.length = p.mc := by unfold Pn.C; rw [List.length_map, List.length_range]
theorem Pn.C_at {p : Pn} {j : Nat} (h : j < p.mc) : p.C[j]? = some (p.W j) := by unfold Pn.C; rw [List.getElem?_map, List.getElem?_range h]; rfl
theorem cc_ge {p : Pn} : ∀ f k, k ≤ p.cc f k ∧ p.cc f k ≤ k + f
  | 0, k => ⟨Nat.le_refl _, Nat.le_refl _⟩
  | f + 1, k => by
    have := cc_ge (p := p) f (k + 1)
    unfold Pn.cc
    split <;> omega
theorem Pn.mc_le {p : Pn} : p.mc ≤ p.many - 1 := by have := (cc_ge (p := p) (p.many - 1) 0).2; unfold Pn.mc; omega
/-- before the last counting wait none is behind; behind it the plan is through or behind -/
theorem cc_run {p : Pn} : ∀ f k, (∀ j, k ≤ j → j < p.cc f k → isb (p.sm (j + 1)) p.lim = false) ∧ (p.cc f k = k + f ∨ isb (p.sm (p.cc f k + 1)) p.lim = true)
  | 0, k => ⟨fun j h1 h2 => by unfold Pn.cc at h2; omega, .inl rfl⟩
  | f + 1, k => by
    have ih := cc_run (p := p) f (k + 1)
    by_cases hb : isb (p.sm (k + 1)) p.lim = true
    · have e : p.cc (f + 1) k = k := by unfold Pn.cc; rw [if_pos hb]
      rw [e]
      exact ⟨fun j h1 h2 => by omega, .inr hb⟩
    · have e : p.cc (f + 1) k = p.cc f (k + 1) := by conv => lhs; unfold Pn.cc
                                                     rw [if_neg hb]
      rw [e]
      refine ⟨fun j h1 h2 => ?_, ?_⟩
      · by_cases hj : j = k
        · subst hj; exact Bool.eq_false_iff.mpr hb
        · exact ih.1 j (by omega) h2
      · rcases ih.2 with q | q
        · exact .inl (by omega)
        · exact .inr q
def Pk (p : Pn) : Prop := p.ok ∧ p.many ≤ 500 ∧ ∀ l, p.lim = some l → 0 ≤ l
theorem C_cnt {p : Pn} {j f : Nat} (hc : p.cc (f + 1) j = p.mc) (hb : isb (p.sm (j + 1)) p.lim = true) : (List.range j).map p.W = p.C := by
  unfold Pn.cc at hc
  rw [if_pos hb] at hc
  unfold Pn.C
  rw [← hc]
theorem map_W_succ {p : Pn} {j : Nat} : ((List.range (j + 1)).map p.W).map D.int = ((List.range j).map p.W).map D.int ++ [D.int (p.W j)] := by rw [List.range_succ, List.map_append, List.map_append]; rfl
theorem map_W_len {p : Pn} {j : Nat} : (((List.range j).map p.W).map D.int).length = j := by rw [List.length_map, List.length_map, List.length_range]
theorem ws_get {p : Pn} {n j : Nat} {x : D} (h : (p.ws n)[j]? = some x) : x = .int (p.W j) ∧ j < n := by
  unfold Pn.ws at h
  rw [List.getElem?_map] at h
  by_cases hj : j < n
  · rw [List.getElem?_range hj] at h; exact ⟨(Option.some.inj h).symm, hj⟩
  · rw [List.getElem?_eq_none (by rw [List.length_range]; omega)] at h; cases h
theorem counting_spec {n : Nat} {p : Pn} {S : DS} {Q : DK} (hp : p.ok) (h : ∀ S', Ext S S' → Q (.tup (p.C.map D.int)) S') : sem fs (n + 2) 4 [p.d] S Q := by
  refine run_counting_waits ?_
  unfold b_4
  have h0 := hp.1
  repeat walk_at "d"
  refine i_newL fun b S1 n1 e1 x1 => ?_
  repeat walk_at "d"
  refine waits_spec hp fun S2 x2 => ?_
  repeat walk_at "d"
  refine for_inv (fun j δ S3 => ∃ o, δ = [some p.d, some (.ref b), some (.int (p.sm j)), o] ∧ S3 b = some (.lst (((List.range j).map p.W).map D.int)) ∧ Ext S S3 ∧ p.cc (p.many - 1 - j) j = p.mc ∧ j ≤ p.many - 1) ⟨none, rfl, x2.get e1, x1.trans x2, rfl, Nat.zero_le _⟩ (fun _ _ _ _ _ => rfl) ?_ ?_
  · rintro j x δ S3 nx hx hj ⟨o, rfl, e3, x3, hc, hk⟩ hnx
    obtain ⟨rfl, hjm⟩ := ws_get hx
    obtain ⟨f, hf⟩ : ∃ f, p.many - 1 - j = f + 1 := ⟨p.many - 1 - j - 1, by omega⟩
    rw [hf] at hc
    repeat walk_at "d"
    refine o_ixT (v := limD p.lim) rfl ?_
    repeat walk_at "d"
    refine behind_spec ?_
    repeat walk_at "d"
    refine ite_b (fun hb => ?_) (fun hb => ?_)
    · repeat walk_at "d"
      rw [C_cnt hc hb]
      exact h S3 x3
    · repeat walk_at "d"
      refine m_append e3 (by rw [List.length_append, map_W_len]; show j + 1 ≤ _; omega) (i_putL fun S4 e4 b4 => ?_)
      refine hnx _ _ ⟨_, rfl, by rw [map_W_succ]; exact e4, x3.but b4 n1, ?_, by omega⟩
      rw [← hc, show p.many - 1 - (j + 1) = f by omega]
      conv => rhs; unfold Pn.cc
      rw [if_neg (by rw [show p.sm (j + 1) = p.sm j + p.W j from rfl, hb]; exact Bool.false_ne_true)]
  · rintro δ S3 ⟨o, rfl, e3, x3, hc, hk⟩
    rw [Pn.ws_len] at e3 hc
    repeat walk_at "d"
    have : p.mc = p.many - 1 := by rw [← hc, Nat.sub_self]; rfl
    have := h S3 x3
    unfold Pn.C at this
    rwa [‹p.mc = _›] at this
theorem counted_spec {n : Nat} {p : Pn} {S : DS} {Q : DK} (hp : p.ok) (h : ∀ b S', S b = none → S' b = some (.lst (p.C.map D.int)) → Ext S S' → Q (.ref b) S') : sem fs (n + 2) 22 [p.d] S Q := by
  refine run__law_counted ?_
  unfold b_22
  have h0 := hp.1
  repeat walk_at "d"
  refine i_newL fun b S1 n1 e1 x1 => ?_
  repeat walk_at "d"
  refine lwaits_spec hp fun a S2 n2 e2 x2 => ?_
  have nab : a ≠ b := fun e => by rw [e] at n2; rw [n2] at e1; cases e1
  repeat walk_at "d"
  refine for_inv (fun j δ S3 => ∃ o, δ = [some p.d, some (.ref b), some (.int (p.sm j)), o] ∧ S3 b = some (.lst (((List.range j).map p.W).map D.int)) ∧ S3 a = some (.lst (p.ws (p.many - 1))) ∧ Ext S S3 ∧ p.cc (p.many - 1 - j) j = p.mc ∧ j ≤ p.many - 1) ⟨none, rfl, x2.get e1, e2, x1.trans x2, rfl, Nat.zero_le _⟩ (fun _ _ _ _ ⟨_, _, _, e, _⟩ => seq_ref e) ?_ ?_
  · rintro j x δ S3 nx hx hj ⟨o, rfl, e3, g3, x3, hc, hk⟩ hnx
    obtain ⟨rfl, hjm⟩ := ws_get hx
    obtain ⟨f, hf⟩ : ∃ f, p.many - 1 - j = f + 1 := ⟨p.many - 1 - j - 1, by omega⟩
    rw [hf] at hc
    have go : isb (p.sm j + p.W j) p.lim = false → ∀ S4, S4 b = some (.lst (((List.range j).map p.W).map D.int ++ [.int (p.W j)])) → But b S3 S4 → nx [some p.d, some (.ref b), some (.int (p.sm j + p.W j)), some (.int (p.W j))] S4 := fun hb S4 e4 b4 => by
      refine hnx _ _ ⟨_, rfl, by rw [map_W_succ]; exact e4, b4.get nab g3, x3.but b4 n1, ?_, by omega⟩
      rw [← hc, show p.many - 1 - (j + 1) = f by omega]
      conv => rhs; unfold Pn.cc
      rw [if_neg (by rw [show p.sm (j + 1) = p.sm j + p.W j from rfl, hb]; exact Bool.false_ne_true)]
    repeat walk_at "d"
    refine o_ixT (v := limD p.lim) rfl ?_
    repeat walk_at "d"
    cases hlim : p.lim with
    | none =>
      refine ite_f ?_
      repeat walk_at "d"
      refine m_append e3 (by rw [List.length_append, map_W_len]; show j + 1 ≤ _; omega) (i_putL fun S4 e4 b4 => ?_)
      exact go (by rw [hlim]; rfl) S4 e4 b4
    | some l =>
      refine ite_t ?_
      repeat walk_at "d"
      refine o_ixT (v := limD p.lim) rfl ?_
      rw [hlim]
      refine o_gtI (l := l) ?_
      repeat walk_at "d"
      refine ite_dec (fun q => ?_) (fun q => ?_)
      · repeat walk_at "d"
        have hb : isb (p.sm (j + 1)) p.lim = true := by rw [hlim]; exact decide_eq_true q
        rw [C_cnt hc hb] at e3
        exact h b S3 n1 e3 x3
      · repeat walk_at "d"
        refine m_append e3 (by rw [List.length_append, map_W_len]; show j + 1 ≤ _; omega) (i_putL fun S4 e4 b4 => ?_)
        exact go (by rw [hlim]; exact decide_eq_false q) S4 e4 b4
  · rintro δ S3 ⟨o, rfl, e3, g3, x3, hc, hk⟩
    rw [Pn.ws_len] at e3 hc
    repeat walk_at "d"
    have hm : p.mc = p.many - 1 := by rw [← hc, Nat.sub_self]; rfl
    refine h b S3 n1 ?_ x3
    unfold Pn.C
    rw [hm]
    exact e3
def Alike (p q : Pn) : Prop := p.lim = q.lim ∧ p.C = q.C
theorem sm_ge {p : Pn} (hp : p.ok) : ∀ k, 0 ≤ p.sm k
  | 0 => Int.le_refl _
  | k + 1 => by have := sm_ge hp k; have := (Pn.W_ok hp k).1; unfold Pn.sm; omega
theorem T_zero {p : Pn} {n : Nat} {w : Str} : ∀ k, k ≤ n → p.T (List.replicate n (0, Out.bad w)) k = p.sm k
  | 0, _ => rfl
  | k + 1, h => by
    unfold Pn.T Pn.sm
    rw [T_zero k (by omega)]
    unfold costs
    rw [List.getElem?_replicate, if_pos (by omega)]
    show p.sm k + 0 + p.W k = _
    omega
theorem begs_zero {p : Pn} {n m : Nat} {w : Str} (h : m ≤ n + 1) : p.begs (List.replicate n (0, Out.bad w)) m = (List.range m).map p.sm := by
  unfold Pn.begs
  refine List.map_congr_left fun k hk => T_zero k ?_
  have := List.mem_range.mp hk
  omega
/-- a series of bad attempts of no cost: as many attempts as there are counting waits, and one -/
theorem num_zero {p : Pn} (hp : Pk p) {n : Nat} {w : Str} (hw : w ≠ Str.ofString "final") : p.num (List.replicate n (0, Out.bad w)) = min p.mc n + 1 := by
  have hrun := cc_run (p := p) (p.many - 1) 0
  have hmc : p.cc (p.many - 1) 0 = p.mc := rfl
  rw [hmc] at hrun
  have hmle := Pn.mc_le (p := p)
  have h0 := hp.1.1
  have late0 : ∀ k, k ≤ p.mc → isb (p.sm k) p.lim = false := fun k hk => by
    cases k with
    | zero =>
      cases hl : p.lim with
      | none => rfl
      | some l => have := hp.2.2 l hl; exact decide_eq_false (by show ¬ l < 0; omega)
    | succ k => exact hrun.1 k (Nat.zero_le _) (by omega)
  have hstop : ∀ k, k ≤ min p.mc n → p.stop (List.replicate n (0, Out.bad w)) k = decide (k = min p.mc n) := fun k hk => by
    unfold Pn.stop
    by_cases hkn : k < n
    · rw [List.getElem?_replicate, if_pos hkn]
      dsimp only
      unfold Pn.late Pn.behind
      rw [T_zero k (by omega), costs_at (c := 0) (o := .bad w) (by rw [List.getElem?_replicate, if_pos hkn]), Int.add_zero, late0 k (by omega), show (Out.bad w).ends = false from decide_eq_false hw, show p.sm k + p.W k = p.sm (k + 1) from rfl]
      by_cases hkm : k = p.mc
      · rw [decide_eq_true (show k = min p.mc n by omega)]
        rcases hrun.2 with q | q
        · rw [decide_eq_true (show k + 1 = p.many by omega)]; rfl
        · rw [hkm, q, Bool.or_true]
      · rw [decide_eq_false (show ¬ k = min p.mc n by omega), decide_eq_false (show ¬ k + 1 = p.many by omega), hrun.1 k (Nat.zero_le _) (by omega)]; rfl
    · rw [List.getElem?_replicate, if_neg hkn]
      exact (decide_eq_true (show k = min p.mc n by omega)).symm
  have all : ∀ f k, k ≤ min p.mc n → min p.mc n < k + f → p.cnt (List.replicate n (0, Out.bad w)) f k = min p.mc n + 1 := by
    intro f
    induction f with
    | zero => intro k h1 h2; omega
    | succ f ih =>
      intro k h1 h2
      unfold Pn.cnt
      rw [hstop k h1]
      by_cases he : k = min p.mc n
      · rw [if_pos (decide_eq_true he), he]
      · rw [if_neg (by rw [decide_eq_false he]; exact Bool.false_ne_true)]
        exact ih (k + 1) (by omega) (by omega)
  exact all p.many 0 (Nat.zero_le _) (by omega)
theorem res_ne {p q : Pn} {ss : Sr} (h : p.begs ss (p.num ss) ≠ q.begs ss (q.num ss)) : D.eqv (p.res ss) (q.res ss) = false := by
  unfold Pn.res
  rw [eqv_two, eqv_tupI, decide_eq_false h]; rfl
theorem sm_take {p q : Pn} {a : Nat} (h : ∀ j, j < a → p.W j = q.W j) : ∀ k, k ≤ a → p.sm k = q.sm k
  | 0, _ => rfl
  | k + 1, hk => by unfold Pn.sm; rw [sm_take h k (by omega), h k (by omega)]
/-- the counting waits part after a -/
theorem part_counted {p q : Pn} (hp : Pk p) (hq : Pk q) {a : Nat} {w : Str} (hw : w ≠ Str.ofString "final") (hne : p.C ≠ q.C) (h1 : a ≤ p.mc) (h2 : a ≤ q.mc) (hpre : ∀ j, j < a → p.W j = q.W j)
    (hend : a = p.mc ∨ a = q.mc ∨ p.W a ≠ q.W a) : D.eqv (p.res (List.replicate (a + 1) (0, Out.bad w))) (q.res (List.replicate (a + 1) (0, Out.bad w))) = false := by
  refine res_ne fun e => ?_
  rw [num_zero hp hw, num_zero hq hw] at e
  rw [begs_zero (by omega), begs_zero (by omega)] at e
  have hl := congrArg List.length e
  rw [List.length_map, List.length_map, List.length_range, List.length_range] at hl
  have hCeq : ∀ m, m = p.mc → m = q.mc → m = a → False := fun m e1 e2 e3 => hne (by
    unfold Pn.C
    rw [← e1, ← e2]
    exact List.map_congr_left fun k hk => hpre k (by have := List.mem_range.mp hk; omega))
  rcases hend with q1 | q1 | q1
  · exact hCeq a q1 (by omega) rfl
  · exact hCeq a (by omega) q1 rfl
  · by_cases e1 : a = p.mc
    · exact hCeq a e1 (by omega) rfl
    by_cases e2 : a = q.mc
    · exact hCeq a (by omega) e2 rfl
    have g := congrArg (fun l : List Int => l[a + 1]?) e
    simp only [List.getElem?_map] at g
    rw [List.getElem?_range (by omega), List.getElem?_range (by omega)] at g
    have g' : p.sm (a + 1) = q.sm (a + 1) := Option.some.inj g
    unfold Pn.sm at g'
    rw [sm_take hpre a (Nat.le_refl _)] at g'
    exact q1 (by omega)
def isLeast (a b : Option Int) (m : Int) : Prop := (a = some m ∨ b = some m) ∧ (∀ l, a = some l → m ≤ l) ∧ ∀ l, b = some l → m ≤ l
theorem num_one {p : Pn} (hp : p.ok) {c : Int} {v : D} : p.num [(c, Out.good v)] = 1 := by
  obtain ⟨f, hf⟩ : ∃ f, p.many = f + 1 := ⟨p.many - 1, by have := hp.1; omega⟩
  unfold Pn.num
  rw [hf]
  unfold Pn.cnt
  rw [if_pos]
  show (p.late _ 0 || true || _ || _) = true
  rw [Bool.or_true, Bool.true_or, Bool.true_or]
theorem fin_one {p : Pn} {c : Int} {v : D} : p.fin [(c, Out.good v)] 0 = if isb c p.lim = true then .tup [limD p.lim, lateD] else .tup [.int c, (Out.good v).d] := by
  show (if isb (0 + c) p.lim = true then _ else D.tup [.int (0 + c), _]) = _
  rw [Int.zero_add]
theorem part_limits {p q : Pn} (hp : p.ok) (hq : q.ok) {m : Int} {v : D} (hne : p.lim ≠ q.lim) (hm : isLeast p.lim q.lim m) : D.eqv (p.res [(m + 1, Out.good v)]) (q.res [(m + 1, Out.good v)]) = false := by
  have sym : ∀ x y : D, D.eqv (.tup [.int m, x]) (.tup [.int (m + 1), y]) = false := fun x y => by
    rw [eqv_two, eqv_int, decide_eq_false (by omega)]; rfl
  have sym' : ∀ x y : D, D.eqv (.tup [.int (m + 1), x]) (.tup [.int m, y]) = false := fun x y => by
    rw [eqv_two, eqv_int, decide_eq_false (by omega)]; rfl
  have yes : ∀ l : Option Int, l = some m → isb (m + 1) l = true := fun l e => by rw [e]; exact decide_eq_true (by omega)
  have no : ∀ l : Option Int, l ≠ some m → (∀ k, l = some k → m ≤ k) → isb (m + 1) l = false := fun l e h => by
    cases l with
    | none => rfl
    | some k => exact decide_eq_false (by have := h k rfl; have : k ≠ m := fun z => e (by rw [z]); omega)
  unfold Pn.res
  rw [eqv_two, num_one hp, num_one hq, fin_one, fin_one]
  rcases hm.1 with e | e
  · rw [if_pos (yes _ e), if_neg (by rw [no q.lim (fun z => hne (by rw [e, z])) hm.2.2]; exact Bool.false_ne_true), e]
    show (_ && D.eqv (.tup [.int m, lateD]) _) = false
    rw [sym, Bool.and_false]
  · rw [if_pos (yes _ e), if_neg (by rw [no p.lim (fun z => hne (by rw [e, z])) hm.2.1]; exact Bool.false_ne_true), e]
    show (_ && D.eqv _ (.tup [.int m, lateD])) = false
    rw [sym', Bool.and_false]
theorem bad_spec {n m : Nat} {S : DS} {Q : DK} {c : Int} (hm : m ≤ 1000) (h : ∀ S', Ext S S' → Q (.tup (serD (List.replicate m (c, Out.bad (Str.ofString "x"))))) S') : sem fs (n + 1) 3 [.int (m : Int), .int c] S Q := by
  refine run_bad_series ?_
  unfold b_3
  repeat walk_at "d"
  refine i_rng1V (by omega) (lc_inv (fun j acc S1 => acc = serD (List.replicate j (c, Out.bad (Str.ofString "x"))) ∧ Ext S S1) ⟨rfl, Ext.refl S⟩ (fun _ _ _ _ _ => True.intro) ?_ ?_)
  · rintro j x acc S1 nx hx hj ⟨rfl, x1⟩ hnx
    obtain ⟨rfl, hjm⟩ := rng_at hx
    repeat walk_at "d"
    refine ⟨by rw [serD_len, List.length_replicate]; omega, hnx _ _ ⟨?_, x1⟩⟩
    rw [List.replicate_succ']
    unfold serD
    rw [List.map_append]
    rfl
  · rintro acc S1 ⟨rfl, x1⟩
    rw [rng_len, Int.toNat_natCast]
    refine i_newL fun q S2 n2 e2 x2 => ?_
    repeat walk_at "d"
    exact h S2 (x1.trans x2)
theorem fin_pl {p : Pn} {ss : Sr} {k : Nat} (hs : ∀ e ∈ ss, e.2.ok) : Pl 6 (p.fin ss k) := by
  unfold Pn.fin
  split
  · split
    · exact True.intro
    · exact pl2 Pl.int (pl2 Pl.str Pl.str)
  · rename_i c o e
    split
    · exact pl2 lim_pl (pl2 Pl.str Pl.str)
    · exact pl2 Pl.int (Out.pl (hs _ (List.mem_of_getElem? e)))
theorem cnt_top {p : Pn} {ss : Sr} : ∀ f k, p.cnt ss f k ≤ k + f
  | 0, k => Nat.le_refl _
  | f + 1, k => by
    unfold Pn.cnt
    split
    · omega
    · have := cnt_top (p := p) (ss := ss) f (k + 1); omega
theorem cnt_ge {p : Pn} {ss : Sr} : ∀ f k, k ≤ p.cnt ss f k
  | 0, k => Nat.le_refl _
  | f + 1, k => by
    unfold Pn.cnt
    split
    · omega
    · have := cnt_ge (p := p) (ss := ss) f (k + 1); omega
theorem num_ok {p : Pn} {ss : Sr} (h : p.ok) : 1 ≤ p.num ss ∧ p.num ss ≤ p.many := by
  obtain ⟨f, hf⟩ : ∃ f, p.many = f + 1 := ⟨p.many - 1, by have := h.1; omega⟩
  have h2 := cnt_top (p := p) (ss := ss) (f + 1) 0
  unfold Pn.num
  rw [hf]
  refine ⟨?_, by omega⟩
  unfold Pn.cnt
  split
  · omega
  · exact cnt_ge f 1
theorem res_pl {p : Pn} {ss : Sr} (hp : p.ok) (hs : ∀ e ∈ ss, e.2.ok) : Pl 7 (p.res ss) := by
  refine pl2 (Pl.le (pl_ints (m := 0) ?_) (by decide)) (fin_pl hs)
  rw [Pn.begs_len]
  have := (num_ok (ss := ss) hp).2
  have := hp.1
  omega
def alB (p q : Pn) : Bool := decide (p.lim = q.lim) && decide (p.C = q.C)
theorem C_pl {p : Pn} (hp : p.ok) : Pl 2 (.tup (p.C.map D.int)) := pl_ints (m := 0) (by rw [Pn.C_len]; have := Pn.mc_le (p := p); have := hp.1; omega)
theorem alike_spec {n : Nat} {p q : Pn} {S : DS} {Q : DK} (hp : p.ok) (hq : q.ok) (h : ∀ S', Ext S S' → Q (.bl (alB p q)) S') : sem fs (n + 3) 5 [p.d, q.d] S Q := by
  refine run_plans_alike ?_
  unfold b_5
  repeat walk_at "d"
  refine o_ixT (v := limD p.lim) rfl ?_
  repeat walk_at "d"
  refine o_ixT (v := limD q.lim) rfl ?_
  refine o_eqPl (lim_pl (m := 0)) (lim_pl (m := 0)) (by decide) ?_
  rw [eqv_lim, Bool.false_xor]
  repeat walk_at "d"
  refine ite_dec (fun e => ?_) (fun e => ?_)
  · repeat walk_at "d"
    refine counting_spec hp fun S1 x1 => ?_
    repeat walk_at "d"
    refine counting_spec hq fun S2 x2 => ?_
    refine o_eqPl (C_pl hp) (C_pl hq) (by decide) ?_
    rw [eqv_tupI, Bool.false_xor]
    have := h S2 (x1.trans x2)
    unfold alB at this
    rwa [decide_eq_true e, Bool.true_and] at this
  · have := h S (Ext.refl S)
    unfold alB at this
    rwa [decide_eq_false e, Bool.false_and] at this
def limL (a : Option Int) : List Int := match a with
  | none => []
  | some l => [l]
theorem least_of {a b : Option Int} {m : Int} (h : isMin (limL a ++ limL b) m) : isLeast a b m := by
  obtain ⟨h1, h2⟩ := h
  refine ⟨?_, fun l e => ?_, fun l e => ?_⟩
  · rcases List.mem_append.mp h1 with q | q
    · left
      cases a with
      | none => cases q
      | some l => rw [List.mem_singleton.mp q]
    · right
      cases b with
      | none => cases q
      | some l => rw [List.mem_singleton.mp q]
  · subst e; exact h2 l (List.mem_append_left _ (List.mem_singleton.mpr rfl))
  · subst e; exact h2 l (List.mem_append_right _ (List.mem_singleton.mpr rfl))
theorem limL_ne {a b : Option Int} (h : a ≠ b) : limL a ++ limL b ≠ [] := by
  cases a with
  | none =>
    cases b with
    | none => exact absurd rfl h
    | some l => exact fun e => nomatch e
  | some l => exact fun e => nomatch e
/-- what parting_series gives -/
def Parted (p q : Pn) (ss : Sr) : Prop := ss.length ≤ 500 ∧ (∀ e ∈ ss, 0 ≤ e.1 ∧ e.2.ok) ∧ D.eqv (p.res ss) (q.res ss) = false
theorem least_ge {p q : Pn} (hp : Pk p) (hq : Pk q) {m : Int} (h : isLeast p.lim q.lim m) : 0 ≤ m := by
  rcases h.1 with e | e
  · exact hp.2.2 m e
  · exact hq.2.2 m e
theorem parting_spec {n : Nat} {p q : Pn} {S : DS} {Q : DK} (hp : Pk p) (hq : Pk q) (h0 : alB p q = true → ∀ S', Ext S S' → Q .non S') (h : alB p q = false → ∀ ss S', Parted p q ss → Ext S S' → Q (.tup (serD ss)) S') : sem fs (n + 4) 6 [p.d, q.d] S Q := by
  refine run_parting_series ?_
  unfold b_6
  repeat walk_at "d"
  refine alike_spec hp.1 hq.1 fun S1 x1 => ?_
  repeat walk_at "d"
  refine ite_b (fun e => ?_) (fun e => ?_)
  · repeat walk_at "d"
    exact h0 e S1 x1
  replace h := h e
  repeat walk_at "d"
  refine o_ixT (v := limD p.lim) rfl ?_
  repeat walk_at "d"
  refine o_ixT (v := limD q.lim) rfl ?_
  refine o_eqPl (lim_pl (m := 0)) (lim_pl (m := 0)) (by decide) ?_
  rw [eqv_lim, Bool.true_xor]
  repeat walk_at "d"
  refine ite_ndec (fun hl => ?_) (fun hl => ?_)
  · have lc : ∀ (Q1 : DK), (∀ r S2, S2 r = some (.lst ((limL p.lim ++ limL q.lim).map D.int)) → Ext S1 S2 → Q1 (.ref r) S2) → dLc (dIter (dTup (dCons (dOp oIx (dVar 0) (dC (.int 4))) (dCons (dOp oIx (dVar 1) (dC (.int 4))) dNil)))) (dgName 3) (dTb (dOp (oIs true) (dVar 3) (dC .non))) (dVar 3) [3] [some p.d, some q.d, none, none, none, none, none] S1 Q1 := by
      intro Q1 hQ1
      repeat walk_at "d"
      refine o_ixT (v := limD p.lim) rfl ?_
      repeat walk_at "d"
      refine o_ixT (v := limD q.lim) rfl ?_
      repeat walk_at "d"
      have two : ∀ m x, [limD p.lim, limD q.lim][m]? = some x → m < 2 → (m = 0 ∧ x = limD p.lim) ∨ (m = 1 ∧ x = limD q.lim) := by
        intro m x hx hm
        match m, hx, hm with
        | 0, hx, _ => exact .inl ⟨rfl, (Option.some.inj hx).symm⟩
        | 1, hx, _ => exact .inr ⟨rfl, (Option.some.inj hx).symm⟩
      refine lc_inv (fun j acc S2 => (j = 0 → acc = []) ∧ (j = 1 → acc = (limL p.lim).map D.int) ∧ (j = 2 → acc = (limL p.lim ++ limL q.lim).map D.int) ∧ Ext S1 S2) ⟨fun _ => rfl, fun e => by omega, fun e => by omega, Ext.refl _⟩ (fun _ _ _ _ _ => rfl) ?_ ?_
      · rintro j x acc S2 nx hx hj ⟨a0, a1, a2, x2⟩ hnx
        rcases two j x hx hj with ⟨rfl, rfl⟩ | ⟨rfl, rfl⟩
        · rw [a0 rfl]
          repeat walk_at "d"
          cases hpl : p.lim with
          | none => exact ite_f (hnx _ _ ⟨fun e => by omega, fun _ => by rw [hpl]; rfl, fun e => by omega, x2⟩)
          | some l =>
            refine ite_t ?_
            repeat walk_at "d"
            exact ⟨by decide, hnx _ _ ⟨fun e => by omega, fun _ => by rw [hpl]; rfl, fun e => by omega, x2⟩⟩
        · rw [a1 rfl]
          repeat walk_at "d"
          have hlen : (limL p.lim).length ≤ 1 := by cases p.lim <;> simp [limL]
          cases hql : q.lim with
          | none => exact ite_f (hnx _ _ ⟨fun e => by omega, fun e => by omega, fun _ => by rw [hql]; simp [limL], x2⟩)
          | some l =>
            refine ite_t ?_
            repeat walk_at "d"
            exact ⟨by rw [List.length_map]; omega, hnx _ _ ⟨fun e => by omega, fun e => by omega, fun _ => by rw [hql]; simp [limL, limD], x2⟩⟩
      · rintro acc S2 ⟨_, _, a2, x2⟩
        rw [a2 rfl]
        exact i_newL fun r S3 n3 e3 x3 => hQ1 r S3 e3 (x2.trans x3)
    refine i_seq (i_asg (lc _ fun r S2 e2 x2 => ?_))
    repeat walk_at "d"
    show bMin1 [.ref r] S2 _
    have hb : ∀ Q2 : DK, (∀ m, isMin (limL p.lim ++ limL q.lim) m → Q2 (.int m) S2) → bMin1 [.ref r] S2 Q2 := fun Q2 h2 => by
      show (match lstOf S2 (.ref r) with
        | some xs => ∃ ns : List Int, xs = ns.map D.int ∧ ns ≠ [] ∧ ∀ m, isMin ns m → Q2 (.int m) S2
        | none => False)
      rw [lst_ref e2]
      exact ⟨_, rfl, limL_ne hl, h2⟩
    refine hb _ fun m hm => ?_
    repeat walk_at "d"
    have hle := least_of hm
    have hm0 := least_ge hp hq hle
    refine h [(m + 1, .good (.int 0))] S2 ⟨by show 1 ≤ 500; omega, fun e he => ?_, part_limits hp.1 hq.1 hl hle⟩ (x1.trans x2)
    rw [List.mem_singleton.mp he]
    exact ⟨by show 0 ≤ m + 1; omega, True.intro⟩
  · have hCne : p.C ≠ q.C := fun z => by
      unfold alB at e
      rw [decide_eq_true hl, decide_eq_true z] at e
      cases e
    repeat walk_at "d"
    refine counting_spec hp.1 fun S2 x2 => ?_
    repeat walk_at "d"
    refine counting_spec hq.1 fun S3 x3 => ?_
    have X3 := (x1.trans x2).trans x3
    have hp1 := Pn.mc_le (p := p)
    have hq1 := Pn.mc_le (p := q)
    have hp2 := hp.2.1
    have hq2 := hq.2.1
    have hp3 := hp.1.1
    have hq3 := hq.1.1
    repeat walk_at "d"
    refine while_inv (fun m δ S4 => ∃ a, m + a = min p.mc q.mc ∧ δ = [some p.d, some q.d, none, none, some (.tup (p.C.map D.int)), some (.tup (q.C.map D.int)), some (.int (a : Int))] ∧ (∀ j, j < a → p.W j = q.W j) ∧ S4 = S3) (min p.mc q.mc) ⟨0, rfl, rfl, fun j hj => by omega, rfl⟩ ?_
    rintro m δ S4 nx ⟨a, hm, rfl, hpre, rfl⟩ hnx
    have fin : (a = p.mc ∨ a = q.mc ∨ p.W a ≠ q.W a) → dRet (dCall (sem fs (n + 3) 3) (dCons (dOp oAdd (dVar 6) (dC (.int 1))) (dCons (dC (.int 0)) dNil))) { nx := fun _ S' => Q .non S', rt := Q, bk := fun _ _ => False, ct := fun _ _ => False } [some p.d, some q.d, none, none, some (.tup (p.C.map D.int)), some (.tup (q.C.map D.int)), some (.int (a : Int))] S4 := fun hend => by
      repeat walk_at "d"
      refine bad_spec (m := a + 1) (by omega) fun S5 x5 => ?_
      refine h (List.replicate (a + 1) (0, .bad "x")) S5 ⟨by rw [List.length_replicate]; omega, fun e he => ?_, part_counted hp hq (by decide +kernel) hCne (by omega) (by omega) hpre hend⟩ (X3.trans x5)
      rw [(List.mem_replicate.mp he).2]
      exact ⟨Int.le_refl _, True.intro⟩
    repeat walk_at "d"
    rw [List.length_map, List.length_map, Pn.C_len, Pn.C_len]
    refine ite_dec (fun c1 => ?_) (fun c1 => ?_)
    · have a1 : a < p.mc := by omega
      have a2 : a < q.mc := by omega
      repeat walk_at "d"
      refine o_ixT (v := .int (p.W a)) (atI_at (j := a) rfl (by rw [List.getElem?_map, Pn.C_at a1]; rfl)) ?_
      repeat walk_at "d"
      refine o_ixT (v := .int (q.W a)) (atI_at (j := a) rfl (by rw [List.getElem?_map, Pn.C_at a2]; rfl)) ?_
      repeat walk_at "d"
      refine ite_dec (fun c2 => ?_) (fun c2 => ?_)
      · repeat walk_at "d"
        refine hnx (m - 1) _ _ (by omega) ⟨a + 1, by omega, rfl, fun j hj => ?_, rfl⟩
        by_cases hja : j = a
        · rw [hja]; exact c2
        · exact hpre j (by omega)
      · exact fin (.inr (.inr c2))
    · exact ite_f (fin (by omega))
def Mid (x : Int) : Prop := 0 ≤ x ∧ x < 10 ^ 41
theorem length_spec {n : Nat} {S : DS} {d : Addr} {Q : DK} (hd : Drw S d) (h : ∀ v S', Mid v → But d S S' → Drw S' d → Q (.int v) S') : sem fs (n + 3) 18 [.ref d] S Q := by
  refine run__law_length ?_
  unfold b_18
  repeat walk_at "d"
  refine take_spec hd (by decide) fun k S1 h0 h1 b1 d1 => ?_
  repeat walk_at "d"
  refine ite_dec (fun c => ?_) (fun c => ?_)
  · repeat walk_at "d"
    refine o_powI (by decide) ?_
    repeat walk_at "d"
    refine o_powI (by decide) ?_
    repeat walk_at "d"
    refine o_powI (by decide) ?_
    repeat walk_at "d"
    refine i_newL fun p S2 n2 e2 x2 => ?_
    repeat walk_at "d"
    refine pick_spec (d1.ext x2) e2 (by simp) (d1.ne' n2) fun v S3 hv b3 d3 => ?_
    have hq := fun w hw => h w S3 hw ((b1.ext x2).trans b3) d3
    simp only [List.mem_cons, List.not_mem_nil, or_false] at hv
    rcases hv with rfl | rfl | rfl <;> exact hq _ ⟨by decide, by decide⟩
  · repeat walk_at "d"
    refine i_newL fun p S2 n2 e2 x2 => ?_
    repeat walk_at "d"
    refine pick_spec (d1.ext x2) e2 (by simp) (d1.ne' n2) fun v S3 hv b3 d3 => ?_
    repeat walk_at "d"
    simp only [List.mem_cons, List.not_mem_nil, or_false] at hv
    have hb := (b1.ext x2).trans b3
    rcases hv with rfl | rfl | rfl <;> exact take_spec d3 (by decide) fun w S4 w0 w1 b4 d4 => h w S4 ⟨w0, by omega⟩ (hb.trans b4) d4
/-- a plan as drawn: room for the twins -/
def Pd (p : Pn) : Prop := (1 ≤ p.many ∧ p.many ≤ 500) ∧ (0 ≤ p.first ∧ p.first < 10 ^ 45) ∧ (0 ≤ p.factor ∧ p.factor ≤ 5) ∧ (0 ≤ p.most ∧ p.most < 10 ^ 45) ∧ ∀ l, p.lim = some l → 0 ≤ l
theorem Pd.pk {p : Pn} (h : Pd p) : Pk p := by
  obtain ⟨h1, h2, h3, h4, h5⟩ := h
  exact ⟨⟨by omega, by omega, by omega, by omega⟩, by omega, h5⟩
theorem plan_spec {n : Nat} {S : DS} {d : Addr} {Q : DK} {mm : Int} (hm : 1 ≤ mm ∧ mm ≤ 500) (hd : Drw S d) (h : ∀ (p : Pn) S', Pd p → p.lim = none → But d S S' → Drw S' d → Q p.d S') : sem fs (n + 4) 19 [.ref d, .int mm] S Q := by
  refine run__law_plan ?_
  unfold b_19
  repeat walk_at "d"
  refine i_newL fun p S2 n2 e2 x2 => ?_
  repeat walk_at "d"
  refine pick_spec (hd.ext x2) e2 (by simp) (hd.ne' n2) fun v S3 hv b3 d3 => ?_
  repeat walk_at "d"
  obtain ⟨m, rfl, m0, m1⟩ : ∃ m : Int, v = .int m ∧ 0 < m ∧ m ≤ 500 := by
    simp only [List.mem_cons, List.not_mem_nil, or_false] at hv
    rcases hv with rfl | rfl | rfl
    · exact ⟨_, rfl, by decide, by decide⟩
    · exact ⟨_, rfl, by decide, by decide⟩
    · exact ⟨_, rfl, by omega, by omega⟩
  refine take_spec d3 m0 fun w S4 w0 w1 b4 d4 => ?_
  repeat walk_at "d"
  refine length_spec d4 fun v1 S5 hv1 b5 d5 => ?_
  repeat walk_at "d"
  refine take_spec d5 (by decide) fun w2 S6 w20 w21 b6 d6 => ?_
  repeat walk_at "d"
  refine length_spec d6 fun v2 S7 hv2 b7 d7 => ?_
  repeat walk_at "d"
  refine length_spec d7 fun v3 S8 hv3 b8 d8 => ?_
  repeat walk_at "d"
  unfold Mid at hv1 hv2 hv3
  have := h ⟨(1 + w).toNat, v1, 1 + w2, v2 + v3, none⟩ S8 ⟨by dsimp only; omega, by dsimp only; omega, by dsimp only; omega, by dsimp only; omega, fun l e => by cases e⟩ rfl (((((((x2.toBut).trans b3).trans b4).trans b5).trans b6).trans b7).trans b8) d8
  unfold Pn.d at this
  dsimp only at this
  rw [Int.toNat_of_nonneg (by omega)] at this
  exact this
theorem ser_rep {m : Nat} {c : Int} {w : Str} : (List.replicate m [D.tup [.int c, D.tup [.str "bad", .str w]]]).flatten = serD (List.replicate m (c, Out.bad w)) := by
  unfold serD
  rw [List.map_replicate]
  induction m with
  | zero => rfl
  | succ m ih => rw [List.replicate_succ, List.flatten_cons, ih]; rfl
theorem limited_spec {n : Nat} {p : Pn} {S : DS} {d : Addr} {Q : DK} (hd : Drw S d) (hp : Pd p) (h : ∀ (p' : Pn) S', Pd p' → But d S S' → Drw S' d → Q p'.d S') : sem fs (n + 3) 21 [.ref d, p.d, .tup (serD (List.replicate p.many (0, Out.bad (Str.ofString "no"))))] S Q := by
  refine run__law_limited ?_
  unfold b_21
  repeat walk_at "d"
  refine lretried_spec hp.pk.1 fun S1 x1 => ?_
  have d1 := hd.ext x1
  repeat walk_at "d"
  generalize hss : List.replicate p.many ((0 : Int), Out.bad (Str.ofString "no")) = ss
  have hat : ∀ j, j < p.many → ss[j]? = some (0, Out.bad (Str.ofString "no")) := fun j hj => by rw [← hss, List.getElem?_replicate, if_pos hj]
  have hsl : ss.length = p.many := by rw [← hss, List.length_replicate]
  refine o_ixT (v := .tup ((p.begs ss (p.num ss)).map D.int)) rfl ?_
  repeat walk_at "d"
  have hn := num_ok (ss := ss) hp.pk.1
  refine take_spec d1 (by rw [Pn.begs_lenD]; omega) fun k S2 k0 k1 b2 d2 => ?_
  rw [Pn.begs_lenD] at k1
  repeat walk_at "d"
  obtain ⟨t, q⟩ : ∃ t, L2.atI ((p.begs ss (p.num ss)).map D.int) k = some (.int t) := by
    obtain ⟨v, q, hv, _⟩ := atI_some (xs := (p.begs ss (p.num ss)).map D.int) k0 (by rw [Pn.begs_lenD]; exact k1)
    obtain ⟨z, _, rfl⟩ := List.mem_map.mp hv
    exact ⟨_, q⟩
  refine o_ixT q ?_
  repeat walk_at "d"
  rw [serD_len, hsl]
  refine ite_dec (fun _ => ?_) (fun q => by omega)
  repeat walk_at "d"
  refine take_spec d2 (by decide) fun w S3 w0 w1 b3 d3 => ?_
  have B3 := (x1.toBut.trans b2).trans b3
  have main : ∀ (t : Int), dSeq (dAsg (dCall bMax2 (dCons (dC (.int 0)) (dCons (dOp oAdd (dVar 5) (dCall (sem fs (n + 2) 10) (dCons (dVar 0) (dCons (dLst (dCons (dC (.int 0)) (dCons (dC (.int 0)) (dCons (dUn uNeg (dC (.int 1))) (dCons (dC (.int 1)) (dCons (dC (.int 5)) dNil)))))) dNil)))) dNil))) (dgName 6)) (dRet (dOp oAdd (dSl (dVar 1) dNoPart (dPart (dC (.int 4)))) (dTup (dCons (dVar 6) dNil)))) { nx := fun _ S' => Q .non S', rt := Q, bk := fun _ _ => False, ct := fun _ _ => False } [some (.ref d), some p.d, some (.tup (serD ss)), some (.tup ((p.begs ss (p.num ss)).map D.int)), some (.int k), some (.int t), none] S3 := by
    intro t
    repeat walk_at "d"
    refine i_newL fun a S4 n4 e4 x4 => ?_
    repeat walk_at "d"
    refine pick_spec (d3.ext x4) e4 (by simp) (d3.ne' n4) fun v S5 hv b5 d5 => ?_
    obtain ⟨u, rfl⟩ : ∃ u : Int, v = .int u := by
      simp only [List.mem_cons, List.not_mem_nil, or_false] at hv
      rcases hv with rfl | rfl | rfl | rfl | rfl <;> exact ⟨_, rfl⟩
    repeat walk_at "d"
    refine o_slT ?_
    repeat walk_at "d"
    refine o_addT (Nat.le_of_ble_eq_true rfl) ?_
    exact h ⟨p.many, p.first, p.factor, p.most, some _⟩ S5 ⟨hp.1, hp.2.1, hp.2.2.1, hp.2.2.2.1, fun l e => by cases e; exact Int.le_max_left ..⟩ ((B3.ext x4).trans b5) d5
  repeat walk_at "d"
  refine ite_dec (fun _ => ?_) (fun _ => ?_)
  · repeat walk_at "d"
    refine o_ixT (serD_at (j := k.toNat) (by omega) (hat _ (by omega))) ?_
    repeat walk_at "d"
    refine o_ixT (v := .int 0) rfl ?_
    refine o_addI (i_gname rfl ?_)
    exact main _
  · refine i_next ?_
    exact main t
def SrOk (ss : Sr) : Prop := ∀ e ∈ ss, e.2.ok
theorem series_spec {n : Nat} {S : DS} {d : Addr} {Q : DK} (hd : Drw S d) (h : ∀ ss S', SrOk ss → But d S S' → Drw S' d → Q (.tup (serD ss)) S') : sem fs (n + 5) 20 [.ref d, .int 5] S Q := by
  refine run__law_series ?_
  unfold b_20
  repeat walk_at "d"
  refine i_newL fun a S1 n1 e1 x1 => ?_
  have nad := hd.ne' n1
  have d1 := hd.ext x1
  repeat walk_at "d"
  refine take_spec d1 (by decide) fun m S2 m0 m1 b2 d2 => ?_
  repeat walk_at "d"
  refine i_rng1V (by omega) (for_inv (fun j δ S3 => ∃ o3 o4 o5 ss, δ = [some (.ref d), some (.int 5), some (.ref a), o3, o4, o5] ∧ SrOk ss ∧ ss.length = j ∧ S3 a = some (.lst (serD ss)) ∧ But d S S3 ∧ Drw S3 d) ⟨none, none, none, [], rfl, (fun e he => by cases he), rfl, b2.get nad e1, x1.toBut.trans b2, d2⟩ (fun _ _ _ _ _ => True.intro) ?_ ?_)
  · rintro j x δ S3 nx hx hj ⟨o3, o4, o5, ss, rfl, hs, hsl, e3, b3, d3⟩ hnx
    obtain ⟨rfl, hjm⟩ := rng_at hx
    have hj6 : j < 6 := by omega
    have fin : ∀ (o : Out) k S4, o.ok → But d S3 S4 → Drw S4 d → dDrop (dBM okLst (mLst fAppend) (dVar 2) (dCons (dTup (dCons (dCall (sem fs (n + 4) 18) (dCons (dVar 0) dNil)) (dCons (dVar 5) dNil))) dNil)) ⟨nx, Q, fun δ S => dRet (dCall bTuple (dCons (dVar 2) dNil)) { nx := fun _ S' => Q .non S', rt := Q, bk := fun _ _ => False, ct := fun _ _ => False } δ S, nx⟩ [some (.ref d), some (.int 5), some (.ref a), some (.int (0 + (j : Int))), k, some o.d] S4 := by
      intro o k S4 ho b4 d4
      have e4 := b4.get nad e3
      repeat walk_at "d"
      refine length_spec d4 fun c S5 hc b5 d5 => ?_
      repeat walk_at "d"
      have e5 := b5.get nad e4
      refine m_append e5 (by rw [List.length_append, serD_len]; show ss.length + 1 ≤ _; omega) (i_putL fun S6 e6 b6 => ?_)
      refine hnx _ _ ⟨_, _, _, ss ++ [(c, o)], rfl, fun e he => ?_, by rw [List.length_append, hsl]; rfl, by unfold serD; rw [List.map_append]; exact e6, ((b3.trans b4).trans b5).but b6 n1, d5.but b6 nad.symm⟩
      rcases List.mem_append.mp he with q | q
      · exact hs e q
      · rw [List.mem_singleton.mp q]; exact ho
    repeat walk_at "d"
    refine take_spec d3 (by decide) fun k S4 k0 k1 b4 d4 => ?_
    repeat walk_at "d"
    refine word_spec d4 fun w S5 _ b5 d5 => ?_
    repeat walk_at "d"
    refine ite_dec (fun c1 => ?_) (fun c1 => ?_)
    · repeat walk_at "d"
      refine value_spec d5 fun v S6 b6 d6 hv => ?_
      repeat walk_at "d"
      refine ite_dec (fun c2 => by omega) (fun c2 => ?_)
      refine i_next ?_
      exact fin (.good v) _ S6 hv.up ((b4.trans b5).trans b6) d6
    · repeat walk_at "d"
      refine ite_dec (fun c2 => ?_) (fun c2 => ?_)
      · refine i_asg (i_tup (i_cons (i_c (i_cons (i_c (i_nil ⟨Nat.le_of_ble_eq_true rfl, i_gname rfl ?_⟩))))))
        exact fin (.bad "final") _ S5 True.intro (b4.trans b5) d5
      · refine i_next ?_
        exact fin (.bad w) _ S5 True.intro (b4.trans b5) d5
  · rintro δ S3 ⟨o3, o4, o5, ss, rfl, hs, hsl, e3, b3, d3⟩
    repeat walk_at "d"
    exact h ss S3 hs b3 d3
theorem own_spec {n : Nat} {p q : Pn} {S : DS} {Q : DK} (hp : Pk p) (hq : Pk q) (h : ∀ ss S', SrOk ss → Ext S S' → Q (.tup (serD ss)) S') : sem fs (n + 1) 23 [p.d, q.d] S Q := by
  refine run__law_own_series ?_
  unfold b_23
  have lc : ∀ (Q1 : DK), (∀ r S2, S2 r = some (.lst ((limL p.lim ++ limL q.lim).map D.int)) → Ext S S2 → Q1 (.ref r) S2) → dLc (dIter (dTup (dCons (dVar 0) (dCons (dVar 1) dNil)))) (dgName 3) (dTb (dOp (oIs true) (dOp oIx (dVar 3) (dC (.int 4))) (dC .non))) (dOp oIx (dVar 3) (dC (.int 4))) [3] [some p.d, some q.d, none, none] S Q1 := by
    intro Q1 hQ1
    repeat walk_at "d"
    have two : ∀ m x, [p.d, q.d][m]? = some x → m < 2 → (m = 0 ∧ x = p.d) ∨ (m = 1 ∧ x = q.d) := by
      intro m x hx hm
      match m, hx, hm with
      | 0, hx, _ => exact .inl ⟨rfl, (Option.some.inj hx).symm⟩
      | 1, hx, _ => exact .inr ⟨rfl, (Option.some.inj hx).symm⟩
    refine lc_inv (fun j acc S2 => (j = 0 → acc = []) ∧ (j = 1 → acc = (limL p.lim).map D.int) ∧ (j = 2 → acc = (limL p.lim ++ limL q.lim).map D.int) ∧ Ext S S2) ⟨fun _ => rfl, fun e => by omega, fun e => by omega, Ext.refl _⟩ (fun _ _ _ _ _ => rfl) ?_ ?_
    · rintro j x acc S2 nx hx hj ⟨a0, a1, a2, x2⟩ hnx
      rcases two j x hx hj with ⟨rfl, rfl⟩ | ⟨rfl, rfl⟩
      · rw [a0 rfl]
        repeat walk_at "d"
        refine o_ixT (v := limD p.lim) rfl ?_
        repeat walk_at "d"
        cases hpl : p.lim with
        | none => exact ite_f (hnx _ _ ⟨fun e => by omega, fun _ => by rw [hpl]; rfl, fun e => by omega, x2⟩)
        | some l =>
          refine ite_t ?_
          repeat walk_at "d"
          refine o_ixT (v := limD p.lim) rfl ?_
          rw [hpl]
          exact ⟨by decide, hnx _ _ ⟨fun e => by omega, fun _ => by rw [hpl]; rfl, fun e => by omega, x2⟩⟩
      · rw [a1 rfl]
        repeat walk_at "d"
        refine o_ixT (v := limD q.lim) rfl ?_
        repeat walk_at "d"
        have hlen : (limL p.lim).length ≤ 1 := by cases p.lim <;> simp [limL]
        cases hql : q.lim with
        | none => exact ite_f (hnx _ _ ⟨fun e => by omega, fun e => by omega, fun _ => by rw [hql]; simp [limL], x2⟩)
        | some l =>
          refine ite_t ?_
          repeat walk_at "d"
          refine o_ixT (v := limD q.lim) rfl ?_
          rw [hql]
          exact ⟨by rw [List.length_map]; omega, hnx _ _ ⟨fun e => by omega, fun e => by omega, fun _ => by rw [hql]; simp [limL, limD], x2⟩⟩
    · rintro acc S2 ⟨_, _, a2, x2⟩
      rw [a2 rfl]
      exact i_newL fun r S3 n3 e3 x3 => hQ1 r S3 e3 (x2.trans x3)
  refine i_seq (i_asg (lc _ fun r S2 e2 x2 => ?_))
  repeat walk_at "d"
  refine o_ixT (v := limD p.lim) rfl ?_
  repeat walk_at "d"
  refine o_ixT (v := limD q.lim) rfl ?_
  refine o_eqPl (lim_pl (m := 0)) (lim_pl (m := 0)) (by decide) ?_
  rw [eqv_lim, Bool.true_xor]
  repeat walk_at "d"
  refine ite_ndec (fun hl => ?_) (fun hl => ?_)
  · repeat walk_at "d"
    have hb : ∀ Q2 : DK, (∀ m, isMin (limL p.lim ++ limL q.lim) m → Q2 (.int m) S2) → bMin1 [.ref r] S2 Q2 := fun Q2 h2 => by
      show (match lstOf S2 (.ref r) with
        | some xs => ∃ ns : List Int, xs = ns.map D.int ∧ ns ≠ [] ∧ ∀ m, isMin ns m → Q2 (.int m) S2
        | none => False)
      rw [lst_ref e2]
      exact ⟨_, rfl, limL_ne hl, h2⟩
    refine hb _ fun m hm => ?_
    repeat walk_at "d"
    exact h [(m + 1, .good (.int 1))] S2 (fun e he => by rw [List.mem_singleton.mp he]; exact True.intro) x2
  · have hp1 := hp.1.1
    have hq1 := hq.1.1
    repeat walk_at "d"
    refine o_ixT (v := .int p.many) rfl ?_
    repeat walk_at "d"
    refine o_ixT (v := .int q.many) rfl ?_
    repeat walk_at "d"
    refine o_mulT (by simp) (by omega) (by omega) (Nat.le_of_ble_eq_true rfl) ?_
    rw [ser_rep]
    exact h _ S2 (fun e he => by rw [(List.mem_replicate.mp he).2]; exact True.intro) x2
theorem isint_spec {n : Nat} {i : Int} {S : DS} {Q : DK} (h : Q (.bl true) S) : sem fs (n + 1) 12 [.int i] S Q := by
  refine run__law_is_int ?_
  unfold b_12
  repeat walk_at "d"
  refine c_isi (s := "int") rfl rfl ?_
  repeat walk_at "d"
  refine ite_b (fun _ => ?_) (fun e => absurd e (by decide))
  repeat walk_at "d"
  refine c_isi (s := "int") rfl rfl ?_
  repeat walk_at "d"
  exact h
theorem isser_spec {n : Nat} {ss : Sr} {S : DS} {Q : DK} (hl : ss.length ≤ 500) (hs : ∀ e ∈ ss, 0 ≤ e.1 ∧ e.2.ok) (h : Q (.bl true) S) : sem fs (n + 2) 24 [.tup (serD ss)] S Q := by
  refine run__law_is_series ?_
  unfold b_24
  repeat walk_at "d"
  refine c_isi (s := "tuple") rfl rfl ?_
  repeat walk_at "d"
  refine ite_b (fun e => absurd e (by decide)) (fun _ => ?_)
  repeat walk_at "d"
  rw [serD_len]
  refine ite_dec (fun e => by omega) (fun _ => ?_)
  repeat walk_at "d"
  refine for_inv (fun j δ S1 => ∃ o, δ = [some (.tup (serD ss)), o] ∧ S1 = S) ⟨none, rfl, rfl⟩ (fun _ _ _ _ _ => rfl) ?_ ?_
  · rintro j x δ S1 nx hx hj ⟨o, rfl, rfl⟩ hnx
    unfold serD at hx
    rw [List.getElem?_map] at hx
    cases he : ss[j]? with
    | none => rw [he] at hx; cases hx
    | some e =>
      rw [he] at hx
      obtain rfl := (Option.some.inj hx).symm
      obtain ⟨h0, ho⟩ := hs e (List.mem_of_getElem? he)
      obtain ⟨c, o'⟩ := e
      repeat walk_at "d"
      refine c_isi (s := "tuple") rfl rfl ?_
      repeat walk_at "d"
      refine ite_b (fun e => absurd e (by decide)) (fun _ => ?_)
      repeat walk_at "d"
      refine ite_ndec (fun e => absurd rfl e) (fun _ => ?_)
      repeat walk_at "d"
      refine o_ixT (v := .int c) rfl ?_
      repeat walk_at "d"
      refine isint_spec ?_
      repeat walk_at "d"
      refine o_ixT (v := .int c) rfl ?_
      repeat walk_at "d"
      refine ite_dec (fun e => absurd h0 (by show ¬ 0 ≤ c; omega)) (fun _ => ?_)
      repeat walk_at "d"
      refine o_ixT (v := o'.d) rfl ?_
      cases o' with
      | good v =>
        repeat walk_at "d"
        refine c_isi (s := "tuple") rfl rfl ?_
        repeat walk_at "d"
        refine ite_b (fun e => absurd e (by decide)) (fun _ => ?_)
        repeat walk_at "d"
        refine o_ixT (v := (Out.good v).d) rfl ?_
        repeat walk_at "d"
        refine c_lenT (xs := [.str "good", v]) ?_
        repeat walk_at "d"
        refine ite_ndec (fun e => absurd rfl e) (fun _ => ?_)
        repeat walk_at "d"
        refine o_ixT (v := (Out.good v).d) rfl ?_
        repeat walk_at "d"
        refine o_ixT (v := .str "good") rfl ?_
        repeat walk_at "d"
        refine o_notinS ["good", "bad"] ?_
        repeat walk_at "d"
        refine ite_ndec (fun e => absurd (by decide +kernel) e) (fun _ => ?_)
        repeat walk_at "d"
        refine o_ixT (v := (Out.good v).d) rfl ?_
        repeat walk_at "d"
        refine o_ixT (v := .str "good") rfl ?_
        repeat walk_at "d"
        refine ite_dec (fun q => absurd q (by decide +kernel)) (fun _ => ?_)
        repeat walk_at "d"
        exact hnx _ _ ⟨_, rfl, rfl⟩
      | bad w =>
        repeat walk_at "d"
        refine c_isi (s := "tuple") rfl rfl ?_
        repeat walk_at "d"
        refine ite_b (fun e => absurd e (by decide)) (fun _ => ?_)
        repeat walk_at "d"
        refine o_ixT (v := (Out.bad w).d) rfl ?_
        repeat walk_at "d"
        refine c_lenT (xs := [.str "bad", .str w]) ?_
        repeat walk_at "d"
        refine ite_ndec (fun e => absurd rfl e) (fun _ => ?_)
        repeat walk_at "d"
        refine o_ixT (v := (Out.bad w).d) rfl ?_
        repeat walk_at "d"
        refine o_ixT (v := .str "bad") rfl ?_
        repeat walk_at "d"
        refine o_notinS ["good", "bad"] ?_
        repeat walk_at "d"
        refine ite_ndec (fun e => absurd (by decide +kernel) e) (fun _ => ?_)
        repeat walk_at "d"
        refine o_ixT (v := (Out.bad w).d) rfl ?_
        repeat walk_at "d"
        refine o_ixT (v := .str "bad") rfl ?_
        repeat walk_at "d"
        refine ite_dec (fun q => ?_) (fun q => absurd rfl q)
        repeat walk_at "d"
        refine o_ixT (v := (Out.bad w).d) rfl ?_
        repeat walk_at "d"
        refine o_ixT (v := .str w) rfl ?_
        repeat walk_at "d"
        refine c_isi (s := "str") rfl rfl ?_
        repeat walk_at "d"
        refine ite_b (fun e => absurd e (by decide)) (fun _ => ?_)
        repeat walk_at "d"
        exact hnx _ _ ⟨_, rfl, rfl⟩
  · rintro δ S1 ⟨o, rfl, rfl⟩
    repeat walk_at "d"
    exact h
/-- a plan of the twins -/
def Tw (x : D) : Prop := ∃ p : Pn, x = p.d ∧ Pk p
theorem tw_mk {many : Nat} {first factor most : Int} {lim : Option Int} (h1 : 1 ≤ many ∧ many ≤ 500) (h2 : 0 ≤ first ∧ first < 10 ^ 51) (h3 : 0 ≤ factor ∧ factor ≤ 10) (h4 : 0 ≤ most ∧ most < 10 ^ 51) (h5 : ∀ l, lim = some l → 0 ≤ l) : Tw (.tup [.int (many : Int), .int first, .int factor, .int most, limD lim]) :=
  ⟨⟨many, first, factor, most, lim⟩, rfl, ⟨⟨by dsimp only; omega, h2, h3, h4⟩, h1.2, h5⟩⟩
theorem sum_nonneg : ∀ ns : List Int, (∀ n ∈ ns, 0 ≤ n) → 0 ≤ ns.sum
  | [], _ => Int.le_refl _
  | n :: ns, h => by
    rw [List.sum_cons]
    have := h n (List.mem_cons_self ..)
    have := sum_nonneg ns fun m hm => h m (List.mem_cons_of_mem _ hm)
    omega
theorem twins_spec {n : Nat} {p : Pn} {S : DS} {d : Addr} {Q : DK} (hd : Drw S d) (hp : Pd p) (h : ∀ a xs S', (∀ x ∈ xs, Tw x) → 2 ≤ xs.length → S' a = some (.lst xs) → a ≠ d → But d S S' → Drw S' d → Q (.ref a) S') : sem fs (n + 3) 25 [.ref d, p.d] S Q := by
  refine run__law_twins ?_
  unfold b_25
  have ht : p.d = .tup [.int (p.many : Int), .int p.first, .int p.factor, .int p.most, limD p.lim] := rfl
  obtain ⟨g1, g2, g3, g4, g5⟩ := id hp
  rw [ht]
  repeat walk_at "d"
  refine i_newL fun a S1 n1 e1 x1 => ?_
  have nad := hd.ne' n1
  repeat walk_at "d"
  have t1 : ∀ x ∈ [D.tup [.int (p.many : Int), .int p.first, .int p.factor, .int p.most, limD p.lim], .tup [.int (p.many : Int), .int (min p.first p.most), .int p.factor, .int p.most, limD p.lim], .tup [.int (p.many : Int), .int (p.first + p.most), .int p.factor, .int p.most, limD p.lim]], Tw x := fun x hx => by
    simp only [List.mem_cons, List.not_mem_nil, or_false] at hx
    rcases hx with rfl | rfl | rfl
    · exact tw_mk (by omega) (by omega) (by omega) (by omega) g5
    · exact tw_mk (by omega) (by omega) (by omega) (by omega) g5
    · exact tw_mk (by omega) (by omega) (by omega) (by omega) g5
  generalize hxs : [D.tup [.int (p.many : Int), .int p.first, .int p.factor, .int p.most, limD p.lim], .tup [.int (p.many : Int), .int (min p.first p.most), .int p.factor, .int p.most, limD p.lim], .tup [.int (p.many : Int), .int (p.first + p.most), .int p.factor, .int p.most, limD p.lim]] = xs at e1 t1
  have l1 : xs.length = 3 := by rw [← hxs]; rfl
  clear hxs
  have more : ∀ {xs : List D} {x : D}, (∀ x ∈ xs, Tw x) → Tw x → ∀ y ∈ xs ++ [x], Tw y := fun h1 h2 y hy => by
    rcases List.mem_append.mp hy with q | q
    · exact h1 y q
    · rw [List.mem_singleton.mp q]; exact h2
  have lim4 : ∀ {xs : List D} {x : D} {k : Nat}, xs.length = k → (xs ++ [x]).length = k + 1 := fun h => by rw [List.length_append, h]; rfl
  refine m_append e1 (by rw [lim4 l1]; decide) (i_putL fun S2 e2 b2 => ?_)
  have t2 := more t1 (show Tw (.tup [.int (min 500 ((p.many : Int) + 1)), .int p.first, .int p.factor, .int p.most, limD p.lim]) by
    have := tw_mk (many := min 500 (p.many + 1)) (first := p.first) (factor := p.factor) (most := p.most) (lim := p.lim) (by omega) (by omega) (by omega) (by omega) g5
    rwa [show ((min 500 (p.many + 1) : Nat) : Int) = min 500 ((p.many : Int) + 1) by omega] at this)
  have l2 := lim4 (x := .tup [.int (min 500 ((p.many : Int) + 1)), .int p.first, .int p.factor, .int p.most, limD p.lim]) l1
  generalize xs ++ [_] = xs2 at e2 t2 l2
  repeat walk_at "d"
  refine m_append e2 (by rw [lim4 l2]; decide) (i_putL fun S3 e3 b3 => ?_)
  have t3 := more t2 (show Tw (.tup [.int (p.many : Int), .int p.first, .int (p.factor + 1), .int p.most, limD p.lim]) from tw_mk (by omega) (by omega) (by omega) (by omega) g5)
  have l3 := lim4 (x := .tup [.int (p.many : Int), .int p.first, .int (p.factor + 1), .int p.most, limD p.lim]) l2
  generalize xs2 ++ [_] = xs3 at e3 t3 l3
  repeat walk_at "d"
  refine m_append e3 (by rw [lim4 l3]; decide) (i_putL fun S4 e4 b4 => ?_)
  have t4 := more t3 (show Tw (.tup [.int (p.many : Int), .int p.first, .int p.factor, .int (p.most + 1), limD p.lim]) from tw_mk (by omega) (by omega) (by omega) (by omega) g5)
  have l4 := lim4 (x := .tup [.int (p.many : Int), .int p.first, .int p.factor, .int (p.most + 1), limD p.lim]) l3
  generalize xs3 ++ [_] = xs4 at e4 t4 l4
  repeat walk_at "d"
  refine m_append e4 (by rw [lim4 l4]; decide) (i_putL fun S5 e5 b5 => ?_)
  have t5 := more t4 (show Tw (.tup [.int (p.many : Int), .int p.first, .int 1, .int (min p.first p.most), limD p.lim]) from tw_mk (by omega) (by omega) (by omega) (by omega) g5)
  have l5 := lim4 (x := .tup [.int (p.many : Int), .int p.first, .int 1, .int (min p.first p.most), limD p.lim]) l4
  generalize xs4 ++ [_] = xs5 at e5 t5 l5
  have B5 : But a S1 S5 := ((b2.trans b3).trans b4).trans b5
  clear e1 e2 e3 e4
  repeat walk_at "d"
  refine counted_spec (p := ⟨p.many, p.first, p.factor, p.most, none⟩) ⟨by dsimp only; omega, by dsimp only; omega, by dsimp only; omega, by dsimp only; omega⟩ fun r S6 n6 e6 x6 => ?_
  have hok : (⟨p.many, p.first, p.factor, p.most, none⟩ : Pn).ok := ⟨by dsimp only; omega, by dsimp only; omega, by dsimp only; omega, by dsimp only; omega⟩
  have hs0 : 0 ≤ ((⟨p.many, p.first, p.factor, p.most, none⟩ : Pn).C).sum := sum_nonneg _ fun m hm => by
    unfold Pn.C at hm
    obtain ⟨k, _, rfl⟩ := List.mem_map.mp hm
    exact (Pn.W_ok hok k).1
  repeat walk_at "d"
  refine c_sum (lst_ref e6) ?_
  generalize ((⟨p.many, p.first, p.factor, p.most, none⟩ : Pn).C).sum = sums at hs0
  have e7 := x6.get e5
  have g6 : ∀ l, some sums = some l → 0 ≤ l := fun l e => by cases e; exact hs0
  clear e5
  repeat walk_at "d"
  refine m_append e7 (by rw [lim4 l5]; decide) (i_putL fun S8 e8 b8 => ?_)
  have t6 := more t5 (show Tw (.tup [.int (p.many : Int), .int p.first, .int p.factor, .int p.most, .int sums]) from tw_mk (lim := some sums) (by omega) (by omega) (by omega) (by omega) g6)
  have l6 := lim4 (x := .tup [.int (p.many : Int), .int p.first, .int p.factor, .int p.most, .int sums]) l5
  generalize xs5 ++ [_] = xs6 at e8 t6 l6
  repeat walk_at "d"
  refine m_append e8 (by rw [lim4 l6]; decide) (i_putL fun S9 e9 b9 => ?_)
  have t7 := more t6 (show Tw (.tup [.int ((p.many : Int) + 1 - (if (decide ((p.many : Int) = 500)) = true then 1 else 0)), .int p.first, .int p.factor, .int p.most, .int sums]) by
    have := tw_mk (many := if p.many = 500 then 500 else p.many + 1) (first := p.first) (factor := p.factor) (most := p.most) (lim := some sums) (by split <;> omega) (by omega) (by omega) (by omega) g6
    rwa [show ((if p.many = 500 then 500 else p.many + 1 : Nat) : Int) = (p.many : Int) + 1 - (if (decide ((p.many : Int) = 500)) = true then 1 else 0) by
      by_cases hc : p.many = 500
      · rw [if_pos hc, if_pos (decide_eq_true (by omega))]; omega
      · rw [if_neg hc, if_neg (by rw [decide_eq_false (by omega)]; exact Bool.false_ne_true)]; omega] at this)
  have l7 := lim4 (x := .tup [.int ((p.many : Int) + 1 - (if (decide ((p.many : Int) = 500)) = true then 1 else 0)), .int p.first, .int p.factor, .int p.most, .int sums]) l6
  generalize xs6 ++ [_] = xs7 at e9 t7 l7
  repeat walk_at "d"
  refine m_append e9 (by rw [lim4 l7]; decide) (i_putL fun S10 e10 b10 => ?_)
  have t8 := more t7 (show Tw (.tup [.int (p.many : Int), .int p.first, .int p.factor, .int p.most, .int (max 0 (sums - 1))]) from tw_mk (lim := some (max 0 (sums - 1))) (by omega) (by omega) (by omega) (by omega) fun l e => by cases e; exact Int.le_max_left ..)
  have l8 := lim4 (x := .tup [.int (p.many : Int), .int p.first, .int p.factor, .int p.most, .int (max 0 (sums - 1))]) l7
  generalize xs7 ++ [_] = xs8 at e10 t8 l8
  have X10 : Ext S S10 := ((x1.but B5 n1).trans x6).but ((b8.trans b9).trans b10) n1
  have d10 := hd.ext X10
  clear e8 e9
  repeat walk_at "d"
  refine i_newL fun r2 S11 n11 e11 x11 => ?_
  have e10' := x11.get e10
  repeat walk_at "d"
  refine pick_spec (d10.ext x11) e11 (by simp) (d10.ne' n11) fun v S12 hv b12 d12 => ?_
  obtain ⟨l, rfl, hl⟩ : ∃ l : Option Int, v = limD l ∧ ∀ k, l = some k → 0 ≤ k := by
    simp only [List.mem_cons, List.not_mem_nil, or_false] at hv
    rcases hv with rfl | rfl | rfl
    · exact ⟨none, rfl, fun k e => by cases e⟩
    · exact ⟨some 0, rfl, fun k e => by cases e; exact Int.le_refl _⟩
    · exact ⟨some (sums + 1), rfl, fun k e => by cases e; omega⟩
  have e12 := b12.get nad e10'
  repeat walk_at "d"
  refine m_append e12 (by rw [lim4 l8]; decide) (i_putL fun S13 e13 b13 => ?_)
  have t9 := more t8 (show Tw (.tup [.int (p.many : Int), .int p.first, .int p.factor, .int p.most, limD l]) from tw_mk (by omega) (by omega) (by omega) (by omega) hl)
  repeat walk_at "d"
  refine h a _ S13 t9 (by rw [lim4 l8]; decide) e13 nad (((X10.toBut.ext x11).trans b12).but b13 n1) (d12.but b13 nad.symm)
def Asked (x : D) : Prop := ∃ ss : Sr, x = .tup (serD ss) ∧ SrOk ss
theorem cut_ser {ss : Sr} : dcut (serD ss) none (some (-1)) = serD (dcut ss none (some (-1))) := by
  unfold dcut
  rw [serD_len]
  unfold serD
  rw [List.map_take, List.map_drop]
theorem cut_ok {ss : Sr} (h : SrOk ss) : SrOk (dcut ss none (some (-1))) := fun e he => h e (by
  unfold dcut at he
  exact List.mem_of_mem_drop (List.mem_of_mem_take he))
theorem goes_spec {n : Nat} {p q : Pn} {S : DS} {d : Addr} {Q : DK} (hd : Drw S d) (hp : Pk p) (hq : Pk q) (h : ∀ S', But d S S' → Drw S' d → Q (.bl true) S') : sem fs (n + 12) 26 [.ref d, p.d, q.d] S Q := by
  refine run__law_goes ?_
  unfold b_26
  repeat walk_at "d"
  refine o_ixT (v := limD p.lim) rfl ?_
  repeat walk_at "d"
  refine o_ixT (v := limD q.lim) rfl ?_
  refine o_eqPl (lim_pl (m := 0)) (lim_pl (m := 0)) (by decide) ?_
  rw [eqv_lim, Bool.false_xor]
  have dueQ : ∀ (Q1 : DK), (∀ S', Ext S S' → Q1 (.bl (alB p q)) S') → (asB (.bl (decide (p.lim = q.lim))) S fun c S2 => if c = true then dOp (oEq false) (dCall (sem fs (n + 11) 22) (dCons (dVar 1) dNil)) (dCall (sem fs (n + 11) 22) (dCons (dVar 2) dNil)) [some (.ref d), some p.d, some q.d, none, none, none, none] S2 Q1 else Q1 (.bl false) S2) := by
    intro Q1 h1
    repeat walk_at "d"
    refine ite_dec (fun e => ?_) (fun e => ?_)
    · repeat walk_at "d"
      refine counted_spec hp.1 fun a S1 n1 e1 x1 => ?_
      repeat walk_at "d"
      refine counted_spec hq.1 fun b S2 n2 e2 x2 => ?_
      have r1 : (D.ref a).rd S2 4 = .fl (p.C.map D.int) := by
        show (match S2 a with
          | some (.lst xs) => D.fl (xs.map (D.rd S2 3))
          | _ => .ref a) = _
        rw [x2.get e1]
        exact congrArg D.fl (rdL_plain (plainL_ints _))
      have r2 : (D.ref b).rd S2 4 = .fl (q.C.map D.int) := by
        show (match S2 b with
          | some (.lst xs) => D.fl (xs.map (D.rd S2 3))
          | _ => .ref b) = _
        rw [e2]
        exact congrArg D.fl (rdL_plain (plainL_ints _))
      have pl : ∀ zs : List Int, (D.fl (zs.map D.int)).plain = true := fun zs => by rw [D.plain]; exact plainL_ints zs
      have dp : ∀ zs : List Int, (D.fl (zs.map D.int)).dep ≤ 50 := fun zs => by
        rw [D.dep]
        have := D.depL_le (n := 0) (xs := zs.map D.int) fun x hx => by
          obtain ⟨i, _, rfl⟩ := List.mem_map.mp hx
          rw [D.dep]; exact Nat.le_refl _
        omega
      show (((D.ref a).rd S2 4).plain = true ∧ ((D.ref b).rd S2 4).plain = true ∧ (((D.ref a).rd S2 4).dep ≤ 50 ∨ ((D.ref b).rd S2 4).dep ≤ 50)) ∧ Q1 (.bl (false ^^ D.eqv ((D.ref a).rd S2 4) ((D.ref b).rd S2 4))) S2
      rw [r1, r2, eqv_flI, Bool.false_xor]
      refine ⟨⟨pl _, pl _, .inl (dp _)⟩, ?_⟩
      have := h1 S2 (x1.trans x2)
      unfold alB at this
      rwa [decide_eq_true e, Bool.true_and] at this
    · have := h1 S (Ext.refl S)
      unfold alB at this
      rwa [decide_eq_false e, Bool.false_and] at this
  refine dueQ _ fun S1 x1 => ?_
  repeat walk_at "d"
  refine alike_spec hp.1 hq.1 fun S2 x2 => ?_
  repeat walk_at "d"
  refine same_spec (m := 1) True.intro fun S3 x3 => ?_
  have X3 := (x1.trans x2).trans x3
  have main : ∀ (a : Addr) (xs : List D) (o4 : Option D) S4, (∀ x ∈ xs, Asked x) → a ≠ d → S4 a = some (.lst xs) → But d S S4 → Drw S4 d → (dSeq (dFor (dIter (dVar 5)) (dgName 4) (dSeq (dAsg (dCall (sem fs (n + 11) 17) (dCons (dVar 1) (dCons (dVar 4) dNil))) (dgName 6))
    (dSeq (dIf (dNot (dTb (dCall (sem fs (n + 11) 11) (dCons (dCall (sem fs (n + 11) 7) (dCons (dVar 1) (dCons (dVar 2) (dCons (dVar 4) dNil)))) (dCons (dOp (oEq true) (dVar 6) (dCall (sem fs (n + 11) 17) (dCons (dVar 2) (dCons (dVar 4) dNil)))) dNil))))) (dRet (dC (.bl false))) dNext)
    (dIf (dNot (dTb (dCall (sem fs (n + 11) 11) (dCons (dLst (dCons (dCall (sem fs (n + 11) 2) (dCons (dVar 1) (dCons (dVar 4) dNil))) (dCons (dCall (sem fs (n + 11) 2) (dCons (dVar 2) (dCons (dVar 4) dNil))) dNil))) (dCons (dLst (dCons (dVar 6) (dCons (dCall (sem fs (n + 11) 17) (dCons (dVar 2) (dCons (dVar 4) dNil))) dNil))) dNil))))) (dRet (dC (.bl false))) dNext))))
  (dRet (dC (.bl true)))) { nx := fun _ S' => Q .non S', rt := Q, bk := fun _ _ => False, ct := fun _ _ => False } [some (.ref d), some p.d, some q.d, some (.bl (alB p q)), o4, some (.ref a), none] S4 := by
    intro a xs o4 S4 hxs nad e4 b4 d4
    repeat walk_at "d"
    refine for_inv (fun j δ S5 => ∃ o4 o6, δ = [some (.ref d), some p.d, some q.d, some (.bl (alB p q)), o4, some (.ref a), o6] ∧ S5 a = some (.lst xs) ∧ But d S S5 ∧ Drw S5 d) ⟨_, _, rfl, e4, b4, d4⟩ (fun _ _ _ _ ⟨_, _, _, e, _⟩ => seq_ref e) ?_ ?_
    · rintro j x δ S5 nx hx hj ⟨o4, o6, rfl, e5, b5, d5⟩ hnx
      obtain ⟨ss, rfl, hss⟩ := hxs x (List.mem_of_getElem? hx)
      repeat walk_at "d"
      refine lretried_spec hp.1 fun S6 x6 => ?_
      repeat walk_at "d"
      refine run_judge_parting_series ?_
      unfold b_7
      repeat walk_at "d"
      refine retried_spec hp.1 fun S7 x7 => ?_
      repeat walk_at "d"
      refine retried_spec hq.1 fun S8 x8 => ?_
      refine o_eqPl (res_pl hp.1 hss) (res_pl hq.1 hss) (by decide) ?_
      repeat walk_at "d"
      refine lretried_spec hq.1 fun S9 x9 => ?_
      refine o_eqPl (res_pl hp.1 hss) (res_pl hq.1 hss) (by decide) ?_
      repeat walk_at "d"
      refine same_spec (m := 1) True.intro fun S10 x10 => ?_
      have X10 := (((x6.trans x7).trans x8).trans x9).trans x10
      repeat walk_at "d"
      refine retried_spec hp.1 fun S11 x11 => ?_
      repeat walk_at "d"
      refine retried_spec hq.1 fun S12 x12 => ?_
      repeat walk_at "d"
      refine i_newL fun r1 S13 n13 e13 x13 => ?_
      repeat walk_at "d"
      refine lretried_spec hq.1 fun S14 x14 => ?_
      repeat walk_at "d"
      refine i_newL fun r2 S15 n15 e15 x15 => ?_
      repeat walk_at "d"
      refine sameL_spec (m := 7) (x15.get (x14.get e13)) e15 (Nat.le_of_ble_eq_true rfl) (fun x hx => ?_) fun S16 x16 => ?_
      · simp only [List.mem_cons, List.not_mem_nil, or_false] at hx
        rcases hx with rfl | rfl
        · exact res_pl hp.1 hss
        · exact res_pl hq.1 hss
      have X16 := (((((X10.trans x11).trans x12).trans x13).trans x14).trans x15).trans x16
      repeat walk_at "d"
      exact hnx _ _ ⟨_, _, rfl, X16.get e5, b5.ext X16, d5.ext X16⟩
    · rintro δ S5 ⟨o4, o6, rfl, e5, b5, d5⟩
      repeat walk_at "d"
      exact h S5 b5 d5
  repeat walk_at "d"
  have askd : ∀ (Q1 : DK) S4 (δ : DL.Loc), δ[0]? = some (some (.ref d)) → δ[1]? = some (some p.d) → δ[2]? = some (some q.d) → But d S S4 → Drw S4 d → (∀ a xs S5, (∀ x ∈ xs, Asked x) → xs.length ≤ 3 → a ≠ d → S5 a = some (.lst xs) → But d S S5 → Drw S5 d → Q1 (.ref a) S5) → dOp oAdd (dLst (dCons (dCall (sem fs (n + 11) 20) (dCons (dVar 0) (dCons (dC (.int 5)) dNil))) (dCons (dCall (sem fs (n + 11) 23) (dCons (dVar 1) (dCons (dVar 2) dNil))) dNil))) (dLst (dCons (dTup dNil) dNil)) δ S4 Q1 := by
    intro Q1 S4 δ c0 c1 c2 b4 d4 h1
    refine i_op (i_lst (i_cons (i_call (i_cons (i_var c0 (i_cons (i_c (i_nil ?_))))))))
    refine series_spec d4 fun ss S5 hss b5 d5 => ?_
    refine i_cons (i_call (i_cons (i_var c1 (i_cons (i_var c2 (i_nil ?_))))))
    refine own_spec hp hq fun st S6 hst x6 => ?_
    have d6 := d5.ext x6
    repeat walk_at "d"
    refine i_newL fun r1 S7 n7 e7 x7 => ?_
    repeat walk_at "d"
    refine i_newL fun r2 S8 n8 e8 x8 => ?_
    refine o_addL (x8.get e7) e8 (Nat.le_of_ble_eq_true rfl) (i_newL fun a S9 n9 e9 x9 => ?_)
    refine h1 a _ S9 (fun x hx => ?_) (Nat.le_of_ble_eq_true rfl) (((d6.ext x7).ext x8).ne' n9) e9 (((((b4.trans b5).ext x6).ext x7).ext x8).ext x9) (((d6.ext x7).ext x8).ext x9)
    simp only [List.cons_append, List.nil_append, List.mem_cons, List.not_mem_nil, or_false] at hx
    rcases hx with rfl | rfl | rfl
    · exact ⟨ss, rfl, hss⟩
    · exact ⟨st, rfl, hst⟩
    · exact ⟨[], rfl, fun e he => by cases he⟩
  refine parting_spec hp hq (fun e S4 x4 => ?_) (fun e ss S4 hpart x4 => ?_)
  · rw [e] at main ⊢
    refine i_gname rfl ?_
    refine i_seq (i_asg (askd _ S4 _ rfl rfl rfl (X3.trans x4).toBut (hd.ext (X3.trans x4)) fun a xs S5 hxs _ nad e5 b5 d5 => ?_))
    refine i_gname rfl ?_
    refine i_seq (i_if (i_tb (i_var rfl (i_asB (ite_t ?_)))))
    refine i_if ?_
    repeat walk_at "d"
    refine ite_f (i_next ?_)
    exact main a xs _ S5 hxs nad e5 b5 d5
  · rw [e] at main ⊢
    obtain ⟨hp1, hp2, hp3⟩ := hpart
    have hok : SrOk ss := fun e he => (hp2 e he).2
    refine i_gname rfl ?_
    refine i_seq (i_asg (askd _ S4 _ rfl rfl rfl (X3.trans x4).toBut (hd.ext (X3.trans x4)) fun a xs S5 hxs hlx nad e5 b5 d5 => ?_))
    refine i_gname rfl ?_
    refine i_seq (i_if (i_tb (i_var rfl (i_asB (ite_f ?_)))))
    show dSeq _ _ _ [some (.ref d), some p.d, some q.d, some (.bl false), some (.tup (serD ss)), some (.ref a), none] S5
    repeat walk_at "d"
    refine isser_spec hp1 hp2 ?_
    repeat walk_at "d"
    refine lretried_spec hp.1 fun S6 x6 => ?_
    repeat walk_at "d"
    refine lretried_spec hq.1 fun S7 x7 => ?_
    refine o_eqPl (res_pl hp.1 hok) (res_pl hq.1 hok) (by decide) ?_
    rw [hp3, Bool.false_xor]
    have e7 := x7.get (x6.get e5)
    have d7 := (d5.ext x6).ext x7
    repeat walk_at "d"
    rw [cut_ser]
    repeat walk_at "d"
    refine own_spec hp hq fun st S8 hst x8 => ?_
    repeat walk_at "d"
    rw [cut_ser]
    have e8 := x8.get e7
    have d8 := d7.ext x8
    repeat walk_at "d"
    refine i_newL fun r1 S9 n9 e9 x9 => ?_
    refine o_addL (x9.get e8) e9 (by simp only [List.length_cons, List.length_nil]; omega) (i_newL fun b S10 n10 e10 x10 => ?_)
    refine i_gname rfl ?_
    refine main b _ _ S10 (fun x hx => ?_) ((d8.ext x9).ne' n10) e10 (((((b5.ext x6).ext x7).ext x8).ext x9).ext x10) ((d8.ext x9).ext x10)
    rcases List.mem_append.mp hx with q1 | q1
    · exact hxs x q1
    · simp only [List.mem_cons, List.not_mem_nil, or_false] at q1
      rcases q1 with rfl | rfl | rfl
      · exact ⟨ss, rfl, hok⟩
      · exact ⟨_, rfl, cut_ok hok⟩
      · exact ⟨_, rfl, cut_ok hst⟩
theorem law_ok : ∀ ns : List Int, ns.length ≤ 63 → sem fs 60 27 [.fl (ns.map D.int)] (fun _ => none) fun d _ => d = .bl true := by
  intro ns _
  refine run_law ?_
  unfold b_27
  repeat walk_at "d"
  refine draws_spec (by decide) fun d S1 _ _ d1 => ?_
  repeat walk_at "d"
  refine i_rng1V (by decide) (for_inv (fun j δ S2 => ∃ o2 o3 o4 o5, δ = [some (.fl (ns.map D.int)), some (.ref d), o2, o3, o4, o5] ∧ Drw S2 d) ⟨none, none, none, none, rfl, d1⟩ (fun _ _ _ _ _ => True.intro) ?_ ?_)
  · rintro j x δ S2 nx hx hj ⟨o2, o3, o4, o5, rfl, d2⟩ hnx
    obtain ⟨rfl, hjm⟩ := rng_at hx
    have hj2 : j < 2 := hjm
    repeat walk_at "d"
    refine i_newL fun r S3 n3 e3 x3 => ?_
    repeat walk_at "d"
    obtain ⟨mm, hat, hm1, hm2⟩ : ∃ mm : Int, L2.atI [D.int 20, D.int 500] (0 + (j : Int)) = some (.int mm) ∧ 1 ≤ mm ∧ mm ≤ 500 := by
      match j, hj2 with
      | 0, _ => exact ⟨20, rfl, by decide, by decide⟩
      | 1, _ => exact ⟨500, rfl, by decide, by decide⟩
    refine o_ixL e3 hat ?_
    repeat walk_at "d"
    refine plan_spec ⟨hm1, hm2⟩ (d2.ext x3) fun p S4 hp _ _ d4 => ?_
    repeat walk_at "d"
    refine take_spec d4 (by decide) fun k S5 _ _ _ d5 => ?_
    have main : ∀ (p : Pn) S6, Pd p → Drw S6 d → (dSeq (dAsg (dCall (sem fs 59 25) (dCons (dVar 1) (dCons (dVar 3) dNil))) (dgName 4))
      (dSeq (dFor (dRng1 (dCons (dC (.int 5)) dNil)) (dgName 5) (dIf (dNot (dTb (dCall (sem fs 59 26) (dCons (dVar 1) (dCons (dCall (sem fs 59 10) (dCons (dVar 1) (dCons (dVar 4) dNil))) (dCons (dCall (sem fs 59 10) (dCons (dVar 1) (dCons (dVar 4) dNil))) dNil)))))) (dRet (dC (.bl false))) dNext))
      (dIf (dOr (dNot (dTb (dCall (sem fs 59 26) (dCons (dVar 1) (dCons (dOp oIx (dVar 4) (dC (.int 0))) (dCons (dOp oIx (dVar 4) (dC (.int 1))) dNil)))))) (dNot (dTb (dCall (sem fs 59 26) (dCons (dVar 1) (dCons (dCall (sem fs 59 19) (dCons (dVar 1) (dCons (dC (.int 6)) dNil))) (dCons (dVar 3) dNil))))))) (dRet (dC (.bl false))) dNext)))
        ⟨nx, fun d _ => d = .bl true, fun δ S => dRet (dC (.bl true)) { nx := fun _ S' => (D.non : D) = .bl true, rt := fun d _ => d = .bl true, bk := fun _ _ => False, ct := fun _ _ => False } δ S, nx⟩ [some (.fl (ns.map D.int)), some (.ref d), some (.int (0 + (j : Int))), some p.d, o4, o5] S6 := by
      intro p S6 hp d6
      repeat walk_at "d"
      refine twins_spec d6 hp fun a xs S7 hxs hl e7 nad b7 d7 => ?_
      have hne : xs ≠ [] := fun e => by subst e; exact absurd hl (by decide)
      repeat walk_at "d"
      refine i_rng1V (by decide) (for_inv (fun i δ S8 => ∃ o5, δ = [some (.fl (ns.map D.int)), some (.ref d), some (.int (0 + (j : Int))), some p.d, some (.ref a), o5] ∧ S8 a = some (.lst xs) ∧ Drw S8 d) ⟨_, rfl, e7, d7⟩ (fun _ _ _ _ _ => True.intro) ?_ ?_)
      · rintro i y δ S8 nx' hy hi ⟨o5, rfl, e8, d8⟩ hnx'
        repeat walk_at "d"
        refine pick_spec d8 e8 hne nad fun v S9 hv b9 d9 => ?_
        obtain ⟨p1, rfl, hp1⟩ := hxs v hv
        have e9 := b9.get nad e8
        repeat walk_at "d"
        refine pick_spec d9 e9 hne nad fun v S10 hv b10 d10 => ?_
        obtain ⟨p2, rfl, hp2⟩ := hxs v hv
        have e10 := b10.get nad e9
        repeat walk_at "d"
        refine goes_spec d10 hp1 hp2 fun S11 b11 d11 => ?_
        repeat walk_at "d"
        exact hnx' _ _ ⟨_, rfl, b11.get nad e10, d11⟩
      · rintro δ S8 ⟨o5, rfl, e8, d8⟩
        obtain ⟨x0, x1, rest, rfl⟩ : ∃ x0 x1 rest, xs = x0 :: x1 :: rest := by
          match xs, hl with
          | x0 :: x1 :: rest, _ => exact ⟨x0, x1, rest, rfl⟩
        obtain ⟨p0, rfl, hp0⟩ := hxs x0 (List.mem_cons_self ..)
        obtain ⟨p1, rfl, hp1⟩ := hxs x1 (List.mem_cons_of_mem _ (List.mem_cons_self ..))
        repeat walk_at "d"
        refine o_ixL (v := p0.d) e8 (atI_at (j := 0) rfl rfl) ?_
        repeat walk_at "d"
        refine o_ixL (v := p1.d) e8 (atI_at (j := 1) rfl rfl) ?_
        repeat walk_at "d"
        refine goes_spec d8 hp0 hp1 fun S11 b11 d11 => ?_
        repeat walk_at "d"
        refine plan_spec (by decide) d11 fun q S12 hq _ _ d12 => ?_
        repeat walk_at "d"
        refine goes_spec d12 hq.pk hp.pk fun S13 b13 d13 => ?_
        repeat walk_at "d"
        exact hnx _ _ ⟨_, _, _, _, rfl, d13⟩
    repeat walk_at "d"
    refine ite_dec (fun _ => ?_) (fun _ => ?_)
    · repeat walk_at "d"
      refine o_ixT (v := .int p.many) rfl ?_
      repeat walk_at "d"
      obtain ⟨h1, _⟩ := id hp
      refine o_mulT (by simp) (by omega) (by omega) (Nat.le_of_ble_eq_true rfl) ?_
      rw [Int.toNat_natCast, ser_rep]
      repeat walk_at "d"
      refine limited_spec d5 hp fun p' S6 hp' _ d6 => ?_
      refine i_gname rfl ?_
      exact main p' S6 hp' d6
    · refine i_next ?_
      exact main p S5 hp d5
  · rintro δ S2 ⟨o2, o3, o4, o5, rfl, d2⟩
    repeat walk_at "d"
    rfl
end Gk80
namespace Gk80
open PySem PySem.Spec PyProof.Rows L2 DL
def top (i : Nat) : Stmt := PySem.Challenge.pw_promiseskept_k80_whole_plans_alike_or_pa.main.body.getD i (.Pass ⟨0, 0, 0, 0⟩)
abbrev s_0 : Stmt := top 3
abbrev N_0 : List Str := ["plan", "many", "first", "factor", "most", "limit", "waits", "_"]
abbrev P_0 : List Str := ["plan"]
theorem sc_0 : FnScope N_0 P_0 (defScope s_0) := ⟨rfl, rfl, rfl, by decide +kernel, rfl, by decide +kernel, by decide +kernel⟩
abbrev s_1 : Stmt := top 4
abbrev N_1 : List Str := ["time", "limit"]
abbrev P_1 : List Str := ["time", "limit"]
theorem sc_1 : FnScope N_1 P_1 (defScope s_1) := ⟨rfl, rfl, rfl, by decide +kernel, rfl, by decide +kernel, by decide +kernel⟩
abbrev s_2 : Stmt := top 5
abbrev N_2 : List Str := ["plan", "series", "many", "first", "factor", "most", "limit", "waits", "begins", "now", "made", "cost", "outcome"]
abbrev P_2 : List Str := ["plan", "series"]
theorem sc_2 : FnScope N_2 P_2 (defScope s_2) := ⟨rfl, rfl, rfl, by decide +kernel, rfl, by decide +kernel, by decide +kernel⟩
abbrev s_3 : Stmt := top 6
abbrev N_3 : List Str := ["many", "c", "_"]
abbrev P_3 : List Str := ["many", "c"]
theorem sc_3 : FnScope N_3 P_3 (defScope s_3) := ⟨rfl, rfl, rfl, by decide +kernel, rfl, by decide +kernel, by decide +kernel⟩
abbrev s_4 : Stmt := top 7
abbrev N_4 : List Str := ["plan", "found", "total", "wait"]
abbrev P_4 : List Str := ["plan"]
theorem sc_4 : FnScope N_4 P_4 (defScope s_4) := ⟨rfl, rfl, rfl, by decide +kernel, rfl, by decide +kernel, by decide +kernel⟩
abbrev s_5 : Stmt := top 8
abbrev N_5 : List Str := ["one", "other"]
abbrev P_5 : List Str := ["one", "other"]
theorem sc_5 : FnScope N_5 P_5 (defScope s_5) := ⟨rfl, rfl, rfl, by decide +kernel, rfl, by decide +kernel, by decide +kernel⟩
abbrev s_6 : Stmt := top 9
abbrev N_6 : List Str := ["one", "other", "limits", "limit", "first", "second", "alike"]
abbrev P_6 : List Str := ["one", "other"]
theorem sc_6 : FnScope N_6 P_6 (defScope s_6) := ⟨rfl, rfl, rfl, by decide +kernel, rfl, by decide +kernel, by decide +kernel⟩
abbrev s_7 : Stmt := top 10
abbrev N_7 : List Str := ["one", "other", "series"]
abbrev P_7 : List Str := ["one", "other", "series"]
theorem sc_7 : FnScope N_7 P_7 (defScope s_7) := ⟨rfl, rfl, rfl, by decide +kernel, rfl, by decide +kernel, by decide +kernel⟩
abbrev s_8 : Stmt := top 12
abbrev N_8 : List Str := ["script", "many", "cells", "cell", "left", "draws", "k", "place", "mixed"]
abbrev P_8 : List Str := ["script", "many"]
theorem sc_8 : FnScope N_8 P_8 (defScope s_8) := ⟨rfl, rfl, rfl, by decide +kernel, rfl, by decide +kernel, by decide +kernel⟩
abbrev s_9 : Stmt := top 13
abbrev N_9 : List Str := ["draws", "many"]
abbrev P_9 : List Str := ["draws", "many"]
theorem sc_9 : FnScope N_9 P_9 (defScope s_9) := ⟨rfl, rfl, rfl, by decide +kernel, rfl, by decide +kernel, by decide +kernel⟩
abbrev s_10 : Stmt := top 14
abbrev N_10 : List Str := ["draws", "row"]
abbrev P_10 : List Str := ["draws", "row"]
theorem sc_10 : FnScope N_10 P_10 (defScope s_10) := ⟨rfl, rfl, rfl, by decide +kernel, rfl, by decide +kernel, by decide +kernel⟩
abbrev s_11 : Stmt := top 15
abbrev N_11 : List Str := ["actual", "due", "k"]
abbrev P_11 : List Str := ["actual", "due"]
theorem sc_11 : FnScope N_11 P_11 (defScope s_11) := ⟨rfl, rfl, rfl, by decide +kernel, rfl, by decide +kernel, by decide +kernel⟩
abbrev s_12 : Stmt := top 16
abbrev N_12 : List Str := ["thing"]
abbrev P_12 : List Str := ["thing"]
theorem sc_12 : FnScope N_12 P_12 (defScope s_12) := ⟨rfl, rfl, rfl, by decide +kernel, rfl, by decide +kernel, by decide +kernel⟩
abbrev s_13 : Stmt := top 17
abbrev N_13 : List Str := ["draws", "size", "j"]
abbrev P_13 : List Str := ["draws"]
theorem sc_13 : FnScope N_13 P_13 (defScope s_13) := ⟨rfl, rfl, rfl, by decide +kernel, rfl, by decide +kernel, by decide +kernel⟩
abbrev s_14 : Stmt := top 18
abbrev N_14 : List Str := ["draws"]
abbrev P_14 : List Str := ["draws"]
theorem sc_14 : FnScope N_14 P_14 (defScope s_14) := ⟨rfl, rfl, rfl, by decide +kernel, rfl, by decide +kernel, by decide +kernel⟩
abbrev s_15 : Stmt := top 19
abbrev N_15 : List Str := ["draws", "kind", "row", "k"]
abbrev P_15 : List Str := ["draws"]
theorem sc_15 : FnScope N_15 P_15 (defScope s_15) := ⟨rfl, rfl, rfl, by decide +kernel, rfl, by decide +kernel, by decide +kernel⟩
abbrev s_16 : Stmt := top 20
abbrev N_16 : List Str := ["plan", "many", "first", "factor", "most", "limit", "told", "wait", "k"]
abbrev P_16 : List Str := ["plan"]
theorem sc_16 : FnScope N_16 P_16 (defScope s_16) := ⟨rfl, rfl, rfl, by decide +kernel, rfl, by decide +kernel, by decide +kernel⟩
abbrev s_17 : Stmt := top 21
abbrev N_17 : List Str := ["plan", "series", "many", "limit", "waits", "begins", "time", "k", "end", "outcome"]
abbrev P_17 : List Str := ["plan", "series"]
theorem sc_17 : FnScope N_17 P_17 (defScope s_17) := ⟨rfl, rfl, rfl, by decide +kernel, rfl, by decide +kernel, by decide +kernel⟩
abbrev s_18 : Stmt := top 22
abbrev N_18 : List Str := ["draws"]
abbrev P_18 : List Str := ["draws"]
theorem sc_18 : FnScope N_18 P_18 (defScope s_18) := ⟨rfl, rfl, rfl, by decide +kernel, rfl, by decide +kernel, by decide +kernel⟩
abbrev s_19 : Stmt := top 23
abbrev N_19 : List Str := ["draws", "most_many", "many"]
abbrev P_19 : List Str := ["draws", "most_many"]
theorem sc_19 : FnScope N_19 P_19 (defScope s_19) := ⟨rfl, rfl, rfl, by decide +kernel, rfl, by decide +kernel, by decide +kernel⟩
abbrev s_20 : Stmt := top 24
abbrev N_20 : List Str := ["draws", "many", "told", "k", "kind", "outcome"]
abbrev P_20 : List Str := ["draws", "many"]
theorem sc_20 : FnScope N_20 P_20 (defScope s_20) := ⟨rfl, rfl, rfl, by decide +kernel, rfl, by decide +kernel, by decide +kernel⟩
abbrev s_21 : Stmt := top 25
abbrev N_21 : List Str := ["draws", "plan", "series", "begins", "k", "time", "limit"]
abbrev P_21 : List Str := ["draws", "plan", "series"]
theorem sc_21 : FnScope N_21 P_21 (defScope s_21) := ⟨rfl, rfl, rfl, by decide +kernel, rfl, by decide +kernel, by decide +kernel⟩
abbrev s_22 : Stmt := top 26
abbrev N_22 : List Str := ["plan", "told", "total", "wait"]
abbrev P_22 : List Str := ["plan"]
theorem sc_22 : FnScope N_22 P_22 (defScope s_22) := ⟨rfl, rfl, rfl, by decide +kernel, rfl, by decide +kernel, by decide +kernel⟩
abbrev s_23 : Stmt := top 27
abbrev N_23 : List Str := ["one", "other", "limits", "plan"]
abbrev P_23 : List Str := ["one", "other"]
theorem sc_23 : FnScope N_23 P_23 (defScope s_23) := ⟨rfl, rfl, rfl, by decide +kernel, rfl, by decide +kernel, by decide +kernel⟩
abbrev s_24 : Stmt := top 28
abbrev N_24 : List Str := ["thing", "attempt"]
abbrev P_24 : List Str := ["thing"]
theorem sc_24 : FnScope N_24 P_24 (defScope s_24) := ⟨rfl, rfl, rfl, by decide +kernel, rfl, by decide +kernel, by decide +kernel⟩
abbrev s_25 : Stmt := top 29
abbrev N_25 : List Str := ["draws", "plan", "many", "first", "factor", "most", "limit", "told", "sums"]
abbrev P_25 : List Str := ["draws", "plan"]
theorem sc_25 : FnScope N_25 P_25 (defScope s_25) := ⟨rfl, rfl, rfl, by decide +kernel, rfl, by decide +kernel, by decide +kernel⟩
abbrev s_26 : Stmt := top 30
abbrev N_26 : List Str := ["draws", "one", "other", "due", "series", "asked", "there"]
abbrev P_26 : List Str := ["draws", "one", "other"]
theorem sc_26 : FnScope N_26 P_26 (defScope s_26) := ⟨rfl, rfl, rfl, by decide +kernel, rfl, by decide +kernel, by decide +kernel⟩
abbrev s_27 : Stmt := top 31
abbrev N_27 : List Str := ["script", "draws", "k", "plan", "twins", "j"]
abbrev P_27 : List Str := ["script"]
theorem sc_27 : FnScope N_27 P_27 (defScope s_27) := ⟨rfl, rfl, rfl, by decide +kernel, rfl, by decide +kernel, by decide +kernel⟩
structure Txt (K : PySem.W.Frag) (mg : Str → Option Value) where
  f : Nat → Addr
  fd : Nat → FuncData
  F0 : Fun K "retry_waits" "retry_waits" s_0 (f 0) (fd 0)
  b0 : Binds K (fd 0) P_0 []
  m0 : mg "retry_waits" = some (.ref (f 0))
  F1 : Fun K "is_behind" "is_behind" s_1 (f 1) (fd 1)
  b1 : Binds K (fd 1) P_1 []
  m1 : mg "is_behind" = some (.ref (f 1))
  F2 : Fun K "retried" "retried" s_2 (f 2) (fd 2)
  b2 : Binds K (fd 2) P_2 []
  m2 : mg "retried" = some (.ref (f 2))
  F3 : Fun K "bad_series" "bad_series" s_3 (f 3) (fd 3)
  b3 : Binds K (fd 3) P_3 []
  m3 : mg "bad_series" = some (.ref (f 3))
  F4 : Fun K "counting_waits" "counting_waits" s_4 (f 4) (fd 4)
  b4 : Binds K (fd 4) P_4 []
  m4 : mg "counting_waits" = some (.ref (f 4))
  F5 : Fun K "plans_alike" "plans_alike" s_5 (f 5) (fd 5)
  b5 : Binds K (fd 5) P_5 []
  m5 : mg "plans_alike" = some (.ref (f 5))
  F6 : Fun K "parting_series" "parting_series" s_6 (f 6) (fd 6)
  b6 : Binds K (fd 6) P_6 []
  m6 : mg "parting_series" = some (.ref (f 6))
  F7 : Fun K "judge_parting_series" "judge_parting_series" s_7 (f 7) (fd 7)
  b7 : Binds K (fd 7) P_7 []
  m7 : mg "judge_parting_series" = some (.ref (f 7))
  F8 : Fun K "_law_draws" "_law_draws" s_8 (f 8) (fd 8)
  b8 : Binds K (fd 8) P_8 []
  m8 : mg "_law_draws" = some (.ref (f 8))
  F9 : Fun K "_law_take" "_law_take" s_9 (f 9) (fd 9)
  b9 : Binds K (fd 9) P_9 []
  m9 : mg "_law_take" = some (.ref (f 9))
  F10 : Fun K "_law_pick" "_law_pick" s_10 (f 10) (fd 10)
  b10 : Binds K (fd 10) P_10 []
  m10 : mg "_law_pick" = some (.ref (f 10))
  F11 : Fun K "_law_same" "_law_same" s_11 (f 11) (fd 11)
  b11 : Binds K (fd 11) P_11 []
  m11 : mg "_law_same" = some (.ref (f 11))
  F12 : Fun K "_law_is_int" "_law_is_int" s_12 (f 12) (fd 12)
  b12 : Binds K (fd 12) P_12 []
  m12 : mg "_law_is_int" = some (.ref (f 12))
  F13 : Fun K "_law_word" "_law_word" s_13 (f 13) (fd 13)
  b13 : Binds K (fd 13) P_13 []
  m13 : mg "_law_word" = some (.ref (f 13))
  F14 : Fun K "_law_number" "_law_number" s_14 (f 14) (fd 14)
  b14 : Binds K (fd 14) P_14 []
  m14 : mg "_law_number" = some (.ref (f 14))
  F15 : Fun K "_law_value" "_law_value" s_15 (f 15) (fd 15)
  b15 : Binds K (fd 15) P_15 []
  m15 : mg "_law_value" = some (.ref (f 15))
  F16 : Fun K "_law_waits" "_law_waits" s_16 (f 16) (fd 16)
  b16 : Binds K (fd 16) P_16 []
  m16 : mg "_law_waits" = some (.ref (f 16))
  F17 : Fun K "_law_retried" "_law_retried" s_17 (f 17) (fd 17)
  b17 : Binds K (fd 17) P_17 []
  m17 : mg "_law_retried" = some (.ref (f 17))
  F18 : Fun K "_law_length" "_law_length" s_18 (f 18) (fd 18)
  b18 : Binds K (fd 18) P_18 []
  m18 : mg "_law_length" = some (.ref (f 18))
  F19 : Fun K "_law_plan" "_law_plan" s_19 (f 19) (fd 19)
  b19 : Binds K (fd 19) P_19 []
  m19 : mg "_law_plan" = some (.ref (f 19))
  F20 : Fun K "_law_series" "_law_series" s_20 (f 20) (fd 20)
  b20 : Binds K (fd 20) P_20 []
  m20 : mg "_law_series" = some (.ref (f 20))
  F21 : Fun K "_law_limited" "_law_limited" s_21 (f 21) (fd 21)
  b21 : Binds K (fd 21) P_21 []
  m21 : mg "_law_limited" = some (.ref (f 21))
  F22 : Fun K "_law_counted" "_law_counted" s_22 (f 22) (fd 22)
  b22 : Binds K (fd 22) P_22 []
  m22 : mg "_law_counted" = some (.ref (f 22))
  F23 : Fun K "_law_own_series" "_law_own_series" s_23 (f 23) (fd 23)
  b23 : Binds K (fd 23) P_23 []
  m23 : mg "_law_own_series" = some (.ref (f 23))
  F24 : Fun K "_law_is_series" "_law_is_series" s_24 (f 24) (fd 24)
  b24 : Binds K (fd 24) P_24 []
  m24 : mg "_law_is_series" = some (.ref (f 24))
  F25 : Fun K "_law_twins" "_law_twins" s_25 (f 25) (fd 25)
  b25 : Binds K (fd 25) P_25 []
  m25 : mg "_law_twins" = some (.ref (f 25))
  F26 : Fun K "_law_goes" "_law_goes" s_26 (f 26) (fd 26)
  b26 : Binds K (fd 26) P_26 []
  m26 : mg "_law_goes" = some (.ref (f 26))
  F27 : Fun K "law" "law" s_27 (f 27) (fd 27)
  b27 : Binds K (fd 27) P_27 []
  m27 : mg "law" = some (.ref (f 27))
  z_bool : mg "bool" = none
  z_int : mg "int" = none
  z_isinstance : mg "isinstance" = none
  z_len : mg "len" = none
  z_list : mg "list" = none
  z_max : mg "max" = none
  z_min : mg "min" = none
  z_range : mg "range" = none
  z_str : mg "str" = none
  z_sum : mg "sum" = none
  z_tuple : mg "tuple" = none
  g_LATE : GlobD K mg "LATE" (.tup [(.str "bad"), (.str "late")])
  g_CALM_WORD : GlobD K mg "CALM_WORD" (.str "x")
structure IH {K : PySem.W.Frag} {mg : Str → Option Value} (P : Program) (w : World) (base : Heap) (T : Txt K mg) (n : Nat) : Prop where
  o0 : FnOk P w K mg base CX0 n (T.f 0) (T.fd 0) P_0 (liftF K (fs 0).np (sem fs n 0))
  o1 : FnOk P w K mg base CX0 n (T.f 1) (T.fd 1) P_1 (liftF K (fs 1).np (sem fs n 1))
  o2 : FnOk P w K mg base CX0 n (T.f 2) (T.fd 2) P_2 (liftF K (fs 2).np (sem fs n 2))
  o3 : FnOk P w K mg base CX0 n (T.f 3) (T.fd 3) P_3 (liftF K (fs 3).np (sem fs n 3))
  o4 : FnOk P w K mg base CX0 n (T.f 4) (T.fd 4) P_4 (liftF K (fs 4).np (sem fs n 4))
  o5 : FnOk P w K mg base CX0 n (T.f 5) (T.fd 5) P_5 (liftF K (fs 5).np (sem fs n 5))
  o6 : FnOk P w K mg base CX0 n (T.f 6) (T.fd 6) P_6 (liftF K (fs 6).np (sem fs n 6))
  o7 : FnOk P w K mg base CX0 n (T.f 7) (T.fd 7) P_7 (liftF K (fs 7).np (sem fs n 7))
  o8 : FnOk P w K mg base CX0 n (T.f 8) (T.fd 8) P_8 (liftF K (fs 8).np (sem fs n 8))
  o9 : FnOk P w K mg base CX0 n (T.f 9) (T.fd 9) P_9 (liftF K (fs 9).np (sem fs n 9))
  o10 : FnOk P w K mg base CX0 n (T.f 10) (T.fd 10) P_10 (liftF K (fs 10).np (sem fs n 10))
  o11 : FnOk P w K mg base CX0 n (T.f 11) (T.fd 11) P_11 (liftF K (fs 11).np (sem fs n 11))
  o12 : FnOk P w K mg base CX0 n (T.f 12) (T.fd 12) P_12 (liftF K (fs 12).np (sem fs n 12))
  o13 : FnOk P w K mg base CX0 n (T.f 13) (T.fd 13) P_13 (liftF K (fs 13).np (sem fs n 13))
  o14 : FnOk P w K mg base CX0 n (T.f 14) (T.fd 14) P_14 (liftF K (fs 14).np (sem fs n 14))
  o15 : FnOk P w K mg base CX0 n (T.f 15) (T.fd 15) P_15 (liftF K (fs 15).np (sem fs n 15))
  o16 : FnOk P w K mg base CX0 n (T.f 16) (T.fd 16) P_16 (liftF K (fs 16).np (sem fs n 16))
  o17 : FnOk P w K mg base CX0 n (T.f 17) (T.fd 17) P_17 (liftF K (fs 17).np (sem fs n 17))
  o18 : FnOk P w K mg base CX0 n (T.f 18) (T.fd 18) P_18 (liftF K (fs 18).np (sem fs n 18))
  o19 : FnOk P w K mg base CX0 n (T.f 19) (T.fd 19) P_19 (liftF K (fs 19).np (sem fs n 19))
  o20 : FnOk P w K mg base CX0 n (T.f 20) (T.fd 20) P_20 (liftF K (fs 20).np (sem fs n 20))
  o21 : FnOk P w K mg base CX0 n (T.f 21) (T.fd 21) P_21 (liftF K (fs 21).np (sem fs n 21))
  o22 : FnOk P w K mg base CX0 n (T.f 22) (T.fd 22) P_22 (liftF K (fs 22).np (sem fs n 22))
  o23 : FnOk P w K mg base CX0 n (T.f 23) (T.fd 23) P_23 (liftF K (fs 23).np (sem fs n 23))
  o24 : FnOk P w K mg base CX0 n (T.f 24) (T.fd 24) P_24 (liftF K (fs 24).np (sem fs n 24))
  o25 : FnOk P w K mg base CX0 n (T.f 25) (T.fd 25) P_25 (liftF K (fs 25).np (sem fs n 25))
  o26 : FnOk P w K mg base CX0 n (T.f 26) (T.fd 26) P_26 (liftF K (fs 26).np (sem fs n 26))
  o27 : FnOk P w K mg base CX0 n (T.f 27) (T.fd 27) P_27 (liftF K (fs 27).np (sem fs n 27))
section
variable {P : Program} {w : World} {K : PySem.W.Frag} {mg : Str → Option Value} {base : Heap} {n : Nat}
/- retry_waits -/
theorem w_0 (T : Txt K mg) (ih : IH P w base T n) (cdv : Value) (A : Around) (outer : List Env) (s : Shared) (H : Hp) (E : XK) (hr : Room n (A.deeper (envOfC "retry_waits" (defScope s_0) s.heap.objs.size (T.f 0) cdv))) :
    PSs (cxOf CX0 P w K mg base N_0 "retry_waits" (defScope s_0) (T.f 0) cdv A outer s H E).nox (defBody s_0) (liftS K (b_0 (sem fs n))) :=
  (qss_cons (qs_asg (qv 0) (qg_tup rfl (qgs_cons (qg_name (i := 1) sc_0.nd rfl (by first | exact Or.inl rfl | exact Or.inr rfl)) (qgs_cons (qg_name (i := 2) sc_0.nd rfl (by first | exact Or.inl rfl | exact Or.inr rfl)) (qgs_cons (qg_name (i := 3) sc_0.nd rfl (by first | exact Or.inl rfl | exact Or.inr rfl)) (qgs_cons (qg_name (i := 4) sc_0.nd rfl (by first | exact Or.inl rfl | exact Or.inr rfl)) (qgs_cons (qg_name (i := 5) sc_0.nd rfl (by first | exact Or.inl rfl | exact Or.inr rfl)) qgs_nil)))))))
  (qss_cons (qs_set (i := 6) sc_0.nd rfl (by first | exact Or.inl rfl | exact Or.inr rfl) (qe_lst qa_nil))
  (qss_cons (qs_for PassesOwn.never rfl (qi_range1 rfl T.z_range (qa_cons (qe_op dop_sub (qv 1) qi) qa_nil)) (qg_name (i := 7) sc_0.nd rfl (by first | exact Or.inl rfl | exact Or.inr rfl)) (qss_one (qs_expr (qe_bm PySem.F.plainAttrs_list PySem.F.slot_list_append PySem.F.type_list_append okLst_ty dmt_append (qv 6) (qa_cons (qe_if (qt_cmp (dop_cmp (hu100 hr) .gt) (qe_callB dcall_len rfl T.z_len (by decide +kernel) (qa_cons (qv 6) qa_nil)) qi (nomark _)) (qe_callB (dcall_min2 rfl) rfl T.z_min (by decide +kernel) (qa_cons (qv 4) (qa_cons (qe_op dop_mul (qe_ix (qv 6) (qe_un dun_neg qi) (fun _ _ => rfl)) (qv 3)) qa_nil))) (qe_callB (dcall_min2 rfl) rfl T.z_min (by decide +kernel) (qa_cons (qv 4) (qa_cons (qv 2) qa_nil)))) qa_nil)))))
  (qss_one (qs_ret (qe_callTy dcall_tuple rfl T.z_tuple (by decide +kernel) (qa_cons (qv 6) qa_nil)))))))
/- is_behind -/
theorem w_1 (T : Txt K mg) (ih : IH P w base T n) (cdv : Value) (A : Around) (outer : List Env) (s : Shared) (H : Hp) (E : XK) (hr : Room n (A.deeper (envOfC "is_behind" (defScope s_1) s.heap.objs.size (T.f 1) cdv))) :
    PSs (cxOf CX0 P w K mg base N_1 "is_behind" (defScope s_1) (T.f 1) cdv A outer s H E).nox (defBody s_1) (liftS K (b_1 (sem fs n))) :=
  (qss_one (qs_ret (qe_and (qe_cmp dop_isnot (qv 1) qn (nomark _)) (qe_one (qe_cmp (dop_cmp (hu100 hr) .gt) (qv 0) (qv 1) (nomark _))))))
/- retried -/
theorem w_2 (T : Txt K mg) (ih : IH P w base T n) (cdv : Value) (A : Around) (outer : List Env) (s : Shared) (H : Hp) (E : XK) (hr : Room n (A.deeper (envOfC "retried" (defScope s_2) s.heap.objs.size (T.f 2) cdv))) :
    PSs (cxOf CX0 P w K mg base N_2 "retried" (defScope s_2) (T.f 2) cdv A outer s H E).nox (defBody s_2) (liftS K (b_2 (sem fs n))) :=
  (qss_cons (qs_asg (qv 0) (qg_tup rfl (qgs_cons (qg_name (i := 2) sc_2.nd rfl (by first | exact Or.inl rfl | exact Or.inr rfl)) (qgs_cons (qg_name (i := 3) sc_2.nd rfl (by first | exact Or.inl rfl | exact Or.inr rfl)) (qgs_cons (qg_name (i := 4) sc_2.nd rfl (by first | exact Or.inl rfl | exact Or.inr rfl)) (qgs_cons (qg_name (i := 5) sc_2.nd rfl (by first | exact Or.inl rfl | exact Or.inr rfl)) (qgs_cons (qg_name (i := 6) sc_2.nd rfl (by first | exact Or.inl rfl | exact Or.inr rfl)) qgs_nil)))))))
  (qss_cons (qs_set (i := 7) sc_2.nd rfl (by first | exact Or.inl rfl | exact Or.inr rfl) (qe_call (sem_len (i := 0)) ih.o0 hr rfl T.m0 T.F0.kp T.b0 (qa_cons (qv 0) qa_nil)))
  (qss_cons (qs_set (i := 8) sc_2.nd rfl (by first | exact Or.inl rfl | exact Or.inr rfl) (qe_lst qa_nil))
  (qss_cons (qs_set (i := 9) sc_2.nd rfl (by first | exact Or.inl rfl | exact Or.inr rfl) qi)
  (qss_one (qs_while PassesOwn.never (qt_val qb) (qss_cons (qs_expr (qe_bm PySem.F.plainAttrs_list PySem.F.slot_list_append PySem.F.type_list_append okLst_ty dmt_append (qv 8) (qa_cons (qv 9) qa_nil)))
    (qss_cons (qs_set (i := 10) sc_2.nd rfl (by first | exact Or.inl rfl | exact Or.inr rfl) (qe_callB dcall_len rfl T.z_len (by decide +kernel) (qa_cons (qv 8) qa_nil)))
    (qss_cons (qs_if (qt_cmp (dop_cmp (hu100 hr) .gt) (qv 10) (qe_callB dcall_len rfl T.z_len (by decide +kernel) (qa_cons (qv 1) qa_nil)) (nomark _)) (qss_one (qs_ret (qe_tup (qa_cons (qe_callTy dcall_tuple rfl T.z_tuple (by decide +kernel) (qa_cons (qv 8) qa_nil)) (qa_cons (qe_if (qt_cmp dop_is (qv 6) qn (nomark _)) qn (qe_tup (qa_cons (qv 6) (qa_cons (qe_glob T.g_LATE rfl) qa_nil)))) qa_nil))))) qss_nil)
    (qss_cons (qs_asg (qe_ix (qv 1) (qe_op dop_sub (qv 10) qi) (fun _ _ => rfl)) (qg_tup rfl (qgs_cons (qg_name (i := 11) sc_2.nd rfl (by first | exact Or.inl rfl | exact Or.inr rfl)) (qgs_cons (qg_name (i := 12) sc_2.nd rfl (by first | exact Or.inl rfl | exact Or.inr rfl)) qgs_nil))))
    (qss_cons (qs_if (qt_val (qe_call (sem_len (i := 1)) ih.o1 hr rfl T.m1 T.F1.kp T.b1 (qa_cons (qe_op dop_add (qv 9) (qv 11)) (qa_cons (qv 6) qa_nil)))) (qss_one (qs_ret (qe_tup (qa_cons (qe_callTy dcall_tuple rfl T.z_tuple (by decide +kernel) (qa_cons (qv 8) qa_nil)) (qa_cons (qe_tup (qa_cons (qv 6) (qa_cons (qe_glob T.g_LATE rfl) qa_nil))) qa_nil))))) qss_nil)
    (qss_cons (qs_aug (i := 9) sc_2.nd rfl (by first | exact Or.inl rfl | exact Or.inr rfl) (qv 11) dip_add)
    (qss_cons (qs_if (qt_w (qw_or (qt_cmp (dop_eq (hu100 hr)) (qe_ix (qv 12) qi (fun _ _ => rfl)) qs (nomark _)) (qw_or (qt_cmp (dop_eq (hu100 hr)) (qe_ix (qv 12) qi (fun _ _ => rfl)) qs (nomark _)) (qw_or1 (qt_cmp (dop_eq (hu100 hr)) (qv 10) (qv 2) (nomark _)))))) (qss_one (qs_ret (qe_tup (qa_cons (qe_callTy dcall_tuple rfl T.z_tuple (by decide +kernel) (qa_cons (qv 8) qa_nil)) (qa_cons (qe_tup (qa_cons (qv 9) (qa_cons (qv 12) qa_nil))) qa_nil))))) qss_nil)
    (qss_cons (qs_if (qt_val (qe_call (sem_len (i := 1)) ih.o1 hr rfl T.m1 T.F1.kp T.b1 (qa_cons (qe_op dop_add (qv 9) (qe_ix (qv 7) (qe_op dop_sub (qv 10) qi) (fun _ _ => rfl))) (qa_cons (qv 6) qa_nil)))) (qss_one (qs_ret (qe_tup (qa_cons (qe_callTy dcall_tuple rfl T.z_tuple (by decide +kernel) (qa_cons (qv 8) qa_nil)) (qa_cons (qe_tup (qa_cons (qv 9) (qa_cons (qv 12) qa_nil))) qa_nil))))) qss_nil)
    (qss_one (qs_aug (i := 9) sc_2.nd rfl (by first | exact Or.inl rfl | exact Or.inr rfl) (qe_ix (qv 7) (qe_op dop_sub (qv 10) qi) (fun _ _ => rfl)) dip_add))))))))))))))))
/- bad_series -/
theorem w_3 (T : Txt K mg) (ih : IH P w base T n) (cdv : Value) (A : Around) (outer : List Env) (s : Shared) (H : Hp) (E : XK) (hr : Room n (A.deeper (envOfC "bad_series" (defScope s_3) s.heap.objs.size (T.f 3) cdv))) :
    PSs (cxOf CX0 P w K mg base N_3 "bad_series" (defScope s_3) (T.f 3) cdv A outer s H E).nox (defBody s_3) (liftS K (b_3 (sem fs n))) :=
  (qss_one (qs_ret (qe_callTy dcall_tuple rfl T.z_tuple (by decide +kernel) (qa_cons (qe_lc [("_", 2)] rfl sc_3.nd (qi_range1 rfl T.z_range (qa_cons (qv 0) qa_nil)) (okb (by kernel_rfl)) (by decide) (fun _ _ _ _ _ => (qg_name (i := 2) sc_3.nd rfl (by first | exact Or.inl rfl | exact Or.inr rfl))) (fun _ _ _ _ _ => qts_nil) (fun _ _ _ _ _ => (qe_tup (qa_cons (qv 1) (qa_cons (qe_tup (qa_cons qs (qa_cons (qe_glob T.g_CALM_WORD rfl) qa_nil))) qa_nil))))) qa_nil))))
/- counting_waits -/
theorem w_4 (T : Txt K mg) (ih : IH P w base T n) (cdv : Value) (A : Around) (outer : List Env) (s : Shared) (H : Hp) (E : XK) (hr : Room n (A.deeper (envOfC "counting_waits" (defScope s_4) s.heap.objs.size (T.f 4) cdv))) :
    PSs (cxOf CX0 P w K mg base N_4 "counting_waits" (defScope s_4) (T.f 4) cdv A outer s H E).nox (defBody s_4) (liftS K (b_4 (sem fs n))) :=
  (qss_cons (qs_set (i := 1) sc_4.nd rfl (by first | exact Or.inl rfl | exact Or.inr rfl) (qe_lst qa_nil))
  (qss_cons (qs_set (i := 2) sc_4.nd rfl (by first | exact Or.inl rfl | exact Or.inr rfl) qi)
  (qss_cons (qs_for PassesOwn.never rfl (qi_seq (qe_call (sem_len (i := 0)) ih.o0 hr rfl T.m0 T.F0.kp T.b0 (qa_cons (qv 0) qa_nil))) (qg_name (i := 3) sc_4.nd rfl (by first | exact Or.inl rfl | exact Or.inr rfl)) (qss_cons (qs_aug (i := 2) sc_4.nd rfl (by first | exact Or.inl rfl | exact Or.inr rfl) (qv 3) dip_add)
    (qss_cons (qs_if (qt_val (qe_call (sem_len (i := 1)) ih.o1 hr rfl T.m1 T.F1.kp T.b1 (qa_cons (qv 2) (qa_cons (qe_ix (qv 0) qi (fun _ _ => rfl)) qa_nil)))) (qss_one qs_break) qss_nil)
    (qss_one (qs_expr (qe_bm PySem.F.plainAttrs_list PySem.F.slot_list_append PySem.F.type_list_append okLst_ty dmt_append (qv 1) (qa_cons (qv 3) qa_nil)))))))
  (qss_one (qs_ret (qe_callTy dcall_tuple rfl T.z_tuple (by decide +kernel) (qa_cons (qv 1) qa_nil)))))))
/- plans_alike -/
theorem w_5 (T : Txt K mg) (ih : IH P w base T n) (cdv : Value) (A : Around) (outer : List Env) (s : Shared) (H : Hp) (E : XK) (hr : Room n (A.deeper (envOfC "plans_alike" (defScope s_5) s.heap.objs.size (T.f 5) cdv))) :
    PSs (cxOf CX0 P w K mg base N_5 "plans_alike" (defScope s_5) (T.f 5) cdv A outer s H E).nox (defBody s_5) (liftS K (b_5 (sem fs n))) :=
  (qss_one (qs_ret (qe_and (qe_cmp (dop_eq (hu100 hr)) (qe_ix (qv 0) qi (fun _ _ => rfl)) (qe_ix (qv 1) qi (fun _ _ => rfl)) (nomark _)) (qe_one (qe_cmp (dop_eq (hu100 hr)) (qe_call (sem_len (i := 4)) ih.o4 hr rfl T.m4 T.F4.kp T.b4 (qa_cons (qv 0) qa_nil)) (qe_call (sem_len (i := 4)) ih.o4 hr rfl T.m4 T.F4.kp T.b4 (qa_cons (qv 1) qa_nil)) (nomark _))))))
/- parting_series -/
theorem w_6 (T : Txt K mg) (ih : IH P w base T n) (cdv : Value) (A : Around) (outer : List Env) (s : Shared) (H : Hp) (E : XK) (hr : Room n (A.deeper (envOfC "parting_series" (defScope s_6) s.heap.objs.size (T.f 6) cdv))) :
    PSs (cxOf CX0 P w K mg base N_6 "parting_series" (defScope s_6) (T.f 6) cdv A outer s H E).nox (defBody s_6) (liftS K (b_6 (sem fs n))) :=
  (qss_cons (qs_if (qt_val (qe_call (sem_len (i := 5)) ih.o5 hr rfl T.m5 T.F5.kp T.b5 (qa_cons (qv 0) (qa_cons (qv 1) qa_nil)))) (qss_one (qs_ret qn)) qss_nil)
  (qss_cons (qs_if (qt_cmp (dop_ne (hu100 hr)) (qe_ix (qv 0) qi (fun _ _ => rfl)) (qe_ix (qv 1) qi (fun _ _ => rfl)) (nomark _)) (qss_cons (qs_setLc (i := 2) [("limit", 3)] rfl sc_6.nd rfl rfl (sw_true rfl rfl rfl (by decide +kernel)) (qi_seq (qe_tup (qa_cons (qe_ix (qv 0) qi (fun _ _ => rfl)) (qa_cons (qe_ix (qv 1) qi (fun _ _ => rfl)) qa_nil)))) (okb (by kernel_rfl)) (by decide) (fun _ _ _ _ _ => (qg_name (i := 3) sc_6.nd rfl (by first | exact Or.inl rfl | exact Or.inr rfl))) (fun _ _ _ _ _ => (qts_one (qt_cmp dop_isnot (qv 3) qn (nomark _)))) (fun _ _ _ _ _ => (qv 3)))
    (qss_one (qs_ret (qe_tup (qa_cons (qe_tup (qa_cons (qe_op dop_add (qe_callB (dcall_min1 rfl) rfl T.z_min (by decide +kernel) (qa_cons (qv 2) qa_nil)) qi) (qa_cons (qe_tup (qa_cons qs (qa_cons qi qa_nil))) qa_nil))) qa_nil))))) qss_nil)
  (qss_cons (qs_set (i := 4) sc_6.nd rfl (by first | exact Or.inl rfl | exact Or.inr rfl) (qe_call (sem_len (i := 4)) ih.o4 hr rfl T.m4 T.F4.kp T.b4 (qa_cons (qv 0) qa_nil)))
  (qss_cons (qs_set (i := 5) sc_6.nd rfl (by first | exact Or.inl rfl | exact Or.inr rfl) (qe_call (sem_len (i := 4)) ih.o4 hr rfl T.m4 T.F4.kp T.b4 (qa_cons (qv 1) qa_nil)))
  (qss_cons (qs_set (i := 6) sc_6.nd rfl (by first | exact Or.inl rfl | exact Or.inr rfl) qi)
  (qss_cons (qs_while PassesOwn.never (qt_w (qw_and (qt_cmp (dop_cmp (hu100 hr) .lt) (qv 6) (qe_callB (dcall_min2 rfl) rfl T.z_min (by decide +kernel) (qa_cons (qe_callB dcall_len rfl T.z_len (by decide +kernel) (qa_cons (qv 4) qa_nil)) (qa_cons (qe_callB dcall_len rfl T.z_len (by decide +kernel) (qa_cons (qv 5) qa_nil)) qa_nil))) (nomark _)) (qw_and1 (qt_cmp (dop_eq (hu100 hr)) (qe_ix (qv 4) (qv 6) (fun _ _ => rfl)) (qe_ix (qv 5) (qv 6) (fun _ _ => rfl)) (nomark _))))) (qss_one (qs_aug (i := 6) sc_6.nd rfl (by first | exact Or.inl rfl | exact Or.inr rfl) qi dip_add)))
  (qss_one (qs_ret (qe_call (sem_len (i := 3)) ih.o3 hr rfl T.m3 T.F3.kp T.b3 (qa_cons (qe_op dop_add (qv 6) qi) (qa_cons qi qa_nil)))))))))))
/- judge_parting_series -/
theorem w_7 (T : Txt K mg) (ih : IH P w base T n) (cdv : Value) (A : Around) (outer : List Env) (s : Shared) (H : Hp) (E : XK) (hr : Room n (A.deeper (envOfC "judge_parting_series" (defScope s_7) s.heap.objs.size (T.f 7) cdv))) :
    PSs (cxOf CX0 P w K mg base N_7 "judge_parting_series" (defScope s_7) (T.f 7) cdv A outer s H E).nox (defBody s_7) (liftS K (b_7 (sem fs n))) :=
  (qss_one (qs_ret (qe_cmp (dop_ne (hu100 hr)) (qe_call (sem_len (i := 2)) ih.o2 hr rfl T.m2 T.F2.kp T.b2 (qa_cons (qv 0) (qa_cons (qv 2) qa_nil))) (qe_call (sem_len (i := 2)) ih.o2 hr rfl T.m2 T.F2.kp T.b2 (qa_cons (qv 1) (qa_cons (qv 2) qa_nil))) (nomark _))))
/- _law_draws -/
theorem w_8 (T : Txt K mg) (ih : IH P w base T n) (cdv : Value) (A : Around) (outer : List Env) (s : Shared) (H : Hp) (E : XK) (hr : Room n (A.deeper (envOfC "_law_draws" (defScope s_8) s.heap.objs.size (T.f 8) cdv))) :
    PSs (cxOf CX0 P w K mg base N_8 "_law_draws" (defScope s_8) (T.f 8) cdv A outer s H E).nox (defBody s_8) (liftS K (b_8 (sem fs n))) :=
  (qss_cons (qs_setLc (i := 2) [("cell", 3)] rfl sc_8.nd rfl rfl (sw_true rfl rfl rfl (by decide +kernel)) (qi_seq (qe_slice (qv 0) qo_none (qo_some qi))) (okb (by kernel_rfl)) (by decide) (fun _ _ _ _ _ => (qg_name (i := 3) sc_8.nd rfl (by first | exact Or.inl rfl | exact Or.inr rfl))) (fun _ _ _ _ _ => qts_nil) (fun _ _ _ _ _ => (qe_op dop_mod (qe_callTy dcall_int rfl T.z_int (by decide +kernel) (qa_cons (qv 3) qa_nil)) (qe_op dop_shl qi qi))))
  (qss_cons (qs_if (qt_cmp (dop_eq (hu100 hr)) (qe_callB dcall_len rfl T.z_len (by decide +kernel) (qa_cons (qv 2) qa_nil)) qi (nomark _)) (qss_one (qs_expr (qe_bm PySem.F.plainAttrs_list PySem.F.slot_list_append PySem.F.type_list_append okLst_ty dmt_append (qv 2) (qa_cons qi qa_nil)))) qss_nil)
  (qss_cons (qs_set (i := 4) sc_8.nd rfl (by first | exact Or.inl rfl | exact Or.inr rfl) (qe_callTy dcall_list rfl T.z_list (by decide +kernel) (qa_cons (qv 2) qa_nil)))
  (qss_cons (qs_set (i := 5) sc_8.nd rfl (by first | exact Or.inl rfl | exact Or.inr rfl) (qe_lst qa_nil))
  (qss_cons (qs_for PassesOwn.never rfl (qi_range1 rfl T.z_range (qa_cons (qv 1) qa_nil)) (qg_name (i := 6) sc_8.nd rfl (by first | exact Or.inl rfl | exact Or.inr rfl)) (qss_cons (qs_set (i := 7) sc_8.nd rfl (by first | exact Or.inl rfl | exact Or.inr rfl) (qe_op dop_mod (qe_callTy dcall_int rfl T.z_int (by decide +kernel) (qa_cons (qv 6) qa_nil)) (qe_callB dcall_len rfl T.z_len (by decide +kernel) (qa_cons (qv 2) qa_nil))))
    (qss_one (qs_if (qt_w (qw_and (qt_cmp (dop_cmp (hu100 hr) .ge) (qe_ix (qv 2) (qv 7) (fun _ _ => rfl)) (qe_op dop_pow qi qi) (nomark _)) (qw_and1 (qt_cmp (dop_cmp (hu100 hr) .gt) (qe_ix (qv 4) (qv 7) (fun _ _ => rfl)) qi (nomark _))))) (qss_cons (qs_expr (qe_bm PySem.F.plainAttrs_list PySem.F.slot_list_append PySem.F.type_list_append okLst_ty dmt_append (qv 5) (qa_cons (qe_op dop_mod (qe_callTy dcall_int rfl T.z_int (by decide +kernel) (qa_cons (qe_ix (qv 4) (qv 7) (fun _ _ => rfl)) qa_nil)) qi) qa_nil)))
      (qss_one (qs_asg (qe_op dop_fdv (qe_ix (qv 4) (qv 7) (fun _ _ => rfl)) qi) (qg_sub (qv 4) (qv 7) dset_ix)))) (qss_cons (qs_set (i := 8) sc_8.nd rfl (by first | exact Or.inl rfl | exact Or.inr rfl) (qe_op dop_mod (qe_callTy dcall_int rfl T.z_int (by decide +kernel) (qa_cons (qe_op dop_add (qe_op dop_add (qe_op dop_mul (qe_ix (qv 2) (qv 7) (fun _ _ => rfl)) qi) (qe_op dop_mul (qv 6) qi)) qi) qa_nil)) qi))
      (qss_one (qs_expr (qe_bm PySem.F.plainAttrs_list PySem.F.slot_list_append PySem.F.type_list_append okLst_ty dmt_append (qv 5) (qa_cons (qe_op dop_mod (qe_callTy dcall_int rfl T.z_int (by decide +kernel) (qa_cons (qe_op dop_add (qe_op dop_add (qe_op dop_mul (qv 8) (qv 8)) (qe_op dop_mul qi (qv 8))) (qv 6)) qa_nil)) qi) qa_nil)))))))))
  (qss_cons (qs_expr (qe_bm0 PySem.F.plainAttrs_list PySem.F.slot_list_reverse PySem.F.type_list_reverse okLst_ty dmt_reverse (qv 5)))
  (qss_one (qs_ret (qv 5)))))))))
/- _law_take -/
theorem w_9 (T : Txt K mg) (ih : IH P w base T n) (cdv : Value) (A : Around) (outer : List Env) (s : Shared) (H : Hp) (E : XK) (hr : Room n (A.deeper (envOfC "_law_take" (defScope s_9) s.heap.objs.size (T.f 9) cdv))) :
    PSs (cxOf CX0 P w K mg base N_9 "_law_take" (defScope s_9) (T.f 9) cdv A outer s H E).nox (defBody s_9) (liftS K (b_9 (sem fs n))) :=
  (qss_cons (qs_if (qt_cmp (dop_eq (hu100 hr)) (qe_callB dcall_len rfl T.z_len (by decide +kernel) (qa_cons (qv 0) qa_nil)) qi (nomark _)) (qss_one (qs_ret qi)) qss_nil)
  (qss_one (qs_ret (qe_op dop_mod (qe_callTy dcall_int rfl T.z_int (by decide +kernel) (qa_cons (qe_bm0 PySem.F.plainAttrs_list PySem.F.slot_list_pop PySem.F.type_list_pop okLst_ty dmt_pop (qv 0)) qa_nil)) (qv 1)))))
/- _law_pick -/
theorem w_10 (T : Txt K mg) (ih : IH P w base T n) (cdv : Value) (A : Around) (outer : List Env) (s : Shared) (H : Hp) (E : XK) (hr : Room n (A.deeper (envOfC "_law_pick" (defScope s_10) s.heap.objs.size (T.f 10) cdv))) :
    PSs (cxOf CX0 P w K mg base N_10 "_law_pick" (defScope s_10) (T.f 10) cdv A outer s H E).nox (defBody s_10) (liftS K (b_10 (sem fs n))) :=
  (qss_one (qs_ret (qe_ix (qv 1) (qe_call (sem_len (i := 9)) ih.o9 hr rfl T.m9 T.F9.kp T.b9 (qa_cons (qv 0) (qa_cons (qe_callB dcall_len rfl T.z_len (by decide +kernel) (qa_cons (qv 1) qa_nil)) qa_nil))) (fun _ _ => rfl))))
/- _law_same -/
theorem w_11 (T : Txt K mg) (ih : IH P w base T n) (cdv : Value) (A : Around) (outer : List Env) (s : Shared) (H : Hp) (E : XK) (hr : Room n (A.deeper (envOfC "_law_same" (defScope s_11) s.heap.objs.size (T.f 11) cdv))) :
    PSs (cxOf CX0 P w K mg base N_11 "_law_same" (defScope s_11) (T.f 11) cdv A outer s H E).nox (defBody s_11) (liftS K (b_11 (sem fs n))) :=
  (qss_cons (qs_if (qt_val (qe_callB dcall_isi rfl T.z_isinstance (by decide +kernel) (qa_cons (qv 1) (qa_cons (qe_tup (qa_cons (qe_ty rfl T.z_tuple (by decide +kernel)) (qa_cons (qe_ty rfl T.z_list (by decide +kernel)) qa_nil))) qa_nil)))) (qss_cons (qs_if (qt_w (qw_or (qt_cmp (dop_ne (hu100 hr)) (qe_callB dcall_isi rfl T.z_isinstance (by decide +kernel) (qa_cons (qv 0) (qa_cons (qe_ty rfl T.z_tuple (by decide +kernel)) qa_nil))) (qe_callB dcall_isi rfl T.z_isinstance (by decide +kernel) (qa_cons (qv 1) (qa_cons (qe_ty rfl T.z_tuple (by decide +kernel)) qa_nil))) (nomark _)) (qw_or1 (qt_cmp (dop_ne (hu100 hr)) (qe_callB dcall_isi rfl T.z_isinstance (by decide +kernel) (qa_cons (qv 0) (qa_cons (qe_ty rfl T.z_list (by decide +kernel)) qa_nil))) (qe_callB dcall_isi rfl T.z_isinstance (by decide +kernel) (qa_cons (qv 1) (qa_cons (qe_ty rfl T.z_list (by decide +kernel)) qa_nil))) (nomark _))))) (qss_one (qs_ret qb)) qss_nil)
    (qss_cons (qs_if (qt_cmp (dop_ne (hu100 hr)) (qe_callB dcall_len rfl T.z_len (by decide +kernel) (qa_cons (qv 0) qa_nil)) (qe_callB dcall_len rfl T.z_len (by decide +kernel) (qa_cons (qv 1) qa_nil)) (nomark _)) (qss_one (qs_ret qb)) qss_nil)
    (qss_one (qs_ret (qe_cmp (dop_notin (hu100 hr)) qb (qe_lc [("k", 2)] rfl sc_11.nd (qi_range1 rfl T.z_range (qa_cons (qe_callB dcall_len rfl T.z_len (by decide +kernel) (qa_cons (qv 1) qa_nil)) qa_nil)) (okb (by kernel_rfl)) (by decide) (fun _ _ _ _ _ => (qg_name (i := 2) sc_11.nd rfl (by first | exact Or.inl rfl | exact Or.inr rfl))) (fun _ _ _ _ _ => qts_nil) (fun _ _ _ _ _ => (qe_call (sem_len (i := 11)) ih.o11 hr rfl T.m11 T.F11.kp T.b11 (qa_cons (qe_ix (qv 0) (qv 2) (fun _ _ => rfl)) (qa_cons (qe_ix (qv 1) (qv 2) (fun _ _ => rfl)) qa_nil))))) (by with_unfolding_all rfl)))))) qss_nil)
  (qss_cons (qs_if (qt_w (qw_or (qt_cmp (dop_ne (hu100 hr)) (qe_callB dcall_isi rfl T.z_isinstance (by decide +kernel) (qa_cons (qv 0) (qa_cons (qe_ty rfl T.z_bool (by decide +kernel)) qa_nil))) (qe_callB dcall_isi rfl T.z_isinstance (by decide +kernel) (qa_cons (qv 1) (qa_cons (qe_ty rfl T.z_bool (by decide +kernel)) qa_nil))) (nomark _)) (qw_or1 (qt_cmp (dop_ne (hu100 hr)) (qe_callB dcall_isi rfl T.z_isinstance (by decide +kernel) (qa_cons (qv 0) (qa_cons (qe_ty rfl T.z_int (by decide +kernel)) qa_nil))) (qe_callB dcall_isi rfl T.z_isinstance (by decide +kernel) (qa_cons (qv 1) (qa_cons (qe_ty rfl T.z_int (by decide +kernel)) qa_nil))) (nomark _))))) (qss_one (qs_ret qb)) qss_nil)
  (qss_cons (qs_if (qt_w (qw_or (qt_cmp (dop_ne (hu100 hr)) (qe_callB dcall_isi rfl T.z_isinstance (by decide +kernel) (qa_cons (qv 0) (qa_cons (qe_ty rfl T.z_str (by decide +kernel)) qa_nil))) (qe_callB dcall_isi rfl T.z_isinstance (by decide +kernel) (qa_cons (qv 1) (qa_cons (qe_ty rfl T.z_str (by decide +kernel)) qa_nil))) (nomark _)) (qw_or1 (qt_cmp (dop_ne (hu100 hr)) (qe_cmp dop_is (qv 0) qn (nomark _)) (qe_cmp dop_is (qv 1) qn (nomark _)) (nomark _))))) (qss_one (qs_ret qb)) qss_nil)
  (qss_one (qs_ret (qe_cmp (dop_eq (hu100 hr)) (qv 0) (qv 1) (nomark _)))))))
/- _law_is_int -/
theorem w_12 (T : Txt K mg) (ih : IH P w base T n) (cdv : Value) (A : Around) (outer : List Env) (s : Shared) (H : Hp) (E : XK) (hr : Room n (A.deeper (envOfC "_law_is_int" (defScope s_12) s.heap.objs.size (T.f 12) cdv))) :
    PSs (cxOf CX0 P w K mg base N_12 "_law_is_int" (defScope s_12) (T.f 12) cdv A outer s H E).nox (defBody s_12) (liftS K (b_12 (sem fs n))) :=
  (qss_one (qs_ret (qe_and (qe_callB dcall_isi rfl T.z_isinstance (by decide +kernel) (qa_cons (qv 0) (qa_cons (qe_ty rfl T.z_int (by decide +kernel)) qa_nil))) (qe_one (qe_not (qe_callB dcall_isi rfl T.z_isinstance (by decide +kernel) (qa_cons (qv 0) (qa_cons (qe_ty rfl T.z_bool (by decide +kernel)) qa_nil))))))))
/- _law_word -/
theorem w_13 (T : Txt K mg) (ih : IH P w base T n) (cdv : Value) (A : Around) (outer : List Env) (s : Shared) (H : Hp) (E : XK) (hr : Room n (A.deeper (envOfC "_law_word" (defScope s_13) s.heap.objs.size (T.f 13) cdv))) :
    PSs (cxOf CX0 P w K mg base N_13 "_law_word" (defScope s_13) (T.f 13) cdv A outer s H E).nox (defBody s_13) (liftS K (b_13 (sem fs n))) :=
  (qss_cons (qs_set (i := 1) sc_13.nd rfl (by first | exact Or.inl rfl | exact Or.inr rfl) (qe_op dop_add qi (qe_call (sem_len (i := 9)) ih.o9 hr rfl T.m9 T.F9.kp T.b9 (qa_cons (qv 0) (qa_cons qi qa_nil)))))
  (qss_cons (qs_if (qt_cmp (dop_eq (hu100 hr)) (qe_call (sem_len (i := 9)) ih.o9 hr rfl T.m9 T.F9.kp T.b9 (qa_cons (qv 0) (qa_cons qi qa_nil))) qi (nomark _)) (qss_one (qs_set (i := 1) sc_13.nd rfl (by first | exact Or.inl rfl | exact Or.inr rfl) (qe_op dop_add (qe_op dop_add (qv 1) qi) (qe_call (sem_len (i := 9)) ih.o9 hr rfl T.m9 T.F9.kp T.b9 (qa_cons (qv 0) (qa_cons qi qa_nil)))))) qss_nil)
  (qss_one (qs_ret (qe_bm PySem.F.plainAttrs_str PySem.F.slot_str_join PySem.F.type_str_join okStr_ty dmt_join qs (qa_cons (qe_lc [("j", 2)] rfl sc_13.nd (qi_range1 rfl T.z_range (qa_cons (qv 1) qa_nil)) (okb (by kernel_rfl)) (by decide) (fun _ _ _ _ _ => (qg_name (i := 2) sc_13.nd rfl (by first | exact Or.inl rfl | exact Or.inr rfl))) (fun _ _ _ _ _ => qts_nil) (fun _ _ _ _ _ => (qe_ix qs (qe_call (sem_len (i := 9)) ih.o9 hr rfl T.m9 T.F9.kp T.b9 (qa_cons (qv 0) (qa_cons qi qa_nil))) (fun _ _ => rfl)))) qa_nil))))))
/- _law_number -/
theorem w_14 (T : Txt K mg) (ih : IH P w base T n) (cdv : Value) (A : Around) (outer : List Env) (s : Shared) (H : Hp) (E : XK) (hr : Room n (A.deeper (envOfC "_law_number" (defScope s_14) s.heap.objs.size (T.f 14) cdv))) :
    PSs (cxOf CX0 P w K mg base N_14 "_law_number" (defScope s_14) (T.f 14) cdv A outer s H E).nox (defBody s_14) (liftS K (b_14 (sem fs n))) :=
  (qss_cons (qs_if (qt_cmp (dop_eq (hu100 hr)) (qe_call (sem_len (i := 9)) ih.o9 hr rfl T.m9 T.F9.kp T.b9 (qa_cons (qv 0) (qa_cons qi qa_nil))) qi (nomark _)) (qss_one (qs_ret (qe_call (sem_len (i := 10)) ih.o10 hr rfl T.m10 T.F10.kp T.b10 (qa_cons (qv 0) (qa_cons (qe_lst (qa_cons (qe_op dop_add (qe_op dop_pow qi qi) qi) (qa_cons (qe_op dop_sub (qe_un dun_neg (qe_op dop_pow qi qi)) qi) (qa_cons (qe_op dop_add (qe_op dop_pow qi qi) qi) qa_nil)))) qa_nil))))) qss_nil)
  (qss_one (qs_ret (qe_op dop_sub (qe_call (sem_len (i := 9)) ih.o9 hr rfl T.m9 T.F9.kp T.b9 (qa_cons (qv 0) (qa_cons qi qa_nil))) qi))))
/- _law_value -/
theorem w_15 (T : Txt K mg) (ih : IH P w base T n) (cdv : Value) (A : Around) (outer : List Env) (s : Shared) (H : Hp) (E : XK) (hr : Room n (A.deeper (envOfC "_law_value" (defScope s_15) s.heap.objs.size (T.f 15) cdv))) :
    PSs (cxOf CX0 P w K mg base N_15 "_law_value" (defScope s_15) (T.f 15) cdv A outer s H E).nox (defBody s_15) (liftS K (b_15 (sem fs n))) :=
  (qss_cons (qs_set (i := 1) sc_15.nd rfl (by first | exact Or.inl rfl | exact Or.inr rfl) (qe_call (sem_len (i := 9)) ih.o9 hr rfl T.m9 T.F9.kp T.b9 (qa_cons (qv 0) (qa_cons qi qa_nil))))
  (qss_cons (qs_if (qt_cmp (dop_eq (hu100 hr)) (qv 1) qi (nomark _)) (qss_one (qs_ret (qe_call (sem_len (i := 13)) ih.o13 hr rfl T.m13 T.F13.kp T.b13 (qa_cons (qv 0) qa_nil)))) qss_nil)
  (qss_cons (qs_if (qt_cmp (dop_eq (hu100 hr)) (qv 1) qi (nomark _)) (qss_cons (qs_setLc (i := 2) [("k", 3)] rfl sc_15.nd rfl rfl (sw_true rfl rfl rfl (by decide +kernel)) (qi_range1 rfl T.z_range (qa_cons (qe_call (sem_len (i := 9)) ih.o9 hr rfl T.m9 T.F9.kp T.b9 (qa_cons (qv 0) (qa_cons qi qa_nil))) qa_nil)) (okb (by kernel_rfl)) (by decide) (fun _ _ _ _ _ => (qg_name (i := 3) sc_15.nd rfl (by first | exact Or.inl rfl | exact Or.inr rfl))) (fun _ _ _ _ _ => qts_nil) (fun _ _ _ _ _ => (qe_call (sem_len (i := 14)) ih.o14 hr rfl T.m14 T.F14.kp T.b14 (qa_cons (qv 0) qa_nil))))
    (qss_one (qs_ret (qe_callTy dcall_tuple rfl T.z_tuple (by decide +kernel) (qa_cons (qe_op dop_add (qv 2) (qe_op dop_mul (qe_lst (qa_cons (qe_tup (qa_cons (qe_call (sem_len (i := 14)) ih.o14 hr rfl T.m14 T.F14.kp T.b14 (qa_cons (qv 0) qa_nil)) qa_nil)) qa_nil)) (qe_call (sem_len (i := 9)) ih.o9 hr rfl T.m9 T.F9.kp T.b9 (qa_cons (qv 0) (qa_cons qi qa_nil))))) qa_nil))))) qss_nil)
  (qss_one (qs_ret (qe_call (sem_len (i := 14)) ih.o14 hr rfl T.m14 T.F14.kp T.b14 (qa_cons (qv 0) qa_nil)))))))
/- _law_waits -/
theorem w_16 (T : Txt K mg) (ih : IH P w base T n) (cdv : Value) (A : Around) (outer : List Env) (s : Shared) (H : Hp) (E : XK) (hr : Room n (A.deeper (envOfC "_law_waits" (defScope s_16) s.heap.objs.size (T.f 16) cdv))) :
    PSs (cxOf CX0 P w K mg base N_16 "_law_waits" (defScope s_16) (T.f 16) cdv A outer s H E).nox (defBody s_16) (liftS K (b_16 (sem fs n))) :=
  (qss_cons (qs_asg (qv 0) (qg_tup rfl (qgs_cons (qg_name (i := 1) sc_16.nd rfl (by first | exact Or.inl rfl | exact Or.inr rfl)) (qgs_cons (qg_name (i := 2) sc_16.nd rfl (by first | exact Or.inl rfl | exact Or.inr rfl)) (qgs_cons (qg_name (i := 3) sc_16.nd rfl (by first | exact Or.inl rfl | exact Or.inr rfl)) (qgs_cons (qg_name (i := 4) sc_16.nd rfl (by first | exact Or.inl rfl | exact Or.inr rfl)) (qgs_cons (qg_name (i := 5) sc_16.nd rfl (by first | exact Or.inl rfl | exact Or.inr rfl)) qgs_nil)))))))
  (qss_cons (qs_set (i := 6) sc_16.nd rfl (by first | exact Or.inl rfl | exact Or.inr rfl) (qe_lst qa_nil))
  (qss_cons (qs_set (i := 7) sc_16.nd rfl (by first | exact Or.inl rfl | exact Or.inr rfl) (qe_callB (dcall_min2 rfl) rfl T.z_min (by decide +kernel) (qa_cons (qv 2) (qa_cons (qv 4) qa_nil))))
  (qss_cons (qs_for PassesOwn.never rfl (qi_range1 rfl T.z_range (qa_cons (qe_op dop_sub (qv 1) qi) qa_nil)) (qg_name (i := 8) sc_16.nd rfl (by first | exact Or.inl rfl | exact Or.inr rfl)) (qss_cons (qs_expr (qe_bm PySem.F.plainAttrs_list PySem.F.slot_list_append PySem.F.type_list_append okLst_ty dmt_append (qv 6) (qa_cons (qv 7) qa_nil)))
    (qss_one (qs_set (i := 7) sc_16.nd rfl (by first | exact Or.inl rfl | exact Or.inr rfl) (qe_callB (dcall_min2 rfl) rfl T.z_min (by decide +kernel) (qa_cons (qv 4) (qa_cons (qe_op dop_mul (qv 7) (qv 3)) qa_nil)))))))
  (qss_one (qs_ret (qv 6)))))))
/- _law_retried -/
theorem w_17 (T : Txt K mg) (ih : IH P w base T n) (cdv : Value) (A : Around) (outer : List Env) (s : Shared) (H : Hp) (E : XK) (hr : Room n (A.deeper (envOfC "_law_retried" (defScope s_17) s.heap.objs.size (T.f 17) cdv))) :
    PSs (cxOf CX0 P w K mg base N_17 "_law_retried" (defScope s_17) (T.f 17) cdv A outer s H E).nox (defBody s_17) (liftS K (b_17 (sem fs n))) :=
  (qss_cons (qs_par (i := 2) (j := 3) rfl sc_17.nd rfl rfl (by decide) rfl rfl (qa_cons (qe_ix (qv 0) qi (fun _ _ => rfl)) (qa_cons (qe_ix (qv 0) qi (fun _ _ => rfl)) qa_nil)) rfl)
  (qss_cons (qs_set (i := 4) sc_17.nd rfl (by first | exact Or.inl rfl | exact Or.inr rfl) (qe_call (sem_len (i := 16)) ih.o16 hr rfl T.m16 T.F16.kp T.b16 (qa_cons (qv 0) qa_nil)))
  (qss_cons (qs_set (i := 5) sc_17.nd rfl (by first | exact Or.inl rfl | exact Or.inr rfl) (qe_lst qa_nil))
  (qss_cons (qs_set (i := 6) sc_17.nd rfl (by first | exact Or.inl rfl | exact Or.inr rfl) qi)
  (qss_cons (qs_for PassesOwn.never rfl (qi_range1 rfl T.z_range (qa_cons (qv 2) qa_nil)) (qg_name (i := 7) sc_17.nd rfl (by first | exact Or.inl rfl | exact Or.inr rfl)) (qss_cons (qs_expr (qe_bm PySem.F.plainAttrs_list PySem.F.slot_list_append PySem.F.type_list_append okLst_ty dmt_append (qv 5) (qa_cons (qv 6) qa_nil)))
    (qss_cons (qs_if (qt_cmp (dop_cmp (hu100 hr) .ge) (qv 7) (qe_callB dcall_len rfl T.z_len (by decide +kernel) (qa_cons (qv 1) qa_nil)) (nomark _)) (qss_one (qs_ret (qe_tup (qa_cons (qe_callTy dcall_tuple rfl T.z_tuple (by decide +kernel) (qa_cons (qv 5) qa_nil)) (qa_cons (qe_ix (qe_lst (qa_cons (qe_tup (qa_cons (qv 3) (qa_cons (qe_tup (qa_cons qs (qa_cons qs qa_nil))) qa_nil))) (qa_cons qn qa_nil))) (qe_callTy dcall_int rfl T.z_int (by decide +kernel) (qa_cons (qe_cmp dop_is (qv 3) qn (nomark _)) qa_nil)) (fun _ _ => rfl)) qa_nil))))) qss_nil)
    (qss_cons (qs_set (i := 8) sc_17.nd rfl (by first | exact Or.inl rfl | exact Or.inr rfl) (qe_op dop_add (qv 6) (qe_ix (qe_ix (qv 1) (qv 7) (fun _ _ => rfl)) qi (fun _ _ => rfl))))
    (qss_cons (qs_set (i := 9) sc_17.nd rfl (by first | exact Or.inl rfl | exact Or.inr rfl) (qe_ix (qe_ix (qv 1) (qv 7) (fun _ _ => rfl)) qi (fun _ _ => rfl)))
    (qss_cons (qs_if (qt_w (qw_and (qt_cmp dop_isnot (qv 3) qn (nomark _)) (qw_and1 (qt_cmp (dop_cmp (hu100 hr) .gt) (qv 8) (qv 3) (nomark _))))) (qss_one (qs_ret (qe_tup (qa_cons (qe_callTy dcall_tuple rfl T.z_tuple (by decide +kernel) (qa_cons (qv 5) qa_nil)) (qa_cons (qe_tup (qa_cons (qv 3) (qa_cons (qe_tup (qa_cons qs (qa_cons qs qa_nil))) qa_nil))) qa_nil))))) qss_nil)
    (qss_cons (qs_if (qt_w (qw_or (qt_cmp (dop_eq (hu100 hr)) (qe_ix (qv 9) qi (fun _ _ => rfl)) qs (nomark _)) (qw_or (qt_cmp (dop_eq (hu100 hr)) (qe_ix (qv 9) qi (fun _ _ => rfl)) qs (nomark _)) (qw_or1 (qt_cmp (dop_eq (hu100 hr)) (qv 7) (qe_op dop_sub (qv 2) qi) (nomark _)))))) (qss_one (qs_ret (qe_tup (qa_cons (qe_callTy dcall_tuple rfl T.z_tuple (by decide +kernel) (qa_cons (qv 5) qa_nil)) (qa_cons (qe_tup (qa_cons (qv 8) (qa_cons (qv 9) qa_nil))) qa_nil))))) qss_nil)
    (qss_cons (qs_if (qt_w (qw_and (qt_cmp dop_isnot (qv 3) qn (nomark _)) (qw_and1 (qt_cmp (dop_cmp (hu100 hr) .gt) (qe_op dop_add (qv 8) (qe_ix (qv 4) (qv 7) (fun _ _ => rfl))) (qv 3) (nomark _))))) (qss_one (qs_ret (qe_tup (qa_cons (qe_callTy dcall_tuple rfl T.z_tuple (by decide +kernel) (qa_cons (qv 5) qa_nil)) (qa_cons (qe_tup (qa_cons (qv 8) (qa_cons (qv 9) qa_nil))) qa_nil))))) qss_nil)
    (qss_one (qs_set (i := 6) sc_17.nd rfl (by first | exact Or.inl rfl | exact Or.inr rfl) (qe_op dop_add (qv 8) (qe_ix (qv 4) (qv 7) (fun _ _ => rfl)))))))))))))
  (qss_one (qs_ret qn)))))))
/- _law_length -/
theorem w_18 (T : Txt K mg) (ih : IH P w base T n) (cdv : Value) (A : Around) (outer : List Env) (s : Shared) (H : Hp) (E : XK) (hr : Room n (A.deeper (envOfC "_law_length" (defScope s_18) s.heap.objs.size (T.f 18) cdv))) :
    PSs (cxOf CX0 P w K mg base N_18 "_law_length" (defScope s_18) (T.f 18) cdv A outer s H E).nox (defBody s_18) (liftS K (b_18 (sem fs n))) :=
  (qss_cons (qs_if (qt_cmp (dop_eq (hu100 hr)) (qe_call (sem_len (i := 9)) ih.o9 hr rfl T.m9 T.F9.kp T.b9 (qa_cons (qv 0) (qa_cons qi qa_nil))) qi (nomark _)) (qss_one (qs_ret (qe_call (sem_len (i := 10)) ih.o10 hr rfl T.m10 T.F10.kp T.b10 (qa_cons (qv 0) (qa_cons (qe_lst (qa_cons (qe_op dop_add (qe_op dop_pow qi qi) qi) (qa_cons (qe_op dop_add (qe_op dop_pow qi qi) qi) (qa_cons (qe_op dop_add (qe_op dop_pow qi qi) qi) qa_nil)))) qa_nil))))) qss_nil)
  (qss_one (qs_ret (qe_call (sem_len (i := 9)) ih.o9 hr rfl T.m9 T.F9.kp T.b9 (qa_cons (qv 0) (qa_cons (qe_call (sem_len (i := 10)) ih.o10 hr rfl T.m10 T.F10.kp T.b10 (qa_cons (qv 0) (qa_cons (qe_lst (qa_cons qi (qa_cons qi (qa_cons qi qa_nil)))) qa_nil))) qa_nil))))))
/- _law_plan -/
theorem w_19 (T : Txt K mg) (ih : IH P w base T n) (cdv : Value) (A : Around) (outer : List Env) (s : Shared) (H : Hp) (E : XK) (hr : Room n (A.deeper (envOfC "_law_plan" (defScope s_19) s.heap.objs.size (T.f 19) cdv))) :
    PSs (cxOf CX0 P w K mg base N_19 "_law_plan" (defScope s_19) (T.f 19) cdv A outer s H E).nox (defBody s_19) (liftS K (b_19 (sem fs n))) :=
  (qss_cons (qs_set (i := 2) sc_19.nd rfl (by first | exact Or.inl rfl | exact Or.inr rfl) (qe_op dop_add qi (qe_call (sem_len (i := 9)) ih.o9 hr rfl T.m9 T.F9.kp T.b9 (qa_cons (qv 0) (qa_cons (qe_call (sem_len (i := 10)) ih.o10 hr rfl T.m10 T.F10.kp T.b10 (qa_cons (qv 0) (qa_cons (qe_lst (qa_cons qi (qa_cons qi (qa_cons (qv 1) qa_nil)))) qa_nil))) qa_nil)))))
  (qss_one (qs_ret (qe_tup (qa_cons (qv 2) (qa_cons (qe_call (sem_len (i := 18)) ih.o18 hr rfl T.m18 T.F18.kp T.b18 (qa_cons (qv 0) qa_nil)) (qa_cons (qe_op dop_add qi (qe_call (sem_len (i := 9)) ih.o9 hr rfl T.m9 T.F9.kp T.b9 (qa_cons (qv 0) (qa_cons qi qa_nil)))) (qa_cons (qe_op dop_add (qe_call (sem_len (i := 18)) ih.o18 hr rfl T.m18 T.F18.kp T.b18 (qa_cons (qv 0) qa_nil)) (qe_call (sem_len (i := 18)) ih.o18 hr rfl T.m18 T.F18.kp T.b18 (qa_cons (qv 0) qa_nil))) (qa_cons qn qa_nil)))))))))
/- _law_series -/
theorem w_20 (T : Txt K mg) (ih : IH P w base T n) (cdv : Value) (A : Around) (outer : List Env) (s : Shared) (H : Hp) (E : XK) (hr : Room n (A.deeper (envOfC "_law_series" (defScope s_20) s.heap.objs.size (T.f 20) cdv))) :
    PSs (cxOf CX0 P w K mg base N_20 "_law_series" (defScope s_20) (T.f 20) cdv A outer s H E).nox (defBody s_20) (liftS K (b_20 (sem fs n))) :=
  (qss_cons (qs_set (i := 2) sc_20.nd rfl (by first | exact Or.inl rfl | exact Or.inr rfl) (qe_lst qa_nil))
  (qss_cons (qs_for PassesOwn.never rfl (qi_range1 rfl T.z_range (qa_cons (qe_call (sem_len (i := 9)) ih.o9 hr rfl T.m9 T.F9.kp T.b9 (qa_cons (qv 0) (qa_cons (qe_op dop_add (qv 1) qi) qa_nil))) qa_nil)) (qg_name (i := 3) sc_20.nd rfl (by first | exact Or.inl rfl | exact Or.inr rfl)) (qss_cons (qs_set (i := 4) sc_20.nd rfl (by first | exact Or.inl rfl | exact Or.inr rfl) (qe_call (sem_len (i := 9)) ih.o9 hr rfl T.m9 T.F9.kp T.b9 (qa_cons (qv 0) (qa_cons qi qa_nil))))
    (qss_cons (qs_set (i := 5) sc_20.nd rfl (by first | exact Or.inl rfl | exact Or.inr rfl) (qe_tup (qa_cons qs (qa_cons (qe_call (sem_len (i := 13)) ih.o13 hr rfl T.m13 T.F13.kp T.b13 (qa_cons (qv 0) qa_nil)) qa_nil))))
    (qss_cons (qs_if (qt_cmp (dop_eq (hu100 hr)) (qv 4) qi (nomark _)) (qss_one (qs_set (i := 5) sc_20.nd rfl (by first | exact Or.inl rfl | exact Or.inr rfl) (qe_tup (qa_cons qs (qa_cons (qe_call (sem_len (i := 15)) ih.o15 hr rfl T.m15 T.F15.kp T.b15 (qa_cons (qv 0) qa_nil)) qa_nil))))) qss_nil)
    (qss_cons (qs_if (qt_cmp (dop_eq (hu100 hr)) (qv 4) qi (nomark _)) (qss_one (qs_set (i := 5) sc_20.nd rfl (by first | exact Or.inl rfl | exact Or.inr rfl) (qe_tup (qa_cons qs (qa_cons qs qa_nil))))) qss_nil)
    (qss_one (qs_expr (qe_bm PySem.F.plainAttrs_list PySem.F.slot_list_append PySem.F.type_list_append okLst_ty dmt_append (qv 2) (qa_cons (qe_tup (qa_cons (qe_call (sem_len (i := 18)) ih.o18 hr rfl T.m18 T.F18.kp T.b18 (qa_cons (qv 0) qa_nil)) (qa_cons (qv 5) qa_nil))) qa_nil)))))))))
  (qss_one (qs_ret (qe_callTy dcall_tuple rfl T.z_tuple (by decide +kernel) (qa_cons (qv 2) qa_nil))))))
/- _law_limited -/
theorem w_21 (T : Txt K mg) (ih : IH P w base T n) (cdv : Value) (A : Around) (outer : List Env) (s : Shared) (H : Hp) (E : XK) (hr : Room n (A.deeper (envOfC "_law_limited" (defScope s_21) s.heap.objs.size (T.f 21) cdv))) :
    PSs (cxOf CX0 P w K mg base N_21 "_law_limited" (defScope s_21) (T.f 21) cdv A outer s H E).nox (defBody s_21) (liftS K (b_21 (sem fs n))) :=
  (qss_cons (qs_set (i := 3) sc_21.nd rfl (by first | exact Or.inl rfl | exact Or.inr rfl) (qe_ix (qe_call (sem_len (i := 17)) ih.o17 hr rfl T.m17 T.F17.kp T.b17 (qa_cons (qv 1) (qa_cons (qv 2) qa_nil))) qi (fun _ _ => rfl)))
  (qss_cons (qs_set (i := 4) sc_21.nd rfl (by first | exact Or.inl rfl | exact Or.inr rfl) (qe_call (sem_len (i := 9)) ih.o9 hr rfl T.m9 T.F9.kp T.b9 (qa_cons (qv 0) (qa_cons (qe_callB dcall_len rfl T.z_len (by decide +kernel) (qa_cons (qv 3) qa_nil)) qa_nil))))
  (qss_cons (qs_set (i := 5) sc_21.nd rfl (by first | exact Or.inl rfl | exact Or.inr rfl) (qe_ix (qv 3) (qv 4) (fun _ _ => rfl)))
  (qss_cons (qs_if (qt_w (qw_and (qt_cmp (dop_cmp (hu100 hr) .lt) (qv 4) (qe_callB dcall_len rfl T.z_len (by decide +kernel) (qa_cons (qv 2) qa_nil)) (nomark _)) (qw_and1 (qt_cmp (dop_eq (hu100 hr)) (qe_call (sem_len (i := 9)) ih.o9 hr rfl T.m9 T.F9.kp T.b9 (qa_cons (qv 0) (qa_cons qi qa_nil))) qi (nomark _))))) (qss_one (qs_set (i := 5) sc_21.nd rfl (by first | exact Or.inl rfl | exact Or.inr rfl) (qe_op dop_add (qv 5) (qe_ix (qe_ix (qv 2) (qv 4) (fun _ _ => rfl)) qi (fun _ _ => rfl))))) qss_nil)
  (qss_cons (qs_set (i := 6) sc_21.nd rfl (by first | exact Or.inl rfl | exact Or.inr rfl) (qe_callB (dcall_max2 rfl) rfl T.z_max (by decide +kernel) (qa_cons qi (qa_cons (qe_op dop_add (qv 5) (qe_call (sem_len (i := 10)) ih.o10 hr rfl T.m10 T.F10.kp T.b10 (qa_cons (qv 0) (qa_cons (qe_lst (qa_cons qi (qa_cons qi (qa_cons (qe_un dun_neg qi) (qa_cons qi (qa_cons qi qa_nil)))))) qa_nil)))) qa_nil))))
  (qss_one (qs_ret (qe_op dop_add (qe_slice (qv 1) qo_none (qo_some qi)) (qe_tup (qa_cons (qv 6) qa_nil))))))))))
/- _law_counted -/
theorem w_22 (T : Txt K mg) (ih : IH P w base T n) (cdv : Value) (A : Around) (outer : List Env) (s : Shared) (H : Hp) (E : XK) (hr : Room n (A.deeper (envOfC "_law_counted" (defScope s_22) s.heap.objs.size (T.f 22) cdv))) :
    PSs (cxOf CX0 P w K mg base N_22 "_law_counted" (defScope s_22) (T.f 22) cdv A outer s H E).nox (defBody s_22) (liftS K (b_22 (sem fs n))) :=
  (qss_cons (qs_set (i := 1) sc_22.nd rfl (by first | exact Or.inl rfl | exact Or.inr rfl) (qe_lst qa_nil))
  (qss_cons (qs_set (i := 2) sc_22.nd rfl (by first | exact Or.inl rfl | exact Or.inr rfl) qi)
  (qss_cons (qs_for PassesOwn.never rfl (qi_seq (qe_call (sem_len (i := 16)) ih.o16 hr rfl T.m16 T.F16.kp T.b16 (qa_cons (qv 0) qa_nil))) (qg_name (i := 3) sc_22.nd rfl (by first | exact Or.inl rfl | exact Or.inr rfl)) (qss_cons (qs_set (i := 2) sc_22.nd rfl (by first | exact Or.inl rfl | exact Or.inr rfl) (qe_op dop_add (qv 2) (qv 3)))
    (qss_cons (qs_if (qt_w (qw_and (qt_cmp dop_isnot (qe_ix (qv 0) qi (fun _ _ => rfl)) qn (nomark _)) (qw_and1 (qt_cmp (dop_cmp (hu100 hr) .gt) (qv 2) (qe_ix (qv 0) qi (fun _ _ => rfl)) (nomark _))))) (qss_one (qs_ret (qv 1))) qss_nil)
    (qss_one (qs_expr (qe_bm PySem.F.plainAttrs_list PySem.F.slot_list_append PySem.F.type_list_append okLst_ty dmt_append (qv 1) (qa_cons (qv 3) qa_nil)))))))
  (qss_one (qs_ret (qv 1))))))
/- _law_own_series -/
theorem w_23 (T : Txt K mg) (ih : IH P w base T n) (cdv : Value) (A : Around) (outer : List Env) (s : Shared) (H : Hp) (E : XK) (hr : Room n (A.deeper (envOfC "_law_own_series" (defScope s_23) s.heap.objs.size (T.f 23) cdv))) :
    PSs (cxOf CX0 P w K mg base N_23 "_law_own_series" (defScope s_23) (T.f 23) cdv A outer s H E).nox (defBody s_23) (liftS K (b_23 (sem fs n))) :=
  (qss_cons (qs_setLc (i := 2) [("plan", 3)] rfl sc_23.nd rfl rfl (sw_true rfl rfl rfl (by decide +kernel)) (qi_seq (qe_tup (qa_cons (qv 0) (qa_cons (qv 1) qa_nil)))) (okb (by kernel_rfl)) (by decide) (fun _ _ _ _ _ => (qg_name (i := 3) sc_23.nd rfl (by first | exact Or.inl rfl | exact Or.inr rfl))) (fun _ _ _ _ _ => (qts_one (qt_cmp dop_isnot (qe_ix (qv 3) qi (fun _ _ => rfl)) qn (nomark _)))) (fun _ _ _ _ _ => (qe_ix (qv 3) qi (fun _ _ => rfl))))
  (qss_cons (qs_if (qt_cmp (dop_ne (hu100 hr)) (qe_ix (qv 0) qi (fun _ _ => rfl)) (qe_ix (qv 1) qi (fun _ _ => rfl)) (nomark _)) (qss_one (qs_ret (qe_tup (qa_cons (qe_tup (qa_cons (qe_op dop_add (qe_callB (dcall_min1 rfl) rfl T.z_min (by decide +kernel) (qa_cons (qv 2) qa_nil)) qi) (qa_cons (qe_tup (qa_cons qs (qa_cons qi qa_nil))) qa_nil))) qa_nil)))) qss_nil)
  (qss_one (qs_ret (qe_op dop_mul (qe_tup (qa_cons (qe_tup (qa_cons qi (qa_cons (qe_tup (qa_cons qs (qa_cons qs qa_nil))) qa_nil))) qa_nil)) (qe_callB (dcall_max2 rfl) rfl T.z_max (by decide +kernel) (qa_cons (qe_ix (qv 0) qi (fun _ _ => rfl)) (qa_cons (qe_ix (qv 1) qi (fun _ _ => rfl)) qa_nil))))))))
/- _law_is_series -/
theorem w_24 (T : Txt K mg) (ih : IH P w base T n) (cdv : Value) (A : Around) (outer : List Env) (s : Shared) (H : Hp) (E : XK) (hr : Room n (A.deeper (envOfC "_law_is_series" (defScope s_24) s.heap.objs.size (T.f 24) cdv))) :
    PSs (cxOf CX0 P w K mg base N_24 "_law_is_series" (defScope s_24) (T.f 24) cdv A outer s H E).nox (defBody s_24) (liftS K (b_24 (sem fs n))) :=
  (qss_cons (qs_if (qt_w (qw_or (qt_not (qt_val (qe_callB dcall_isi rfl T.z_isinstance (by decide +kernel) (qa_cons (qv 0) (qa_cons (qe_ty rfl T.z_tuple (by decide +kernel)) qa_nil))))) (qw_or1 (qt_cmp (dop_cmp (hu100 hr) .gt) (qe_callB dcall_len rfl T.z_len (by decide +kernel) (qa_cons (qv 0) qa_nil)) qi (nomark _))))) (qss_one (qs_ret qb)) qss_nil)
  (qss_cons (qs_for PassesOwn.never rfl (qi_seq (qv 0)) (qg_name (i := 1) sc_24.nd rfl (by first | exact Or.inl rfl | exact Or.inr rfl)) (qss_cons (qs_if (qt_w (qw_or (qt_not (qt_val (qe_callB dcall_isi rfl T.z_isinstance (by decide +kernel) (qa_cons (qv 1) (qa_cons (qe_ty rfl T.z_tuple (by decide +kernel)) qa_nil))))) (qw_or (qt_cmp (dop_ne (hu100 hr)) (qe_callB dcall_len rfl T.z_len (by decide +kernel) (qa_cons (qv 1) qa_nil)) qi (nomark _)) (qw_or (qt_not (qt_val (qe_call (sem_len (i := 12)) ih.o12 hr rfl T.m12 T.F12.kp T.b12 (qa_cons (qe_ix (qv 1) qi (fun _ _ => rfl)) qa_nil)))) (qw_or1 (qt_cmp (dop_cmp (hu100 hr) .lt) (qe_ix (qv 1) qi (fun _ _ => rfl)) qi (nomark _))))))) (qss_one (qs_ret qb)) qss_nil)
    (qss_cons (qs_if (qt_w (qw_or (qt_not (qt_val (qe_callB dcall_isi rfl T.z_isinstance (by decide +kernel) (qa_cons (qe_ix (qv 1) qi (fun _ _ => rfl)) (qa_cons (qe_ty rfl T.z_tuple (by decide +kernel)) qa_nil))))) (qw_or (qt_cmp (dop_ne (hu100 hr)) (qe_callB dcall_len rfl T.z_len (by decide +kernel) (qa_cons (qe_ix (qv 1) qi (fun _ _ => rfl)) qa_nil)) qi (nomark _)) (qw_or1 (qt_cmp (dop_notin (hu100 hr)) (qe_ix (qe_ix (qv 1) qi (fun _ _ => rfl)) qi (fun _ _ => rfl)) (qe_tup (qa_cons qs (qa_cons qs qa_nil))) (by with_unfolding_all rfl)))))) (qss_one (qs_ret qb)) qss_nil)
    (qss_one (qs_if (qt_w (qw_and (qt_cmp (dop_eq (hu100 hr)) (qe_ix (qe_ix (qv 1) qi (fun _ _ => rfl)) qi (fun _ _ => rfl)) qs (nomark _)) (qw_and1 (qt_not (qt_val (qe_callB dcall_isi rfl T.z_isinstance (by decide +kernel) (qa_cons (qe_ix (qe_ix (qv 1) qi (fun _ _ => rfl)) qi (fun _ _ => rfl)) (qa_cons (qe_ty rfl T.z_str (by decide +kernel)) qa_nil)))))))) (qss_one (qs_ret qb)) qss_nil)))))
  (qss_one (qs_ret qb))))
/- _law_twins -/
theorem w_25 (T : Txt K mg) (ih : IH P w base T n) (cdv : Value) (A : Around) (outer : List Env) (s : Shared) (H : Hp) (E : XK) (hr : Room n (A.deeper (envOfC "_law_twins" (defScope s_25) s.heap.objs.size (T.f 25) cdv))) :
    PSs (cxOf CX0 P w K mg base N_25 "_law_twins" (defScope s_25) (T.f 25) cdv A outer s H E).nox (defBody s_25) (liftS K (b_25 (sem fs n))) :=
  (qss_cons (qs_asg (qv 1) (qg_tup rfl (qgs_cons (qg_name (i := 2) sc_25.nd rfl (by first | exact Or.inl rfl | exact Or.inr rfl)) (qgs_cons (qg_name (i := 3) sc_25.nd rfl (by first | exact Or.inl rfl | exact Or.inr rfl)) (qgs_cons (qg_name (i := 4) sc_25.nd rfl (by first | exact Or.inl rfl | exact Or.inr rfl)) (qgs_cons (qg_name (i := 5) sc_25.nd rfl (by first | exact Or.inl rfl | exact Or.inr rfl)) (qgs_cons (qg_name (i := 6) sc_25.nd rfl (by first | exact Or.inl rfl | exact Or.inr rfl)) qgs_nil)))))))
  (qss_cons (qs_set (i := 7) sc_25.nd rfl (by first | exact Or.inl rfl | exact Or.inr rfl) (qe_lst (qa_cons (qv 1) (qa_cons (qe_tup (qa_cons (qv 2) (qa_cons (qe_callB (dcall_min2 rfl) rfl T.z_min (by decide +kernel) (qa_cons (qv 3) (qa_cons (qv 5) qa_nil))) (qa_cons (qv 4) (qa_cons (qv 5) (qa_cons (qv 6) qa_nil)))))) (qa_cons (qe_tup (qa_cons (qv 2) (qa_cons (qe_op dop_add (qv 3) (qv 5)) (qa_cons (qv 4) (qa_cons (qv 5) (qa_cons (qv 6) qa_nil)))))) qa_nil)))))
  (qss_cons (qs_expr (qe_bm PySem.F.plainAttrs_list PySem.F.slot_list_append PySem.F.type_list_append okLst_ty dmt_append (qv 7) (qa_cons (qe_tup (qa_cons (qe_callB (dcall_min2 rfl) rfl T.z_min (by decide +kernel) (qa_cons qi (qa_cons (qe_op dop_add (qv 2) qi) qa_nil))) (qa_cons (qv 3) (qa_cons (qv 4) (qa_cons (qv 5) (qa_cons (qv 6) qa_nil)))))) qa_nil)))
  (qss_cons (qs_expr (qe_bm PySem.F.plainAttrs_list PySem.F.slot_list_append PySem.F.type_list_append okLst_ty dmt_append (qv 7) (qa_cons (qe_tup (qa_cons (qv 2) (qa_cons (qv 3) (qa_cons (qe_op dop_add (qv 4) qi) (qa_cons (qv 5) (qa_cons (qv 6) qa_nil)))))) qa_nil)))
  (qss_cons (qs_expr (qe_bm PySem.F.plainAttrs_list PySem.F.slot_list_append PySem.F.type_list_append okLst_ty dmt_append (qv 7) (qa_cons (qe_tup (qa_cons (qv 2) (qa_cons (qv 3) (qa_cons (qv 4) (qa_cons (qe_op dop_add (qv 5) qi) (qa_cons (qv 6) qa_nil)))))) qa_nil)))
  (qss_cons (qs_expr (qe_bm PySem.F.plainAttrs_list PySem.F.slot_list_append PySem.F.type_list_append okLst_ty dmt_append (qv 7) (qa_cons (qe_tup (qa_cons (qv 2) (qa_cons (qv 3) (qa_cons qi (qa_cons (qe_callB (dcall_min2 rfl) rfl T.z_min (by decide +kernel) (qa_cons (qv 3) (qa_cons (qv 5) qa_nil))) (qa_cons (qv 6) qa_nil)))))) qa_nil)))
  (qss_cons (qs_set (i := 8) sc_25.nd rfl (by first | exact Or.inl rfl | exact Or.inr rfl) (qe_callB (dcall_sum rfl) rfl T.z_sum (by decide +kernel) (qa_cons (qe_call (sem_len (i := 22)) ih.o22 hr rfl T.m22 T.F22.kp T.b22 (qa_cons (qe_tup (qa_cons (qv 2) (qa_cons (qv 3) (qa_cons (qv 4) (qa_cons (qv 5) (qa_cons qn qa_nil)))))) qa_nil)) qa_nil)))
  (qss_cons (qs_expr (qe_bm PySem.F.plainAttrs_list PySem.F.slot_list_append PySem.F.type_list_append okLst_ty dmt_append (qv 7) (qa_cons (qe_tup (qa_cons (qv 2) (qa_cons (qv 3) (qa_cons (qv 4) (qa_cons (qv 5) (qa_cons (qv 8) qa_nil)))))) qa_nil)))
  (qss_cons (qs_expr (qe_bm PySem.F.plainAttrs_list PySem.F.slot_list_append PySem.F.type_list_append okLst_ty dmt_append (qv 7) (qa_cons (qe_tup (qa_cons (qe_op dop_sub (qe_op dop_add (qv 2) qi) (qe_callTy dcall_int rfl T.z_int (by decide +kernel) (qa_cons (qe_cmp (dop_eq (hu100 hr)) (qv 2) qi (nomark _)) qa_nil))) (qa_cons (qv 3) (qa_cons (qv 4) (qa_cons (qv 5) (qa_cons (qv 8) qa_nil)))))) qa_nil)))
  (qss_cons (qs_expr (qe_bm PySem.F.plainAttrs_list PySem.F.slot_list_append PySem.F.type_list_append okLst_ty dmt_append (qv 7) (qa_cons (qe_tup (qa_cons (qv 2) (qa_cons (qv 3) (qa_cons (qv 4) (qa_cons (qv 5) (qa_cons (qe_callB (dcall_max2 rfl) rfl T.z_max (by decide +kernel) (qa_cons qi (qa_cons (qe_op dop_sub (qv 8) qi) qa_nil))) qa_nil)))))) qa_nil)))
  (qss_cons (qs_expr (qe_bm PySem.F.plainAttrs_list PySem.F.slot_list_append PySem.F.type_list_append okLst_ty dmt_append (qv 7) (qa_cons (qe_tup (qa_cons (qv 2) (qa_cons (qv 3) (qa_cons (qv 4) (qa_cons (qv 5) (qa_cons (qe_call (sem_len (i := 10)) ih.o10 hr rfl T.m10 T.F10.kp T.b10 (qa_cons (qv 0) (qa_cons (qe_lst (qa_cons qn (qa_cons qi (qa_cons (qe_op dop_add (qv 8) qi) qa_nil)))) qa_nil))) qa_nil)))))) qa_nil)))
  (qss_one (qs_ret (qv 7))))))))))))))
/- _law_goes -/
theorem w_26 (T : Txt K mg) (ih : IH P w base T n) (cdv : Value) (A : Around) (outer : List Env) (s : Shared) (H : Hp) (E : XK) (hr : Room n (A.deeper (envOfC "_law_goes" (defScope s_26) s.heap.objs.size (T.f 26) cdv))) :
    PSs (cxOf CX0 P w K mg base N_26 "_law_goes" (defScope s_26) (T.f 26) cdv A outer s H E).nox (defBody s_26) (liftS K (b_26 (sem fs n))) :=
  (qss_cons (qs_set (i := 3) sc_26.nd rfl (by first | exact Or.inl rfl | exact Or.inr rfl) (qe_and (qe_cmp (dop_eq (hu100 hr)) (qe_ix (qv 1) qi (fun _ _ => rfl)) (qe_ix (qv 2) qi (fun _ _ => rfl)) (nomark _)) (qe_one (qe_cmp (dop_eq (hu100 hr)) (qe_call (sem_len (i := 22)) ih.o22 hr rfl T.m22 T.F22.kp T.b22 (qa_cons (qv 1) qa_nil)) (qe_call (sem_len (i := 22)) ih.o22 hr rfl T.m22 T.F22.kp T.b22 (qa_cons (qv 2) qa_nil)) (nomark _)))))
  (qss_cons (qs_if (qt_not (qt_val (qe_call (sem_len (i := 11)) ih.o11 hr rfl T.m11 T.F11.kp T.b11 (qa_cons (qe_call (sem_len (i := 5)) ih.o5 hr rfl T.m5 T.F5.kp T.b5 (qa_cons (qv 1) (qa_cons (qv 2) qa_nil))) (qa_cons (qv 3) qa_nil))))) (qss_one (qs_ret qb)) qss_nil)
  (qss_cons (qs_set (i := 4) sc_26.nd rfl (by first | exact Or.inl rfl | exact Or.inr rfl) (qe_call (sem_len (i := 6)) ih.o6 hr rfl T.m6 T.F6.kp T.b6 (qa_cons (qv 1) (qa_cons (qv 2) qa_nil))))
  (qss_cons (qs_set (i := 5) sc_26.nd rfl (by first | exact Or.inl rfl | exact Or.inr rfl) (qe_op dop_add (qe_lst (qa_cons (qe_call (sem_len (i := 20)) ih.o20 hr rfl T.m20 T.F20.kp T.b20 (qa_cons (qv 0) (qa_cons qi qa_nil))) (qa_cons (qe_call (sem_len (i := 23)) ih.o23 hr rfl T.m23 T.F23.kp T.b23 (qa_cons (qv 1) (qa_cons (qv 2) qa_nil))) qa_nil))) (qe_lst (qa_cons (qe_tup qa_nil) qa_nil))))
  (qss_cons (qs_if (qt_val (qv 3)) (qss_one (qs_if (qt_cmp dop_isnot (qv 4) qn (nomark _)) (qss_one (qs_ret qb)) qss_nil)) (qss_cons (qs_if (qt_w (qw_or (qt_not (qt_val (qe_call (sem_len (i := 24)) ih.o24 hr rfl T.m24 T.F24.kp T.b24 (qa_cons (qv 4) qa_nil)))) (qw_or1 (qt_cmp (dop_eq (hu100 hr)) (qe_call (sem_len (i := 17)) ih.o17 hr rfl T.m17 T.F17.kp T.b17 (qa_cons (qv 1) (qa_cons (qv 4) qa_nil))) (qe_call (sem_len (i := 17)) ih.o17 hr rfl T.m17 T.F17.kp T.b17 (qa_cons (qv 2) (qa_cons (qv 4) qa_nil))) (nomark _))))) (qss_one (qs_ret qb)) qss_nil)
    (qss_one (qs_set (i := 5) sc_26.nd rfl (by first | exact Or.inl rfl | exact Or.inr rfl) (qe_op dop_add (qv 5) (qe_lst (qa_cons (qv 4) (qa_cons (qe_slice (qv 4) qo_none (qo_some (qe_un dun_neg qi))) (qa_cons (qe_slice (qe_call (sem_len (i := 23)) ih.o23 hr rfl T.m23 T.F23.kp T.b23 (qa_cons (qv 1) (qa_cons (qv 2) qa_nil))) qo_none (qo_some (qe_un dun_neg qi))) qa_nil)))))))))
  (qss_cons (qs_for PassesOwn.never rfl (qi_seq (qv 5)) (qg_name (i := 4) sc_26.nd rfl (by first | exact Or.inl rfl | exact Or.inr rfl)) (qss_cons (qs_set (i := 6) sc_26.nd rfl (by first | exact Or.inl rfl | exact Or.inr rfl) (qe_call (sem_len (i := 17)) ih.o17 hr rfl T.m17 T.F17.kp T.b17 (qa_cons (qv 1) (qa_cons (qv 4) qa_nil))))
    (qss_cons (qs_if (qt_not (qt_val (qe_call (sem_len (i := 11)) ih.o11 hr rfl T.m11 T.F11.kp T.b11 (qa_cons (qe_call (sem_len (i := 7)) ih.o7 hr rfl T.m7 T.F7.kp T.b7 (qa_cons (qv 1) (qa_cons (qv 2) (qa_cons (qv 4) qa_nil)))) (qa_cons (qe_cmp (dop_ne (hu100 hr)) (qv 6) (qe_call (sem_len (i := 17)) ih.o17 hr rfl T.m17 T.F17.kp T.b17 (qa_cons (qv 2) (qa_cons (qv 4) qa_nil))) (nomark _)) qa_nil))))) (qss_one (qs_ret qb)) qss_nil)
    (qss_one (qs_if (qt_not (qt_val (qe_call (sem_len (i := 11)) ih.o11 hr rfl T.m11 T.F11.kp T.b11 (qa_cons (qe_lst (qa_cons (qe_call (sem_len (i := 2)) ih.o2 hr rfl T.m2 T.F2.kp T.b2 (qa_cons (qv 1) (qa_cons (qv 4) qa_nil))) (qa_cons (qe_call (sem_len (i := 2)) ih.o2 hr rfl T.m2 T.F2.kp T.b2 (qa_cons (qv 2) (qa_cons (qv 4) qa_nil))) qa_nil))) (qa_cons (qe_lst (qa_cons (qv 6) (qa_cons (qe_call (sem_len (i := 17)) ih.o17 hr rfl T.m17 T.F17.kp T.b17 (qa_cons (qv 2) (qa_cons (qv 4) qa_nil))) qa_nil))) qa_nil))))) (qss_one (qs_ret qb)) qss_nil)))))
  (qss_one (qs_ret qb))))))))
/- law -/
theorem w_27 (T : Txt K mg) (ih : IH P w base T n) (cdv : Value) (A : Around) (outer : List Env) (s : Shared) (H : Hp) (E : XK) (hr : Room n (A.deeper (envOfC "law" (defScope s_27) s.heap.objs.size (T.f 27) cdv))) :
    PSs (cxOf CX0 P w K mg base N_27 "law" (defScope s_27) (T.f 27) cdv A outer s H E).nox (defBody s_27) (liftS K (b_27 (sem fs n))) :=
  (qss_cons (qs_set (i := 1) sc_27.nd rfl (by first | exact Or.inl rfl | exact Or.inr rfl) (qe_call (sem_len (i := 8)) ih.o8 hr rfl T.m8 T.F8.kp T.b8 (qa_cons (qv 0) (qa_cons qi qa_nil))))
  (qss_cons (qs_for PassesOwn.never rfl (qi_range1 rfl T.z_range (qa_cons qi qa_nil)) (qg_name (i := 2) sc_27.nd rfl (by first | exact Or.inl rfl | exact Or.inr rfl)) (qss_cons (qs_set (i := 3) sc_27.nd rfl (by first | exact Or.inl rfl | exact Or.inr rfl) (qe_call (sem_len (i := 19)) ih.o19 hr rfl T.m19 T.F19.kp T.b19 (qa_cons (qv 1) (qa_cons (qe_ix (qe_lst (qa_cons qi (qa_cons qi qa_nil))) (qv 2) (fun _ _ => rfl)) qa_nil))))
    (qss_cons (qs_if (qt_cmp (dop_eq (hu100 hr)) (qe_call (sem_len (i := 9)) ih.o9 hr rfl T.m9 T.F9.kp T.b9 (qa_cons (qv 1) (qa_cons qi qa_nil))) qi (nomark _)) (qss_one (qs_set (i := 3) sc_27.nd rfl (by first | exact Or.inl rfl | exact Or.inr rfl) (qe_call (sem_len (i := 21)) ih.o21 hr rfl T.m21 T.F21.kp T.b21 (qa_cons (qv 1) (qa_cons (qv 3) (qa_cons (qe_op dop_mul (qe_tup (qa_cons (qe_tup (qa_cons qi (qa_cons (qe_tup (qa_cons qs (qa_cons qs qa_nil))) qa_nil))) qa_nil)) (qe_ix (qv 3) qi (fun _ _ => rfl))) qa_nil)))))) qss_nil)
    (qss_cons (qs_set (i := 4) sc_27.nd rfl (by first | exact Or.inl rfl | exact Or.inr rfl) (qe_call (sem_len (i := 25)) ih.o25 hr rfl T.m25 T.F25.kp T.b25 (qa_cons (qv 1) (qa_cons (qv 3) qa_nil))))
    (qss_cons (qs_for PassesOwn.never rfl (qi_range1 rfl T.z_range (qa_cons qi qa_nil)) (qg_name (i := 5) sc_27.nd rfl (by first | exact Or.inl rfl | exact Or.inr rfl)) (qss_one (qs_if (qt_not (qt_val (qe_call (sem_len (i := 26)) ih.o26 hr rfl T.m26 T.F26.kp T.b26 (qa_cons (qv 1) (qa_cons (qe_call (sem_len (i := 10)) ih.o10 hr rfl T.m10 T.F10.kp T.b10 (qa_cons (qv 1) (qa_cons (qv 4) qa_nil))) (qa_cons (qe_call (sem_len (i := 10)) ih.o10 hr rfl T.m10 T.F10.kp T.b10 (qa_cons (qv 1) (qa_cons (qv 4) qa_nil))) qa_nil)))))) (qss_one (qs_ret qb)) qss_nil)))
    (qss_one (qs_if (qt_w (qw_or (qt_not (qt_val (qe_call (sem_len (i := 26)) ih.o26 hr rfl T.m26 T.F26.kp T.b26 (qa_cons (qv 1) (qa_cons (qe_ix (qv 4) qi (fun _ _ => rfl)) (qa_cons (qe_ix (qv 4) qi (fun _ _ => rfl)) qa_nil)))))) (qw_or1 (qt_not (qt_val (qe_call (sem_len (i := 26)) ih.o26 hr rfl T.m26 T.F26.kp T.b26 (qa_cons (qv 1) (qa_cons (qe_call (sem_len (i := 19)) ih.o19 hr rfl T.m19 T.F19.kp T.b19 (qa_cons (qv 1) (qa_cons qi qa_nil))) (qa_cons (qv 3) qa_nil))))))))) (qss_one (qs_ret qb)) qss_nil)))))))
  (qss_one (qs_ret qb))))
end
theorem all {P : Program} {w : World} {K : PySem.W.Frag} {mg : Str → Option Value} {base : Heap} (T : Txt K mg) : ∀ n, IH P w base T n
  | 0 => ⟨FnOk.zero rfl, FnOk.zero rfl, FnOk.zero rfl, FnOk.zero rfl, FnOk.zero rfl, FnOk.zero rfl, FnOk.zero rfl, FnOk.zero rfl, FnOk.zero rfl, FnOk.zero rfl, FnOk.zero rfl, FnOk.zero rfl, FnOk.zero rfl, FnOk.zero rfl, FnOk.zero rfl, FnOk.zero rfl, FnOk.zero rfl, FnOk.zero rfl, FnOk.zero rfl, FnOk.zero rfl, FnOk.zero rfl, FnOk.zero rfl, FnOk.zero rfl, FnOk.zero rfl, FnOk.zero rfl, FnOk.zero rfl, FnOk.zero rfl, FnOk.zero rfl⟩
  | n + 1 => by
    have ih := all (P := P) (w := w) (base := base) T n
    exact ⟨fn_ok T.F0 sc_0 rfl rfl (fun cdv A outer s H E hr => w_0 T ih cdv A outer s H E hr), fn_ok T.F1 sc_1 rfl rfl (fun cdv A outer s H E hr => w_1 T ih cdv A outer s H E hr), fn_ok T.F2 sc_2 rfl rfl (fun cdv A outer s H E hr => w_2 T ih cdv A outer s H E hr), fn_ok T.F3 sc_3 rfl rfl (fun cdv A outer s H E hr => w_3 T ih cdv A outer s H E hr), fn_ok T.F4 sc_4 rfl rfl (fun cdv A outer s H E hr => w_4 T ih cdv A outer s H E hr), fn_ok T.F5 sc_5 rfl rfl (fun cdv A outer s H E hr => w_5 T ih cdv A outer s H E hr), fn_ok T.F6 sc_6 rfl rfl (fun cdv A outer s H E hr => w_6 T ih cdv A outer s H E hr), fn_ok T.F7 sc_7 rfl rfl (fun cdv A outer s H E hr => w_7 T ih cdv A outer s H E hr), fn_ok T.F8 sc_8 rfl rfl (fun cdv A outer s H E hr => w_8 T ih cdv A outer s H E hr), fn_ok T.F9 sc_9 rfl rfl (fun cdv A outer s H E hr => w_9 T ih cdv A outer s H E hr), fn_ok T.F10 sc_10 rfl rfl (fun cdv A outer s H E hr => w_10 T ih cdv A outer s H E hr), fn_ok T.F11 sc_11 rfl rfl (fun cdv A outer s H E hr => w_11 T ih cdv A outer s H E hr), fn_ok T.F12 sc_12 rfl rfl (fun cdv A outer s H E hr => w_12 T ih cdv A outer s H E hr), fn_ok T.F13 sc_13 rfl rfl (fun cdv A outer s H E hr => w_13 T ih cdv A outer s H E hr), fn_ok T.F14 sc_14 rfl rfl (fun cdv A outer s H E hr => w_14 T ih cdv A outer s H E hr), fn_ok T.F15 sc_15 rfl rfl (fun cdv A outer s H E hr => w_15 T ih cdv A outer s H E hr), fn_ok T.F16 sc_16 rfl rfl (fun cdv A outer s H E hr => w_16 T ih cdv A outer s H E hr), fn_ok T.F17 sc_17 rfl rfl (fun cdv A outer s H E hr => w_17 T ih cdv A outer s H E hr), fn_ok T.F18 sc_18 rfl rfl (fun cdv A outer s H E hr => w_18 T ih cdv A outer s H E hr), fn_ok T.F19 sc_19 rfl rfl (fun cdv A outer s H E hr => w_19 T ih cdv A outer s H E hr), fn_ok T.F20 sc_20 rfl rfl (fun cdv A outer s H E hr => w_20 T ih cdv A outer s H E hr), fn_ok T.F21 sc_21 rfl rfl (fun cdv A outer s H E hr => w_21 T ih cdv A outer s H E hr), fn_ok T.F22 sc_22 rfl rfl (fun cdv A outer s H E hr => w_22 T ih cdv A outer s H E hr), fn_ok T.F23 sc_23 rfl rfl (fun cdv A outer s H E hr => w_23 T ih cdv A outer s H E hr), fn_ok T.F24 sc_24 rfl rfl (fun cdv A outer s H E hr => w_24 T ih cdv A outer s H E hr), fn_ok T.F25 sc_25 rfl rfl (fun cdv A outer s H E hr => w_25 T ih cdv A outer s H E hr), fn_ok T.F26 sc_26 rfl rfl (fun cdv A outer s H E hr => w_26 T ih cdv A outer s H E hr), fn_ok T.F27 sc_27 rfl rfl (fun cdv A outer s H E hr => w_27 T ih cdv A outer s H E hr)⟩
theorem all_mk {l : PySem.W.OpenLaw} {w : World} {K : PySem.W.Frag} {h : Heap} {mg : Str → Option Value} {fa f0 f1 f2 f3 f4 f5 f6 f7 f8 f9 f10 f11 f12 f13 f14 f15 f16 f17 f18 f19 f20 f21 f22 f23 f24 f25 f26 f27 : Addr} (X : K.In h) (G : h.Ns mainGlobals mg) (hfa : mg "law" = some (.ref fa))
    {od0 an0 : Option Addr} {sl0 : Array (Option Value)} {oc0 kV0 dc0 pm0 cd0 ct0 : Value}
    {od1 an1 : Option Addr} {sl1 : Array (Option Value)} {oc1 kV1 dc1 pm1 cd1 ct1 : Value}
    {od2 an2 : Option Addr} {sl2 : Array (Option Value)} {oc2 kV2 dc2 pm2 cd2 ct2 : Value}
    {od3 an3 : Option Addr} {sl3 : Array (Option Value)} {oc3 kV3 dc3 pm3 cd3 ct3 : Value}
    {od4 an4 : Option Addr} {sl4 : Array (Option Value)} {oc4 kV4 dc4 pm4 cd4 ct4 : Value}
    {od5 an5 : Option Addr} {sl5 : Array (Option Value)} {oc5 kV5 dc5 pm5 cd5 ct5 : Value}
    {od6 an6 : Option Addr} {sl6 : Array (Option Value)} {oc6 kV6 dc6 pm6 cd6 ct6 : Value}
    {od7 an7 : Option Addr} {sl7 : Array (Option Value)} {oc7 kV7 dc7 pm7 cd7 ct7 : Value}
    {od8 an8 : Option Addr} {sl8 : Array (Option Value)} {oc8 kV8 dc8 pm8 cd8 ct8 : Value}
    {od9 an9 : Option Addr} {sl9 : Array (Option Value)} {oc9 kV9 dc9 pm9 cd9 ct9 : Value}
    {od10 an10 : Option Addr} {sl10 : Array (Option Value)} {oc10 kV10 dc10 pm10 cd10 ct10 : Value}
    {od11 an11 : Option Addr} {sl11 : Array (Option Value)} {oc11 kV11 dc11 pm11 cd11 ct11 : Value}
    {od12 an12 : Option Addr} {sl12 : Array (Option Value)} {oc12 kV12 dc12 pm12 cd12 ct12 : Value}
    {od13 an13 : Option Addr} {sl13 : Array (Option Value)} {oc13 kV13 dc13 pm13 cd13 ct13 : Value}
    {od14 an14 : Option Addr} {sl14 : Array (Option Value)} {oc14 kV14 dc14 pm14 cd14 ct14 : Value}
    {od15 an15 : Option Addr} {sl15 : Array (Option Value)} {oc15 kV15 dc15 pm15 cd15 ct15 : Value}
    {od16 an16 : Option Addr} {sl16 : Array (Option Value)} {oc16 kV16 dc16 pm16 cd16 ct16 : Value}
    {od17 an17 : Option Addr} {sl17 : Array (Option Value)} {oc17 kV17 dc17 pm17 cd17 ct17 : Value}
    {od18 an18 : Option Addr} {sl18 : Array (Option Value)} {oc18 kV18 dc18 pm18 cd18 ct18 : Value}
    {od19 an19 : Option Addr} {sl19 : Array (Option Value)} {oc19 kV19 dc19 pm19 cd19 ct19 : Value}
    {od20 an20 : Option Addr} {sl20 : Array (Option Value)} {oc20 kV20 dc20 pm20 cd20 ct20 : Value}
    {od21 an21 : Option Addr} {sl21 : Array (Option Value)} {oc21 kV21 dc21 pm21 cd21 ct21 : Value}
    {od22 an22 : Option Addr} {sl22 : Array (Option Value)} {oc22 kV22 dc22 pm22 cd22 ct22 : Value}
    {od23 an23 : Option Addr} {sl23 : Array (Option Value)} {oc23 kV23 dc23 pm23 cd23 ct23 : Value}
    {od24 an24 : Option Addr} {sl24 : Array (Option Value)} {oc24 kV24 dc24 pm24 cd24 ct24 : Value}
    {od25 an25 : Option Addr} {sl25 : Array (Option Value)} {oc25 kV25 dc25 pm25 cd25 ct25 : Value}
    {od26 an26 : Option Addr} {sl26 : Array (Option Value)} {oc26 kV26 dc26 pm26 cd26 ct26 : Value}
    {od27 an27 : Option Addr} {sl27 : Array (Option Value)} {oc27 kV27 dc27 pm27 cd27 ct27 : Value}
    (a0 : PySem.W.nsIn K mainGlobals "retry_waits" = some (some (.ref f0))) (l0 : K.lookup f0 = some ⟨oc0, od0, .func (PySem.W.fnOf "retry_waits" "retry_waits" (defArgs s_0) (defBody s_0) (defScope s_0) .none kV0 dc0 pm0 an0 cd0 ct0), sl0⟩) (c0 : PySem.W.codeIn K cd0 "retry_waits" = true) (k0 : PySem.W.keepIn K (.ref f0) = true)
    (a1 : PySem.W.nsIn K mainGlobals "is_behind" = some (some (.ref f1))) (l1 : K.lookup f1 = some ⟨oc1, od1, .func (PySem.W.fnOf "is_behind" "is_behind" (defArgs s_1) (defBody s_1) (defScope s_1) .none kV1 dc1 pm1 an1 cd1 ct1), sl1⟩) (c1 : PySem.W.codeIn K cd1 "is_behind" = true) (k1 : PySem.W.keepIn K (.ref f1) = true)
    (a2 : PySem.W.nsIn K mainGlobals "retried" = some (some (.ref f2))) (l2 : K.lookup f2 = some ⟨oc2, od2, .func (PySem.W.fnOf "retried" "retried" (defArgs s_2) (defBody s_2) (defScope s_2) .none kV2 dc2 pm2 an2 cd2 ct2), sl2⟩) (c2 : PySem.W.codeIn K cd2 "retried" = true) (k2 : PySem.W.keepIn K (.ref f2) = true)
    (a3 : PySem.W.nsIn K mainGlobals "bad_series" = some (some (.ref f3))) (l3 : K.lookup f3 = some ⟨oc3, od3, .func (PySem.W.fnOf "bad_series" "bad_series" (defArgs s_3) (defBody s_3) (defScope s_3) .none kV3 dc3 pm3 an3 cd3 ct3), sl3⟩) (c3 : PySem.W.codeIn K cd3 "bad_series" = true) (k3 : PySem.W.keepIn K (.ref f3) = true)
    (a4 : PySem.W.nsIn K mainGlobals "counting_waits" = some (some (.ref f4))) (l4 : K.lookup f4 = some ⟨oc4, od4, .func (PySem.W.fnOf "counting_waits" "counting_waits" (defArgs s_4) (defBody s_4) (defScope s_4) .none kV4 dc4 pm4 an4 cd4 ct4), sl4⟩) (c4 : PySem.W.codeIn K cd4 "counting_waits" = true) (k4 : PySem.W.keepIn K (.ref f4) = true)
    (a5 : PySem.W.nsIn K mainGlobals "plans_alike" = some (some (.ref f5))) (l5 : K.lookup f5 = some ⟨oc5, od5, .func (PySem.W.fnOf "plans_alike" "plans_alike" (defArgs s_5) (defBody s_5) (defScope s_5) .none kV5 dc5 pm5 an5 cd5 ct5), sl5⟩) (c5 : PySem.W.codeIn K cd5 "plans_alike" = true) (k5 : PySem.W.keepIn K (.ref f5) = true)
    (a6 : PySem.W.nsIn K mainGlobals "parting_series" = some (some (.ref f6))) (l6 : K.lookup f6 = some ⟨oc6, od6, .func (PySem.W.fnOf "parting_series" "parting_series" (defArgs s_6) (defBody s_6) (defScope s_6) .none kV6 dc6 pm6 an6 cd6 ct6), sl6⟩) (c6 : PySem.W.codeIn K cd6 "parting_series" = true) (k6 : PySem.W.keepIn K (.ref f6) = true)
    (a7 : PySem.W.nsIn K mainGlobals "judge_parting_series" = some (some (.ref f7))) (l7 : K.lookup f7 = some ⟨oc7, od7, .func (PySem.W.fnOf "judge_parting_series" "judge_parting_series" (defArgs s_7) (defBody s_7) (defScope s_7) .none kV7 dc7 pm7 an7 cd7 ct7), sl7⟩) (c7 : PySem.W.codeIn K cd7 "judge_parting_series" = true) (k7 : PySem.W.keepIn K (.ref f7) = true)
    (a8 : PySem.W.nsIn K mainGlobals "_law_draws" = some (some (.ref f8))) (l8 : K.lookup f8 = some ⟨oc8, od8, .func (PySem.W.fnOf "_law_draws" "_law_draws" (defArgs s_8) (defBody s_8) (defScope s_8) .none kV8 dc8 pm8 an8 cd8 ct8), sl8⟩) (c8 : PySem.W.codeIn K cd8 "_law_draws" = true) (k8 : PySem.W.keepIn K (.ref f8) = true)
    (a9 : PySem.W.nsIn K mainGlobals "_law_take" = some (some (.ref f9))) (l9 : K.lookup f9 = some ⟨oc9, od9, .func (PySem.W.fnOf "_law_take" "_law_take" (defArgs s_9) (defBody s_9) (defScope s_9) .none kV9 dc9 pm9 an9 cd9 ct9), sl9⟩) (c9 : PySem.W.codeIn K cd9 "_law_take" = true) (k9 : PySem.W.keepIn K (.ref f9) = true)
    (a10 : PySem.W.nsIn K mainGlobals "_law_pick" = some (some (.ref f10))) (l10 : K.lookup f10 = some ⟨oc10, od10, .func (PySem.W.fnOf "_law_pick" "_law_pick" (defArgs s_10) (defBody s_10) (defScope s_10) .none kV10 dc10 pm10 an10 cd10 ct10), sl10⟩) (c10 : PySem.W.codeIn K cd10 "_law_pick" = true) (k10 : PySem.W.keepIn K (.ref f10) = true)
    (a11 : PySem.W.nsIn K mainGlobals "_law_same" = some (some (.ref f11))) (l11 : K.lookup f11 = some ⟨oc11, od11, .func (PySem.W.fnOf "_law_same" "_law_same" (defArgs s_11) (defBody s_11) (defScope s_11) .none kV11 dc11 pm11 an11 cd11 ct11), sl11⟩) (c11 : PySem.W.codeIn K cd11 "_law_same" = true) (k11 : PySem.W.keepIn K (.ref f11) = true)
    (a12 : PySem.W.nsIn K mainGlobals "_law_is_int" = some (some (.ref f12))) (l12 : K.lookup f12 = some ⟨oc12, od12, .func (PySem.W.fnOf "_law_is_int" "_law_is_int" (defArgs s_12) (defBody s_12) (defScope s_12) .none kV12 dc12 pm12 an12 cd12 ct12), sl12⟩) (c12 : PySem.W.codeIn K cd12 "_law_is_int" = true) (k12 : PySem.W.keepIn K (.ref f12) = true)
    (a13 : PySem.W.nsIn K mainGlobals "_law_word" = some (some (.ref f13))) (l13 : K.lookup f13 = some ⟨oc13, od13, .func (PySem.W.fnOf "_law_word" "_law_word" (defArgs s_13) (defBody s_13) (defScope s_13) .none kV13 dc13 pm13 an13 cd13 ct13), sl13⟩) (c13 : PySem.W.codeIn K cd13 "_law_word" = true) (k13 : PySem.W.keepIn K (.ref f13) = true)
    (a14 : PySem.W.nsIn K mainGlobals "_law_number" = some (some (.ref f14))) (l14 : K.lookup f14 = some ⟨oc14, od14, .func (PySem.W.fnOf "_law_number" "_law_number" (defArgs s_14) (defBody s_14) (defScope s_14) .none kV14 dc14 pm14 an14 cd14 ct14), sl14⟩) (c14 : PySem.W.codeIn K cd14 "_law_number" = true) (k14 : PySem.W.keepIn K (.ref f14) = true)
    (a15 : PySem.W.nsIn K mainGlobals "_law_value" = some (some (.ref f15))) (l15 : K.lookup f15 = some ⟨oc15, od15, .func (PySem.W.fnOf "_law_value" "_law_value" (defArgs s_15) (defBody s_15) (defScope s_15) .none kV15 dc15 pm15 an15 cd15 ct15), sl15⟩) (c15 : PySem.W.codeIn K cd15 "_law_value" = true) (k15 : PySem.W.keepIn K (.ref f15) = true)
    (a16 : PySem.W.nsIn K mainGlobals "_law_waits" = some (some (.ref f16))) (l16 : K.lookup f16 = some ⟨oc16, od16, .func (PySem.W.fnOf "_law_waits" "_law_waits" (defArgs s_16) (defBody s_16) (defScope s_16) .none kV16 dc16 pm16 an16 cd16 ct16), sl16⟩) (c16 : PySem.W.codeIn K cd16 "_law_waits" = true) (k16 : PySem.W.keepIn K (.ref f16) = true)
    (a17 : PySem.W.nsIn K mainGlobals "_law_retried" = some (some (.ref f17))) (l17 : K.lookup f17 = some ⟨oc17, od17, .func (PySem.W.fnOf "_law_retried" "_law_retried" (defArgs s_17) (defBody s_17) (defScope s_17) .none kV17 dc17 pm17 an17 cd17 ct17), sl17⟩) (c17 : PySem.W.codeIn K cd17 "_law_retried" = true) (k17 : PySem.W.keepIn K (.ref f17) = true)
    (a18 : PySem.W.nsIn K mainGlobals "_law_length" = some (some (.ref f18))) (l18 : K.lookup f18 = some ⟨oc18, od18, .func (PySem.W.fnOf "_law_length" "_law_length" (defArgs s_18) (defBody s_18) (defScope s_18) .none kV18 dc18 pm18 an18 cd18 ct18), sl18⟩) (c18 : PySem.W.codeIn K cd18 "_law_length" = true) (k18 : PySem.W.keepIn K (.ref f18) = true)
    (a19 : PySem.W.nsIn K mainGlobals "_law_plan" = some (some (.ref f19))) (l19 : K.lookup f19 = some ⟨oc19, od19, .func (PySem.W.fnOf "_law_plan" "_law_plan" (defArgs s_19) (defBody s_19) (defScope s_19) .none kV19 dc19 pm19 an19 cd19 ct19), sl19⟩) (c19 : PySem.W.codeIn K cd19 "_law_plan" = true) (k19 : PySem.W.keepIn K (.ref f19) = true)
    (a20 : PySem.W.nsIn K mainGlobals "_law_series" = some (some (.ref f20))) (l20 : K.lookup f20 = some ⟨oc20, od20, .func (PySem.W.fnOf "_law_series" "_law_series" (defArgs s_20) (defBody s_20) (defScope s_20) .none kV20 dc20 pm20 an20 cd20 ct20), sl20⟩) (c20 : PySem.W.codeIn K cd20 "_law_series" = true) (k20 : PySem.W.keepIn K (.ref f20) = true)
    (a21 : PySem.W.nsIn K mainGlobals "_law_limited" = some (some (.ref f21))) (l21 : K.lookup f21 = some ⟨oc21, od21, .func (PySem.W.fnOf "_law_limited" "_law_limited" (defArgs s_21) (defBody s_21) (defScope s_21) .none kV21 dc21 pm21 an21 cd21 ct21), sl21⟩) (c21 : PySem.W.codeIn K cd21 "_law_limited" = true) (k21 : PySem.W.keepIn K (.ref f21) = true)
    (a22 : PySem.W.nsIn K mainGlobals "_law_counted" = some (some (.ref f22))) (l22 : K.lookup f22 = some ⟨oc22, od22, .func (PySem.W.fnOf "_law_counted" "_law_counted" (defArgs s_22) (defBody s_22) (defScope s_22) .none kV22 dc22 pm22 an22 cd22 ct22), sl22⟩) (c22 : PySem.W.codeIn K cd22 "_law_counted" = true) (k22 : PySem.W.keepIn K (.ref f22) = true)
    (a23 : PySem.W.nsIn K mainGlobals "_law_own_series" = some (some (.ref f23))) (l23 : K.lookup f23 = some ⟨oc23, od23, .func (PySem.W.fnOf "_law_own_series" "_law_own_series" (defArgs s_23) (defBody s_23) (defScope s_23) .none kV23 dc23 pm23 an23 cd23 ct23), sl23⟩) (c23 : PySem.W.codeIn K cd23 "_law_own_series" = true) (k23 : PySem.W.keepIn K (.ref f23) = true)
    (a24 : PySem.W.nsIn K mainGlobals "_law_is_series" = some (some (.ref f24))) (l24 : K.lookup f24 = some ⟨oc24, od24, .func (PySem.W.fnOf "_law_is_series" "_law_is_series" (defArgs s_24) (defBody s_24) (defScope s_24) .none kV24 dc24 pm24 an24 cd24 ct24), sl24⟩) (c24 : PySem.W.codeIn K cd24 "_law_is_series" = true) (k24 : PySem.W.keepIn K (.ref f24) = true)
    (a25 : PySem.W.nsIn K mainGlobals "_law_twins" = some (some (.ref f25))) (l25 : K.lookup f25 = some ⟨oc25, od25, .func (PySem.W.fnOf "_law_twins" "_law_twins" (defArgs s_25) (defBody s_25) (defScope s_25) .none kV25 dc25 pm25 an25 cd25 ct25), sl25⟩) (c25 : PySem.W.codeIn K cd25 "_law_twins" = true) (k25 : PySem.W.keepIn K (.ref f25) = true)
    (a26 : PySem.W.nsIn K mainGlobals "_law_goes" = some (some (.ref f26))) (l26 : K.lookup f26 = some ⟨oc26, od26, .func (PySem.W.fnOf "_law_goes" "_law_goes" (defArgs s_26) (defBody s_26) (defScope s_26) .none kV26 dc26 pm26 an26 cd26 ct26), sl26⟩) (c26 : PySem.W.codeIn K cd26 "_law_goes" = true) (k26 : PySem.W.keepIn K (.ref f26) = true)
    (a27 : PySem.W.nsIn K mainGlobals "law" = some (some (.ref f27))) (l27 : K.lookup f27 = some ⟨oc27, od27, .func (PySem.W.fnOf "law" "law" (defArgs s_27) (defBody s_27) (defScope s_27) .none kV27 dc27 pm27 an27 cd27 ct27), sl27⟩) (c27 : PySem.W.codeIn K cd27 "law" = true) (k27 : PySem.W.keepIn K (.ref f27) = true)
    (z_bool : PySem.W.nsIn K mainGlobals "bool" = some none)
    (z_int : PySem.W.nsIn K mainGlobals "int" = some none)
    (z_isinstance : PySem.W.nsIn K mainGlobals "isinstance" = some none)
    (z_len : PySem.W.nsIn K mainGlobals "len" = some none)
    (z_list : PySem.W.nsIn K mainGlobals "list" = some none)
    (z_max : PySem.W.nsIn K mainGlobals "max" = some none)
    (z_min : PySem.W.nsIn K mainGlobals "min" = some none)
    (z_range : PySem.W.nsIn K mainGlobals "range" = some none)
    (z_str : PySem.W.nsIn K mainGlobals "str" = some none)
    (z_sum : PySem.W.nsIn K mainGlobals "sum" = some none)
    (z_tuple : PySem.W.nsIn K mainGlobals "tuple" = some none)
    {ga_LATE : Addr} {u0_LATE u1_LATE : Tok} {gd_LATE : Option Addr} {gn_LATE : Nat} {gs_LATE : Array (Option Value)} (e_LATE : PySem.W.nsIn K mainGlobals "LATE" = some (some (.ref ga_LATE))) (h_LATE : K.lookup ga_LATE = some ⟨.type "tuple", gd_LATE, .seq #[.str "bad" u0_LATE, .str "late" u1_LATE] gn_LATE, gs_LATE⟩)
    {t_CALM_WORD : Tok} (e_CALM_WORD : PySem.W.nsIn K mainGlobals "CALM_WORD" = some (some (.str "x" t_CALM_WORD))) :
    ∃ fd : FuncData, (∀ (s : Shared) (v : Value), BindsTo s fd ⟨[v], []⟩ [("script", v)]) ∧ ∀ base : Heap, K.In base → base.Ns mainGlobals mg → FnOk l.prog w K mg base CX0 60 fa fd ["script"] (liftF K (fs 27).np (sem fs 60 27)) := by
  have e : f27 = fa := by
    have e := hfa.symm.trans (PySem.W.mg_of X G a27)
    cases e
    rfl
  subst e
  have F0 := fun_mk (st := s_0) l0 c0 k0
  have F1 := fun_mk (st := s_1) l1 c1 k1
  have F2 := fun_mk (st := s_2) l2 c2 k2
  have F3 := fun_mk (st := s_3) l3 c3 k3
  have F4 := fun_mk (st := s_4) l4 c4 k4
  have F5 := fun_mk (st := s_5) l5 c5 k5
  have F6 := fun_mk (st := s_6) l6 c6 k6
  have F7 := fun_mk (st := s_7) l7 c7 k7
  have F8 := fun_mk (st := s_8) l8 c8 k8
  have F9 := fun_mk (st := s_9) l9 c9 k9
  have F10 := fun_mk (st := s_10) l10 c10 k10
  have F11 := fun_mk (st := s_11) l11 c11 k11
  have F12 := fun_mk (st := s_12) l12 c12 k12
  have F13 := fun_mk (st := s_13) l13 c13 k13
  have F14 := fun_mk (st := s_14) l14 c14 k14
  have F15 := fun_mk (st := s_15) l15 c15 k15
  have F16 := fun_mk (st := s_16) l16 c16 k16
  have F17 := fun_mk (st := s_17) l17 c17 k17
  have F18 := fun_mk (st := s_18) l18 c18 k18
  have F19 := fun_mk (st := s_19) l19 c19 k19
  have F20 := fun_mk (st := s_20) l20 c20 k20
  have F21 := fun_mk (st := s_21) l21 c21 k21
  have F22 := fun_mk (st := s_22) l22 c22 k22
  have F23 := fun_mk (st := s_23) l23 c23 k23
  have F24 := fun_mk (st := s_24) l24 c24 k24
  have F25 := fun_mk (st := s_25) l25 c25 k25
  have F26 := fun_mk (st := s_26) l26 c26 k26
  have F27 := fun_mk (st := s_27) l27 c27 k27
  let T : Txt K mg := ⟨fun i => [f0, f1, f2, f3, f4, f5, f6, f7, f8, f9, f10, f11, f12, f13, f14, f15, f16, f17, f18, f19, f20, f21, f22, f23, f24, f25, f26, f27].getD i 0, fun i => ([PySem.W.fnOf "retry_waits" "retry_waits" (defArgs s_0) (defBody s_0) (defScope s_0) .none kV0 dc0 pm0 an0 cd0 ct0, PySem.W.fnOf "is_behind" "is_behind" (defArgs s_1) (defBody s_1) (defScope s_1) .none kV1 dc1 pm1 an1 cd1 ct1, PySem.W.fnOf "retried" "retried" (defArgs s_2) (defBody s_2) (defScope s_2) .none kV2 dc2 pm2 an2 cd2 ct2, PySem.W.fnOf "bad_series" "bad_series" (defArgs s_3) (defBody s_3) (defScope s_3) .none kV3 dc3 pm3 an3 cd3 ct3, PySem.W.fnOf "counting_waits" "counting_waits" (defArgs s_4) (defBody s_4) (defScope s_4) .none kV4 dc4 pm4 an4 cd4 ct4, PySem.W.fnOf "plans_alike" "plans_alike" (defArgs s_5) (defBody s_5) (defScope s_5) .none kV5 dc5 pm5 an5 cd5 ct5, PySem.W.fnOf "parting_series" "parting_series" (defArgs s_6) (defBody s_6) (defScope s_6) .none kV6 dc6 pm6 an6 cd6 ct6, PySem.W.fnOf "judge_parting_series" "judge_parting_series" (defArgs s_7) (defBody s_7) (defScope s_7) .none kV7 dc7 pm7 an7 cd7 ct7, PySem.W.fnOf "_law_draws" "_law_draws" (defArgs s_8) (defBody s_8) (defScope s_8) .none kV8 dc8 pm8 an8 cd8 ct8, PySem.W.fnOf "_law_take" "_law_take" (defArgs s_9) (defBody s_9) (defScope s_9) .none kV9 dc9 pm9 an9 cd9 ct9, PySem.W.fnOf "_law_pick" "_law_pick" (defArgs s_10) (defBody s_10) (defScope s_10) .none kV10 dc10 pm10 an10 cd10 ct10, PySem.W.fnOf "_law_same" "_law_same" (defArgs s_11) (defBody s_11) (defScope s_11) .none kV11 dc11 pm11 an11 cd11 ct11, PySem.W.fnOf "_law_is_int" "_law_is_int" (defArgs s_12) (defBody s_12) (defScope s_12) .none kV12 dc12 pm12 an12 cd12 ct12, PySem.W.fnOf "_law_word" "_law_word" (defArgs s_13) (defBody s_13) (defScope s_13) .none kV13 dc13 pm13 an13 cd13 ct13, PySem.W.fnOf "_law_number" "_law_number" (defArgs s_14) (defBody s_14) (defScope s_14) .none kV14 dc14 pm14 an14 cd14 ct14, PySem.W.fnOf "_law_value" "_law_value" (defArgs s_15) (defBody s_15) (defScope s_15) .none kV15 dc15 pm15 an15 cd15 ct15, PySem.W.fnOf "_law_waits" "_law_waits" (defArgs s_16) (defBody s_16) (defScope s_16) .none kV16 dc16 pm16 an16 cd16 ct16, PySem.W.fnOf "_law_retried" "_law_retried" (defArgs s_17) (defBody s_17) (defScope s_17) .none kV17 dc17 pm17 an17 cd17 ct17, PySem.W.fnOf "_law_length" "_law_length" (defArgs s_18) (defBody s_18) (defScope s_18) .none kV18 dc18 pm18 an18 cd18 ct18, PySem.W.fnOf "_law_plan" "_law_plan" (defArgs s_19) (defBody s_19) (defScope s_19) .none kV19 dc19 pm19 an19 cd19 ct19, PySem.W.fnOf "_law_series" "_law_series" (defArgs s_20) (defBody s_20) (defScope s_20) .none kV20 dc20 pm20 an20 cd20 ct20, PySem.W.fnOf "_law_limited" "_law_limited" (defArgs s_21) (defBody s_21) (defScope s_21) .none kV21 dc21 pm21 an21 cd21 ct21, PySem.W.fnOf "_law_counted" "_law_counted" (defArgs s_22) (defBody s_22) (defScope s_22) .none kV22 dc22 pm22 an22 cd22 ct22, PySem.W.fnOf "_law_own_series" "_law_own_series" (defArgs s_23) (defBody s_23) (defScope s_23) .none kV23 dc23 pm23 an23 cd23 ct23, PySem.W.fnOf "_law_is_series" "_law_is_series" (defArgs s_24) (defBody s_24) (defScope s_24) .none kV24 dc24 pm24 an24 cd24 ct24, PySem.W.fnOf "_law_twins" "_law_twins" (defArgs s_25) (defBody s_25) (defScope s_25) .none kV25 dc25 pm25 an25 cd25 ct25, PySem.W.fnOf "_law_goes" "_law_goes" (defArgs s_26) (defBody s_26) (defScope s_26) .none kV26 dc26 pm26 an26 cd26 ct26, PySem.W.fnOf "law" "law" (defArgs s_27) (defBody s_27) (defScope s_27) .none kV27 dc27 pm27 an27 cd27 ct27]).getD i (PySem.W.fnOf "law" "law" (defArgs s_27) (defBody s_27) (defScope s_27) .none kV27 dc27 pm27 an27 cd27 ct27),
    F0, F0.binds (ps := P_0) (fun _ _ _ _ _ _ us hl => match us, hl with | [_], _ => rfl), PySem.W.mg_of X G a0,
    F1, F1.binds (ps := P_1) (fun _ _ _ _ _ _ us hl => match us, hl with | [_, _], _ => rfl), PySem.W.mg_of X G a1,
    F2, F2.binds (ps := P_2) (fun _ _ _ _ _ _ us hl => match us, hl with | [_, _], _ => rfl), PySem.W.mg_of X G a2,
    F3, F3.binds (ps := P_3) (fun _ _ _ _ _ _ us hl => match us, hl with | [_, _], _ => rfl), PySem.W.mg_of X G a3,
    F4, F4.binds (ps := P_4) (fun _ _ _ _ _ _ us hl => match us, hl with | [_], _ => rfl), PySem.W.mg_of X G a4,
    F5, F5.binds (ps := P_5) (fun _ _ _ _ _ _ us hl => match us, hl with | [_, _], _ => rfl), PySem.W.mg_of X G a5,
    F6, F6.binds (ps := P_6) (fun _ _ _ _ _ _ us hl => match us, hl with | [_, _], _ => rfl), PySem.W.mg_of X G a6,
    F7, F7.binds (ps := P_7) (fun _ _ _ _ _ _ us hl => match us, hl with | [_, _, _], _ => rfl), PySem.W.mg_of X G a7,
    F8, F8.binds (ps := P_8) (fun _ _ _ _ _ _ us hl => match us, hl with | [_, _], _ => rfl), PySem.W.mg_of X G a8,
    F9, F9.binds (ps := P_9) (fun _ _ _ _ _ _ us hl => match us, hl with | [_, _], _ => rfl), PySem.W.mg_of X G a9,
    F10, F10.binds (ps := P_10) (fun _ _ _ _ _ _ us hl => match us, hl with | [_, _], _ => rfl), PySem.W.mg_of X G a10,
    F11, F11.binds (ps := P_11) (fun _ _ _ _ _ _ us hl => match us, hl with | [_, _], _ => rfl), PySem.W.mg_of X G a11,
    F12, F12.binds (ps := P_12) (fun _ _ _ _ _ _ us hl => match us, hl with | [_], _ => rfl), PySem.W.mg_of X G a12,
    F13, F13.binds (ps := P_13) (fun _ _ _ _ _ _ us hl => match us, hl with | [_], _ => rfl), PySem.W.mg_of X G a13,
    F14, F14.binds (ps := P_14) (fun _ _ _ _ _ _ us hl => match us, hl with | [_], _ => rfl), PySem.W.mg_of X G a14,
    F15, F15.binds (ps := P_15) (fun _ _ _ _ _ _ us hl => match us, hl with | [_], _ => rfl), PySem.W.mg_of X G a15,
    F16, F16.binds (ps := P_16) (fun _ _ _ _ _ _ us hl => match us, hl with | [_], _ => rfl), PySem.W.mg_of X G a16,
    F17, F17.binds (ps := P_17) (fun _ _ _ _ _ _ us hl => match us, hl with | [_, _], _ => rfl), PySem.W.mg_of X G a17,
    F18, F18.binds (ps := P_18) (fun _ _ _ _ _ _ us hl => match us, hl with | [_], _ => rfl), PySem.W.mg_of X G a18,
    F19, F19.binds (ps := P_19) (fun _ _ _ _ _ _ us hl => match us, hl with | [_, _], _ => rfl), PySem.W.mg_of X G a19,
    F20, F20.binds (ps := P_20) (fun _ _ _ _ _ _ us hl => match us, hl with | [_, _], _ => rfl), PySem.W.mg_of X G a20,
    F21, F21.binds (ps := P_21) (fun _ _ _ _ _ _ us hl => match us, hl with | [_, _, _], _ => rfl), PySem.W.mg_of X G a21,
    F22, F22.binds (ps := P_22) (fun _ _ _ _ _ _ us hl => match us, hl with | [_], _ => rfl), PySem.W.mg_of X G a22,
    F23, F23.binds (ps := P_23) (fun _ _ _ _ _ _ us hl => match us, hl with | [_, _], _ => rfl), PySem.W.mg_of X G a23,
    F24, F24.binds (ps := P_24) (fun _ _ _ _ _ _ us hl => match us, hl with | [_], _ => rfl), PySem.W.mg_of X G a24,
    F25, F25.binds (ps := P_25) (fun _ _ _ _ _ _ us hl => match us, hl with | [_, _], _ => rfl), PySem.W.mg_of X G a25,
    F26, F26.binds (ps := P_26) (fun _ _ _ _ _ _ us hl => match us, hl with | [_, _, _], _ => rfl), PySem.W.mg_of X G a26,
    F27, F27.binds (ps := P_27) (fun _ _ _ _ _ _ us hl => match us, hl with | [_], _ => rfl), PySem.W.mg_of X G a27,
    PySem.W.mg_none_of X G z_bool,
    PySem.W.mg_none_of X G z_int,
    PySem.W.mg_none_of X G z_isinstance,
    PySem.W.mg_none_of X G z_len,
    PySem.W.mg_none_of X G z_list,
    PySem.W.mg_none_of X G z_max,
    PySem.W.mg_none_of X G z_min,
    PySem.W.mg_none_of X G z_range,
    PySem.W.mg_none_of X G z_str,
    PySem.W.mg_none_of X G z_sum,
    PySem.W.mg_none_of X G z_tuple,
    ⟨_, .ref ga_LATE, PySem.W.mg_of X G e_LATE, rfl, fun _ => .tup (vs := [.str "bad", .str "late"]) (.inr ⟨_, _, _, h_LATE, rfl, rfl, (by show 2 ≤ sizeLine; decide), .cons ⟨_, rfl⟩ (.cons ⟨_, rfl⟩ .nil)⟩) (.cons (.str _) (.cons (.str _) .nil))⟩,
    ⟨_, .str "x", PySem.W.mg_of X G e_CALM_WORD, ⟨_, rfl⟩, fun _ => .str _⟩⟩
  refine ⟨PySem.W.fnOf "law" "law" (defArgs s_27) (defBody s_27) (defScope s_27) .none kV27 dc27 pm27 an27 cd27 ct27, fun s v => .of_eq rfl, fun base _ _ => ?_⟩
  exact (all (P := l.prog) (w := w) (base := base) T 60).o27
end Gk80
open PySem PySem.W PyProof.Rows
theorem PySem.Challenge.cw_promiseskept_k80_whole_plans_alike_or_pa_holds : PySem.Challenge.rw_promiseskept_k80_whole_plans_alike_or_pa.Holds := by
  w_on; o_law; k_head; (case hw => w_witness2)
  k_fill
  refine DL.walk_end (l := PySem.Challenge.rw_promiseskept_k80_whole_plans_alike_or_pa) (k := 60) (fs := Gk80.fs) (i := 27) rfl rfl ⟨rfl, by decide, by decide⟩ rfl (fun w h Y => PySem.W.kIn_of Y) ?F Gk80.law_ok
  case F =>
    intro w mg fa h KX G hmg
    refine' Gk80.all_mk KX G hmg ?a0 ?l0 ?c0 ?k0 ?a1 ?l1 ?c1 ?k1 ?a2 ?l2 ?c2 ?k2 ?a3 ?l3 ?c3 ?k3 ?a4 ?l4 ?c4 ?k4 ?a5 ?l5 ?c5 ?k5 ?a6 ?l6 ?c6 ?k6 ?a7 ?l7 ?c7 ?k7 ?a8 ?l8 ?c8 ?k8 ?a9 ?l9 ?c9 ?k9 ?a10 ?l10 ?c10 ?k10 ?a11 ?l11 ?c11 ?k11 ?a12 ?l12 ?c12 ?k12 ?a13 ?l13 ?c13 ?k13 ?a14 ?l14 ?c14 ?k14 ?a15 ?l15 ?c15 ?k15 ?a16 ?l16 ?c16 ?k16 ?a17 ?l17 ?c17 ?k17 ?a18 ?l18 ?c18 ?k18 ?a19 ?l19 ?c19 ?k19 ?a20 ?l20 ?c20 ?k20 ?a21 ?l21 ?c21 ?k21 ?a22 ?l22 ?c22 ?k22 ?a23 ?l23 ?c23 ?k23 ?a24 ?l24 ?c24 ?k24 ?a25 ?l25 ?c25 ?k25 ?a26 ?l26 ?c26 ?k26 ?a27 ?l27 ?c27 ?k27 ?z_bool ?z_int ?z_isinstance ?z_len ?z_list ?z_max ?z_min ?z_range ?z_str ?z_sum ?z_tuple ?e_LATE ?h_LATE ?e_CALM_WORD
    (case a0 => k_is); (case l0 => k_is); (case c0 => k_is); (case k0 => k_is)
    (case a1 => k_is); (case l1 => k_is); (case c1 => k_is); (case k1 => k_is)
    (case a2 => k_is); (case l2 => k_is); (case c2 => k_is); (case k2 => k_is)
    (case a3 => k_is); (case l3 => k_is); (case c3 => k_is); (case k3 => k_is)
    (case a4 => k_is); (case l4 => k_is); (case c4 => k_is); (case k4 => k_is)
    (case a5 => k_is); (case l5 => k_is); (case c5 => k_is); (case k5 => k_is)
    (case a6 => k_is); (case l6 => k_is); (case c6 => k_is); (case k6 => k_is)
    (case a7 => k_is); (case l7 => k_is); (case c7 => k_is); (case k7 => k_is)
    (case a8 => k_is); (case l8 => k_is); (case c8 => k_is); (case k8 => k_is)
    (case a9 => k_is); (case l9 => k_is); (case c9 => k_is); (case k9 => k_is)
    (case a10 => k_is); (case l10 => k_is); (case c10 => k_is); (case k10 => k_is)
    (case a11 => k_is); (case l11 => k_is); (case c11 => k_is); (case k11 => k_is)
    (case a12 => k_is); (case l12 => k_is); (case c12 => k_is); (case k12 => k_is)
    (case a13 => k_is); (case l13 => k_is); (case c13 => k_is); (case k13 => k_is)
    (case a14 => k_is); (case l14 => k_is); (case c14 => k_is); (case k14 => k_is)
    (case a15 => k_is); (case l15 => k_is); (case c15 => k_is); (case k15 => k_is)
    (case a16 => k_is); (case l16 => k_is); (case c16 => k_is); (case k16 => k_is)
    (case a17 => k_is); (case l17 => k_is); (case c17 => k_is); (case k17 => k_is)
    (case a18 => k_is); (case l18 => k_is); (case c18 => k_is); (case k18 => k_is)
    (case a19 => k_is); (case l19 => k_is); (case c19 => k_is); (case k19 => k_is)
    (case a20 => k_is); (case l20 => k_is); (case c20 => k_is); (case k20 => k_is)
    (case a21 => k_is); (case l21 => k_is); (case c21 => k_is); (case k21 => k_is)
    (case a22 => k_is); (case l22 => k_is); (case c22 => k_is); (case k22 => k_is)
    (case a23 => k_is); (case l23 => k_is); (case c23 => k_is); (case k23 => k_is)
    (case a24 => k_is); (case l24 => k_is); (case c24 => k_is); (case k24 => k_is)
    (case a25 => k_is); (case l25 => k_is); (case c25 => k_is); (case k25 => k_is)
    (case a26 => k_is); (case l26 => k_is); (case c26 => k_is); (case k26 => k_is)
    (case a27 => k_is); (case l27 => k_is); (case c27 => k_is); (case k27 => k_is)
    (case z_bool => k_is)
    (case z_int => k_is)
    (case z_isinstance => k_is)
    (case z_len => k_is)
    (case z_list => k_is)
    (case z_max => k_is)
    (case z_min => k_is)
    (case z_range => k_is)
    (case z_str => k_is)
    (case z_sum => k_is)
    (case z_tuple => k_is)
    (case e_LATE => k_is); (case h_LATE => k_is)
    (case e_CALM_WORD => k_is)
