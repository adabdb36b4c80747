import PyProof.Rows.All
import Wide.All
import OpenK.AllK
import Wide.FinOn
import HandS.ForMost
import HandS.Wide
import HandS.TupAny
import KE.KDictKeyed
import HandS.Nested
import HandS.EndTab
import HandS.Strs
import HandS.TupMul
import HandS.Style
import KE.KxText
import HandS.IsInst
import KE.DataEq
import KE.DataFind
import KE.DataCmp
import KE.SortData
import KE.DataMinMax
import HandS.SortInts
import HandS.Rev
import HandS.RevRange
import HandS.Zip
import HandS.Conv
import HandS.Iter
import HandS.More
import HandS.SetFor
import HandS.Dict
import KE.KDictItemsList
import KE.KDictDisplayH
import HandS.DictComp
import KE.GoesMore
import KE.GoesEnum
import HandS.NoneIn
import HandS.TupSets
import HandS.Flow
import KE.SortKeyHeap
import KE.DataMinKey
import KE.KDictWalk
import HandS.Star
import PySem.Challenge.RW_promiseskept_k66_scopes_behind_events
set_option Elab.async false
set_option linter.all false
set_option maxRecDepth 100000
set_option maxHeartbeats 4000000
namespace DL
open PySem PySem.Spec PyProof.Rows L2 LamX
/-- the frozen part and the world -/
abbrev Tbl := List (Addr × Str)
structure FW where
  K : PySem.W.Frag
  w : World
  tb : Tbl
instance : Coe FW PySem.W.Frag := ⟨FW.K⟩
abbrev xfw (X : Cx) (tb : Tbl) : FW := ⟨X.K, X.w, tb⟩
inductive D where
  | non | bl (b : Bool) | int (i : Int) | str (x : Str) | tup (xs : List D) | ref (a : Addr) | ty (n : String) | fl (xs : List D) | fn (x : Str)
/-- what stands raw in a dict -/
structure DStm where
  es : Array DictEntry
  ep : Nat
inductive DO where
  | lst (xs : List D) | ins (c : Str) (nm : List Str) (xs : List D) | dct (st : DStm) (kvs : List (D × D)) | dset (xs : List D)
abbrev DS := Addr → Option DO
def dupd (S : DS) (a : Addr) (o : DO) : DS := fun b => if b = a then some o else S b
theorem dupd_same {S : DS} {a : Addr} {o : DO} : dupd S a o a = some o := by unfold dupd; rw [if_pos rfl]
theorem dupd_ne {S : DS} {a b : Addr} {o : DO} (h : b ≠ a) : dupd S a o b = S b := by unfold dupd; rw [if_neg h]
theorem dne {S : DS} {a b : Addr} {o : DO} (h : S a = some o) (h' : S b = none) : a ≠ b := by
  intro e; subst e; rw [h] at h'; cases h'
/-- a list that nobody writes: the frozen script, a list of the module -/
def FqL (K : PySem.W.Frag) (H : Hp) (a : Addr) (vs : List V) : Prop :=
  (∃ o, H a = some (.frz o (.lst vs))) ∨
    ∃ (o : Obj) (its : Array Value) (n : Nat), K.lookup a = some o ∧ o.cls = .type "list" ∧ o.dict = none ∧ o.data = .seq its n ∧ its.size ≤ sizeLine ∧ Vals vs its.toList
theorem FqL.sq {K : PySem.W.Frag} {H : Hp} {a : Addr} {vs : List V} (h : FqL K H a vs) : SqL K H a vs := h.elim (fun h => .inl (.inr h)) .inr
mutual
inductive Rv (K : FW) (H : Hp) : D → V → Prop
  | non : Rv K H .non .non
  | bl (b : Bool) : Rv K H (.bl b) (.bl b)
  | int (i : Int) : Rv K H (.int i) (.int i)
  | str (x : Str) : Rv K H (.str x) (.str x)
  | ty (n : String) : Rv K H (.ty n) (.ty n)
  | ref (a : Addr) : Rv K H (.ref a) (.ref a)
  | fn {x : Str} {f : Addr} : PySem.W.nsIn K.K mainGlobals x = some (some (.ref f)) → Rv K H (.fn x) (.ref f)
  | tup {a : Addr} {vs : List V} {ds : List D} : SqT K H a vs → RvL K H ds vs → Rv K H (.tup ds) (.ref a)
  | fl {a : Addr} {vs : List V} {ds : List D} : FqL K H a vs → RvL K H ds vs → Rv K H (.fl ds) (.ref a)
inductive RvL (K : FW) (H : Hp) : List D → List V → Prop
  | nil : RvL K H [] []
  | cons {d : D} {ds : List D} {v : V} {vs : List V} : Rv K H d v → RvL K H ds vs → RvL K H (d :: ds) (v :: vs)
end
section
variable {K : FW} {H H' : Hp}
mutual
theorem Rv.mono (h1 : ∀ a vs, SqT K H a vs → SqT K H' a vs) (h2 : ∀ a vs, FqL K H a vs → FqL K H' a vs) : ∀ (d : D) (v : V), Rv K H d v → Rv K H' d v
  | .non, _, r => by cases r; exact .non
  | .bl _, _, r => by cases r; exact .bl _
  | .int _, _, r => by cases r; exact .int _
  | .str _, _, r => by cases r; exact .str _
  | .ty _, _, r => by cases r; exact .ty _
  | .ref _, _, r => by cases r; exact .ref _
  | .fn _, _, r => by
    cases r with
    | fn h => exact .fn h
  | .tup ds, _, r => by
    cases r with
    | tup q rr => exact .tup (h1 _ _ q) (RvL.mono h1 h2 ds _ rr)
  | .fl ds, _, r => by
    cases r with
    | fl q rr => exact .fl (h2 _ _ q) (RvL.mono h1 h2 ds _ rr)
theorem RvL.mono (h1 : ∀ a vs, SqT K H a vs → SqT K H' a vs) (h2 : ∀ a vs, FqL K H a vs → FqL K H' a vs) : ∀ (ds : List D) (vs : List V), RvL K H ds vs → RvL K H' ds vs
  | [], _, r => by cases r; exact .nil
  | d :: ds, _, r => by
    cases r with
    | cons q rr => exact .cons (Rv.mono h1 h2 d _ q) (RvL.mono h1 h2 ds _ rr)
end
theorem RvL.length : ∀ {ds : List D} {vs : List V}, RvL K H ds vs → ds.length = vs.length
  | [], _, r => by cases r; rfl
  | d :: ds, _, r => by
    cases r with
    | cons q rr => simp [RvL.length rr]
theorem RvL.get : ∀ {ds : List D} {vs : List V} {i : Nat} {d : D}, RvL K H ds vs → ds[i]? = some d → ∃ v, vs[i]? = some v ∧ Rv K H d v
  | [], _, _, _, r, e => by simp at e
  | d :: ds, _, 0, x, r, e => by
    cases r with
    | cons q rr => simp at e; subst e; exact ⟨_, rfl, q⟩
  | d :: ds, _, i + 1, x, r, e => by
    cases r with
    | cons q rr =>
      obtain ⟨v, h1, h2⟩ := RvL.get (i := i) (d := x) rr (by simpa using e)
      exact ⟨v, by simpa using h1, h2⟩
theorem RvL.getv : ∀ {ds : List D} {vs : List V} {i : Nat} {v : V}, RvL K H ds vs → vs[i]? = some v → ∃ d, ds[i]? = some d ∧ Rv K H d v
  | [], _, _, _, r, e => by cases r; simp at e
  | d :: ds, _, 0, x, r, e => by
    cases r with
    | cons q rr => simp at e; subst e; exact ⟨_, rfl, q⟩
  | d :: ds, _, i + 1, x, r, e => by
    cases r with
    | cons q rr =>
      obtain ⟨v, h1, h2⟩ := RvL.getv (i := i) (v := x) rr (by simpa using e)
      exact ⟨v, by simpa using h1, h2⟩
theorem RvL.append : ∀ {ds es : List D} {vs ws : List V}, RvL K H ds vs → RvL K H es ws → RvL K H (ds ++ es) (vs ++ ws)
  | [], _, _, _, r, q => by cases r; exact q
  | d :: ds, _, _, _, r, q => by
    cases r with
    | cons a rr => exact .cons a (RvL.append rr q)
theorem RvL.take : ∀ {ds : List D} {vs : List V} (n : Nat), RvL K H ds vs → RvL K H (ds.take n) (vs.take n)
  | _, _, 0, _ => by simp only [List.take_zero]; exact .nil
  | [], _, n + 1, r => by cases r; exact .nil
  | d :: ds, _, n + 1, r => by
    cases r with
    | cons a rr => exact .cons a (RvL.take n rr)
theorem RvL.drop : ∀ {ds : List D} {vs : List V} (n : Nat), RvL K H ds vs → RvL K H (ds.drop n) (vs.drop n)
  | _, _, 0, r => r
  | [], _, n + 1, r => by cases r; exact .nil
  | d :: ds, _, n + 1, r => by
    cases r with
    | cons a rr => exact RvL.drop n rr
theorem RvL.set {d : D} {v : V} (q : Rv K H d v) : ∀ {ds : List D} {vs : List V} (n : Nat), RvL K H ds vs → RvL K H (ds.set n d) (vs.set n v)
  | [], _, n, r => by cases r; exact .nil
  | e :: ds, _, 0, r => by
    cases r with
    | cons a rr => exact .cons q rr
  | e :: ds, _, n + 1, r => by
    cases r with
    | cons a rr => exact .cons a (RvL.set q n rr)
theorem RvL.reverse : ∀ {ds : List D} {vs : List V}, RvL K H ds vs → RvL K H ds.reverse vs.reverse
  | [], _, r => by cases r; exact .nil
  | d :: ds, _, r => by
    cases r with
    | cons a rr => rw [List.reverse_cons, List.reverse_cons]; exact RvL.append (RvL.reverse rr) (.cons a .nil)
theorem RvL.erase : ∀ {ds : List D} {vs : List V} (n : Nat), RvL K H ds vs → RvL K H (ds.eraseIdx n) (vs.eraseIdx n)
  | [], _, n, r => by cases r; exact .nil
  | d :: ds, _, 0, r => by
    cases r with
    | cons a rr => exact rr
  | d :: ds, _, n + 1, r => by
    cases r with
    | cons a rr => exact .cons a (RvL.erase n rr)
theorem RvL.dropLast : ∀ {ds : List D} {vs : List V}, RvL K H ds vs → RvL K H ds.dropLast vs.dropLast := fun {ds vs} r => by
  rw [List.dropLast_eq_take, List.dropLast_eq_take, ← r.length]; exact r.take _
theorem RvL.ints : ∀ (ns : List Int), RvL K H (ns.map D.int) (ns.map V.int)
  | [] => .nil
  | n :: ns => .cons (.int n) (RvL.ints ns)
end
mutual
/-- a value as a key -/
def nk : D → Option NestedKey
  | .non => some .none | .int i => some (.num i) | .str x => some (.text x) | .bl _ => none | .ref _ => none | .ty _ => none | .fl _ => none | .fn _ => none
  | .tup xs => match nks xs with
    | some ks => some (.tup ks)
    | none => none
def nks : List D → Option (List NestedKey)
  | [] => some []
  | x :: xs => match nk x with
    | some k => match nks xs with
      | some ks => some (k :: ks)
      | none => none
    | none => none
end
/-- the raw dict at a -/
def rawO (a : Addr) (st : DStm) : HO := .ext fun h => (a == sysModules) = false ∧ h.DictRaw a st.es st.ep
inductive REnt (K : FW) (H : Hp) : List (D × D) → List DictEntry → Prop
  | nil : REnt K H [] []
  | cons {k d : D} {q : NestedKey} {u v : V} {e : DictEntry} {kvs : List (D × D)} {es : List DictEntry} : nk k = some q → e.hash = q.hash K.w → Rv K H k u → RelV u e.key → Rv K H d v → RelV v e.val → REnt K H kvs es → REnt K H ((k, d) :: kvs) (e :: es)
theorem REnt.mono {K : FW} {H H' : Hp} (h1 : ∀ a vs, SqT K H a vs → SqT K H' a vs) (h2 : ∀ a vs, FqL K H a vs → FqL K H' a vs) : ∀ {kvs : List (D × D)} {es : List DictEntry}, REnt K H kvs es → REnt K H' kvs es
  | _, _, .nil => .nil
  | _, _, .cons a b c d e f r => .cons a b (Rv.mono h1 h2 _ _ c) d (Rv.mono h1 h2 _ _ e) f (REnt.mono h1 h2 r)
def Ro (K : FW) (H : Hp) : DO → Addr → Prop
  | .lst xs, a => ∃ vs, H a = some (.lst vs) ∧ RvL K H xs vs
  | .ins c nm xs, a => ∃ C dx vs, H a = some (.ins C dx vs) ∧ (PySem.W.nsIn K.K mainGlobals c = some (some (.ref C)) ∧ vs.map (·.1) = nm.take xs.length ∧ xs.length ≤ nm.length) ∧ RvL K H xs (vs.map (·.2))
  | .dct st kvs, a => H a = some (rawO a st) ∧ REnt K H kvs st.es.toList ∧ kvs.length ≤ sizeLine ∧ (kvs.map fun p => nk p.1).Nodup
  | .dset xs, a => ∃ ks : List Int, xs = ks.map D.int ∧ ks.Nodup ∧ H a = some (SetO K.w a (fun j => decide (j ∈ ks)) ks.length)
structure Sim (K : FW) (S : DS) (H : Hp) : Prop where
  has : ∀ a o, S a = some o → Ro K H o a
  tab : Tabs K.tb H
instance {K : FW} {S : DS} {H : Hp} : CoeFun (Sim K S H) (fun _ => ∀ a o, S a = some o → Ro K H o a) := ⟨Sim.has⟩
/-- what no table needs -/
def NoT (o : Option HO) : Prop := (∀ ps, o ≠ some (.tbl ps)) ∧ ∀ c q, o ≠ some (CodeO c q)
theorem NoT.none : NoT none := ⟨fun _ z => (nomatch z), fun _ _ z => (nomatch z)⟩
theorem tabs_upd {tb : Tbl} {H : Hp} {p : Addr} {o : HO} (t : Tabs tb H) (n : NoT (H p)) : Tabs tb (upd H p o) := fun x hx => by
  obtain ⟨ps, h1, h2, h3⟩ := t x hx
  refine ⟨ps, (upd_ne fun z => n.1 ps (by rw [← z]; exact h1)).trans h1, h2, fun pos cv hc => ?_⟩
  obtain ⟨c, e1, e2⟩ := h3 pos cv hc
  exact ⟨c, e1, (upd_ne fun z => n.2 c x.2 (by rw [← z]; exact e2)).trans e2⟩
theorem tabs_new {tb : Tbl} {H : Hp} {p : Addr} {o : HO} (t : Tabs tb H) (n : H p = none) : Tabs tb (upd H p o) := tabs_upd t (by rw [n]; exact .none)
theorem rawO_ne {a c : Addr} {q : Str} {st : DStm} : rawO a st ≠ CodeO c q := fun z => by
  have e : (fun h : Heap => (a == sysModules) = false ∧ h.DictRaw a st.es st.ep) = fun h : Heap => ∃ (oc : Obj) (vs : Array Value) (t : Tok), h.get? c = some oc ∧ oc.data = .fields vs ∧ vs[1]? = some (.str q t) := HO.ext.inj z
  let o : Obj := { cls := .none, data := .fields #[.none, .str q default] }
  let h : Heap := ⟨Array.replicate (c + 1) o, {}⟩
  have g : ∀ b o', h.get? b = some o' → o' = o := fun b o' e => by
    have e' : (match (Array.replicate (c + 1) o)[b]? with
      | some ⟨_, _, .freed, _⟩ => none
      | o => o) = some o' := e
    rw [Array.getElem?_replicate] at e'
    split at e'
    · cases e'
    · rename_i hx
      split at e'
      · exact (Option.some.inj e').symm
      · cases e'
  have gc : h.get? c = some o := by
    show (match (Array.replicate (c + 1) o)[c]? with
      | some ⟨_, _, .freed, _⟩ => none
      | o => o) = some o
    rw [Array.getElem?_replicate, if_pos (Nat.lt_succ_self c)]
  have e1 := congrFun e h
  obtain ⟨_, o', g1, _, hd⟩ := e1.mpr ⟨o, _, _, gc, rfl, rfl⟩
  rw [g a o' g1] at hd
  cases hd
theorem setO_ne {w : World} {a c : Addr} {q : Str} {M : Int → Bool} {n : Nat} : SetO w a M n ≠ CodeO c q := fun z => by
  have e : (fun h : Heap => SetR w h a M n) = fun h : Heap => ∃ (oc : Obj) (vs : Array Value) (t : Tok), h.get? c = some oc ∧ oc.data = .fields vs ∧ vs[1]? = some (.str q t) := HO.ext.inj z
  let o : Obj := { cls := .none, data := .fields #[.none, .str q default] }
  let h : Heap := ⟨Array.replicate (c + 1) o, {}⟩
  have g : ∀ b o', h.get? b = some o' → o' = o := fun b o' e => by
    have e' : (match (Array.replicate (c + 1) o)[b]? with
      | some ⟨_, _, .freed, _⟩ => none
      | o => o) = some o' := e
    rw [Array.getElem?_replicate] at e'
    split at e'
    · cases e'
    · rename_i hx
      split at e'
      · exact (Option.some.inj e').symm
      · cases e'
  have gc : h.get? c = some o := by
    show (match (Array.replicate (c + 1) o)[c]? with
      | some ⟨_, _, .freed, _⟩ => none
      | o => o) = some o
    rw [Array.getElem?_replicate, if_pos (Nat.lt_succ_self c)]
  have e1 := congrFun e h
  obtain ⟨o', _, _, _, g1, _, hd, _⟩ := e1.mpr ⟨o, _, _, gc, rfl, rfl⟩
  rw [g a o' g1] at hd
  cases hd
theorem Ro.noT {K : FW} {H : Hp} {o : DO} {a : Addr} (h : Ro K H o a) : NoT (H a) := by
  cases o with
  | lst xs => obtain ⟨vs, e, r⟩ := h; rw [e]; exact ⟨fun _ z => (nomatch z), fun _ _ z => (nomatch z)⟩
  | ins c nm xs => obtain ⟨C, dx, vs, e, n, r⟩ := h; rw [e]; exact ⟨fun _ z => (nomatch z), fun _ _ z => (nomatch z)⟩
  | dct st kvs => obtain ⟨e, r⟩ := h; rw [e]; exact ⟨fun _ z => (nomatch z), fun _ _ z => rawO_ne (Option.some.inj z)⟩
  | dset xs => obtain ⟨ks, _, _, e⟩ := h; rw [e]; exact ⟨fun _ z => (nomatch z), fun _ _ z => setO_ne (Option.some.inj z)⟩
/-- from S, H to S', H': the tuples stand, what the store does not know stands, the store learns of new things alone -/
structure Stp (S : DS) (H : Hp) (S' : DS) (H' : Hp) : Prop where
  tup : ∀ b xs, H b = some (.tup xs) → H' b = some (.tup xs)
  frz : ∀ b o u, H b = some (.frz o u) → H' b = some (.frz o u)
  keep : ∀ b o, S b = none → (∀ ps, o ≠ .tbl ps) → H b = some o → H' b = some o
  hid : ∀ b, H b ≠ none → S b = none → S' b = none
  live : ∀ b, H b ≠ none → H' b ≠ none
theorem upd_live {H : Hp} {p b : Addr} {o : HO} (h : H b ≠ none) : upd H p o b ≠ none := by
  unfold upd; split <;> simp_all
section
variable {K : FW} {S S' S1 S2 : DS} {H H' H1 H2 : Hp}
theorem Stp.refl (S : DS) (H : Hp) : Stp S H S H := ⟨fun _ _ h => h, fun _ _ _ h => h, fun _ _ _ _ h => h, fun _ _ h => h, fun _ h => h⟩
theorem Stp.trans (a : Stp S H S1 H1) (b : Stp S1 H1 S2 H2) : Stp S H S2 H2 :=
  ⟨fun c xs h => b.tup c xs (a.tup c xs h), fun c o u h => b.frz c o u (a.frz c o u h),
   fun c o n t h => b.keep c o (a.hid c (by rw [h]; simp) n) t (a.keep c o n t h),
   fun c h n => b.hid c (a.live c h) (a.hid c h n), fun c h => b.live c (a.live c h)⟩
/-- tuples and frozen things stand -/
structure Prs (H H' : Hp) : Prop where
  tup : ∀ b xs, H b = some (.tup xs) → H' b = some (.tup xs)
  frz : ∀ b o u, H b = some (.frz o u) → H' b = some (.frz o u)
theorem Stp.prs (a : Stp S H S' H') : Prs H H' := ⟨a.tup, a.frz⟩
theorem Prs.refl (H : Hp) : Prs H H := ⟨fun _ _ h => h, fun _ _ _ h => h⟩
theorem Prs.trans (a : Prs H H1) (b : Prs H1 H2) : Prs H H2 := ⟨fun c xs h => b.tup c xs (a.tup c xs h), fun c o u h => b.frz c o u (a.frz c o u h)⟩
theorem Prs.updL {p : Addr} {ws us : List V} (h : H p = some (.lst ws)) : Prs H (upd H p (.lst us)) :=
  ⟨fun b xs e => by rw [upd_ne (fun z => by subst z; rw [h] at e; cases e)]; exact e, fun b o u e => by rw [upd_ne (fun z => by subst z; rw [h] at e; cases e)]; exact e⟩
theorem Prs.rv (a : Prs H H') {d : D} {v : V} (h : Rv K H d v) : Rv K H' d v := by
  refine Rv.mono (fun b vs q => ?_) (fun b vs q => ?_) d v h
  · rcases q with (q | ⟨o, q⟩) | q
    · exact .inl (.inl (a.tup _ _ q))
    · exact .inl (.inr ⟨o, a.frz _ _ _ q⟩)
    · exact .inr q
  · rcases q with ⟨o, q⟩ | q
    · exact .inl ⟨o, a.frz _ _ _ q⟩
    · exact .inr q
theorem Prs.rvl (a : Prs H H') : ∀ {ds : List D} {vs : List V}, RvL K H ds vs → RvL K H' ds vs
  | [], _, r => by cases r; exact .nil
  | d :: ds, _, r => by
    cases r with
    | cons q rr => exact .cons (a.rv q) (Prs.rvl a rr)
theorem Prs.sqT (a : Prs H H') {b : Addr} {vs : List V} (q : SqT K H b vs) : SqT K H' b vs := by
  rcases q with (q | ⟨o, q⟩) | q
  · exact .inl (.inl (a.tup _ _ q))
  · exact .inl (.inr ⟨o, a.frz _ _ _ q⟩)
  · exact .inr q
theorem Prs.fqL (a : Prs H H') {b : Addr} {vs : List V} (q : FqL K H b vs) : FqL K H' b vs := by
  rcases q with ⟨o, q⟩ | q
  · exact .inl ⟨o, a.frz _ _ _ q⟩
  · exact .inr q
theorem Stp.sqT (a : Stp S H S' H') {b : Addr} {vs : List V} (h : SqT K H b vs) : SqT K H' b vs := by
  rcases h with (h | ⟨o, h⟩) | h
  · exact .inl (.inl (a.tup _ _ h))
  · exact .inl (.inr ⟨o, a.frz _ _ _ h⟩)
  · exact .inr h
theorem Stp.fqL (a : Stp S H S' H') {b : Addr} {vs : List V} (h : FqL K H b vs) : FqL K H' b vs := by
  rcases h with ⟨o, h⟩ | h
  · exact .inl ⟨o, a.frz _ _ _ h⟩
  · exact .inr h
theorem Stp.rv (a : Stp S H S' H') {d : D} {v : V} (h : Rv K H d v) : Rv K H' d v := Rv.mono (fun _ _ => a.sqT) (fun _ _ => a.fqL) d v h
theorem Stp.rvl (a : Stp S H S' H') {d : List D} {v : List V} (h : RvL K H d v) : RvL K H' d v := RvL.mono (fun _ _ => a.sqT) (fun _ _ => a.fqL) d v h
theorem Stp.ro (a : Stp S H S' H') {o : DO} {b : Addr} (hb : H' b = H b) (h : Ro K H o b) : Ro K H' o b := by
  cases o with
  | lst xs => obtain ⟨vs, e, r⟩ := h; exact ⟨vs, hb.trans e, a.rvl r⟩
  | ins c nm xs => obtain ⟨C, dx, vs, e, n, r⟩ := h; exact ⟨C, dx, vs, hb.trans e, n, a.rvl r⟩
  | dct st kvs => obtain ⟨e, r, l, n⟩ := h; exact ⟨hb.trans e, r.mono (fun _ _ => a.sqT) (fun _ _ => a.fqL), l, n⟩
  | dset xs => obtain ⟨ks, e1, e2, e⟩ := h; exact ⟨ks, e1, e2, hb.trans e⟩
theorem Ro.some {o : DO} {a : Addr} (h : Ro K H o a) : ∃ u, H a = some u ∧ (∀ xs, u ≠ .tup xs) ∧ ∀ x y, u ≠ .frz x y := by
  cases o with
  | lst xs => obtain ⟨vs, e, r⟩ := h; exact ⟨_, e, (fun _ q => nomatch q), fun _ _ q => nomatch q⟩
  | ins c nm xs => obtain ⟨C, dx, vs, e, n, r⟩ := h; exact ⟨_, e, (fun _ q => nomatch q), fun _ _ q => nomatch q⟩
  | dct st kvs => obtain ⟨e, r⟩ := h; exact ⟨_, e, (fun _ q => nomatch q), fun _ _ q => nomatch q⟩
  | dset xs => obtain ⟨ks, _, _, e⟩ := h; exact ⟨_, e, (fun _ q => nomatch q), fun _ _ q => nomatch q⟩
theorem Sim.fresh (x : Sim K S H) {p : Addr} (h : H p = none) : S p = none := by
  cases q : S p with
  | none => rfl
  | some o =>
    obtain ⟨u, e, _⟩ := (x p o q).some
    rw [h] at e; cases e
/-- something new that the store does not know (a tuple) -/
theorem Stp.laid {p : Addr} {o : HO} (h : H p = none) : Stp S H S (upd H p o) :=
  ⟨fun b xs e => by rw [upd_ne (ne_of_none e h)]; exact e, fun b x u e => by rw [upd_ne (ne_of_none e h)]; exact e,
   fun b x _ _ e => by rw [upd_ne (ne_of_none e h)]; exact e, fun _ _ n => n, fun _ => upd_live⟩
theorem Sim.laid (x : Sim K S H) {p : Addr} {o : HO} (h : H p = none) : Sim K S (upd H p o) := ⟨fun a u e => by
  obtain ⟨z, ez, _⟩ := (x a u e).some
  exact (Stp.laid (S := S) h).ro (upd_ne (ne_of_none ez h)) (x a u e), tabs_new x.tab h⟩
/-- something new that the store knows -/
theorem Stp.new {p : Addr} {o : HO} {d : DO} (h : H p = none) : Stp S H (dupd S p d) (upd H p o) :=
  ⟨fun b xs e => by rw [upd_ne (ne_of_none e h)]; exact e, fun b x u e => by rw [upd_ne (ne_of_none e h)]; exact e,
   fun b x _ _ e => by rw [upd_ne (ne_of_none e h)]; exact e, fun b e n => by
    have hb : b ≠ p := fun z => e (by rw [z]; exact h)
    rw [dupd_ne hb]; exact n, fun _ => upd_live⟩
theorem Sim.new (x : Sim K S H) {p : Addr} {o : HO} {d : DO} (h : H p = none) (r : Ro K (upd H p o) d p) : Sim K (dupd S p d) (upd H p o) := ⟨fun a u e => by
  by_cases ha : a = p
  · subst ha; rw [dupd_same] at e; cases e; exact r
  · rw [dupd_ne ha] at e
    exact (Stp.laid (S := S) h).ro (upd_ne ha) (x a u e), tabs_new x.tab h⟩
/-- a thing that the store knows is changed -/
theorem Stp.write {a : Addr} {o : HO} {d d0 : DO} (x : Sim K S H) (h : S a = some d0) : Stp S H (dupd S a d) (upd H a o) := by
  obtain ⟨z, ez, n1, n2⟩ := (x a d0 h).some
  refine ⟨fun b xs e => ?_, fun b y u e => ?_, fun b y n _ e => ?_, fun b e n => ?_, fun _ => upd_live⟩
  · rw [upd_ne (fun q => by subst q; rw [ez] at e; cases e; exact n1 _ rfl)]; exact e
  · rw [upd_ne (fun q => by subst q; rw [ez] at e; cases e; exact n2 _ _ rfl)]; exact e
  · rw [upd_ne (fun q => by subst q; rw [h] at n; cases n)]; exact e
  · rw [dupd_ne (fun q => by subst q; rw [h] at n; cases n)]; exact n
theorem Sim.write {a : Addr} {o : HO} {d d0 : DO} (x : Sim K S H) (h : S a = some d0) (r : Ro K (upd H a o) d a) : Sim K (dupd S a d) (upd H a o) := ⟨fun b u e => by
  by_cases hb : b = a
  · subst hb; rw [dupd_same] at e; cases e; exact r
  · rw [dupd_ne hb] at e
    exact (Stp.write (d := d) x h).ro (upd_ne hb) (x b u e), tabs_upd x.tab (x a d0 h).noT⟩
theorem Sim.lst (x : Sim K S H) {a : Addr} {xs : List D} (h : S a = some (.lst xs)) : ∃ vs, H a = some (.lst vs) ∧ RvL K H xs vs := x a _ h
theorem RvL.upd {a : Addr} {o : HO} {d d0 : DO} {ds : List D} {vs : List V} (x : Sim K S H) (h : S a = some d0) (r : RvL K H ds vs) : RvL K (L2.upd H a o) ds vs := (Stp.write (d := d0) x h).rvl r
end
abbrev Loc := List (Option D)
abbrev DK := D → DS → Prop
abbrev DE := Loc → DS → DK → Prop
abbrev DT := Loc → DS → (Bool → DS → Prop) → Prop
abbrev DA := Loc → DS → (List D → DS → Prop) → Prop
structure DEnds where
  nx : Loc → DS → Prop
  rt : DK
  bk : Loc → DS → Prop
  ct : Loc → DS → Prop
abbrev DSt := DEnds → Loc → DS → Prop
abbrev DR2 := D → D → DS → DK → Prop
abbrev DR1 := D → DS → DK → Prop
abbrev DRs := List D → DS → DK → Prop
abbrev DF := List D → DS → DK → Prop
def Rst (K : FW) (H : Hp) (δ : Loc) (σ : L2.St) : Prop := δ.length = σ.length ∧ ∀ (i : Nat) (d : D), δ[i]? = some (some d) → ∃ v, σ[i]? = some (some v) ∧ Rv K H d v
theorem Rst.stp {K : FW} {S S' : DS} {H H' : Hp} {δ : Loc} {σ : L2.St} (r : Rst K H δ σ) (a : Stp S H S' H') : Rst K H' δ σ := ⟨r.1, fun i d e => let ⟨v, h1, h2⟩ := r.2 i d e; ⟨v, h1, a.rv h2⟩⟩
theorem Rst.prs {K : FW} {H H' : Hp} {δ : Loc} {σ : L2.St} (r : Rst K H δ σ) (a : Prs H H') : Rst K H' δ σ := ⟨r.1, fun i d e => let ⟨v, h1, h2⟩ := r.2 i d e; ⟨v, h1, a.rv h2⟩⟩
theorem Rst.set {K : FW} {H : Hp} {δ : Loc} {σ : L2.St} {i : Nat} {d : D} {v : V} (r : Rst K H δ σ) (q : Rv K H d v) : Rst K H (δ.set i (some d)) (σ.set i (some v)) := by
  refine ⟨by rw [List.length_set, List.length_set]; exact r.1, fun j e h => ?_⟩
  by_cases hj : i = j
  · subst hj
    by_cases hl : i < δ.length
    · rw [List.getElem?_set_self hl] at h
      simp only [Option.some.injEq] at h
      subst h
      exact ⟨v, List.getElem?_set_self (by rw [← r.1]; exact hl), q⟩
    · rw [List.getElem?_eq_none (by simpa using hl)] at h; cases h
  · rw [List.getElem?_set_ne hj] at h
    obtain ⟨w, h1, h2⟩ := r.2 j e h
    exact ⟨w, by rw [List.getElem?_set_ne hj]; exact h1, h2⟩
def liftE (K : FW) (t : DE) : TE := fun σ H Q => ∃ δ S Q0, Rst K H δ σ ∧ Sim K S H ∧ t δ S Q0 ∧ ∀ d S' v H', Q0 d S' → Rv K H' d v → Sim K S' H' → Stp S H S' H' → Q v H'
def liftT (K : FW) (t : DT) : TT := fun σ H Q => ∃ δ S Q0, Rst K H δ σ ∧ Sim K S H ∧ t δ S Q0 ∧ ∀ b S' H', Q0 b S' → Sim K S' H' → Stp S H S' H' → Q b H'
def liftA (K : FW) (t : DA) : TA := fun σ H Q => ∃ δ S Q0, Rst K H δ σ ∧ Sim K S H ∧ t δ S Q0 ∧ ∀ ds S' vs H', Q0 ds S' → RvL K H' ds vs → Sim K S' H' → Stp S H S' H' → Q vs H'
def liftO (K : FW) (r : DR2) : R2 := fun x y H Q => ∃ dx dy S Q0, Rv K H dx x ∧ Rv K H dy y ∧ Sim K S H ∧ r dx dy S Q0 ∧ ∀ d S' v H', Q0 d S' → Rv K H' d v → Sim K S' H' → Stp S H S' H' → Q v H'
def liftU (K : FW) (r : DR1) : V → Hp → VK → Prop := fun x H Q => ∃ dx S Q0, Rv K H dx x ∧ Sim K S H ∧ r dx S Q0 ∧ ∀ d S' v H', Q0 d S' → Rv K H' d v → Sim K S' H' → Stp S H S' H' → Q v H'
def liftC (K : FW) (r : DRs) : List V → Hp → VK → Prop := fun xs H Q => ∃ ds S Q0, RvL K H ds xs ∧ Sim K S H ∧ r ds S Q0 ∧ ∀ d S' v H', Q0 d S' → Rv K H' d v → Sim K S' H' → Stp S H S' H' → Q v H'
def liftF (K : FW) (np : Nat) (c : DF) : Sp := fun vs H Q _ => vs.length = np ∧ liftC K c vs H Q
structure Cov (K : FW) (S : DS) (H : Hp) (D0 : DEnds) (E : L2.Ends) : Prop where
  nx : ∀ δ S' σ H', D0.nx δ S' → Rst K H' δ σ → Sim K S' H' → Stp S H S' H' → E.nx σ H'
  rt : ∀ d S' v H', D0.rt d S' → Rv K H' d v → Sim K S' H' → Stp S H S' H' → E.rt v H'
  bk : ∀ δ S' σ H', D0.bk δ S' → Rst K H' δ σ → Sim K S' H' → Stp S H S' H' → E.bk σ H'
  ct : ∀ δ S' σ H', D0.ct δ S' → Rst K H' δ σ → Sim K S' H' → Stp S H S' H' → E.ct σ H'
theorem Cov.stp {K : FW} {S S1 : DS} {H H1 : Hp} {D0 : DEnds} {E : L2.Ends} (c : Cov K S H D0 E) (a : Stp S H S1 H1) : Cov K S1 H1 D0 E :=
  ⟨fun δ S' σ H' h r x b => c.nx δ S' σ H' h r x (a.trans b), fun d S' v H' h r x b => c.rt d S' v H' h r x (a.trans b),
   fun δ S' σ H' h r x b => c.bk δ S' σ H' h r x (a.trans b), fun δ S' σ H' h r x b => c.ct δ S' σ H' h r x (a.trans b)⟩
def liftS (K : FW) (t : DSt) : TS := fun E σ H => ∃ δ S D0, Rst K H δ σ ∧ Sim K S H ∧ t D0 δ S ∧ Cov K S H D0 E
section
variable {X : Cx} {tbl : Tbl} {e : Expr} {es : List Expr} {st : Stmt} {sts : List Stmt} {pos : Pos}
theorem PE.imp {t t' : TE} (p : PE X e t) (h : ∀ σ H Q, t' σ H Q → t σ H Q) : PE X e t' := ⟨fun pins s σ H Q I hw => p.run pins s σ H Q I (h _ _ _ hw)⟩
theorem PT.imp {t t' : TT} (p : PT X e t) (h : ∀ σ H Q, t' σ H Q → t σ H Q) : PT X e t' := ⟨fun pins s σ H Q I hw => p.run pins s σ H Q I (h _ _ _ hw)⟩
theorem PW.imp {t t' : TT} (p : PW X e t) (h : ∀ σ H Q, t' σ H Q → t σ H Q) : PW X e t' := ⟨fun wh pins s σ H Q I hw => p.run wh pins s σ H Q I (h _ _ _ hw)⟩
theorem PA.imp {t t' : TA} (p : PA X es t) (h : ∀ σ H Q, t' σ H Q → t σ H Q) : PA X es t' := ⟨fun po pins s σ H Q I hw => p.run po pins s σ H Q I (h _ _ _ hw)⟩
theorem PS.imp {t t' : TS} (p : PS X st t) (h : ∀ E σ H, t' E σ H → t E σ H) : PS X st t' := ⟨fun pins s σ H E I hw => p.run pins s σ H E I (h _ _ _ hw)⟩
theorem PSs.imp {t t' : TS} (p : PSs X sts t) (h : ∀ E σ H, t' E σ H → t E σ H) : PSs X sts t' := ⟨fun pins s σ H E I hw => p.run pins s σ H E I (h _ _ _ hw)⟩
theorem PI.imp {tg : Expr} {t t' : TI} (p : PI X tg e t) (h : ∀ σ H R, t' σ H R → t σ H R) : PI X tg e t' := ⟨fun pins s σ H R I hw => p.run pins s σ H R I (h _ _ _ hw)⟩
def dVar (i : Nat) : DE := fun δ S Q => ∃ d, δ[i]? = some (some d) ∧ Q d S
def dC (d : D) : DE := fun _ S Q => Q d S
def dNil : DA := fun _ S Q => Q [] S
def dCons (a : DE) (r : DA) : DA := fun δ S Q => a δ S fun x S1 => r δ S1 fun xs S2 => Q (x :: xs) S2
def dTup (a : DA) : DE := fun δ S Q => a δ S fun xs S1 => xs.length ≤ 16777216 ∧ Q (.tup xs) S1
def dLst (a : DA) : DE := fun δ S Q => a δ S fun xs S1 => xs.length ≤ 16777216 ∧ ∀ p, S1 p = none → Q (.ref p) (dupd S1 p (.lst xs))
theorem qv (i : Nat) {x : Str} (hN : X.N[i]? = some x := by rfl) (hv : Vis X.env.scope x := by first | exact Or.inl rfl | exact Or.inr (Or.inl rfl) | exact Or.inr (Or.inr rfl)) (hd : (x == ("__debug__" : Str)) = false := by decide)
    (hcd : (x == ("__classdict__" : Str)) = false := by decide) : PE X (.Name x pos) (liftE (xfw X tbl) (dVar i)) :=
  PE.imp (pv i hN hv hd hcd) fun σ H Q ⟨δ, S, Q0, hr, hs, ⟨d, e, h⟩, hq⟩ => by
    obtain ⟨v, h1, h2⟩ := hr.2 i d e
    exact ⟨v, h1, hq d S v H h h2 hs (.refl _ _)⟩
theorem qe_const {d : D} {v : V} {e : Expr} (p : PE X e (tC v)) (hr : ∀ H, Rv (xfw X tbl) H d v) : PE X e (liftE (xfw X tbl) (dC d)) :=
  PE.imp p fun σ H Q ⟨δ, S, Q0, _, hs, h, hq⟩ => hq d S v H h (hr H) hs (.refl _ _)
theorem qi {i : Int} {j} : PE X (.Constant (.int i) j pos) (liftE (xfw X tbl) (dC (.int i))) := qe_const pe_int fun _ => .int _
theorem qb {b : Bool} {j} : PE X (.Constant (.bool b) j pos) (liftE (xfw X tbl) (dC (.bl b))) := qe_const pe_bl fun _ => .bl _
theorem qn {j} : PE X (.Constant .none j pos) (liftE (xfw X tbl) (dC .non)) := qe_const pe_non fun _ => .non
theorem qs {x : Str} {j} : PE X (.Constant (.str x) j pos) (liftE (xfw X tbl) (dC (.str x))) := qe_const pe_str fun _ => .str _
theorem qa_nil : PA X [] (liftA (xfw X tbl) dNil) := PA.imp pa_nil fun σ H Q ⟨δ, S, Q0, _, hs, h, hq⟩ => hq [] S [] H h .nil hs (.refl _ _)
theorem qa_cons {a : DE} {r : DA} (ha : PE X e (liftE (xfw X tbl) a)) (hr : PA X es (liftA (xfw X tbl) r)) (hs : starEach (e :: es) X.env = (false, eval e X.env) :: starEach es X.env := by rfl) : PA X (e :: es) (liftA (xfw X tbl) (dCons a r)) :=
  PA.imp (pa_cons ha hr hs) fun σ H Q ⟨δ, S, Q0, hr, hs, h, hq⟩ =>
    ⟨δ, S, _, hr, hs, h, fun d S1 v H1 h1 r1 s1 a1 => ⟨δ, S1, _, hr.stp a1, s1, h1, fun ds S2 vs H2 h2 r2 s2 a2 => hq _ _ _ _ h2 (.cons (a2.rv r1) r2) s2 (a1.trans a2)⟩⟩
theorem szl : sizeLine = 16777216 := by decide
theorem qe_tup {a : DA} {k} (ha : PA X es (liftA (xfw X tbl) a)) : PE X (.Tuple es k pos) (liftE (xfw X tbl) (dTup a)) :=
  PE.imp (pe_tup ha) fun σ H Q ⟨δ, S, Q0, hr, hs, h, hq⟩ =>
    ⟨δ, S, _, hr, hs, h, fun ds S1 vs H1 ⟨z, h1⟩ r1 s1 a1 => ⟨by rw [← r1.length, szl]; exact z, fun p hp =>
      hq _ _ _ _ h1 (.tup (.inl (.inl upd_same)) ((Stp.laid (S := S1) hp).rvl r1)) (s1.laid hp) (a1.trans (Stp.laid hp))⟩⟩
theorem qe_lst {a : DA} (ha : PA X es (liftA (xfw X tbl) a)) : PE X (.List es pos) (liftE (xfw X tbl) (dLst a)) :=
  PE.imp (pe_lst ha) fun σ H Q ⟨δ, S, Q0, hr, hs, h, hq⟩ =>
    ⟨δ, S, _, hr, hs, h, fun ds S1 vs H1 ⟨z, h1⟩ r1 s1 a1 => ⟨by rw [← r1.length, szl]; exact z, fun p hp =>
      hq _ _ _ _ (h1 p (s1.fresh hp)) (.ref p) (s1.new hp ⟨vs, upd_same, (Stp.laid (S := S1) hp).rvl r1⟩) (a1.trans (Stp.new hp))⟩⟩
def dOp (r : DR2) (a b : DE) : DE := fun δ S Q => a δ S fun x S1 => b δ S1 fun y S2 => r x y S2 Q
def dUn (r : DR1) (a : DE) : DE := fun δ S Q => a δ S fun x S1 => r x S1 Q
theorem lift_op {r : DR2} {ta tb : DE} : ∀ σ H Q, liftE (xfw X tbl) (dOp r ta tb) σ H Q → tOp (liftO (xfw X tbl) r) (liftE (xfw X tbl) ta) (liftE (xfw X tbl) tb) σ H Q :=
  fun σ H Q ⟨δ, S, Q0, hr, hs, h, hq⟩ => ⟨δ, S, _, hr, hs, h, fun x S1 v H1 h1 r1 s1 a1 => ⟨δ, S1, _, hr.stp a1, s1, h1, fun y S2 u H2 h2 r2 s2 a2 =>
    ⟨x, y, S2, _, a2.rv r1, r2, s2, h2, fun d S' v H' q r s a => hq d S' v H' q r s ((a1.trans a2).trans a)⟩⟩⟩
variable {a b c : Expr} {ta tb tc : DE}
theorem qe_op {op : Operator} {r : DR2} (ho : OpR X (binaryOp op) (liftO (xfw X tbl) r)) (ha : PE X a (liftE (xfw X tbl) ta)) (hb : PE X b (liftE (xfw X tbl) tb)) : PE X (.BinOp a op b pos) (liftE (xfw X tbl) (dOp r ta tb)) :=
  PE.imp (pe_op ho ha hb) lift_op
theorem qe_un {op : UnaryOp} {r : DR1} (ho : UnR X (unaryOp op) (liftU (xfw X tbl) r)) (ha : PE X a (liftE (xfw X tbl) ta)) : PE X (.UnaryOp op a pos) (liftE (xfw X tbl) (dUn r ta)) :=
  PE.imp (pe_un ho ha) fun σ H Q ⟨δ, S, Q0, hr, hs, h, hq⟩ => ⟨δ, S, _, hr, hs, h, fun x S1 v H1 h1 r1 s1 a1 =>
    ⟨x, S1, _, r1, s1, h1, fun d S' v H' q r s a => hq d S' v H' q r s (a1.trans a)⟩⟩
theorem qe_cmp {op : CmpOp} {r : DR2} (ho : OpR X (compareOp op) (liftO (xfw X tbl) r)) (ha : PE X a (liftE (xfw X tbl) ta)) (hb : PE X b (liftE (xfw X tbl) tb)) (hm : behindInMarks op b = false) : PE X (.Compare a [op] [b] pos) (liftE (xfw X tbl) (dOp r ta tb)) :=
  PE.imp (pe_cmpR ho ha hb hm) lift_op
/-- a comparison as a test -/
def dTb (t : DE) : DT := fun δ S Q => t δ S fun x S1 => match x with
  | .bl k => Q k S1
  | _ => False
theorem qt_cmp {op : CmpOp} {r : DR2} (ho : OpR X (compareOp op) (liftO (xfw X tbl) r)) (ha : PE X a (liftE (xfw X tbl) ta)) (hb : PE X b (liftE (xfw X tbl) tb)) (hm : behindInMarks op b = false) : PT X (.Compare a [op] [b] pos) (liftT (xfw X tbl) (dTb (dOp r ta tb))) :=
  PT.imp (pt_cmpR ho ha hb hm) fun σ H Q ⟨δ, S, Q0, hr, hs, h, hq⟩ => lift_op σ H _ ⟨δ, S, _, hr, hs, h, fun d S' v H' q r s a => by
    cases d with
    | bl k => cases r; exact ⟨k, rfl, hq k S' H' q s a⟩
    | _ => exact q.elim⟩
/-- any expression whose value is a bool, as a test -/
theorem qt_val {t : DE} (h : PE X e (liftE (xfw X tbl) t)) (he : ∀ whole, isTrue e X.env whole = (do let v ← whole; standAt e.pos; holding [v] (truthy v)) := by intro _; rfl) : PT X e (liftT (xfw X tbl) (dTb t)) :=
  PT.imp (pt_val h he) fun σ H Q ⟨δ, S, Q0, hr, hs, h, hq⟩ => ⟨δ, S, _, hr, hs, h, fun d S' v H' q r s a => by
    cases d with
    | bl k => cases r; exact ⟨k, rfl, hq k S' H' q s a⟩
    | _ => exact q.elim⟩
/-- a < b < c -/
def dChain (r r' : DR2) (a b c : DE) : DE := fun δ S Q => a δ S fun x S1 => b δ S1 fun y S2 => r x y S2 fun z S3 => match z with
  | .bl k => if k = true then c δ S3 fun w S4 => r' y w S4 Q else Q (.bl false) S3
  | _ => False
theorem lift_chain {r r' : DR2} : ∀ σ H Q, liftE (xfw X tbl) (dChain r r' ta tb tc) σ H Q → tChain (liftO (xfw X tbl) r) (liftO (xfw X tbl) r') (liftE (xfw X tbl) ta) (liftE (xfw X tbl) tb) (liftE (xfw X tbl) tc) σ H Q :=
  fun σ H Q ⟨δ, S, Q0, hr, hs, h, hq⟩ => ⟨δ, S, _, hr, hs, h, fun x S1 v H1 h1 r1 s1 a1 => ⟨δ, S1, _, hr.stp a1, s1, h1, fun y S2 u H2 h2 r2 s2 a2 =>
    ⟨x, y, S2, _, a2.rv r1, r2, s2, h2, fun d S3 v3 H3 q3 r3 s3 a3 => by
      cases d with
      | bl k =>
        cases r3
        refine ⟨k, rfl, ?_⟩
        cases k with
        | true =>
          simp only [if_true] at q3 ⊢
          exact ⟨δ, S3, _, hr.stp ((a1.trans a2).trans a3), s3, q3, fun w S4 v4 H4 h4 r4 s4 a4 => ⟨y, w, S4, _, (a3.trans a4).rv r2, r4, s4, h4, fun d S' v H' q r s a => hq d S' v H' q r s ((((a1.trans a2).trans a3).trans a4).trans a)⟩⟩
        | false =>
          simp only [Bool.false_eq_true, if_false] at q3 ⊢
          exact hq _ _ _ _ q3 (.bl false) s3 ((a1.trans a2).trans a3)
      | _ => exact q3.elim⟩⟩⟩
def dAnd (t u : DT) : DT := fun δ S Q => t δ S fun c S1 => if c = true then u δ S1 Q else Q false S1
def dOr (t u : DT) : DT := fun δ S Q => t δ S fun c S1 => if c = true then Q true S1 else u δ S1 Q
def dNot (t : DT) : DT := fun δ S Q => t δ S fun c S1 => Q (!c) S1
variable {t u : DT} {rest : List Expr}
theorem qw_and1 (ha : PT X a (liftT (xfw X tbl) t)) : PW X (.BoolOp .And [a] pos) (liftT (xfw X tbl) t) := pw_and1 ha
theorem qw_or1 (ha : PT X a (liftT (xfw X tbl) t)) : PW X (.BoolOp .Or [a] pos) (liftT (xfw X tbl) t) := pw_or1 ha
theorem qw_and (ha : PT X a (liftT (xfw X tbl) t)) (hb : PW X (.BoolOp .And (b :: rest) pos) (liftT (xfw X tbl) u)) : PW X (.BoolOp .And (a :: b :: rest) pos) (liftT (xfw X tbl) (dAnd t u)) :=
  PW.imp (pw_and ha hb) fun σ H Q ⟨δ, S, Q0, hr, hs, h, hq⟩ => ⟨δ, S, _, hr, hs, h, fun k S1 H1 h1 s1 a1 => by
    cases k with
    | true => rw [if_pos rfl] at h1 ⊢; exact ⟨δ, S1, _, hr.stp a1, s1, h1, fun k S2 H2 h2 s2 a2 => hq k S2 H2 h2 s2 (a1.trans a2)⟩
    | false => rw [if_neg Bool.false_ne_true] at h1 ⊢; exact hq _ _ _ h1 s1 a1⟩
theorem qw_or (ha : PT X a (liftT (xfw X tbl) t)) (hb : PW X (.BoolOp .Or (b :: rest) pos) (liftT (xfw X tbl) u)) : PW X (.BoolOp .Or (a :: b :: rest) pos) (liftT (xfw X tbl) (dOr t u)) :=
  PW.imp (pw_or ha hb) fun σ H Q ⟨δ, S, Q0, hr, hs, h, hq⟩ => ⟨δ, S, _, hr, hs, h, fun k S1 H1 h1 s1 a1 => by
    cases k with
    | false => rw [if_neg Bool.false_ne_true] at h1 ⊢; exact ⟨δ, S1, _, hr.stp a1, s1, h1, fun k S2 H2 h2 s2 a2 => hq k S2 H2 h2 s2 (a1.trans a2)⟩
    | true => rw [if_pos rfl] at h1 ⊢; exact hq _ _ _ h1 s1 a1⟩
theorem qt_w (h : PW X e (liftT (xfw X tbl) t)) : PT X e (liftT (xfw X tbl) t) := h.pt
theorem qt_not (ha : PT X a (liftT (xfw X tbl) t)) : PT X (.UnaryOp .Not a pos) (liftT (xfw X tbl) (dNot t)) :=
  PT.imp (pt_not ha) fun σ H Q ⟨δ, S, Q0, hr, hs, h, hq⟩ => ⟨δ, S, _, hr, hs, h, fun k S1 H1 h1 s1 a1 => hq _ _ _ h1 s1 a1⟩
/-- and, or, not as values (of bools) -/
def dAndV (a b : DE) : DE := fun δ S Q => a δ S fun x S1 => match x with
  | .bl c => if c = true then b δ S1 Q else Q (.bl false) S1
  | _ => False
def dOrV (a b : DE) : DE := fun δ S Q => a δ S fun x S1 => match x with
  | .bl c => if c = true then Q (.bl true) S1 else b δ S1 Q
  | _ => False
def dNotV (a : DE) : DE := fun δ S Q => a δ S fun x S1 => match x with
  | .bl c => Q (.bl (!c)) S1
  | _ => False
theorem qe_one {op} {t : DE} (h : PE X a (liftE (xfw X tbl) t)) : PE X (.BoolOp op [a] pos) (liftE (xfw X tbl) t) := pe_one h
theorem qe_and (ha : PE X a (liftE (xfw X tbl) ta)) (hb : PE X (.BoolOp .And (b :: rest) pos) (liftE (xfw X tbl) tb)) : PE X (.BoolOp .And (a :: b :: rest) pos) (liftE (xfw X tbl) (dAndV ta tb)) :=
  PE.imp (pe_and ha hb) fun σ H Q ⟨δ, S, Q0, hr, hs, h, hq⟩ => ⟨δ, S, _, hr, hs, h, fun k S1 v H1 h1 r1 s1 a1 => by
    cases k with
    | bl k =>
      cases r1
      refine ⟨k, rfl, ?_⟩
      cases k with
      | true => simp only [if_true] at h1 ⊢; exact ⟨δ, S1, _, hr.stp a1, s1, h1, fun k S2 v H2 h2 r2 s2 a2 => hq k S2 v H2 h2 r2 s2 (a1.trans a2)⟩
      | false => rw [if_neg Bool.false_ne_true]; simp only [Bool.false_eq_true, if_false] at h1; exact hq _ _ _ _ h1 (.bl _) s1 a1
    | _ => exact h1.elim⟩
theorem qe_or (ha : PE X a (liftE (xfw X tbl) ta)) (hb : PE X (.BoolOp .Or (b :: rest) pos) (liftE (xfw X tbl) tb)) : PE X (.BoolOp .Or (a :: b :: rest) pos) (liftE (xfw X tbl) (dOrV ta tb)) :=
  PE.imp (pe_or ha hb) fun σ H Q ⟨δ, S, Q0, hr, hs, h, hq⟩ => ⟨δ, S, _, hr, hs, h, fun k S1 v H1 h1 r1 s1 a1 => by
    cases k with
    | bl k =>
      cases r1
      refine ⟨k, rfl, ?_⟩
      cases k with
      | false => rw [if_neg Bool.false_ne_true]; simp only [Bool.false_eq_true, if_false] at h1; exact ⟨δ, S1, _, hr.stp a1, s1, h1, fun k S2 v H2 h2 r2 s2 a2 => hq k S2 v H2 h2 r2 s2 (a1.trans a2)⟩
      | true => simp only [if_true] at h1 ⊢; exact hq _ _ _ _ h1 (.bl _) s1 a1
    | _ => exact h1.elim⟩
theorem qe_not (ha : PE X a (liftE (xfw X tbl) ta)) : PE X (.UnaryOp .Not a pos) (liftE (xfw X tbl) (dNotV ta)) :=
  PE.imp (pe_not ha) fun σ H Q ⟨δ, S, Q0, hr, hs, h, hq⟩ => ⟨δ, S, _, hr, hs, h, fun k S1 v H1 h1 r1 s1 a1 => by
    cases k with
    | bl k => cases r1; exact ⟨k, rfl, hq _ _ _ _ h1 (.bl _) s1 a1⟩
    | _ => exact h1.elim⟩
def dIfE (t : DT) (a b : DE) : DE := fun δ S Q => t δ S fun c S1 => if c = true then a δ S1 Q else b δ S1 Q
theorem qe_if (hc : PT X c (liftT (xfw X tbl) t)) (ha : PE X a (liftE (xfw X tbl) ta)) (hb : PE X b (liftE (xfw X tbl) tb)) : PE X (.IfExp c a b pos) (liftE (xfw X tbl) (dIfE t ta tb)) :=
  PE.imp (pe_ifExp hc ha hb) fun σ H Q ⟨δ, S, Q0, hr, hs, h, hq⟩ => ⟨δ, S, _, hr, hs, h, fun k S1 H1 h1 s1 a1 => by
    cases k with
    | true => rw [if_pos rfl] at h1 ⊢; exact ⟨δ, S1, _, hr.stp a1, s1, h1, fun k S2 v H2 h2 r2 s2 a2 => hq k S2 v H2 h2 r2 s2 (a1.trans a2)⟩
    | false => rw [if_neg Bool.false_ne_true] at h1 ⊢; exact ⟨δ, S1, _, hr.stp a1, s1, h1, fun k S2 v H2 h2 r2 s2 a2 => hq k S2 v H2 h2 r2 s2 (a1.trans a2)⟩⟩
end
section
variable {X : Cx} {tbl : Tbl} {e : Expr} {st : Stmt} {sts : List Stmt} {pos : Pos} {t u : DSt} {te : DE}
def dNext : DSt := fun D δ S => D.nx δ S
def dSeq (t u : DSt) : DSt := fun D δ S => t { D with nx := fun δ S => u D δ S } δ S
def dBreak : DSt := fun D δ S => D.bk δ S
def dCont : DSt := fun D δ S => D.ct δ S
def dDrop (te : DE) : DSt := fun D δ S => te δ S fun _ S1 => D.nx δ S1
def dRet (te : DE) : DSt := fun D δ S => te δ S D.rt
def dRetN : DSt := fun D _ S => D.rt .non S
def dIf (c : DT) (t u : DSt) : DSt := fun D δ S => c δ S fun b S1 => if b = true then t D δ S1 else u D δ S1
def dNever : DSt := fun _ _ _ => False
theorem qss_nil : PSs X [] (liftS (xfw X tbl) dNext) := PSs.imp pss_nil fun E σ H ⟨δ, S, D0, hr, hs, h, cv⟩ => cv.nx δ S σ H h hr hs (.refl _ _)
theorem qss_cons (h1 : PS X st (liftS (xfw X tbl) t)) (h2 : PSs X sts (liftS (xfw X tbl) u)) : PSs X (st :: sts) (liftS (xfw X tbl) (dSeq t u)) :=
  PSs.imp (pss_cons h1 h2) fun E σ H ⟨δ, S, D0, hr, hs, h, cv⟩ => ⟨δ, S, _, hr, hs, h, ⟨fun δ' S' σ' H' h r s a => ⟨δ', S', D0, r, s, h, cv.stp a⟩, cv.rt, cv.bk, cv.ct⟩⟩
theorem qss_one (h1 : PS X st (liftS (xfw X tbl) t)) : PSs X [st] (liftS (xfw X tbl) t) := pss_one h1
theorem qs_pass : PS X (.Pass pos) (liftS (xfw X tbl) dNext) := PS.imp ps_pass fun E σ H ⟨δ, S, D0, hr, hs, h, cv⟩ => cv.nx δ S σ H h hr hs (.refl _ _)
theorem qs_break : PS X (.Break pos) (liftS (xfw X tbl) dBreak) := PS.imp ps_break fun E σ H ⟨δ, S, D0, hr, hs, h, cv⟩ => cv.bk δ S σ H h hr hs (.refl _ _)
theorem qs_cont : PS X (.Continue pos) (liftS (xfw X tbl) dCont) := PS.imp ps_continue fun E σ H ⟨δ, S, D0, hr, hs, h, cv⟩ => cv.ct δ S σ H h hr hs (.refl _ _)
theorem qs_expr (he : PE X e (liftE (xfw X tbl) te)) (hs : swapsWith e none pos.line X.env = pure false := by rfl) : PS X (.Expr e pos) (liftS (xfw X tbl) (dDrop te)) :=
  PS.imp (ps_expr he hs) fun E σ H ⟨δ, S, D0, hr, hs, h, cv⟩ => ⟨δ, S, _, hr, hs, h, fun d S' v H' q r s a => cv.nx δ S' σ H' q (hr.stp a) s a⟩
theorem qs_ret (he : PE X e (liftE (xfw X tbl) te)) : PS X (.Return (some e) pos) (liftS (xfw X tbl) (dRet te)) :=
  PS.imp (ps_ret he) fun E σ H ⟨δ, S, D0, hr, hs, h, cv⟩ => ⟨δ, S, _, hr, hs, h, fun d S' v H' q r s a => cv.rt d S' v H' q r s a⟩
theorem qs_retN : PS X (.Return none pos) (liftS (xfw X tbl) dRetN) :=
  PS.imp ps_retN fun E σ H ⟨δ, S, D0, hr, hs, h, cv⟩ => cv.rt _ _ _ _ h .non hs (.refl _ _)
theorem qs_if {c : Expr} {a b : List Stmt} {tc : DT} (hc : PT X c (liftT (xfw X tbl) tc)) (ha : PSs X a (liftS (xfw X tbl) t)) (hb : PSs X b (liftS (xfw X tbl) u)) : PS X (.If c a b pos) (liftS (xfw X tbl) (dIf tc t u)) :=
  PS.imp (ps_if hc ha hb) fun E σ H ⟨δ, S, D0, hr, hs, h, cv⟩ => ⟨δ, S, _, hr, hs, h, fun k S1 H1 h1 s1 a1 => by
    cases k with
    | true => rw [if_pos rfl] at h1 ⊢; exact ⟨δ, S1, D0, hr.stp a1, s1, h1, cv.stp a1⟩
    | false => rw [if_neg Bool.false_ne_true] at h1 ⊢; exact ⟨δ, S1, D0, hr.stp a1, s1, h1, cv.stp a1⟩⟩
theorem qs_never : PS X st (liftS (xfw X tbl) dNever) := PS.imp ps_never fun E σ H ⟨δ, S, D0, _, _, h, _⟩ => h.elim
abbrev DG := D → Loc → DS → (Loc → DS → Prop) → Prop
abbrev DGs := List D → Loc → DS → (Loc → DS → Prop) → Prop
/-- sl: the slots that it may store -/
def liftG (K : FW) (sl : List Nat) (g : DG) : TG := fun v σ H Q => ∃ d δ S Q0, Rv K H d v ∧ Rst K H δ σ ∧ Sim K S H ∧ g d δ S Q0 ∧
  ∀ δ' S' σ' H', Q0 δ' S' → Rst K H' δ' σ' → σ'.length = σ.length → (∀ i, i ∉ sl → σ'[i]? = σ[i]?) → Sim K S' H' → Stp S H S' H' → Q σ' H'
def liftGs (K : FW) (sl : List Nat) (g : DGs) : TGs := fun vs σ H Q => ∃ ds δ S Q0, RvL K H ds vs ∧ Rst K H δ σ ∧ Sim K S H ∧ g ds δ S Q0 ∧
  ∀ δ' S' σ' H', Q0 δ' S' → Rst K H' δ' σ' → σ'.length = σ.length → (∀ i, i ∉ sl → σ'[i]? = σ[i]?) → Sim K S' H' → Stp S H S' H' → Q σ' H'
theorem PG.imp {tg : Expr} {g g' : TG} (p : PG X tg g) (h : ∀ v σ H Q, g' v σ H Q → g v σ H Q) : PG X tg g' := ⟨fun pins s σ H v u Q I r hw => p.run pins s σ H v u Q I r (h _ _ _ _ hw)⟩
theorem PGs.imp {tg : List Expr} {g g' : TGs} (p : PGs X tg g) (h : ∀ v σ H Q, g' v σ H Q → g v σ H Q) : PGs X tg g' := ⟨fun pins s σ H v u Q I r hw => p.run pins s σ H v u Q I r (h _ _ _ _ hw)⟩
def dgName (i : Nat) : DG := fun d δ S Q => Q (δ.set i (some d)) S
def dgNil : DGs := fun ds δ S Q => ds = [] ∧ Q δ S
def dgCons (t : DG) (u : DGs) : DGs := fun ds δ S Q => match ds with
  | d :: r => t d δ S fun δ' S' => u r δ' S' Q
  | [] => False
def dgTup0 (n : Nat) (t : DGs) : DG := fun d δ S Q => match d with
  | .tup xs => xs.length = n ∧ t xs δ S Q
  | _ => False
theorem qg_name {i : Nat} {x : Str} (hN : X.N.Nodup) (hi : X.N[i]? = some x) (hx : L2.Loc X.env.scope x) (hf : X.fn x = true ∨ X.env.scope.names.lookup x = some .local := by first | exact .inl rfl | exact .inr rfl | assumption) : PG X (.Name x pos) (liftG (xfw X tbl) [i] (dgName i)) :=
  PG.imp (pg_name hN hi hx hf) fun v σ H Q ⟨d, δ, S, Q0, rv, rst, sim, h, hq⟩ => hq _ S _ H h (rst.set rv) (List.length_set ..) (fun j hj => List.getElem?_set_ne (fun z => hj (by rw [z]; exact List.mem_singleton.mpr rfl))) sim (.refl _ _)
theorem qgs_nil : PGs X [] (liftGs (xfw X tbl) [] dgNil) :=
  PGs.imp pgs_nil fun vs σ H Q ⟨ds, δ, S, Q0, rv, rst, sim, ⟨e, h⟩, hq⟩ => by
    subst e
    cases rv
    exact ⟨rfl, hq _ S _ H h rst rfl (fun _ _ => rfl) sim (.refl _ _)⟩
theorem qgs_cons {e : Expr} {es : List Expr} {g : DG} {u : DGs} {sl sm : List Nat} (h1 : PG X e (liftG (xfw X tbl) sl g)) (h2 : PGs X es (liftGs (xfw X tbl) sm u))
    (hs : (assignEach (e :: es) X.env).map (·.2) = assign e X.env :: (assignEach es X.env).map (·.2) := by rfl) : PGs X (e :: es) (liftGs (xfw X tbl) (sl ++ sm) (dgCons g u)) :=
  PGs.imp (pgs_cons h1 h2 hs) fun vs σ H Q ⟨ds, δ, S, Q0, rv, rst, sim, h, hq⟩ => by
    cases ds with
    | nil => exact h.elim
    | cons d r =>
      cases rv with
      | cons rd rr =>
        refine ⟨_, _, rfl, d, δ, S, _, rd, rst, sim, h, fun δ1 S1 σ1 H1 q1 r1 l1 n1 s1 a1 => ⟨r, δ1, S1, _, a1.rvl rr, r1, s1, q1, fun δ2 S2 σ2 H2 q2 r2 l2 n2 s2 a2 => ?_⟩⟩
        exact hq δ2 S2 σ2 H2 q2 r2 (l2.trans l1) (fun i hi => (n2 i fun z => hi (List.mem_append_right _ z)).trans (n1 i fun z => hi (List.mem_append_left _ z))) s2 (a1.trans a2)
theorem qg_tup0 {es : List Expr} {k : Nat} {g : DGs} {n : Nat} {sl : List Nat} (hc : X.calm = true) (h : PGs X es (liftGs (xfw X tbl) sl g))
    (hn : (assignEach es X.env).length = n := by rfl) (hst : (assignEach es X.env).findIdx? (·.1) = none := by rfl) : PG X (.Tuple es k pos) (liftG (xfw X tbl) sl (dgTup0 n g)) :=
  PG.imp (pg_tup hc h hn hst) fun v σ H Q ⟨d, δ, S, Q0, rv, rst, sim, h, hq⟩ => by
    cases d with
    | tup xs =>
      cases rv with
      | tup hs rl => exact ⟨_, _, rfl, hs, by rw [← rl.length]; exact h.1, xs, δ, S, Q0, rl, rst, sim, h.2, hq⟩
    | _ => exact h.elim
def dAsg (te : DE) (g : DG) : DSt := fun D δ S => te δ S fun x S1 => g x δ S1 D.nx
theorem lift_asg {g : DG} {sl : List Nat} : ∀ E σ H, liftS (xfw X tbl) (dAsg te g) E σ H → tAsg (liftE (xfw X tbl) te) (liftG (xfw X tbl) sl g) E σ H :=
  fun E σ H ⟨δ, S, D0, hr, hs, h, cv⟩ => ⟨δ, S, _, hr, hs, h, fun d S1 v H1 h1 r1 s1 a1 => ⟨d, δ, S1, _, r1, hr.stp a1, s1, h1, fun δ' S' σ' H' q r _ _ s a => cv.nx δ' S' σ' H' q r s (a1.trans a)⟩⟩
theorem qs_asg {tg e : Expr} {g : DG} {sl : List Nat} (he : PE X e (liftE (xfw X tbl) te)) (hg : PG X tg (liftG (xfw X tbl) sl g)) (hs : swapsWithSole [tg] e pos.line X.env = pure false := by rfl) (hw : swappedStores [tg] e X.env = pure none := by rfl)
    (h1 : (assignEach [tg] X.env).map (·.2) = [assign tg X.env] := by rfl) : PS X (.Assign [tg] e pos) (liftS (xfw X tbl) (dAsg te g)) := PS.imp (ps_asg he hg hs hw h1) lift_asg
theorem qs_set {i : Nat} {x : Str} {e : Expr} {pos' : Pos} (hN : X.N.Nodup) (hi : X.N[i]? = some x) (hx : L2.Loc X.env.scope x) (he : PE X e (liftE (xfw X tbl) te)) (hs : swapsWith e (some (.Name x pos')) pos.line X.env = pure false := by rfl)
    (hf : X.fn x = true ∨ X.env.scope.names.lookup x = some .local := by first | exact .inl rfl | exact .inr rfl | assumption) : PS X (.Assign [.Name x pos'] e pos) (liftS (xfw X tbl) (dAsg te (dgName i))) :=
  PS.imp (ps_set hN hi hx he hs hf) fun E σ H ⟨δ, S, D0, hr, hs, h, cv⟩ => ⟨δ, S, _, hr, hs, h, fun d S1 v H1 h1 r1 s1 a1 => cv.nx _ S1 _ H1 h1 ((hr.stp a1).set r1) s1 a1⟩
def dAug (i : Nat) (te : DE) (r : DR2) : DSt := fun D δ S => ∃ x, δ[i]? = some (some x) ∧ te δ S fun y S1 => r x y S1 fun z S2 => D.nx (δ.set i (some z)) S2
theorem qs_aug {i : Nat} {x : Str} {e : Expr} {op : Operator} {r : DR2} {pos' : Pos} (hN : X.N.Nodup) (hi : X.N[i]? = some x) (hx : L2.Loc X.env.scope x) (he : PE X e (liftE (xfw X tbl) te)) (ho : OpR X (inplaceOp op) (liftO (xfw X tbl) r))
    (hf : X.fn x = true ∨ X.env.scope.names.lookup x = some .local := by first | exact .inl rfl | exact .inr rfl | assumption) : PS X (.AugAssign (.Name x pos') op e pos) (liftS (xfw X tbl) (dAug i te r)) :=
  PS.imp (ps_aug (ti := liftO (xfw X tbl) r) hN hi hx he ho hf) fun E σ H ⟨δ, S, D0, hr, hs, ⟨d, e, h⟩, cv⟩ => by
    obtain ⟨v, h1, h2⟩ := hr.2 i d e
    exact ⟨v, h1, δ, S, _, hr, hs, h, fun y S1 u H1 q1 r1 s1 a1 => ⟨d, y, S1, _, a1.rv h2, r1, s1, q1, fun z S2 w H2 q2 r2 s2 a2 => cv.nx _ S2 _ H2 q2 ((hr.stp (a1.trans a2)).set r2) s2 (a1.trans a2)⟩⟩
/-- o[i] = v, by values -/
abbrev DSet := D → D → D → DS → (DS → Prop) → Prop
def liftSet (K : FW) (r : DSet) : TSet := fun o i v H Q => ∃ od i_d vd S Q0, Rv K H od o ∧ Rv K H i_d i ∧ Rv K H vd v ∧ Sim K S H ∧ r od i_d vd S Q0 ∧ ∀ S' H', Q0 S' → Sim K S' H' → Stp S H S' H' → Q H'
def dgSub (to ti : DE) (r : DSet) : DG := fun v δ S Q => to δ S fun o S1 => ti δ S1 fun i S2 => r o i v S2 fun S3 => Q δ S3
theorem qg_sub {o i : Expr} {to ti : DE} {r : DSet} (ho : PE X o (liftE (xfw X tbl) to)) (hi : PE X i (liftE (xfw X tbl) ti)) (hs : PSet X (liftSet (xfw X tbl) r))
    (ha : ∀ v, assign (.Subscript o i pos) X.env v = (do
      let ov ← holding [v] (eval o X.env)
      let iv ← holding [v, ov] (eval i X.env)
      standAt pos
      holding [v, ov, iv] (setItem ov iv v)
      release [v, ov, iv] []) := by intro _; rfl) : PG X (.Subscript o i pos) (liftG (xfw X tbl) [] (dgSub to ti r)) :=
  PG.imp (pg_sub ho hi hs ha) fun v σ H Q ⟨d, δ, S, Q0, rv, rst, sim, h, hq⟩ => ⟨δ, S, _, rst, sim, h, fun x S1 vx H1 h1 r1 s1 a1 => ⟨δ, S1, _, rst.stp a1, s1, h1, fun y S2 vy H2 h2 r2 s2 a2 =>
    ⟨x, y, d, S2, _, a2.rv r1, r2, (a1.trans a2).rv rv, s2, h2, fun S3 H3 q3 s3 a3 => hq _ S3 _ H3 q3 (rst.stp ((a1.trans a2).trans a3)) rfl (fun _ _ => rfl) s3 ((a1.trans a2).trans a3)⟩⟩⟩
/-- o[i] op= e -/
def dAugS (to ti te : DE) (rg rp : DR2) (rs : DSet) : DSt := fun D δ S => to δ S fun o S1 => ti δ S1 fun i S2 => rg o i S2 fun x S3 => te δ S3 fun y S4 => rp x y S4 fun z S5 => rs o i z S5 fun S6 => D.nx δ S6
theorem qs_augS {o i e : Expr} {to ti : DE} {rg rp : DR2} {rs : DSet} {op : Operator} {tpos : Pos} (ho : PE X o (liftE (xfw X tbl) to)) (hi : PE X i (liftE (xfw X tbl) ti)) (hg : PGet X (liftO (xfw X tbl) rg)) (he : PE X e (liftE (xfw X tbl) te)) (hp : OpR X (inplaceOp op) (liftO (xfw X tbl) rp)) (hs : PSet X (liftSet (xfw X tbl) rs))
    (ha : ∀ ov iv new, augStore i ov iv new = (do holding [new, ov, iv] (setItem ov iv new); release [new, ov, iv] []; pure .next) := by intros; rfl) : PS X (.AugAssign (.Subscript o i tpos) op e pos) (liftS (xfw X tbl) (dAugS to ti te rg rp rs)) :=
  PS.imp (ps_augS ho hi hg he hp hs ha) fun E σ H ⟨δ, S, D0, hr, hs, h, cv⟩ => ⟨δ, S, _, hr, hs, h, fun x1 S1 v1 H1 h1 r1 s1 a1 => ⟨δ, S1, _, hr.stp a1, s1, h1, fun x2 S2 v2 H2 h2 r2 s2 a2 =>
    ⟨x1, x2, S2, _, a2.rv r1, r2, s2, h2, fun x3 S3 v3 H3 h3 r3 s3 a3 => ⟨δ, S3, _, hr.stp ((a1.trans a2).trans a3), s3, h3, fun x4 S4 v4 H4 h4 r4 s4 a4 =>
      ⟨x3, x4, S4, _, a4.rv r3, r4, s4, h4, fun x5 S5 v5 H5 h5 r5 s5 a5 => ⟨x1, x2, x5, S5, _, (a2.trans ((a3.trans a4).trans a5)).rv r1, ((a3.trans a4).trans a5).rv r2, r5, s5, h5, fun S6 H6 h6 s6 a6 =>
        cv.nx δ S6 σ H6 h6 (hr.stp (((a1.trans a2).trans ((a3.trans a4).trans a5)).trans a6)) s6 (((a1.trans a2).trans ((a3.trans a4).trans a5)).trans a6)⟩⟩⟩⟩⟩⟩
def dWhileN (c : DT) (tb : DSt) : Nat → DSt
  | 0 => fun _ _ _ => False
  | n + 1 => fun D δ S => c δ S fun b S1 => if b = true then tb { nx := fun δ S => dWhileN c tb n D δ S, rt := D.rt, bk := D.nx, ct := fun δ S => dWhileN c tb n D δ S } δ S1 else D.nx δ S1
def dWhile (c : DT) (tb : DSt) : DSt := fun D δ S => ∃ n, dWhileN c tb n D δ S
theorem qs_while {c : Expr} {body : List Stmt} {tc : DT} {tb : DSt} (hp : PassesOwn (model X.prog X.w) X.A X.env X.xe) (hc : PT X c (liftT (xfw X tbl) tc)) (hb : PSs X body (liftS (xfw X tbl) tb)) : PS X (.While c body [] pos) (liftS (xfw X tbl) (dWhile tc tb)) :=
  PS.imp (ps_while hp hc hb) fun E σ H ⟨δ, S, D0, hr, hs, ⟨n, h⟩, cv⟩ => by
    refine ⟨fun m σ' H' => ∃ δ' S', Stp S H S' H' ∧ Rst (xfw X tbl) H' δ' σ' ∧ Sim (xfw X tbl) S' H' ∧ dWhileN tc tb m D0 δ' S', ⟨n, δ, S, .refl _ _, hr, hs, h⟩, ?_⟩
    rintro m σ1 H1 ⟨δ1, S1, a1, r1, s1, h1⟩
    cases m with
    | zero => exact h1.elim
    | succ m =>
      refine ⟨δ1, S1, _, r1, s1, h1, fun b S2 H2 q2 s2 a2 => ?_⟩
      cases b with
      | true =>
        simp only [if_true] at q2 ⊢
        refine ⟨fun σ' H' => ∃ δ' S', Stp S H S' H' ∧ Rst (xfw X tbl) H' δ' σ' ∧ Sim (xfw X tbl) S' H' ∧ dWhileN tc tb m D0 δ' S', fun σ' H' w => ⟨m, Nat.lt_succ_self m, w⟩, ?_⟩
        exact ⟨δ1, S2, _, r1.stp a2, s2, q2, ⟨fun δ' S' σ' H' h r s a => ⟨δ', S', (a1.trans a2).trans a, r, s, h⟩, (cv.stp (a1.trans a2)).rt, (cv.stp (a1.trans a2)).nx, fun δ' S' σ' H' h r s a => ⟨δ', S', (a1.trans a2).trans a, r, s, h⟩⟩⟩
      | false =>
        simp only [Bool.false_eq_true, if_false] at q2 ⊢
        exact cv.nx δ1 S2 σ1 H2 q2 (r1.stp a2) s2 (a1.trans a2)
end
abbrev DI := Loc → DS → (List D → (DS → Prop) → DS → Prop) → Prop
def JOk (K : FW) (H0 : Hp) (xs : List D) (stay : DS → Prop) (J : It) : Prop :=
  ∀ i S H, Prs H0 H → Sim K S H → stay S → (xs.length ≤ i → J.stop i H) ∧ ∀ d, xs[i]? = some d → J.go i H ∧ ∀ x H', J.yld i H x H' → Rv K H' d x ∧ Sim K S H' ∧ Stp S H S H'
def liftI (K : FW) (di : DI) : TI := fun σ H R => ∃ δ S Q0, Rst K H δ σ ∧ Sim K S H ∧ di δ S Q0 ∧ ∀ xs stay S' H' J, Q0 xs stay S' → Sim K S' H' → Stp S H S' H' → JOk K H' xs stay J → R J H'
def forT (stay : DS → Prop) (g : DG) (tb : DSt) (E : DEnds) : List D → Loc → DS → Prop
  | [], δ, S => stay S ∧ E.nx δ S
  | x :: r, δ, S => stay S ∧ g x δ S fun δ1 S1 => tb { nx := fun δ S => forT stay g tb E r δ S, rt := E.rt, bk := E.nx, ct := fun δ S => forT stay g tb E r δ S } δ1 S1
def dFor (di : DI) (g : DG) (tb : DSt) : DSt := fun D δ S => di δ S fun xs stay S1 => forT stay g tb D xs δ S1
section
variable {X : Cx} {tbl : Tbl} {tg iter : Expr} {pos : Pos}
theorem drop_get {α : Type} {xs : List α} {i : Nat} {x : α} {r : List α} (h : xs.drop i = x :: r) : xs[i]? = some x ∧ r = xs.drop (i + 1) ∧ i < xs.length := by
  have hi : i < xs.length := by
    by_cases q : i < xs.length
    · exact q
    · rw [List.drop_eq_nil_of_le (by omega)] at h; cases h
  rw [List.drop_eq_getElem_cons hi] at h
  injection h with h1 h2
  exact ⟨by rw [List.getElem?_eq_getElem hi, h1], h2.symm, hi⟩
theorem qs_for {body : List Stmt} {di : DI} {g : DG} {tb : DSt} {sl : List Nat} (hp : PassesOwn (model X.prog X.w) X.A X.env X.xe) (hc : X.calm = true) (hi : PI X tg iter (liftI (xfw X tbl) di)) (hg : PG X tg (liftG (xfw X tbl) sl g)) (hb : PSs X body (liftS (xfw X tbl) tb))
    (hs : ∀ x, foldedSetIterable iter X.env x = pure x := by intro _; rfl) : PS X (.For tg iter body [] pos) (liftS (xfw X tbl) (dFor di g tb)) :=
  PS.imp (ps_for hp hc hi hg hb hs) fun E σ H ⟨δ, S, D0, hr, hs, h, cv⟩ => by
    refine ⟨δ, S, _, hr, hs, h, fun xs stay S1 H1 J q1 s1 a1 jok => ?_⟩
    refine ⟨fun i m σ' H' => m + i = xs.length ∧ ∃ δ' S', Stp S1 H1 S' H' ∧ Rst (xfw X tbl) H' δ' σ' ∧ Sim (xfw X tbl) S' H' ∧ forT stay g tb D0 (xs.drop i) δ' S', ⟨xs.length, by omega, δ, S1, .refl _ _, hr.stp a1, s1, by simpa using q1⟩, ?_⟩
    rintro i m σ2 H2 ⟨em, δ2, S2, a2, r2, s2, h2⟩
    cases hx : xs.drop i with
    | nil =>
      rw [hx] at h2
      have hl : xs.length ≤ i := List.drop_eq_nil_iff.mp hx
      exact .inl ⟨(jok i S2 H2 a2.prs s2 h2.1).1 hl, cv.nx δ2 S2 σ2 H2 h2.2 r2 s2 (a1.trans a2)⟩
    | cons x r =>
      rw [hx] at h2
      obtain ⟨hg1, hr1, hl⟩ := drop_get hx
      obtain ⟨hgo, hy⟩ := (jok i S2 H2 a2.prs s2 h2.1).2 x hg1
      refine .inr ⟨hgo, fun σ' H' => ∃ δ' S', Stp S1 H1 S' H' ∧ Rst (xfw X tbl) H' δ' σ' ∧ Sim (xfw X tbl) S' H' ∧ forT stay g tb D0 r δ' S', fun σ' H' ⟨δ', S', a', r', s', h'⟩ => ⟨m - 1, by omega, by omega, δ', S', a', r', s', by rw [← hr1]; exact h'⟩, fun x' H' y => ?_⟩
      obtain ⟨rx, sx, ax⟩ := hy x' H' y
      refine ⟨x, δ2, S2, _, rx, r2.stp ax, sx, h2.2, fun δ3 S3 σ3 H3 q3 r3 _ _ s3 a3 => ⟨δ3, S3, _, r3, s3, q3, ?_⟩⟩
      have ac := (a2.trans ax).trans a3
      exact ⟨fun δ' S' σ' H' h r s a => ⟨δ', S', ac.trans a, r, s, h⟩, (cv.stp (a1.trans ac)).rt, (cv.stp (a1.trans ac)).nx, fun δ' S' σ' H' h r s a => ⟨δ', S', ac.trans a, r, s, h⟩⟩
def dwipe (δ : Loc) : List Nat → Loc
  | [] => δ
  | v :: vs => (dwipe δ vs).set v none
theorem dwipe_some {δ : Loc} {i : Nat} {d : D} : ∀ {vs : List Nat}, (dwipe δ vs)[i]? = some (some d) → δ[i]? = some (some d) ∧ i ∉ vs
  | [], h => ⟨h, by simp⟩
  | v :: vs, h => by
    unfold dwipe at h
    by_cases hi : v = i
    · subst hi
      by_cases hv : v < (dwipe δ vs).length
      · rw [List.getElem?_set_self hv] at h; cases h
      · rw [List.getElem?_eq_none (by simpa using hv)] at h; cases h
    · rw [List.getElem?_set_ne hi] at h
      obtain ⟨h1, h2⟩ := dwipe_some h
      exact ⟨h1, by simp only [List.mem_cons, not_or]; exact ⟨fun e => hi e.symm, h2⟩⟩
theorem dwipe_length (δ : Loc) : ∀ vs : List Nat, (dwipe δ vs).length = δ.length
  | [] => rfl
  | v :: vs => by unfold dwipe; rw [List.length_set, dwipe_length δ vs]
theorem wipe_in {σ : L2.St} {i : Nat} : ∀ {vs : List Nat}, i ∈ vs → i < σ.length → (wipe σ vs)[i]? = some none
  | [], h, _ => by cases h
  | v :: vs, h, hl => by
    unfold wipe
    by_cases hi : v = i
    · subst hi
      exact List.getElem?_set_self (by rw [wipe_length]; exact hl)
    · rw [List.getElem?_set_ne hi]
      exact wipe_in (by rcases List.mem_cons.mp h with z | z; exact absurd z.symm hi; exact z) hl
theorem Rst.wipe {K : FW} {H : Hp} {δ : Loc} {σ : L2.St} {vs : List Nat} (r : Rst K H δ σ) : Rst K H (dwipe δ vs) (L2.wipe σ vs) := by
  refine ⟨by rw [dwipe_length, wipe_length]; exact r.1, fun i d h => ?_⟩
  obtain ⟨h1, h2⟩ := dwipe_some h
  obtain ⟨v, h3, h4⟩ := r.2 i d h1
  exact ⟨v, by rw [wipe_out h2]; exact h3, h4⟩
theorem wipe_same {σ τ : L2.St} {sl vs : List Nat} (hl : τ.length = σ.length) (h : ∀ i, i ∉ sl → τ[i]? = (wipe σ vs)[i]?) (hs : ∀ i ∈ sl, i ∈ vs) : wipe τ vs = wipe σ vs := by
  apply List.ext_getElem?
  intro i
  by_cases hi : i ∈ vs
  · by_cases hlt : i < σ.length
    · rw [wipe_in hi (by omega), wipe_in hi hlt]
    · rw [List.getElem?_eq_none (by rw [wipe_length]; omega), List.getElem?_eq_none (by rw [wipe_length]; omega)]
  · rw [wipe_out hi, h i fun z => hi (hs i z)]
def lcT (stay : DS → Prop) (g : DG) (tt : DT) (te : DE) (δ : Loc) (K : List D → DS → Prop) : List D → List D → DS → Prop
  | [], acc, S => stay S ∧ K acc S
  | x :: r, acc, S => stay S ∧ g x δ S fun δ2 S2 => tt δ2 S2 fun b S3 => if b = true then te δ2 S3 fun y S4 => acc.length < 16777216 ∧ lcT stay g tt te δ K r (acc ++ [y]) S4 else lcT stay g tt te δ K r acc S3
def dLc (di : DI) (g : DG) (tt : DT) (te : DE) (vs : List Nat) : DE := fun δ S Q => di δ S fun xs stay S1 => lcT stay g tt te (dwipe δ vs) (fun ys S2 => ∀ p, S2 p = none → Q (.ref p) (dupd S2 p (.lst ys))) xs [] S1
theorem Stp.updD {S0 S : DS} {H0 H : Hp} {p : Addr} {o : HO} (a : Stp S0 H0 S H) (h : H0 p = none) : Stp S0 H0 S (L2.upd H p o) :=
  ⟨fun b xs e => by rw [upd_ne (ne_of_none e h)]; exact a.tup b xs e, fun b x u e => by rw [upd_ne (ne_of_none e h)]; exact a.frz b x u e,
   fun b x n t e => by rw [upd_ne (ne_of_none e h)]; exact a.keep b x n t e, a.hid, fun b e => upd_live (a.live b e)⟩
theorem Stp.newD {S0 S : DS} {H0 H : Hp} {p : Addr} {d : DO} (a : Stp S0 H0 S H) (h : H0 p = none) : Stp S0 H0 (dupd S p d) H :=
  ⟨a.tup, a.frz, a.keep, fun b e n => by rw [dupd_ne (fun z => e (by rw [z]; exact h))]; exact a.hid b e n, a.live⟩
theorem Rv.updL {K : FW} {H : Hp} {p : Addr} {ws us : List V} (h : H p = some (.lst ws)) {d : D} {v : V} (r : Rv K H d v) : Rv K (L2.upd H p (.lst us)) d v := by
  refine Rv.mono (fun a vs q => ?_) (fun a vs q => ?_) d v r
  · rcases q with (q | ⟨o, q⟩) | q
    · exact .inl (.inl (by rw [upd_ne (fun z => by subst z; rw [h] at q; cases q)]; exact q))
    · exact .inl (.inr ⟨o, by rw [upd_ne (fun z => by subst z; rw [h] at q; cases q)]; exact q⟩)
    · exact .inr q
  · rcases q with ⟨o, q⟩ | q
    · exact .inl ⟨o, by rw [upd_ne (fun z => by subst z; rw [h] at q; cases q)]; exact q⟩
    · exact .inr q
theorem RvL.updL {K : FW} {H : Hp} {p : Addr} {ws us : List V} (h : H p = some (.lst ws)) : ∀ {ds : List D} {vs : List V}, RvL K H ds vs → RvL K (L2.upd H p (.lst us)) ds vs
  | [], _, r => by cases r; exact .nil
  | d :: ds, _, r => by
    cases r with
    | cons q rr => exact .cons (q.updL h) (RvL.updL h rr)
theorem REnt.updL {K : FW} {H : Hp} {p : Addr} {ws us : List V} (h : H p = some (.lst ws)) : ∀ {kvs : List (D × D)} {es : List DictEntry}, REnt K H kvs es → REnt K (L2.upd H p (.lst us)) kvs es
  | _, _, .nil => .nil
  | _, _, .cons a b c d e f r => .cons a b (c.updL h) d (e.updL h) f (REnt.updL h r)
theorem Sim.updL {K : FW} {S : DS} {H : Hp} {p : Addr} {ws us : List V} (x : Sim K S H) (h : H p = some (.lst ws)) (n : S p = none) : Sim K S (L2.upd H p (.lst us)) := by
  refine ⟨fun a o e => ?_, tabs_upd x.tab (by rw [h]; exact ⟨fun _ z => (nomatch z), fun _ _ z => (nomatch z)⟩)⟩
  have ha : a ≠ p := fun z => by subst z; rw [n] at e; cases e
  cases o with
  | lst xs => obtain ⟨vs, e, r⟩ := x a _ e; exact ⟨vs, (upd_ne ha).trans e, r.updL h⟩
  | ins c nm xs => obtain ⟨C, dx, vs, e, z, r⟩ := x a _ e; exact ⟨C, dx, vs, (upd_ne ha).trans e, z, r.updL h⟩
  | dct st kvs => obtain ⟨e, r, l⟩ := x a _ e; exact ⟨(upd_ne ha).trans e, REnt.updL h r, l⟩
  | dset xs => obtain ⟨ks, e1, e2, e⟩ := x a _ e; exact ⟨ks, e1, e2, (upd_ne ha).trans e⟩
theorem lift_lc {di : DI} {g : DG} {tt : DT} {te : DE} {sl vs : List Nat} (hsl : ∀ i ∈ sl, i ∈ vs) : ∀ σ H Q, liftE (xfw X tbl) (dLc di g tt te vs) σ H Q → tLc (liftI (xfw X tbl) di) (liftG (xfw X tbl) sl g) (liftT (xfw X tbl) tt) (liftE (xfw X tbl) te) vs σ H Q :=
  fun σ H Q ⟨δ, S, Q0, hr, hs, h, hq⟩ => by
    refine ⟨δ, S, _, hr, hs, h, fun xs stay S1 H1 J q1 s1 a1 jok p hp => ?_⟩
    have hp1 : S1 p = none := s1.fresh hp
    let Kd : List D → DS → Prop := fun ys S2 => ∀ p, S2 p = none → Q0 (.ref p) (dupd S2 p (.lst ys))
    refine ⟨fun i m H' => m + i = xs.length ∧ ∃ acc ws S', Stp S1 H1 S' H' ∧ Sim (xfw X tbl) S' H' ∧ S' p = none ∧ H' p = some (.lst ws) ∧ RvL (xfw X tbl) H' acc ws ∧ lcT stay g tt te (dwipe δ vs) Kd (xs.drop i) acc S',
      ⟨xs.length, by omega, [], [], S1, (Stp.refl _ _).updD hp, s1.laid hp, hp1, upd_same, .nil, by simpa using q1⟩, ?_⟩
    rintro i m H2 ⟨em, acc, ws, S2, a2, s2, n2, e2, r2, h2⟩
    cases hx : xs.drop i with
    | nil =>
      rw [hx] at h2
      have hl : xs.length ≤ i := List.drop_eq_nil_iff.mp hx
      refine .inl ⟨(jok i S2 H2 a2.prs s2 h2.1).1 hl, hq _ _ _ _ (h2.2 p n2) (.ref p) ⟨fun a u e => ?_, s2.tab⟩ ((a1.trans a2).newD ?_)⟩
      · by_cases ha : a = p
        · subst ha; rw [dupd_same] at e; cases e; exact ⟨ws, e2, r2⟩
        · rw [dupd_ne ha] at e; exact s2 a u e
      · cases q : H p with
        | none => rfl
        | some o => exact absurd hp (a1.live p (by rw [q]; simp))
    | cons x r =>
      rw [hx] at h2
      obtain ⟨hg1, hr1, hl⟩ := drop_get hx
      obtain ⟨hgo, hy⟩ := (jok i S2 H2 a2.prs s2 h2.1).2 x hg1
      refine .inr ⟨hgo, fun H' => ∃ acc ws S', Stp S1 H1 S' H' ∧ Sim (xfw X tbl) S' H' ∧ S' p = none ∧ H' p = some (.lst ws) ∧ RvL (xfw X tbl) H' acc ws ∧ lcT stay g tt te (dwipe δ vs) Kd r acc S',
        fun H' ⟨acc, ws, S', h1, h2, h3, h4, h5, h6⟩ => ⟨m - 1, by omega, by omega, acc, ws, S', h1, h2, h3, h4, h5, by rw [← hr1]; exact h6⟩, fun x' H' y => ?_⟩
      obtain ⟨rx, sx, ax⟩ := hy x' H' y
      have hrw : Rst (xfw X tbl) H1 (dwipe δ vs) (L2.wipe σ vs) := (hr.stp a1).wipe
      refine ⟨x, _, S2, _, rx, hrw.stp (a2.trans ax), sx, h2.2, fun δ3 S3 σ3 H3 q3 r3 l3 n3 s3 a3 => ⟨wipe_same (by rw [l3, wipe_length]) n3 hsl, δ3, S3, _, r3, s3, q3, fun b S4 H4 q4 s4 a4 => ?_⟩⟩
      have b4 := (ax.trans a3).trans a4
      have n4 : S4 p = none := b4.hid p (by rw [e2]; simp) n2
      have e4 : H4 p = some (.lst ws) := b4.keep p _ n2 (fun _ z => nomatch z) e2
      cases b with
      | false =>
        simp only [Bool.false_eq_true, if_false] at q4 ⊢
        exact ⟨acc, ws, S4, a2.trans b4, s4, n4, e4, b4.rvl r2, q4⟩
      | true =>
        simp only [if_true] at q4 ⊢
        refine ⟨δ3, S4, _, r3.stp a4, s4, q4, fun y S5 v H5 ⟨z5, q5⟩ r5 s5 a5 => ?_⟩
        have n5 : S5 p = none := a5.hid p (by rw [e4]; simp) n4
        have e5 : H5 p = some (.lst ws) := a5.keep p _ n4 (fun _ z => nomatch z) e4
        have r2' := (b4.trans a5).rvl r2
        refine ⟨ws, e5, by rw [← r2.length, szl]; exact z5, acc ++ [y], ws ++ [v], S5, (a2.trans (b4.trans a5)).updD hp, s5.updL e5 n5, n5, upd_same, (r2'.append (.cons r5 .nil)).updL e5, q5⟩
end
section
variable {X : Cx} {tbl : Tbl} {pos : Pos}
def liftTs (K : FW) (t : DT) : TT := liftT K t
def dYes : DT := fun _ S Q => Q true S
theorem PTs.imp {ifs : List Expr} {t t' : TT} (p : PTs X ifs t) (h : ∀ σ H Q, t' σ H Q → t σ H Q) : PTs X ifs t' := ⟨fun pins s σ H Q I hw => p.run pins s σ H Q I (h _ _ _ hw)⟩
theorem qts_nil : PTs X [] (liftT (xfw X tbl) dYes) := PTs.imp pts_nil fun σ H Q ⟨δ, S, Q0, hr, hs, h, hq⟩ => hq _ _ _ h hs (.refl _ _)
theorem qts_one {c : Expr} {t : DT} (h : PT X c (liftT (xfw X tbl) t)) : PTs X [c] (liftT (xfw X tbl) t) := pts_one h
theorem qe_lc {elt tg iter : Expr} {ifs : List Expr} {scope : Scope} (own : List (Str × Nat)) {di : DI} {g : DG} {tt : DT} {te : DE} {sl : List Nat} (hc : X.calm = true) (hN : X.N.Nodup) (hi : PI X tg iter (liftI (xfw X tbl) di)) (ok : blkC X.N X.env.scope scope own = true)
    (hsl : ∀ i ∈ sl, i ∈ own.map (·.2))
    (hg : ∀ (s : Shared) (H : Hp) (C : Addr) (cl : List (Str × Addr)) (fp : List Addr), PG (X.blk s H scope (compEnvC scope cl C X.env) fp) tg (liftG (xfw X tbl) sl g))
    (ht : ∀ (s : Shared) (H : Hp) (C : Addr) (cl : List (Str × Addr)) (fp : List Addr), PTs (X.blk s H scope (compEnvC scope cl C X.env) fp) ifs (liftT (xfw X tbl) tt))
    (he : ∀ (s : Shared) (H : Hp) (C : Addr) (cl : List (Str × Addr)) (fp : List Addr), PE (X.blk s H scope (compEnvC scope cl C X.env) fp) elt (liftE (xfw X tbl) te)) (hs : ∀ x, foldedSetIterable iter X.env x = pure x := by intro _; rfl) :
    PE X (.ListComp elt [⟨tg, iter, ifs, 0⟩] scope pos) (liftE (xfw X tbl) (dLc di g tt te (own.map (·.2)))) := PE.imp (pe_lc hc hN hi (blkOk_by ok) hg ht he hs) (lift_lc hsl)
theorem qs_setLc {i : Nat} {y : Str} {py spos : Pos} {elt tg iter : Expr} {ifs : List Expr} {scope : Scope} (own : List (Str × Nat)) {di : DI} {g : DG} {tt : DT} {te : DE} {sl : List Nat} (hc : X.calm = true) (hN : X.N.Nodup) (hy : X.N[i]? = some y) (hyl : X.env.scope.names.lookup y = some .local)
    (hsw : swapsWith (.ListComp elt [⟨tg, iter, ifs, 0⟩] scope pos) (some (.Name y py)) spos.line X.env = pure true) (hi : PI X tg iter (liftI (xfw X tbl) di)) (ok : blkC X.N X.env.scope scope own = true)
    (hsl : ∀ i ∈ sl, i ∈ own.map (·.2))
    (hg : ∀ (s : Shared) (H : Hp) (C : Addr) (cl : List (Str × Addr)) (fp : List Addr), PG (X.blk s H scope (compEnvC scope cl C X.env) fp) tg (liftG (xfw X tbl) sl g))
    (ht : ∀ (s : Shared) (H : Hp) (C : Addr) (cl : List (Str × Addr)) (fp : List Addr), PTs (X.blk s H scope (compEnvC scope cl C X.env) fp) ifs (liftT (xfw X tbl) tt))
    (he : ∀ (s : Shared) (H : Hp) (C : Addr) (cl : List (Str × Addr)) (fp : List Addr), PE (X.blk s H scope (compEnvC scope cl C X.env) fp) elt (liftE (xfw X tbl) te)) (hs : ∀ x, foldedSetIterable iter X.env x = pure x := by intro _; rfl) :
    PS X (.Assign [.Name y py] (.ListComp elt [⟨tg, iter, ifs, 0⟩] scope pos) spos) (liftS (xfw X tbl) (dAsg (dLc di g tt te (own.map (·.2))) (dgName i))) :=
  PS.imp (ps_setLc hc hN hy hyl hsw hi (blkOk_by ok) hg ht he hs) fun E σ H ⟨δ, S, D0, hr, hsim, h, cv⟩ =>
    lift_lc hsl σ H _ ⟨δ, S, _, hr, hsim, h, fun d S1 v H1 h1 r1 s1 a1 => cv.nx _ S1 _ H1 h1 ((hr.stp a1).set r1) s1 a1⟩
/-- two clauses -/
def lcT2 (stay : DS → Prop) (g : DG) (tt : DT) (di1 : DI) (g1 : DG) (tt1 : DT) (te : DE) (δ : Loc) (vs1 : List Nat) (K : List D → DS → Prop) : List D → List D → DS → Prop
  | [], acc, S => stay S ∧ K acc S
  | x :: r, acc, S => stay S ∧ g x δ S fun δ2 S2 => tt δ2 S2 fun b S3 => if b = true then di1 δ2 S3 fun ys stay1 S4 => lcT stay1 g1 tt1 te (dwipe δ2 vs1) (fun acc S => lcT2 stay g tt di1 g1 tt1 te δ vs1 K r acc S) ys acc S4
      else lcT2 stay g tt di1 g1 tt1 te δ vs1 K r acc S3
def dLc2 (di : DI) (g : DG) (tt : DT) (di1 : DI) (g1 : DG) (tt1 : DT) (te : DE) (vs vs1 : List Nat) : DE := fun δ S Q => di δ S fun xs stay S1 => lcT2 stay g tt di1 g1 tt1 te (dwipe δ vs) vs1 (fun ys S2 => ∀ p, S2 p = none → Q (.ref p) (dupd S2 p (.lst ys))) xs [] S1
theorem lift_lc2 {di di1 : DI} {g g1 : DG} {tt tt1 : DT} {te : DE} {sl sl1 vs vs1 : List Nat} (hsl : ∀ i ∈ sl, i ∈ vs) (hsl1 : ∀ i ∈ sl1, i ∈ vs1) : ∀ σ H Q, liftE (xfw X tbl) (dLc2 di g tt di1 g1 tt1 te vs vs1) σ H Q →
    tLc2 (liftI (xfw X tbl) di) (liftG (xfw X tbl) sl g) (liftT (xfw X tbl) tt) (liftI (xfw X tbl) di1) (liftG (xfw X tbl) sl1 g1) (liftT (xfw X tbl) tt1) (liftE (xfw X tbl) te) vs vs1 σ H Q :=
  fun σ H Q ⟨δ, S, Q0, hr, hs, h, hq⟩ => by
    refine ⟨δ, S, _, hr, hs, h, fun xs stay S1 H1 J q1 s1 a1 jok p hp => ?_⟩
    have hp1 : S1 p = none := s1.fresh hp
    let Kd : List D → DS → Prop := fun ys S2 => ∀ p, S2 p = none → Q0 (.ref p) (dupd S2 p (.lst ys))
    refine ⟨fun i m H' => m + i = xs.length ∧ ∃ acc ws S', Stp S1 H1 S' H' ∧ Sim (xfw X tbl) S' H' ∧ S' p = none ∧ H' p = some (.lst ws) ∧ RvL (xfw X tbl) H' acc ws ∧ lcT2 stay g tt di1 g1 tt1 te (dwipe δ vs) vs1 Kd (xs.drop i) acc S',
      ⟨xs.length, by omega, [], [], S1, (Stp.refl _ _).updD hp, s1.laid hp, hp1, upd_same, .nil, by simpa using q1⟩, ?_⟩
    rintro i m H2 ⟨em, acc, ws, S2, a2, s2, n2, e2, r2, h2⟩
    cases hx : xs.drop i with
    | nil =>
      rw [hx] at h2
      have hl : xs.length ≤ i := List.drop_eq_nil_iff.mp hx
      refine .inl ⟨(jok i S2 H2 a2.prs s2 h2.1).1 hl, hq _ _ _ _ (h2.2 p n2) (.ref p) ⟨fun a u e => ?_, s2.tab⟩ ((a1.trans a2).newD ?_)⟩
      · by_cases ha : a = p
        · subst ha; rw [dupd_same] at e; cases e; exact ⟨ws, e2, r2⟩
        · rw [dupd_ne ha] at e; exact s2 a u e
      · cases q : H p with
        | none => rfl
        | some o => exact absurd hp (a1.live p (by rw [q]; simp))
    | cons x r =>
      rw [hx] at h2
      obtain ⟨hg1, hr1, hl⟩ := drop_get hx
      obtain ⟨hgo, hy⟩ := (jok i S2 H2 a2.prs s2 h2.1).2 x hg1
      let Nx : Hp → Prop := fun H' => ∃ acc ws S', Stp S1 H1 S' H' ∧ Sim (xfw X tbl) S' H' ∧ S' p = none ∧ H' p = some (.lst ws) ∧ RvL (xfw X tbl) H' acc ws ∧ lcT2 stay g tt di1 g1 tt1 te (dwipe δ vs) vs1 Kd r acc S'
      refine .inr ⟨hgo, Nx, fun H' ⟨acc, ws, S', h1, h2, h3, h4, h5, h6⟩ => ⟨m - 1, by omega, by omega, acc, ws, S', h1, h2, h3, h4, h5, by rw [← hr1]; exact h6⟩, fun x' H' y => ?_⟩
      obtain ⟨rx, sx, ax⟩ := hy x' H' y
      have hrw : Rst (xfw X tbl) H1 (dwipe δ vs) (L2.wipe σ vs) := (hr.stp a1).wipe
      refine ⟨x, _, S2, _, rx, hrw.stp (a2.trans ax), sx, h2.2, fun δ3 S3 σ3 H3 q3 r3 l3 n3 s3 a3 => ⟨wipe_same (by rw [l3, wipe_length]) n3 hsl, δ3, S3, _, r3, s3, q3, fun b S4 H4 q4 s4 a4 => ?_⟩⟩
      have b4 := (ax.trans a3).trans a4
      have n4 : S4 p = none := b4.hid p (by rw [e2]; simp) n2
      have e4 : H4 p = some (.lst ws) := b4.keep p _ n2 (fun _ z => nomatch z) e2
      cases b with
      | false =>
        simp only [Bool.false_eq_true, if_false] at q4 ⊢
        exact ⟨acc, ws, S4, a2.trans b4, s4, n4, e4, b4.rvl r2, q4⟩
      | true =>
        simp only [if_true] at q4 ⊢
        refine ⟨δ3, S4, _, r3.stp a4, s4, q4, fun ys stay1 S5 H5 J1 q5 s5 a5 jok1 => ?_⟩
        have b5 := b4.trans a5
        have n5 : S5 p = none := a5.hid p (by rw [e4]; simp) n4
        have e5 : H5 p = some (.lst ws) := a5.keep p _ n4 (fun _ z => nomatch z) e4
        let Kj : List D → DS → Prop := fun acc S => lcT2 stay g tt di1 g1 tt1 te (dwipe δ vs) vs1 Kd r acc S
        refine ⟨fun j k H' => k + j = ys.length ∧ ∃ acc ws S', Stp S1 H1 S' H' ∧ Prs H5 H' ∧ Sim (xfw X tbl) S' H' ∧ S' p = none ∧ H' p = some (.lst ws) ∧ RvL (xfw X tbl) H' acc ws ∧ lcT stay1 g1 tt1 te (dwipe δ3 vs1) Kj (ys.drop j) acc S',
          ⟨ys.length, by omega, acc, ws, S5, a2.trans b5, .refl _, s5, n5, e5, b5.rvl r2, by simpa using q5⟩, ?_⟩
        rintro j k H6 ⟨ek, acc6, ws6, S6, a6, c6, s6, n6, e6, r6, h6⟩
        cases hy : ys.drop j with
        | nil =>
          rw [hy] at h6
          have hl : ys.length ≤ j := List.drop_eq_nil_iff.mp hy
          exact .inl ⟨(jok1 j S6 H6 c6 s6 h6.1).1 hl, acc6, ws6, S6, a6, s6, n6, e6, r6, h6.2⟩
        | cons y ry =>
          rw [hy] at h6
          obtain ⟨hg1, hr1, hl⟩ := drop_get hy
          obtain ⟨hgo, hyy⟩ := (jok1 j S6 H6 c6 s6 h6.1).2 y hg1
          refine .inr ⟨hgo, fun H' => ∃ acc ws S', Stp S1 H1 S' H' ∧ Prs H5 H' ∧ Sim (xfw X tbl) S' H' ∧ S' p = none ∧ H' p = some (.lst ws) ∧ RvL (xfw X tbl) H' acc ws ∧ lcT stay1 g1 tt1 te (dwipe δ3 vs1) Kj ry acc S',
            fun H' ⟨acc, ws, S', h1, h2, h3, h4, h5, h6, h7⟩ => ⟨k - 1, by omega, by omega, acc, ws, S', h1, h2, h3, h4, h5, h6, by rw [← hr1]; exact h7⟩, fun x7 H7 y7 => ?_⟩
          obtain ⟨rx7, s7, a7⟩ := hyy x7 H7 y7
          have hrw1 : Rst (xfw X tbl) H7 (dwipe δ3 vs1) (L2.wipe σ3 vs1) := (((r3.stp (a4.trans a5)).prs c6).stp a7).wipe
          refine ⟨y, _, S6, _, rx7, hrw1, s7, h6.2, fun δ8 S8 σ8 H8 q8 r8 l8 m8 s8 a8 => ⟨wipe_same (by rw [l8, wipe_length]) m8 hsl1, δ8, S8, _, r8, s8, q8, fun b S9 H9 q9 s9 a9 => ?_⟩⟩
          have b9 := (a7.trans a8).trans a9
          have n9 : S9 p = none := b9.hid p (by rw [e6]; simp) n6
          have e9 : H9 p = some (.lst ws6) := b9.keep p _ n6 (fun _ z => nomatch z) e6
          cases b with
          | false =>
            simp only [Bool.false_eq_true, if_false] at q9 ⊢
            exact ⟨acc6, ws6, S9, a6.trans b9, c6.trans b9.prs, s9, n9, e9, b9.rvl r6, q9⟩
          | true =>
            simp only [if_true] at q9 ⊢
            refine ⟨δ8, S9, _, r8.stp a9, s9, q9, fun z S10 v H10 ⟨z10, q10⟩ r10 s10 a10 => ?_⟩
            have n10 : S10 p = none := a10.hid p (by rw [e9]; simp) n9
            have e10 : H10 p = some (.lst ws6) := a10.keep p _ n9 (fun _ z => nomatch z) e9
            have r6' := (b9.trans a10).rvl r6
            exact ⟨ws6, e10, by rw [← r6.length, szl]; exact z10, acc6 ++ [z], ws6 ++ [v], S10, (a6.trans (b9.trans a10)).updD hp, (c6.trans (b9.trans a10).prs).trans (Prs.updL e10), s10.updL e10 n10, n10, upd_same, (r6'.append (.cons r10 .nil)).updL e10, q10⟩
theorem qe_lc2 {elt tg iter tg1 iter1 : Expr} {ifs ifs1 : List Expr} {scope : Scope} (own : List (Str × Nat)) (vs1 : List Nat) {di di1 : DI} {g g1 : DG} {tt tt1 : DT} {te : DE} {sl sl1 : List Nat} (hc : X.calm = true) (hN : X.N.Nodup) (hi : PI X tg iter (liftI (xfw X tbl) di)) (ok : blkC X.N X.env.scope scope own = true)
    (hv : ∀ i ∈ vs1, i ∈ own.map (·.2)) (hsl : ∀ i ∈ sl, i ∈ own.map (·.2)) (hsl1 : ∀ i ∈ sl1, i ∈ vs1)
    (hg : ∀ (s : Shared) (H : Hp) (C : Addr) (cl : List (Str × Addr)) (fp : List Addr), PG (X.blk s H scope (compEnvC scope cl C X.env) fp) tg (liftG (xfw X tbl) sl g))
    (ht : ∀ (s : Shared) (H : Hp) (C : Addr) (cl : List (Str × Addr)) (fp : List Addr), PTs (X.blk s H scope (compEnvC scope cl C X.env) fp) ifs (liftT (xfw X tbl) tt))
    (hi1 : ∀ (s : Shared) (H : Hp) (C : Addr) (cl : List (Str × Addr)) (fp : List Addr), PI (X.blk s H scope (compEnvC scope cl C X.env) fp) tg1 iter1 (liftI (xfw X tbl) di1))
    (hg1 : ∀ (s : Shared) (H : Hp) (C : Addr) (cl : List (Str × Addr)) (fp : List Addr), PG (X.blk s H scope (compEnvC scope cl C X.env) fp) tg1 (liftG (xfw X tbl) sl1 g1))
    (ht1 : ∀ (s : Shared) (H : Hp) (C : Addr) (cl : List (Str × Addr)) (fp : List Addr), PTs (X.blk s H scope (compEnvC scope cl C X.env) fp) ifs1 (liftT (xfw X tbl) tt1))
    (he : ∀ (s : Shared) (H : Hp) (C : Addr) (cl : List (Str × Addr)) (fp : List Addr), PE (X.blk s H scope (compEnvC scope cl C X.env) fp) elt (liftE (xfw X tbl) te)) (hs : ∀ x, foldedSetIterable iter X.env x = pure x := by intro _; rfl) (hs1 : ∀ env x, foldedSetIterable iter1 env x = pure x := by intro _ _; rfl) :
    PE X (.ListComp elt [⟨tg, iter, ifs, 0⟩, ⟨tg1, iter1, ifs1, 0⟩] scope pos) (liftE (xfw X tbl) (dLc2 di g tt di1 g1 tt1 te (own.map (·.2)) vs1)) := PE.imp (pe_lc2 hc hN hi (blkOk_by ok) hv hg ht hi1 hg1 ht1 he hs hs1) (lift_lc2 hsl hsl1)
theorem qs_setLc2 {i : Nat} {y : Str} {py spos : Pos} {elt tg iter tg1 iter1 : Expr} {ifs ifs1 : List Expr} {scope : Scope} (own : List (Str × Nat)) (vs1 : List Nat) {di di1 : DI} {g g1 : DG} {tt tt1 : DT} {te : DE} {sl sl1 : List Nat} (hc : X.calm = true) (hN : X.N.Nodup) (hy : X.N[i]? = some y) (hyl : X.env.scope.names.lookup y = some .local)
    (hsw : swapsWith (.ListComp elt [⟨tg, iter, ifs, 0⟩, ⟨tg1, iter1, ifs1, 0⟩] scope pos) (some (.Name y py)) spos.line X.env = pure true) (hi : PI X tg iter (liftI (xfw X tbl) di)) (ok : blkC X.N X.env.scope scope own = true)
    (hv : ∀ i ∈ vs1, i ∈ own.map (·.2)) (hsl : ∀ i ∈ sl, i ∈ own.map (·.2)) (hsl1 : ∀ i ∈ sl1, i ∈ vs1)
    (hg : ∀ (s : Shared) (H : Hp) (C : Addr) (cl : List (Str × Addr)) (fp : List Addr), PG (X.blk s H scope (compEnvC scope cl C X.env) fp) tg (liftG (xfw X tbl) sl g))
    (ht : ∀ (s : Shared) (H : Hp) (C : Addr) (cl : List (Str × Addr)) (fp : List Addr), PTs (X.blk s H scope (compEnvC scope cl C X.env) fp) ifs (liftT (xfw X tbl) tt))
    (hi1 : ∀ (s : Shared) (H : Hp) (C : Addr) (cl : List (Str × Addr)) (fp : List Addr), PI (X.blk s H scope (compEnvC scope cl C X.env) fp) tg1 iter1 (liftI (xfw X tbl) di1))
    (hg1 : ∀ (s : Shared) (H : Hp) (C : Addr) (cl : List (Str × Addr)) (fp : List Addr), PG (X.blk s H scope (compEnvC scope cl C X.env) fp) tg1 (liftG (xfw X tbl) sl1 g1))
    (ht1 : ∀ (s : Shared) (H : Hp) (C : Addr) (cl : List (Str × Addr)) (fp : List Addr), PTs (X.blk s H scope (compEnvC scope cl C X.env) fp) ifs1 (liftT (xfw X tbl) tt1))
    (he : ∀ (s : Shared) (H : Hp) (C : Addr) (cl : List (Str × Addr)) (fp : List Addr), PE (X.blk s H scope (compEnvC scope cl C X.env) fp) elt (liftE (xfw X tbl) te)) (hs : ∀ x, foldedSetIterable iter X.env x = pure x := by intro _; rfl) (hs1 : ∀ env x, foldedSetIterable iter1 env x = pure x := by intro _ _; rfl) :
    PS X (.Assign [.Name y py] (.ListComp elt [⟨tg, iter, ifs, 0⟩, ⟨tg1, iter1, ifs1, 0⟩] scope pos) spos) (liftS (xfw X tbl) (dAsg (dLc2 di g tt di1 g1 tt1 te (own.map (·.2)) vs1) (dgName i))) :=
  PS.imp (ps_setLc2 hc hN hy hyl hsw hi (blkOk_by ok) hv hg ht hi1 hg1 ht1 he hs hs1) fun E σ H ⟨δ, S, D0, hr, hsim, h, cv⟩ =>
    lift_lc2 hsl hsl1 σ H _ ⟨δ, S, _, hr, hsim, h, fun d S1 v H1 h1 r1 s1 a1 => cv.nx _ S1 _ H1 h1 ((hr.stp a1).set r1) s1 a1⟩
end
section
variable {X : Cx} {tbl : Tbl} {x : Str} {p pos : Pos} {e : Expr} {es : List Expr} {t : DA} {id T : String}
def dCall (c : DF) (t : DA) : DE := fun δ S Q => t δ S fun ds S1 => c ds S1 Q
theorem lift_args {t : DA} {r : DRs} : ∀ σ H Q, liftE (xfw X tbl) (dCall r t) σ H Q → liftA (xfw X tbl) t σ H fun vs H1 => liftC (xfw X tbl) r vs H1 Q :=
  fun σ H Q ⟨δ, S, Q0, hr, hs, h, hq⟩ => ⟨δ, S, _, hr, hs, h, fun ds S1 vs H1 h1 r1 s1 a1 => ⟨ds, S1, _, r1, s1, h1, fun d S' v H' q r s a => hq d S' v H' q r s (a1.trans a)⟩⟩
theorem lift_call {t : DA} {c : DF} {np : Nat} (hn : ∀ ds S Q, c ds S Q → ds.length = np) : ∀ σ H Q, liftE (xfw X tbl) (dCall c t) σ H Q → tCall (liftF (xfw X tbl) np c) [] E0 (liftA (xfw X tbl) t) σ H Q :=
  fun σ H Q ⟨δ, S, Q0, hr, hs, h, hq⟩ => ⟨δ, S, _, hr, hs, h, fun ds S1 vs H1 h1 r1 s1 a1 => by
    show liftF (xfw X tbl) np c (vs ++ []) H1 Q E0
    rw [List.append_nil]
    exact ⟨by rw [← r1.length]; exact hn _ _ _ h1, ds, S1, _, r1, s1, h1, fun d S' v H' q r s a => hq d S' v H' q r s (a1.trans a)⟩⟩
variable {k np : Nat} {f : Addr} {fd : FuncData} {ps : List Str} {c : DF}
theorem qe_call (hn : ∀ ds S Q, c ds S Q → ds.length = np) (F : FnOk X.prog X.w X.K X.mg X.base CX0 k f fd ps (liftF (xfw X tbl) np c)) (hr : Room k X.A) (hg : Gl X x) (hm : X.mg x = some (.ref f)) (hk : PySem.W.keepIn X.K (.ref f) = true) (hb : Binds X.K fd ps [])
    (ha : PA X (e :: es) (liftA (xfw X tbl) t)) (hdb : (x == ("__debug__" : Str)) = false := by decide) (he : starEach (e :: es) X.env = (false, eval e X.env) :: starEach es X.env := by rfl) (hpl : (backTo pos (starEach es X.env)).any (·.1) = false := by rfl) :
    PE X (.Call (.Name x p) (e :: es) [] pos) (liftE (xfw X tbl) (dCall c t)) := PE.imp (pe_call F hr hg hm hk hb .nil pass0 ha hdb he hpl) (lift_call hn)
theorem qe_callB {r : DRs} (hc : CallR X (.builtin id) (liftC (xfw X tbl) r)) (hg : Gl X x) (hm : X.mg x = none) (hv : bootBuiltins x = some (.builtin id)) (ha : PA X (e :: es) (liftA (xfw X tbl) t)) (hn : x ≠ "__name__" := by decide) (hdb : (x == ("__debug__" : Str)) = false := by decide)
    (he : starEach (e :: es) X.env = (false, eval e X.env) :: starEach es X.env := by rfl) (hpl : (backTo pos (starEach es X.env)).any (·.1) = false := by rfl) :
    PE X (.Call (.Name x p) (e :: es) [] pos) (liftE (xfw X tbl) (dCall r t)) := PE.imp (pe_callB hc hg hm hv ha hn hdb he hpl) lift_args
theorem qe_callTy {r : DRs} (hc : CallR X (.type T) (liftC (xfw X tbl) r)) (hg : Gl X x) (hm : X.mg x = none) (hv : bootBuiltins x = some (.type T)) (ha : PA X (e :: es) (liftA (xfw X tbl) t)) (hn : x ≠ "__name__" := by decide) (hdb : (x == ("__debug__" : Str)) = false := by decide)
    (he : starEach (e :: es) X.env = (false, eval e X.env) :: starEach es X.env := by rfl) (hpl : (backTo pos (starEach es X.env)).any (·.1) = false := by rfl) :
    PE X (.Call (.Name x p) (e :: es) [] pos) (liftE (xfw X tbl) (dCall r t)) := PE.imp (pe_callTy hc hg hm hv ha hn hdb he hpl) lift_args
end
end DL
namespace DL
open PySem PySem.Spec PyProof.Rows L2 LamX
mutual
def D.py : D → PyData
  | .non => .none | .bl b => .bool b | .int i => .int i | .str x => .str x | .tup xs => .tuple (D.pyL xs) | .fl xs => .list (D.pyL xs) | .ref _ => .dict [] | .ty _ => .dict [] | .fn _ => .dict []
def D.pyL : List D → List PyData
  | [] => []
  | x :: xs => D.py x :: D.pyL xs
end
mutual
/-- no mutable thing within -/
def D.plain : D → Bool
  | .non => true | .bl _ => true | .int _ => true | .str _ => true | .tup xs => D.plainL xs | .fl xs => D.plainL xs | .ref _ => false | .ty _ => false | .fn _ => false
def D.plainL : List D → Bool
  | [] => true
  | x :: xs => D.plain x && D.plainL xs
end
mutual
def D.dep : D → Nat
  | .non => 0 | .bl _ => 0 | .int _ => 0 | .str _ => 0 | .tup xs => D.depL xs + 1 | .fl xs => D.depL xs + 1 | .ref _ => 0 | .ty _ => 0 | .fn _ => 0
def D.depL : List D → Nat
  | [] => 0
  | x :: xs => max (D.dep x) (D.depL xs)
end
theorem D.pyL_map : ∀ xs : List D, D.pyL xs = xs.map D.py
  | [] => rfl
  | x :: xs => by rw [D.pyL, D.pyL_map xs, List.map_cons]
mutual
theorem D.plain_py : ∀ d : D, d.plain = true → d.py.plain = true
  | .non, _ => by rw [D.py, PyData.plain]
  | .bl _, _ => by rw [D.py, PyData.plain]
  | .int _, _ => by rw [D.py, PyData.plain]
  | .str _, _ => by rw [D.py, PyData.plain]
  | .tup xs, h => by rw [D.py, PyData.plain]; exact D.plainL_py xs (by rw [D.plain] at h; exact h)
  | .fl xs, h => by rw [D.py, PyData.plain]; exact D.plainL_py xs (by rw [D.plain] at h; exact h)
  | .ref _, h => by rw [D.plain] at h; cases h
  | .ty _, h => by rw [D.plain] at h; cases h
  | .fn _, h => by rw [D.plain] at h; cases h
theorem D.plainL_py : ∀ ds : List D, D.plainL ds = true → PyData.plainAll (D.pyL ds) = true
  | [], _ => by rw [D.pyL, PyData.plainAll]
  | x :: xs, h => by
    rw [D.plainL, Bool.and_eq_true] at h
    rw [D.pyL, PyData.plainAll, D.plain_py x h.1, D.plainL_py xs h.2]
    rfl
end
mutual
theorem D.dep_py : ∀ d : D, d.plain = true → d.py.depth = d.dep
  | .non, _ => by rw [D.py, PyData.depth, D.dep]
  | .bl _, _ => by rw [D.py, PyData.depth, D.dep]
  | .int _, _ => by rw [D.py, PyData.depth, D.dep]
  | .str _, _ => by rw [D.py, PyData.depth, D.dep]
  | .tup xs, h => by rw [D.py, PyData.depth, D.dep, D.depL_py xs (by rw [D.plain] at h; exact h)]
  | .fl xs, h => by rw [D.py, PyData.depth, D.dep, D.depL_py xs (by rw [D.plain] at h; exact h)]
  | .ref _, h => by rw [D.plain] at h; cases h
  | .ty _, h => by rw [D.plain] at h; cases h
  | .fn _, h => by rw [D.plain] at h; cases h
theorem D.depL_py : ∀ ds : List D, D.plainL ds = true → PyData.depthAll (D.pyL ds) = D.depL ds
  | [], _ => by rw [D.pyL, PyData.depthAll, D.depL]
  | x :: xs, h => by
    rw [D.plainL, Bool.and_eq_true] at h
    rw [D.pyL, PyData.depthAll, D.depL, D.dep_py x h.1, D.depL_py xs h.2]
end
def D.eqv (a b : D) : Bool := PyData.eqv a.py b.py
/-- a mutable list gives way to what stands in it, n deep -/
def D.rd (S : DS) : Nat → D → D
  | 0, d => d
  | n + 1, .ref a => match S a with
    | some (.lst xs) => .fl (xs.map (D.rd S n))
    | _ => .ref a
  | n + 1, .tup xs => .tup (xs.map (D.rd S n))
  | n + 1, .fl xs => .fl (xs.map (D.rd S n))
  | _ + 1, .non => .non
  | _ + 1, .bl b => .bl b
  | _ + 1, .int i => .int i
  | _ + 1, .str x => .str x
  | _ + 1, .ty n => .ty n
  | _ + 1, .fn n => .fn n
section
variable {K : FW} {H : Hp} {S : DS}
theorem D.plainL_mem : ∀ {xs : List D}, D.plainL xs = true → ∀ x ∈ xs, x.plain = true
  | [], _, x, h => by cases h
  | y :: ys, h, x, hx => by
    rw [D.plainL, Bool.and_eq_true] at h
    rcases List.mem_cons.mp hx with e | hx
    · rw [e]; exact h.1
    · exact D.plainL_mem h.2 x hx
theorem D.plainL_of : ∀ {xs : List D}, (∀ x ∈ xs, x.plain = true) → D.plainL xs = true
  | [], _ => by rw [D.plainL]
  | y :: ys, h => by rw [D.plainL, h y List.mem_cons_self, D.plainL_of fun x hx => h x (List.mem_cons_of_mem _ hx)]; rfl
theorem D.depL_le {n : Nat} : ∀ {xs : List D}, (∀ x ∈ xs, x.dep ≤ n) → D.depL xs ≤ n
  | [], _ => by rw [D.depL]; exact Nat.zero_le _
  | y :: ys, h => by rw [D.depL]; exact Nat.max_le.mpr ⟨h y List.mem_cons_self, D.depL_le fun x hx => h x (List.mem_cons_of_mem _ hx)⟩
theorem D.depL_mem : ∀ {xs : List D} {x : D}, x ∈ xs → x.dep ≤ D.depL xs
  | y :: ys, x, hx => by
    rw [D.depL]
    rcases List.mem_cons.mp hx with e | hx
    · rw [e]; exact Nat.le_max_left _ _
    · exact Nat.le_trans (D.depL_mem hx) (Nat.le_max_right _ _)
theorem FqL.dp {a : Addr} {vs : List V} (h : FqL K H a vs) {ds : List PyData} (r : DpAll K H vs ds) : Dp K H (.ref a) (.list ds) := .lst h.sq r
mutual
/-- what a value is, as the hand layer's data -/
theorem Rv.dp : ∀ (d : D) (v : V), d.plain = true → Rv K H d v → Dp K H v d.py
  | .non, _, _, r => by cases r; rw [D.py]; exact .non
  | .bl _, _, _, r => by cases r; rw [D.py]; exact .bl _
  | .int _, _, _, r => by cases r; rw [D.py]; exact .int _
  | .str _, _, _, r => by cases r; rw [D.py]; exact .str _
  | .tup ds, _, h, r => by
    cases r with
    | tup q rr => rw [D.py]; exact .tup q (RvL.dp ds _ (by rw [D.plain] at h; exact h) rr)
  | .fl ds, _, h, r => by
    cases r with
    | fl q rr => rw [D.py]; exact q.dp (RvL.dp ds _ (by rw [D.plain] at h; exact h) rr)
  | .ref _, _, h, _ => by rw [D.plain] at h; cases h
  | .ty _, _, h, _ => by rw [D.plain] at h; cases h
  | .fn _, _, h, _ => by rw [D.plain] at h; cases h
theorem RvL.dp : ∀ (ds : List D) (vs : List V), D.plainL ds = true → RvL K H ds vs → DpAll K H vs (D.pyL ds)
  | [], _, _, r => by cases r; rw [D.pyL]; exact .nil
  | d :: ds, _, h, r => by
    rw [D.plainL, Bool.and_eq_true] at h
    cases r with
    | cons q rr => rw [D.pyL]; exact .cons (Rv.dp d _ h.1 q) (RvL.dp ds _ h.2 rr)
end
/-- the same with the lists of the store read -/
theorem Rv.dp_rd (s : Sim K S H) : ∀ (n : Nat) (d : D) (v : V), (d.rd S n).plain = true → Rv K H d v → Dp K H v (d.rd S n).py
  | 0, d, v, h, r => Rv.dp d v h r
  | n + 1, .non, _, h, r => Rv.dp _ _ h r
  | n + 1, .bl _, _, h, r => Rv.dp _ _ h r
  | n + 1, .int _, _, h, r => Rv.dp _ _ h r
  | n + 1, .str _, _, h, r => Rv.dp _ _ h r
  | n + 1, .ty _, _, h, r => by rw [D.rd, D.plain] at h; cases h
  | n + 1, .fn _, _, h, r => by rw [D.rd, D.plain] at h; cases h
  | n + 1, .tup ds, _, h, r => by
    cases r with
    | tup q rr =>
      rw [D.rd, D.plain] at h
      rw [D.rd, D.py]
      refine .tup q ?_
      have all : ∀ (ds : List D) (vs : List V), D.plainL (ds.map (D.rd S n)) = true → RvL K H ds vs → DpAll K H vs (D.pyL (ds.map (D.rd S n))) := by
        intro ds
        induction ds with
        | nil => intro vs h r; cases r; exact .nil
        | cons d ds ih =>
          intro vs h r
          rw [List.map_cons, D.plainL, Bool.and_eq_true] at h
          cases r with
          | cons q rr => rw [List.map_cons, D.pyL]; exact .cons (Rv.dp_rd s n d _ h.1 q) (ih _ h.2 rr)
      exact all ds _ h rr
  | n + 1, .fl ds, _, h, r => by
    cases r with
    | fl q rr =>
      rw [D.rd, D.plain] at h
      rw [D.rd, D.py]
      refine q.dp ?_
      have all : ∀ (ds : List D) (vs : List V), D.plainL (ds.map (D.rd S n)) = true → RvL K H ds vs → DpAll K H vs (D.pyL (ds.map (D.rd S n))) := by
        intro ds
        induction ds with
        | nil => intro vs h r; cases r; exact .nil
        | cons d ds ih =>
          intro vs h r
          rw [List.map_cons, D.plainL, Bool.and_eq_true] at h
          cases r with
          | cons q rr => rw [List.map_cons, D.pyL]; exact .cons (Rv.dp_rd s n d _ h.1 q) (ih _ h.2 rr)
      exact all ds _ h rr
  | n + 1, .ref a, _, h, r => by
    cases r with
    | ref a =>
      cases e : S a with
      | none => rw [D.rd] at h; simp only [e] at h; rw [D.plain] at h; cases h
      | some o =>
        cases o with
        | lst xs =>
          obtain ⟨vs, hv, rr⟩ := s.lst e
          rw [D.rd] at h ⊢
          simp only [e] at h ⊢
          rw [D.plain] at h
          rw [D.py]
          refine .lst (.of hv) ?_
          have all : ∀ (ds : List D) (vs : List V), D.plainL (ds.map (D.rd S n)) = true → RvL K H ds vs → DpAll K H vs (D.pyL (ds.map (D.rd S n))) := by
            intro ds
            induction ds with
            | nil => intro vs h r; cases r; exact .nil
            | cons d ds ih =>
              intro vs h r
              rw [List.map_cons, D.plainL, Bool.and_eq_true] at h
              cases r with
              | cons q rr => rw [List.map_cons, D.pyL]; exact .cons (Rv.dp_rd s n d _ h.1 q) (ih _ h.2 rr)
          exact all xs _ h rr
        | ins _ _ _ => rw [D.rd] at h; simp only [e] at h; rw [D.plain] at h; cases h
        | dct _ _ => rw [D.rd] at h; simp only [e] at h; rw [D.plain] at h; cases h
        | dset _ => rw [D.rd] at h; simp only [e] at h; rw [D.plain] at h; cases h
mutual
theorem D.rd_plain : ∀ (d : D) (n : Nat), d.plain = true → d.rd S n = d
  | _, 0, _ => rfl
  | .non, n + 1, _ => rfl
  | .bl _, n + 1, _ => rfl
  | .int _, n + 1, _ => rfl
  | .str _, n + 1, _ => rfl
  | .tup ds, n + 1, h => by rw [D.rd, D.rdL_plain ds n (by rw [D.plain] at h; exact h)]
  | .fl ds, n + 1, h => by rw [D.rd, D.rdL_plain ds n (by rw [D.plain] at h; exact h)]
  | .ref _, _ + 1, h => by rw [D.plain] at h; cases h
  | .ty _, _ + 1, h => by rw [D.plain] at h; cases h
  | .fn _, _ + 1, h => by rw [D.plain] at h; cases h
theorem D.rdL_plain : ∀ (ds : List D) (n : Nat), D.plainL ds = true → ds.map (D.rd S n) = ds
  | [], _, _ => rfl
  | d :: ds, n, h => by
    rw [D.plainL, Bool.and_eq_true] at h
    rw [List.map_cons, D.rd_plain d n h.1, D.rdL_plain ds n h.2]
end
end
def lstOf (S : DS) : D → Option (List D)
  | .ref a => match S a with
    | some (.lst xs) => some xs
    | _ => none
  | .fl xs => some xs
  | _ => none
def seqOf (S : DS) : D → Option (List D)
  | .tup xs => some xs
  | .ref a => match S a with
    | some (.lst xs) => some xs
    | _ => none
  | .fl xs => some xs
  | _ => none
section
variable {K : FW} {H : Hp} {S : DS} {d : D} {v : V} {xs : List D}
theorem lst_of (s : Sim K S H) (r : Rv K H d v) (h : lstOf S d = some xs) : ∃ a vs, v = .ref a ∧ SqL K H a vs ∧ RvL K H xs vs := by
  cases d with
  | ref a =>
    cases r
    rw [lstOf] at h
    split at h
    · rename_i e
      cases h
      obtain ⟨vs, hv, rr⟩ := s.lst e
      exact ⟨a, vs, rfl, .of hv, rr⟩
    · cases h
  | fl ys =>
    cases h
    cases r with
    | fl q rr => exact ⟨_, _, rfl, q.sq, rr⟩
  | _ => cases h
theorem seq_of (s : Sim K S H) (r : Rv K H d v) (h : seqOf S d = some xs) : ∃ a vs, v = .ref a ∧ (SqL K H a vs ∨ SqT K H a vs) ∧ RvL K H xs vs := by
  cases d with
  | ref a =>
    cases r
    rw [seqOf] at h
    split at h
    · rename_i e
      cases h
      obtain ⟨vs, hv, rr⟩ := s.lst e
      exact ⟨a, vs, rfl, .inl (.of hv), rr⟩
    · cases h
  | fl ys =>
    cases h
    cases r with
    | fl q rr => exact ⟨_, _, rfl, .inl q.sq, rr⟩
  | tup ys =>
    cases h
    cases r with
    | tup q rr => exact ⟨_, _, rfl, .inr q, rr⟩
  | _ => cases h
end
def oAdd : DR2 := fun x y S Q => match x, y with
  | .int i, .int j => Q (.int (i + j)) S
  | .int i, .bl k => Q (.int (i + b2i k)) S
  | .str a, .str b => a.length + b.length ≤ 16777216 ∧ Q (.str (a ++ b)) S
  | .tup a, .tup b => a.length + b.length ≤ 16777216 ∧ Q (.tup (a ++ b)) S
  | .ref a, .ref b => match S a, S b with
    | some (.lst xs), some (.lst ys) => xs.length + ys.length ≤ 16777216 ∧ ∀ p, S p = none → Q (.ref p) (dupd S p (.lst (xs ++ ys)))
    | _, _ => False
  | _, _ => False
def oSub : DR2 := fun x y S Q => match x, y with
  | .int i, .int j => Q (.int (i - j)) S
  | _, _ => False
def oMul : DR2 := fun x y S Q => match x, y with
  | .int i, .int j => i.natAbs.log2 + j.natAbs.log2 < 1000000 ∧ Q (.int (i * j)) S
  | .ref a, .int k => match S a with
    | some (.lst xs) => (-(2 ^ 63) ≤ k ∧ k < 2 ^ 63 ∧ xs.length * k.toNat ≤ 16777216) ∧ ∀ p, S p = none → Q (.ref p) (dupd S p (.lst (List.replicate k.toNat xs).flatten))
    | _ => False
  | .tup xs, .int k => (xs ≠ [] ∧ 1 ≤ k ∧ k ≤ 1000 ∧ xs.length ≤ 1000) ∧ Q (.tup (List.replicate k.toNat xs).flatten) S
  | _, _ => False
def oFdv : DR2 := fun x y S Q => match x, y with
  | .int i, .int j => (0 < j ∧ j.natAbs.log2 < 9000) ∧ Q (.int (i / j)) S
  | _, _ => False
def oMod : DR2 := fun x y S Q => match x, y with
  | .int i, .int j => 0 < j ∧ Q (.int (i % j)) S
  | _, _ => False
def oPow : DR2 := fun x y S Q => match x, y with
  | .int i, .int j => (0 ≤ j ∧ j ≤ 1000000 ∧ i.natAbs < 2 ^ 64) ∧ Q (.int (i ^ j.toNat)) S
  | _, _ => False
def oShl : DR2 := fun x y S Q => match x, y with
  | .int i, .int j => (0 ≤ j ∧ j ≤ 1000000 ∧ i.natAbs < 2 ^ 64) ∧ Q (.int (i * 2 ^ j.toNat)) S
  | _, _ => False
def oShr : DR2 := fun x y S Q => match x, y with
  | .int i, .int j => 0 ≤ j ∧ Q (.int (i / 2 ^ j.toNat)) S
  | _, _ => False
def oBit (f : Int → Int → Int) : DR2 := fun x y S Q => match x, y with
  | .int i, .int j => Q (.int (f i j)) S
  | _, _ => False
def uNeg : DR1 := fun x S Q => match x with
  | .int i => Q (.int (-i)) S
  | _ => False
def oEq (neg : Bool) : DR2 := fun x y S Q => ((x.rd S 4).plain = true ∧ (y.rd S 4).plain = true ∧ ((x.rd S 4).dep ≤ 50 ∨ (y.rd S 4).dep ≤ 50)) ∧ Q (.bl (neg ^^ D.eqv (x.rd S 4) (y.rd S 4))) S
/-- what is the same whatever the operator (<, <=, ..) -/
inductive COp where | lt | le | gt | ge
def COp.int : COp → Int → Int → Bool
  | .lt, i, j => decide (i < j) | .le, i, j => decide (i ≤ j) | .gt, i, j => decide (j < i) | .ge, i, j => decide (j ≤ i)
def COp.dat : COp → PyData → PyData → Bool
  | .lt, a, b => PySem.W.dataLt a b | .le, a, b => !PySem.W.dataLt b a | .gt, a, b => PySem.W.dataLt b a | .ge, a, b => !PySem.W.dataLt a b
def COp.op : COp → CmpOp
  | .lt => .Lt | .le => .LtE | .gt => .Gt | .ge => .GtE
def oCmp (o : COp) : DR2 := fun x y S Q => match x, y with
  | .int i, .int j => Q (.bl (o.int i j)) S
  | x, y => (x.plain = true ∧ y.plain = true ∧ PySem.W.alike x.py y.py = true ∧ x.py ≠ .none ∧ x.dep ≤ 50) ∧ Q (.bl (o.dat x.py y.py)) S
def oIs (neg : Bool) : DR2 := fun x y S Q => match y with
  | .bl b => match x with
    | .bl c => Q (.bl (neg ^^ decide (c = b))) S
    | _ => False
  | .non => Q (.bl (match x with | .non => !neg | _ => neg)) S
  | _ => False
def oIn0 (neg : Bool) : DR2 := fun x y S Q => match seqOf S y with
  | some xs => ((x.rd S 3).plain = true ∧ D.plainL (xs.map (D.rd S 3)) = true ∧ (x.rd S 3).dep ≤ 50) ∧ Q (.bl (neg ^^ (xs.map (D.rd S 3)).any fun e => D.eqv e (x.rd S 3))) S
  | none => False
section
variable {X : Cx} {tbl : Tbl}
theorem dl_op {f : Value → Value → Sem Value} {r : DR2}
    (h : ∀ (pins : List (Addr × Obj)) (s : Shared) (σ : L2.St) (H : Hp) (x y : D) (xv yv : V) (v u : Value) (S : DS) (Q : VK) (Q0 : DK), Inv X pins σ H s → RelV xv v → RelV yv u → Rv (xfw X tbl) H x xv → Rv (xfw X tbl) H y yv → Sim (xfw X tbl) S H → r x y S Q0 →
      (∀ d S' v H', Q0 d S' → Rv (xfw X tbl) H' d v → Sim (xfw X tbl) S' H' → Stp S H S' H' → Q v H') → wpAny (model X.prog X.w) X.A (f v u) (EP X pins σ Q) X.xe s) : OpR X f (liftO (xfw X tbl) r) := by
  rintro pins s σ H xv yv v u Q I rx ry ⟨x, y, S, Q0, hx, hy, hs, hr, hq⟩
  exact h pins s σ H x y xv yv v u S Q Q0 I rx ry hx hy hs hr hq
theorem dop_add : OpR X (binaryOp .Add) (liftO (xfw X tbl) oAdd) := dl_op fun pins s σ H x y xv yv v u S Q Q0 I rx ry hx hy hs hr hq => by
  cases x with
  | int i =>
    cases hx
    cases y with
    | int j => cases hy; exact op_add pins s σ H _ _ v u Q I rx ry ⟨i, j, rfl, rfl, hq _ _ _ _ hr (.int _) hs (.refl _ _)⟩
    | bl k => cases hy; exact op_add_ib pins s σ H _ _ v u Q I rx ry ⟨i, k, rfl, rfl, hq _ _ _ _ hr (.int _) hs (.refl _ _)⟩
    | _ => exact hr.elim
  | str a =>
    cases hx
    cases y with
    | str b => cases hy; exact op_add_str pins s σ H _ _ v u Q I rx ry ⟨a, b, rfl, rfl, by rw [szl]; exact hr.1, hq _ _ _ _ hr.2 (.str _) hs (.refl _ _)⟩
    | _ => exact hr.elim
  | tup a =>
    cases y with
    | tup b =>
      cases hx with
      | @tup p vs _ q1 r1 =>
        cases hy with
        | @tup q ws _ q2 r2 =>
          refine op_catA pins s σ H _ _ v u Q I rx ry ⟨p, q, vs, ws, rfl, rfl, q1, q2, by rw [szl, ← r1.length, ← r2.length]; exact hr.1, fun e => ?_, fun e1 e2 => ?_, fun e1 e2 p hp => ?_⟩
          · subst e; cases r1; exact hq _ _ _ _ hr.2 (.tup q2 r2) hs (.refl _ _)
          · subst e2; cases r2
            have hr2 : Q0 (.tup (a ++ [])) S := hr.2
            rw [List.append_nil] at hr2
            exact hq _ _ _ _ hr2 (.tup q1 r1) hs (.refl _ _)
          · exact hq _ _ _ _ hr.2 (.tup (.inl (.inl upd_same)) ((Stp.laid (S := S) hp).rvl (r1.append r2))) (hs.laid hp) (Stp.laid hp)
    | _ => exact hr.elim
  | ref a =>
    cases hx
    cases y with
    | ref b =>
      cases hy
      have hr' : (match S a, S b with
        | some (.lst xs), some (.lst ys) => xs.length + ys.length ≤ 16777216 ∧ ∀ p, S p = none → Q0 (.ref p) (dupd S p (.lst (xs ++ ys)))
        | _, _ => False) := hr
      split at hr'
      · rename_i xs ys ea eb
        obtain ⟨vs, h1, r1⟩ := hs.lst ea
        obtain ⟨ws, h2, r2⟩ := hs.lst eb
        exact op_cat pins s σ H _ _ v u Q I rx ry ⟨a, b, vs, ws, rfl, rfl, h1, h2, by rw [szl, ← r1.length, ← r2.length]; exact hr'.1, fun p hp =>
          hq _ _ _ _ (hr'.2 p (hs.fresh hp)) (.ref p) (hs.new hp ⟨_, upd_same, (Stp.laid (S := S) hp).rvl (r1.append r2)⟩) (Stp.new hp)⟩
      · exact hr'.elim
    | _ => exact hr.elim
  | _ => exact hr.elim
theorem dop_sub : OpR X (binaryOp .Sub) (liftO (xfw X tbl) oSub) := dl_op fun pins s σ H x y xv yv v u S Q Q0 I rx ry hx hy hs hr hq => by
  cases x with
  | int i =>
    cases hx
    cases y with
    | int j => cases hy; exact op_sub pins s σ H _ _ v u Q I rx ry ⟨i, j, rfl, rfl, hq _ _ _ _ hr (.int _) hs (.refl _ _)⟩
    | _ => exact hr.elim
  | _ => exact hr.elim
theorem flatten_rep {K : FW} {H : Hp} {ds : List D} {vs : List V} (r : RvL K H ds vs) : ∀ n, RvL K H (List.replicate n ds).flatten (List.replicate n vs).flatten
  | 0 => .nil
  | n + 1 => by rw [List.replicate_succ, List.replicate_succ, List.flatten_cons, List.flatten_cons]; exact r.append (flatten_rep r n)
theorem tuple_mul1 (l : Addr) (items : Array Value) (n : Nat) (dd : Option Addr) (sl : Array (Option Value)) (u : Tok) :
    Meets (Builtin.«tuple.__mul__» ⟨[.ref l, .int 1 u], []⟩) (fun _ R s => s.heap.get? l = some { cls := .type "tuple", dict := dd, data := .seq items n, slots := sl } ∧
      R (.ok (.ret (Value.ref l))) s) :=
  .of_wp fun prog w A R s h => by
    obtain ⟨hp, g, d, tk, os⟩ := s
    obtain ⟨hl, h⟩ := h
    have f1 := PySem.AutoSeq1.idx_int
    have c0 : (decide ((1:Int) < -(2 ^ 63)) || decide ((1:Int) ≥ 2 ^ 63)) = false := by decide
    wp_walk using wpAny_loadPart' hl
    exact ⟨_, rfl, h⟩
def rRepT1 (K : FW) : R2 := fun x y H Q => ∃ l xs, x = .ref l ∧ y = .int 1 ∧ SqT K H l xs ∧ Q (.ref l) H
theorem op_repT1 : OpR X (binaryOp .Mult) (rRepT1 (xfw X tbl)) := by
  intro pins s σ H x y v u Q I rx ry h
  obtain ⟨l, xs, rfl, rfl, hT, q⟩ := h
  cases rx
  obtain ⟨t, rfl⟩ := ry
  obtain ⟨its, r, ⟨⟨cls, dd, data, sl⟩, ho, hc, n, hd⟩, hs⟩ := I.tuple hT
  simp only at hc hd
  subst hc hd
  refine wpAny_binaryOp_repeat_ref (T := "tuple") (U := "int") (by decide) ⟨_, ho, rfl⟩ (fun s' => typeIs_int s' 1 t) noFill_tuple_mul F.fills_int_mul F.slot_int_rmul repeat_tuple F.slot_int_index.lookup
    (call_meets F.slot_int_rmul (typeIs_int s 1 t) F.entry_int_rmul (F.args_int_rmul_2 _ _) (int_rmul_tuple 1 t l its.toArray n dd sl)
      ⟨ho, rfl, ⟨_, ho, rfl⟩, call_meets F.slot_tuple_mul ⟨_, ho, rfl⟩ F.entry_tuple_mul (F.args_tuple_mul_2 _ _) (tuple_mul1 l its.toArray n dd sl t) ⟨ho, ?_⟩⟩)
  exact ⟨.ref l, _, I, rfl, q⟩
theorem dop_mul : OpR X (binaryOp .Mult) (liftO (xfw X tbl) oMul) := dl_op fun pins s σ H x y xv yv v u S Q Q0 I rx ry hx hy hs hr hq => by
  cases x with
  | int i =>
    cases hx
    cases y with
    | int j => cases hy; exact op_mulW pins s σ H _ _ v u Q I rx ry ⟨i, j, rfl, rfl, hr.1, hq _ _ _ _ hr.2 (.int _) hs (.refl _ _)⟩
    | _ => exact hr.elim
  | ref a =>
    cases hx
    cases y with
    | int k =>
      cases hy
      have hr' : (match S a with
        | some (.lst xs) => (-(2 ^ 63) ≤ k ∧ k < 2 ^ 63 ∧ xs.length * k.toNat ≤ 16777216) ∧ ∀ p, S p = none → Q0 (.ref p) (dupd S p (.lst (List.replicate k.toNat xs).flatten))
        | _ => False) := hr
      split at hr'
      · rename_i xs ea
        obtain ⟨vs, h1, r1⟩ := hs.lst ea
        exact op_rep pins s σ H _ _ v u Q I rx ry ⟨a, k, vs, rfl, rfl, h1, hr'.1.1, hr'.1.2.1, by rw [szl, ← r1.length]; exact hr'.1.2.2, fun p hp =>
          hq _ _ _ _ (hr'.2 p (hs.fresh hp)) (.ref p) (hs.new hp ⟨_, upd_same, (Stp.laid (S := S) hp).rvl (flatten_rep r1 _)⟩) (Stp.new hp)⟩
      · exact hr'.elim
    | _ => exact hr.elim
  | tup a =>
    cases y with
    | int k =>
      cases hy
      cases hx with
      | @tup p vs _ q1 r1 =>
        by_cases h1 : k = 1
        · subst h1
          have hr2 : Q0 (.tup (List.replicate 1 a).flatten) S := hr.2
          rw [show (List.replicate 1 a).flatten = a by simp] at hr2
          exact op_repT1 pins s σ H _ _ v u Q I rx ry ⟨p, vs, rfl, rfl, q1, hq _ _ _ _ hr2 (.tup q1 r1) hs (.refl _ _)⟩
        · obtain ⟨⟨c1, c2, c3, c4⟩, hr2⟩ := hr
          have hl := r1.length
          refine op_repT pins s σ H _ _ v u Q I rx ry ⟨p, k, vs, rfl, rfl, q1, fun e => ?_, by omega, c3, by omega, fun p hp => ?_⟩
          · subst e; cases r1; exact c1 rfl
          · exact hq _ _ _ _ hr2 (.tup (.inl (.inl upd_same)) ((Stp.laid (S := S) hp).rvl (flatten_rep r1 _))) (hs.laid hp) (Stp.laid hp)
    | _ => exact hr.elim
  | _ => exact hr.elim
theorem dop_int2 {f : Value → Value → Sem Value} {C : Int → Int → Prop} {g : Int → Int → Int} {r : DR2} (ho : OpR X f (rI C fun i j => .int (g i j)))
    (hr : ∀ x y S Q, r x y S Q → ∃ i j, x = .int i ∧ y = .int j ∧ C i j ∧ Q (.int (g i j)) S) : OpR X f (liftO (xfw X tbl) r) := dl_op fun pins s σ H x y xv yv v u S Q Q0 I rx ry hx hy hs h hq => by
  obtain ⟨i, j, rfl, rfl, c, q⟩ := hr x y S Q0 h
  cases hx
  cases hy
  exact ho pins s σ H _ _ v u Q I rx ry ⟨i, j, rfl, rfl, c, hq _ _ _ _ q (.int _) hs (.refl _ _)⟩
theorem dop_fdv : OpR X (binaryOp .FloorDiv) (liftO (xfw X tbl) oFdv) := dop_int2 op_fdivW fun x y S Q h => by
  cases x with
  | int i =>
    cases y with
    | int j => exact ⟨i, j, rfl, rfl, h.1, h.2⟩
    | _ => exact h.elim
  | _ => exact h.elim
theorem dop_mod : OpR X (binaryOp .Mod) (liftO (xfw X tbl) oMod) := dop_int2 op_mod fun x y S Q h => by
  cases x with
  | int i =>
    cases y with
    | int j => exact ⟨i, j, rfl, rfl, h.1, h.2⟩
    | _ => exact h.elim
  | _ => exact h.elim
theorem dop_pow : OpR X (binaryOp .Pow) (liftO (xfw X tbl) oPow) := dop_int2 op_pow fun x y S Q h => by
  cases x with
  | int i =>
    cases y with
    | int j => exact ⟨i, j, rfl, rfl, h.1, h.2⟩
    | _ => exact h.elim
  | _ => exact h.elim
theorem dop_shl : OpR X (binaryOp .LShift) (liftO (xfw X tbl) oShl) := dop_int2 op_shl fun x y S Q h => by
  cases x with
  | int i =>
    cases y with
    | int j => exact ⟨i, j, rfl, rfl, h.1, h.2⟩
    | _ => exact h.elim
  | _ => exact h.elim
theorem dop_shr : OpR X (binaryOp .RShift) (liftO (xfw X tbl) oShr) := dop_int2 op_shr fun x y S Q h => by
  cases x with
  | int i =>
    cases y with
    | int j => exact ⟨i, j, rfl, rfl, h.1, h.2⟩
    | _ => exact h.elim
  | _ => exact h.elim
theorem dop_int20 {f : Value → Value → Sem Value} {g : Int → Int → Int} {r : DR2} (ho : OpR X f (rI0 fun i j => .int (g i j)))
    (hr : ∀ x y S Q, r x y S Q → ∃ i j, x = .int i ∧ y = .int j ∧ Q (.int (g i j)) S) : OpR X f (liftO (xfw X tbl) r) := dl_op fun pins s σ H x y xv yv v u S Q Q0 I rx ry hx hy hs h hq => by
  obtain ⟨i, j, rfl, rfl, q⟩ := hr x y S Q0 h
  cases hx
  cases hy
  exact ho pins s σ H _ _ v u Q I rx ry ⟨i, j, rfl, rfl, hq _ _ _ _ q (.int _) hs (.refl _ _)⟩
theorem oBit_get {f : Int → Int → Int} (x y : D) (S : DS) (Q : DK) (h : oBit f x y S Q) : ∃ i j, x = .int i ∧ y = .int j ∧ Q (.int (f i j)) S := by
  cases x with
  | int i =>
    cases y with
    | int j => exact ⟨i, j, rfl, rfl, h⟩
    | _ => exact h.elim
  | _ => exact h.elim
theorem dop_and : OpR X (binaryOp .BitAnd) (liftO (xfw X tbl) (oBit Builtin.bitAnd)) := dop_int20 op_and oBit_get
theorem dop_or : OpR X (binaryOp .BitOr) (liftO (xfw X tbl) (oBit Builtin.bitOr)) := dop_int20 op_or oBit_get
theorem dop_xor : OpR X (binaryOp .BitXor) (liftO (xfw X tbl) (oBit Builtin.bitXor)) := dop_int20 op_xor oBit_get
theorem dip_add : OpR X (inplaceOp .Add) (liftO (xfw X tbl) (oBit (· + ·))) := dop_int20 iop_add oBit_get
theorem dip_sub : OpR X (inplaceOp .Sub) (liftO (xfw X tbl) (oBit (· - ·))) := dop_int20 iop_sub oBit_get
theorem dip_and : OpR X (inplaceOp .BitAnd) (liftO (xfw X tbl) (oBit Builtin.bitAnd)) := dop_int20 iop_and oBit_get
theorem dip_or : OpR X (inplaceOp .BitOr) (liftO (xfw X tbl) (oBit Builtin.bitOr)) := dop_int20 iop_or oBit_get
theorem dun_neg : UnR X (unaryOp .USub) (liftU (xfw X tbl) uNeg) := by
  rintro pins s σ H xv v Q I rx ⟨x, S, Q0, hx, hs, hr, hq⟩
  cases x with
  | int i => cases hx; exact un_neg pins s σ H _ v Q I rx ⟨i, rfl, hq _ _ _ _ hr (.int _) hs (.refl _ _)⟩
  | _ => exact hr.elim
theorem Rv.reads {pins : List (Addr × Obj)} {σ : L2.St} {H : Hp} {s : Shared} {S : DS} {d : D} {v : V} {u : Value} (I : Inv X pins σ H s) (hs : Sim (xfw X tbl) S H) (n : Nat) (hp : (d.rd S n).plain = true) (r : Rv (xfw X tbl) H d v) (ru : RelV v u) : ∃ as, Reads s.heap u (d.rd S n).py as :=
  Dp.reads I _ _ _ (Rv.dp_rd hs n d v hp r) ru
theorem dop_eq (hu : X.A.units + 100 < cLine) : OpR X (compareOp .Eq) (liftO (xfw X tbl) (oEq false)) := dl_op fun pins s σ H x y xv yv v u S Q Q0 I rx ry hx hy hs hr hq => by
  obtain ⟨⟨hp1, hp2, hd⟩, hr⟩ := hr
  obtain ⟨as, q1⟩ := Rv.reads I hs 4 hp1 hx rx
  obtain ⟨bs, q2⟩ := Rv.reads I hs 4 hp2 hy ry
  refine PySem.SeqAt.eq_plain q1 q2 (D.plain_py _ hp1) (D.plain_py _ hp2) ?_ ⟨.bl _, H, I, rfl, hq _ _ _ _ hr (by rw [Bool.false_xor]; exact .bl _) hs (.refl _ _)⟩
  rw [D.dep_py _ hp1, D.dep_py _ hp2]
  omega
theorem dop_ne (hu : X.A.units + 100 < cLine) : OpR X (compareOp .NotEq) (liftO (xfw X tbl) (oEq true)) := dl_op fun pins s σ H x y xv yv v u S Q Q0 I rx ry hx hy hs hr hq => by
  obtain ⟨⟨hp1, hp2, hd⟩, hr⟩ := hr
  obtain ⟨as, q1⟩ := Rv.reads I hs 4 hp1 hx rx
  obtain ⟨bs, q2⟩ := Rv.reads I hs 4 hp2 hy ry
  refine PySem.SeqAt.ne_plain q1 q2 (D.plain_py _ hp1) (D.plain_py _ hp2) ?_ ⟨.bl _, H, I, rfl, hq _ _ _ _ hr (by rw [Bool.true_xor]; exact .bl _) hs (.refl _ _)⟩
  rw [D.dep_py _ hp1, D.dep_py _ hp2]
  omega
theorem dop_cmp (hu : X.A.units + 100 < cLine) (o : COp) : OpR X (compareOp o.op) (liftO (xfw X tbl) (oCmp o)) := dl_op fun pins s σ H x y xv yv v u S Q Q0 I rx ry hx hy hs hr hq => by
  have gen : (x.plain = true ∧ y.plain = true ∧ PySem.W.alike x.py y.py = true ∧ x.py ≠ .none ∧ x.dep ≤ 50) ∧ Q0 (.bl (o.dat x.py y.py)) S → wpAny (model X.prog X.w) X.A (compareOp o.op v u) (EP X pins σ Q) X.xe s := by
    rintro ⟨⟨hp1, hp2, ha, hn, hd⟩, hr⟩
    obtain ⟨as, q1⟩ := Dp.reads I _ _ _ (Rv.dp x xv hp1 hx) rx
    obtain ⟨bs, q2⟩ := Dp.reads I _ _ _ (Rv.dp y yv hp2 hy) ry
    have hdep : X.A.units + min x.py.depth y.py.depth < cLine := by rw [D.dep_py _ hp1]; omega
    have fin : EP X pins σ Q (.bool (o.dat x.py y.py)) s := ⟨.bl _, H, I, rfl, hq _ _ _ _ hr (.bl _) hs (.refl _ _)⟩
    cases o with
    | lt => exact PySem.W.lt_data q1 q2 ha hn hdep fin
    | le => exact PySem.W.le_data q1 q2 ha hn hdep fin
    | gt => exact PySem.W.gt_data q1 q2 ha hn hdep fin
    | ge => exact PySem.W.ge_data q1 q2 ha hn hdep fin
  cases x with
  | int i =>
    cases y with
    | int j =>
      cases hx
      cases hy
      have fin := hq _ _ _ _ hr (.bl _) hs (.refl _ _)
      cases o with
      | lt => exact op_lt pins s σ H _ _ v u Q I rx ry ⟨i, j, rfl, rfl, fin⟩
      | le => exact op_le pins s σ H _ _ v u Q I rx ry ⟨i, j, rfl, rfl, fin⟩
      | gt => exact op_gt pins s σ H _ _ v u Q I rx ry ⟨i, j, rfl, rfl, fin⟩
      | ge => exact op_ge pins s σ H _ _ v u Q I rx ry ⟨i, j, rfl, rfl, fin⟩
    | _ => exact gen hr
  | _ => exact gen hr
theorem dop_is : OpR X (compareOp .Is) (liftO (xfw X tbl) (oIs false)) := dl_op fun pins s σ H x y xv yv v u S Q Q0 I rx ry hx hy hs hr hq => by
  cases y with
  | non =>
    cases hy
    refine op_isN pins s σ H _ _ v u Q I rx ry ⟨rfl, ?_⟩
    cases hx <;> exact hq _ _ _ _ hr (.bl _) hs (.refl _ _)
  | bl b =>
    cases x with
    | bl c =>
      cases hx
      cases hy
      refine op_isBl pins s σ H _ _ v u Q I rx ry ⟨c, b, rfl, rfl, hq _ _ _ _ hr (by rw [Bool.false_xor]; exact .bl _) hs (.refl _ _)⟩
    | _ => exact hr.elim
  | _ => exact hr.elim
theorem dop_isnot : OpR X (compareOp .IsNot) (liftO (xfw X tbl) (oIs true)) := dl_op fun pins s σ H x y xv yv v u S Q Q0 I rx ry hx hy hs hr hq => by
  cases y with
  | non =>
    cases hy
    refine op_notN pins s σ H _ _ v u Q I rx ry ⟨rfl, ?_⟩
    cases hx <;> exact hq _ _ _ _ hr (.bl _) hs (.refl _ _)
  | bl b =>
    cases x with
    | bl c =>
      cases hx
      cases hy
      refine op_notBl pins s σ H _ _ v u Q I rx ry ⟨c, b, rfl, rfl, hq _ _ _ _ hr (by rw [Bool.true_xor]; exact .bl _) hs (.refl _ _)⟩
    | _ => exact hr.elim
  | _ => exact hr.elim
theorem any_py (d : D) : ∀ xs : List D, ((D.pyL xs).any fun y => PyData.eqv y d.py) = xs.any fun e => D.eqv e d
  | [] => rfl
  | x :: xs => by rw [D.pyL, List.any_cons, List.any_cons, any_py d xs]; rfl
theorem rd_seq {K : FW} {H : Hp} {S : DS} {y : D} {yv : V} {xs : List D} (hs : Sim K S H) (hy : Rv K H y yv) (e : seqOf S y = some xs) (hp : D.plainL (xs.map (D.rd S 3)) = true) :
    Dp K H yv (.list (D.pyL (xs.map (D.rd S 3)))) ∨ Dp K H yv (.tuple (D.pyL (xs.map (D.rd S 3)))) := by
  cases y with
  | tup zs =>
    cases e
    have := Rv.dp_rd hs 4 (.tup xs) yv (by rw [D.rd, D.plain]; exact hp) hy
    rw [D.rd, D.py] at this
    exact .inr this
  | fl zs =>
    cases e
    have := Rv.dp_rd hs 4 (.fl xs) yv (by rw [D.rd, D.plain]; exact hp) hy
    rw [D.rd, D.py] at this
    exact .inl this
  | ref a =>
    rw [seqOf] at e
    split at e
    · rename_i ea
      cases e
      have e4 : D.rd S 4 (.ref a) = .fl (xs.map (D.rd S 3)) := by rw [D.rd, ea]
      have := Rv.dp_rd hs 4 (.ref a) yv (by rw [e4, D.plain]; exact hp) hy
      rw [e4, D.py] at this
      exact .inl this
    · cases e
  | _ => cases e
theorem dop_in0 (hu : X.A.units + 100 < cLine) : OpR X (compareOp .In) (liftO (xfw X tbl) (oIn0 false)) := dl_op fun pins s σ H x y xv yv v u S Q Q0 I rx ry hx hy hs hr hq => by
  rw [oIn0] at hr
  split at hr
  · rename_i xs e
    obtain ⟨⟨hp1, hp2, hd⟩, hr⟩ := hr
    obtain ⟨as, q1⟩ := Rv.reads I hs 3 hp1 hx rx
    have fin : EP X pins σ Q (.bool ((D.pyL (xs.map (D.rd S 3))).any fun e => PyData.eqv e (x.rd S 3).py)) s := ⟨.bl _, H, I, rfl, hq _ _ _ _ hr (by rw [Bool.false_xor, any_py]; exact .bl _) hs (.refl _ _)⟩
    have hdep : X.A.units + 1 + min (PyData.depthAll (D.pyL (xs.map (D.rd S 3)))) (x.rd S 3).py.depth < cLine := by rw [D.dep_py _ hp1]; omega
    rcases rd_seq hs hy e hp2 with q | q
    · obtain ⟨bs, q2⟩ := Dp.reads I _ _ _ q ry
      exact PySem.SeqAt.in_list_data q2 q1 (D.plainL_py _ hp2) (D.plain_py _ hp1) hdep fin
    · obtain ⟨bs, q2⟩ := Dp.reads I _ _ _ q ry
      exact PySem.SeqAt.in_tuple_data q2 q1 (D.plainL_py _ hp2) (D.plain_py _ hp1) hdep fin
  · exact hr.elim
theorem dop_notin0 (hu : X.A.units + 100 < cLine) : OpR X (compareOp .NotIn) (liftO (xfw X tbl) (oIn0 true)) := dl_op fun pins s σ H x y xv yv v u S Q Q0 I rx ry hx hy hs hr hq => by
  rw [oIn0] at hr
  split at hr
  · rename_i xs e
    obtain ⟨⟨hp1, hp2, hd⟩, hr⟩ := hr
    obtain ⟨as, q1⟩ := Rv.reads I hs 3 hp1 hx rx
    have fin : EP X pins σ Q (.bool (!(D.pyL (xs.map (D.rd S 3))).any fun e => PyData.eqv e (x.rd S 3).py)) s := ⟨.bl _, H, I, rfl, hq _ _ _ _ hr (by rw [Bool.true_xor, any_py]; exact .bl _) hs (.refl _ _)⟩
    have hdep : X.A.units + 1 + min (PyData.depthAll (D.pyL (xs.map (D.rd S 3)))) (x.rd S 3).py.depth < cLine := by rw [D.dep_py _ hp1]; omega
    rcases rd_seq hs hy e hp2 with q | q
    · obtain ⟨bs, q2⟩ := Dp.reads I _ _ _ q ry
      exact PySem.SeqAt.notIn_list_data q2 q1 (D.plainL_py _ hp2) (D.plain_py _ hp1) hdep fin
    · obtain ⟨bs, q2⟩ := Dp.reads I _ _ _ q ry
      exact PySem.SeqAt.notIn_tuple_data q2 q1 (D.plainL_py _ hp2) (D.plain_py _ hp1) hdep fin
  · exact hr.elim
end
def oIx0 : DR2 := fun x y S Q => match y with
  | .int i => match x with
    | .str z => z.length ≤ 16777216 ∧ match atI z.cps.toList i with
      | some c => Q (.str ⟨#[c]⟩) S
      | none => False
    | x => match seqOf S x with
      | some xs => match atI xs i with
        | some d => Q d S
        | none => False
      | none => False
  | _ => False
theorem RvL.atI {K : FW} {H : Hp} {ds : List D} {vs : List V} {i : Int} {d : D} (r : RvL K H ds vs) (h : L2.atI ds i = some d) : ∃ v, L2.atI vs i = some v ∧ Rv K H d v := by
  unfold L2.atI at h ⊢
  rw [← r.length]
  cases e : ixN ds.length i with
  | none => rw [e] at h; cases h
  | some j =>
    rw [e] at h
    exact r.get h
section
variable {X : Cx} {tbl : Tbl} {e a b : Expr} {te ta tb : DE} {pos p2 : Pos}
theorem dix0 : IxR X (liftO (xfw X tbl) oIx0) := by
  rintro value slice pins s σ H xv yv v u Q I rx ry ⟨x, y, S, Q0, hx, hy, hs, hr, hq⟩ hsub
  cases y with
  | int i =>
    cases hy
    have seq : ∀ xs d, seqOf S x = some xs → L2.atI xs i = some d → Q0 d S → wpAny (model X.prog X.w) X.A (subscriptTail value slice v u) (EP X pins σ Q) X.xe s := fun xs d e1 e2 q => by
      obtain ⟨p, vs, rfl, hv, r⟩ := seq_of hs hx e1
      obtain ⟨w, h1, h2⟩ := r.atI e2
      rcases hv with hv | hv
      · exact ix_list value slice pins s σ H _ _ v u Q I rx ry ⟨p, vs, i, w, rfl, rfl, hv, h1, hq d S w H q h2 hs (.refl _ _)⟩ hsub
      · exact ix_tup value slice pins s σ H _ _ v u Q I rx ry ⟨p, vs, i, w, rfl, rfl, hv, h1, hq d S w H q h2 hs (.refl _ _)⟩ hsub
    have gen : (match seqOf S x with
      | some xs => match L2.atI xs i with
        | some d => Q0 d S
        | none => False
      | none => False) → wpAny (model X.prog X.w) X.A (subscriptTail value slice v u) (EP X pins σ Q) X.xe s := fun h => by
      split at h
      · rename_i xs e1
        split at h
        · rename_i d e2
          exact seq xs d e1 e2 h
        · exact h.elim
      · exact h.elim
    cases x with
    | str z =>
      cases hx
      have hr' : z.length ≤ 16777216 ∧ (match L2.atI z.cps.toList i with
        | some c => Q0 (.str ⟨#[c]⟩) S
        | none => False) := hr
      obtain ⟨hz, hr'⟩ := hr'
      split at hr'
      · rename_i c e1
        exact ix_str value slice pins s σ H _ _ v u Q I rx ry ⟨z, i, c, rfl, rfl, by rw [szl]; exact hz, e1, hq _ S _ H hr' (.str _) hs (.refl _ _)⟩ hsub
      · exact hr'.elim
    | _ => exact gen hr
  | _ => exact hr.elim
theorem qe_ix0 (ha : PE X a (liftE (xfw X tbl) ta)) (hb : PE X b (liftE (xfw X tbl) tb)) (hs : PlainIx b) : PE X (.Subscript a b pos) (liftE (xfw X tbl) (dOp oIx0 ta tb)) := PE.imp (pe_ix dix0 ha hb hs) lift_op
abbrev DO' := Loc → DS → (Option Int → DS → Prop) → Prop
def liftP (K : FW) (t : DO') : TO := fun σ H Q => ∃ δ S Q0, Rst K H δ σ ∧ Sim K S H ∧ t δ S Q0 ∧ ∀ o S' H', Q0 o S' → Sim K S' H' → Stp S H S' H' → Q o H'
def dNoPart : DO' := fun _ S Q => Q none S
def dPart (t : DE) : DO' := fun δ S Q => t δ S fun x S1 => match x with
  | .int i => Q (some i) S1
  | _ => False
theorem PO.imp {e : Option Expr} {t t' : TO} (p : PO X e t) (h : ∀ σ H Q, t' σ H Q → t σ H Q) : PO X e t' := ⟨fun pins s σ H Q I hw => p.run pins s σ H Q I (h _ _ _ hw)⟩
theorem qo_none : PO X none (liftP (xfw X tbl) dNoPart) := PO.imp po_none fun σ H Q ⟨δ, S, Q0, hr, hs, h, hq⟩ => hq _ _ _ h hs (.refl _ _)
theorem qo_some (h : PE X e (liftE (xfw X tbl) te)) : PO X (some e) (liftP (xfw X tbl) (dPart te)) := PO.imp (po_some h) fun σ H Q ⟨δ, S, Q0, hr, hs, h, hq⟩ => ⟨δ, S, _, hr, hs, h, fun x S1 v H1 q r s1 a1 => by
  cases x with
  | int i => cases r; exact ⟨i, rfl, hq _ _ _ q s1 a1⟩
  | _ => exact q.elim⟩
def dcut {α : Type} (xs : List α) (lo hi : Option Int) : List α := (xs.drop (HT.sIx xs.length 0 lo)).take (HT.sIx xs.length xs.length hi - HT.sIx xs.length 0 lo)
theorem RvL.cut {K : FW} {H : Hp} {ds : List D} {vs : List V} {lo hi : Option Int} (r : RvL K H ds vs) : RvL K H (dcut ds lo hi) (cutV vs lo hi) := by
  unfold dcut cutV
  rw [← r.length]
  exact (r.drop _).take _
def oSl (x : D) (lo hi : Option Int) (S : DS) (Q : DK) : Prop := match x with
  | .tup xs => Q (.tup (dcut xs lo hi)) S
  | .str z => z.length ≤ 16777216 ∧ Q (.str (cutS z lo hi)) S
  | x => match lstOf S x with
    | some xs => ∀ p, S p = none → Q (.ref p) (dupd S p (.lst (dcut xs lo hi)))
    | none => False
def liftSl (K : FW) : V → Option Int → Option Int → Hp → VK → Prop := fun x lo hi H Q => ∃ d S Q0, Rv K H d x ∧ Sim K S H ∧ oSl d lo hi S Q0 ∧ ∀ d S' v H', Q0 d S' → Rv K H' d v → Sim K S' H' → Stp S H S' H' → Q v H'
theorem cut_whole {α : Type} {xs : List α} {lo hi : Option Int} (h : HT.sIx xs.length 0 lo = 0 ∧ HT.sIx xs.length xs.length hi = xs.length) : dcut xs lo hi = xs := by
  unfold dcut
  rw [h.1, h.2]
  simp
theorem dsl : SlR X (liftSl (xfw X tbl)) := by
  rintro pins s σ H xv v vl vu lo hi sl Q I rx hsl pl pu ⟨d, S, Q0, hd, hs, hr, hq⟩
  have lst : ∀ xs, lstOf S d = some xs → (∀ p, S p = none → Q0 (.ref p) (dupd S p (.lst (dcut xs lo hi)))) →
      ∃ T id, typeLookup (.type T) "__getitem__" = pure (some (.builtin id)) ∧ s.TypeIs v T ∧ wpAny (model X.prog X.w) X.A (getItem v (.ref sl)) (EP X pins σ Q) X.xe s := fun xs e h => by
    obtain ⟨a, vs, rfl, hv, r⟩ := lst_of hs hd e
    exact sl_list pins s σ H _ v vl vu lo hi sl Q I rx hsl pl pu ⟨a, vs, rfl, hv, fun p hp => hq _ _ _ _ (h p (hs.fresh hp)) (.ref p) (hs.new hp ⟨_, upd_same, (Stp.laid (S := S) hp).rvl r.cut⟩) (Stp.new hp)⟩
  cases d with
  | tup xs =>
    cases hd with
    | @tup a vs _ q r =>
      refine sl_tupA pins s σ H _ v vl vu lo hi sl Q I rx hsl pl pu ⟨a, vs, rfl, q, fun w => ?_, fun w p hp => ?_⟩
      · rw [← r.length] at w
        have hr' : Q0 (.tup (dcut xs lo hi)) S := hr
        rw [cut_whole w] at hr'
        exact hq _ _ _ _ hr' (.tup q r) hs (.refl _ _)
      · exact hq _ _ _ _ hr (.tup (.inl (.inl upd_same)) ((Stp.laid (S := S) hp).rvl r.cut)) (hs.laid hp) (Stp.laid hp)
  | str z =>
    cases hd
    exact sl_str pins s σ H _ v vl vu lo hi sl Q I rx hsl pl pu ⟨z, rfl, by rw [szl]; exact hr.1, hq _ _ _ _ hr.2 (.str _) hs (.refl _ _)⟩
  | ref a =>
    have hr' : (match lstOf S (.ref a) with
      | some xs => ∀ p, S p = none → Q0 (.ref p) (dupd S p (.lst (dcut xs lo hi)))
      | none => False) := hr
    split at hr'
    · rename_i xs e; exact lst xs e hr'
    · exact hr'.elim
  | fl xs => exact lst xs rfl hr
  | _ => exact hr.elim
def dSl (te : DE) (lo hi : DO') : DE := fun δ S Q => te δ S fun x S1 => lo δ S1 fun l S2 => hi δ S2 fun u S3 => oSl x l u S3 Q
theorem qe_slice {lo hi : Option Expr} {tl th : DO'} (he : PE X e (liftE (xfw X tbl) te)) (hl : PO X lo (liftP (xfw X tbl) tl)) (hu : PO X hi (liftP (xfw X tbl) th)) : PE X (.Subscript e (.Slice lo hi none p2) pos) (liftE (xfw X tbl) (dSl te tl th)) :=
  PE.imp (pe_slice dsl he hl hu) fun σ H Q ⟨δ, S, Q0, hr, hs, h, hq⟩ => ⟨δ, S, _, hr, hs, h, fun x S1 v H1 h1 r1 s1 a1 => ⟨δ, S1, _, hr.stp a1, s1, h1, fun l S2 H2 h2 s2 a2 => ⟨δ, S2, _, hr.stp (a1.trans a2), s2, h2, fun u S3 H3 h3 s3 a3 =>
    ⟨x, S3, _, (a2.trans a3).rv r1, s3, h3, fun d S' v H' q r s a => hq d S' v H' q r s (((a1.trans a2).trans a3).trans a)⟩⟩⟩⟩
/-- xs[i] = v -/
def sIx0 : DSet := fun o i v S Q => match o, i with
  | .ref a, .int k => match S a with
    | some (.lst xs) => match ixN xs.length k with
      | some j => Q (dupd S a (.lst (xs.set j v)))
      | none => False
    | _ => False
  | _, _ => False
theorem dset_ix0 : PSet X (liftSet (xfw X tbl) sIx0) := by
  rintro pins s σ H o i v ov iv u Q I ro ri rv ⟨od, id, vd, S, Q0, ho, hi, hv, hs, hr, hq⟩
  cases od with
  | ref a =>
    cases ho
    cases id with
    | int k =>
      cases hi
      have hr' : (match S a with
        | some (.lst xs) => match ixN xs.length k with
          | some j => Q0 (dupd S a (.lst (xs.set j vd)))
          | none => False
        | _ => False) := hr
      split at hr'
      · rename_i xs ea
        split at hr'
        · rename_i j ej
          obtain ⟨vs, h1, r⟩ := hs.lst ea
          refine set_list pins s σ H _ _ v ov iv u Q I ro ri rv ⟨a, vs, k, j, rfl, rfl, h1, by rw [← r.length]; exact ej, hq _ _ hr' (hs.write ea ⟨_, upd_same, ?_⟩) (Stp.write hs ea)⟩
          exact RvL.updL h1 (r.set hv j)
        · exact hr'.elim
      · exact hr'.elim
    | _ => exact hr.elim
  | _ => exact hr.elim
end
def lenOf (S : DS) : D → Option Nat
  | .str z => if z.length ≤ 16777216 then some z.length else none
  | d => (seqOf S d).map (·.length)
def bLen0 : DRs := fun ds S Q => match ds with
  | [d] => match lenOf S d with
    | some n => Q (.int n) S
    | none => False
  | _ => False
def bInt : DRs := fun ds S Q => match ds with
  | [.int i] => Q (.int i) S
  | [.bl k] => Q (.int (if k then 1 else 0)) S
  | _ => False
def bAbs : DRs := fun ds S Q => match ds with
  | [.int i] => Q (.int (if i < 0 then -i else i)) S
  | _ => False
def bMax2 : DRs := fun ds S Q => match ds with
  | [.int i, .int j] => Q (.int (if j > i then j else i)) S
  | _ => False
def bMin2 : DRs := fun ds S Q => match ds with
  | [.int i, .int j] => Q (.int (if j < i then j else i)) S
  | _ => False
def bList0 : DRs := fun ds S Q => match ds with
  | [d] => match seqOf S d with
    | some xs => ∀ p, S p = none → Q (.ref p) (dupd S p (.lst xs))
    | none => False
  | _ => False
def bTuple : DRs := fun ds S Q => match ds with
  | [d] => match seqOf S d with
    | some xs => Q (.tup xs) S
    | none => False
  | _ => False
def tyName (S : DS) : D → Option String
  | .non => some "NoneType" | .bl _ => some "bool" | .int _ => some "int" | .str _ => some "str" | .tup _ => some "tuple" | .fl _ => some "list" | .ty _ => none | .fn _ => none
  | .ref a => match S a with
    | some (.lst _) => some "list"
    | _ => none
def isi (t T : String) : Bool := t == T || (t == "bool" && T == "int")
def knownTy (t : String) : Bool := t == "bool" || t == "int" || t == "str" || t == "tuple" || t == "list"
def bIsi : DRs := fun ds S Q => match ds with
  | [x, .ty T] => match tyName S x with
    | some t => knownTy T = true ∧ Q (.bl (isi t T)) S
    | none => False
  | [x, .tup [.ty T, .ty U]] => match tyName S x with
    | some t => (knownTy T = true ∧ knownTy U = true) ∧ Q (.bl (isi t T || isi t U)) S
    | none => False
  | _ => False
def dle (a b : D) : Bool := PySem.W.dataLe false D.py a b
def bSorted : DRs := fun ds S Q => match ds with
  | [d] => match lstOf S d with
    | some xs => ((∀ x ∈ xs, x.plain = true ∧ x.dep ≤ 50) ∧ PySem.W.AllAlike (xs.map D.py) ∧ PySem.W.Sortable (xs.map D.py)) ∧ ∀ p, S p = none → Q (.ref p) (dupd S p (.lst (xs.mergeSort dle)))
    | none => False
  | _ => False
def bSum : DRs := fun ds S Q => match ds with
  | [d] => match lstOf S d with
    | some xs => ∃ ns : List Int, xs = ns.map D.int ∧ Q (.int ns.sum) S
    | none => False
  | _ => False
def bAny : DRs := fun ds S Q => match ds with
  | [d] => match lstOf S d with
    | some xs => ∃ bs : List Bool, xs = bs.map D.bl ∧ Q (.bl (bs.any id)) S
    | none => False
  | _ => False
def bAll : DRs := fun ds S Q => match ds with
  | [d] => match lstOf S d with
    | some xs => ∃ bs : List Bool, xs = bs.map D.bl ∧ Q (.bl (bs.all id)) S
    | none => False
  | _ => False
section
variable {X : Cx} {tbl : Tbl}
theorem dl_call {f : Value} {r : DRs}
    (h : ∀ (pins : List (Addr × Obj)) (s : Shared) (σ : L2.St) (H : Hp) (ds : List D) (xs : List V) (us : List Value) (S : DS) (Q : VK) (Q0 : DK), Inv X pins σ H s → Vals xs us → RvL (xfw X tbl) H ds xs → Sim (xfw X tbl) S H → r ds S Q0 →
      (∀ d S' v H', Q0 d S' → Rv (xfw X tbl) H' d v → Sim (xfw X tbl) S' H' → Stp S H S' H' → Q v H') → wpAny (model X.prog X.w) X.A (call f us) (EP X pins σ Q) X.xe s) : CallR X f (liftC (xfw X tbl) r) := by
  rintro pins s σ H xs us Q I rx ⟨ds, S, Q0, hx, hs, hr, hq⟩
  exact h pins s σ H ds xs us S Q Q0 I rx hx hs hr hq
theorem RvL.one {K : FW} {H : Hp} {d : D} {vs : List V} (r : RvL K H [d] vs) : ∃ v, vs = [v] ∧ Rv K H d v := by
  cases r with
  | cons q rr => cases rr; exact ⟨_, rfl, q⟩
theorem RvL.two {K : FW} {H : Hp} {d e : D} {vs : List V} (r : RvL K H [d, e] vs) : ∃ v w, vs = [v, w] ∧ Rv K H d v ∧ Rv K H e w := by
  cases r with
  | cons q rr =>
    obtain ⟨w, rfl, q2⟩ := rr.one
    exact ⟨_, w, rfl, q, q2⟩
theorem dcall_len0 : CallR X (.builtin "len") (liftC (xfw X tbl) bLen0) := dl_call fun pins s σ H ds xs us S Q Q0 I ru rv hs hr hq => by
  match ds, hr, rv with
  | [d], hr, rv =>
    obtain ⟨v, rfl, rd⟩ := rv.one
    have hr' : (match lenOf S d with
      | some n => Q0 (.int n) S
      | none => False) := hr
    split at hr'
    · rename_i n e
      have seq : (seqOf S d).map (·.length) = some n → wpAny (model X.prog X.w) X.A (call (.builtin "len") us) (EP X pins σ Q) X.xe s := fun e => by
        obtain ⟨zs, e1, e2⟩ := Option.map_eq_some_iff.mp e
        obtain ⟨a, ws, rfl, hv, r⟩ := seq_of hs rd e1
        refine call_len_seq pins s σ H _ us Q I ru ⟨a, ws, rfl, hv, hq _ _ _ _ hr' ?_ hs (.refl _ _)⟩
        rw [← e2, r.length]; exact .int _
      cases d with
      | str z =>
        cases rd
        rw [lenOf] at e
        split at e
        · rename_i hz
          cases e
          exact call_len_str pins s σ H _ us Q I ru ⟨z, rfl, by rw [szl]; exact hz, hq _ _ _ _ hr' (.int _) hs (.refl _ _)⟩
        · cases e
      | tup _ => exact seq e
      | fl _ => exact seq e
      | ref _ => exact seq e
      | _ => cases e
    · exact hr'.elim
theorem dcall_int : CallR X (.type "int") (liftC (xfw X tbl) bInt) := dl_call fun pins s σ H ds xs us S Q Q0 I ru rv hs hr hq => by
  match ds, hr, rv with
  | [.int i], hr, rv =>
    obtain ⟨v, rfl, rd⟩ := rv.one
    cases rd
    exact call_int1 pins s σ H _ us Q I ru (.inl ⟨i, rfl, hq _ _ _ _ hr (.int _) hs (.refl _ _)⟩)
  | [.bl k], hr, rv =>
    obtain ⟨v, rfl, rd⟩ := rv.one
    cases rd
    exact call_int1 pins s σ H _ us Q I ru (.inr ⟨k, rfl, hq _ _ _ _ hr (.int _) hs (.refl _ _)⟩)
theorem dcall_abs : CallR X (.builtin "abs") (liftC (xfw X tbl) bAbs) := dl_call fun pins s σ H ds xs us S Q Q0 I ru rv hs hr hq => by
  match ds, hr, rv with
  | [.int i], hr, rv =>
    obtain ⟨v, rfl, rd⟩ := rv.one
    cases rd
    exact call_abs pins s σ H _ us Q I ru ⟨i, rfl, hq _ _ _ _ hr (.int _) hs (.refl _ _)⟩
theorem dcall_max2 (hc : X.calm = true) : CallR X (.builtin "max") (liftC (xfw X tbl) bMax2) := dl_call fun pins s σ H ds xs us S Q Q0 I ru rv hs hr hq => by
  match ds, hr, rv with
  | [.int i, .int j], hr, rv =>
    obtain ⟨v, w, rfl, rd, re⟩ := rv.two
    cases rd
    cases re
    exact call_max2 hc pins s σ H _ us Q I ru ⟨i, j, rfl, hq _ _ _ _ hr (.int _) hs (.refl _ _)⟩
theorem dcall_min2 (hc : X.calm = true) : CallR X (.builtin "min") (liftC (xfw X tbl) bMin2) := dl_call fun pins s σ H ds xs us S Q Q0 I ru rv hs hr hq => by
  match ds, hr, rv with
  | [.int i, .int j], hr, rv =>
    obtain ⟨v, w, rfl, rd, re⟩ := rv.two
    cases rd
    cases re
    exact call_min2 hc pins s σ H _ us Q I ru ⟨i, j, rfl, hq _ _ _ _ hr (.int _) hs (.refl _ _)⟩
theorem dcall_list0 : CallR X (.type "list") (liftC (xfw X tbl) bList0) := dl_call fun pins s σ H ds xs us S Q Q0 I ru rv hs hr hq => by
  match ds, hr, rv with
  | [d], hr, rv =>
    obtain ⟨v, rfl, rd⟩ := rv.one
    have hr' : (match seqOf S d with
      | some xs => ∀ p, S p = none → Q0 (.ref p) (dupd S p (.lst xs))
      | none => False) := hr
    split at hr'
    · rename_i zs e
      obtain ⟨a, ws, rfl, hv, r⟩ := seq_of hs rd e
      exact call_list_of pins s σ H _ us Q I ru ⟨a, ws, rfl, hv, fun p hp => hq _ _ _ _ (hr' p (hs.fresh hp)) (.ref p) (hs.new hp ⟨_, upd_same, (Stp.laid (S := S) hp).rvl r⟩) (Stp.new hp)⟩
    · exact hr'.elim
theorem dcall_tuple : CallR X (.type "tuple") (liftC (xfw X tbl) bTuple) := dl_call fun pins s σ H ds xs us S Q Q0 I ru rv hs hr hq => by
  match ds, hr, rv with
  | [d], hr, rv =>
    obtain ⟨v, rfl, rd⟩ := rv.one
    have hr' : (match seqOf S d with
      | some xs => Q0 (.tup xs) S
      | none => False) := hr
    split at hr'
    · rename_i zs e
      obtain ⟨a, ws, rfl, hv, r⟩ := seq_of hs rd e
      refine call_tuple_of pins s σ H _ us Q I ru ⟨a, ws, rfl, ?_⟩
      rcases hv with hv | hv
      · exact .inl ⟨hv, fun p hp => hq _ _ _ _ hr' (.tup (.inl (.inl upd_same)) ((Stp.laid (S := S) hp).rvl r)) (hs.laid hp) (Stp.laid hp)⟩
      · exact .inr ⟨hv, hq _ _ _ _ hr' (.tup hv r) hs (.refl _ _)⟩
    · exact hr'.elim
theorem tyx_of {K : FW} {H : Hp} {S : DS} {d : D} {v : V} {t : String} (hs : Sim K S H) (r : Rv K H d v) (h : tyName S d = some t) : TyX K H v (.type t) := by
  cases d with
  | non => cases r; cases h; exact .base .non
  | bl b => cases r; cases h; exact .base (.bl _)
  | int b => cases r; cases h; exact .base (.int _)
  | str b => cases r; cases h; exact .base (.str _)
  | tup xs =>
    cases h
    cases r with
    | tup q rr =>
      rcases q with (q | ⟨o, q⟩) | ⟨o, its, n, q, c, _⟩
      · exact .base (.tup q)
      · exact .fTuple q
      · exact .kTuple q c
  | fl xs =>
    cases h
    cases r with
    | fl q rr =>
      rcases q with ⟨o, q⟩ | ⟨o, its, n, q, c, _⟩
      · exact .base (.frz q)
      · exact .kList q c
  | ref a =>
    cases r
    rw [tyName] at h
    split at h
    · rename_i e
      cases h
      obtain ⟨vs, hv, _⟩ := hs.lst e
      exact .base (.lst hv)
    · cases h
  | ty _ => cases h
  | fn _ => cases h
theorem kit_isi {K : PySem.W.Frag} {S : DS} {d : D} {t T : String} (h : tyName S d = some t) (k : knownTy T = true) : PySem.W.kitOne K (.type t) (.type T) = some (isi t T) := by
  have ht : t = "NoneType" ∨ t = "bool" ∨ t = "int" ∨ t = "str" ∨ t = "tuple" ∨ t = "list" := by
    cases d <;> simp [tyName] at h
    all_goals first | (subst h; simp) | skip
    · split at h
      · cases h; simp
      · cases h
  have hT : T = "bool" ∨ T = "int" ∨ T = "str" ∨ T = "tuple" ∨ T = "list" := by
    unfold knownTy at k
    simp only [Bool.or_eq_true, beq_iff_eq] at k
    rcases k with (((k | k) | k) | k) | k <;> simp [k]
  rcases ht with rfl | rfl | rfl | rfl | rfl | rfl <;> rcases hT with rfl | rfl | rfl | rfl | rfl <;> exact kit_ty (by decide +kernel)
theorem dcall_isi : CallR X (.builtin "isinstance") (liftC (xfw X tbl) bIsi) := dl_call fun pins s σ H ds xs us S Q Q0 I ru rv hs hr hq => by
  match ds, hr, rv with
  | [x, .ty T], hr, rv =>
    obtain ⟨v, w, rfl, rd, re⟩ := rv.two
    cases re
    have hr' : (match tyName S x with
      | some t => knownTy T = true ∧ Q0 (.bl (isi t T)) S
      | none => False) := hr
    split at hr'
    · rename_i t e
      exact call_isi pins s σ H _ us Q I ru ⟨v, _, _, _, _, rfl, .ty T, tyx_of hs rd e, kit_isi e hr'.1, hq _ _ _ _ hr'.2 (.bl _) hs (.refl _ _)⟩
    · exact hr'.elim
  | [x, .tup [.ty T, .ty U]], hr, rv =>
    obtain ⟨v, w, rfl, rd, re⟩ := rv.two
    have hr' : (match tyName S x with
      | some t => (knownTy T = true ∧ knownTy U = true) ∧ Q0 (.bl (isi t T || isi t U)) S
      | none => False) := hr
    split at hr'
    · rename_i t e
      have hk : PySem.W.kitAny X.K (.type t) [.type T, .type U] = some (isi t T || isi t U) := by
        refine kitAny_cons (kit_isi e hr'.1.1) (fun h1 => ?_) (fun h1 => by rw [h1]; rfl)
        rw [h1, Bool.false_or]
        exact kitAny_cons (kit_isi e hr'.1.2) (fun h2 => by rw [h2]; exact kitAny_nil) (fun h2 => h2)
      cases re with
      | @tup tp cs _ q rr =>
        obtain ⟨c1, c2, rfl, k1, k2⟩ := rr.two
        cases k1
        cases k2
        have fin := hq _ _ _ _ hr'.2 (.bl _) hs (.refl _ _)
        obtain ⟨u1, u2, rfl, r1, r2⟩ := vals2 ru
        cases (show u2 = Value.ref tp from r2)
        obtain ⟨P, Z, p, hx⟩ := kit_of I r1 (tyx_of hs rd e)
        obtain ⟨its, rv3, ⟨o, h1, h2, n, h3⟩, _⟩ := I.tuple q
        have e3 : its = [.type T, .type U] := by
          cases rv3 with
          | cons a b =>
            cases b with
            | cons c d => cases d; cases a; cases c; rfl
        subst e3
        obtain ⟨oc, od, dt, sl⟩ := o
        simp only at h2 h3
        subst h2 h3
        exact PySem.W.kia_tup Z I.kIn p h1 hk hx fun tk => ⟨.bl _, H, I.tok tk, .refl _, fin⟩
    · exact hr'.elim
theorem EachIs.rvl {K : FW} {H : Hp} : ∀ {us : List Value} {ds : List D}, PySem.W.EachIs (fun u d => ∃ v, RelV v u ∧ Rv K H d v) us ds → ∃ vs, Vals vs us ∧ RvL K H ds vs
  | _, _, .nil => ⟨[], .nil, .nil⟩
  | _, _, .cons ⟨v, h1, h2⟩ t => by
    obtain ⟨vs, h3, h4⟩ := EachIs.rvl t
    exact ⟨v :: vs, .cons h1 h3, .cons h2 h4⟩
theorem RvL.each {K : FW} {H : Hp} : ∀ {us : List Value} {vs : List V} {ds : List D}, Vals vs us → RvL K H ds vs → PySem.W.EachIs (fun u d => ∃ v, RelV v u ∧ Rv K H d v) us ds
  | _, _, [], r, h => by cases h; cases r; exact .nil
  | _, _, d :: ds, r, h => by
    cases h with
    | cons a b =>
      cases r with
      | cons c e => exact .cons ⟨_, c, a⟩ (RvL.each e b)
theorem each_reads {pins : List (Addr × Obj)} {σ : L2.St} {H : Hp} {s : Shared} (I : Inv X pins σ H s) : ∀ {us : List Value} {vs : List V} {ds : List D}, (∀ x ∈ ds, x.plain = true ∧ x.dep ≤ 50) → Vals vs us → RvL (xfw X tbl) H ds vs →
    PySem.W.EachIs (fun u d => ∃ as, Reads s.heap u d.py as) us ds
  | _, _, [], _, r, h => by cases h; cases r; exact .nil
  | _, _, d :: ds, hp, r, h => by
    cases h with
    | cons a b =>
      cases r with
      | cons c e => exact .cons (Dp.reads I _ _ _ (Rv.dp d _ (hp d List.mem_cons_self).1 a) c) (each_reads I (fun x hx => hp x (List.mem_cons_of_mem _ hx)) e b)
theorem dcall_sorted (hu : X.A.units + 100 < cLine) : CallR X (.builtin "sorted") (liftC (xfw X tbl) bSorted) := dl_call fun pins s σ H ds xs us S Q Q0 I ru rv hs hr hq => by
  match ds, hr, rv with
  | [d], hr, rv =>
    obtain ⟨v, rfl, rd⟩ := rv.one
    have hr' : (match lstOf S d with
      | some xs => ((∀ x ∈ xs, x.plain = true ∧ x.dep ≤ 50) ∧ PySem.W.AllAlike (xs.map D.py) ∧ PySem.W.Sortable (xs.map D.py)) ∧ ∀ p, S p = none → Q0 (.ref p) (dupd S p (.lst (xs.mergeSort dle)))
      | none => False) := hr
    split at hr'
    · rename_i zs e
      obtain ⟨⟨h1, h2, h3⟩, hr'⟩ := hr'
      obtain ⟨a, ws, rfl, hv, r⟩ := lst_of hs rd e
      obtain ⟨its, r1, hl, hz⟩ := I.list hv
      rw [Vals.ref1 ru]
      refine PySem.W.sorted_data (enc := D.py) (R := fun u d => ∃ v, RelV v u ∧ Rv (xfw X tbl) H d v) hl.isList (RvL.each r1 r) (each_reads I h1 r1 r) h2 h3 (by rw [r.length]; exact hz)
        (fun b hb => by rw [D.dep_py _ (h1 b hb).1]; have := (h1 b hb).2; omega) fun out hl2 he => ?_
      obtain ⟨vs2, k1, k2⟩ := EachIs.rvl he
      obtain ⟨ep, he'⟩ := PyProof.Rows.sortedAll_at s.heap its out.toArray
      have hfr : H (s.heap.objs.size + 1) = none := I.hok.fresh (Nat.le_succ _)
      have hlen : vs2.length ≤ sizeLine := by
        rw [← k2.length, List.length_mergeSort, r.length]; exact hz
      refine ⟨.ref _, upd H (s.heap.objs.size + 1) (.lst vs2), I.laid (t' := s.toks) (fun _ _ => PyProof.Rows.sortedAll_old) (Nat.le_succ _) ⟨hlen, out, ep, k1, he'⟩, rfl, ?_⟩
      exact hq _ _ _ _ (hr' _ (hs.fresh hfr)) (.ref _) (hs.new hfr ⟨vs2, upd_same, (Stp.laid (S := S) hfr).rvl k2⟩) (Stp.new hfr)
    · exact hr'.elim
theorem rvl_ints {K : FW} {H : Hp} : ∀ {ns : List Int} {vs : List V}, RvL K H (ns.map D.int) vs → vs = ns.map V.int
  | [], _, r => by cases r; rfl
  | n :: ns, _, r => by
    cases r with
    | cons a b => cases a; rw [rvl_ints b]; rfl
theorem rvl_bls {K : FW} {H : Hp} : ∀ {ns : List Bool} {vs : List V}, RvL K H (ns.map D.bl) vs → vs = ns.map V.bl
  | [], _, r => by cases r; rfl
  | n :: ns, _, r => by
    cases r with
    | cons a b => cases a; rw [rvl_bls b]; rfl
theorem dcall_sum (hc : X.calm = true) : CallR X (.builtin "sum") (liftC (xfw X tbl) bSum) := dl_call fun pins s σ H ds xs us S Q Q0 I ru rv hs hr hq => by
  match ds, hr, rv with
  | [d], hr, rv =>
    obtain ⟨v, rfl, rd⟩ := rv.one
    have hr' : (match lstOf S d with
      | some xs => ∃ ns : List Int, xs = ns.map D.int ∧ Q0 (.int ns.sum) S
      | none => False) := hr
    split at hr'
    · rename_i zs e
      obtain ⟨ns, rfl, q⟩ := hr'
      obtain ⟨a, ws, rfl, hv, r⟩ := lst_of hs rd e
      exact cr_sum hc pins s σ H _ us Q I ru ⟨a, ns, rfl, by rw [← rvl_ints r]; exact hv, hq _ _ _ _ q (.int _) hs (.refl _ _)⟩
    · exact hr'.elim
theorem dcall_any (hc : X.calm = true) : CallR X (.builtin "any") (liftC (xfw X tbl) bAny) := dl_call fun pins s σ H ds xs us S Q Q0 I ru rv hs hr hq => by
  match ds, hr, rv with
  | [d], hr, rv =>
    obtain ⟨v, rfl, rd⟩ := rv.one
    have hr' : (match lstOf S d with
      | some xs => ∃ bs : List Bool, xs = bs.map D.bl ∧ Q0 (.bl (bs.any id)) S
      | none => False) := hr
    split at hr'
    · rename_i zs e
      obtain ⟨ns, rfl, q⟩ := hr'
      obtain ⟨a, ws, rfl, hv, r⟩ := lst_of hs rd e
      exact cr_any hc pins s σ H _ us Q I ru ⟨a, ns, rfl, by rw [← rvl_bls r]; exact hv, hq _ _ _ _ q (.bl _) hs (.refl _ _)⟩
    · exact hr'.elim
theorem dcall_all (hc : X.calm = true) : CallR X (.builtin "all") (liftC (xfw X tbl) bAll) := dl_call fun pins s σ H ds xs us S Q Q0 I ru rv hs hr hq => by
  match ds, hr, rv with
  | [d], hr, rv =>
    obtain ⟨v, rfl, rd⟩ := rv.one
    have hr' : (match lstOf S d with
      | some xs => ∃ bs : List Bool, xs = bs.map D.bl ∧ Q0 (.bl (bs.all id)) S
      | none => False) := hr
    split at hr'
    · rename_i zs e
      obtain ⟨ns, rfl, q⟩ := hr'
      obtain ⟨a, ws, rfl, hv, r⟩ := lst_of hs rd e
      exact cr_all hc pins s σ H _ us Q I ru ⟨a, ns, rfl, by rw [← rvl_bls r]; exact hv, hq _ _ _ _ q (.bl _) hs (.refl _ _)⟩
    · exact hr'.elim
abbrev DM := D → List D → DS → DK → Prop
def liftM (K : FW) (r : DM) : V → List V → Hp → VK → Prop := fun x xs H Q => ∃ dx ds S Q0, Rv K H dx x ∧ RvL K H ds xs ∧ Sim K S H ∧ r dx ds S Q0 ∧ ∀ d S' v H', Q0 d S' → Rv K H' d v → Sim K S' H' → Stp S H S' H' → Q v H'
def dBM (ok : DS → D → Prop) (r : DM) (to : DE) (t : DA) : DE := fun δ S Q => to δ S fun x S1 => ok S1 x ∧ t δ S1 fun xs S2 => r x xs S2 Q
def okLst : DS → D → Prop := fun S d => (lstOf S d).isSome = true
def okStr : DS → D → Prop := fun _ d => match d with
  | .str _ => True
  | _ => False
def OkTy (K : FW) (T : String) (ok : DS → D → Prop) : Prop := ∀ S H d v, Sim K S H → Rv K H d v → ok S d → tyV K T v H
theorem okLst_ty {K : FW} : OkTy K "list" okLst := fun S H d v hs r h => by
  obtain ⟨xs, e⟩ := Option.isSome_iff_exists.mp h
  obtain ⟨a, vs, rfl, hv, _⟩ := lst_of hs r e
  exact .inl ⟨rfl, vs, hv⟩
theorem okStr_ty {K : FW} : OkTy K "str" okStr := fun S H d v hs r h => by
  cases d with
  | str _ => cases r; exact (rfl : ("str" : String) = "str")
  | _ => exact h.elim
variable {o e : Expr} {es : List Expr} {to : DE} {t : DA} {name : Str} {apos cpos : Pos} {T id : String} {r : DM} {ok : DS → D → Prop}
theorem qe_bm0 (pa : PlainAttrs T) (slot : Slot T name id) (hty : typeOf (.builtin id) = pure (.type "method_descriptor")) (ht : OkTy (xfw X tbl) T ok) (hm : MtR X id (liftM (xfw X tbl) r)) (ho : PE X o (liftE (xfw X tbl) to))
    (hbase : attributeBase o name X.env (eval o X.env) = eval o X.env := by rfl) (hline : (apos.endLine == cpos.line) = true := by rfl) : PE X (.Call (.Attribute o name apos) [] [] cpos) (liftE (xfw X tbl) (dBM ok r to dNil)) :=
  PE.imp (pe_bm0 pa slot hty hm ho hbase hline) fun σ H Q ⟨δ, S, Q0, hr, hs, h, hq⟩ => ⟨δ, S, _, hr, hs, h, fun x S1 v H1 ⟨k, h1⟩ r1 s1 a1 => ⟨ht S1 H1 x v s1 r1 k, x, [], S1, _, r1, .nil, s1, h1, fun d S' v H' q r s a => hq d S' v H' q r s (a1.trans a)⟩⟩
theorem qe_bm (pa : PlainAttrs T) (slot : Slot T name id) (hty : typeOf (.builtin id) = pure (.type "method_descriptor")) (ht : OkTy (xfw X tbl) T ok) (hm : MtR X id (liftM (xfw X tbl) r)) (ho : PE X o (liftE (xfw X tbl) to)) (ha : PA X (e :: es) (liftA (xfw X tbl) t))
    (hbase : attributeBase o name X.env (eval o X.env) = eval o X.env := by rfl)
    (hfew : ((backTo cpos (starEach (e :: es) X.env)).all (fun x => !x.1) && (backToKw cpos (keywordEach [] X.env)).all (fun x => x.1.isSome)
      && decide ((e :: es).length + ([] : List Keyword).length + (if ([] : List Keyword).isEmpty then 0 else 1) < 30)) = true := by rfl)
    (hline : (apos.endLine == cpos.line) = true := by rfl) (hs : starEach (e :: es) X.env = (false, eval e X.env) :: starEach es X.env := by rfl) (hplain : (backTo cpos (starEach es X.env)).any (·.1) = false := by rfl) :
    PE X (.Call (.Attribute o name apos) (e :: es) [] cpos) (liftE (xfw X tbl) (dBM ok r to t)) :=
  PE.imp (pe_bm pa slot hty hm ho ha hbase hfew hline hs hplain) fun σ H Q ⟨δ, S, Q0, hr, hs, h, hq⟩ => ⟨δ, S, _, hr, hs, h, fun x S1 v H1 ⟨k, h1⟩ r1 s1 a1 => ⟨ht S1 H1 x v s1 r1 k, δ, S1, _, hr.stp a1, s1, h1, fun xs S2 vs H2 h2 r2 s2 a2 =>
    ⟨x, xs, S2, _, a2.rv r1, r2, s2, h2, fun d S' v H' q r s a => hq d S' v H' q r s ((a1.trans a2).trans a)⟩⟩⟩
theorem dl_m {id : String}
    (h : ∀ (pins : List (Addr × Obj)) (s : Shared) (σ : L2.St) (H : Hp) (d : D) (ds : List D) (x : V) (xs : List V) (v : Value) (us : List Value) (S : DS) (Q : VK) (Q0 : DK), Inv X pins σ H s → RelV x v → Vals xs us → Rv (xfw X tbl) H d x → RvL (xfw X tbl) H ds xs → Sim (xfw X tbl) S H → r d ds S Q0 →
      (∀ d S' v H', Q0 d S' → Rv (xfw X tbl) H' d v → Sim (xfw X tbl) S' H' → Stp S H S' H' → Q v H') → wpAny (model X.prog X.w) X.A (call (.builtin id) (v :: us)) (EP X pins σ Q) X.xe s) : MtR X id (liftM (xfw X tbl) r) := by
  rintro pins s σ H x xs v us Q I rx rs ⟨d, ds, S, Q0, hd, hx, hs, hr, hq⟩
  exact h pins s σ H d ds x xs v us S Q Q0 I rx rs hd hx hs hr hq
/-- a method that changes a list: f tells what it gives back and the list behind -/
def mLst (f : List D → List D → Option (D × List D)) : DM := fun d ds S Q => match d with
  | .ref a => match S a with
    | some (.lst xs) => match f xs ds with
      | some (r, ys) => ys.length ≤ 16777216 ∧ Q r (dupd S a (.lst ys))
      | none => False
    | _ => False
  | _ => False
theorem mLst_get {f : List D → List D → Option (D × List D)} {d : D} {ds : List D} {S : DS} {Q : DK} (h : mLst f d ds S Q) : ∃ a xs r ys, d = .ref a ∧ S a = some (.lst xs) ∧ f xs ds = some (r, ys) ∧ ys.length ≤ 16777216 ∧ Q r (dupd S a (.lst ys)) := by
  cases d with
  | ref a =>
    have h' : (match S a with
      | some (.lst xs) => match f xs ds with
        | some (r, ys) => ys.length ≤ 16777216 ∧ Q r (dupd S a (.lst ys))
        | none => False
      | _ => False) := h
    split at h'
    · rename_i xs ea
      split at h'
      · rename_i r ys ef
        exact ⟨a, xs, r, ys, rfl, ea, ef, h'.1, h'.2⟩
      · exact h'.elim
    · exact h'.elim
  | _ => exact h.elim
def fAppend : List D → List D → Option (D × List D) := fun xs ds => match ds with
  | [y] => some (.non, xs ++ [y])
  | _ => none
def fPop : List D → List D → Option (D × List D) := fun xs ds => match ds with
  | [] => match xs[xs.length - 1]? with
    | some y => some (y, xs.dropLast)
    | none => none
  | _ => none
def fPopAt : List D → List D → Option (D × List D) := fun xs ds => match ds with
  | [.int i] => match ixN xs.length i with
    | some k => match xs[k]? with
      | some y => some (y, xs.eraseIdx k)
      | none => none
    | none => none
  | _ => none
def fReverse : List D → List D → Option (D × List D) := fun xs ds => match ds with
  | [] => some (.non, xs.reverse)
  | _ => none
theorem dmt_append : MtR X "list.append" (liftM (xfw X tbl) (mLst fAppend)) := dl_m fun pins s σ H d ds x xs v us S Q Q0 I rx ru rd rds hs hr hq => by
  obtain ⟨a, zs, r, ys, rfl, ea, ef, hl, q⟩ := mLst_get hr
  match ds, ef, rds with
  | [y], ef, rds =>
    cases ef
    cases rd
    obtain ⟨w, rfl, rw'⟩ := rds.one
    obtain ⟨vs, h1, r1⟩ := hs.lst ea
    refine mt_append pins s σ H _ _ v us Q I rx ru ⟨a, vs, w, rfl, rfl, h1, by rw [szl, ← r1.length]; rw [List.length_append, List.length_singleton] at hl; omega, hq _ _ _ _ q .non (hs.write ea ⟨_, upd_same, ?_⟩) (Stp.write hs ea)⟩
    exact (r1.append (.cons rw' .nil)).updL h1
theorem dmt_pop : MtR X "list.pop" (liftM (xfw X tbl) (mLst fPop)) := dl_m fun pins s σ H d ds x xs v us S Q Q0 I rx ru rd rds hs hr hq => by
  obtain ⟨a, zs, r, ys, rfl, ea, ef, hl, q⟩ := mLst_get hr
  match ds, ef, rds with
  | [], ef, rds =>
    cases rds
    cases rd
    obtain ⟨vs, h1, r1⟩ := hs.lst ea
    have ef' : (match zs[zs.length - 1]? with
      | some y => some (y, zs.dropLast)
      | none => none) = some (r, ys) := ef
    split at ef'
    · rename_i y ey
      cases ef'
      obtain ⟨w, hw, rw'⟩ := r1.get ey
      refine mt_pop pins s σ H _ _ v us Q I rx ru ⟨a, vs, w, rfl, rfl, h1, by rw [← r1.length]; exact hw, hq _ _ _ _ q (rw'.updL h1) (hs.write ea ⟨_, upd_same, ?_⟩) (Stp.write hs ea)⟩
      exact r1.dropLast.updL h1
    · cases ef'
theorem dmt_popAt : MtR X "list.pop" (liftM (xfw X tbl) (mLst fPopAt)) := dl_m fun pins s σ H d ds x xs v us S Q Q0 I rx ru rd rds hs hr hq => by
  obtain ⟨a, zs, r, ys, rfl, ea, ef, hl, q⟩ := mLst_get hr
  match ds, ef, rds with
  | [.int i], ef, rds =>
    obtain ⟨w0, rfl, rw0⟩ := rds.one
    cases rw0
    cases rd
    obtain ⟨vs, h1, r1⟩ := hs.lst ea
    have ef' : (match ixN zs.length i with
      | some k => match zs[k]? with
        | some y => some (y, zs.eraseIdx k)
        | none => none
      | none => none) = some (r, ys) := ef
    split at ef'
    · rename_i k ek
      split at ef'
      · rename_i y ey
        cases ef'
        obtain ⟨w, hw, rw'⟩ := r1.get ey
        obtain ⟨g1, g2, g3, g4⟩ := ixN_seq ek
        obtain ⟨hz, _⟩ := I.hok a _ h1
        rw [szl, ← r1.length] at hz
        refine mt_popAt pins s σ H _ _ v us Q I rx ru ⟨a, vs, i, k, w, rfl, rfl, h1, by omega, by omega, by rw [← r1.length]; exact g1, hw, hq _ _ _ _ q (rw'.updL h1) (hs.write ea ⟨_, upd_same, ?_⟩) (Stp.write hs ea)⟩
        exact (r1.erase k).updL h1
      · cases ef'
    · cases ef'
theorem dmt_reverse : MtR X "list.reverse" (liftM (xfw X tbl) (mLst fReverse)) := dl_m fun pins s σ H d ds x xs v us S Q Q0 I rx ru rd rds hs hr hq => by
  obtain ⟨a, zs, r, ys, rfl, ea, ef, hl, q⟩ := mLst_get hr
  match ds, ef, rds with
  | [], ef, rds =>
    cases ef
    cases rds
    cases rd
    obtain ⟨vs, h1, r1⟩ := hs.lst ea
    exact mt_reverse pins s σ H _ _ v us Q I rx ru ⟨a, vs, rfl, rfl, h1, hq _ _ _ _ q .non (hs.write ea ⟨_, upd_same, r1.reverse.updL h1⟩) (Stp.write hs ea)⟩
/-- xs.extend(ys), ys a list -/
def mExtend : DM := fun d ds S Q => match d, ds with
  | .ref a, [.ref b] => match S a, S b with
    | some (.lst xs), some (.lst ys) => xs.length + ys.length ≤ 16777216 ∧ Q .non (dupd S a (.lst (xs ++ ys)))
    | _, _ => False
  | _, _ => False
theorem dmt_extend : MtR X "list.extend" (liftM (xfw X tbl) mExtend) := dl_m fun pins s σ H d ds x xs v us S Q Q0 I rx ru rd rds hs hr hq => by
  match d, ds, hr, rd, rds with
  | .ref a, [.ref b], hr, rd, rds =>
    obtain ⟨w0, rfl, rw0⟩ := rds.one
    cases rw0
    cases rd
    have hr' : (match S a, S b with
      | some (.lst xs), some (.lst ys) => xs.length + ys.length ≤ 16777216 ∧ Q0 .non (dupd S a (.lst (xs ++ ys)))
      | _, _ => False) := hr
    split at hr'
    · rename_i zs ys ea eb
      obtain ⟨vs, h1, r1⟩ := hs.lst ea
      obtain ⟨ws, h2, r2⟩ := hs.lst eb
      exact mt_extend pins s σ H _ _ v us Q I rx ru ⟨a, b, vs, ws, rfl, rfl, h1, h2, by rw [szl, ← r1.length, ← r2.length]; exact hr'.1, hq _ _ _ _ hr'.2 .non (hs.write ea ⟨_, upd_same, (r1.append r2).updL h1⟩) (Stp.write hs ea)⟩
    · exact hr'.elim
/-- sep.join(xs) -/
def mJoin : DM := fun d ds S Q => match d, ds with
  | .str a, [y] => match seqOf S y with
    | some xs => ∃ ys : List Str, xs = ys.map D.str ∧ (ys.map (·.length)).sum + ys.length * a.length ≤ 16777216 ∧ Q (.str (Txt.join a ys)) S
    | none => False
  | _, _ => False
theorem rvl_strs {K : FW} {H : Hp} : ∀ {ns : List Str} {vs : List V}, RvL K H (ns.map D.str) vs → vs = ns.map V.str
  | [], _, r => by cases r; rfl
  | n :: ns, _, r => by
    cases r with
    | cons a b => cases a; rw [rvl_strs b]; rfl
theorem dmt_join : MtR X "str.join" (liftM (xfw X tbl) mJoin) := dl_m fun pins s σ H d ds x xs v us S Q Q0 I rx ru rd rds hs hr hq => by
  match d, ds, hr, rd, rds with
  | .str a, [y], hr, rd, rds =>
    obtain ⟨w0, rfl, rw0⟩ := rds.one
    cases rd
    have hr' : (match seqOf S y with
      | some xs => ∃ ys : List Str, xs = ys.map D.str ∧ (ys.map (·.length)).sum + ys.length * a.length ≤ 16777216 ∧ Q0 (.str (Txt.join a ys)) S
      | none => False) := hr
    split at hr'
    · rename_i zs e
      obtain ⟨ys, rfl, hz, q⟩ := hr'
      obtain ⟨p, ws, rfl, hv, r⟩ := seq_of hs rw0 e
      have e2 := rvl_strs r
      subst e2
      exact mt_join pins s σ H _ _ v us Q I rx ru ⟨a, p, ys, rfl, rfl, hv, hz, hq _ _ _ _ q (.str _) hs (.refl _ _)⟩
    · exact hr'.elim
end
end DL
namespace DL
open PySem PySem.Spec PyProof.Rows L2 LamX
def dIter0 (te : DE) : DI := fun δ S Q => te δ S fun x S1 => match x with
  | .str z => Q (z.cps.toList.map fun c => D.str ⟨#[c]⟩) (fun _ => True) S1
  | x => match seqOf S1 x with
    | some xs => Q xs (fun S' => seqOf S' x = some xs) S1
    | none => False
section
variable {X : Cx} {tbl : Tbl} {tg : Expr}
/-- a value is walked: from its iterator's making -/
def IterR (X : Cx) (tg : Expr) (r : V → Hp → (It → Hp → Prop) → Prop) : Prop :=
  ∀ (pins : List (Addr × Obj)) (s : Shared) (σ : L2.St) (H : Hp) (x : V) (v : Value) (R : It → Hp → Prop), Inv X pins σ H s → RelV x v → r x H R → wpAny (model X.prog X.w) X.A (pyIter v) (PIE X pins σ tg R) X.xe s
theorem pi_of {l : Expr} {tl : TE} {r : V → Hp → (It → Hp → Prop) → Prop} (hl : PE X l tl) (hr : IterR X tg r) : PI X tg l (fun σ H R => tl σ H fun x H1 => r x H1 R) :=
  ⟨fun pins s σ H R I h => thn (hl.run pins s σ H _ I h) fun v s1 ⟨x, H1, I1, r1, q1⟩ => hr pins s1 σ H1 x v R I1 r1 q1⟩
theorem ir_list : IterR X tg (fun x H R => ∃ a, x = .ref a ∧ (∃ xs, SqL X.K H a xs) ∧ R (Itl X.K a) H) := by
  rintro pins s1 σ H1 x v R I1 r1 ⟨a, e, ⟨xs, hq⟩, q⟩
  subst e
  cases r1
  obtain ⟨its, rv, p, hz⟩ := I1.list hq
  refine wpAny_pyIter_list p.isList ?_
  refine ⟨s1.heap.objs.size, [s1.heap.objs.size], _, _, H1, rfl, I1.kept (t' := s1.toks) fun b o e => Heap.get?_push_of_some _ e, turn_list a _, ⟨_, Heap.get?_push_size _ rfl, rfl, rfl⟩, fun b hb => ?_, q⟩
  have e : b = s1.heap.objs.size := by simpa using hb
  subst e
  exact I1.fpOk (Nat.le_refl _) (I1.hok.fresh (Nat.le_refl _))
theorem ir_tup : IterR X tg (fun x H R => ∃ a, x = .ref a ∧ (∃ xs, SqT X.K H a xs) ∧ R (Itt X.K a) H) := by
  rintro pins s1 σ H1 x v R I1 r1 ⟨a, e, ⟨xs, hq⟩, q⟩
  subst e
  cases r1
  obtain ⟨its, rv, p, hz⟩ := I1.tuple hq
  refine wpAny_pyIter_tuple (show s1.heap.IsTuple a its.toArray from p) ?_
  refine ⟨s1.heap.objs.size, [s1.heap.objs.size], _, _, H1, rfl, I1.kept (t' := s1.toks) fun b o e => Heap.get?_push_of_some _ e, turn_tuple a _, ⟨_, Heap.get?_push_size _ rfl, rfl, rfl⟩, fun b hb => ?_, q⟩
  have e : b = s1.heap.objs.size := by simpa using hb
  subst e
  exact I1.fpOk (Nat.le_refl _) (I1.hok.fresh (Nat.le_refl _))
theorem ir_str : IterR X tg (fun v H R => ∃ x, v = .str x ∧ R (Its x) H) := by
  rintro pins s1 σ H1 y v R I1 r1 ⟨x, ex, q⟩
  subst ex
  obtain ⟨t, rfl⟩ := r1
  cases ha : x.cps.all (· < 128)
  · exact wpAny_pyIter_wide ha (pi_one (tk := s1.toks) I1 _ (turn_str _ x t "str_iterator" (.inr rfl)) ⟨_, Heap.get?_push_size _ rfl, rfl, rfl⟩ q)
  · exact wpAny_pyIter_ascii ha (pi_one (tk := s1.toks) I1 _ (turn_str _ x t "str_ascii_iterator" (.inl rfl)) ⟨_, Heap.get?_push_size _ rfl, rfl, rfl⟩ q)
theorem jok_list {K : FW} {H0 : Hp} {a : Addr} {xs : List D} {stay : DS → Prop} (h : ∀ S H, Prs H0 H → Sim K S H → stay S → ∃ vs, SqL K H a vs ∧ RvL K H xs vs) : JOk K H0 xs stay (Itl K a) := by
  intro i S H p hs st
  obtain ⟨vs, h1, r⟩ := h S H p hs st
  refine ⟨fun hi => ⟨vs, h1, by rw [← r.length]; exact hi⟩, fun d hd => ?_⟩
  obtain ⟨v, h2, h3⟩ := r.get hd
  refine ⟨⟨vs, v, h1, h2⟩, fun x H' ⟨e, y⟩ => ?_⟩
  subst e
  have := y vs h1
  rw [h2] at this
  cases this
  exact ⟨h3, hs, .refl _ _⟩
theorem jok_tup {K : FW} {H0 : Hp} {a : Addr} {xs : List D} {vs : List V} {stay : DS → Prop} (h1 : SqT K H0 a vs) (r : RvL K H0 xs vs) (inj : ∀ H, Prs H0 H → ∀ ws, SqT K H a ws → ws = vs) : JOk K H0 xs stay (Itt K a) := by
  intro i S H p hs st
  refine ⟨fun hi => ⟨vs, p.sqT h1, by rw [← r.length]; exact hi⟩, fun d hd => ?_⟩
  obtain ⟨v, h2, h3⟩ := r.get hd
  refine ⟨⟨vs, v, p.sqT h1, h2⟩, fun x H' ⟨e, y⟩ => ?_⟩
  subst e
  have := y vs (p.sqT h1)
  rw [h2] at this
  cases this
  exact ⟨p.rv h3, hs, .refl _ _⟩
theorem jok_tup' {K : FW} {H0 : Hp} {a : Addr} {xs : List D} {vs : List V} {stay : DS → Prop} (h1 : SqT K H0 a vs) (r : RvL K H0 xs vs) : JOk K H0 xs stay (Itt K a) := by
  intro i S H p hs st
  refine ⟨fun hi => ⟨vs, p.sqT h1, by rw [← r.length]; exact hi⟩, fun d hd => ?_⟩
  obtain ⟨v, h2, h3⟩ := r.get hd
  refine ⟨⟨vs, v, p.sqT h1, h2⟩, fun x H' ⟨e, y⟩ => ?_⟩
  subst e
  have := y vs (p.sqT h1)
  rw [h2] at this
  cases this
  exact ⟨p.rv h3, hs, .refl _ _⟩
theorem jok_str {K : FW} {H0 : Hp} {z : Str} {stay : DS → Prop} : JOk K H0 (z.cps.toList.map fun c => D.str ⟨#[c]⟩) stay (Its z) := by
  intro i S H p hs st
  refine ⟨fun hi => by rw [List.length_map, Array.length_toList] at hi; exact hi, fun d hd => ?_⟩
  rw [List.getElem?_map] at hd
  obtain ⟨c, h1, h2⟩ := Option.map_eq_some_iff.mp hd
  subst h2
  rw [Array.getElem?_toList] at h1
  refine ⟨(Array.getElem?_eq_some_iff.mp h1).1, fun x H' ⟨e, c2, e2, e3⟩ => ?_⟩
  subst e e3
  rw [h1] at e2
  cases e2
  exact ⟨.str _, hs, .refl _ _⟩
/-- the store's own list, a frozen one -/
theorem stay_list {K : FW} {H0 : Hp} {a : Addr} {d : D} {xs : List D} (hr : Rv K H0 d (.ref a)) (nt : ∀ ys, d ≠ .tup ys) : ∀ S H, Prs H0 H → Sim K S H → seqOf S d = some xs → ∃ vs, SqL K H a vs ∧ RvL K H xs vs := by
  intro S H p hs e
  cases d with
  | ref b =>
    cases hr
    obtain ⟨c, vs, e1, hv, r⟩ := seq_of hs (.ref a) e
    cases e1
    rcases hv with hv | hv
    · exact ⟨vs, hv, r⟩
    · rw [seqOf] at e
      split at e
      · rename_i ea
        cases e
        obtain ⟨ws, h1, r1⟩ := hs.lst ea
        exact ⟨ws, .of h1, r1⟩
      · cases e
  | fl ys =>
    cases e
    cases hr with
    | fl q rr => exact ⟨_, (p.fqL q).sq, p.rvl rr⟩
  | tup ys => exact absurd rfl (nt ys)
  | fn x => cases e
  | _ => cases hr
theorem qi_seq0 {l : Expr} {te : DE} (hl : PE X l (liftE (xfw X tbl) te)) : PI X tg l (liftI (xfw X tbl) (dIter0 te)) := by
  refine PI.imp (pi_of (r := fun x H R => (∃ a, x = .ref a ∧ (∃ xs, SqL X.K H a xs) ∧ R (Itl X.K a) H) ∨ (∃ a, x = .ref a ∧ (∃ xs, SqT X.K H a xs) ∧ R (Itt X.K a) H) ∨ (∃ z, x = .str z ∧ R (Its z) H)) hl ?_) ?_
  · intro pins s σ H x v R I rx h
    rcases h with h | h | h
    · exact ir_list pins s σ H x v R I rx h
    · exact ir_tup pins s σ H x v R I rx h
    · exact ir_str pins s σ H x v R I rx h
  · rintro σ H R ⟨δ, S, Q0, hr, hs, h, hq⟩
    refine ⟨δ, S, _, hr, hs, h, fun d S1 v H1 h1 r1 s1 a1 => ?_⟩
    have gen : (match seqOf S1 d with
      | some xs => Q0 xs (fun S' => seqOf S' d = some xs) S1
      | none => False) → (∃ a, v = .ref a ∧ (∃ xs, SqL X.K H1 a xs) ∧ R (Itl X.K a) H1) ∨ (∃ a, v = .ref a ∧ (∃ xs, SqT X.K H1 a xs) ∧ R (Itt X.K a) H1) ∨ (∃ z, v = .str z ∧ R (Its z) H1) := fun h => by
      split at h
      · rename_i xs e
        cases d with
        | tup ys =>
          cases e
          cases r1 with
          | tup q rr => exact .inr (.inl ⟨_, rfl, ⟨_, q⟩, hq _ _ _ _ _ h s1 a1 (jok_tup' q rr)⟩)
        | fl ys =>
          cases e
          cases r1 with
          | fl q rr => exact .inl ⟨_, rfl, ⟨_, q.sq⟩, hq _ _ _ _ _ h s1 a1 (jok_list (stay_list (.fl q rr) fun _ z => nomatch z))⟩
        | ref b =>
          cases r1
          obtain ⟨c, vs, e1, hv, rr⟩ := seq_of s1 (.ref b) e
          cases e1
          obtain ⟨ws, k1, k2⟩ := stay_list (.ref b) (fun _ z => nomatch z) S1 H1 (.refl _) s1 e
          exact .inl ⟨_, rfl, ⟨_, k1⟩, hq _ _ _ _ _ h s1 a1 (jok_list (stay_list (.ref b) fun _ z => nomatch z))⟩
        | _ => cases e
      · exact h.elim
    cases d with
    | str z => cases r1; exact .inr (.inr ⟨z, rfl, hq _ _ _ _ _ h1 s1 a1 jok_str⟩)
    | _ => exact gen h1
/-- range -/
def rngL (lo : Int) (n : Nat) : List D := (List.range n).map fun i => D.int (lo + (i : Nat))
def dRng1 (t : DA) : DI := fun δ S Q => t δ S fun ds S1 => match ds with
  | [.int j] => (-(2 ^ 62) ≤ j ∧ j < 2 ^ 62) ∧ Q (rngL 0 j.toNat) (fun _ => True) S1
  | _ => False
def dRng2 (t : DA) : DI := fun δ S Q => t δ S fun ds S1 => match ds with
  | [.int i, .int j] => (-(2 ^ 62) ≤ i ∧ i < 2 ^ 62 ∧ -(2 ^ 62) ≤ j ∧ j < 2 ^ 62) ∧ Q (rngL i (j - i).toNat) (fun _ => True) S1
  | _ => False
theorem jok_rng {K : FW} {H0 : Hp} {lo : Int} {n : Nat} {stay : DS → Prop} : JOk K H0 (rngL lo n) stay (Itr lo n) := by
  intro i S H p hs st
  refine ⟨fun hi => by rw [rngL, List.length_map, List.length_range] at hi; exact hi, fun d hd => ?_⟩
  rw [rngL, List.getElem?_map] at hd
  obtain ⟨c, h1, h2⟩ := Option.map_eq_some_iff.mp hd
  subst h2
  obtain ⟨h3, h4⟩ := List.getElem?_eq_some_iff.mp h1
  rw [List.length_range] at h3
  rw [List.getElem_range] at h4
  subst h4
  refine ⟨h3, fun x H' ⟨e, e3⟩ => ?_⟩
  subst e e3
  exact ⟨.int _, hs, .refl _ _⟩
theorem qi_range1 {a : Expr} {t : DA} {p pos : Pos} (hg : Gl X "range") (hm : X.mg "range" = none) (ha : PA X [a] (liftA (xfw X tbl) t)) (hs : starEach [a] X.env = [(false, eval a X.env)] := by rfl) : PI X tg (.Call (.Name "range" p) [a] [] pos) (liftI (xfw X tbl) (dRng1 t)) :=
  PI.imp (pi_range1 hg hm ha hs) fun σ H R ⟨δ, S, Q0, hr, hs, h, hq⟩ => ⟨δ, S, _, hr, hs, h, fun ds S1 vs H1 h1 r1 s1 a1 => by
    match ds, h1, r1 with
    | [.int j], h1, r1 =>
      obtain ⟨v, rfl, rd⟩ := r1.one
      cases rd
      exact ⟨j, rfl, h1.1.1, h1.1.2, hq _ _ _ _ _ h1.2 s1 a1 jok_rng⟩⟩
theorem qi_range2 {a b : Expr} {t : DA} {p pos : Pos} (hg : Gl X "range") (hm : X.mg "range" = none) (ha : PA X [a, b] (liftA (xfw X tbl) t)) (hs : starEach [a, b] X.env = [(false, eval a X.env), (false, eval b X.env)] := by rfl) (hs2 : starEach [b] X.env = [(false, eval b X.env)] := by rfl) :
    PI X tg (.Call (.Name "range" p) [a, b] [] pos) (liftI (xfw X tbl) (dRng2 t)) :=
  PI.imp (pi_range2 hg hm ha hs hs2) fun σ H R ⟨δ, S, Q0, hr, hs, h, hq⟩ => ⟨δ, S, _, hr, hs, h, fun ds S1 vs H1 h1 r1 s1 a1 => by
    match ds, h1, r1 with
    | [.int i, .int j], h1, r1 =>
      obtain ⟨v, w, rfl, rd, re⟩ := r1.two
      cases rd
      cases re
      exact ⟨i, j, rfl, h1.1, hq _ _ _ _ _ h1.2 s1 a1 jok_rng⟩⟩
/-- reversed(x) of a list or a tuple -/
def dRev (te : DE) : DI := fun δ S Q => te δ S fun x S1 => match seqOf S1 x with
  | some xs => Q xs.reverse (fun S' => seqOf S' x = some xs) S1
  | none => False
theorem rev_get {α : Type} {xs : List α} {i : Nat} {x : α} (h : xs.reverse[i]? = some x) : i < xs.length ∧ xs[xs.length - 1 - i]? = some x := by
  have hi : i < xs.length := by
    have := (List.getElem?_eq_some_iff.mp h).1
    rwa [List.length_reverse] at this
  rw [List.getElem?_reverse hi] at h
  exact ⟨hi, h⟩
theorem jok_rev {K : FW} {H0 : Hp} {a : Addr} {xs : List D} {n : Nat} {stay : DS → Prop} (hn : n = xs.length) (h : ∀ S H, Prs H0 H → Sim K S H → stay S → ∃ vs, SqL K H a vs ∧ RvL K H xs vs) : JOk K H0 xs.reverse stay (Itv K a n) := by
  subst hn
  intro i S H p hs st
  obtain ⟨vs, h1, r⟩ := h S H p hs st
  refine ⟨fun hi => by rw [List.length_reverse] at hi; exact hi, fun d hd => ?_⟩
  obtain ⟨hi, hd⟩ := rev_get hd
  obtain ⟨v, h2, h3⟩ := r.get hd
  refine ⟨⟨hi, vs, v, h1, h2⟩, fun x H' ⟨e, y⟩ => ?_⟩
  subst e
  have := y vs h1
  rw [h2] at this
  cases this
  exact ⟨h3, hs, .refl _ _⟩
theorem jok_revT {K : FW} {H0 : Hp} {a : Addr} {xs : List D} {vs : List V} {n : Nat} {stay : DS → Prop} (hn : n = xs.length) (h1 : SqT K H0 a vs) (r : RvL K H0 xs vs) : JOk K H0 xs.reverse stay (RT.ItvT K a n) := by
  subst hn
  intro i S H p hs st
  refine ⟨fun hi => by rw [List.length_reverse] at hi; exact hi, fun d hd => ?_⟩
  obtain ⟨hi, hd⟩ := rev_get hd
  obtain ⟨v, h2, h3⟩ := r.get hd
  refine ⟨⟨hi, vs, v, p.sqT h1, h2⟩, fun x H' ⟨e, y⟩ => ?_⟩
  subst e
  have := y vs (p.sqT h1)
  rw [h2] at this
  cases this
  exact ⟨p.rv h3, hs, .refl _ _⟩
theorem qi_rev {e : Expr} {te : DE} {p pos : Pos} (hg : Gl X "reversed") (hm : X.mg "reversed" = none) (he : PE X e (liftE (xfw X tbl) te)) (hs : starEach [e] X.env = (false, eval e X.env) :: starEach [] X.env := by rfl) : PI X tg (.Call (.Name "reversed" p) [e] [] pos) (liftI (xfw X tbl) (dRev te)) :=
  PI.imp (RT.pi_revA hg hm he hs) fun σ H R ⟨δ, S, Q0, hr, hs, h, hq⟩ => ⟨δ, S, _, hr, hs, h, fun d S1 v H1 h1 r1 s1 a1 => by
    have h1' : (match seqOf S1 d with
      | some xs => Q0 xs.reverse (fun S' => seqOf S' d = some xs) S1
      | none => False) := h1
    split at h1'
    · rename_i xs e
      cases d with
      | tup ys =>
        cases e
        cases r1 with
        | tup q rr => exact ⟨_, _, rfl, .inr ⟨q, hq _ _ _ _ _ h1' s1 a1 (jok_revT rr.length.symm q rr)⟩⟩
      | fl ys =>
        cases e
        cases r1 with
        | fl q rr => exact ⟨_, _, rfl, .inl ⟨q.sq, hq _ _ _ _ _ h1' s1 a1 (jok_rev rr.length.symm (stay_list (.fl q rr) fun _ z => nomatch z))⟩⟩
      | ref b =>
        cases r1
        obtain ⟨ws, k1, k2⟩ := stay_list (.ref b) (fun _ z => nomatch z) S1 H1 (.refl _) s1 e
        exact ⟨_, ws, rfl, .inl ⟨k1, hq _ _ _ _ _ h1' s1 a1 (jok_rev k2.length.symm (stay_list (.ref b) fun _ z => nomatch z))⟩⟩
      | _ => cases e
    · exact h1'.elim⟩
/-- enumerate(x) of a list -/
def numL (xs : List D) : List D := (List.range xs.length).map fun i => D.tup [.int (i : Nat), (xs[i]?).getD .non]
def dEnum0 (t : DA) : DI := fun δ S Q => t δ S fun ds S1 => match ds with
  | [x] => match lstOf S1 x with
    | some xs => Q (numL xs) (fun S' => lstOf S' x = some xs) S1
    | none => False
  | _ => False
theorem numL_get {xs : List D} {i : Nat} {d : D} (h : (numL xs)[i]? = some d) : ∃ x, xs[i]? = some x ∧ d = .tup [.int (i : Nat), x] := by
  rw [numL, List.getElem?_map] at h
  obtain ⟨c, h1, h2⟩ := Option.map_eq_some_iff.mp h
  obtain ⟨h3, h4⟩ := List.getElem?_eq_some_iff.mp h1
  rw [List.length_range] at h3
  rw [List.getElem_range] at h4
  subst h4
  rw [List.getElem?_eq_getElem h3] at h2
  exact ⟨_, List.getElem?_eq_getElem h3, h2.symm⟩
theorem jok_enum {K : FW} {H0 : Hp} {a : Addr} {xs : List D} {stay : DS → Prop} (h : ∀ S H, Prs H0 H → Sim K S H → stay S → ∃ vs, SqL K H a vs ∧ RvL K H xs vs) : JOk K H0 (numL xs) stay (Ite K a) := by
  intro i S H p hs st
  obtain ⟨vs, h1, r⟩ := h S H p hs st
  refine ⟨fun hi => ⟨vs, h1, by rw [← r.length]; rw [numL, List.length_map, List.length_range] at hi; exact hi⟩, fun d hd => ?_⟩
  obtain ⟨x, hx, rfl⟩ := numL_get hd
  obtain ⟨v, h2, h3⟩ := r.get hx
  refine ⟨⟨vs, v, h1, h2⟩, fun x' H' ⟨T, y, e1, e2, e3, e4⟩ => ?_⟩
  have := e4 vs h1
  rw [h2] at this
  cases this
  subst e1 e3
  exact ⟨.tup (.inl (.inl upd_same)) (.cons (.int _) (.cons ((Stp.laid (S := S) e2).rv h3) .nil)), hs.laid e2, Stp.laid e2⟩
theorem lst_seq {S : DS} {d : D} {xs : List D} (h : lstOf S d = some xs) : seqOf S d = some xs ∧ ∀ ys, d ≠ .tup ys := by
  cases d with
  | ref a => exact ⟨h, fun _ z => nomatch z⟩
  | fl a => exact ⟨h, fun _ z => nomatch z⟩
  | _ => cases h
theorem stay_lst {K : FW} {H0 : Hp} {a : Addr} {d : D} {xs : List D} (hr : Rv K H0 d (.ref a)) : ∀ S H, Prs H0 H → Sim K S H → lstOf S d = some xs → ∃ vs, SqL K H a vs ∧ RvL K H xs vs :=
  fun S H p hs e => stay_list hr (lst_seq e).2 S H p hs (lst_seq e).1
theorem qi_enum0 {e : Expr} {t : DA} {p pos tpos : Pos} {elts : List Expr} {kk : Nat} (hg : Gl X "enumerate") (hm : X.mg "enumerate" = none) (ha : PA X [e] (liftA (xfw X tbl) t)) (hs : starEach [e] X.env = [(false, eval e X.env)] := by rfl) :
    PI X (.Tuple elts kk tpos) (.Call (.Name "enumerate" p) [e] [] pos) (liftI (xfw X tbl) (dEnum0 t)) :=
  PI.imp (pi_enum hg hm ha hs) fun σ H R ⟨δ, S, Q0, hr, hs, h, hq⟩ => ⟨δ, S, _, hr, hs, h, fun ds S1 vs H1 h1 r1 s1 a1 => by
    match ds, h1, r1 with
    | [x], h1, r1 =>
      obtain ⟨v, rfl, rd⟩ := r1.one
      have h1' : (match lstOf S1 x with
        | some xs => Q0 (numL xs) (fun S' => lstOf S' x = some xs) S1
        | none => False) := h1
      split at h1'
      · rename_i xs e
        obtain ⟨a, ws, rfl, hv, rr⟩ := lst_of s1 rd e
        exact ⟨a, ws, rfl, hv, hq _ _ _ _ _ h1' s1 a1 (jok_enum (stay_lst rd))⟩
      · exact h1'.elim⟩
end
structure FnD where
  np : Nat
  nl : Nat
  body : (Nat → DF) → DSt
def runF (f : FnD) (c : Nat → DF) : DF := fun ds S Q => ds.length = f.np ∧ f.body c { nx := fun _ S' => Q .non S', rt := Q, bk := fun _ _ => False, ct := fun _ _ => False } (ds.map some ++ List.replicate (f.nl - f.np) none) S
def sem (fs : Nat → FnD) : Nat → Nat → DF
  | 0, _ => fun _ _ _ => False
  | n + 1, i => runF (fs i) (sem fs n)
theorem sem_len {fs : Nat → FnD} {n i : Nat} (ds : List D) (S : DS) (Q : DK) (h : sem fs n i ds S Q) : ds.length = (fs i).np := by
  cases n with
  | zero => exact h.elim
  | succ n => exact h.1
section
variable {P : Program} {w : World} {K : PySem.W.Frag} {mg : Str → Option Value} {base : Heap}
theorem FnOk.zero {f : Addr} {fd : FuncData} {ps : List Str} {fs : Nat → FnD} {i : Nat} {tbl : Tbl} (hn : ps.length = (fs i).np) : FnOk P w K mg base CX0 (4 * 0) f fd ps (liftF ⟨K, w, tbl⟩ (fs i).np (sem fs 0 i)) :=
  ⟨fun vs H Q E h => by rw [h.1, hn], fun A outer s H args us vs Q E hr e0 hb hv hsp => by obtain ⟨_, _, _, _, _, _, h, _⟩ := hsp; exact h.elim⟩
theorem rst_start {K : FW} {H : Hp} {N : List Str} {ds : List D} {vs : List V} (r : RvL K H ds vs) {m : Nat} (hm : m = N.length - vs.length) : Rst K H (ds.map some ++ List.replicate m none) (L2.start N vs) := by
  subst hm
  unfold L2.start
  refine ⟨by simp [r.length], fun i d h => ?_⟩
  by_cases hi : i < ds.length
  · rw [List.getElem?_append_left (by simpa using hi), List.getElem?_map] at h
    obtain ⟨x, h1, h2⟩ := Option.map_eq_some_iff.mp h
    cases h2
    obtain ⟨v, h3, h4⟩ := r.get h1
    have hv : i < vs.length := by rw [← r.length]; exact hi
    exact ⟨v, by rw [List.getElem?_append_left (by simpa using hv), List.getElem?_map, h3]; rfl, h4⟩
  · rw [List.getElem?_append_right (by simpa using hi), List.getElem?_replicate] at h
    split at h <;> cases h
/-- one def: its body's walk at every context -/
theorem fn_ok {x qual : Str} {st : Stmt} {f : Addr} {fd : FuncData} {N ps : List Str} {n : Nat} {fs : Nat → FnD} {i : Nat} {tbl : Tbl} (F : Fun K x qual st f fd) (Sc : FnScope N ps (defScope st)) (hn : ps.length = (fs i).np) (hl : N.length = (fs i).nl)
    (hbody : ∀ (cdv : Value) (A : Around) (outer : List Env) (s : Shared) (H : Hp) (E : XK), Room (4 * n + 3) (A.deeper (envOfC qual (defScope st) s.heap.objs.size f cdv)) →
      PSs (cxOf CX0 P w K mg base N qual (defScope st) f cdv A outer s H E).nox (defBody st) (liftS ⟨K, w, tbl⟩ ((fs i).body (sem fs n)))) :
    FnOk P w K mg base CX0 (4 * (n + 1)) f fd ps (liftF ⟨K, w, tbl⟩ (fs i).np (sem fs (n + 1) i)) := by
  refine F.ok (k := 4 * n + 3) Sc (fun vs H Q E h => by rw [h.1, hn]) (fun cdv A outer s H vs Q E hr h => ?_)
  obtain ⟨hlen, ds, S, Q0, rv, hs, hc, hq⟩ := h
  refine ⟨_, hbody cdv A outer s H E hr, ?_⟩
  refine ⟨_, S, _, rst_start rv (m := (fs i).nl - (fs i).np) (by rw [hl, hlen]), hs, hc.2, ⟨fun δ S' σ H' h r x a => hq _ _ _ _ h .non x a, fun d S' v H' h r x a => hq _ _ _ _ h r x a, fun _ _ _ _ h => h.elim, fun _ _ _ _ h => h.elim⟩⟩
end
end DL
namespace DL
open PySem PySem.Spec PyProof.Rows L2 LamX
section
variable {X : Cx} {tbl : Tbl} {a b c : Expr} {ta tb tc : DE} {pos : Pos}
theorem qe_chain {op op' : CmpOp} {r r' : DR2} (ho : OpR X (compareOp op) (liftO (xfw X tbl) r)) (ho' : OpR X (compareOp op') (liftO (xfw X tbl) r')) (ha : PE X a (liftE (xfw X tbl) ta)) (hb : PE X b (liftE (xfw X tbl) tb)) (hc : PE X c (liftE (xfw X tbl) tc))
    (hm : lastMarks [op, op'] [b, c] = false := by with_unfolding_all rfl) : PE X (.Compare a [op, op'] [b, c] pos) (liftE (xfw X tbl) (dChain r r' ta tb tc)) := PE.imp (pe_chain ho ho' ha hb hc hm) lift_chain
theorem qt_chain {op op' : CmpOp} {r r' : DR2} (ho : OpR X (compareOp op) (liftO (xfw X tbl) r)) (ho' : OpR X (compareOp op') (liftO (xfw X tbl) r')) (ha : PE X a (liftE (xfw X tbl) ta)) (hb : PE X b (liftE (xfw X tbl) tb)) (hc : PE X c (liftE (xfw X tbl) tc))
    (hm : lastMarks [op, op'] [b, c] = false := by with_unfolding_all rfl) : PT X (.Compare a [op, op'] [b, c] pos) (liftT (xfw X tbl) (dTb (dChain r r' ta tb tc))) :=
  PT.imp (pt_chain ho ho' ha hb hc hm) fun σ H Q ⟨δ, S, Q0, hr, hs, h, hq⟩ => lift_chain σ H _ ⟨δ, S, _, hr, hs, h, fun d S' v H' q r s a => by
    cases d with
    | bl k => cases r; exact ⟨k, rfl, hq k S' H' q s a⟩
    | _ => exact q.elim⟩
def dPar (i j : Nat) (t : DA) : DSt := fun D δ S => t δ S fun ds S1 => match ds with
  | [d, e] => D.nx ((δ.set i (some d)).set j (some e)) S1
  | _ => False
theorem qs_par {i j : Nat} {x y : Str} {a b : Expr} {t : DA} {px py pt : Pos} {kt k2 pt2} (hc : X.calm = true) (hN : X.N.Nodup) (hi : X.N[i]? = some x) (hj : X.N[j]? = some y) (hij : i ≠ j)
    (hx : X.env.scope.names.lookup x = some .local) (hy : X.env.scope.names.lookup y = some .local) (ha : PA X [a, b] (liftA (xfw X tbl) t))
    (hw : swappedStores [.Tuple [.Name x px, .Name y py] kt pt] (.Tuple [a, b] k2 pt2) X.env = pure (some [x, y]))
    (hs : swapsWithSole [.Tuple [.Name x px, .Name y py] kt pt] (.Tuple [a, b] k2 pt2) pos.line X.env = pure false := by rfl) :
    PS X (.Assign [.Tuple [.Name x px, .Name y py] kt pt] (.Tuple [a, b] k2 pt2) pos) (liftS (xfw X tbl) (dPar i j t)) :=
  PS.imp (ps_par hc hN hi hj hij hx hy ha hw hs) fun E σ H ⟨δ, S, D0, hr, hsim, h, cv⟩ => ⟨δ, S, _, hr, hsim, h, fun ds S1 vs H1 h1 r1 s1 a1 => by
    match ds, h1, r1 with
    | [d, e], h1, r1 =>
      obtain ⟨v, w, rfl, rd, re⟩ := r1.two
      exact ⟨v, w, rfl, cv.nx _ S1 _ H1 h1 (((hr.stp a1).set rd).set re) s1 a1⟩⟩
/-- a constant of the module -/
def GlobD (K : PySem.W.Frag) (mg : Str → Option Value) (x : Str) (d : D) : Prop := ∃ u v, mg x = some u ∧ RelV v u ∧ ∀ w tbl H, Rv ⟨K, w, tbl⟩ H d v
theorem qe_glob {x : Str} {d : D} (g : GlobD X.K X.mg x d) (hg : Gl X x) (hd : (x == ("__debug__" : Str)) = false := by decide) : PE X (.Name x pos) (liftE (xfw X tbl) (dC d)) := by
  obtain ⟨u, v, h1, h2, h3⟩ := g
  exact qe_const (pe_glob hg h1 h2 hd) (h3 _ _)
theorem qe_ty {x : Str} {n : String} (hg : Gl X x) (hm : X.mg x = none) (hv : bootBuiltins x = some (.type n)) (hn : x ≠ "__name__" := by decide) (hd : (x == ("__debug__" : Str)) = false := by decide) : PE X (.Name x pos) (liftE (xfw X tbl) (dC (.ty n))) :=
  qe_const (pe_bltn (v := .ty n) hg hm hv rfl hn hd) fun _ => .ty n
theorem hu100 {k : Nat} {A : Around} (h : Room k A) : A.units + 100 < cLine := by have := h.un; omega
theorem okb {N : List Str} {sc scope : Scope} {own : List (Str × Nat)} (h : blkC N sc scope own = true) : blkC N sc scope own = true := h
end
section
/-- a call's room -/
theorem rm4 {n : Nat} {A : Around} (h : Room (4 * n + 3) A) : Room (4 * n) A := h.mono (by omega)
/-- .. from within a built-in that was called -/
theorem rm4i {n : Nat} {A : Around} (h : Room (4 * n + 3) A) : Room (4 * n + 2) A.in1 ∧ Room (4 * n + 1) A.in1.in1 := ⟨Room.in1 h, (show Room (4 * n + 1 + 1) A.in1 from Room.in1 h).in1⟩
end
end DL
namespace DL
open PySem PySem.Spec PyProof.Rows L2 LamX
section
variable {prog : Program} {w : World} {A : Around} {E : Value → Shared → Prop} {s : Shared}
theorem places_rev (n : Nat) : Builtin.Slice.slicePlaces ((n : Int) - 1) (-1) (-1) = n := by
  unfold Builtin.Slice.slicePlaces
  rw [if_neg (by decide)]
  by_cases h : (n : Int) - 1 > -1
  · rw [if_pos h, show -(-1 : Int) = 1 by decide, Int.ediv_one]; omega
  · rw [if_neg h]; omega
theorem sliceApplied_rev {sl : Addr} {vs : Value} {n : Nat} {Q : Int × Int × Nat → Shared → Prop} (hs : s.heap.IsSliceOf sl .none .none vs) (ps : IsPart vs (some (-1)))
    (h : Q ((n : Int) - 1, -1, n) s) : wpAny (model prog w) A (Builtin.Slice.sliceApplied (.ref sl) (pure (n : Int))) Q E s := by
  obtain ⟨os, hos, hcs, hds⟩ := id hs
  unfold Builtin.Slice.sliceApplied Builtin.Slice.sliceFields
  refine wpAny_bind (wpAny_bind (wpAny_field hos hds (x := .none) rfl (wpAny_bind (wpAny_field hos hds (x := .none) rfl (wpAny_bind (wpAny_field hos hds (x := vs) rfl (wpAny_pure ?_)))))))
  refine wpAny_bind (HT.slicePart_ ps ?_)
  show wpAny _ _ (if ((-1 : Int) == 0) = true then _ else _) _ _ s
  rw [if_neg (by decide)]
  refine wpAny_bind (slicePart_none (wpAny_bind (slicePart_none (wpAny_bind (wpAny_pure ?_)))))
  show wpAny _ _ (pure ((n : Int) - 1, (-1 : Int), Builtin.Slice.slicePlaces ((n : Int) - 1) (-1) (-1))) _ _ s
  rw [places_rev]
  exact wpAny_pure h
theorem pick_rev (xs : Array Value) : ((List.range xs.size).filterMap fun (m : Nat) => xs[((xs.size : Int) - 1 + (m : Int) * -1).toNat]?).toArray = xs.toList.reverse.toArray := by
  congr 1
  apply List.ext_getElem?
  intro i
  have e : ∀ m ∈ List.range xs.size, xs[((xs.size : Int) - 1 + (m : Int) * -1).toNat]? = some (xs.getD (xs.size - 1 - m) .none) := by
    intro m hm
    rw [List.mem_range] at hm
    rw [show ((xs.size : Int) - 1 + (m : Int) * -1).toNat = xs.size - 1 - m by omega]
    rw [Array.getElem?_eq_getElem (by omega)]
    simp [Array.getD, show xs.size - 1 - m < xs.size by omega]
  have e2 : (List.range xs.size).filterMap (fun (m : Nat) => xs[((xs.size : Int) - 1 + (m : Int) * -1).toNat]?) = (List.range xs.size).map fun m => xs.getD (xs.size - 1 - m) .none := by
    rw [← List.filterMap_eq_map]
    generalize List.range xs.size = l at e
    induction l with
    | nil => rfl
    | cons a r ih => simp only [List.filterMap_cons, e a (List.mem_cons_self ..), ih fun m hm => e m (List.mem_cons_of_mem _ hm), Function.comp]
  rw [e2, List.getElem?_map]
  by_cases h : i < xs.size
  · rw [List.getElem?_range h, List.getElem?_reverse (by rw [Array.length_toList]; exact h), Array.length_toList, Array.getElem?_toList, Array.getElem?_eq_getElem (by omega)]
    simp [Array.getD, show xs.size - 1 - i < xs.size by omega]
  · rw [List.getElem?_eq_none (by rw [List.length_range]; omega), List.getElem?_eq_none (by rw [List.length_reverse, Array.length_toList]; omega)]; rfl
theorem getItem_tuple_rev {t sl : Addr} {items : Array Value} {vs : Value} {Q : Value → Shared → Prop} (ht : IsTup s.heap t items) (hs : s.heap.IsSliceOf sl .none .none vs) (ps : IsPart vs (some (-1)))
    (h : Q (.ref s.heap.objs.size) { s with heap := s.heap.push { cls := .type "tuple", data := .seq items.toList.reverse.toArray } })
    (hsz : items.size ≤ sizeLine) : wpAny (model prog w) A (getItem (.ref t) (.ref sl)) Q E s := by
  have htake : sizeOk (.seq items.toList.reverse.toArray) := by
    show items.toList.reverse.toArray.size ≤ sizeLine
    rw [List.size_toArray, List.length_reverse, Array.length_toList]
    omega
  obtain ⟨os, hos, hcs, hds⟩ := id hs
  have hTs : s.TypeIs (.ref sl) "slice" := ⟨os, hos, hcs⟩
  unfold getItem
  try with_reducible refine wpAny_holding ?_
  first | refine wpAny_bind (wpAny_pure ?_) | skip
  refine wpAny_bind (wpAny_sequenceKey ht.typeIs (by decide) ?_)
  refine wpAny_bind (wpAny_callSpecial?_slot (name := Str.ofString "__getitem__") ht.typeIs PyProof.Rows.slot_tuple_getitem
    (wpAny_call_entry PyProof.Rows.slot_tuple_getitem ht.typeIs entry_tuple_getitem ?_ (args_tuple_getitem _ _)))
  show wpAny _ _ (Builtin.Tuple.tupleItemsOf (.ref t) >>= _) _ _ s
  refine wpAny_bind (tupleItemsOf_ ht ?_)
  refine wpAny_bind (wpAny_typeOf hTs ?_)
  rw [if_pos (by decide)]
  refine wpAny_bind (sliceApplied_rev (n := items.size) hs ps ?_)
  have hno : ¬ (((((items.size : Nat) : Int) - 1) == 0 && (-1 : Int) == 1 && items.size == items.size) = true) := by
    rw [show ((-1 : Int) == 1) = false by decide, Bool.and_false, Bool.false_and]; exact Bool.false_ne_true
  show wpAny _ _ (if ((((items.size : Nat) : Int) - 1) == 0 && (-1 : Int) == 1 && items.size == items.size) = true then _ else _) _ _ s
  rw [if_neg hno, pick_rev]
  first
    | exact wpAny_bind (m := Builtin.Tuple.tupleExact _) (wpAny_newObj_type (wpAny_pure ⟨_, rfl, wpAny_pure h⟩) htake)
    | exact wpAny_bind (m := Builtin.Tuple.tupleExact _) (wpAny_newObj_type (wpAny_bind (wpAny_pure (wpAny_pure ⟨_, rfl, wpAny_pure h⟩))) htake)
    | exact wpAny_bind (wpAny_bind (m := Builtin.Tuple.tupleExact _) (wpAny_newObj_type (wpAny_pure (wpAny_pure ⟨_, rfl, wpAny_pure h⟩)) htake))
    | exact wpAny_bind (wpAny_bind (m := Builtin.Tuple.tupleExact _) (wpAny_newObj_type (wpAny_pure ⟨_, rfl, wpAny_pure h⟩) htake))
end
section
variable {X : Cx} {tbl : Tbl} {e : Expr} {te : DE}
/-- x[::-1] of a list or a tuple -/
def dRvS (te : DE) : DE := fun δ S Q => te δ S fun x S1 => match x with
  | .tup xs => Q (.tup xs.reverse) S1
  | x => match lstOf S1 x with
    | some xs => ∀ p, S1 p = none → Q (.ref p) (dupd S1 p (.lst xs.reverse))
    | none => False
def tRevA (K : FW) (te : TE) : TE := fun σ H Q => te σ H fun x H1 => ∃ a xs, x = .ref a ∧ ((SqL K H1 a xs ∧ ∀ p, H1 p = none → Q (.ref p) (upd H1 p (.lst xs.reverse))) ∨ (SqT K H1 a xs ∧ ∀ p, H1 p = none → Q (.ref p) (upd H1 p (.tup xs.reverse))))
theorem pe_revA {te : TE} {k : Nat} {p1 p2 p3 pos : Pos} (he : PE X e te) : PE X (.Subscript e (.Slice none none (some (.UnaryOp .USub (.Constant (.int 1) k p1) p2)) p3) pos) (tRevA (xfw X tbl) te) := by
  refine ⟨fun pins s σ H Q I h => ?_⟩
  refine Subscript_ (thn (he.run pins s σ H _ I h) fun v s1 ⟨x, H1, I1, r1, q1⟩ => ?_)
  obtain ⟨a, xs, ex, hx⟩ := q1
  subst ex
  cases r1
  have hst : PO X (some (.UnaryOp .USub (.Constant (.int 1) k p1) p2)) (tPart (tUn (rU fun i => .int (-i)) (tC (.int 1)))) := po_some (pe_un un_neg pe_int)
  refine wpAny_Slice (thn (po_none.run pins s1 σ H1 (fun o H2 => o = none ∧ H2 = H1) I1 ⟨rfl, rfl⟩) fun vl s2 ⟨l, H2, I2, pl, el, e2⟩ => ?_)
  subst el e2
  refine thn (po_none.run pins s2 σ H2 (fun o H3 => o = none ∧ H3 = H2) I2 ⟨rfl, rfl⟩) fun vu s3 ⟨u, H3, I3, pu, eu, e3⟩ => ?_
  subst eu e3
  refine thn (hst.run pins s3 σ H3 (fun o H4 => o = some (-1) ∧ H4 = H3) I3 ⟨1, rfl, -1, rfl, rfl, rfl⟩) fun vs s4 ⟨o, H4, I4, ps, eo, e4⟩ => ?_
  subst eo e4
  have I5 : Inv X pins σ H4 { s4 with heap := s4.heap.push { cls := .type "slice", data := .fields #[vl, vu, vs] } } := I4.kept (t' := s4.toks) fun b ob q => Heap.get?_push_of_some _ q
  rcases hx with ⟨hx, q⟩ | ⟨hx, q⟩
  · obtain ⟨its, r, ht, hz⟩ := I5.list hx
    have hlen := r.length
    show wpAny (model X.prog X.w) X.A (subscriptTail e (.Slice none none (some (.UnaryOp .USub (.Constant (.int 1) k p1) p2)) p3) (.ref a) (.ref s4.heap.objs.size)) (EP X pins σ Q) X.xe { s4 with heap := s4.heap.push { cls := .type "slice", data := .fields #[vl, vu, vs] } }
    refine tail_any (ops := [.ref a, .ref s4.heap.objs.size]) ht.isList.typeIs (PySem.slot_list_getitem.lookup) ?_ (by with_unfolding_all rfl)
    refine wpAny_getItem_list_slice ht.isList (Heap.IsSliceOf.new _ vl vu vs) pl pu ps (by decide) ?_ (by rw [List.size_toArray]; omega)
    rw [PySem.W.krv_pick]
    refine ⟨.ref _, _, I5.laid (t' := s4.toks) (o := .lst xs.reverse) (fun b ob q => Heap.get?_push_of_some _ q) (Nat.le_refl _) ?_, rfl, q _ (I5.hok.fresh (Nat.le_refl _))⟩
    exact ⟨by rw [List.length_reverse]; exact hz, _, 0, r.reverse, Heap.get?_push_size _ rfl⟩
  · obtain ⟨its, r, ht, hz⟩ := I5.tuple hx
    have hlen := r.length
    show wpAny (model X.prog X.w) X.A (subscriptTail e (.Slice none none (some (.UnaryOp .USub (.Constant (.int 1) k p1) p2)) p3) (.ref a) (.ref s4.heap.objs.size)) (EP X pins σ Q) X.xe { s4 with heap := s4.heap.push { cls := .type "slice", data := .fields #[vl, vu, vs] } }
    refine tail_any (ops := [.ref a, .ref s4.heap.objs.size]) ht.typeIs (PyProof.Rows.slot_tuple_getitem.lookup) ?_ (by with_unfolding_all rfl)
    cases pl
    cases pu
    refine getItem_tuple_rev ht (Heap.IsSliceOf.new _ .none .none vs) ps ?_ (by rw [List.size_toArray]; omega)
    refine ⟨.ref _, _, I5.laid (t' := s4.toks) (o := .tup xs.reverse) (fun b ob q => Heap.get?_push_of_some _ q) (Nat.le_refl _) ?_, rfl, q _ (I5.hok.fresh (Nat.le_refl _))⟩
    exact ⟨by rw [List.length_reverse]; exact hz, _, r.reverse, IsTup.new _ _⟩
theorem qe_revS {k : Nat} {p1 p2 p3 pos : Pos} (he : PE X e (liftE (xfw X tbl) te)) : PE X (.Subscript e (.Slice none none (some (.UnaryOp .USub (.Constant (.int 1) k p1) p2)) p3) pos) (liftE (xfw X tbl) (dRvS te)) :=
  PE.imp (pe_revA he) fun σ H Q ⟨δ, S, Q0, hr, hs, h, hq⟩ => ⟨δ, S, _, hr, hs, h, fun x S1 v H1 h1 r1 s1 a1 => by
    have lst : ∀ xs, lstOf S1 x = some xs → (∀ p, S1 p = none → Q0 (.ref p) (dupd S1 p (.lst xs.reverse))) → ∃ a ys, v = .ref a ∧ ((SqL X.K H1 a ys ∧ ∀ p, H1 p = none → Q (.ref p) (upd H1 p (.lst ys.reverse))) ∨ (SqT X.K H1 a ys ∧ ∀ p, H1 p = none → Q (.ref p) (upd H1 p (.tup ys.reverse)))) := fun xs e h => by
      obtain ⟨a, vs, rfl, hv, r⟩ := lst_of s1 r1 e
      exact ⟨a, vs, rfl, .inl ⟨hv, fun p hp => hq _ _ _ _ (h p (s1.fresh hp)) (.ref p) (s1.new hp ⟨_, upd_same, (Stp.laid (S := S1) hp).rvl r.reverse⟩) (a1.trans (Stp.new hp))⟩⟩
    cases x with
    | tup xs =>
      cases r1 with
      | @tup a vs _ q r => exact ⟨a, vs, rfl, .inr ⟨q, fun p hp => hq _ _ _ _ h1 (.tup (.inl (.inl upd_same)) ((Stp.laid (S := S1) hp).rvl r.reverse)) (s1.laid hp) (a1.trans (Stp.laid hp))⟩⟩
    | ref a =>
      have h1' : (match lstOf S1 (.ref a) with
        | some xs => ∀ p, S1 p = none → Q0 (.ref p) (dupd S1 p (.lst xs.reverse))
        | none => False) := h1
      split at h1'
      · rename_i xs e; exact lst xs e h1'
      · exact h1'.elim
    | fl xs => exact lst xs rfl h1
    | _ => exact h1.elim⟩
end
def isMax (ns : List Int) (m : Int) : Prop := m ∈ ns ∧ ∀ y ∈ ns, y ≤ m
def isMin (ns : List Int) (m : Int) : Prop := m ∈ ns ∧ ∀ y ∈ ns, m ≤ y
def bMax1 : DRs := fun ds S Q => match ds with
  | [d] => match lstOf S d with
    | some xs => ∃ ns : List Int, xs = ns.map D.int ∧ ns ≠ [] ∧ ∀ m, isMax ns m → Q (.int m) S
    | none => False
  | _ => False
def bMin1 : DRs := fun ds S Q => match ds with
  | [d] => match lstOf S d with
    | some xs => ∃ ns : List Int, xs = ns.map D.int ∧ ns ≠ [] ∧ ∀ m, isMin ns m → Q (.int m) S
    | none => False
  | _ => False
section
variable {X : Cx} {tbl : Tbl}
theorem dcall_max1 (hc : X.calm = true) : CallR X (.builtin "max") (liftC (xfw X tbl) bMax1) := dl_call fun pins s σ H ds xs us S Q Q0 I ru rv hs hr hq => by
  match ds, hr, rv with
  | [d], hr, rv =>
    obtain ⟨v, rfl, rd⟩ := rv.one
    have hr' : (match lstOf S d with
      | some xs => ∃ ns : List Int, xs = ns.map D.int ∧ ns ≠ [] ∧ ∀ m, isMax ns m → Q0 (.int m) S
      | none => False) := hr
    split at hr'
    · rename_i zs e
      obtain ⟨ns, rfl, hn, q⟩ := hr'
      obtain ⟨a, ws, rfl, hv, r⟩ := lst_of hs rd e
      exact cr_max hc pins s σ H _ us Q I ru ⟨a, ns, rfl, by rw [← rvl_ints r]; exact hv, List.length_pos_iff.mpr hn, fun m h1 h2 => hq _ _ _ _ (q m ⟨h1, h2⟩) (.int _) hs (.refl _ _)⟩
    · exact hr'.elim
theorem dcall_min1 (hc : X.calm = true) : CallR X (.builtin "min") (liftC (xfw X tbl) bMin1) := dl_call fun pins s σ H ds xs us S Q Q0 I ru rv hs hr hq => by
  match ds, hr, rv with
  | [d], hr, rv =>
    obtain ⟨v, rfl, rd⟩ := rv.one
    have hr' : (match lstOf S d with
      | some xs => ∃ ns : List Int, xs = ns.map D.int ∧ ns ≠ [] ∧ ∀ m, isMin ns m → Q0 (.int m) S
      | none => False) := hr
    split at hr'
    · rename_i zs e
      obtain ⟨ns, rfl, hn, q⟩ := hr'
      obtain ⟨a, ws, rfl, hv, r⟩ := lst_of hs rd e
      exact cr_min hc pins s σ H _ us Q I ru ⟨a, ns, rfl, by rw [← rvl_ints r]; exact hv, List.length_pos_iff.mpr hn, fun m h1 h2 => hq _ _ _ _ (q m ⟨h1, h2⟩) (.int _) hs (.refl _ _)⟩
    · exact hr'.elim
def fInsert : List D → List D → Option (D × List D) := fun xs ds => match ds with
  | [.int i, y] => if 0 ≤ i ∧ i < 2 ^ 63 then some (.non, xs.take i.toNat ++ [y] ++ xs.drop i.toNat) else none
  | _ => none
theorem dmt_insert : MtR X "list.insert" (liftM (xfw X tbl) (mLst fInsert)) := dl_m fun pins s σ H d ds x xs v us S Q Q0 I rx ru rd rds hs hr hq => by
  obtain ⟨a, zs, r, ys, rfl, ea, ef, hl, q⟩ := mLst_get hr
  match ds, ef, rds with
  | [.int i, y], ef, rds =>
    have ef' : (if 0 ≤ i ∧ i < 2 ^ 63 then some (D.non, zs.take i.toNat ++ [y] ++ zs.drop i.toNat) else none) = some (r, ys) := ef
    split at ef'
    · rename_i hi
      cases ef'
      cases rd
      obtain ⟨w1, w2, rfl, r1, r2⟩ := rds.two
      cases r1
      obtain ⟨vs, h1, rr⟩ := hs.lst ea
      have hlen : zs.length < sizeLine := by
        rw [szl]
        simp only [List.length_append, List.length_take, List.length_drop, List.length_singleton] at hl
        omega
      refine mt_insert pins s σ H _ _ v us Q I rx ru ⟨a, vs, i, w2, rfl, rfl, h1, by rw [← rr.length]; exact hlen, hi.1, hi.2, hq _ _ _ _ q .non (hs.write ea ⟨_, upd_same, ?_⟩) (Stp.write hs ea)⟩
      exact (((rr.take _).append (.cons r2 .nil)).append (rr.drop _)).updL h1
    · cases ef'
abbrev DRg := Loc → DS → (Int → Int → DS → Prop) → Prop
def dRg1 (ta : DE) : DRg := fun δ S Q => ta δ S fun x S1 => match x with
  | .int j => Q 0 j S1
  | _ => False
def dRg2 (ta tb : DE) : DRg := fun δ S Q => ta δ S fun x S1 => tb δ S1 fun y S2 => match x, y with
  | .int i, .int j => Q i j S2
  | _, _ => False
def liftRg (K : FW) (t : DRg) : L2.St → Hp → (Int → Int → Hp → Prop) → Prop := fun σ H Q => ∃ δ S Q0, Rst K H δ σ ∧ Sim K S H ∧ t δ S Q0 ∧ ∀ i j S' H', Q0 i j S' → Sim K S' H' → Stp S H S' H' → Q i j H'
theorem PRg.imp {e : Expr} {t t' : L2.St → Hp → (Int → Int → Hp → Prop) → Prop} (p : PRg X e t) (h : ∀ σ H Q, t' σ H Q → t σ H Q) : PRg X e t' := fun pins s σ H Q I hw => p pins s σ H Q I (h _ _ _ hw)
theorem qr_1 {a : Expr} {ta : DE} {p pos : Pos} (hg : Gl X "range") (hm : X.mg "range" = none) (ha : PE X a (liftE (xfw X tbl) ta)) (na : starEach [a] X.env = (false, eval a X.env) :: starEach [] X.env := by rfl) : PRg X (.Call (.Name "range" p) [a] [] pos) (liftRg (xfw X tbl) (dRg1 ta)) :=
  PRg.imp (prg_1 hg hm ha na) fun σ H Q ⟨δ, S, Q0, hr, hs, h, hq⟩ => ⟨δ, S, _, hr, hs, h, fun d S1 v H1 q r s1 a1 => by
    cases d with
    | int j => cases r; exact ⟨j, rfl, hq _ _ _ _ q s1 a1⟩
    | _ => exact q.elim⟩
theorem qr_2 {a b : Expr} {ta tb : DE} {p pos : Pos} (hg : Gl X "range") (hm : X.mg "range" = none) (ha : PE X a (liftE (xfw X tbl) ta)) (hb : PE X b (liftE (xfw X tbl) tb)) (na : starEach [a, b] X.env = (false, eval a X.env) :: starEach [b] X.env := by rfl)
    (nb : starEach [b] X.env = (false, eval b X.env) :: starEach [] X.env := by rfl) (hp : (backTo pos (starEach [b] X.env)).any (·.1) = false := by rfl) : PRg X (.Call (.Name "range" p) [a, b] [] pos) (liftRg (xfw X tbl) (dRg2 ta tb)) :=
  PRg.imp (prg_2 hg hm ha hb na nb hp) fun σ H Q ⟨δ, S, Q0, hr, hs, h, hq⟩ => ⟨δ, S, _, hr, hs, h, fun d S1 v H1 q r s1 a1 => ⟨δ, S1, _, hr.stp a1, s1, q, fun e S2 u H2 q2 r2 s2 a2 => by
    cases d with
    | int i =>
      cases r
      cases e with
      | int j => cases r2; exact ⟨i, j, rfl, rfl, hq _ _ _ _ q2 s2 (a1.trans a2)⟩
      | _ => exact q2.elim
    | _ => cases e <;> exact q2.elim⟩⟩
theorem rvl_rg {K : FW} {H : Hp} {a b : Int} : RvL K H (rngL a (b - a).toNat) (rgV a b) := by
  unfold rngL rgV
  generalize List.range (b - a).toNat = l
  induction l with
  | nil => exact .nil
  | cons x r ih => exact .cons (.int _) ih
def dLstRg (t : DRg) : DE := fun δ S Q => t δ S fun a b S1 => RgOk a b ∧ ∀ p, S1 p = none → Q (.ref p) (dupd S1 p (.lst (rngL a (b - a).toNat)))
def dTupRg (t : DRg) : DE := fun δ S Q => t δ S fun a b S1 => RgOk a b ∧ Q (.tup (rngL a (b - a).toNat)) S1
theorem qe_listRg {e : Expr} {t : DRg} {p pos : Pos} (hc : X.calm = true) (hg : Gl X "list") (hm : X.mg "list" = none) (he : PRg X e (liftRg (xfw X tbl) t)) (na : starEach [e] X.env = (false, eval e X.env) :: starEach [] X.env := by rfl) : PE X (.Call (.Name "list" p) [e] [] pos) (liftE (xfw X tbl) (dLstRg t)) :=
  PE.imp (pe_listRg hc hg hm he na) fun σ H Q ⟨δ, S, Q0, hr, hs, h, hq⟩ => ⟨δ, S, _, hr, hs, h, fun a b S1 H1 q s1 a1 => ⟨q.1, fun p hp => hq _ _ _ _ (q.2 p (s1.fresh hp)) (.ref p) (s1.new hp ⟨_, upd_same, rvl_rg⟩) (a1.trans (Stp.new hp))⟩⟩
theorem qe_tupRg {e : Expr} {t : DRg} {p pos : Pos} (hc : X.calm = true) (hg : Gl X "tuple") (hm : X.mg "tuple" = none) (he : PRg X e (liftRg (xfw X tbl) t)) (na : starEach [e] X.env = (false, eval e X.env) :: starEach [] X.env := by rfl) : PE X (.Call (.Name "tuple" p) [e] [] pos) (liftE (xfw X tbl) (dTupRg t)) :=
  PE.imp (pe_tupRg hc hg hm he na) fun σ H Q ⟨δ, S, Q0, hr, hs, h, hq⟩ => ⟨δ, S, _, hr, hs, h, fun a b S1 H1 q s1 a1 => ⟨q.1, fun p hp => hq _ _ _ _ q.2 (.tup (.inl (.inl upd_same)) rvl_rg) (s1.laid hp) (a1.trans (Stp.laid hp))⟩⟩
/-- ints with a step -/
def rngC (lo c : Int) (n : Nat) : List D := (List.range n).map fun i => D.int (lo + (i : Nat) * c)
theorem jok_rngC {K : FW} {H0 : Hp} {lo c : Int} {n : Nat} {stay : DS → Prop} : JOk K H0 (rngC lo c n) stay (Itc lo c n) := by
  intro i S H p hs st
  refine ⟨fun hi => by rw [rngC, List.length_map, List.length_range] at hi; exact hi, fun d hd => ?_⟩
  rw [rngC, List.getElem?_map] at hd
  obtain ⟨z, h1, h2⟩ := Option.map_eq_some_iff.mp hd
  subst h2
  obtain ⟨h3, h4⟩ := List.getElem?_eq_some_iff.mp h1
  rw [List.length_range] at h3
  rw [List.getElem_range] at h4
  subst h4
  refine ⟨h3, fun x H' ⟨e, e3⟩ => ?_⟩
  subst e e3
  exact ⟨.int _, hs, .refl _ _⟩
def dRevR (t : DRg) : DI := fun δ S Q => t δ S fun a b S1 => (-(2 ^ 62) ≤ a ∧ a < 2 ^ 62 ∧ -(2 ^ 62) ≤ b ∧ b < 2 ^ 62) ∧ Q (rngC (a + (((b - a).toNat : Nat) : Int) - 1) (-1) (b - a).toNat) (fun _ => True) S1
theorem qi_revR {tg e : Expr} {t : DRg} {p pos : Pos} (hg : Gl X "reversed") (hm : X.mg "reversed" = none) (he : PRg X e (liftRg (xfw X tbl) t)) (hs : starEach [e] X.env = (false, eval e X.env) :: starEach [] X.env := by rfl) : PI X tg (.Call (.Name "reversed" p) [e] [] pos) (liftI (xfw X tbl) (dRevR t)) :=
  PI.imp (pi_revR hg hm he hs) fun σ H R ⟨δ, S, Q0, hr, hs, h, hq⟩ => ⟨δ, S, _, hr, hs, h, fun a b S1 H1 q s1 a1 => ⟨q.1.1, q.1.2.1, q.1.2.2.1, q.1.2.2.2, hq _ _ _ _ _ q.2 s1 a1 jok_rngC⟩⟩
def dRng3 (t : DA) : DI := fun δ S Q => t δ S fun ds S1 => match ds with
  | [.int i, .int j, .int c] => ∃ n, RgC i j c n ∧ Q (rngC i c n) (fun _ => True) S1
  | _ => False
theorem RvL.three {K : FW} {H : Hp} {d e f : D} {vs : List V} (r : RvL K H [d, e, f] vs) : ∃ v w x, vs = [v, w, x] ∧ Rv K H d v ∧ Rv K H e w ∧ Rv K H f x := by
  cases r with
  | cons q rr =>
    obtain ⟨v, w, rfl, r1, r2⟩ := rr.two
    exact ⟨_, v, w, rfl, q, r1, r2⟩
theorem qi_range3 {tg a b c : Expr} {t : DA} {p pos : Pos} (hg : Gl X "range") (hm : X.mg "range" = none) (ha : PA X [a, b, c] (liftA (xfw X tbl) t))
    (hs : starEach [a, b, c] X.env = (false, eval a X.env) :: starEach [b, c] X.env := by rfl) (hpl : (backTo pos (starEach [b, c] X.env)).any (·.1) = false := by rfl) : PI X tg (.Call (.Name "range" p) [a, b, c] [] pos) (liftI (xfw X tbl) (dRng3 t)) :=
  PI.imp (pi_range3 hg hm ha hs hpl) fun σ H R ⟨δ, S, Q0, hr, hs, h, hq⟩ => ⟨δ, S, _, hr, hs, h, fun ds S1 vs H1 h1 r1 s1 a1 => by
    match ds, h1, r1 with
    | [.int i, .int j, .int c], h1, r1 =>
      obtain ⟨v, w, x, rfl, rd, re, rf⟩ := r1.three
      cases rd
      cases re
      cases rf
      obtain ⟨n, hn, q⟩ := h1
      exact ⟨i, j, c, n, rfl, hn, hq _ _ _ _ _ q s1 a1 jok_rngC⟩⟩
/-- zip of two lists, of two tuples -/
def dZip (t : DA) : DI := fun δ S Q => t δ S fun ds S1 => match ds with
  | [.tup xs, .tup ys] => Q ((List.zip xs ys).map fun p => D.tup [p.1, p.2]) (fun _ => True) S1
  | [x, y] => match lstOf S1 x, lstOf S1 y with
    | some xs, some ys => Q ((List.zip xs ys).map fun p => D.tup [p.1, p.2]) (fun S' => lstOf S' x = some xs ∧ lstOf S' y = some ys) S1
    | _, _ => False
  | _ => False
theorem zip_get {xs ys : List D} {i : Nat} {d : D} (h : ((List.zip xs ys).map fun p => D.tup [p.1, p.2])[i]? = some d) : ∃ x y, xs[i]? = some x ∧ ys[i]? = some y ∧ d = .tup [x, y] := by
  rw [List.getElem?_map] at h
  obtain ⟨⟨x, y⟩, h1, h2⟩ := Option.map_eq_some_iff.mp h
  rw [List.getElem?_zip_eq_some] at h1
  exact ⟨x, y, h1.1, h1.2, h2.symm⟩
theorem jok_zip {K : FW} {H0 : Hp} {a b : Addr} {xs ys : List D} {stay : DS → Prop} (h : ∀ S H, Prs H0 H → Sim K S H → stay S → (∃ vs, SqL K H a vs ∧ RvL K H xs vs) ∧ ∃ vs, SqL K H b vs ∧ RvL K H ys vs) : JOk K H0 ((List.zip xs ys).map fun p => D.tup [p.1, p.2]) stay (Itz K a b) := by
  intro i S H p hs st
  obtain ⟨⟨vs, h1, r⟩, ⟨ws, h2, r2⟩⟩ := h S H p hs st
  refine ⟨fun hi => ⟨vs, ws, h1, h2, ?_⟩, fun d hd => ?_⟩
  · rw [List.length_map, List.length_zip] at hi
    rw [← r.length, ← r2.length]
    omega
  · obtain ⟨x, y, hx, hy, rfl⟩ := zip_get hd
    obtain ⟨v, k1, k2⟩ := r.get hx
    obtain ⟨u, k3, k4⟩ := r2.get hy
    refine ⟨⟨vs, ws, v, u, h1, h2, k1, k3⟩, fun x' H' ⟨T, v', u', e1, e2, e3, e4, e5⟩ => ?_⟩
    have q1 := e4 vs h1
    rw [k1] at q1
    cases q1
    have q2 := e5 ws h2
    rw [k3] at q2
    cases q2
    subst e1 e3
    exact ⟨.tup (.inl (.inl upd_same)) (.cons ((Stp.laid (S := S) e2).rv k2) (.cons ((Stp.laid (S := S) e2).rv k4) .nil)), hs.laid e2, Stp.laid e2⟩
theorem jok_zipT {K : FW} {H0 : Hp} {a b : Addr} {xs ys : List D} {vs ws : List V} {stay : DS → Prop} (h1 : SqT K H0 a vs) (r : RvL K H0 xs vs) (h2 : SqT K H0 b ws) (r2 : RvL K H0 ys ws) : JOk K H0 ((List.zip xs ys).map fun p => D.tup [p.1, p.2]) stay (RZ.ItzT K a b) := by
  intro i S H p hs st
  refine ⟨fun hi => ⟨vs, ws, p.sqT h1, p.sqT h2, ?_⟩, fun d hd => ?_⟩
  · rw [List.length_map, List.length_zip] at hi
    rw [← r.length, ← r2.length]
    omega
  · obtain ⟨x, y, hx, hy, rfl⟩ := zip_get hd
    obtain ⟨v, k1, k2⟩ := r.get hx
    obtain ⟨u, k3, k4⟩ := r2.get hy
    refine ⟨⟨vs, ws, v, u, p.sqT h1, p.sqT h2, k1, k3⟩, fun x' H' ⟨T, v', u', e1, e2, e3, e4, e5⟩ => ?_⟩
    have q1 := e4 vs (p.sqT h1)
    rw [k1] at q1
    cases q1
    have q2 := e5 ws (p.sqT h2)
    rw [k3] at q2
    cases q2
    subst e1 e3
    exact ⟨.tup (.inl (.inl upd_same)) (.cons ((Stp.laid (S := S) e2).rv (p.rv k2)) (.cons ((Stp.laid (S := S) e2).rv (p.rv k4)) .nil)), hs.laid e2, Stp.laid e2⟩
theorem qi_zip {e e2 : Expr} {t : DA} {p pos tpos : Pos} {elts : List Expr} {kk : Nat} (hg : Gl X "zip") (hm : X.mg "zip" = none) (ha : PA X [e, e2] (liftA (xfw X tbl) t))
    (hs : starEach [e, e2] X.env = (false, eval e X.env) :: starEach [e2] X.env := by rfl) (hpl : (backTo pos (starEach [e2] X.env)).any (·.1) = false := by rfl) :
    PI X (.Tuple elts kk tpos) (.Call (.Name "zip" p) [e, e2] [] pos) (liftI (xfw X tbl) (dZip t)) :=
  PI.imp (RZ.pi_zipA hg hm ha hs hpl) fun σ H R ⟨δ, S, Q0, hr, hs, h, hq⟩ => ⟨δ, S, _, hr, hs, h, fun ds S1 vs H1 h1 r1 s1 a1 => by
    have lists : ∀ x y, ds = [x, y] → (match lstOf S1 x, lstOf S1 y with
        | some xs, some ys => Q0 ((List.zip xs ys).map fun p => D.tup [p.1, p.2]) (fun S' => lstOf S' x = some xs ∧ lstOf S' y = some ys) S1
        | _, _ => False) → ∃ a b xs ys, vs = [.ref a, .ref b] ∧ ((SqL X.K H1 a xs ∧ SqL X.K H1 b ys ∧ R (Itz X.K a b) H1) ∨ (SqT X.K H1 a xs ∧ SqT X.K H1 b ys ∧ R (RZ.ItzT X.K a b) H1)) := by
      rintro x y rfl h1'
      obtain ⟨v, w, rfl, rd, re⟩ := r1.two
      split at h1'
      · rename_i xs ys e1 e2
        obtain ⟨a, zs, rfl, hv, rr⟩ := lst_of s1 rd e1
        obtain ⟨b, us, rfl, hv2, rr2⟩ := lst_of s1 re e2
        exact ⟨a, b, zs, us, rfl, .inl ⟨hv, hv2, hq _ _ _ _ _ h1' s1 a1 (jok_zip fun S H p hs st => ⟨stay_lst rd S H p hs st.1, stay_lst re S H p hs st.2⟩)⟩⟩
      · exact h1'.elim
    match ds, h1, r1, lists with
    | [.tup xs, .tup ys], h1, r1, _ =>
      obtain ⟨v, w, rfl, rd, re⟩ := r1.two
      cases rd with
      | @tup a us _ q rr =>
        cases re with
        | @tup b ws _ q2 rr2 => exact ⟨a, b, us, ws, rfl, .inr ⟨q, q2, hq _ _ _ _ _ h1 s1 a1 (jok_zipT q rr q2 rr2)⟩⟩
    | [.ref x, y], h1, r1, lists => exact lists _ _ rfl h1
    | [.fl x, y], h1, r1, lists => exact lists _ _ rfl h1
    | [.tup xs, .ref y], h1, r1, lists => exact lists _ _ rfl h1
    | [.tup xs, .fl y], h1, r1, lists => exact lists _ _ rfl h1
    | [.tup xs, .non], h1, r1, lists => exact lists _ _ rfl h1
    | [.tup xs, .bl _], h1, r1, lists => exact lists _ _ rfl h1
    | [.tup xs, .int _], h1, r1, lists => exact lists _ _ rfl h1
    | [.tup xs, .str _], h1, r1, lists => exact lists _ _ rfl h1
    | [.tup xs, .ty _], h1, r1, lists => exact lists _ _ rfl h1
    | [.tup xs, .fn _], h1, r1, lists => exact lists _ _ rfl h1
    | [.non, y], h1, r1, lists => exact lists _ _ rfl h1
    | [.bl _, y], h1, r1, lists => exact lists _ _ rfl h1
    | [.int _, y], h1, r1, lists => exact lists _ _ rfl h1
    | [.str _, y], h1, r1, lists => exact lists _ _ rfl h1
    | [.ty _, y], h1, r1, lists => exact lists _ _ rfl h1
    | [.fn _, y], h1, r1, lists => exact lists _ _ rfl h1⟩
end
end DL
namespace DL
open PySem PySem.Spec PyProof.Rows L2 LamX
def dget (kvs : List (D × D)) (k : D) : Option D := (kvs.find? fun p => decide (nk p.1 = nk k)).map (·.2)
def dput (kvs : List (D × D)) (k v : D) : List (D × D) :=
  if (kvs.any fun p => decide (nk p.1 = nk k)) = true then kvs.map (fun p => if nk p.1 = nk k then (p.1, v) else p) else kvs ++ [(k, v)]
def ddel (kvs : List (D × D)) (k : D) : List (D × D) := kvs.filter fun p => decide (nk p.1 ≠ nk k)
def isLf : D → Bool
  | .int _ => true | .str _ => true | _ => false
def isTk : D → Bool
  | .tup xs => (nk (.tup xs)).isSome && decide ((D.tup xs).dep ≤ 8)
  | _ => false
/-- the dict's keys are of one kind, k is of this kind -/
def kOk (kvs : List (D × D)) (k : D) : Prop := (isLf k = true ∧ ∀ p ∈ kvs, isLf p.1 = true) ∨ (isTk k = true ∧ ∀ p ∈ kvs, isTk p.1 = true)
def dctOf (S : DS) : D → Option (List (D × D))
  | .ref a => match S a with
    | some (.dct _ kvs) => some kvs
    | _ => none
  | _ => none
theorem dctOf_get {S : DS} {d : D} {kvs : List (D × D)} (h : dctOf S d = some kvs) : ∃ a st, d = .ref a ∧ S a = some (.dct st kvs) := by
  cases d with
  | ref a =>
    rw [dctOf] at h
    split at h
    · rename_i st kvs' e
      cases h
      exact ⟨a, st, rfl, e⟩
    · cases h
  | _ => cases h
theorem length_dput (kvs : List (D × D)) (k v : D) : (dput kvs k v).length ≤ kvs.length + 1 := by
  unfold dput
  split
  · rw [List.length_map]; omega
  · rw [List.length_append]; exact Nat.le_refl _
theorem dput_keys (kvs : List (D × D)) (k v : D) : (dput kvs k v).map (·.1) = kvs.map (·.1) ∨ (dput kvs k v).map (·.1) = kvs.map (·.1) ++ [k] ∧ nk k ∉ kvs.map fun p => nk p.1 := by
  unfold dput
  split
  · left
    rw [List.map_map]
    refine List.map_congr_left fun p _ => ?_
    simp only [Function.comp]
    split <;> rfl
  · rename_i h
    right
    refine ⟨by rw [List.map_append]; rfl, fun q => h ?_⟩
    obtain ⟨p, hp, e⟩ := List.mem_map.mp q
    exact List.any_eq_true.mpr ⟨p, hp, decide_eq_true e⟩
theorem dput_nodup {kvs : List (D × D)} {k v : D} (h : (kvs.map fun p => nk p.1).Nodup) : ((dput kvs k v).map fun p => nk p.1).Nodup := by
  have e : ∀ l : List (D × D), (l.map fun p => nk p.1) = (l.map (·.1)).map nk := fun l => by rw [List.map_map]; rfl
  rcases dput_keys kvs k v with q | ⟨q, n⟩
  · rw [e, q, ← e]; exact h
  · rw [e, q, List.map_append, ← e]
    refine List.nodup_append.mpr ⟨h, by simp, fun a ha b hb z => ?_⟩
    rw [List.map_cons, List.map_nil, List.mem_singleton] at hb
    subst hb z
    exact n ha
theorem dput_all {P : D → Prop} {kvs : List (D × D)} {k v : D} (hk : P k) (h : ∀ p ∈ kvs, P p.1) : ∀ p ∈ dput kvs k v, P p.1 := by
  intro p hp
  have hm : p.1 ∈ (dput kvs k v).map (·.1) := List.mem_map_of_mem hp
  rcases dput_keys kvs k v with q | ⟨q, _⟩
  · rw [q] at hm; obtain ⟨p', hp', e⟩ := List.mem_map.mp hm; rw [← e]; exact h p' hp'
  · rw [q] at hm
    rcases List.mem_append.mp hm with z | z
    · obtain ⟨p', hp', e⟩ := List.mem_map.mp z; rw [← e]; exact h p' hp'
    · rw [List.mem_singleton.mp z]; exact hk
mutual
theorem nk_dep : ∀ (d : D) (q : NestedKey), nk d = some q → q.depth = d.dep
  | .non, q, h => by rw [nk] at h; cases h; rw [NestedKey.depth, D.dep]
  | .int _, q, h => by rw [nk] at h; cases h; rw [NestedKey.depth, D.dep]
  | .str _, q, h => by rw [nk] at h; cases h; rw [NestedKey.depth, D.dep]
  | .bl _, q, h => by rw [nk] at h; cases h
  | .ref _, q, h => by rw [nk] at h; cases h
  | .ty _, q, h => by rw [nk] at h; cases h
  | .fn _, q, h => by rw [nk] at h; cases h
  | .fl _, q, h => by rw [nk] at h; cases h
  | .tup xs, q, h => by
    rw [nk] at h
    split at h
    · rename_i ks e
      cases h
      rw [NestedKey.depth, D.dep, nks_dep xs ks e]
    · cases h
theorem nks_dep : ∀ (ds : List D) (ks : List NestedKey), nks ds = some ks → NestedKey.depthAll ks = D.depL ds
  | [], ks, h => by rw [nks] at h; cases h; rw [NestedKey.depthAll, D.depL]
  | d :: ds, ks, h => by
    rw [nks] at h
    split at h
    · rename_i k e
      split at h
      · rename_i ks' e'
        cases h
        rw [NestedKey.depthAll, D.depL, nk_dep d k e, nks_dep ds ks' e']
      · cases h
    · cases h
end
mutual
theorem nk_inj : ∀ (a b : D) (q : NestedKey), nk a = some q → nk b = some q → a = b
  | .non, b, q, h, h' => by
    rw [nk] at h; cases h
    cases b with
    | non => rfl
    | tup xs => rw [nk] at h'; split at h' <;> cases h'
    | _ => rw [nk] at h'; cases h'
  | .int i, b, q, h, h' => by
    rw [nk] at h; cases h
    cases b with
    | int j => rw [nk] at h'; cases h'; rfl
    | tup xs => rw [nk] at h'; split at h' <;> cases h'
    | _ => rw [nk] at h'; cases h'
  | .str i, b, q, h, h' => by
    rw [nk] at h; cases h
    cases b with
    | str j => rw [nk] at h'; cases h'; rfl
    | tup xs => rw [nk] at h'; split at h' <;> cases h'
    | _ => rw [nk] at h'; cases h'
  | .bl _, b, q, h, h' => by rw [nk] at h; cases h
  | .ref _, b, q, h, h' => by rw [nk] at h; cases h
  | .ty _, b, q, h, h' => by rw [nk] at h; cases h
  | .fn _, b, q, h, h' => by rw [nk] at h; cases h
  | .fl _, b, q, h, h' => by rw [nk] at h; cases h
  | .tup xs, b, q, h, h' => by
    rw [nk] at h
    split at h
    · rename_i ks e
      cases h
      cases b with
      | tup ys =>
        rw [nk] at h'
        split at h'
        · rename_i ks' e'
          cases h'
          rw [nks_inj xs ys ks e e']
        · cases h'
      | _ => rw [nk] at h'; cases h'
    · cases h
theorem nks_inj : ∀ (xs ys : List D) (ks : List NestedKey), nks xs = some ks → nks ys = some ks → xs = ys
  | [], ys, ks, h, h' => by
    rw [nks] at h; cases h
    cases ys with
    | nil => rfl
    | cons y ys =>
      rw [nks] at h'
      split at h'
      · split at h' <;> cases h'
      · cases h'
  | x :: xs, ys, ks, h, h' => by
    rw [nks] at h
    split at h
    · rename_i k e
      split at h
      · rename_i ks1 e1
        cases h
        cases ys with
        | nil => rw [nks] at h'; cases h'
        | cons y ys =>
          rw [nks] at h'
          split at h'
          · rename_i k2 e2
            split at h'
            · rename_i ks3 e3
              cases h'
              rw [nk_inj x y k e e2, nks_inj xs ys ks1 e1 e3]
            · cases h'
          · cases h'
      · cases h
    · cases h
end
def kd : D → Key
  | .int i => .inl i | .str x => .inr x | _ => .inl 0
theorem lf_val {K : FW} {H : Hp} {k : D} {u : V} (h : isLf k = true) (r : Rv K H k u) : u = kV (kd k) := by
  cases k with
  | int i => cases r; rfl
  | str x => cases r; rfl
  | _ => cases h
theorem lf_key {K : FW} {H : Hp} {k : D} (h : isLf k = true) : Rv K H k (kV (kd k)) := by
  cases k with
  | int i => exact .int i
  | str x => exact .str x
  | _ => cases h
theorem lf_nk {a b : D} (h : isLf a = true) (h' : isLf b = true) : nk a = nk b ↔ kd a = kd b := by
  cases a with
  | int i =>
    cases b with
    | int j => rw [nk, nk, kd, kd]; simp
    | str y => rw [nk, nk, kd, kd]; simp
    | _ => cases h'
  | str x =>
    cases b with
    | int j => rw [nk, nk, kd, kd]; simp
    | str y => rw [nk, nk, kd, kd]; simp
    | _ => cases h'
  | _ => cases h
theorem lf_some {k : D} (w : World) (h : isLf k = true) : ∃ q, nk k = some q ∧ q.hash w = keyH w (kd k) := by
  cases k with
  | int i => exact ⟨_, by rw [nk], by rw [NestedKey.hash, kd]; rfl⟩
  | str i => exact ⟨_, by rw [nk], by rw [NestedKey.hash, kd]; rfl⟩
  | _ => cases h
section
variable {K : FW} {H : Hp} {P : Program}
abbrev LP (K : FW) (H : Hp) : List (D × D) → List (Key × Value) → Prop := Paired fun p q => isLf p.1 = true ∧ kd p.1 = q.1 ∧ ∃ v, Rv K H p.2 v ∧ RelV v q.2
theorem rent_lp : ∀ {kvs : List (D × D)} {es : List DictEntry}, REnt K H kvs es → (∀ p ∈ kvs, isLf p.1 = true) →
    ∃ vs : List (Key × Value), LP K H kvs vs ∧ Pairs (mixKind P K.w) es vs ∧ ∀ e ∈ es, ∃ k, keyIs k e.key = true ∧ e.hash = keyH K.w k
  | _, _, .nil, _ => ⟨[], .nil, .nil, fun e he => nomatch he⟩
  | _, _, .cons (k := k) (e := e) a b c d f g r, h => by
    obtain ⟨vs, h1, h2, h3⟩ := rent_lp r fun p hp => h p (List.mem_cons_of_mem _ hp)
    have hk := h _ List.mem_cons_self
    dsimp only at hk
    obtain ⟨q', e1, e2⟩ := lf_some K.w hk
    rw [a] at e1
    cases e1
    have hu := lf_val hk c
    have his : keyIs (kd k) e.key = true := by rw [hu] at d; exact kV_is (P := P) (w := K.w) d
    refine ⟨(kd k, e.val) :: vs, .cons ⟨hk, rfl, _, f, g⟩ h1, .cons his rfl h2, fun e' he => ?_⟩
    rcases List.mem_cons.mp he with z | z
    · subst z; exact ⟨kd k, his, b.trans e2⟩
    · exact h3 e' z
theorem lp_rent : ∀ {kvs : List (D × D)} {es : List DictEntry} {vs : List (Key × Value)}, LP K H kvs vs → Pairs (mixKind P K.w) es vs → (∀ e ∈ es, ∃ k, keyIs k e.key = true ∧ e.hash = keyH K.w k) → REnt K H kvs es
  | _, es, _, .nil, p, _ => by cases p; exact .nil
  | _, es, _, .cons (a := a) (b := b) h t, p, q => by
    cases p with
    | @cons e _ es _ his hv r =>
      obtain ⟨h1, h2, v, h3, h4⟩ := h
      obtain ⟨q', e1, e2⟩ := lf_some K.w h1
      obtain ⟨k', i1, i2⟩ := q e List.mem_cons_self
      have : k' = b.1 := (mixKind P K.w).inj e.key k' b.1 i1 his
      subst this
      obtain ⟨k, d⟩ := a
      dsimp only at h1 h2 h3 h4 e1 e2 hv
      exact .cons e1 (i2.trans (by rw [e2, h2])) (lf_key h1) (by rw [h2]; exact relV_key his) h3 (by rw [hv]; exact h4) (lp_rent t r fun e' he => q e' (List.mem_cons_of_mem _ he))
theorem dget_lp : ∀ {kvs : List (D × D)} {vs : List (Key × Value)} {k : D}, LP K H kvs vs → isLf k = true → match dget kvs k with
    | some d => ∃ u v, valueAt vs (kd k) = some u ∧ Rv K H d v ∧ RelV v u
    | none => valueAt vs (kd k) = none
  | _, _, k, .nil, _ => rfl
  | _, _, k, .cons (a := a) (b := b) (l₁ := l) (l₂ := m) h t, hk => by
    obtain ⟨h1, h2, v, h3, h4⟩ := h
    have ih := dget_lp t hk
    by_cases c : nk a.1 = nk k
    · have e : dget (a :: l) k = some a.2 := by unfold dget; rw [List.find?_cons_of_pos (by simp [c])]; rfl
      rw [e]
      have c' : b.1 = kd k := h2.symm.trans ((lf_nk h1 hk).mp c)
      exact ⟨b.2, v, by simp [valueAt, List.find?_cons, c'], h3, h4⟩
    · have e : dget (a :: l) k = dget l k := by unfold dget; rw [List.find?_cons_of_neg (by simp [c])]
      have c' : ¬ b.1 = kd k := fun z => c ((lf_nk h1 hk).mpr (h2.trans z))
      have e' : valueAt (b :: m) (kd k) = valueAt m (kd k) := by simp [valueAt, List.find?_cons, c']
      rw [e, e']; exact ih
theorem any_lp : ∀ {kvs : List (D × D)} {vs : List (Key × Value)} {k : D}, LP K H kvs vs → isLf k = true → (kvs.any fun p => decide (nk p.1 = nk k)) = vs.any fun q => decide (q.1 = kd k)
  | _, _, k, .nil, _ => rfl
  | _, _, k, .cons (a := a) (b := b) h t, hk => by
    obtain ⟨h1, h2, _⟩ := h
    rw [List.any_cons, List.any_cons, any_lp t hk]
    congr 1
    rw [← h2]
    exact decide_eq_decide.mpr (lf_nk h1 hk)
theorem map_lp {d : D} {v : V} {u : Value} (rd : Rv K H d v) (ru : RelV v u) : ∀ {kvs : List (D × D)} {vs : List (Key × Value)} {k : D}, LP K H kvs vs → isLf k = true → LP K H (kvs.map fun p => if nk p.1 = nk k then (p.1, d) else p) (vs.map fun q => if q.1 = kd k then (q.1, u) else q)
  | _, _, k, .nil, _ => .nil
  | _, _, k, .cons (a := a) (b := b) h t, hk => by
    rw [List.map_cons, List.map_cons]
    refine .cons ?_ (map_lp rd ru t hk)
    obtain ⟨h1, h2, h3⟩ := h
    by_cases c : nk a.1 = nk k
    · rw [if_pos c, if_pos (h2.symm.trans ((lf_nk h1 hk).mp c))]; exact ⟨h1, h2, v, rd, ru⟩
    · rw [if_neg c, if_neg fun z => c ((lf_nk h1 hk).mpr (h2.trans z))]; exact ⟨h1, h2, h3⟩
theorem dput_lp {d : D} {v : V} {u : Value} (rd : Rv K H d v) (ru : RelV v u) {kvs : List (D × D)} {vs : List (Key × Value)} {k : D} (h : LP K H kvs vs) (hk : isLf k = true) : LP K H (dput kvs k d) (stored vs (kd k) u) := by
  unfold dput stored
  rw [any_lp h hk]
  split
  · exact map_lp rd ru h hk
  · exact Paired.snoc h ⟨hk, rfl, v, rd, ru⟩
theorem tk_some {k : D} (h : isTk k = true) : ∃ xs q, k = .tup xs ∧ nk k = some q ∧ q.depth ≤ 8 := by
  cases k with
  | tup xs =>
    rw [isTk, Bool.and_eq_true, decide_eq_true_eq] at h
    obtain ⟨q, e⟩ := Option.isSome_iff_exists.mp h.1
    exact ⟨xs, q, rfl, e, by rw [nk_dep _ q e]; exact h.2⟩
  | _ => cases h
theorem tk_val {k : D} {u : V} (h : isTk k = true) (r : Rv K H k u) : ∃ b, u = .ref b := by
  obtain ⟨xs, q, rfl, _⟩ := tk_some h
  cases r with
  | tup _ _ => exact ⟨_, rfl⟩
abbrev XT := NestedKey × Addr × Value
abbrev TP (K : FW) (H : Hp) : List (D × D) → List XT → Prop := Paired fun p x => isTk p.1 = true ∧ nk p.1 = some x.1 ∧ Rv K H p.1 (.ref x.2.1) ∧ ∃ v, Rv K H p.2 v ∧ RelV v x.2.2
theorem rent_tp : ∀ {kvs : List (D × D)} {es : List DictEntry}, REnt K H kvs es → (∀ p ∈ kvs, isTk p.1 = true) → ∃ xs : List XT, TP K H kvs xs ∧ es = xs.map (entryOfKey (nestedKind P K.w))
  | _, _, .nil, _ => ⟨[], .nil, rfl⟩
  | _, _, .cons (k := k) (e := e) (q := q) a b c d f g r, h => by
    obtain ⟨xs, h1, h2⟩ := rent_tp r fun p hp => h p (List.mem_cons_of_mem _ hp)
    have hk := h _ List.mem_cons_self
    dsimp only at hk
    obtain ⟨ad, rfl⟩ := tk_val hk c
    have ek : e.key = .ref ad := d
    refine ⟨(q, ad, e.val) :: xs, .cons ⟨hk, a, c, _, f, g⟩ h1, ?_⟩
    rw [List.map_cons, ← h2]
    congr 1
    obtain ⟨eh, ekk, ev⟩ := e
    dsimp only at ek b
    subst ek b
    rfl
theorem tp_rent : ∀ {kvs : List (D × D)} {xs : List XT}, TP K H kvs xs → REnt K H kvs (xs.map (entryOfKey (nestedKind P K.w)))
  | _, _, .nil => .nil
  | _, _, .cons (a := a) (b := b) h t => by
    obtain ⟨h0, h1, h2, v, h3, h4⟩ := h
    exact .cons (e := entryOfKey (nestedKind P K.w) b) h1 rfl h2 rfl h3 h4 (tp_rent t)
theorem dget_tp : ∀ {kvs : List (D × D)} {xs : List XT} {k : D} {q : NestedKey}, TP K H kvs xs → nk k = some q → match dget kvs k with
    | some d => ∃ p v, atKey xs q = some p ∧ Rv K H d v ∧ RelV v p.2
    | none => atKey xs q = none
  | _, _, k, q, .nil, _ => rfl
  | _, _, k, q, .cons (a := a) (b := b) (l₁ := l) (l₂ := m) h t, hk => by
    obtain ⟨h0, h1, h2, v, h3, h4⟩ := h
    have ih := dget_tp t hk
    by_cases c : nk a.1 = nk k
    · have e : dget (a :: l) k = some a.2 := by unfold dget; rw [List.find?_cons_of_pos (by simp [c])]; rfl
      rw [e]
      have c' : b.1 = q := by rw [h1, hk] at c; exact Option.some.inj c
      exact ⟨b.2, v, by simp [atKey, List.find?_cons, c'], h3, h4⟩
    · have e : dget (a :: l) k = dget l k := by unfold dget; rw [List.find?_cons_of_neg (by simp [c])]
      have c' : ¬ b.1 = q := fun z => c (by rw [h1, hk, z])
      have e' : atKey (b :: m) q = atKey m q := by simp [atKey, List.find?_cons, c']
      rw [e, e']; exact ih
theorem any_tp : ∀ {kvs : List (D × D)} {xs : List XT} {k : D} {q : NestedKey}, TP K H kvs xs → nk k = some q → (kvs.any fun p => decide (nk p.1 = nk k)) = (atKey xs q).isSome
  | _, _, k, q, .nil, _ => rfl
  | _, _, k, q, .cons (a := a) (b := b) (l₂ := m) h t, hk => by
    obtain ⟨h0, h1, _⟩ := h
    rw [List.any_cons, any_tp t hk]
    by_cases c : b.1 = q
    · have e' : atKey (b :: m) q = some b.2 := by simp [atKey, List.find?_cons, c]
      rw [e', h1, hk, c]; simp
    · have e' : atKey (b :: m) q = atKey m q := by simp [atKey, List.find?_cons, c]
      rw [e', h1, hk, decide_eq_false (fun z => c (Option.some.inj z))]; simp
theorem map_tp {d : D} {v : V} {u : Value} (rd : Rv K H d v) (ru : RelV v u) : ∀ {kvs : List (D × D)} {xs : List XT} {k : D} {q : NestedKey}, TP K H kvs xs → nk k = some q → TP K H (kvs.map fun p => if nk p.1 = nk k then (p.1, d) else p) (xs.map (putAt q u))
  | _, _, k, q, .nil, _ => .nil
  | _, _, k, q, .cons (a := a) (b := b) h t, hk => by
    rw [List.map_cons, List.map_cons]
    refine .cons ?_ (map_tp rd ru t hk)
    obtain ⟨h0, h1, h2, h3⟩ := h
    unfold putAt
    by_cases c : nk a.1 = nk k
    · rw [if_pos c, if_pos (show b.1 = q by rw [h1, hk] at c; exact Option.some.inj c)]; exact ⟨h0, h1, h2, v, rd, ru⟩
    · rw [if_neg c, if_neg fun z => c (by rw [h1, hk, z])]; exact ⟨h0, h1, h2, h3⟩
theorem dput_tp {d : D} {v : V} {u : Value} {b : Addr} (rd : Rv K H d v) (ru : RelV v u) {kvs : List (D × D)} {xs : List XT} {k : D} {q : NestedKey} (h : TP K H kvs xs) (hk : isTk k = true) (hq : nk k = some q) (hb : Rv K H k (.ref b)) : TP K H (dput kvs k d) (storedH xs q b u) := by
  unfold dput storedH
  rw [any_tp h hq]
  split
  · exact map_tp rd ru h hq
  · exact Paired.snoc h ⟨hk, hq, hb, v, rd, ru⟩
end
section
variable {X : Cx} {tbl : Tbl} {pins : List (Addr × Obj)} {σ : L2.St} {H : Hp} {s : Shared} {S : DS} {a : Addr} {st : DStm} {kvs : List (D × D)} {A : Around} {E : Value → Shared → Prop}
mutual
theorem nk_is (I : Inv X pins σ H s) : ∀ (d : D) (q : NestedKey) (v : V) (u : Value), nk d = some q → Rv (xfw X tbl) H d v → RelV v u → NestedIs s.heap q u
  | .non, q, v, u, e, r, ru => by rw [nk] at e; cases e; cases r; cases (show u = Value.none from ru); exact .none
  | .int _, q, v, u, e, r, ru => by rw [nk] at e; cases e; cases r; obtain ⟨t, rfl⟩ := ru; exact .int _ t
  | .str _, q, v, u, e, r, ru => by rw [nk] at e; cases e; cases r; obtain ⟨t, rfl⟩ := ru; exact .text _ t
  | .bl _, q, v, u, e, r, ru => by rw [nk] at e; cases e
  | .ref _, q, v, u, e, r, ru => by rw [nk] at e; cases e
  | .ty _, q, v, u, e, r, ru => by rw [nk] at e; cases e
  | .fn _, q, v, u, e, r, ru => by rw [nk] at e; cases e
  | .fl _, q, v, u, e, r, ru => by rw [nk] at e; cases e
  | .tup xs, q, v, u, e, r, ru => by
    rw [nk] at e
    split at e
    · rename_i ks ek
      cases e
      cases r with
      | @tup p vs _ hq rr =>
        cases (show u = Value.ref p from ru)
        obtain ⟨its, rv, ⟨o, ho, hc, n, hd⟩, _⟩ := I.tuple hq
        exact .tup ho hc hd (by simpa using nks_is I xs ks vs its ek rr rv)
    · cases e
theorem nks_is (I : Inv X pins σ H s) : ∀ (ds : List D) (ks : List NestedKey) (vs : List V) (us : List Value), nks ds = some ks → RvL (xfw X tbl) H ds vs → Vals vs us → NestedAll s.heap ks us
  | [], ks, vs, us, e, r, ru => by rw [nks] at e; cases e; cases r; cases ru; exact .nil
  | d :: ds, ks, vs, us, e, r, ru => by
    rw [nks] at e
    split at e
    · rename_i k e1
      split at e
      · rename_i ks' e2
        cases e
        cases r with
        | cons q rr =>
          cases ru with
          | cons h t => exact .cons (nk_is I d k _ _ e1 q h) (nks_is I ds ks' _ _ e2 rr t)
      · cases e
    · cases e
end
theorem tk_is (I : Inv X pins σ H s) {k : D} {b : Addr} (h : isTk k = true) (r : Rv (xfw X tbl) H k (.ref b)) : ∃ q, nk k = some q ∧ (nestedKind X.prog X.w).is s.heap q b := by
  obtain ⟨xs, q, rfl, e, hd⟩ := tk_some h
  exact ⟨q, e, nk_is I _ q _ _ e r rfl, hd⟩
theorem dct_at (I : Inv X pins σ H s) (hs : Sim (xfw X tbl) S H) (e : S a = some (.dct st kvs)) :
    (a == sysModules) = false ∧ s.heap.DictRaw a st.es st.ep ∧ REnt (xfw X tbl) H kvs st.es.toList ∧ kvs.length ≤ sizeLine ∧ (kvs.map fun p => nk p.1).Nodup ∧ H a = some (rawO a st) := by
  obtain ⟨h1, h2, h3, h4⟩ := hs a _ e
  obtain ⟨⟨hd, raw⟩, _⟩ := (show ObjOk X.prog X.w H s.heap a (rawO a st) from I.hok a _ h1)
  exact ⟨hd, raw, h2, h3, h4, h1⟩
theorem rent_len {K : FW} : ∀ {kvs : List (D × D)} {es : List DictEntry}, REnt K H kvs es → kvs.length = es.length
  | _, _, .nil => rfl
  | _, _, .cons _ _ _ _ _ _ r => by rw [List.length_cons, List.length_cons, rent_len r]
theorem lp_keys {K : FW} : ∀ {kvs : List (D × D)} {vs : List (Key × Value)}, LP K H kvs vs → (kvs.map fun p => nk p.1).Nodup → (vs.map (·.1)).Nodup
  | _, _, .nil, _ => List.nodup_nil
  | _, _, .cons (a := a) (b := b) (l₁ := l) (l₂ := m) h t, hn => by
    rw [List.map_cons, List.nodup_cons] at hn ⊢
    refine ⟨fun hm => hn.1 ?_, lp_keys t hn.2⟩
    obtain ⟨h1, h2, _⟩ := h
    obtain ⟨y, hy, ey⟩ := List.mem_map.mp hm
    have key : ∀ {l : List (D × D)} {m : List (Key × Value)}, LP K H l m → ∀ y ∈ m, ∃ p ∈ l, isLf p.1 = true ∧ kd p.1 = y.1 := by
      intro l m q
      induction q with
      | nil => intro y hy; exact nomatch hy
      | cons hq t ih =>
        intro y hy
        rcases List.mem_cons.mp hy with e | hy
        · subst e; exact ⟨_, List.mem_cons_self, hq.1, hq.2.1⟩
        · obtain ⟨p, hp, r⟩ := ih y hy; exact ⟨p, List.mem_cons_of_mem _ hp, r⟩
    obtain ⟨p, hp, hp1, hp2⟩ := key t y hy
    exact List.mem_map.mpr ⟨p, hp, (lf_nk hp1 h1).mpr (by rw [hp2, h2]; exact ey)⟩
theorem tp_keys {K : FW} : ∀ {kvs : List (D × D)} {xs : List XT}, TP K H kvs xs → (kvs.map fun p => nk p.1) = xs.map fun x => some x.1
  | _, _, .nil => rfl
  | _, _, .cons h t => by rw [List.map_cons, List.map_cons, h.2.1, tp_keys t]
theorem tp_is (I : Inv X pins σ H s) : ∀ {kvs : List (D × D)} {xs : List XT}, TP (xfw X tbl) H kvs xs → ∀ x ∈ xs, (nestedKind X.prog X.w).is s.heap x.1 x.2.1
  | _, _, .nil, x, hx => nomatch hx
  | _, _, .cons h t, x, hx => by
    rcases List.mem_cons.mp hx with e | hx
    · subst e
      obtain ⟨q, e1, e2⟩ := tk_is I h.1 h.2.2.1
      rw [h.2.1] at e1
      cases e1
      exact e2
    · exact tp_is I t x hx
/-- the dict with leaf keys as the library's -/
theorem dct_lf (I : Inv X pins σ H s) (hs : Sim (xfw X tbl) S H) (e : S a = some (.dct st kvs)) (hk : ∀ p ∈ kvs, isLf p.1 = true) : ∃ vs, LP (xfw X tbl) H kvs vs ∧ s.heap.DictOf (mixKind X.prog X.w) a vs := by
  obtain ⟨hd, ⟨o, ho, hc, hdt⟩, re, hl, hn, _⟩ := dct_at I hs e
  obtain ⟨vs, h1, h2, h3⟩ := rent_lp (P := X.prog) re hk
  exact ⟨vs, h1, o, st.es, st.ep, ho, hc, hdt, fun e' he => h3 e' (Array.mem_toList_iff.mpr he), h2, lp_keys h1 hn⟩
theorem dct_tp (I : Inv X pins σ H s) (hs : Sim (xfw X tbl) S H) (e : S a = some (.dct st kvs)) (hk : ∀ p ∈ kvs, isTk p.1 = true) : ∃ xs, TP (xfw X tbl) H kvs xs ∧ s.heap.DictOfH (nestedKind X.prog X.w) a xs := by
  obtain ⟨hd, ⟨o, ho, hc, hdt⟩, re, hl, hn, _⟩ := dct_at I hs e
  obtain ⟨xs, h1, h2⟩ := rent_tp (P := X.prog) re hk
  refine ⟨xs, h1, o, st.es, st.ep, ho, hc, hdt, h2, tp_is I h1, ?_⟩
  rw [tp_keys h1] at hn
  have : (xs.map fun x => some x.1) = (xs.map (·.1)).map some := by rw [List.map_map]; rfl
  rw [this] at hn
  exact List.Pairwise.of_map some (fun a b h z => h (by rw [z])) hn
/-- the dict has another content -/
theorem dct_write {h' : Heap} {t' : Nat} {kvs' : List (D × D)} {st' : DStm} (I : Inv X pins σ H s) (hs : Sim (xfw X tbl) S H) (e : S a = some (.dct st kvs)) (sb : Heap.SameBut a s.heap h') (raw : h'.DictRaw a st'.es st'.ep)
    (re : REnt (xfw X tbl) H kvs' st'.es.toList) (hl : kvs'.length ≤ sizeLine) (hn : (kvs'.map fun p => nk p.1).Nodup) :
    Inv X pins σ (upd H a (rawO a st')) { s with heap := h', toks := t' } ∧ Sim (xfw X tbl) (dupd S a (.dct st' kvs')) (upd H a (rawO a st')) ∧ Stp S H (dupd S a (.dct st' kvs')) (upd H a (rawO a st')) := by
  obtain ⟨hd, _, _, _, _, hH⟩ := dct_at I hs e
  have w : Stp S H (dupd S a (.dct st' kvs')) (upd H a (rawO a st')) := Stp.write hs e
  refine ⟨?_, hs.write e ⟨upd_same, re.mono (fun _ _ => w.sqT) (fun _ _ => w.fqL), hl, hn⟩, w⟩
  have he : ∃ q, h'.get? a = some q := let ⟨q, hq, _⟩ := raw; ⟨q, hq⟩
  refine d_write I (by rw [hH]; exact True.intro) sb he ⟨⟨hd, raw⟩, he, fun h1 h2 ⟨z, r⟩ k => ⟨z, r.at k⟩⟩
theorem kroom {A : Around} (hu : A.units + 100 < cLine) (P : Program) (w : World) : (nestedKind P w).room A.in1 := by
  show A.in1.units + 8 < cLine
  rw [Around.in1_units]; omega
/-- d[k] -/
theorem dd_get {y : V} {u : Value} {k d : D} (I : Inv X pins σ H s) (hs : Sim (xfw X tbl) S H) (e : S a = some (.dct st kvs)) (hk : kOk kvs k) (rk : Rv (xfw X tbl) H k y) (ry : RelV y u) (hg : dget kvs k = some d) :
    ∃ v w', Rv (xfw X tbl) H d v ∧ RelV v w' ∧ ∀ (A : Around) (E : Value → Shared → Prop) (Q : Value → Shared → Prop), A.units + 100 < cLine → (∀ s', Inv X pins σ H s' → Q w' s') → wpAny (model X.prog X.w) A (getItem (.ref a) u) Q E s := by
  rcases hk with ⟨h1, h2⟩ | ⟨h1, h2⟩
  · obtain ⟨vs, lp, dd⟩ := dct_lf I hs e h2
    have q := dget_lp lp h1
    rw [hg] at q
    obtain ⟨w', v, hw, rv, rw'⟩ := q
    have := lf_val h1 rk
    subst this
    exact ⟨v, w', rv, rw', fun A E Q hu h => wpAny_getItem_of (kV_is ry) dd.mapOf hw (h _ (I.tok _))⟩
  · obtain ⟨xs, tp, dd⟩ := dct_tp I hs e h2
    obtain ⟨b, rfl⟩ := tk_val h1 rk
    cases (show u = Value.ref b from ry)
    obtain ⟨q, eq, his⟩ := tk_is I h1 rk
    have z := dget_tp tp eq
    rw [hg] at z
    obtain ⟨p, v, hp, rv, rw'⟩ := z
    exact ⟨v, p.2, rv, rw', fun A E Q hu h => wpAny_getItem_heap (kroom hu _ _) his dd hp (h _ (I.tok _))⟩
theorem dd_in {y : V} {u : Value} {k : D} {Q : Value → Shared → Prop} (hu : A.units + 100 < cLine) (I : Inv X pins σ H s) (hs : Sim (xfw X tbl) S H) (e : S a = some (.dct st kvs)) (hk : kOk kvs k) (rk : Rv (xfw X tbl) H k y) (ry : RelV y u)
    (h : ∀ s', Inv X pins σ H s' → Q (.bool (dget kvs k).isSome) s') : wpAny (model X.prog X.w) A (compareOp .In u (.ref a)) Q E s := by
  have hd := (dct_at I hs e).1
  rcases hk with ⟨h1, h2⟩ | ⟨h1, h2⟩
  · obtain ⟨vs, lp, dd⟩ := dct_lf I hs e h2
    have q := dget_lp lp h1
    have := lf_val h1 rk
    subst this
    refine wpAny_in_of (kV_is ry) hd dd.mapOf ?_
    have : (valueAt vs (kd k)).isSome = (dget kvs k).isSome := by
      cases z : dget kvs k with
      | none => rw [z] at q; rw [q]; rfl
      | some d => rw [z] at q; obtain ⟨w', v, hw, _⟩ := q; rw [hw]; rfl
    rw [this]
    exact h _ (I.tok _)
  · obtain ⟨xs, tp, dd⟩ := dct_tp I hs e h2
    obtain ⟨b, rfl⟩ := tk_val h1 rk
    cases (show u = Value.ref b from ry)
    obtain ⟨q, eq, his⟩ := tk_is I h1 rk
    have z := any_tp tp eq
    refine wpAny_in_heap (kroom hu _ _) his hd dd ?_
    have : (atKey xs q).isSome = (dget kvs k).isSome := by
      have z := dget_tp tp eq
      cases y : dget kvs k with
      | none => rw [y] at z; rw [z]; rfl
      | some d => rw [y] at z; obtain ⟨p, v, hp, _⟩ := z; rw [hp]; rfl
    rw [this]
    exact h _ (I.tok _)
theorem dd_notIn {y : V} {u : Value} {k : D} {Q : Value → Shared → Prop} (hu : A.units + 100 < cLine) (I : Inv X pins σ H s) (hs : Sim (xfw X tbl) S H) (e : S a = some (.dct st kvs)) (hk : kOk kvs k) (rk : Rv (xfw X tbl) H k y) (ry : RelV y u)
    (h : ∀ s', Inv X pins σ H s' → Q (.bool (!(dget kvs k).isSome)) s') : wpAny (model X.prog X.w) A (compareOp .NotIn u (.ref a)) Q E s := by
  have hd := (dct_at I hs e).1
  rcases hk with ⟨h1, h2⟩ | ⟨h1, h2⟩
  · obtain ⟨vs, lp, dd⟩ := dct_lf I hs e h2
    have q := dget_lp lp h1
    have := lf_val h1 rk
    subst this
    refine wpAny_notIn_of (kV_is ry) hd dd.mapOf ?_
    have : (valueAt vs (kd k)).isSome = (dget kvs k).isSome := by
      cases z : dget kvs k with
      | none => rw [z] at q; rw [q]; rfl
      | some d => rw [z] at q; obtain ⟨w', v, hw, _⟩ := q; rw [hw]; rfl
    rw [this]
    exact h _ (I.tok _)
  · obtain ⟨xs, tp, dd⟩ := dct_tp I hs e h2
    obtain ⟨b, rfl⟩ := tk_val h1 rk
    cases (show u = Value.ref b from ry)
    obtain ⟨q, eq, his⟩ := tk_is I h1 rk
    refine wpAny_notIn_heap (kroom hu _ _) his hd dd ?_
    have : (atKey xs q).isSome = (dget kvs k).isSome := by
      have z := dget_tp tp eq
      cases y : dget kvs k with
      | none => rw [y] at z; rw [z]; rfl
      | some d => rw [y] at z; obtain ⟨p, v, hp, _⟩ := z; rw [hp]; rfl
    rw [this]
    exact h _ (I.tok _)
/-- d[k] = v -/
theorem dd_set {y v : V} {u r : Value} {k d : D} {Q : Unit → Shared → Prop} (hu : A.units + 100 < cLine) (I : Inv X pins σ H s) (hs : Sim (xfw X tbl) S H) (e : S a = some (.dct st kvs)) (hk : kOk kvs k) (rk : Rv (xfw X tbl) H k y) (ry : RelV y u) (rd : Rv (xfw X tbl) H d v) (rv : RelV v r)
    (hl : kvs.length < sizeLine) (h : ∀ st' s', Inv X pins σ (upd H a (rawO a st')) s' → Sim (xfw X tbl) (dupd S a (.dct st' (dput kvs k d))) (upd H a (rawO a st')) → Stp S H (dupd S a (.dct st' (dput kvs k d))) (upd H a (rawO a st')) → Q () s') :
    wpAny (model X.prog X.w) A (setItem (.ref a) u r) Q E s := by
  obtain ⟨_, _, re, _, hn, _⟩ := dct_at I hs e
  have hl' : (dput kvs k d).length ≤ sizeLine := by have := length_dput kvs k d; omega
  rcases hk with ⟨h1, h2⟩ | ⟨h1, h2⟩
  · obtain ⟨vs, lp, dd⟩ := dct_lf I hs e h2
    have hz : vs.length ≤ sizeLine := by rw [← Paired.length lp]; omega
    have := lf_val h1 rk
    subst this
    refine wpAny_setItem_pairs (hsz := hz) (kV_is ry) dd fun h' dd' sb => ?_
    obtain ⟨o, es, ep, ho, hc, hdt, ko, pr, _⟩ := dd'
    obtain ⟨i1, i2, i3⟩ := dct_write (t' := s.toks + 1) (st' := ⟨es, ep⟩) I hs e sb ⟨o, ho, hc, hdt⟩ (lp_rent (dput_lp rd rv lp h1) pr fun e' he => ko e' (Array.mem_toList_iff.mp he)) hl' (dput_nodup hn)
    exact h ⟨es, ep⟩ _ i1 i2 i3
  · obtain ⟨xs, tp, dd⟩ := dct_tp I hs e h2
    have hz : xs.length ≤ sizeLine := by rw [← Paired.length tp]; omega
    obtain ⟨b, rfl⟩ := tk_val h1 rk
    cases (show u = Value.ref b from ry)
    obtain ⟨q, eq, his⟩ := tk_is I h1 rk
    refine wpAny_setItem_heap (hsz := hz) (kroom hu _ _) his dd fun h' dd' sb => ?_
    obtain ⟨o, es, ep, ho, hc, hdt, hes, _, _⟩ := dd'
    have re' := tp_rent (P := X.prog) (dput_tp rd rv tp h1 eq rk)
    obtain ⟨i1, i2, i3⟩ := dct_write (t' := s.toks + (nestedKind X.prog X.w).draws q) (st' := ⟨es, ep⟩) I hs e sb ⟨o, ho, hc, hdt⟩ (by show REnt _ _ _ es.toList; rw [hes]; exact re') hl' (dput_nodup hn)
    exact h ⟨es, ep⟩ _ i1 i2 i3
/-- d.get(k), d.get(k, x) -/
theorem dd_get1 {y : V} {u : Value} {k : D} {Q : Value → Shared → Prop} (hu : A.units + 100 < cLine) (I : Inv X pins σ H s) (hs : Sim (xfw X tbl) S H) (e : S a = some (.dct st kvs)) (hk : kOk kvs k) (rk : Rv (xfw X tbl) H k y) (ry : RelV y u)
    (h : ∀ v w' s', Inv X pins σ H s' → Rv (xfw X tbl) H ((dget kvs k).getD .non) v → RelV v w' → Q w' s') : wpAny (model X.prog X.w) A (call (.builtin "dict.get") [.ref a, u]) Q E s := by
  have hd := (dct_at I hs e).1
  rcases hk with ⟨h1, h2⟩ | ⟨h1, h2⟩
  · obtain ⟨vs, lp, dd⟩ := dct_lf I hs e h2
    have q := dget_lp lp h1
    have := lf_val h1 rk
    subst this
    refine call_meetsIn PySem.F.slot_dict_get dd.typeIs PySem.F.entry_dict_get (PySem.F.args_dict_get_2 _ _) (meets_dict_get (mixKind X.prog X.w) a (kV_is ry) hd) ⟨_, dd.mapOf, ?_⟩
    cases z : dget kvs k with
    | none => rw [z] at q h; rw [q]; exact h .non .none _ (I.tok _) .non rfl
    | some d => rw [z] at q h; obtain ⟨w', v, hw, rv, rw'⟩ := q; rw [hw]; exact h v w' _ (I.tok _) rv rw'
  · obtain ⟨xs, tp, dd⟩ := dct_tp I hs e h2
    obtain ⟨b, rfl⟩ := tk_val h1 rk
    cases (show u = Value.ref b from ry)
    obtain ⟨q, eq, his⟩ := tk_is I h1 rk
    have z := dget_tp tp eq
    refine call_meetsIn PySem.F.slot_dict_get dd.typeIs PySem.F.entry_dict_get (PySem.F.args_dict_get_2 _ _) (meetsH_dict_get (nestedKind X.prog X.w) a b hd) ⟨kroom hu _ _, q, xs, his, dd, ?_⟩
    cases c : dget kvs k with
    | none => rw [c] at z h; rw [z]; exact h .non .none _ (I.tok _) .non rfl
    | some d => rw [c] at z h; obtain ⟨p, v, hp, rv, rw'⟩ := z; rw [hp]; exact h v p.2 _ (I.tok _) rv rw'
theorem dd_get2 {y v2 : V} {u r : Value} {k d2 : D} {Q : Value → Shared → Prop} (hu : A.units + 100 < cLine) (I : Inv X pins σ H s) (hs : Sim (xfw X tbl) S H) (e : S a = some (.dct st kvs)) (hk : kOk kvs k) (rk : Rv (xfw X tbl) H k y) (ry : RelV y u) (rd : Rv (xfw X tbl) H d2 v2) (rr : RelV v2 r)
    (h : ∀ v w' s', Inv X pins σ H s' → Rv (xfw X tbl) H ((dget kvs k).getD d2) v → RelV v w' → Q w' s') : wpAny (model X.prog X.w) A (call (.builtin "dict.get") [.ref a, u, r]) Q E s := by
  have hd := (dct_at I hs e).1
  rcases hk with ⟨h1, h2⟩ | ⟨h1, h2⟩
  · obtain ⟨vs, lp, dd⟩ := dct_lf I hs e h2
    have q := dget_lp lp h1
    have := lf_val h1 rk
    subst this
    refine call_meetsIn PySem.F.slot_dict_get dd.typeIs PySem.F.entry_dict_get (PySem.F.args_dict_get_3 _ _ _) (meets_dict_get_default (mixKind X.prog X.w) a (kV_is ry) hd r) ⟨_, dd.mapOf, ?_⟩
    cases z : dget kvs k with
    | none => rw [z] at q h; rw [q]; exact h v2 r _ (I.tok _) rd rr
    | some d => rw [z] at q h; obtain ⟨w', v, hw, rv, rw'⟩ := q; rw [hw]; exact h v w' _ (I.tok _) rv rw'
  · obtain ⟨xs, tp, dd⟩ := dct_tp I hs e h2
    obtain ⟨b, rfl⟩ := tk_val h1 rk
    cases (show u = Value.ref b from ry)
    obtain ⟨q, eq, his⟩ := tk_is I h1 rk
    have z := dget_tp tp eq
    refine call_meetsIn PySem.F.slot_dict_get dd.typeIs PySem.F.entry_dict_get (PySem.F.args_dict_get_3 _ _ _) (meetsH_dict_get_default (nestedKind X.prog X.w) a b hd r) ⟨kroom hu _ _, q, xs, his, dd, ?_⟩
    cases c : dget kvs k with
    | none => rw [c] at z h; rw [z]; exact h v2 r _ (I.tok _) rd rr
    | some d => rw [c] at z h; obtain ⟨p, v, hp, rv, rw'⟩ := z; rw [hp]; exact h v p.2 _ (I.tok _) rv rw'
theorem rent_keys {K : FW} : ∀ {kvs : List (D × D)} {es : List DictEntry}, REnt K H kvs es → ∃ vs, RvL K H (kvs.map (·.1)) vs ∧ Vals vs (es.map (·.key))
  | _, _, .nil => ⟨[], .nil, .nil⟩
  | _, _, .cons a b c d f g r => let ⟨vs, h1, h2⟩ := rent_keys r; ⟨_ :: vs, .cons c h1, .cons d h2⟩
theorem rent_vals {K : FW} : ∀ {kvs : List (D × D)} {es : List DictEntry}, REnt K H kvs es → ∃ vs, RvL K H (kvs.map (·.2)) vs ∧ Vals vs (es.map (·.val))
  | _, _, .nil => ⟨[], .nil, .nil⟩
  | _, _, .cons a b c d f g r => let ⟨vs, h1, h2⟩ := rent_vals r; ⟨_ :: vs, .cons f h1, .cons g h2⟩
theorem items_map {α : Type} {es : Array α} {f : α → Value} {acc : Array Value} (h : ItemsOf (fun i v => ∃ hi : i < es.size, v = f es[i]) acc es.size) : acc.toList = es.toList.map f := by
  obtain ⟨h1, h2⟩ := h
  refine List.ext_getElem? fun i => ?_
  rw [Array.getElem?_toList, List.getElem?_map, Array.getElem?_toList]
  by_cases hi : i < es.size
  · have ha : i < acc.size := by omega
    obtain ⟨z, e⟩ := h2 i acc[i] (Array.getElem?_eq_getElem ha)
    rw [Array.getElem?_eq_getElem ha, Array.getElem?_eq_getElem hi, e]; rfl
  · rw [Array.getElem?_eq_none (by omega), Array.getElem?_eq_none (by omega)]; rfl
end
def adr : D → Addr
  | .ref a => a
  | _ => 0
def oIx : DR2 := fun x y S Q => match dctOf S x with
  | some kvs => kOk kvs y ∧ ∃ d, dget kvs y = some d ∧ Q d S
  | none => oIx0 x y S Q
/-- the value that o[i] op= e reads -/
def oIxA : DR2 := fun x y S Q => match dctOf S x with
  | some kvs => kOk kvs y ∧ ∃ d, dget kvs y = some d ∧ Q d S
  | none => match lstOf S x with
    | some xs => match y with
      | .int i => 0 ≤ i ∧ match L2.atI xs i with
        | some d => Q d S
        | none => False
      | _ => False
    | none => False
def sIx : DSet := fun o i v S Q => match dctOf S o with
  | some kvs => (kOk kvs i ∧ kvs.length < 16777216) ∧ ∀ st, Q (dupd S (adr o) (.dct st (dput kvs i v)))
  | none => sIx0 o i v S Q
def oIn (neg : Bool) : DR2 := fun x y S Q => match dctOf S y with
  | some kvs => kOk kvs x ∧ Q (.bl (neg ^^ (dget kvs x).isSome)) S
  | none => oIn0 neg x y S Q
def bLen : DRs := fun ds S Q => match ds with
  | [d] => match dctOf S d with
    | some kvs => Q (.int kvs.length) S
    | none => bLen0 [d] S Q
  | _ => False
def bList : DRs := fun ds S Q => match ds with
  | [d] => match dctOf S d with
    | some kvs => ∀ p, S p = none → Q (.ref p) (dupd S p (.lst (kvs.map (·.1))))
    | none => bList0 [d] S Q
  | _ => False
def dIter (te : DE) : DI := fun δ S Q => te δ S fun x S1 => match x with
  | .str z => Q (z.cps.toList.map fun c => D.str ⟨#[c]⟩) (fun _ => True) S1
  | x => match dctOf S1 x with
    | some kvs => Q (kvs.map (·.1)) (fun S' => S' (adr x) = S1 (adr x)) S1
    | none => match seqOf S1 x with
      | some xs => Q xs (fun S' => seqOf S' x = some xs) S1
      | none => False
def okDct : DS → D → Prop := fun S d => (dctOf S d).isSome = true
def mGet : DM := fun d ds S Q => match dctOf S d with
  | some kvs => match ds with
    | [k] => kOk kvs k ∧ Q ((dget kvs k).getD .non) S
    | [k, x] => kOk kvs k ∧ Q ((dget kvs k).getD x) S
    | _ => False
  | none => False
def dDct0 : DE := fun _ S Q => ∀ p st, S p = none → Q (.ref p) (dupd S p (.dct st []))
section
variable {X : Cx} {tbl : Tbl} {e o a b : Expr} {es : List Expr} {te to ta tb : DE} {t : DA} {pos apos cpos : Pos} {name : Str} {id : String} {r : DM} {tg : Expr}
theorem dix (hu : X.A.units + 100 < cLine) : IxR X (liftO (xfw X tbl) oIx) := by
  rintro value slice pins s σ H xv yv v u Q I rx ry ⟨x, y, S, Q0, hx, hy, hs, hr, hq⟩ hsub
  cases hc : dctOf S x with
  | none =>
    have hr' : oIx0 x y S Q0 := by unfold oIx at hr; rw [hc] at hr; exact hr
    exact dix0 value slice pins s σ H xv yv v u Q I rx ry ⟨x, y, S, Q0, hx, hy, hs, hr', hq⟩ hsub
  | some kvs =>
    unfold oIx at hr
    rw [hc] at hr
    obtain ⟨hk, d, hg, q⟩ := hr
    obtain ⟨a, st, rfl, e⟩ := dctOf_get hc
    cases hx
    cases (show v = Value.ref a from rx)
    obtain ⟨v', w', rv, rw', run⟩ := dd_get I hs e hk hy ry hg
    obtain ⟨_, raw, _⟩ := dct_at I hs e
    exact subscriptTail_builtinR (x := w') raw.typeIs PySem.F.slot_dict_getitem.lookup (run X.A _ _ hu fun s' I' => ⟨rfl, v', H, I', rw', hq _ _ _ _ q rv hs (.refl _ _)⟩) hsub
theorem qe_ix (hu : X.A.units + 100 < cLine) (ha : PE X a (liftE (xfw X tbl) ta)) (hb : PE X b (liftE (xfw X tbl) tb)) (hs : PlainIx b) : PE X (.Subscript a b pos) (liftE (xfw X tbl) (dOp oIx ta tb)) := PE.imp (pe_ix (dix hu) ha hb hs) lift_op
theorem dget_ix (hu : X.A.units + 100 < cLine) : PGet X (liftO (xfw X tbl) oIxA) := by
  rintro pins s σ H xv yv v u Q I rx ry ⟨x, y, S, Q0, hx, hy, hs, hr, hq⟩
  unfold oIxA at hr
  split at hr
  · rename_i kvs hc
    obtain ⟨hk, d, hg, q⟩ := hr
    obtain ⟨a, st, rfl, e⟩ := dctOf_get hc
    cases hx
    cases (show v = Value.ref a from rx)
    obtain ⟨v', w', rv, rw', run⟩ := dd_get I hs e hk hy ry hg
    exact run X.A _ _ hu fun s' I' => ⟨v', H, I', rw', hq _ _ _ _ q rv hs (.refl _ _)⟩
  · split at hr
    · rename_i xs e1
      split at hr
      · rename_i i
        obtain ⟨h0, hr⟩ := hr
        split at hr
        · rename_i d e2
          cases hy
          obtain ⟨t, rfl⟩ := ry
          obtain ⟨p, vs, rfl, hv, r⟩ := lst_of hs hx e1
          cases (show v = Value.ref p from rx)
          obtain ⟨z, g1, g2⟩ := r.atI e2
          obtain ⟨its, r2, pl, hz⟩ := I.list hv
          obtain ⟨j, h1, h2, h3, h4, h5⟩ := atI_get g1
          obtain ⟨w, ew, rw'⟩ := r2.get h2
          have hn := line63
          have hj : i.toNat = j := by
            rw [seqIndex_of h0 h5] at h1
            exact Option.some.inj h1
          exact wpAny_getItem_list pl.isList h0 (by omega) (by rw [hj]; simpa using ew) ⟨z, H, I, rw', hq d S z H hr g2 hs (.refl _ _)⟩
        · exact hr.elim
      · exact hr.elim
    · exact hr.elim
theorem dset_ix (hu : X.A.units + 100 < cLine) : PSet X (liftSet (xfw X tbl) sIx) := by
  rintro pins s σ H o i v ov iv u Q I ro ri rv ⟨od, idd, vd, S, Q0, ho, hi, hv, hs, hr, hq⟩
  unfold sIx at hr
  split at hr
  · rename_i kvs hc
    obtain ⟨⟨hk, hl⟩, q⟩ := hr
    obtain ⟨a, st, rfl, e⟩ := dctOf_get hc
    cases ho
    cases (show ov = Value.ref a from ro)
    exact dd_set hu I hs e hk hi ri hv rv (by rw [szl]; exact hl) fun st' s' I' sm w => ⟨_, I', hq _ _ (q st') sm w⟩
  · exact dset_ix0 pins s σ H o i v ov iv u Q I ro ri rv ⟨od, idd, vd, S, Q0, ho, hi, hv, hs, hr, hq⟩
theorem dop_in (hu : X.A.units + 100 < cLine) : OpR X (compareOp .In) (liftO (xfw X tbl) (oIn false)) := by
  rintro pins s σ H xv yv v u Q I rx ry ⟨x, y, S, Q0, hx, hy, hs, hr, hq⟩
  unfold oIn at hr
  split at hr
  · rename_i kvs hc
    obtain ⟨hk, q⟩ := hr
    obtain ⟨a, st, rfl, e⟩ := dctOf_get hc
    cases hy
    cases (show u = Value.ref a from ry)
    exact dd_in hu I hs e hk hx rx fun s' I' => ⟨.bl _, H, I', rfl, hq _ _ _ _ q (by rw [Bool.false_xor]; exact .bl _) hs (.refl _ _)⟩
  · exact dop_in0 hu pins s σ H xv yv v u Q I rx ry ⟨x, y, S, Q0, hx, hy, hs, hr, hq⟩
theorem dop_notin (hu : X.A.units + 100 < cLine) : OpR X (compareOp .NotIn) (liftO (xfw X tbl) (oIn true)) := by
  rintro pins s σ H xv yv v u Q I rx ry ⟨x, y, S, Q0, hx, hy, hs, hr, hq⟩
  unfold oIn at hr
  split at hr
  · rename_i kvs hc
    obtain ⟨hk, q⟩ := hr
    obtain ⟨a, st, rfl, e⟩ := dctOf_get hc
    cases hy
    cases (show u = Value.ref a from ry)
    exact dd_notIn hu I hs e hk hx rx fun s' I' => ⟨.bl _, H, I', rfl, hq _ _ _ _ q (by rw [Bool.true_xor]; exact .bl _) hs (.refl _ _)⟩
  · exact dop_notin0 hu pins s σ H xv yv v u Q I rx ry ⟨x, y, S, Q0, hx, hy, hs, hr, hq⟩
theorem dcall_len : CallR X (.builtin "len") (liftC (xfw X tbl) bLen) := by
  rintro pins s σ H xs us Q I rx ⟨ds, S, Q0, hx, hs, hr, hq⟩
  match ds, hr, hx with
  | [d], hr, hx =>
    unfold bLen at hr
    dsimp only at hr
    split at hr
    · rename_i kvs hc
      obtain ⟨v, rfl, rd⟩ := hx.one
      obtain ⟨a, st, rfl, e⟩ := dctOf_get hc
      cases rd
      obtain ⟨hd, raw, re, hl, _⟩ := dct_at I hs e
      cases rx with
      | cons h1 h2 =>
        cases h2
        cases (show _ = Value.ref a from h1)
        have hlen : kvs.length = st.es.size := by have := rent_len re; simpa using this
        refine call_len_slot (n := st.es.size) raw.typeIs PySem.F.slot_dict_len (fun Q' hq' => call_len_raw hd raw hq') (by rw [szl] at hl; omega) (by rw [szl] at hl; omega) ?_
        exact ⟨.int st.es.size, H, I.tok _, ⟨_, rfl⟩, hq _ _ _ _ hr (by rw [hlen]; exact .int _) hs (.refl _ _)⟩
    · exact dcall_len0 pins s σ H xs us Q I rx ⟨_, S, Q0, hx, hs, hr, hq⟩
theorem dcall_list (hcm : X.calm = true) : CallR X (.type "list") (liftC (xfw X tbl) bList) := by
  rintro pins s σ H xs us Q I rx ⟨ds, S, Q0, hx, hs, hr, hq⟩
  match ds, hr, hx with
  | [d], hr, hx =>
    unfold bList at hr
    dsimp only at hr
    split at hr
    · rename_i kvs hc
      obtain ⟨v, rfl, rd⟩ := hx.one
      obtain ⟨a, st, rfl, e⟩ := dctOf_get hc
      cases rd
      obtain ⟨hd, raw, re, hl, _⟩ := dct_at I hs e
      cases rx with
      | cons h1 h2 =>
        cases h2
        cases (show _ = Value.ref a from h1)
        have hlen : kvs.length = st.es.size := by have := rent_len re; simpa using this
        obtain ⟨vs, r1, r2⟩ := rent_keys re
        refine PySem.W.kdl_call (KdlSrc.rawDict hd) (I.ok.hd hcm) raw (by omega) fun h' tk acc c hk hS hit => ?_
        have hf : H s.heap.objs.size = none := I.hok.fresh (Nat.le_refl _)
        have hv : Vals vs acc.toList := by rw [items_map hit]; exact r2
        have hvl : vs.length = kvs.length := by rw [← r1.length, List.length_map]
        have I' := I.laid (a := s.heap.objs.size) (o := .lst vs) (t' := tk) hk (Nat.le_refl _) ⟨by omega, acc.toList, c, hv, by simpa using hS⟩
        exact ⟨.ref _, _, I', rfl, hq _ _ _ _ (hr _ (hs.fresh hf)) (.ref _) (hs.new hf ⟨vs, upd_same, (Stp.laid (S := S) hf).rvl r1⟩) (Stp.new hf)⟩
    · exact dcall_list0 pins s σ H xs us Q I rx ⟨_, S, Q0, hx, hs, hr, hq⟩
theorem qe_dct0 : PE X (.Dict [] [] pos) (liftE (xfw X tbl) dDct0) := ⟨fun pins s σ H Q I ⟨δ, S, Q0, hr, hs, h, hq⟩ => by
  have hf : H s.heap.objs.size = none := I.hok.fresh (Nat.le_refl _)
  have ne : (s.heap.objs.size == sysModules) = false := beq_eq_false_iff_ne.mpr (Ne.symm (Nat.ne_of_lt I.big))
  have raw : (s.heap.push { cls := .type "dict", data := .dict #[] }).DictRaw s.heap.objs.size #[] 0 := ⟨_, Heap.get?_push_size _ rfl, ⟨rfl, rfl, rfl⟩, rfl⟩
  have I' := I.laid (a := s.heap.objs.size) (o := rawO s.heap.objs.size ⟨#[], 0⟩) (t' := s.toks) (h' := s.heap.push { cls := .type "dict", data := .dict #[] }) (fun _ _ q => Heap.get?_push_of_some _ q) (Nat.le_refl _)
    ⟨⟨ne, raw⟩, let ⟨o, ho, _⟩ := raw; ⟨o, ho⟩, fun h1 h2 ⟨z, r⟩ k => ⟨z, r.at k⟩⟩
  exact wpAny_Dict_empty ⟨.ref s.heap.objs.size, _, I', rfl, hq _ _ _ _ (h _ ⟨#[], 0⟩ (hs.fresh hf)) (.ref _) (hs.new hf ⟨upd_same, .nil, Nat.zero_le _, List.nodup_nil⟩) (Stp.new hf)⟩⟩
/-- a method of a dict -/
theorem qe_dm (slot : Slot "dict" name id) (hty : typeOf (.builtin id) = pure (.type "method_descriptor")) (hm : MtR X id (liftM (xfw X tbl) r)) (ho : PE X o (liftE (xfw X tbl) to)) (ha : PA X (e :: es) (liftA (xfw X tbl) t))
    (hbase : attributeBase o name X.env (eval o X.env) = eval o X.env := by rfl)
    (hfew : ((backTo cpos (starEach (e :: es) X.env)).all (fun x => !x.1) && (backToKw cpos (keywordEach [] X.env)).all (fun x => x.1.isSome) && decide ((e :: es).length + ([] : List Keyword).length + (if ([] : List Keyword).isEmpty then 0 else 1) < 30)) = true := by rfl)
    (hline : (apos.endLine == cpos.line) = true := by rfl) (hse : starEach (e :: es) X.env = (false, eval e X.env) :: starEach es X.env := by rfl) (hplain : (backTo cpos (starEach es X.env)).any (·.1) = false := by rfl) :
    PE X (.Call (.Attribute o name apos) (e :: es) [] cpos) (liftE (xfw X tbl) (dBM okDct r to t)) := ⟨fun pins s σ H Q I ⟨δ, S, Q0, hr, hs, h, hq⟩ => by
  refine wpAny_Call_method_late hbase hfew hline rfl (thn (ho.run pins s σ H (fun v H1 => ∃ x S1, Rv (xfw X tbl) H1 x v ∧ Sim (xfw X tbl) S1 H1 ∧ Stp S H S1 H1 ∧ okDct S1 x ∧ t δ S1 fun xs S2 => r x xs S2 Q0) I ⟨δ, S, _, hr, hs, h, fun x S1 v H1 ⟨k, h1⟩ r1 s1 a1 => ⟨x, S1, r1, s1, a1, k, h1⟩⟩) fun v s1 ⟨xv, H1, I1, r1, x, S1, rx, sm1, a1, k, h1⟩ => ?_)
  obtain ⟨kvs, hc⟩ := Option.isSome_iff_exists.mp k
  obtain ⟨a, st, rfl, e1⟩ := dctOf_get hc
  cases rx
  cases (show v = Value.ref a from r1)
  obtain ⟨hd, raw, _⟩ := dct_at I1 sm1 e1
  refine ⟨"dict", id, PySem.F.plainAttrs_dict, slot, hty, raw.typeIs, fun b hb => ?_, ?_⟩
  · cases hb
    obtain ⟨ob, hob, hx, _⟩ := raw
    exact ⟨ob, hob, hx.2.1⟩
  · have hA := ha.run cpos pins s1 σ H1 (fun vs H2 => ∃ xs S2, RvL (xfw X tbl) H2 xs vs ∧ Sim (xfw X tbl) S2 H2 ∧ Stp S1 H1 S2 H2 ∧ r (.ref a) xs S2 Q0) I1 ⟨δ, S1, _, hr.stp a1, sm1, h1, fun xs S2 vs H2 h2 r2 s2 a2 => ⟨xs, S2, r2, s2, a2, h2⟩⟩
    rw [hse] at hA ⊢
    refine Calls.callWith_builtin (by show (false || (backTo cpos (starEach es X.env)).any (·.1)) = false; rw [hplain]; rfl) (Calls.evalArgs_plain ?_)
    exact thn hA fun us s2 ⟨vs, H2, I2, r2, xs, S2, rr, sm2, a2, q2⟩ => hm pins s2 σ H2 (.ref a) vs (.ref a) us Q I2 rfl r2 ⟨.ref a, xs, S2, Q0, .ref a, rr, sm2, q2, fun d S' v H' q rv sm aa => hq d S' v H' q rv sm ((a1.trans a2).trans aa)⟩⟩
theorem dmt_get (hu : X.A.units + 100 < cLine) : MtR X "dict.get" (liftM (xfw X tbl) mGet) := dl_m fun pins s σ H d ds x xs v us S Q Q0 I rx rs hd hx hs hr hq => by
  unfold mGet at hr
  split at hr
  · rename_i kvs hc
    obtain ⟨a, st, rfl, e⟩ := dctOf_get hc
    cases hd
    cases (show v = Value.ref a from rx)
    split at hr
    · rename_i k
      obtain ⟨hk, q⟩ := hr
      obtain ⟨kv, rfl, rk⟩ := hx.one
      cases rs with
      | cons h1 h2 =>
        cases h2
        exact dd_get1 hu I hs e hk rk h1 fun v w' s' I' rv rw' => ⟨v, H, I', rw', hq _ _ _ _ q rv hs (.refl _ _)⟩
    · rename_i k x
      obtain ⟨hk, q⟩ := hr
      obtain ⟨kv, xv, rfl, rk, rx2⟩ := hx.two
      cases rs with
      | cons h1 h2 =>
        cases h2 with
        | cons h2 h3 =>
          cases h3
          exact dd_get2 hu I hs e hk rk h1 rx2 h2 fun v w' s' I' rv rw' => ⟨v, H, I', rw', hq _ _ _ _ q rv hs (.refl _ _)⟩
    · exact hr.elim
  · exact hr.elim
end
def Itd (a : Addr) (st : DStm) : It :=
  ⟨fun i H => H a = some (rawO a st) ∧ ∃ hi : i < st.es.size, ∃ u, RelV u st.es[i].key, fun i H x H' => H' = H ∧ ∃ hi : i < st.es.size, RelV x st.es[i].key, fun i H => H a = some (rawO a st) ∧ st.es.size ≤ i⟩
theorem raw_at {X : Cx} {pins : List (Addr × Obj)} {σ : L2.St} {H : Hp} {s : Shared} {a : Addr} {st : DStm} (I : Inv X pins σ H s) (h : H a = some (rawO a st)) : (a == sysModules) = false ∧ s.heap.DictRaw a st.es st.ep :=
  (show ObjOk X.prog X.w H s.heap a (rawO a st) from I.hok a _ h).1
theorem rent_at {K : FW} {H : Hp} : ∀ {kvs : List (D × D)} {es : List DictEntry} {i : Nat} {p : D × D}, REnt K H kvs es → kvs[i]? = some p → ∃ e u v, es[i]? = some e ∧ Rv K H p.1 u ∧ RelV u e.key ∧ Rv K H p.2 v ∧ RelV v e.val
  | _, _, i, p, .nil, h => by simp at h
  | _, _, 0, p, .cons a b c d f g r, h => by
    simp only [List.getElem?_cons_zero, Option.some.injEq] at h
    subst h
    exact ⟨_, _, _, rfl, c, d, f, g⟩
  | _, _, i + 1, p, .cons a b c d f g r, h => by
    simp only [List.getElem?_cons_succ] at h ⊢
    exact rent_at r h
theorem turn_raw {P : Program} {w : World} {K : PySem.W.Frag} {tg : Expr} {a : Addr} {st : DStm} (it : Addr) : Turn P w K tg (Itd a st) [it] it (fun i h => h.IsKeyIter it a i st.es.size st.ep) where
  mem := List.mem_singleton.mpr rfl
  obj := fun i h hst b hb => by
    obtain rfl := List.mem_singleton.mp hb
    obtain ⟨oi, e, c, dd⟩ := hst
    exact ⟨oi, e, fun v z => by rw [dd] at z; cases z⟩
  keep := fun i h h' hst k => hst.at fun oi e => k it (List.mem_singleton.mpr rfl) oi e
  item := by
    rintro X rfl rfl rfl hc i pins s σ H E I hf hst ⟨hd, hi, u, ru⟩
    obtain ⟨f0, f1, f2, f3, f4, f5⟩ := hf it (List.mem_singleton.mpr rfl)
    obtain ⟨ns, raw⟩ := raw_at I hd
    refine wpAny_pyNext_keys_item_raw hst raw hi fun h' st' sb => ?_
    have I1 : Inv X pins σ H { s with heap := h' } := I.turned (t' := s.toks) (fun b ob hb e => (sb.2 b hb).trans e) f0 f1 f3 f4 f5
    obtain ⟨oi, e, c, dd⟩ := id st'
    exact ⟨_, rfl, go_of (s := { s with heap := h' }) e c dd (by decide) ⟨u, H, I1, ru, ⟨rfl, hi, ru⟩, st', fun b hb => (hf b hb).1⟩⟩
  done := by
    rintro X rfl rfl rfl hc i pins s σ H E I hf hst ⟨hd, hi⟩
    obtain ⟨f0, f1, f2, f3, f4, f5⟩ := hf it (List.mem_singleton.mpr rfl)
    obtain ⟨ns, raw⟩ := raw_at I hd
    exact wpAny_pyNext_keys_end_raw (I.ok.hd hc) hst raw hi fun h' eb => ⟨rfl, I.turned (t' := s.toks) (fun b ob hb e => eb b ob hb e) f0 f1 f3 f4 f5⟩
  self := fun A i s Q E hst h => wpAny_pyIter_keyiter hst h
theorem jok_raw {K : FW} {H0 : Hp} {a : Addr} {st : DStm} {kvs : List (D × D)} {stay : DS → Prop} (h : ∀ S, stay S → S a = some (.dct st kvs)) : JOk K H0 (kvs.map (·.1)) stay (Itd a st) := by
  intro i S H p hs hst
  obtain ⟨e, re, _⟩ := hs a _ (h S hst)
  have hlen : kvs.length = st.es.size := by have := rent_len re; simpa using this
  refine ⟨fun hi => ⟨e, by rw [← hlen]; simpa using hi⟩, fun d hd => ?_⟩
  rw [List.getElem?_map] at hd
  obtain ⟨q, hq, rfl⟩ := Option.map_eq_some_iff.mp hd
  obtain ⟨en, u, v, h1, h2, h3, _⟩ := rent_at re hq
  rw [Array.getElem?_toList] at h1
  obtain ⟨hi, h1⟩ := Array.getElem?_eq_some_iff.mp h1
  refine ⟨⟨e, hi, u, by rw [h1]; exact h3⟩, fun x H' ⟨eH, hi', rx⟩ => ?_⟩
  subst eH
  rw [h1] at rx
  rw [rx.inj h3]
  exact ⟨h2, hs, .refl _ _⟩
theorem ir_raw {X : Cx} {tg : Expr} : IterR X tg (fun x H R => ∃ a st, x = .ref a ∧ H a = some (rawO a st) ∧ R (Itd a st) H) := by
  rintro pins s1 σ H1 x v R I1 r1 ⟨a, st, rfl, e, q⟩
  cases (show v = Value.ref a from r1)
  obtain ⟨ns, raw⟩ := raw_at I1 e
  exact wpAny_pyIter_dict_raw ns raw (pi_one (tk := s1.toks) I1 _ (turn_raw _) ⟨_, Heap.get?_push_size _ rfl, rfl, rfl⟩ q)
theorem qi_seq {X : Cx} {tbl : Tbl} {tg l : Expr} {te : DE} (hl : PE X l (liftE (xfw X tbl) te)) : PI X tg l (liftI (xfw X tbl) (dIter te)) := by
  refine PI.imp (pi_of (r := fun x H R => (∃ a st, x = .ref a ∧ H a = some (rawO a st) ∧ R (Itd a st) H) ∨ (∃ a, x = .ref a ∧ (∃ xs, SqL X.K H a xs) ∧ R (Itl X.K a) H) ∨ (∃ a, x = .ref a ∧ (∃ xs, SqT X.K H a xs) ∧ R (Itt X.K a) H) ∨ (∃ z, x = .str z ∧ R (Its z) H)) hl ?_) ?_
  · intro pins s σ H x v R I rx h
    rcases h with h | h | h | h
    · exact ir_raw pins s σ H x v R I rx h
    · exact ir_list pins s σ H x v R I rx h
    · exact ir_tup pins s σ H x v R I rx h
    · exact ir_str pins s σ H x v R I rx h
  · rintro σ H R ⟨δ, S, Q0, hr, hs, h, hq⟩
    refine ⟨δ, S, _, hr, hs, h, fun d S1 v H1 h1 r1 s1 a1 => ?_⟩
    have dct : ∀ kvs, dctOf S1 d = some kvs → Q0 (kvs.map (·.1)) (fun S' => S' (adr d) = S1 (adr d)) S1 → (∃ a st, v = .ref a ∧ H1 a = some (rawO a st) ∧ R (Itd a st) H1) := fun kvs hc h => by
      obtain ⟨a, st, rfl, e⟩ := dctOf_get hc
      cases r1
      exact ⟨a, st, rfl, (s1 a _ e).1, hq _ _ _ _ _ h s1 a1 (jok_raw fun S' z => by rw [show S' a = S1 a from z]; exact e)⟩
    have seq : dctOf S1 d = none → (match seqOf S1 d with
      | some xs => Q0 xs (fun S' => seqOf S' d = some xs) S1
      | none => False) → (∃ a, v = .ref a ∧ (∃ xs, SqL X.K H1 a xs) ∧ R (Itl X.K a) H1) ∨ (∃ a, v = .ref a ∧ (∃ xs, SqT X.K H1 a xs) ∧ R (Itt X.K a) H1) := fun hc h => by
      split at h
      · rename_i xs e
        cases d with
        | tup ys =>
          cases e
          cases r1 with
          | tup q rr => exact .inr ⟨_, rfl, ⟨_, q⟩, hq _ _ _ _ _ h s1 a1 (jok_tup' q rr)⟩
        | fl ys =>
          cases e
          cases r1 with
          | fl q rr => exact .inl ⟨_, rfl, ⟨_, q.sq⟩, hq _ _ _ _ _ h s1 a1 (jok_list (stay_list (.fl q rr) fun _ z => nomatch z))⟩
        | ref b =>
          cases r1
          obtain ⟨c, vs, e1, hv, rr⟩ := seq_of s1 (.ref b) e
          cases e1
          obtain ⟨ws, k1, k2⟩ := stay_list (.ref b) (fun _ z => nomatch z) S1 H1 (.refl _) s1 e
          exact .inl ⟨_, rfl, ⟨_, k1⟩, hq _ _ _ _ _ h s1 a1 (jok_list (stay_list (.ref b) fun _ z => nomatch z))⟩
        | _ => cases e
      · exact h.elim
    have gen : (match dctOf S1 d with
      | some kvs => Q0 (kvs.map (·.1)) (fun S' => S' (adr d) = S1 (adr d)) S1
      | none => match seqOf S1 d with
        | some xs => Q0 xs (fun S' => seqOf S' d = some xs) S1
        | none => False) → (∃ a st, v = .ref a ∧ H1 a = some (rawO a st) ∧ R (Itd a st) H1) ∨ (∃ a, v = .ref a ∧ (∃ xs, SqL X.K H1 a xs) ∧ R (Itl X.K a) H1) ∨ (∃ a, v = .ref a ∧ (∃ xs, SqT X.K H1 a xs) ∧ R (Itt X.K a) H1) ∨ (∃ z, v = .str z ∧ R (Its z) H1) := fun h => by
      cases hc : dctOf S1 d with
      | some kvs => rw [hc] at h; exact .inl (dct kvs hc h)
      | none =>
        rw [hc] at h
        rcases seq hc h with z | z
        · exact .inr (.inl z)
        · exact .inr (.inr (.inl z))
    cases d with
    | str z => cases r1; exact .inr (.inr (.inr ⟨z, rfl, hq _ _ _ _ _ h1 s1 a1 jok_str⟩))
    | _ => exact gen h1
section
variable {K : FW} {S S0 : DS} {H H0 : Hp} {p : Addr} {o0 o : HO}
theorem Rv.updX (h : H p = some o0) (n1 : ∀ xs, o0 ≠ .tup xs) (n2 : ∀ x u, o0 ≠ .frz x u) {d : D} {v : V} (r : Rv K H d v) : Rv K (L2.upd H p o) d v := by
  refine Rv.mono (fun a vs q => ?_) (fun a vs q => ?_) d v r
  · rcases q with (q | ⟨x, q⟩) | q
    · exact .inl (.inl (by rw [upd_ne (fun z => by subst z; rw [h] at q; exact n1 _ (Option.some.inj q))]; exact q))
    · exact .inl (.inr ⟨x, by rw [upd_ne (fun z => by subst z; rw [h] at q; exact n2 _ _ (Option.some.inj q))]; exact q⟩)
    · exact .inr q
  · rcases q with ⟨x, q⟩ | q
    · exact .inl ⟨x, by rw [upd_ne (fun z => by subst z; rw [h] at q; exact n2 _ _ (Option.some.inj q))]; exact q⟩
    · exact .inr q
theorem RvL.updX (h : H p = some o0) (n1 : ∀ xs, o0 ≠ .tup xs) (n2 : ∀ x u, o0 ≠ .frz x u) : ∀ {ds : List D} {vs : List V}, RvL K H ds vs → RvL K (L2.upd H p o) ds vs
  | [], _, r => by cases r; exact .nil
  | d :: ds, _, r => by
    cases r with
    | cons q rr => exact .cons (q.updX h n1 n2) (RvL.updX h n1 n2 rr)
theorem REnt.updX (h : H p = some o0) (n1 : ∀ xs, o0 ≠ .tup xs) (n2 : ∀ x u, o0 ≠ .frz x u) : ∀ {kvs : List (D × D)} {es : List DictEntry}, REnt K H kvs es → REnt K (L2.upd H p o) kvs es
  | _, _, .nil => .nil
  | _, _, .cons a b c d e f r => .cons a b (c.updX h n1 n2) d (e.updX h n1 n2) f (REnt.updX h n1 n2 r)
theorem Sim.updX (x : Sim K S H) (h : H p = some o0) (n1 : ∀ xs, o0 ≠ .tup xs) (n2 : ∀ x u, o0 ≠ .frz x u) (n3 : NoT (H p)) (n : S p = none) : Sim K S (L2.upd H p o) := by
  refine ⟨fun a u e => ?_, tabs_upd x.tab n3⟩
  have ha : a ≠ p := fun z => by subst z; rw [n] at e; cases e
  cases u with
  | lst xs => obtain ⟨vs, e, r⟩ := x a _ e; exact ⟨vs, (upd_ne ha).trans e, r.updX h n1 n2⟩
  | ins c nm xs => obtain ⟨C, dx, vs, e, z, r⟩ := x a _ e; exact ⟨C, dx, vs, (upd_ne ha).trans e, z, r.updX h n1 n2⟩
  | dct st kvs => obtain ⟨e, r, l⟩ := x a _ e; exact ⟨(upd_ne ha).trans e, REnt.updX h n1 n2 r, l⟩
  | dset xs => obtain ⟨ks, e1, e2, e⟩ := x a _ e; exact ⟨ks, e1, e2, (upd_ne ha).trans e⟩
theorem Prs.updX (h : H p = some o0) (n1 : ∀ xs, o0 ≠ .tup xs) (n2 : ∀ x u, o0 ≠ .frz x u) : Prs H (L2.upd H p o) :=
  ⟨fun b xs e => by rw [upd_ne (fun z => by subst z; rw [h] at e; exact n1 _ (Option.some.inj e))]; exact e, fun b x u e => by rw [upd_ne (fun z => by subst z; rw [h] at e; exact n2 _ _ (Option.some.inj e))]; exact e⟩
/-- the store learns of it -/
theorem Sim.learn (x : Sim K S H) {d : DO} (r : Ro K H d p) : Sim K (dupd S p d) H := by
  refine ⟨fun a u e => ?_, x.tab⟩
  by_cases ha : a = p
  · subst ha; rw [dupd_same] at e; cases e; exact r
  · rw [dupd_ne ha] at e; exact x a u e
theorem raw_nt {a : Addr} {st : DStm} : ∀ xs, rawO a st ≠ .tup xs := fun _ q => nomatch q
theorem raw_nf {a : Addr} {st : DStm} : ∀ x u, rawO a st ≠ .frz x u := fun _ _ q => nomatch q
end
section
variable {X : Cx} {tbl : Tbl} {pins : List (Addr × Obj)} {σ : L2.St} {H : Hp} {s : Shared} {S : DS} {a : Addr} {st : DStm} {kvs : List (D × D)} {A : Around} {E : Value → Shared → Prop}
/-- what stands at a raw dict that the store need not know: its pairs -/
structure RawD (X : Cx) (tbl : Tbl) (H : Hp) (a : Addr) (kvs : List (D × D)) : Prop where
  ex : ∃ st : DStm, H a = some (rawO a st) ∧ REnt (xfw X tbl) H kvs st.es.toList
  len : kvs.length ≤ sizeLine
  nd : (kvs.map fun p => nk p.1).Nodup
/-- the same as if the store knew it -/
theorem RawD.ro (r : RawD X tbl H a kvs) : ∃ st, Ro (xfw X tbl) H (.dct st kvs) a := let ⟨st, h, e⟩ := r.ex; ⟨st, h, e, r.len, r.nd⟩
theorem RawD.of {st : DStm} (r : Ro (xfw X tbl) H (.dct st kvs) a) : RawD X tbl H a kvs := ⟨⟨st, r.1, r.2.1⟩, r.2.2.1, r.2.2.2⟩
theorem raw_laid (I : Inv X pins σ H s) : Inv X pins σ (upd H s.heap.objs.size (rawO s.heap.objs.size ⟨#[], 0⟩)) { s with heap := s.heap.push { cls := .type "dict", data := .dict #[] } } := by
  have ne : (s.heap.objs.size == sysModules) = false := beq_eq_false_iff_ne.mpr (Ne.symm (Nat.ne_of_lt I.big))
  have raw : (s.heap.push { cls := .type "dict", data := .dict #[] }).DictRaw s.heap.objs.size #[] 0 := ⟨_, Heap.get?_push_size _ rfl, ⟨rfl, rfl, rfl⟩, rfl⟩
  exact I.laid (t' := s.toks) (fun _ _ q => Heap.get?_push_of_some _ q) (Nat.le_refl _) ⟨⟨ne, raw⟩, let ⟨o, ho, _⟩ := raw; ⟨o, ho⟩, fun h1 h2 ⟨z, r⟩ k => ⟨z, r.at k⟩⟩
theorem raw_fresh (I : Inv X pins σ H s) : RawD X tbl (upd H s.heap.objs.size (rawO s.heap.objs.size ⟨#[], 0⟩)) s.heap.objs.size [] := ⟨⟨_, upd_same, .nil⟩, Nat.zero_le _, List.nodup_nil⟩
theorem dput_nil {k v : D} : dput [] k v = [(k, v)] := rfl
/-- {k: v}; lf: the key is an int or a text -/
def dDct1 (lf : Bool) (tk tv : DE) : DE := fun δ S Q => tk δ S fun x S1 => tv δ S1 fun y S2 => (if lf = true then isLf x = true else isTk x = true) ∧ ∀ p st, S2 p = none → Q (.ref p) (dupd S2 p (.dct st [(x, y)]))
theorem kOk_nil {lf : Bool} {k : D} (h : if lf = true then isLf k = true else isTk k = true) : kOk [] k := by
  cases lf with
  | true => exact .inl ⟨h, fun p hp => nomatch hp⟩
  | false => exact .inr ⟨h, fun p hp => nomatch hp⟩
theorem qe_dct1 {k v : Expr} {tk tv : DE} {pos : Pos} (lf : Bool) (hu : X.A.units + 100 < cLine) (hk : PE X k (liftE (xfw X tbl) tk)) (hv : PE X v (liftE (xfw X tbl) tv)) : PE X (.Dict [some k] [v] pos) (liftE (xfw X tbl) (dDct1 lf tk tv)) := ⟨fun pins s σ H Q I ⟨δ, S, Q0, hr, hs, h, hq⟩ => by
  have hf : H s.heap.objs.size = none := I.hok.fresh (Nat.le_refl _)
  have hS := hs.fresh hf
  have I1 := raw_laid I
  -- the pair
  have pairs : wpAny (model X.prog X.w) X.A (evalPairs (pairTrees [some k] [v] X.env pos)) (fun ws s3 => ∃ u w x y S3 H3 xv yv, ws = [(u, w)] ∧ Inv X pins σ H3 s3 ∧ Rv (xfw X tbl) H3 x xv ∧ RelV xv u ∧ Rv (xfw X tbl) H3 y yv ∧ RelV yv w ∧ Sim (xfw X tbl) S3 H3 ∧
      Stp S (upd H s.heap.objs.size (rawO s.heap.objs.size ⟨#[], 0⟩)) S3 H3 ∧ (if lf = true then isLf x = true else isTk x = true) ∧ ∀ p st, S3 p = none → Q0 (.ref p) (dupd S3 p (.dct st [(x, y)]))) X.xe
      { s with heap := s.heap.push { cls := .type "dict", data := .dict #[] } } := by
    refine pairTrees_cons_walk (thn (hk.run pins _ σ _ (fun xv H2 => ∃ x S2, Rv (xfw X tbl) H2 x xv ∧ Sim (xfw X tbl) S2 H2 ∧ Stp S (upd H s.heap.objs.size (rawO s.heap.objs.size ⟨#[], 0⟩)) S2 H2 ∧ tv δ S2 fun y S2 => (if lf = true then isLf x = true else isTk x = true) ∧ ∀ p st, S2 p = none → Q0 (.ref p) (dupd S2 p (.dct st [(x, y)]))) I1
      ⟨δ, S, _, hr.stp (Stp.laid (S := S) hf), hs.laid hf, h, fun d S' v H' q r sm aa => ⟨d, S', r, sm, aa, q⟩⟩) fun u s2 ⟨xv, H2, I2, ru, x, S2, rx, sm2, a2, h2⟩ => ?_)
    refine thn (hv.run pins _ σ _ (fun yv H3 => ∃ y S3, Rv (xfw X tbl) H3 y yv ∧ Sim (xfw X tbl) S3 H3 ∧ Stp S2 H2 S3 H3 ∧ (if lf = true then isLf x = true else isTk x = true) ∧ ∀ p st, S3 p = none → Q0 (.ref p) (dupd S3 p (.dct st [(x, y)]))) I2
      ⟨δ, S2, _, (hr.stp (Stp.laid (S := S) hf)).stp a2, sm2, h2, fun d S' v H' q r sm aa => ⟨d, S', r, sm, aa, q⟩⟩) fun w s3 ⟨yv, H3, I3, rw', y, S3, ry, sm3, a3, hl, h3⟩ => ?_
    exact pairTrees_nil_walk ⟨u, w, x, y, S3, H3, xv, yv, rfl, I3, a3.rv rx, ru, ry, rw', sm3, a2.trans a3, hl, h3⟩
  -- the end: the dict is known
  have fin : ∀ (s3 : Shared) (H3 : Hp) (S3 : DS) (x y : D) (h' : Heap) (tk : Nat) (es : Array DictEntry) (ep : Nat), Inv X pins σ H3 s3 → Sim (xfw X tbl) S3 H3 → Stp S (upd H s.heap.objs.size (rawO s.heap.objs.size ⟨#[], 0⟩)) S3 H3 →
      REnt (xfw X tbl) H3 [(x, y)] es.toList → Heap.SameBut s.heap.objs.size s3.heap h' → h'.DictRaw s.heap.objs.size es ep → (∀ p st, S3 p = none → Q0 (.ref p) (dupd S3 p (.dct st [(x, y)]))) →
      EP X pins σ Q (.ref s.heap.objs.size) { s3 with heap := h', toks := tk } := fun s3 H3 S3 x y h' tk es ep I3 sm3 a3 re sb raw q => by
    have n3 : S3 s.heap.objs.size = none := a3.hid _ (by rw [upd_same]; exact fun z => nomatch z) hS
    have e3 : H3 s.heap.objs.size = some (rawO s.heap.objs.size ⟨#[], 0⟩) := a3.keep _ _ hS (fun _ z => nomatch z) upd_same
    have he : ∃ q, h'.get? s.heap.objs.size = some q := let ⟨q, hq, _⟩ := raw; ⟨q, hq⟩
    have ns := (raw_at I3 e3).1
    have I4 : Inv X pins σ (upd H3 s.heap.objs.size (rawO s.heap.objs.size ⟨es, ep⟩)) { s3 with heap := h', toks := tk } := d_write I3 (by rw [e3]; exact True.intro) sb he ⟨⟨ns, raw⟩, he, fun h1 h2 ⟨z, r⟩ k => ⟨z, r.at k⟩⟩
    have nd : (([(x, y)] : List (D × D)).map fun p => nk p.1).Nodup := by simp
    have a4 : Stp S H S3 H3 := (Stp.laid hf).trans a3
    exact ⟨.ref s.heap.objs.size, _, I4, rfl, hq _ _ _ _ (q _ ⟨es, ep⟩ n3) (.ref _) ((sm3.updX e3 raw_nt raw_nf (by rw [e3]; exact ⟨fun _ z => (nomatch z), fun _ _ z => rawO_ne (Option.some.inj z)⟩) n3).learn ⟨upd_same, re.updX e3 raw_nt raw_nf, by rw [szl]; exact (by decide : 1 ≤ 16777216), nd⟩) ((a4.updD hf).newD hf)⟩
  cases lf with
  | true =>
    refine wpAny_Dict_walk (knd := mixKind X.prog X.w) rfl rfl (fun z => nomatch z) (by decide : 1 ≤ 15) (thn pairs fun ws s3 ⟨u, w, x, y, S3, H3, xv, yv, ew, I3, rx, ru, ry, rw', sm3, a3, hl, q⟩ => ?_)
    subst ew
    have hl : isLf x = true := hl
    have e3 : H3 s.heap.objs.size = some (rawO s.heap.objs.size ⟨#[], 0⟩) := a3.keep _ _ hS (fun _ z => nomatch z) upd_same
    obtain ⟨ns, ⟨o, ho, hc, hd⟩⟩ := raw_at I3 e3
    have lp : LP (xfw X tbl) H3 [(x, y)] [(kd x, w)] := .cons ⟨hl, rfl, yv, ry, rw'⟩ .nil
    have := lf_val hl rx
    subst this
    refine ⟨[(kd x, w)], ⟨kV_is ru, rfl, True.intro⟩, ⟨o, #[], 0, ho, hc, hd, fun e he => absurd he (by simp), .nil, List.nodup_nil⟩, fun h' dd' sb => ?_⟩
    obtain ⟨o', es, ep, ho', hc', hdt, ko, pr, _⟩ := dd'
    exact fin s3 H3 S3 x y h' _ es ep I3 sm3 a3 (lp_rent lp pr fun e' he => ko e' (Array.mem_toList_iff.mp he)) sb ⟨o', ho', hc', hdt⟩ q
  | false =>
    rw [arm_eval_Dict, zip_pairTrees [some k] [v] X.env pos rfl rfl, dictDisplay_pairs (pairTrees [some k] [v] X.env pos) (List.cons_ne_nil _ _) (by show 1 < 17; decide)]
    refine wpAny_bind (wpAny_standAt (wpAny_bind (wpAny_subDictH (knd := nestedKind X.prog X.w) (show X.A.units + 8 < cLine by omega) (show 1 ≤ 15 by decide) (thn pairs fun ws s3 ⟨u, w, x, y, S3, H3, xv, yv, ew, I3, rx, ru, ry, rw', sm3, a3, hl, q⟩ => ?_))))
    subst ew
    have hl : isTk x = true := by simpa using hl
    have e3 : H3 s.heap.objs.size = some (rawO s.heap.objs.size ⟨#[], 0⟩) := a3.keep _ _ hS (fun _ z => nomatch z) upd_same
    obtain ⟨ns, ⟨o, ho, hc, hd⟩⟩ := raw_at I3 e3
    obtain ⟨b, rfl⟩ := tk_val hl rx
    cases (show u = Value.ref b from ru)
    obtain ⟨qk, eq, his⟩ := tk_is I3 hl rx
    have tp : TP (xfw X tbl) H3 [(x, y)] [(qk, b, w)] := .cons ⟨hl, eq, rx, yv, ry, rw'⟩ .nil
    refine ⟨[(qk, b, w)], ⟨rfl, rfl, his, True.intro⟩, ⟨o, #[], 0, ho, hc, hd, rfl, fun e he => (nomatch he), List.nodup_nil⟩, fun h' tk dd' sb => wpAny_pure ?_⟩
    obtain ⟨o', es, ep, ho', hc', hdt, hes, _, _⟩ := dd'
    have hes' : es.toList = [(qk, b, w)].map (entryOfKey (nestedKind X.prog X.w)) := hes
    exact fin s3 H3 S3 x y h' tk es ep I3 sm3 a3 (by rw [hes']; exact tp_rent (P := X.prog) tp) sb ⟨o', ho', hc', hdt⟩ q⟩
end
end DL
namespace DL
open PySem PySem.Spec PyProof.Rows L2 LamX
theorem meets_enum_tup (t : Addr) (items : Array Value) :
    Meets (Builtin.«enumerate.__new__» ⟨[.type "enumerate", .ref t], []⟩) (fun _ R s => s.heap.IsTuple t items ∧
      R (.ok (.ret (.ref (s.heap.objs.size + 1)))) { s with heap := (s.heap.push { cls := .type "tuple_iterator", data := .fields #[.ref t, .int 0 0] }).push { cls := .type "enumerate", data := .fields #[.none, .bool false, .ref s.heap.objs.size, rawInt 0, .none, .none] } }) :=
  .of_wp fun prog w A R s h => by
    obtain ⟨hp, g, d, tk, os⟩ := s
    obtain ⟨h1, h⟩ := h
    have hz : (hp.push { cls := .type "tuple_iterator", data := .fields #[.ref t, .int 0 0] }).objs.size = hp.objs.size + 1 := Heap.size_push ..
    have sube := sub_enumerate
    have q1 : ∀ {A' : Around} {E : Value → Shared → Prop} {Q : Value → Shared → Prop}, Q (.ref hp.objs.size) ⟨hp.push { cls := .type "tuple_iterator", data := .fields #[.ref t, .int 0 0] }, g, d, tk, os⟩ → wpAny (model prog w) A' (pyIter (.ref t)) Q E ⟨hp, g, d, tk, os⟩ :=
      fun q => wpAny_pyIter_tuple h1 q
    wp_walk using q1
    refine wpAny_stack_any fun stk => wpAny_pure ?_
    split
    · rename_i cc _ _ _ _ _
      cases (cc == Value.type "enumerate")
      · wp_walk using q1
        exact ⟨_, rfl, by rw [hz]; exact h⟩
      · wp_walk using q1
        exact ⟨_, rfl, by rw [hz]; exact h⟩
    · wp_walk using q1
      exact ⟨_, rfl, by rw [hz]; exact h⟩
theorem call_enum_tup {prog : Program} {w : World} {A : Around} {E : Value → Shared → Prop} {s : Shared} {t : Addr} {items : Array Value} {Q : Value → Shared → Prop} (h1 : s.heap.IsTuple t items)
    (h : ∀ h', IsEnum h' (s.heap.objs.size + 1) s.heap.objs.size 0 .none → h'.IsTupleIter s.heap.objs.size t 0 → (∀ b o, s.heap.get? b = some o → h'.get? b = some o) → Q (.ref (s.heap.objs.size + 1)) { s with heap := h' }) :
    wpAny (model prog w) A (call (.type "enumerate") [.ref t]) Q E s := by
  refine callType_new F.called_enumerate (by decide) (F.typeCall_enumerate_1 _) (F.newCall_enumerate_1 _) (fun obj => F.args_object_init_2 obj _) F.entry_enumerate_new (meets_enum_tup t items) ⟨h1, ?_⟩
  have hz : (s.heap.push { cls := .type "tuple_iterator", data := .fields #[.ref t, .int 0 0] }).objs.size = s.heap.objs.size + 1 := Heap.size_push ..
  have he : IsEnum ((s.heap.push { cls := .type "tuple_iterator", data := .fields #[.ref t, .int 0 0] }).push { cls := .type "enumerate", data := .fields #[.none, .bool false, .ref s.heap.objs.size, rawInt 0, .none, .none] }) (s.heap.objs.size + 1) s.heap.objs.size 0 .none := by
    have z := Heap.get?_push_size (s.heap.push { cls := .type "tuple_iterator", data := .fields #[.ref t, .int 0 0] }) (o := { cls := .type "enumerate", data := .fields #[.none, .bool false, .ref s.heap.objs.size, rawInt 0, .none, .none] }) rfl
    rw [hz] at z
    exact z
  exact ⟨⟨_, he, rfl⟩, h _ he ⟨_, Heap.get?_push_of_some _ (Heap.get?_push_size _ rfl), rfl, rfl⟩ fun b o x => Heap.get?_push_of_some _ (Heap.get?_push_of_some _ x)⟩
theorem enum_end_tup {prog : Program} {w : World} {A : Around} {E : Value → Shared → Prop} {s : Shared} {e it t : Addr} {i : Nat} {items : Array Value} {k : Int} {old : Value} {Q : Option Value → Shared → Prop} (hh : A.handled = none) (he : IsEnum s.heap e it k old) (hit : s.heap.IsTupleIter it t i)
    (ht : s.heap.IsTuple t items) (hi : items.size ≤ i) (hQ : ∀ h', Heap.ExtBut it s.heap h' → Q none { s with heap := h' }) : wpAny (model prog w) A (pyNext (.ref e)) Q E s := by
  have ty : s.TypeIs (.ref e) "enumerate" := ⟨_, he, rfl⟩
  unfold pyNext
  refine wpAny_bind (wpAny_attempt (wpAny_callSpecial?_slot (name := Str.ofString "__next__") ty F.slot_enumerate_next (wpAny_call_entry F.slot_enumerate_next ty F.entry_enumerate_next ?_ (F.args_enumerate_next_1 _))))
  show wpAny _ _ (field (.ref e) 2 >>= _) _ _ _
  refine wpAny_bind (wpAny_field he rfl (x := .ref it) rfl (wpAny_bind (wpAny_nextOf_tuple_end (show A.in1.handled = none from hh) hit ht (Array.getElem?_eq_none hi) fun h' x eb ⟨o, ho, hc⟩ => ?_)))
  exact wpAny_bind (wpAny_isInstance (T := "StopIteration") (b := true) ⟨o, ho, hc⟩ isSubtype_stop (wpAny_pure (hQ _ eb)))
/-- the items of the tuple at a with their numbers, in new pairs -/
def IteT (K : PySem.W.Frag) (a : Addr) : It :=
  ⟨fun i H => ∃ (xs : List V) (x : V), SqT K H a xs ∧ xs[i]? = some x, fun i H v H' => ∃ T x, v = .ref T ∧ H T = none ∧ H' = upd H T (.tup [.int (i : Nat), x]) ∧ ∀ xs, SqT K H a xs → xs[i]? = some x,
   fun i H => ∃ xs : List V, SqT K H a xs ∧ xs.length ≤ i⟩
theorem turn_enumT {P : Program} {w : World} {K : PySem.W.Frag} {elts : List Expr} {kk : Nat} {tpos : Pos} (a e it : Addr) :
    Turn P w K (.Tuple elts kk tpos) (IteT K a) [e, it] e (fun i h => (∃ old, IsEnum h e it ((i : Nat) : Int) old) ∧ h.IsTupleIter it a i ∧ e ≠ it ∧ a ≠ it ∧ a ≠ e) where
  mem := List.mem_cons_self
  obj := fun i h hst b hb => by
    obtain ⟨⟨old, he⟩, ⟨o, ho, hc, hd⟩, _⟩ := hst
    rcases List.mem_cons.mp hb with z | z
    · rw [z]; exact ⟨_, he, fun v q => nomatch q⟩
    · rw [List.mem_singleton.mp z]; exact ⟨o, ho, fun v q => by rw [hd] at q; cases q⟩
  keep := fun i h h' hst k => let ⟨⟨old, he⟩, hi, hne⟩ := hst; ⟨⟨old, k e List.mem_cons_self _ he⟩, hi.at fun o q => k it (List.mem_cons_of_mem _ (List.mem_singleton.mpr rfl)) o q, hne⟩
  item := by
    rintro X rfl rfl rfl hc i pins s σ H E I hf ⟨⟨old, he⟩, hit, hne, ha1, ha2⟩ ⟨xs, x, hq, hx⟩
    obtain ⟨its, rv, p, hz⟩ := I.tuple hq
    obtain ⟨u, hu, ru⟩ := rv.get hx
    have hel : e < s.heap.objs.size := Heap.lt_size he
    have hil : it < s.heap.objs.size := by obtain ⟨_, q, _⟩ := hit; exact Heap.lt_size q
    have hil' : i < its.toArray.size := by
      have := (List.getElem?_eq_some_iff.mp hu).1
      simpa using this
    have D := Draws.tuple (prog := X.prog) (w := X.w) (A := X.A.in1) (I.ok.hd hc) it a ha1 its.toArray
    refine wpAny_pyNext_enum_itemD D he ⟨hit, p⟩ hil' hne (by simp [hne, Ne.symm ha2]) fun y h' tk hy ho hst' hT hsz hk => ?_
    have : y = u := by
      rw [List.getElem?_toArray, hu] at hy
      exact (Option.some.inj hy).symm
    subst this
    refine ⟨_, rfl, wpAny_letOwnedTupleGo_enum (s := { s with heap := h', toks := tk + 1 }) ho fun h'' he' sb => ?_⟩
    have hT2 : h''.get? s.heap.objs.size = some { cls := .type "tuple", data := .seq #[.int i tk, y] } := (sb.2 _ (Nat.ne_of_gt hel)).trans hT
    have new : ObjOk X.prog X.w (upd H s.heap.objs.size (.tup [.int (i : Nat), x])) h'' s.heap.objs.size (.tup [.int (i : Nat), x]) :=
      ⟨by show 2 ≤ sizeLine; decide, [.int i tk, y], .cons ⟨_, rfl⟩ (.cons ru .nil), ⟨_, hT2, rfl, _, rfl⟩⟩
    have I1 : Inv X pins σ (upd H s.heap.objs.size (.tup [.int (i : Nat), x])) { s with heap := h'', toks := tk + 1 } :=
      I.turnedNew (ch := [e, it]) (fun b ob hb q => (sb.2 b (fun z => hb (by rw [z]; exact List.mem_cons_self))).trans (hk b ob (fun z => hb (by rw [z]; exact List.mem_cons_self)) (fun z => hb (by rw [z]; exact List.mem_cons_of_mem _ (List.mem_singleton.mpr rfl))) q)) hf (Nat.le_refl _) new
    refine ⟨.ref s.heap.objs.size, _, I1, rfl, ⟨_, x, rfl, I.hok.fresh (Nat.le_refl _), rfl, fun ys hy => by rw [I.tuple_inj hy hq]; exact hx⟩, ⟨⟨y, ?_⟩, hst'.1.at fun o q => (sb.2 it (Ne.symm hne)).trans q, hne, ha1, ha2⟩, fun b hb => ?_⟩
    · rw [show ((i + 1 : Nat) : Int) = (i : Int) + 1 by omega]; exact he'
    · have hb' : b < s.heap.objs.size := by
        rcases List.mem_cons.mp hb with z | z
        · rw [z]; exact hel
        · rw [List.mem_singleton.mp z]; exact hil
      rw [upd_ne (Nat.ne_of_lt hb')]
      exact (hf b hb).1
  done := by
    rintro X rfl rfl rfl hc i pins s σ H E I hf ⟨⟨old, he⟩, hit, hne, ha1, ha2⟩ ⟨xs, hq, hx⟩
    obtain ⟨its, rv, p, hz⟩ := I.tuple hq
    obtain ⟨f0, f1, f2, f3, f4, f5⟩ := hf it (List.mem_cons_of_mem _ (List.mem_singleton.mpr rfl))
    exact enum_end_tup (I.ok.hd hc) he hit p (by have := rv.length; simp; omega) fun h' eb => ⟨rfl, I.turned (t' := s.toks) (fun b o hb q => eb b o hb q) f0 f1 f3 f4 f5⟩
  self := fun A i s Q E hst h => let ⟨⟨_, he⟩, _⟩ := hst; wpAny_pyIter_enum he h
theorem ir_enumT {X : Cx} {e : Expr} {ta : TA} {p pos tpos : Pos} {elts : List Expr} {kk : Nat} (hg : Gl X "enumerate") (hm : X.mg "enumerate" = none) (ha : PA X [e] ta) (hs : starEach [e] X.env = [(false, eval e X.env)] := by rfl) :
    PI X (.Tuple elts kk tpos) (.Call (.Name "enumerate" p) [e] [] pos) (fun σ H R => ta σ H fun vs H1 => (∃ a xs, vs = [.ref a] ∧ SqL X.K H1 a xs ∧ R (Ite X.K a) H1) ∨ ∃ a xs, vs = [.ref a] ∧ SqT X.K H1 a xs ∧ R (IteT X.K a) H1) := by
  refine ⟨fun pins s σ H R I h => ?_⟩
  refine Call_ (ld_blt I hg hm boot_enumerate (PyProof.Rows.callWith_type1 (thn (ha.run pos pins s σ H _ I h) fun us s1 ⟨vs, H1, I1, r1, q1⟩ => ?_) hs rfl))
  rcases q1 with ⟨a, xs, rfl, hq, q⟩ | ⟨a, xs, rfl, hq, q⟩
  · cases r1 with
    | cons r rr =>
      cases rr
      cases r
      obtain ⟨its, rv, p', hz⟩ := I1.list hq
      refine call_enumerate_list p'.isList fun h' he hit hsz hk => wpAny_pyIter_enum he ?_
      refine ⟨s1.heap.objs.size + 1, [s1.heap.objs.size + 1, s1.heap.objs.size], _, _, H1, rfl, I1.kept (t' := s1.toks) hk, turn_enum a (s1.heap.objs.size + 1) s1.heap.objs.size, ⟨⟨.none, he⟩, hit, Nat.succ_ne_self _⟩, fun b hb => ?_, q⟩
      have hle : s1.heap.objs.size ≤ b := by
        rcases List.mem_cons.mp hb with z | z
        · rw [z]; exact Nat.le_add_right _ _
        · rw [List.mem_singleton.mp z]; exact Nat.le_refl _
      exact I1.fpOk hle (I1.hok.fresh hle)
  · cases r1 with
    | cons r rr =>
      cases rr
      cases r
      obtain ⟨its, rv, p', hz⟩ := I1.tuple hq
      have hlt : a < s1.heap.objs.size := let ⟨_, e1, _⟩ := p'; Heap.lt_size e1
      refine call_enum_tup (show s1.heap.IsTuple a its.toArray from p') fun h' he hit hk => wpAny_pyIter_enum he ?_
      refine ⟨s1.heap.objs.size + 1, [s1.heap.objs.size + 1, s1.heap.objs.size], _, _, H1, rfl, I1.kept (t' := s1.toks) hk, turn_enumT a (s1.heap.objs.size + 1) s1.heap.objs.size, ⟨⟨.none, he⟩, hit, Nat.succ_ne_self _, Nat.ne_of_lt hlt, Nat.ne_of_lt (Nat.lt_succ_of_lt hlt)⟩, fun b hb => ?_, q⟩
      have hle : s1.heap.objs.size ≤ b := by
        rcases List.mem_cons.mp hb with z | z
        · rw [z]; exact Nat.le_add_right _ _
        · rw [List.mem_singleton.mp z]; exact Nat.le_refl _
      exact I1.fpOk hle (I1.hok.fresh hle)
theorem jok_enumT {K : FW} {H0 : Hp} {a : Addr} {xs : List D} {vs : List V} {stay : DS → Prop} (h1 : SqT K H0 a vs) (r : RvL K H0 xs vs) : JOk K H0 (numL xs) stay (IteT K a) := by
  intro i S H p hs st
  refine ⟨fun hi => ⟨vs, p.sqT h1, by rw [← r.length]; rw [numL, List.length_map, List.length_range] at hi; exact hi⟩, fun d hd => ?_⟩
  obtain ⟨x, hx, rfl⟩ := numL_get hd
  obtain ⟨v, h2, h3⟩ := r.get hx
  refine ⟨⟨vs, v, p.sqT h1, h2⟩, fun x' H' ⟨T, y, e1, e2, e3, e4⟩ => ?_⟩
  have := e4 vs (p.sqT h1)
  rw [h2] at this
  cases this
  subst e1 e3
  exact ⟨.tup (.inl (.inl upd_same)) (.cons (.int _) (.cons ((Stp.laid (S := S) e2).rv (p.rv h3)) .nil)), hs.laid e2, Stp.laid e2⟩
def dEnum (t : DA) : DI := fun δ S Q => t δ S fun ds S1 => match ds with
  | [.tup xs] => Q (numL xs) (fun _ => True) S1
  | [x] => match lstOf S1 x with
    | some xs => Q (numL xs) (fun S' => lstOf S' x = some xs) S1
    | none => False
  | _ => False
theorem qi_enum {X : Cx} {tbl : Tbl} {e : Expr} {t : DA} {p pos tpos : Pos} {elts : List Expr} {kk : Nat} (hg : Gl X "enumerate") (hm : X.mg "enumerate" = none) (ha : PA X [e] (liftA (xfw X tbl) t)) (hs : starEach [e] X.env = [(false, eval e X.env)] := by rfl) :
    PI X (.Tuple elts kk tpos) (.Call (.Name "enumerate" p) [e] [] pos) (liftI (xfw X tbl) (dEnum t)) :=
  PI.imp (ir_enumT hg hm ha hs) fun σ H R ⟨δ, S, Q0, hr, hs, h, hq⟩ => ⟨δ, S, _, hr, hs, h, fun ds S1 vs H1 h1 r1 s1 a1 => by
    have gen : ∀ x, ds = [x] → (match lstOf S1 x with
        | some xs => Q0 (numL xs) (fun S' => lstOf S' x = some xs) S1
        | none => False) → (∃ a xs, vs = [.ref a] ∧ SqL X.K H1 a xs ∧ R (Ite X.K a) H1) ∨ ∃ a xs, vs = [.ref a] ∧ SqT X.K H1 a xs ∧ R (IteT X.K a) H1 := fun x ex h => by
      subst ex
      obtain ⟨v, rfl, rd⟩ := r1.one
      split at h
      · rename_i xs e
        obtain ⟨a, ws, rfl, hv, rr⟩ := lst_of s1 rd e
        exact .inl ⟨a, ws, rfl, hv, hq _ _ _ _ _ h s1 a1 (jok_enum (stay_lst rd))⟩
      · exact h.elim
    match ds, h1, r1, gen with
    | [.tup xs], h1, r1, _ =>
      obtain ⟨v, rfl, rd⟩ := r1.one
      cases rd with
      | tup q rr => exact .inr ⟨_, _, rfl, q, hq _ _ _ _ _ h1 s1 a1 (jok_enumT q rr)⟩
    | [.non], h1, r1, gen => exact gen _ rfl h1
    | [.bl _], h1, r1, gen => exact gen _ rfl h1
    | [.int _], h1, r1, gen => exact gen _ rfl h1
    | [.str _], h1, r1, gen => exact gen _ rfl h1
    | [.ref _], h1, r1, gen => exact gen _ rfl h1
    | [.ty _], h1, r1, gen => exact gen _ rfl h1
    | [.fn _], h1, r1, gen => exact gen _ rfl h1
    | [.fl _], h1, r1, gen => exact gen _ rfl h1⟩
def dgTup (n : Nat) (t : DGs) : DG := fun d δ S Q => match d with
  | .tup xs => xs.length = n ∧ t xs δ S Q
  | d => match lstOf S d with
    | some xs => xs.length = n ∧ t xs δ S Q
    | none => False
theorem qg_tup {X : Cx} {tbl : Tbl} {pos : Pos} {es : List Expr} {k : Nat} {g : DGs} {n : Nat} {sl : List Nat} (hc : X.calm = true) (h : PGs X es (liftGs (xfw X tbl) sl g))
    (hn : (assignEach es X.env).length = n := by rfl) (hst : (assignEach es X.env).findIdx? (·.1) = none := by rfl) : PG X (.Tuple es k pos) (liftG (xfw X tbl) sl (dgTup n g)) :=
  ⟨fun pins s σ H v u Q I r ⟨d, δ, S, Q0, rv, rst, sim, hw, hq⟩ => by
    have lst : (match lstOf S d with
        | some xs => xs.length = n ∧ g xs δ S Q0
        | none => False) → wpAny (model X.prog X.w) X.A (assign (.Tuple es k pos) X.env u) (fun _ s' => ∃ σ' H', Inv X pins σ' H' s' ∧ Q σ' H') X.xe s := fun hw => by
      split at hw
      · rename_i xs e
        obtain ⟨a, vs, rfl, hv, rr⟩ := lst_of sim rv e
        exact (pg_unl hc h hn hst).run pins s σ H _ u Q I r ⟨a, vs, rfl, hv, by rw [← rr.length]; exact hw.1, xs, δ, S, Q0, rr, rst, sim, hw.2, hq⟩
      · exact hw.elim
    cases d with
    | tup xs => exact (qg_tup0 hc h hn hst).run pins s σ H v u Q I r ⟨.tup xs, δ, S, Q0, rv, rst, sim, hw, hq⟩
    | _ => exact lst hw⟩
end DL
namespace DL
open PySem PySem.Spec PyProof.Rows L2 LamX
def ddInt (ns : List Int) : List Int := ns.foldl step_dedup []
def dLenSetI (te : DE) : DE := fun δ S Q => te δ S fun x S1 => ∃ p, ∃ ns : List Int, x = .ref p ∧ S1 p = some (.lst (ns.map D.int)) ∧ ns.length < 4000 ∧ Q (.int (ddInt ns).length) S1
theorem firstMet_all (ns : List Int) : firstMet (fun i => ns.getD i 0) ns.length = ddInt ns := by
  unfold firstMet ddInt
  congr 1
  apply List.ext_getElem (by simp)
  intro i h1 h2
  simp [List.getD_eq_getElem?_getD, List.getElem?_eq_getElem h2]
theorem step_nodup {σ : List Int} {v : Int} (h : σ.Nodup) : (step_dedup σ v).Nodup := by
  unfold step_dedup
  split
  · exact h
  · rename_i g
    rw [List.nodup_append]
    refine ⟨h, by simp, fun a ha b hb => ?_⟩
    simp only [List.mem_singleton] at hb
    subst hb
    intro e
    subst e
    exact g (List.any_eq_true.mpr ⟨a, ha, by simp⟩)
theorem dd_go : ∀ (ns acc : List Int), acc.Nodup → (ns.foldl step_dedup acc).length ≤ acc.length + ns.length ∧ ((ns.foldl step_dedup acc).length = acc.length + ns.length ↔ (acc ++ ns).Nodup)
  | [], acc, h => by simp [h]
  | n :: ns, acc, h => by
    have ih := dd_go ns (step_dedup acc n) (step_nodup h)
    have hl := step_length acc n
    simp only [List.foldl_cons, List.length_cons]
    by_cases c : acc.any (· == n) = true
    · rw [if_pos c] at hl
      have hm : n ∈ acc := by
        obtain ⟨x, hx, e⟩ := List.any_eq_true.mp c
        rw [← beq_iff_eq.mp e]; exact hx
      refine ⟨by omega, ⟨fun e => by omega, fun e => ?_⟩⟩
      rw [List.nodup_append] at e
      exact absurd rfl (e.2.2 n hm n (by simp))
    · rw [if_neg c] at hl
      have es : step_dedup acc n = acc ++ [n] := by unfold step_dedup; rw [if_neg c]
      refine ⟨by omega, ?_⟩
      have := ih.2
      rw [es, List.append_assoc, List.singleton_append] at this
      rw [← this, es]
      simp only [List.length_append, List.length_singleton]
      omega
theorem ddInt_iff (ns : List Int) : (ddInt ns).length = ns.length ↔ ns.Nodup := by
  have := (dd_go ns [] List.nodup_nil).2
  simpa [ddInt] using this
theorem i_lenSet {te : DE} (h : te δ S fun x S1 => ∃ p, ∃ ns : List Int, x = .ref p ∧ S1 p = some (.lst (ns.map D.int)) ∧ ns.length < 4000 ∧ Q (.int (ddInt ns).length) S1) : dLenSetI te δ S Q := h
section
variable {X : Cx} {tbl : Tbl}
theorem qe_lenSet {a : Expr} {ta : DE} {p p2 q pos : Pos} (hc : X.calm = true) (hm : X.mg "len" = none) (hm2 : X.mg "set" = none) (hg : Gl X "len" := by rfl) (hg2 : Gl X "set" := by rfl) (ha : PE X a (liftE (xfw X tbl) ta))
    (na : starEach [a] X.env = (false, eval a X.env) :: starEach [] X.env := by rfl) : PE X (.Call (.Name "len" p) [.Call (.Name "set" p2) [a] [] q] [] pos) (liftE (xfw X tbl) (dLenSetI ta)) := by
  refine ⟨fun pins s σ H Q I ⟨δ, S, Q0, hr, hs, h, hq⟩ => ?_⟩
  refine Call_ (ld_blt I hg hm PySem.boot_len ?_)
  refine PyProof.Rows.callWith_builtin1 (PyProof.Rows.args_cons ?_ rfl) rfl rfl
  refine Call_ (ld_blt I hg2 hm2 PyProof.Rows.boot_set ?_)
  refine PyProof.Rows.callWith_type1 (PyProof.Rows.args_cons (thn (ha.run pins s σ H (fun v H1 => ∃ x S1, Rv (xfw X tbl) H1 x v ∧ Sim (xfw X tbl) S1 H1 ∧ Stp S H S1 H1 ∧ ∃ p, ∃ ns : List Int, x = .ref p ∧ S1 p = some (.lst (ns.map D.int)) ∧ ns.length < 4000 ∧ Q0 (.int (ddInt ns).length) S1) I ⟨δ, S, _, hr, hs, h, fun x S1 v H1 h1 r1 s1 a1 => ⟨x, S1, r1, s1, a1, h1⟩⟩) fun v s1 ⟨xv, H1, I1, r1, x, S1, rx, sm1, a1, l, ns, ex, hl, hb, q1⟩ => PyProof.Rows.args_nil ?_) na) na rfl
  subst ex
  cases rx
  cases (show v = Value.ref l from r1)
  obtain ⟨vs, hv, rl⟩ := sm1 _ _ hl
  have hvs : vs = ns.map V.int := rvl_ints rl
  subst hvs
  obtain ⟨its, r, pl, hz⟩ := I1.list (.inl (.of hv))
  have hl : its.toArray.size = ns.length := by rw [List.size_toArray, ← r.length, List.length_map]
  refine call_set_list (I1.ok.hd hc) pl.isList (ns := ns) (by simpa using r.ints) (by unfold scanBound; omega) fun h' tk hS hk => ?_
  rw [hl, firstMet_all] at hS
  refine PyProof.Rows.args_nil ?_
  obtain ⟨o, es, ep, t, ho, hex, hd, _, _, _, hf, hn⟩ := hS
  have I2 : Inv X pins σ H1 { s1 with heap := h', toks := tk } := I1.kept fun b o e => hk b o (Heap.lt_size e) e
  have hle : (ddInt ns).length ≤ ns.length := by have := (dd_go ns [] List.nodup_nil).1; simpa [ddInt] using this
  refine call_len_set ho hex hd hf (by rw [hn]; omega) ⟨.int (ddInt ns).length, H1, I2.tok _, ⟨_, by rw [hn]⟩, hq _ _ _ _ q1 (.int _) sm1 a1⟩
end
def truD : D → Option Bool
  | .non => some false
  | .bl b => some b
  | .int i => some (i != 0)
  | _ => none
def dOrT (a b : DE) : DE := fun δ S Q => a δ S fun x S1 => match truD x with
  | some true => Q x S1
  | some false => b δ S1 Q
  | none => False
def orT (x : D) (S : DS) (bq : Prop) (Q : DK) : Prop := match truD x with
  | some true => Q x S
  | some false => bq
  | none => False
section
variable {X : Cx} {tbl : Tbl} {a b : Expr} {ta tb : DE} {rest : List Expr} {pos : Pos}
theorem qe_orT (ha : PE X a (liftE (xfw X tbl) ta)) (hb : PE X (.BoolOp .Or (b :: rest) pos) (liftE (xfw X tbl) tb)) : PE X (.BoolOp .Or (a :: b :: rest) pos) (liftE (xfw X tbl) (dOrT ta tb)) :=
  PE.imp (pe_orT ha hb) fun σ H Q ⟨δ, S, Q0, hr, hs, h, hq⟩ => ⟨δ, S, _, hr, hs, h, fun k S1 v H1 h1 r1 s1 a1 => by
    have yes : truD k = some true → Q0 k S1 → Q v H1 := fun _ h1 => hq _ _ _ _ h1 r1 s1 a1
    have no : (match truD k with | some true => Q0 k S1 | some false => tb δ S1 Q0 | none => False) → truD k = some false → liftE (xfw X tbl) tb σ H1 Q := fun h1 e => by
      rw [e] at h1
      exact ⟨δ, S1, _, hr.stp a1, s1, h1, fun k S2 v H2 h2 r2 s2 a2 => hq k S2 v H2 h2 r2 s2 (a1.trans a2)⟩
    cases k with
    | non => cases r1; exact ⟨false, rfl, by rw [if_neg Bool.false_ne_true]; exact no h1 rfl⟩
    | bl c =>
      cases r1
      refine ⟨c, rfl, ?_⟩
      cases c with
      | true => rw [if_pos rfl]; exact yes rfl h1
      | false => rw [if_neg Bool.false_ne_true]; exact no h1 rfl
    | int i =>
      cases r1
      refine ⟨i != 0, rfl, ?_⟩
      cases hc : (i != 0) with
      | true =>
        rw [if_pos rfl]
        have e : truD (.int i) = some true := by show some (i != 0) = _; rw [hc]
        have h1 : (match truD (.int i) with | some true => Q0 (.int i) S1 | some false => tb δ S1 Q0 | none => False) := h1
        rw [e] at h1
        exact yes e h1
      | false =>
        rw [if_neg Bool.false_ne_true]
        have e : truD (.int i) = some false := by show some (i != 0) = _; rw [hc]
        exact no h1 e
    | _ => exact h1.elim⟩
end
section
variable {a b : DE} {δ : Loc} {S : DS} {Q : DK}
theorem i_orT (h : a δ S fun x S1 => orT x S1 (b δ S1 Q) Q) : dOrT a b δ S Q := h
theorem orT_non {bq : Prop} (h : bq) : orT .non S bq Q := h
theorem orT_int {i : Int} {bq : Prop} (h0 : i = 0 → bq) (h1 : i ≠ 0 → Q (.int i) S) : orT (.int i) S bq Q := by
  by_cases h : i = 0
  · subst h; exact h0 rfl
  · have e : truD (.int i) = some true := by show some (i != 0) = _; simp [h]
    unfold orT
    rw [e]; exact h1 h
end
end DL
namespace DL
open PySem PySem.Spec PyProof.Rows L2 LamX
section
variable {X : Cx} {tbl : Tbl} {pins : List (Addr × Obj)} {σ : L2.St} {H : Hp} {s : Shared} {S : DS} {a : Addr} {st : DStm} {kvs : List (D × D)} {A : Around} {E : Value → Shared → Prop}
theorem dd_dictSet {y v : V} {u r : Value} {k d : D} {Q : Unit → Shared → Prop} (hu : A.units + 100 < cLine) (I : Inv X pins σ H s) (hs : Sim (xfw X tbl) S H) (n : S a = none) (ea : H a = some (rawO a st)) (re : REnt (xfw X tbl) H kvs st.es.toList) (hn : (kvs.map fun p => nk p.1).Nodup)
    (hk : kOk kvs k) (rk : Rv (xfw X tbl) H k y) (ry : RelV y u) (rd : Rv (xfw X tbl) H d v) (rv : RelV v r) (hl : kvs.length < sizeLine)
    (h : ∀ st' s', Inv X pins σ (upd H a (rawO a st')) s' → REnt (xfw X tbl) (upd H a (rawO a st')) (dput kvs k d) st'.es.toList → ((dput kvs k d).map fun p => nk p.1).Nodup → Sim (xfw X tbl) S (upd H a (rawO a st')) → Q () s') :
    wpAny (model X.prog X.w) A (dictSet a u r) Q E s := by
  have hs1 : Sim (xfw X tbl) (dupd S a (.dct st kvs)) H := hs.learn ⟨ea, re, Nat.le_of_lt hl, hn⟩
  have e : dupd S a (.dct st kvs) a = some (.dct st kvs) := dupd_same
  have hl' : (dput kvs k d).length ≤ sizeLine := by have := length_dput kvs k d; omega
  have fin : ∀ st' s', Inv X pins σ (upd H a (rawO a st')) s' → Sim (xfw X tbl) (dupd (dupd S a (.dct st kvs)) a (.dct st' (dput kvs k d))) (upd H a (rawO a st')) → Q () s' := fun st' s' i1 i2 => by
    obtain ⟨_, q1, _, q2⟩ := i2 a _ dupd_same
    refine h st' s' i1 q1 q2 ⟨fun b o eb => i2 b o ?_, i2.tab⟩
    have hb : b ≠ a := fun z => by subst z; rw [n] at eb; cases eb
    rw [dupd_ne hb, dupd_ne hb]; exact eb
  rcases hk with ⟨h1, h2⟩ | ⟨h1, h2⟩
  · obtain ⟨vs, lp, dd⟩ := dct_lf I hs1 e h2
    have hz : vs.length ≤ sizeLine := by rw [← Paired.length lp]; omega
    have := lf_val h1 rk
    subst this
    refine wpAny_dictSet_pairs (hsz := hz) (kV_is ry) dd fun h' dd' sb => ?_
    obtain ⟨o, es, ep, ho, hc, hdt, ko, pr, _⟩ := dd'
    obtain ⟨i1, i2, _⟩ := dct_write (t' := s.toks + 1) (st' := ⟨es, ep⟩) I hs1 e sb ⟨o, ho, hc, hdt⟩ (lp_rent (dput_lp rd rv lp h1) pr fun e' he => ko e' (Array.mem_toList_iff.mp he)) hl' (dput_nodup hn)
    exact fin ⟨es, ep⟩ _ i1 i2
  · obtain ⟨xs, tp, dd⟩ := dct_tp I hs1 e h2
    have hz : xs.length ≤ sizeLine := by rw [← Paired.length tp]; omega
    obtain ⟨b, rfl⟩ := tk_val h1 rk
    cases (show u = Value.ref b from ry)
    obtain ⟨q, eq, his⟩ := tk_is I h1 rk
    refine wpAny_dictSet_heap (hsz := hz) (show A.units + 8 < cLine by omega) his dd fun h' dd' sb => ?_
    obtain ⟨o, es, ep, ho, hc, hdt, hes, _, _⟩ := dd'
    have re' := tp_rent (P := X.prog) (dput_tp rd rv tp h1 eq rk)
    obtain ⟨i1, i2, _⟩ := dct_write (t' := s.toks + (nestedKind X.prog X.w).draws q) (st' := ⟨es, ep⟩) I hs1 e sb ⟨o, ho, hc, hdt⟩ (by show REnt _ _ _ es.toList; rw [hes]; exact re') hl' (dput_nodup hn)
    exact fin ⟨es, ep⟩ _ i1 i2
end
/-- what a write to the new dict has to bring about, whatever the block it is done in -/
def Wrt (K : FW) (p : Addr) (y z : V) (H : Hp) (Nx : Hp → Prop) : Prop := ∃ (S : DS) (st : DStm) (kvs : List (D × D)) (k d : D), Sim K S H ∧ S p = none ∧ H p = some (rawO p st) ∧ REnt K H kvs st.es.toList ∧ (kvs.map fun q => nk q.1).Nodup ∧ kOk kvs k ∧ Rv K H k y ∧ Rv K H d z ∧ kvs.length < sizeLine ∧
  ∀ st', REnt K (upd H p (rawO p st')) (dput kvs k d) st'.es.toList → ((dput kvs k d).map fun q => nk q.1).Nodup → Sim K S (upd H p (rawO p st')) → Nx (upd H p (rawO p st'))
def tDcW (K : FW) (wi : TI) (g : TG) (tt : TT) (tk tv : TE) (vs : List Nat) : TE := fun σ H Q => wi σ H fun J H1 => ∀ p, H1 p = none → ∃ W : Nat → Nat → Hp → Prop, (∃ m, W 0 m (upd H1 p (rawO p ⟨#[], 0⟩))) ∧ ∀ i m H, W i m H →
  (J.stop i H ∧ Q (.ref p) H) ∨ (J.go i H ∧ ∃ Nx : Hp → Prop, (∀ H', Nx H' → ∃ m', m' < m ∧ W (i + 1) m' H') ∧ ∀ x H', J.yld i H x H' → g x (wipe σ vs) H' fun σ2 H2 => wipe σ2 vs = wipe σ vs ∧ tt σ2 H2 fun b H3 =>
    if b = true then tk σ2 H3 fun y H4 => tv σ2 H4 fun z H5 => Wrt K p y z H5 Nx else Nx H3)
section
variable {X : Cx} {tbl : Tbl} {kx vx tg iter : Expr} {ifs : List Expr} {scope : Scope} {own : List (Str × Nat)} {pos : Pos} {wi : TI} {g : TG} {tt : TT} {tk tv : TE}
/-- the comprehension, each turn writing through `Wrt`; what is done with the dict stands in hR -/
theorem dcW_core {pins : List (Addr × Obj)} {s : Shared} {σ : L2.St} {H : Hp} {Q : VK} {pos' : Pos} {use : Option (Value → Sem Unit)} {Qf : Value → Shared → Prop} (I : Inv X pins σ H s) (hu : X.A.units + 100 < cLine) (hc : X.calm = true) (hN : X.N.Nodup) (hi : PI X tg iter wi) (ok : BlkOk X.N X.env.scope scope own)
    (hg : ∀ (s : Shared) (H : Hp) (C : Addr) (cl : List (Str × Addr)) (fp : List Addr), PG (X.blk s H scope (compEnvC scope cl C X.env) fp) tg g) (ht : ∀ (s : Shared) (H : Hp) (C : Addr) (cl : List (Str × Addr)) (fp : List Addr), PTs (X.blk s H scope (compEnvC scope cl C X.env) fp) ifs tt)
    (hk : ∀ (s : Shared) (H : Hp) (C : Addr) (cl : List (Str × Addr)) (fp : List Addr), PE (X.blk s H scope (compEnvC scope cl C X.env) fp) kx tk)
    (hv : ∀ (s : Shared) (H : Hp) (C : Addr) (cl : List (Str × Addr)) (fp : List Addr), PE (X.blk s H scope (compEnvC scope cl C X.env) fp) vx tv) (hs : ∀ x, foldedSetIterable iter X.env x = pure x)
    (h : tDcW (xfw X tbl) wi g tt tk tv (own.map (·.2)) σ H Q)
    (hR : ∀ p C s' m H', Inv X pins σ H' s' → Q (.ref p) H' → s'.heap.Ns C m → FpOk X pins H' C → compPost (model X.prog X.w) X.A X.xe use Qf (.ref p) C (.ok .next) s') :
    wpAny (model X.prog X.w) X.A (comprehension (.DictComp kx vx [⟨tg, iter, ifs, 0⟩] scope pos) scope X.env pos' newDict false (eval iter X.env) use) Qf X.xe s := by
  have cells : ∀ y ∈ scope.names, y.2 = .free → ∃ c, X.env.cells.lookup y.1 = some c := fun y hy e =>
    (ok.free y hy e).elim (fun k => I.ok.has _ (.inl k)) fun k => I.ok.has _ (.inr k)
  refine wpAny_comprehension_free (use := use) rfl hs (closure_ok cells) ok.kind (fun y hy e => by rw [ok.uniq y hy, e]) (thn (hi.run pins s σ H _ I h) fun xv s1 hx => thn hx fun itv s2 h2 => ?_)
  obtain ⟨it, fp, tn, J, H2, rfl, I2, T, t2, f2, q⟩ := h2
  refine wpAny_newObj_type (newEnv_comp ?_)
  -- the dict that is laid
  have I3 := raw_laid I2
  obtain ⟨W, ⟨m0, w0⟩, turn⟩ := q s2.heap.objs.size (I2.hok.fresh (Nat.le_refl _))
  generalize hp : s2.heap.objs.size = p at I3 w0 turn ⊢
  generalize hH3 : upd H2 p (rawO p ⟨#[], 0⟩) = H3 at I3 w0
  generalize hs3 : ({ s2 with heap := s2.heap.push { cls := .type "dict", data := .dict #[] } } : Shared) = s3 at I3
  have hp3 : s3.heap = s2.heap.push { cls := .type "dict", data := .dict #[] } := by rw [← hs3]
  have old : ∀ b ∈ fp, b < s2.heap.objs.size := fun b hb => let ⟨o, e, _⟩ := T.obj _ _ t2 b hb; Heap.lt_size e
  have f3 : ∀ b ∈ fp, FpOk X pins H3 b ∧ b < s3.heap.objs.size := fun b hb => by
    refine ⟨⟨?_, (f2 b hb).2⟩, by rw [hp3, Heap.size_push]; exact Nat.lt_succ_of_lt (old b hb)⟩
    rw [← hH3, upd_ne (by rw [← hp]; exact Nat.ne_of_lt (old b hb))]
    exact (f2 b hb).1
  have t3 : tn 0 s3.heap := T.keep _ _ _ t2 fun b _ o e => by rw [hp3]; exact Heap.get?_push_of_some _ e
  have I4 := block_start I3 ok hN f3
  -- the block
  let C := s3.heap.objs.size
  let cl := cellsFrom (C + 1) scope.names (cloFrom X.env.cells scope.names [])
  let ce := compEnvC scope cl C X.env
  let Y := X.blk s3 H3 scope ce fp
  generalize hs4 : ({ s3 with heap := pushCells (s3.heap.push { cls := .type "dict", data := .dict #[] }) scope.names } : Shared) = s4 at I4
  have t4 : tn 0 s4.heap := T.keep _ _ _ t3 fun b _ o e => by rw [← hs4]; exact pushCells_keeps _ _ _ _ (Heap.get?_push_of_some _ e)
  have own' : ∀ {σ' : L2.St} {H' : Hp} {s' : Shared}, Inv Y [] σ' H' s' → (∀ b ∈ fp, H' b = none) → ∀ b ∈ fp, FpOk Y [] H' b := fun I' hn b hb =>
    ⟨hn b hb, (I'.ok.exf b hb).1, I'.ok.exfs b hb, .inl hb, fun x c e => (I'.ok.exf b hb).2 x c e, fun q hq => absurd (show q ∈ ([] : List (Addr × Obj)) ++ [] from hq) (by simp)⟩
  have loop : codeAny (model X.prog X.w) X.A (.compLoop (.DictComp kx vx [⟨tg, iter, ifs, 0⟩] scope pos) 0 (.ref it) (.ref p) ce) (compPost (model X.prog X.w) X.A X.xe use Qf (.ref p) C) s4 := by
    refine compLoop_anyD (fun n s' => ∃ i H', Inv Y [] (wipe σ (own.map (·.2))) H' s' ∧ tn i s'.heap ∧ (∀ b ∈ fp, H' b = none) ∧ W i n H') ?_ m0 ⟨0, H3, I4, t4, fun b hb => (f3 b hb).1.1, w0⟩
    rintro n s5 ⟨i, H5, I5, t5, n5, w5⟩
    rcases turn i n H5 w5 with ⟨stop, qq⟩ | ⟨go, Nx, hNx, step⟩
    · refine thnF (T.done Y rfl rfl rfl hc i [] s5 _ H5 (fun _ _ => False) I5 (own' I5 n5) t5 stop) fun r s6 ⟨hr, I6⟩ => ?_
      subst hr
      have I7 : Inv X pins σ H5 s6 := I3.call' (ch := fp) I6.os I6.base I6.hok I6.bare fun b hb => ⟨(f3 b hb).1.2.2.2.1, (f3 b hb).1.2.1, (f3 b hb).1.2.2.2.2.1, (f3 b hb).1.2.2.2.2.2⟩
      obtain ⟨m, hn, _⟩ := I6.loc
      exact hR p C s6 m H5 I7 qq hn (I3.fpOk (Nat.le_refl _) (show H5 C = none from I6.free))
    · refine thnF (T.item Y rfl rfl rfl hc i [] s5 _ H5 (fun _ _ => False) I5 (own' I5 n5) t5 go) fun r s6 ⟨u, hr, h6⟩ => ?_
      subst hr
      refine thnF h6 fun _ s7 ⟨x, H7, I7, r7, y7, t7, n7⟩ => ?_
      have I7' := I7.pinned (own' I7 n7) (T.obj _ _ t7)
      refine thnF ((hg s3 H3 C cl fp).run _ s7 _ H7 x u _ I7' r7 (step x H7 y7)) fun _ s8 ⟨σ8, H8, I8, hw8, q8⟩ => ?_
      refine thnF ((ht s3 H3 C cl fp).run _ s8 σ8 H8 _ I8 q8) fun b s9 ⟨H9, I9, q9⟩ => ?_
      have fin : ∀ {s' : Shared} {H' : Hp}, Inv Y ([] ++ pinsAt fp s7.heap) σ8 H' s' → Nx H' → ∃ m, m < n ∧ ∃ i H', Inv Y [] (wipe σ (own.map (·.2))) H' s' ∧ tn i s'.heap ∧ (∀ b ∈ fp, H' b = none) ∧ W i m H' := fun {s' H'} I' nx => by
        obtain ⟨m', hm, w'⟩ := hNx H' nx
        have pin : ∀ b ∈ fp, ∀ o, s7.heap.get? b = some o → s'.heap.get? b = some o ∧ H' b = none := fun b hb o e =>
          let z := I'.pin (b, o) (List.mem_append_right _ (List.mem_append_right _ (mem_pinsAt hb e)))
          ⟨z.1, z.2.1⟩
        refine ⟨m', hm, i + 1, H', (I'.unpinned (pins := [])).weak (by rw [← hw8, wipe_length]) (fun j v e => (wipe_some (by rw [hw8]; exact e)).1), T.keep _ _ _ t7 fun b hb o e => (pin b hb o e).1, fun b hb => ?_, w'⟩
        obtain ⟨o, e, _⟩ := T.obj _ _ t7 b hb
        exact (pin b hb o e).2
      cases b with
      | false =>
        simp only [Bool.false_eq_true, if_false] at q9 ⊢
        exact fin I9 q9
      | true =>
        simp only [if_true] at q9 ⊢
        refine thnF ((hk s3 H3 C cl fp).run _ s9 σ8 H9 _ I9 q9) fun z s10 ⟨yk, H10, I10, r10, q10⟩ => ?_
        refine thnF ((hv s3 H3 C cl fp).run _ s10 σ8 H10 _ I10 q10) fun z2 s11 ⟨yv, H11, I11, r11, S, st, kvs, k, d, sm, np, ep, re, hn, hk', rk, rd, hl, nx⟩ => ?_
        exact dd_dictSet (X := Y) hu I11 sm np ep re hn hk' rk r10 rd r11 hl fun st' s12 I12 re' hn' sm' => fin I12 (nx st' re' hn' sm')
  exact codeAny_compStart_dict loop (T.self X.A 0 _ _ _ t4 loop)
/-- as a value -/
theorem pe_dcW (hu : X.A.units + 100 < cLine) (hc : X.calm = true) (hN : X.N.Nodup) (hi : PI X tg iter wi) (ok : BlkOk X.N X.env.scope scope own)
    (hg : ∀ (s : Shared) (H : Hp) (C : Addr) (cl : List (Str × Addr)) (fp : List Addr), PG (X.blk s H scope (compEnvC scope cl C X.env) fp) tg g) (ht : ∀ (s : Shared) (H : Hp) (C : Addr) (cl : List (Str × Addr)) (fp : List Addr), PTs (X.blk s H scope (compEnvC scope cl C X.env) fp) ifs tt)
    (hk : ∀ (s : Shared) (H : Hp) (C : Addr) (cl : List (Str × Addr)) (fp : List Addr), PE (X.blk s H scope (compEnvC scope cl C X.env) fp) kx tk)
    (hv : ∀ (s : Shared) (H : Hp) (C : Addr) (cl : List (Str × Addr)) (fp : List Addr), PE (X.blk s H scope (compEnvC scope cl C X.env) fp) vx tv) (hs : ∀ x, foldedSetIterable iter X.env x = pure x := by intro _; rfl) :
    PE X (.DictComp kx vx [⟨tg, iter, ifs, 0⟩] scope pos) (tDcW (xfw X tbl) wi g tt tk tv (own.map (·.2))) := ⟨fun pins s σ H Q I h => by
  rw [arm_eval_DictComp]
  refine dcW_core I hu hc hN hi ok hg ht hk hv hs h fun p C s' m H' I' q hn f => ⟨m, hn, fun h'' sb => ?_⟩
  obtain ⟨a0, a1, a2, a3, a4, a5⟩ := f
  exact ⟨.ref p, H', I'.turned (t' := s'.toks) (fun b o hb e => (sb.2 b hb).trans e) a0 a1 a3 a4 a5, rfl, q⟩⟩
/-- bound to a name of the def -/
theorem ps_setDcW {i : Nat} {y : Str} {py spos : Pos} (hy : X.N[i]? = some y) (hyl : X.env.scope.names.lookup y = some .local) (hsw : swapsWith (.DictComp kx vx [⟨tg, iter, ifs, 0⟩] scope pos) (some (.Name y py)) spos.line X.env = pure true) (hu : X.A.units + 100 < cLine) (hc : X.calm = true) (hN : X.N.Nodup) (hi : PI X tg iter wi) (ok : BlkOk X.N X.env.scope scope own)
    (hg : ∀ (s : Shared) (H : Hp) (C : Addr) (cl : List (Str × Addr)) (fp : List Addr), PG (X.blk s H scope (compEnvC scope cl C X.env) fp) tg g) (ht : ∀ (s : Shared) (H : Hp) (C : Addr) (cl : List (Str × Addr)) (fp : List Addr), PTs (X.blk s H scope (compEnvC scope cl C X.env) fp) ifs tt)
    (hk : ∀ (s : Shared) (H : Hp) (C : Addr) (cl : List (Str × Addr)) (fp : List Addr), PE (X.blk s H scope (compEnvC scope cl C X.env) fp) kx tk)
    (hv : ∀ (s : Shared) (H : Hp) (C : Addr) (cl : List (Str × Addr)) (fp : List Addr), PE (X.blk s H scope (compEnvC scope cl C X.env) fp) vx tv) (hs : ∀ x, foldedSetIterable iter X.env x = pure x := by intro _; rfl) :
    PS X (.Assign [.Name y py] (.DictComp kx vx [⟨tg, iter, ifs, 0⟩] scope pos) spos) (tAsg (tDcW (xfw X tbl) wi g tt tk tv (own.map (·.2))) (gName i)) := ⟨fun pins s σ H D I h => by
  rw [exec_Assign_Name_used _ _ _ _ hsw]
  refine wpAny_bind (wpAny_standAt (wpAny_bind ?_))
  show wpAny _ X.A (do let _ ← comprehension (.DictComp kx vx [⟨tg, iter, ifs, 0⟩] scope pos) scope X.env (firstIterPos [⟨tg, iter, ifs, 0⟩] pos) newDict false (eval iter X.env) (some (assign (.Name y py) X.env))) _ _ s
  have h : tDcW (xfw X tbl) wi g tt tk tv (own.map (·.2)) σ H (fun x H1 => gName i x σ H1 D.nx) := h
  refine wpAny_bind (thn (dcW_core (Qf := fun _ s' => SP X pins D .next s') I hu hc hN hi ok hg ht hk hv hs h fun p C s' m H' I' q hn f => ?_) fun _ s' hq => wpAny_pure (wpAny_pure hq))
  show wpAny _ _ (assign (.Name y py) X.env (.ref p)) _ _ _
  refine wpAny_assign_Name (store_ok2 (v := V.ref p) I' hN hy (.inl hyl) rfl (fun s2 I2 ⟨a, sb, ha⟩ => ?_) (.inr hyl))
  obtain ⟨a0, a1, a2, a3, a4, a5⟩ := f
  refine ⟨m, hn.sameBut sb (ha.elim (fun z => by rw [z]; exact a1) fun z e => a4 y a z e.symm), fun h3 sb3 => ?_⟩
  exact ⟨_, H', I2.turned (t' := s2.toks) (fun b o hb e => (sb3.2 b hb).trans e) a0 a1 a3 a4 a5, q⟩⟩
end
theorem rent_stp {K : FW} {S S' : DS} {H H' : Hp} (a : Stp S H S' H') : ∀ {kvs : List (D × D)} {es : List DictEntry}, REnt K H kvs es → REnt K H' kvs es
  | _, _, .nil => .nil
  | _, _, .cons u v c d e f r => .cons u v (a.rv c) d (a.rv e) f (rent_stp a r)
def dcT (stay : DS → Prop) (g : DG) (tt : DT) (tk tv : DE) (δ : Loc) (K : List (D × D) → DS → Prop) : List D → List (D × D) → DS → Prop
  | [], kvs, S => stay S ∧ K kvs S
  | x :: r, kvs, S => stay S ∧ g x δ S fun δ2 S2 => tt δ2 S2 fun b S3 => if b = true then tk δ2 S3 fun k S4 => tv δ2 S4 fun d S5 => (kOk kvs k ∧ kvs.length < 16777216) ∧ dcT stay g tt tk tv δ K r (dput kvs k d) S5 else dcT stay g tt tk tv δ K r kvs S3
def newDc (kvs : List (D × D)) (S : DS) (Q : DK) : Prop := ∀ p st, S p = none → Q (.ref p) (dupd S p (.dct st kvs))
def dDc (di : DI) (g : DG) (tt : DT) (tk tv : DE) (vs : List Nat) : DE := fun δ S Q => di δ S fun xs stay S1 => dcT stay g tt tk tv (dwipe δ vs) (fun kvs S2 => newDc kvs S2 Q) xs [] S1
section
variable {X : Cx} {tbl : Tbl}
theorem lift_dc {di : DI} {g : DG} {tt : DT} {tk tv : DE} {sl vs : List Nat} (hsl : ∀ i ∈ sl, i ∈ vs) : ∀ σ H Q, liftE (xfw X tbl) (dDc di g tt tk tv vs) σ H Q → tDcW (xfw X tbl) (liftI (xfw X tbl) di) (liftG (xfw X tbl) sl g) (liftT (xfw X tbl) tt) (liftE (xfw X tbl) tk) (liftE (xfw X tbl) tv) vs σ H Q :=
  fun σ H Q ⟨δ, S, Q0, hr, hs, h, hq⟩ => by
    refine ⟨δ, S, _, hr, hs, h, fun xs stay S1 H1 J q1 s1 a1 jok p hp => ?_⟩
    have hp1 : S1 p = none := s1.fresh hp
    let Kd : List (D × D) → DS → Prop := fun kvs S2 => newDc kvs S2 Q0
    refine ⟨fun i m H' => m + i = xs.length ∧ ∃ kvs st S', Stp S1 H1 S' H' ∧ Sim (xfw X tbl) S' H' ∧ S' p = none ∧ H' p = some (rawO p st) ∧ REnt (xfw X tbl) H' kvs st.es.toList ∧ (kvs.map fun q => nk q.1).Nodup ∧ kvs.length ≤ sizeLine ∧ dcT stay g tt tk tv (dwipe δ vs) Kd (xs.drop i) kvs S',
      ⟨xs.length, by omega, [], ⟨#[], 0⟩, S1, (Stp.refl _ _).updD hp, s1.laid hp, hp1, upd_same, .nil, List.nodup_nil, Nat.zero_le _, by simpa using q1⟩, ?_⟩
    rintro i m H2 ⟨em, kvs, st, S2, a2, s2, n2, e2, r2, nd2, l2, h2⟩
    cases hx : xs.drop i with
    | nil =>
      rw [hx] at h2
      have hl : xs.length ≤ i := List.drop_eq_nil_iff.mp hx
      refine .inl ⟨(jok i S2 H2 a2.prs s2 h2.1).1 hl, hq _ _ _ _ (h2.2 p st n2) (.ref p) (s2.learn ⟨e2, r2, l2, nd2⟩) ((a1.trans a2).newD ?_)⟩
      cases q : H p with
      | none => rfl
      | some o => exact absurd hp (a1.live p (by rw [q]; simp))
    | cons x r =>
      rw [hx] at h2
      obtain ⟨hg1, hr1, hl⟩ := drop_get hx
      obtain ⟨hgo, hy⟩ := (jok i S2 H2 a2.prs s2 h2.1).2 x hg1
      refine .inr ⟨hgo, fun H' => ∃ kvs st S', Stp S1 H1 S' H' ∧ Sim (xfw X tbl) S' H' ∧ S' p = none ∧ H' p = some (rawO p st) ∧ REnt (xfw X tbl) H' kvs st.es.toList ∧ (kvs.map fun q => nk q.1).Nodup ∧ kvs.length ≤ sizeLine ∧ dcT stay g tt tk tv (dwipe δ vs) Kd r kvs S',
        fun H' ⟨kvs, st, S', h1, h2, h3, h4, h5, h6, h7, h8⟩ => ⟨m - 1, by omega, by omega, kvs, st, S', h1, h2, h3, h4, h5, h6, h7, by rw [← hr1]; exact h8⟩, fun x' H' y => ?_⟩
      obtain ⟨rx, sx, ax⟩ := hy x' H' y
      have hrw : Rst (xfw X tbl) H1 (dwipe δ vs) (L2.wipe σ vs) := (hr.stp a1).wipe
      refine ⟨x, _, S2, _, rx, hrw.stp (a2.trans ax), sx, h2.2, fun δ3 S3 σ3 H3 q3 r3 l3 n3 s3 a3 => ⟨wipe_same (by rw [l3, wipe_length]) n3 hsl, δ3, S3, _, r3, s3, q3, fun b S4 H4 q4 s4 a4 => ?_⟩⟩
      have b4 := (ax.trans a3).trans a4
      have n4 : S4 p = none := b4.hid p (by rw [e2]; exact fun z => nomatch z) n2
      have e4 : H4 p = some (rawO p st) := b4.keep p _ n2 (fun _ z => nomatch z) e2
      cases b with
      | false =>
        simp only [Bool.false_eq_true, if_false] at q4 ⊢
        exact ⟨kvs, st, S4, a2.trans b4, s4, n4, e4, rent_stp b4 r2, nd2, l2, q4⟩
      | true =>
        simp only [if_true] at q4 ⊢
        refine ⟨δ3, S4, _, r3.stp a4, s4, q4, fun k S5 yk H5 q5 r5 s5 a5 => ?_⟩
        refine ⟨δ3, S5, _, (r3.stp a4).stp a5, s5, q5, fun d S6 yd H6 ⟨⟨hk, z6⟩, q6⟩ r6 s6 a6 => ?_⟩
        have b6 := (b4.trans a5).trans a6
        have n6 : S6 p = none := (a5.trans a6).hid p (by rw [e4]; exact fun z => nomatch z) n4
        have e6 : H6 p = some (rawO p st) := (a5.trans a6).keep p _ n4 (fun _ z => nomatch z) e4
        exact ⟨S6, st, kvs, k, d, s6, n6, e6, rent_stp b6 r2, nd2, hk, a6.rv r5, r6, by rw [szl]; exact z6, fun st' re' nd' sm' => ⟨dput kvs k d, st', S6, (a2.trans b6).updD hp, sm', n6, upd_same, re', nd', by have := length_dput kvs k d; rw [szl]; omega, q6⟩⟩
theorem qs_setDc {i : Nat} {y : Str} {py spos : Pos} {kx vx tg iter : Expr} {ifs : List Expr} {scope : Scope} {pos : Pos} (own : List (Str × Nat)) {di : DI} {g : DG} {tt : DT} {tk tv : DE} {sl : List Nat} (hu : X.A.units + 100 < cLine) (hc : X.calm = true) (hN : X.N.Nodup) (hy : X.N[i]? = some y) (hyl : X.env.scope.names.lookup y = some .local)
    (hsw : swapsWith (.DictComp kx vx [⟨tg, iter, ifs, 0⟩] scope pos) (some (.Name y py)) spos.line X.env = pure true) (hi : PI X tg iter (liftI (xfw X tbl) di)) (ok : blkC X.N X.env.scope scope own = true)
    (hsl : ∀ i ∈ sl, i ∈ own.map (·.2))
    (hg : ∀ (s : Shared) (H : Hp) (C : Addr) (cl : List (Str × Addr)) (fp : List Addr), PG (X.blk s H scope (compEnvC scope cl C X.env) fp) tg (liftG (xfw X tbl) sl g))
    (ht : ∀ (s : Shared) (H : Hp) (C : Addr) (cl : List (Str × Addr)) (fp : List Addr), PTs (X.blk s H scope (compEnvC scope cl C X.env) fp) ifs (liftT (xfw X tbl) tt))
    (hk : ∀ (s : Shared) (H : Hp) (C : Addr) (cl : List (Str × Addr)) (fp : List Addr), PE (X.blk s H scope (compEnvC scope cl C X.env) fp) kx (liftE (xfw X tbl) tk))
    (hv : ∀ (s : Shared) (H : Hp) (C : Addr) (cl : List (Str × Addr)) (fp : List Addr), PE (X.blk s H scope (compEnvC scope cl C X.env) fp) vx (liftE (xfw X tbl) tv)) (hs : ∀ x, foldedSetIterable iter X.env x = pure x := by intro _; rfl) :
    PS X (.Assign [.Name y py] (.DictComp kx vx [⟨tg, iter, ifs, 0⟩] scope pos) spos) (liftS (xfw X tbl) (dAsg (dDc di g tt tk tv (own.map (·.2))) (dgName i))) :=
  PS.imp (ps_setDcW hy hyl hsw hu hc hN hi (blkOk_by ok) hg ht hk hv hs) fun E σ H ⟨δ, S, D0, hr, hsim, h, cv⟩ =>
    lift_dc hsl σ H _ ⟨δ, S, _, hr, hsim, h, fun d S1 v H1 h1 r1 s1 a1 => cv.nx _ S1 _ H1 h1 ((hr.stp a1).set r1) s1 a1⟩
theorem swD_true {kx vx : Expr} {gs : List Comprehension} {scope : Scope} {pos py : Pos} {y : Str} {l : Nat} {env : Env} (hk : env.scope.kind = .function) (hy : env.scope.names.lookup y = some .local) (hl : (py.line == pos.line) = true)
    (ha : (scope.names.any fun (n, k) => n == y && (k == .local || k == .cell)) = false) : swapsWith (.DictComp kx vx gs scope pos) (some (.Name y py)) l env = pure true := by
  have ky : env.kindOf y = some .local := hy
  have hb : env.blockKind = .function := by unfold Env.blockKind; rw [hk]; rfl
  unfold swapsWith
  simp only [hb, ky, ha, Expr.pos, hl]
  rfl
theorem qe_dc {kx vx tg iter : Expr} {ifs : List Expr} {scope : Scope} {pos : Pos} (own : List (Str × Nat)) {di : DI} {g : DG} {tt : DT} {tk tv : DE} {sl : List Nat} (hu : X.A.units + 100 < cLine) (hc : X.calm = true) (hN : X.N.Nodup) (hi : PI X tg iter (liftI (xfw X tbl) di)) (ok : blkC X.N X.env.scope scope own = true)
    (hsl : ∀ i ∈ sl, i ∈ own.map (·.2))
    (hg : ∀ (s : Shared) (H : Hp) (C : Addr) (cl : List (Str × Addr)) (fp : List Addr), PG (X.blk s H scope (compEnvC scope cl C X.env) fp) tg (liftG (xfw X tbl) sl g))
    (ht : ∀ (s : Shared) (H : Hp) (C : Addr) (cl : List (Str × Addr)) (fp : List Addr), PTs (X.blk s H scope (compEnvC scope cl C X.env) fp) ifs (liftT (xfw X tbl) tt))
    (hk : ∀ (s : Shared) (H : Hp) (C : Addr) (cl : List (Str × Addr)) (fp : List Addr), PE (X.blk s H scope (compEnvC scope cl C X.env) fp) kx (liftE (xfw X tbl) tk))
    (hv : ∀ (s : Shared) (H : Hp) (C : Addr) (cl : List (Str × Addr)) (fp : List Addr), PE (X.blk s H scope (compEnvC scope cl C X.env) fp) vx (liftE (xfw X tbl) tv)) (hs : ∀ x, foldedSetIterable iter X.env x = pure x := by intro _; rfl) :
    PE X (.DictComp kx vx [⟨tg, iter, ifs, 0⟩] scope pos) (liftE (xfw X tbl) (dDc di g tt tk tv (own.map (·.2)))) := PE.imp (pe_dcW hu hc hN hi (blkOk_by ok) hg ht hk hv hs) (lift_dc hsl)
end
end DL
namespace DLG
open PySem PySem.W PySem.SeqAt PyProof.Rows
mutual
def gal : PyData → PyData → Bool
  | .int _, .int _ => true
  | .bool _, .bool _ => true
  | .str _, .str _ => true
  | .list xs, .list ys => galAll xs ys
  | .tuple xs, .tuple ys => galAll xs ys
  | _, _ => false
def galAll : List PyData → List PyData → Bool
  | [], _ => true
  | _ :: _, [] => true
  | x :: xs, y :: ys => gal x y && (!PyData.eqv x y || galAll xs ys)
end
abbrev Tk := List (Int ⊕ List Nat)
abbrev lx (a b : Tk) : Bool := PyProof.Rows.lexLt itemOrd a b
theorem galAll_hd {x y : PyData} {xs ys : List PyData} (h : galAll (x :: xs) (y :: ys) = true) : gal x y = true := by
  rw [galAll, Bool.and_eq_true] at h; exact h.1
theorem galAll_tl {x y : PyData} {xs ys : List PyData} (h : galAll (x :: xs) (y :: ys) = true) (e : PyData.eqv x y = true) : galAll xs ys = true := by
  rw [galAll, Bool.and_eq_true, e] at h; simpa using h.2
/-- equal ones have one row of signs; of others the signs decide before they end -/
def Tells (b : Bool) (p q : Tk) : Prop := (b = true → p = q) ∧ (b = false → ∀ l m, lx (p ++ l) (q ++ m) = lx p q)
theorem tells_one {b : Bool} {p q : Int ⊕ List Nat} (h1 : b = true → p = q) (h2 : b = false → p ≠ q) : Tells b [p] [q] :=
  ⟨fun e => by rw [h1 e], fun e l m => lex_atom (h2 e) l m⟩
theorem tells_cons {a b : Bool} {p q p' q' : Tk} (h1 : Tells a p q) (h2 : a = true → Tells b p' q') : Tells (a && b) (.inl 1 :: (p ++ p')) (.inl 1 :: (q ++ q')) := by
  have fr : ∀ u v : Tk, lx (Sum.inl 1 :: u) (Sum.inl 1 :: v) = lx u v := fun u v => lex_self (O := itemOrd) _ _ _
  cases a with
  | true =>
    obtain rfl := h1.1 rfl
    obtain ⟨k1, k2⟩ := h2 rfl
    refine ⟨fun e => by rw [k1 (by simpa using e)], fun e l m => ?_⟩
    rw [List.cons_append, List.cons_append, fr, fr, List.append_assoc, List.append_assoc]
    show lx (p ++ _) (p ++ _) = lx (p ++ _) (p ++ _)
    rw [show lx (p ++ (p' ++ l)) (p ++ (q' ++ m)) = lx (p' ++ l) (q' ++ m) from lex_pre .., show lx (p ++ p') (p ++ q') = lx p' q' from lex_pre ..]
    exact k2 (by simpa using e) l m
  | false =>
    refine ⟨fun e => by simp at e, fun e l m => ?_⟩
    rw [List.cons_append, List.cons_append, fr, fr, List.append_assoc, List.append_assoc, h1.2 rfl, h1.2 rfl]
mutual
theorem tells : ∀ x y : PyData, gal x y = true → Tells (PyData.eqv x y) (keyToks x) (keyToks y)
  | .int a, .int b, _ => by
    rw [keyToks, keyToks, PyData.eqv]
    exact tells_one (fun e => by rw [eq_of_beq e]) fun e z => by cases z; simp at e
  | .bool a, .bool b, _ => by
    rw [keyToks, keyToks, PyData.eqv]
    exact tells_one (fun e => by rw [eq_of_beq e]) fun e z => by cases a <;> cases b <;> simp at e z
  | .str a, .str b, _ => by
    rw [keyToks, keyToks, PyData.eqv]
    exact tells_one (fun e => by rw [eq_of_beq e]) fun e z => by
      obtain rfl := str_of_cps (Sum.inr.inj z)
      simp at e
  | .list xs, .list ys, h => by
    rw [keyToks, keyToks, PyData.eqv]; exact tellsAll xs ys (by rw [gal] at h; exact h)
  | .tuple xs, .tuple ys, h => by
    rw [keyToks, keyToks, PyData.eqv]; exact tellsAll xs ys (by rw [gal] at h; exact h)
  | .none, _, h => by simp [gal] at h
  | .dict _, _, h => by simp [gal] at h
  | .int _, .none, h | .int _, .bool _, h | .int _, .str _, h | .int _, .list _, h | .int _, .tuple _, h | .int _, .dict _, h => by simp [gal] at h
  | .bool _, .none, h | .bool _, .int _, h | .bool _, .str _, h | .bool _, .list _, h | .bool _, .tuple _, h | .bool _, .dict _, h => by simp [gal] at h
  | .str _, .none, h | .str _, .int _, h | .str _, .bool _, h | .str _, .list _, h | .str _, .tuple _, h | .str _, .dict _, h => by simp [gal] at h
  | .list _, .none, h | .list _, .int _, h | .list _, .bool _, h | .list _, .str _, h | .list _, .tuple _, h | .list _, .dict _, h => by simp [gal] at h
  | .tuple _, .none, h | .tuple _, .int _, h | .tuple _, .bool _, h | .tuple _, .str _, h | .tuple _, .list _, h | .tuple _, .dict _, h => by simp [gal] at h
theorem tellsAll : ∀ xs ys : List PyData, galAll xs ys = true → Tells (PyData.eqvAll xs ys) (keyToksAll xs) (keyToksAll ys)
  | [], [], _ => by rw [keyToksAll, PyData.eqvAll]; exact tells_one (fun _ => rfl) fun e => by simp at e
  | [], y :: ys, _ => by
    rw [toks_all_cons, keyToksAll, show PyData.eqvAll [] (y :: ys) = false from by simp [PyData.eqvAll]]
    exact ⟨fun e => by simp at e, fun _ l m => (lex_atom (by decide) _ _).trans (lex_atom (by decide) _ _).symm⟩
  | x :: xs, [], _ => by
    rw [toks_all_cons, keyToksAll, show PyData.eqvAll (x :: xs) [] = false from by simp [PyData.eqvAll]]
    exact ⟨fun e => by simp at e, fun _ l m => (lex_atom (by decide) _ _).trans (lex_atom (by decide) _ _).symm⟩
  | x :: xs, y :: ys, h => by
    rw [toks_all_cons, toks_all_cons, eqv_all_cons]
    exact tells_cons (tells x y (galAll_hd h)) fun e => tellsAll xs ys (galAll_tl h e)
end
theorem rl_nn : rowLt [] [] = false := by unfold rowLt; exact lex_irrefl _
theorem rl_nc (y : PyData) (ys : List PyData) : rowLt [] (y :: ys) = true := by
  unfold rowLt; rw [toks_all_cons, keyToksAll]; exact (lex_atom (by decide) [] _).trans (by decide)
theorem rl_cn (x : PyData) (xs : List PyData) : rowLt (x :: xs) [] = false := by
  unfold rowLt; rw [toks_all_cons, keyToksAll]; exact (lex_atom (by decide) _ []).trans (by decide)
theorem rl_cc {x y : PyData} {xs ys : List PyData} (h : gal x y = true) : rowLt (x :: xs) (y :: ys) = if PyData.eqv x y = true then rowLt xs ys else dataLt x y := by
  unfold rowLt dataLt
  rw [toks_all_cons, toks_all_cons]
  refine (lex_self (O := itemOrd) _ _ _).trans ?_
  obtain ⟨h1, h2⟩ := tells x y h
  cases e : PyData.eqv x y with
  | true => rw [if_pos rfl, h1 e]; exact lex_pre _ _ _
  | false => rw [if_neg (by simp)]; exact h2 e _ _
section
variable {A : Around} {s : Shared}
/-- what is known of the things of two rows -/
structure Row2 (A : Around) (s : Shared) (us vs : Array Value) (xs ys : List PyData) : Prop where
  l1 : us.size = xs.length
  l2 : vs.size = ys.length
  eq : ∀ j (h1 : j < us.size) (h2 : j < vs.size) x y, xs[j]? = some x → ys[j]? = some y → EqAt A.in1 s us[j] vs[j] (PyData.eqv x y)
  lt : ∀ j (h1 : j < us.size) (h2 : j < vs.size) x y, xs[j]? = some x → ys[j]? = some y → gal x y = true → PyData.eqv x y = false → RcLt A.in1 s us[j] vs[j] (dataLt x y)
  ok : galAll xs ys = true
theorem Row2.at_ {us vs : Array Value} {xs ys : List PyData} (r : Row2 A s us vs xs ys) {i : Nat} (h1 : i < us.size) (h2 : i < vs.size) : ∃ x y, xs[i]? = some x ∧ ys[i]? = some y ∧ xs.drop i = x :: xs.drop (i + 1) ∧ ys.drop i = y :: ys.drop (i + 1) := by
  have k1 : i < xs.length := by have := r.l1; omega
  have k2 : i < ys.length := by have := r.l2; omega
  exact ⟨_, _, List.getElem?_eq_getElem k1, List.getElem?_eq_getElem k2, List.drop_eq_getElem_cons k1, List.drop_eq_getElem_cons k2⟩
theorem Row2.done {us vs : Array Value} {xs ys : List PyData} (r : Row2 A s us vs xs ys) {i : Nat} (h : i = min us.size vs.size) : rowLt (xs.drop i) (ys.drop i) = decide (us.size < vs.size) := by
  have l1 := r.l1
  have l2 := r.l2
  by_cases hlt : us.size < vs.size
  · rw [List.drop_of_length_le (show xs.length ≤ i by omega), List.drop_eq_getElem_cons (show i < ys.length by omega), rl_nc]; simp [hlt]
  · rw [List.drop_of_length_le (show ys.length ≤ i by omega)]
    have : decide (us.size < vs.size) = false := by simp; omega
    rw [this]
    cases xs.drop i with
    | nil => exact rl_nn
    | cons x t => exact rl_cn x t
open AutoSeq1 MeetsSeq MeetsSeq2 MeetsSeq3 SeqRoads2
theorem tup_rule (p q : Addr) (us vs : Array Value) (k k2 : Nat) (dx dy : Option Addr) (wx wy : Array (Option Value)) (xs ys : List PyData) :
    Meets (Builtin.«tuple.__lt__» ⟨[.ref p, .ref q], []⟩) (fun A R s => s.heap.get? p = some { cls := .type "tuple", dict := dx, data := .seq us k, slots := wx } ∧
      s.heap.get? q = some { cls := .type "tuple", dict := dy, data := .seq vs k2, slots := wy } ∧ Row2 A s us vs xs ys ∧ R (.ok (.ret (.bool (rowLt xs ys)))) s) :=
  .of_wp fun prog w A R s hyp => by
    obtain ⟨hp, g, d, tk, os⟩ := s
    obtain ⟨ho1, ho2, row, fin0⟩ := hyp
    have sub := AutoSeq1.sub_tuple_tuple
    have lz : (us.toList.zip vs.toList).length = min us.size vs.size := by simp
    wp_walk using wpAny_loadPart' ho1, wpAny_loadPart' ho2, wpAny_forIn_list _ (fun rest acc t => acc.1 = none ∧ t = ⟨hp, g, d, tk, os⟩ ∧
      ∃ i, i ≤ min us.size vs.size ∧ rest = (us.toList.zip vs.toList).drop i ∧ galAll (xs.drop i) (ys.drop i) = true ∧ R (.ok (.ret (.bool (rowLt (xs.drop i) (ys.drop i))))) ⟨hp, g, d, tk, os⟩) _
    case h => exact ⟨rfl, rfl, 0, Nat.zero_le _, rfl, row.ok, fin0⟩
    case turn =>
      rintro ⟨u, v⟩ rest acc t ⟨ha, rfl, i, hi, hd, hg, hR⟩
      have hlt : i < (us.toList.zip vs.toList).length := by
        refine Nat.lt_of_not_le fun hle => ?_
        rw [List.drop_of_length_le hle] at hd; cases hd
      have i1 : i < us.size := by omega
      have i2 : i < vs.size := by omega
      obtain ⟨x, y, gx, gy, dxs, dys⟩ := row.at_ i1 i2
      rw [List.drop_eq_getElem_cons hlt] at hd
      obtain ⟨e1, e2⟩ := List.cons.inj hd
      rw [List.getElem_zip, Array.getElem_toList, Array.getElem_toList] at e1
      obtain ⟨rfl, rfl⟩ := Prod.mk.inj e1
      rw [dxs, dys] at hg hR
      rw [rl_cc (galAll_hd hg)] at hR
      refine wpAny_bind (row.eq i i1 i2 x y gx gy prog w _ _ ?_)
      by_cases he : PyData.eqv x y = true
      · rw [if_pos he] at hR
        rw [he]
        wp_walk
        exact ⟨rfl, rfl, i + 1, by omega, e2, galAll_tl hg he, hR⟩
      · have hf : PyData.eqv x y = false := by simpa using he
        rw [if_neg he] at hR
        rw [hf]
        generalize hrc : @PySem.richCompare = rc
        wp_walk
        subst hrc
        refine row.lt i i1 i2 x y gx gy (galAll_hd hg) hf prog w _ _ ?_
        wp_walk
        exact ⟨_, rfl, hR⟩
    case fin =>
      rintro ⟨r1, r2⟩ t ⟨ha, rfl, i, hi, hd, hg, hR⟩
      simp only at ha
      subst ha
      have hge : i = min us.size vs.size := by
        have : (us.toList.zip vs.toList).length ≤ i := List.drop_eq_nil_iff.mp hd.symm
        omega
      rw [row.done hge] at hR
      wp_walk
      exact ⟨_, rfl, by simpa [Builtin.Tuple.tupleCompareSizes] using hR⟩
theorem lst_loop (p q : Addr) (us vs : Array Value) (k k2 : Nat) (dx dy : Option Addr) (wx wy : Array (Option Value)) (xs ys : List PyData) (m : Nat) : ∀ i : Nat, min us.size vs.size = i + m →
    Meets (Builtin.«list.__eq__.loop» ⟨[.ref p, .ref q, rawInt i, rawInt 0], []⟩) (fun A R s => s.heap.get? p = some { cls := .type "list", dict := dx, data := .seq us k, slots := wx } ∧
      s.heap.get? q = some { cls := .type "list", dict := dy, data := .seq vs k2, slots := wy } ∧ Row2 A s us vs xs ys ∧ galAll (xs.drop i) (ys.drop i) = true ∧ R (.ok (.ret (.bool (rowLt (xs.drop i) (ys.drop i))))) s) := by
  induction m with
  | zero =>
    intro i hm prog w A R s hyp
    obtain ⟨hp, g, d, tk, os⟩ := s
    obtain ⟨ho1, ho2, row, hg, hR⟩ := hyp
    rw [row.done (by omega)] at hR
    wp_walk using wpAny_loadPart' ho1, wpAny_loadPart' ho2
    rcases Nat.lt_or_ge i us.size with z | z
    · rw [show us[((i : Nat) : Int).toNat]? = some us[i] by simp [z], show vs[((i : Nat) : Int).toNat]? = none by simp; omega]
      wp_walk using wpAny_loadPart' ho1, wpAny_loadPart' ho2
      exact hR
    · rw [show us[((i : Nat) : Int).toNat]? = none by simp; omega]
      wp_walk using wpAny_loadPart' ho1, wpAny_loadPart' ho2
      exact hR
  | succ m ih =>
    intro i hm prog w A R s hyp
    obtain ⟨hp, g, d, tk, os⟩ := s
    obtain ⟨ho1, ho2, row, hg, hR⟩ := hyp
    have i1 : i < us.size := by omega
    have i2 : i < vs.size := by omega
    obtain ⟨x, y, gx, gy, dxs, dys⟩ := row.at_ i1 i2
    rw [dxs, dys] at hg hR
    rw [rl_cc (galAll_hd hg)] at hR
    wp_walk using wpAny_loadPart' ho1, wpAny_loadPart' ho2
    rw [show us[((i : Nat) : Int).toNat]? = some us[i] by simp [i1], show vs[((i : Nat) : Int).toNat]? = some vs[i] by simp [i2]]
    refine wpAny_bind (row.eq i i1 i2 x y gx gy prog w _ _ ?_)
    by_cases he : PyData.eqv x y = true
    · rw [if_pos he] at hR
      rw [he]
      wp_walk
      rw [show ((i : Int) + 1) = ((i + 1 : Nat) : Int) by omega]
      exact ⟨plainId_quiet plain_eq_loop _, codeAny_builtin entry_eq_loop (by
        rw [Around.under_plainId plain_eq_loop _]
        exact ih (i + 1) (by omega) prog w A R _ ⟨ho1, ho2, row, galAll_tl hg he, hR⟩)⟩
    · have hf : PyData.eqv x y = false := by simpa using he
      rw [if_neg he] at hR
      rw [hf]
      generalize hrc : @PySem.richCompare = rc
      wp_walk using wpAny_loadPart' ho1, wpAny_loadPart' ho2
      rw [show us[((i : Nat) : Int).toNat]? = some us[i] by simp [i1], show vs[((i : Nat) : Int).toNat]? = some vs[i] by simp [i2]]
      wp_walk
      subst hrc
      refine row.lt i i1 i2 x y gx gy (galAll_hd hg) hf prog w _ _ ?_
      wp_walk
      exact hR
theorem lst_rule (p q : Addr) (us vs : Array Value) (k k2 : Nat) (dx dy : Option Addr) (wx wy : Array (Option Value)) (xs ys : List PyData) :
    Meets (Builtin.«list.__lt__» ⟨[.ref p, .ref q], []⟩) (fun A R s => s.heap.get? p = some { cls := .type "list", dict := dx, data := .seq us k, slots := wx } ∧
      s.heap.get? q = some { cls := .type "list", dict := dy, data := .seq vs k2, slots := wy } ∧ Row2 A s us vs xs ys ∧ R (.ok (.ret (.bool (rowLt xs ys)))) s) := by
  intro prog w A R s hyp
  obtain ⟨hp, g, d, tk, os⟩ := s
  obtain ⟨ho1, ho2, row, hR⟩ := hyp
  have sub := AutoSeq1.sub_list_list
  wp_walk using wpAny_loadPart' ho1, wpAny_loadPart' ho2
  exact ⟨plainId_quiet plain_eq_loop _, codeAny_builtin entry_eq_loop (by
    rw [Around.under_plainId plain_eq_loop _]
    exact lst_loop p q us vs k k2 dx dy wx wy xs ys _ 0 (Nat.zero_add _).symm prog w A R _ ⟨ho1, ho2, row, row.ok, hR⟩)⟩
/-- two tuples -/
theorem tup_lt {p q : Addr} {us vs : Array Value} {xs ys : List PyData} (a : s.heap.IsTuple p us) (b : s.heap.IsTuple q vs) (hu : A.units < cLine) (row : Row2 A s us vs xs ys) : RcLt A s (.ref p) (.ref q) (rowLt xs ys) := fun prog w E Q h => by
  obtain ⟨⟨c1, d1, t1, w1⟩, o1, rfl, n1, rfl⟩ := a
  obtain ⟨⟨c2, d2, t2, w2⟩, o2, rfl, n2, rfl⟩ := b
  exact richCompare_meets_room (op := .Lt) ⟨_, o1, rfl⟩ ⟨_, o2, rfl⟩ F.slot_tuple_lt F.entry_tuple_lt (F.args_tuple_lt_2 _ _) (tup_rule p q us vs n1 n2 d1 d2 w1 w2 xs ys)
    ⟨o1, o2, row, show Value.bool (rowLt xs ys) ≠ Value.notImplemented ∧ Q (.bool (rowLt xs ys)) s from ⟨(fun x => nomatch x), h⟩⟩ hu
theorem lst_lt {p q : Addr} {us vs : Array Value} {xs ys : List PyData} (a : s.heap.IsList p us) (b : s.heap.IsList q vs) (hu : A.units < cLine) (row : Row2 A s us vs xs ys) : RcLt A s (.ref p) (.ref q) (rowLt xs ys) := fun prog w E Q h => by
  obtain ⟨⟨c1, d1, t1, w1⟩, o1, rfl, n1, rfl⟩ := a
  obtain ⟨⟨c2, d2, t2, w2⟩, o2, rfl, n2, rfl⟩ := b
  exact richCompare_meets_room (op := .Lt) ⟨_, o1, rfl⟩ ⟨_, o2, rfl⟩ F.slot_list_lt F.entry_list_lt (F.args_list_lt_2 _ _) (lst_rule p q us vs n1 n2 d1 d2 w1 w2 xs ys)
    ⟨o1, o2, row, show Value.bool (rowLt xs ys) ≠ Value.notImplemented ∧ Q (.bool (rowLt xs ys)) s from ⟨(fun x => nomatch x), h⟩⟩ hu
end
theorem plAll_at : ∀ {xs : List PyData} {j : Nat} {x : PyData}, PyData.plainAll xs = true → xs[j]? = some x → x.plain = true
  | y :: ys, 0, x, h, e => by rw [PyData.plainAll, Bool.and_eq_true] at h; cases e; exact h.1
  | y :: ys, j + 1, x, h, e => by rw [PyData.plainAll, Bool.and_eq_true] at h; exact plAll_at h.2 e
theorem pairEq_at {xs ys : List PyData} {j : Nat} {x y : PyData} (h1 : xs[j]? = some x) (h2 : ys[j]? = some y) : pairEq xs ys j = PyData.eqv x y := by
  unfold pairEq; simp [List.getD, h1, h2]
theorem reads_at {h : Heap} : ∀ {xs : List PyData} {us : List Value} {as : List Addr} {j : Nat} (hj : j < us.length) {x : PyData}, ReadsAll h us xs as → xs[j]? = some x → ∃ bs, Reads h us[j] x bs
  | _, _, _, 0, hj, x, .cons r _, e => by cases e; exact ⟨_, r⟩
  | _, _, _, j + 1, hj, x, .cons _ t, e => reads_at (Nat.lt_of_succ_lt_succ hj) t e
theorem depth_at : ∀ {xs : List PyData} {j : Nat} {x : PyData}, xs[j]? = some x → x.depth ≤ PyData.depthAll xs
  | y :: ys, 0, x, e => by cases e; rw [PyData.depthAll]; exact Nat.le_max_left _ _
  | y :: ys, j + 1, x, e => by rw [PyData.depthAll]; exact Nat.le_trans (depth_at (j := j) e) (Nat.le_max_right _ _)
/-- two plain rows: what is missing is the comparison of their things -/
theorem row2 {A : Around} {s : Shared} {us vs : Array Value} {xs ys : List PyData} {as bs : List Addr} (r1 : ReadsAll s.heap us.toList xs as) (r2 : ReadsAll s.heap vs.toList ys bs) (p1 : PyData.plainAll xs = true) (p2 : PyData.plainAll ys = true)
    (hg : galAll xs ys = true) (hu : A.in1.units + min (PyData.depthAll xs) (PyData.depthAll ys) < cLine)
    (hlt : ∀ j (h1 : j < us.size) (h2 : j < vs.size) x y, xs[j]? = some x → ys[j]? = some y → gal x y = true → PyData.eqv x y = false → RcLt A.in1 s us[j] vs[j] (dataLt x y)) : Row2 A s us vs xs ys :=
  ⟨by rw [← Array.length_toList]; exact ReadsAll.length _ _ _ r1, by rw [← Array.length_toList]; exact ReadsAll.length _ _ _ r2,
   fun j h1 h2 x y e1 e2 => by
    have := eqAt_plainAll xs ys A.in1 s us.toList vs.toList _ _ r1 r2 p1 p2 hu j (by simpa using h1) (by simpa using h2)
    rw [pairEq_at e1 e2] at this
    simpa using this, hlt, hg⟩
section
variable {A : Around} {s : Shared}
theorem gal_lt : ∀ (n : Nat) {x y : PyData} {A : Around} {u v : Value} {as bs : List Addr}, x.depth ≤ n → Reads s.heap u x as → Reads s.heap v y bs → x.plain = true → y.plain = true → gal x y = true → A.units + min x.depth y.depth < cLine → RcLt A s u v (dataLt x y) := by
  intro n
  induction n with
  | zero =>
    intro x y A u v as bs hn r1 r2 p1 p2 hg hu
    cases x <;> cases y <;> first | (simp [gal] at hg; done) | skip
    · cases r1; cases r2
      exact fun prog w E Q hq => lt_bool (by rw [dataLt_bool] at hq; exact hq)
    · cases r1; cases r2
      exact fun prog w E Q hq => P.lt_int (by rw [dataLt_int] at hq; exact hq)
    · cases r1; cases r2
      exact fun prog w E Q hq => P.lt_str (by rw [dataLt_str] at hq; exact hq)
    · simp [PyData.depth] at hn
    · simp [PyData.depth] at hn
  | succ n ih =>
    intro x y A u v as bs hn r1 r2 p1 p2 hg hu
    cases x <;> cases y <;> first | (simp [gal] at hg; done) | skip
    · cases r1; cases r2
      exact fun prog w E Q hq => lt_bool (by rw [dataLt_bool] at hq; exact hq)
    · cases r1; cases r2
      exact fun prog w E Q hq => P.lt_int (by rw [dataLt_int] at hq; exact hq)
    · cases r1; cases r2
      exact fun prog w E Q hq => P.lt_str (by rw [dataLt_str] at hq; exact hq)
    · rename_i xs ys
      rw [gal] at hg
      have hu2 : A.in1.units + min (PyData.depthAll xs) (PyData.depthAll ys) < cLine := room_in hu
      have hd : PyData.depthAll xs ≤ n := by simpa [PyData.depth] using hn
      cases r1 with
      | @list l o us k _ _ a1 a2 a3 a4 =>
        cases r2 with
        | @list l' o' vs k' _ _ b1 b2 b3 b4 =>
          rw [dataLt_list]
          refine lst_lt ⟨_, a1, a2, _, a3⟩ ⟨_, b1, b2, _, b3⟩ (room_here hu) (row2 a4 b4 p1 p2 hg hu2 fun j h1 h2 x y e1 e2 g e => ?_)
          obtain ⟨_, q1⟩ := reads_at (j := j) (by simpa using h1) a4 e1
          obtain ⟨_, q2⟩ := reads_at (j := j) (by simpa using h2) b4 e2
          refine ih (Nat.le_trans (depth_at e1) hd) (by simpa using q1) (by simpa using q2) (plAll_at p1 e1) (plAll_at p2 e2) g (Nat.lt_of_le_of_lt (Nat.add_le_add_left ?_ _) hu2)
          have := depth_at e1; have := depth_at e2; omega
    · rename_i xs ys
      rw [gal] at hg
      have hu2 : A.in1.units + min (PyData.depthAll xs) (PyData.depthAll ys) < cLine := room_in hu
      have hd : PyData.depthAll xs ≤ n := by simpa [PyData.depth] using hn
      cases r1 with
      | @tuple l o us k _ _ a1 a2 a3 a4 =>
        cases r2 with
        | @tuple l' o' vs k' _ _ b1 b2 b3 b4 =>
          rw [dataLt_tuple]
          refine tup_lt ⟨_, a1, a2, _, a3⟩ ⟨_, b1, b2, _, b3⟩ (room_here hu) (row2 a4 b4 p1 p2 hg hu2 fun j h1 h2 x y e1 e2 g e => ?_)
          obtain ⟨_, q1⟩ := reads_at (j := j) (by simpa using h1) a4 e1
          obtain ⟨_, q2⟩ := reads_at (j := j) (by simpa using h2) b4 e2
          refine ih (Nat.le_trans (depth_at e1) hd) (by simpa using q1) (by simpa using q2) (plAll_at p1 e1) (plAll_at p2 e2) g (Nat.lt_of_le_of_lt (Nat.add_le_add_left ?_ _) hu2)
          have := depth_at e1; have := depth_at e2; omega
/-- (an int, ..) -/
def IntTop (d : PyData) : Prop := ∃ (n : Int) (r : List PyData), d = .tuple (.int n :: r)
structure GKeys (ds : List PyData) : Prop where
  top : ∀ d ∈ ds, IntTop d
  pl : ∀ d ∈ ds, d.plain = true
  gal : ∀ d ∈ ds, ∀ e ∈ ds, gal d e = true
variable {prog : Program} {w : World}
theorem kat_tail {f fin : Bool} {Q : Bool → Shared → Prop} : ∀ (xs ys : List PyData) (i : Nat) (us vs : List Value) (as bs : List Addr), i ≠ 0 → ReadsAll s.heap us xs as → ReadsAll s.heap vs ys bs → PyData.plainAll xs = true → PyData.plainAll ys = true → galAll xs ys = true →
    A.units + min (PyData.depthAll xs) (PyData.depthAll ys) < cLine → fin = decide (xs.length < ys.length) → Q (rowLt xs ys) s → KatLex prog w A f fin Q (us.zip vs) i s
  | [], ys, i, _, _, _, _, hi, .nil, rb, _, _, _, _, hf, hq => by
    rw [List.zip_nil_left]
    refine kat_nil ?_
    cases ys with
    | nil => rw [rl_nn] at hq; rw [hf]; exact hq
    | cons y t => rw [rl_nc] at hq; rw [hf, decide_eq_true (by simp)]; exact hq
  | x :: xs, [], i, _, _, _, _, hi, ra, .nil, _, _, _, _, hf, hq => by
    rw [List.zip_nil_right]
    rw [rl_cn] at hq
    exact kat_nil (by rw [hf]; exact hq)
  | x :: xs, y :: ys, i, _, _, _, _, hi, .cons r rs, .cons r' rs', pa, pb, hg, hu, hf, hq => by
    rw [PyData.plainAll, Bool.and_eq_true] at pa pb
    rw [rl_cc (galAll_hd hg)] at hq
    rw [List.zip_cons_cons]
    refine kat_cons (eqAt_plain x y A s _ _ _ _ r r' pa.1 pb.1 (room_head hu) prog w _ _ ?_)
    by_cases he : PyData.eqv x y = true
    · rw [if_pos he] at hq
      rw [he]
      exact kat_yes (kat_tail xs ys (i + 1) _ _ _ _ (by omega) rs rs' pa.2 pb.2 (galAll_tl hg he) (room_tail hu) (by rw [hf]; simp) hq)
    · rw [if_neg he] at hq
      rw [show PyData.eqv x y = false by simpa using he]
      refine kat_no ?_
      rw [show (f && i == 0) = false by simp [hi]]
      exact kat_one _ _ (gal_lt _ (Nat.le_refl _) r r' pa.1 pb.1 (galAll_hd hg) (room_head hu) prog w _ _ hq)
theorem gkat {u v : Value} {a b : PyData} {as bs : List Addr} {f : Bool} {E : Value → Shared → Prop} {Q : Bool → Shared → Prop} (ra : Reads s.heap u a as) (rb : Reads s.heap v b bs) (ta : IntTop a) (tb : IntTop b) (pa : a.plain = true) (pb : b.plain = true) (hg : gal a b = true)
    (hu : A.units + min a.depth b.depth < cLine) (hf : f = true) (hq : Q (dataLt a b) s) : wpAny (model prog w) A (keyLt' (tuples' f) u v) Q E s := by
  obtain ⟨n, xs, rfl⟩ := ta
  obtain ⟨m, ys, rfl⟩ := tb
  have hg' : galAll (.int n :: xs) (.int m :: ys) = true := by rw [DLG.gal] at hg; exact hg
  have hu2 : A.units + min (PyData.depthAll (.int n :: xs)) (PyData.depthAll (.int m :: ys)) < cLine := by have := room_in hu; omega
  have pa' : PyData.plainAll (.int n :: xs) = true := pa
  have pb' : PyData.plainAll (.int m :: ys) = true := pb
  have ha : PyData.plainAll xs = true := by rw [PyData.plainAll, Bool.and_eq_true] at pa'; exact pa'.2
  have hb : PyData.plainAll ys = true := by rw [PyData.plainAll, Bool.and_eq_true] at pb'; exact pb'.2
  rw [dataLt_tuple] at hq
  have hq' : Q (rowLt (.int n :: xs) (.int m :: ys)) s := hq
  rw [rl_cc (galAll_hd hg')] at hq'
  cases ra with
  | @tuple p o us k _ _ a1 a2 a3 a4 =>
    cases rb with
    | @tuple p' o' vs k' _ _ b1 b2 b3 b4 =>
      have l1 : us.size = xs.length + 1 := by rw [← Array.length_toList]; exact ReadsAll.length _ _ _ a4
      have l2 : vs.size = ys.length + 1 := by rw [← Array.length_toList]; exact ReadsAll.length _ _ _ b4
      refine kat_lt a1 a3 b1 b3 ?_
      revert a4 b4
      generalize us.toList = lu
      generalize vs.toList = lv
      intro a4 b4
      cases a4 with
      | cons q1 t1 =>
        cases b4 with
        | cons q2 t2 =>
          rw [List.zip_cons_cons]
          refine kat_cons (eqAt_plain (.int n) (.int m) A s _ _ _ _ q1 q2 rfl rfl (room_head hu2) prog w _ _ ?_)
          by_cases he : PyData.eqv (.int n) (.int m) = true
          · rw [if_pos he] at hq'
            rw [he]
            exact kat_yes (kat_tail xs ys 1 _ _ _ _ (by omega) t1 t2 ha hb (galAll_tl hg' he) (room_tail hu2) (by rw [l1, l2]; simp) hq')
          · rw [if_neg he] at hq'
            rw [show PyData.eqv (.int n) (.int m) = false by simpa using he]
            refine kat_no ?_
            rw [hf]
            cases q1; cases q2
            rw [dataLt_int] at hq'
            exact oneLt_int hq'
theorem kind_of {ds : List PyData} (G : GKeys ds) {h : Heap} {v : Value} {d : PyData} {as : List Addr} (hd : d ∈ ds) (r : Reads h v d as) : (dataKind h ds).keyOf v = some (keyToks d) := by
  have q : ∃ d, d ∈ ds ∧ ∃ as, Reads h v d as := ⟨d, hd, as, r⟩
  show (open Classical in if q : ∃ d, d ∈ ds ∧ ∃ as, Reads h v d as then some (keyToks q.choose) else none) = _
  rw [dif_pos q]
  obtain ⟨m, bs, r2⟩ := q.choose_spec
  rw [plain_unique _ _ _ _ _ (G.pl _ m) r2 r]
theorem firsts {h : Heap} : ∀ {us : List Value} {ds : List PyData}, EachIs (fun v d => ∃ as, Reads h v d as) us ds → (∀ d ∈ ds, IntTop d) → ∃ fs, KatTups h us fs ∧ fs.length = us.length ∧ ∀ f ∈ fs, ∃ (n : Int) (as : List Addr), Reads h f (.int n) as
  | _, _, .nil, _ => ⟨[], .nil, rfl, fun f hf => nomatch hf⟩
  | _, _, .cons (b := d) ⟨as, r⟩ t, ht => by
    obtain ⟨fs, k1, k2, k3⟩ := firsts t fun d hd => ht d (.tail _ hd)
    obtain ⟨n, xs, rfl⟩ := ht d (.head _)
    cases r with
    | @tuple p o us k _ _ a1 a2 a3 a4 =>
      have l1 : 0 < us.toList.length := by rw [ReadsAll.length _ _ _ a4]; exact Nat.succ_pos _
      obtain ⟨bs, q⟩ := reads_at (j := 0) l1 a4 rfl
      refine ⟨us.toList[0] :: fs, .cons a1 a2 a3 (by simp) k1, by simp [k2], fun g hg => ?_⟩
      rcases List.mem_cons.mp hg with rfl | hg
      · exact ⟨n, bs, q⟩
      · exact k3 g hg
theorem gsorts {us : List Value} {ds : List PyData} (G : GKeys ds) (e : EachIs (fun v d => ∃ as, Reads s.heap v d as) us ds) (hu : ∀ d ∈ ds, A.units + d.depth < cLine) : SortsAt prog w A s (dataKind s.heap ds) us := by
  refine ⟨fun v hv => ?_, tuples' true, fun E x y a b Q ha hb hq => ?_, fun h2 E Q hq => ?_⟩
  · obtain ⟨d, hd, as, r⟩ := e.left v hv
    exact ⟨_, kind_of G hd r⟩
  · obtain ⟨d, as, hd, ra, rfl⟩ := dataKind_inv ha
    obtain ⟨d2, bs, hd2, rb, rfl⟩ := dataKind_inv hb
    exact gkat ra rb (G.top _ hd) (G.top _ hd2) (G.pl _ hd) (G.pl _ hd2) (G.gal _ hd _ hd2) (Nat.lt_of_le_of_lt (Nat.add_le_add_left (Nat.min_le_left _ _) _) (hu d hd)) rfl hq
  · obtain ⟨fs, t1, t2, t3⟩ := firsts e G.top
    refine kat_kind (T := .type "int") t1 (by omega) (fun f hf => ?_) (beq_self_eq_true _) (by exact hq)
    obtain ⟨n, as, r⟩ := t3 f hf
    exact looks_reads r
/-- the things sorted by such keys -/
theorem gsorted_each {β : Type} {h : Heap} {R : Value → β → Prop} {ks us : List Value} {bs : List β} (k : β → PyData) (G : GKeys (bs.map k)) (e : EachIs (fun v d => ∃ as, Reads h v d as) ks (bs.map k)) (hR : EachIs R us bs) :
    EachIs R (sortVals (dataKind h (bs.map k)) false ks us) (bs.mergeSort (dataLe false k)) :=
  sortVals_each (κ := dataKind h (bs.map k)) (fun b => keyToks (k b)) hR (each_of_map k ((each_mem e).mono fun _ _ z => kind_of G z.2 z.1.choose_spec))
end
def Sorts (ds : List PyData) : Prop := (AllAlike ds ∧ Sortable ds) ∨ GKeys ds
theorem Sorts.at_ {prog : Program} {w : World} {A : Around} {s : Shared} {us : List Value} {ds : List PyData} (z : Sorts ds) (e : EachIs (fun v d => ∃ as, Reads s.heap v d as) us ds) (hu : ∀ d ∈ ds, A.units + d.depth < cLine) : SortsAt prog w A s (dataKind s.heap ds) us := by
  rcases z with ⟨z1, z2⟩ | z
  · exact SortsAt.data e z1 z2 hu
  · exact gsorts z e hu
theorem Sorts.each {β : Type} {h : Heap} {R : Value → β → Prop} {ks us : List Value} {bs : List β} (k : β → PyData) (z : Sorts (bs.map k)) (e : EachIs (fun v d => ∃ as, Reads h v d as) ks (bs.map k)) (hR : EachIs R us bs) :
    EachIs R (sortVals (dataKind h (bs.map k)) false ks us) (bs.mergeSort (dataLe false k)) := by
  rcases z with ⟨z1, z2⟩ | z
  · exact keyedOut_each k ⟨h, ks, z1, rfl, e⟩ hR
  · exact gsorted_each k z e hR
end DLG
namespace DL
open PySem PySem.Spec PyProof.Rows L2 LamX NdefX
/-- from one reading to the next: what J says of the heap stays -/
def Lasts (K : FW) (J : Hp → Prop) : Prop := ∀ S H S' H', Sim K S H → Stp S H S' H' → J H → J H'
structure KeyFn (X : Cx) (A : Around) (tbl : Tbl) (σ : L2.St) (q : Addr) (pf : List (Addr × Obj)) (J : Hp → Prop) (c : DF) : Prop where
  lasts : Lasts (xfw X tbl) J
  run : ∀ (pins : List (Addr × Obj)) (H : Hp) (s : Shared) (v : V) (u : Value) (d : D) (S : DS) (Q : DK) (E : Value → Shared → Prop), (∀ p ∈ pf, p ∈ pins) → Inv X pins σ H s → J H → RelV v u → Rv (xfw X tbl) H d v → Sim (xfw X tbl) S H → c [d] S Q →
    wpAny (model X.prog X.w) A (call (.ref q) [u]) (fun u' s' => ∃ d' S' v' H', Inv X pins σ H' s' ∧ RelV v' u' ∧ Rv (xfw X tbl) H' d' v' ∧ Sim (xfw X tbl) S' H' ∧ Stp S H S' H' ∧ Q d' S') E s
section
variable {X : Cx} {A : Around} {tbl : Tbl} {σ : L2.St} {k : Nat} {f : Addr} {fd : FuncData} {x : Str} {c : DF}
theorem env0_at {s : Shared} {H : Hp} {pins : List (Addr × Obj)} (I : Inv X pins σ H s) (hA : A.frames = some X.stack) : Env0 X.prog X.w X.K X.mg X.base A X.stack s H :=
  ⟨hA, I.ok.mod, I.bs, Nat.le_trans I.ok.bsz I.sz, I.stack, I.stkFree, I.hok, I.bare⟩
/-- a def of the module as the key -/
theorem keyfn_def (F : FnOk X.prog X.w X.K X.mg X.base CX0 k f fd [x] (liftF (xfw X tbl) 1 c)) (hr : Room k A) (hA : A.frames = some X.stack) (hb : Binds X.K fd [x] []) : KeyFn X A tbl σ f [] (fun _ => True) c := by
  refine ⟨fun _ _ _ _ _ _ _ => True.intro, fun pins H s v u d S Q E _ I _ ru rv hs h => ?_⟩
  refine wpAny_call (codeAny_mono (F.run A X.stack s H ⟨[u], []⟩ ([u] ++ []) [v] (fun v' H' => ∃ d' S', Rv (xfw X tbl) H' d' v' ∧ Sim (xfw X tbl) S' H' ∧ Stp S H S' H' ∧ Q d' S') E0 hr (env0_at I hA) (hb s [u] I.kIn rfl) (.cons ru .nil)
    ⟨rfl, [d], S, _, .cons rv .nil, hs, h, fun d' S' v' H' q r s a => ⟨d', S', r, s, a, q⟩⟩) fun r s' hq => ?_)
  cases r with
  | error e => exact (show False from hq).elim
  | ok fl =>
    cases fl with
    | ret u =>
      obtain ⟨v', H', I', rv', d', S', r1, r2, r3, r4⟩ := I.after hq
      exact ⟨d', S', v', H', I', rv', r1, r2, r3, r4⟩
    | next => exact False.elim hq
    | brk => exact False.elim hq
    | cont => exact False.elim hq
end
section
variable {X : Cx} {tbl : Tbl} {pins : List (Addr × Obj)} {σ : L2.St} {H : Hp} {s : Shared}
theorem _root_.L2.Inv.pinAdd {b : Addr} {o : Obj} (I : Inv X pins σ H s) (hb : s.heap.get? b = some o) (hn : H b = none) (hL : b ≠ X.env.locals) (hF : b ∉ X.fs) (hd : ∀ v, o.data ≠ .cell v) : Inv X ((b, o) :: pins) σ H s :=
  I.pins_of fun p hp => by
    rcases List.mem_cons.mp hp with rfl | hp
    · exact ⟨hb, hn, hL, hF, hd⟩
    · exact I.pin p (List.mem_append_right _ hp)
theorem _root_.L2.Inv.pinDrop {p : Addr × Obj} (I : Inv X (p :: pins) σ H s) : Inv X pins σ H s := I.pins_of fun q hq => I.pin q (List.mem_append_right _ (List.mem_cons_of_mem _ hq))
theorem _root_.L2.Inv.cellNe {b : Addr} {o : Obj} (I : Inv X pins σ H s) (hb : s.heap.get? b = some o) (hd : ∀ v, o.data ≠ .cell v) : ∀ x c, X.env.cells.lookup x = some c → c ≠ b := fun x c e z => by
  subst z
  obtain ⟨v, o', ho, hd'⟩ := I.cell x c e
  rw [hb] at ho; cases ho
  exact hd _ hd'
/-- a pinned thing is written -/
theorem _root_.L2.Inv.repin {b : Addr} {o o' : Obj} {h' : Heap} {t' : Nat} (I : Inv X ((b, o) :: pins) σ H s) (hs : Heap.SameBut b s.heap h') (ho : h'.get? b = some o') (hd : ∀ v, o'.data ≠ .cell v) (hk : X.s_0.heap.objs.size ≤ b) (nk : ∀ p ∈ X.pn ++ pins, p.1 ≠ b) :
    Inv X ((b, o') :: pins) σ H { s with heap := h', toks := t' } := by
  obtain ⟨e1, e2, e3, e4, e5⟩ := I.pin (b, o) (List.mem_append_right _ (.head _))
  have I1 : Inv X pins σ H { s with heap := h', toks := t' } := I.pinDrop.turned (fun c u hc e => (hs.2 c hc).trans e) e2 e3 (.inr hk) (I.cellNe e1 e5) nk
  exact I1.pinAdd ho e2 e3 e4 hd
/-- two pinned things are written, the second one is known from now on -/
theorem _root_.L2.Inv.adopt {b a : Addr} {o o2 : Obj} {h' : Heap} {t' : Nat} {vs : List V} {us : List Value} {n : Nat} (I : Inv X ((b, o) :: (a, o2) :: pins) σ H s) (hs : ∀ c u, c ≠ b → c ≠ a → s.heap.get? c = some u → h'.get? c = some u) (ho : h'.get? a = some (seqObj "list" us.toArray n))
    (rv : Vals vs us) (hz : vs.length ≤ sizeLine) (hb : X.s_0.heap.objs.size ≤ b) (ha : X.s_0.heap.objs.size ≤ a) (nb : ∀ p ∈ X.pn ++ pins, p.1 ≠ b) (na : ∀ p ∈ X.pn ++ pins, p.1 ≠ a) : Inv X pins σ (upd H a (.lst vs)) { s with heap := h', toks := t' } := by
  obtain ⟨b1, b2, b3, b4, b5⟩ := I.pin (b, o) (List.mem_append_right _ (.head _))
  obtain ⟨a1, a2, a3, a4, a5⟩ := I.pin (a, o2) (List.mem_append_right _ (.tail _ (.head _)))
  dsimp only at a1 a2 a3 a4 b1 b2 b3 b4
  have neb : ∀ c u, H c = some u → c ≠ b := fun c u e => ne_of_none e b2
  have nea : ∀ c u, H c = some u → c ≠ a := fun c u e => ne_of_none e a2
  have I0 : Inv X pins σ H s := I.pinDrop.pinDrop
  have nch : ∀ c, c ∉ [b, a] → c ≠ b ∧ c ≠ a := fun c hc => ⟨fun z => hc (by simp [z]), fun z => hc (by simp [z])⟩
  refine I0.step (g' := s.gens) (d' := s.drawn) (ch := [b, a]) (fun c hc => ?_) (fun c u _ _ hc e _ => hs c u (nch c hc).1 (nch c hc).2 e) (fun c u _ _ hc e _ => ⟨u.slots, hs c u (nch c hc).1 (nch c hc).2 e⟩)
    (fun c u hc _ e => (upd_ne (nch c hc).2).trans e) (fun c u hc e => ⟨u, hs c u (nch c hc).1 (nch c hc).2 e⟩) (fun c xs e => (upd_ne (nea _ _ e)).trans e) (fun c u w e => (upd_ne (nea _ _ e)).trans e) (fun c ps e => ⟨#[], by rw [upd_ne (nea _ _ e), e]; simp⟩) (fun m hm => ?_) (fun c u e => ?_) I.bare
  · simp only [List.mem_cons, List.not_mem_nil, or_false] at hc
    rcases hc with rfl | rfl
    · exact ⟨.inr hb, b3, I.cellNe b1 b5, nb⟩
    · exact ⟨.inr ha, a3, I.cellNe a1 a5, na⟩
  · obtain ⟨oo, es, ep, e, r⟩ := hm
    exact ⟨oo, es, ep, hs _ oo (Ne.symm b3) (Ne.symm a3) e, r⟩
  · by_cases hc : c = a
    · subst hc
      rw [upd_same] at e; cases e
      exact ⟨hz, us, n, rv, ho⟩
    · rw [upd_ne hc] at e
      refine (I0.hok c u e).stay (fun d v hd q => hs d v ?_ ?_ q) (fun d q => (upd_ne (nea _ _ q)).trans q) fun d xs q => (upd_ne (nea _ _ q)).trans q
      · rcases hd with z | z
        · rw [z]; exact neb c u e
        · exact neb d _ z
      · rcases hd with z | z
        · rw [z]; exact hc
        · exact nea d _ z
end
/-- the keys, one after the other -/
def sortKs (c : DF) (K : List D → DS → Prop) : List D → List D → DS → Prop
  | [], ks, S => K ks S
  | y :: ys, ks, S => c [y] S fun k S1 => sortKs c K ys (ks ++ [k]) S1
/-- the things in the order of their keys -/
def sortedK (xs ks : List D) : List D := ((xs.zip ks).mergeSort fun a b => dle a.2 b.2).map (·.1)
/-- keys that can be compared -/
def KeysOk (ks : List D) : Prop := (∀ k ∈ ks, k.plain = true ∧ k.dep ≤ 50) ∧ DLG.Sorts (ks.map D.py)
theorem KeysOk.mk {ks : List D} (h1 : ∀ k ∈ ks, k.plain = true ∧ k.dep ≤ 50) (h2 : PySem.W.AllAlike (ks.map D.py)) (h3 : PySem.W.Sortable (ks.map D.py)) : KeysOk ks := ⟨h1, .inl ⟨h2, h3⟩⟩
def rdL (S : DS) (ks : List D) : List D := ks.map (D.rd S 4)
section
variable {X : Cx} {tbl : Tbl} {pins : List (Addr × Obj)} {σ : L2.St} {H : Hp} {s : Shared}
theorem keys_reads {S : DS} (I : Inv X pins σ H s) (hs : Sim (xfw X tbl) S H) : ∀ {ks : List D} {vs : List V} {us : List Value}, (∀ k ∈ ks, (k.rd S 4).plain = true) → Vals vs us → RvL (xfw X tbl) H ks vs → PySem.W.EachIs (fun u d => ∃ as, Reads s.heap u d as) us ((rdL S ks).map D.py)
  | [], _, _, _, r, h => by cases h; cases r; exact .nil
  | k :: ks, _, _, hp, r, h => by
    cases h with
    | cons a b =>
      cases r with
      | cons c e => exact .cons (Rv.reads I hs 4 (hp k List.mem_cons_self) a c) (keys_reads I hs (fun x hx => hp x (List.mem_cons_of_mem _ hx)) e b)
theorem each_zip {α : Type} {R : α → D → Prop} : ∀ {us : List α} {xs ks : List D}, PySem.W.EachIs R us xs → xs.length = ks.length → PySem.W.EachIs (fun u (p : D × D) => R u p.1) us (xs.zip ks)
  | _, _, ks, .nil, _ => by rw [List.zip_nil_left]; exact .nil
  | _, _, [], .cons _ _, h => by simp at h
  | _, _, k :: ks, .cons a b, h => by rw [List.zip_cons_cons]; exact .cons a (each_zip b (by simpa using h))
theorem each_fst {α : Type} {R : α → D → Prop} : ∀ {us : List α} {ps : List (D × D)}, PySem.W.EachIs (fun u (p : D × D) => R u p.1) us ps → PySem.W.EachIs R us (ps.map (·.1))
  | _, _, .nil => .nil
  | _, _, .cons a b => .cons a (each_fst b)
theorem zip_snd {β : Type} (f : D → β) : ∀ {xs ks : List D}, xs.length = ks.length → (xs.zip ks).map (fun p => f p.2) = ks.map f
  | [], [], _ => rfl
  | [], _ :: _, h => by simp at h
  | _ :: _, [], h => by simp at h
  | x :: xs, k :: ks, h => by rw [List.zip_cons_cons, List.map_cons, List.map_cons, zip_snd f (by simpa using h)]
theorem sortK_core {l q : Addr} {vs : List V} {xs : List D} {pf : List (Addr × Obj)} {J : Hp → Prop} {c : DF} {S : DS} {KK : List D → DS → Prop} {Qv : Value → Shared → Prop} {E : Value → Shared → Prop}
    (I : Inv X (pf ++ pins) σ H s) (hJ : J H) (hs : Sim (xfw X tbl) S H) (hq : KeyFn X X.A.in1.in1 tbl σ q pf J c) (hl : SqL X.K H l vs) (rx : RvL (xfw X tbl) H xs vs) (hu : X.A.units + 100 < cLine)
    (hk : sortKs c KK xs [] S) (hKK : ∀ ks S, KK ks S → KeysOk (rdL S ks))
    (done : ∀ ks S' H' s' p us, KK ks S' → Inv X (pf ++ pins) σ (upd H' p (.lst us)) s' → H' p = none → Sim (xfw X tbl) S' H' → Stp S H S' H' → H p = none → RvL (xfw X tbl) H' (sortedK xs (rdL S' ks)) us → Qv (.ref p) s') :
    wpAny (model X.prog X.w) X.A (call (.builtin "sorted") [.ref l] [(Str.ofString "key", .ref q)]) Qv E s := by
  obtain ⟨its, rv, hil, hz⟩ := I.list hl
  have hlen : its.length = xs.length := by rw [← rv.length, rx.length]
  have hzi : its.length ≤ sizeLine := by rw [hlen, rx.length]; exact hz
  refine PySem.W.sorted_of_sort hil.isList hzi (PyProof.Rows.ksk_s1 _ _) (fun _ => PyProof.Rows.ksk_l1 _ _) fun E' => ?_
  rw [PyProof.Rows.ksk_t1]
  have ha : s.heap.objs.size ≤ s.heap.objs.size + 1 := Nat.le_succ _
  have ho := PySem.W.copyHeap_at s.heap its
  obtain ⟨e1, ho1⟩ : ∃ e1, ((PySem.W.copyHeap s.heap its).update (s.heap.objs.size + 1) (Obj.mapSeq fun _ => (#[] : Array Value))).get? (s.heap.objs.size + 1) = some (seqObj "list" #[] e1) := ⟨_, get?_update_seq ho fun _ => #[]⟩
  have hlt := Heap.lt_size ho
  have hkS : (((PySem.W.copyHeap s.heap its).update (s.heap.objs.size + 1) (Obj.mapSeq fun _ => (#[] : Array Value))).push (seqObj "tuple" its.toArray 0)).objs.size = (PySem.W.copyHeap s.heap its).objs.size + 1 := by rw [size_push', Heap.size_update]
  unfold ksk_tree
  refine wpAny_bind (listItems_at ho rfl ?_)
  refine wpAny_bind (listUpdate_at ho rfl ?_ (by rw [List.size_toArray]; exact hzi) (Nat.zero_le _))
  refine wpAny_bind (seqEpoch_at ho1 rfl ?_)
  refine wpAny_bind (wpAny_newTuple ?_ (by show its.length ≤ _; exact hzi))
  refine wpAny_bind (wpAny_newList ?_ (Nat.zero_le _))
  refine wpAny_holding ?_
  generalize hkSd : (((PySem.W.copyHeap s.heap its).update (s.heap.objs.size + 1) (Obj.mapSeq fun _ => (#[] : Array Value))).push (seqObj "tuple" its.toArray 0)).objs.size = kS at *
  obtain ⟨h2, hh2⟩ : ∃ h2, h2 = (((PySem.W.copyHeap s.heap its).update (s.heap.objs.size + 1) (Obj.mapSeq fun _ => (#[] : Array Value))).push (seqObj "tuple" its.toArray 0)).push (seqObj "list" #[] 0) := ⟨_, rfl⟩
  have old : ∀ b u, s.heap.get? b = some u → h2.get? b = some u := fun b u e => by
    rw [hh2]
    refine Heap.get?_push_of_some _ (Heap.get?_push_of_some _ ?_)
    rw [Heap.get?_update_ne _ _ _ _ (Nat.ne_of_lt (Nat.lt_succ_of_lt (Heap.lt_size e)))]
    exact PySem.W.copyHeap_old e
  have nk : h2.get? kS = some (seqObj "list" #[] 0) := by rw [hh2, ← hkSd]; exact Heap.get?_push_size _ rfl
  have na : h2.get? (s.heap.objs.size + 1) = some (seqObj "list" #[] e1) := by rw [hh2]; exact Heap.get?_push_of_some _ (Heap.get?_push_of_some _ ho1)
  have hka : s.heap.objs.size + 1 < kS := by rw [hkS]; exact Nat.lt_succ_of_lt hlt
  generalize hA : s.heap.objs.size + 1 = a at *
  have hsa : s.heap.objs.size ≤ a := by omega
  have hsk : s.heap.objs.size ≤ kS := by omega
  have ltL := I.lt
  have I2 : Inv X (pf ++ pins) σ H { s with heap := h2 } := I.kept (t' := s.toks) old
  have npin : ∀ b, s.heap.objs.size ≤ b → ∀ p ∈ X.pn ++ (pf ++ pins), p.1 ≠ b := fun b hb p hp z => by
    exact Nat.lt_irrefl _ (Nat.lt_of_lt_of_le (z ▸ Heap.lt_size (I.pin p hp).1) hb)
  have I3 : Inv X ((a, seqObj "list" #[] e1) :: (pf ++ pins)) σ H { s with heap := h2 } := I2.pinAdd na (I.hok.fresh hsa) (Nat.ne_of_gt (Nat.lt_of_lt_of_le ltL hsa)) (I.nofs hsa) (fun _ z => by cases z)
  have I4 : Inv X ((kS, seqObj "list" #[] 0) :: (a, seqObj "list" #[] e1) :: (pf ++ pins)) σ H { s with heap := h2 } := I3.pinAdd nk (I.hok.fresh hsk) (Nat.ne_of_gt (Nat.lt_of_lt_of_le ltL hsk)) (I.nofs hsk) (fun _ z => by cases z)
  have hs0 : X.s_0.heap.objs.size ≤ a := Nat.le_trans I.sz hsa
  have hs1 : X.s_0.heap.objs.size ≤ kS := Nat.le_trans I.sz hsk
  have nkp : ∀ p ∈ X.pn ++ ((a, seqObj "list" (#[] : Array Value) e1) :: (pf ++ pins)), p.1 ≠ kS := fun p hp => by
    rcases List.mem_append.mp hp with hp | hp
    · exact npin kS hsk p (List.mem_append_left _ hp)
    · rcases List.mem_cons.mp hp with rfl | hp
      · show a ≠ kS; omega
      · exact npin kS hsk p (List.mem_append_right _ hp)
  rw [← hh2]
  unfold ksk_rest
  refine wpAny_bind (wpAny_rule ?_)
  first
    | rw [List.forIn_toArray]
    | (rw [← Array.forIn_toList]; simp only [List.toList_toArray])
    | rw [← Array.forIn_toList]
  refine wpAny_bind (ksk_fold (fun i s' => ∃ H' S' kA e ks kvs, Inv X ((kS, seqObj "list" kA e) :: (a, seqObj "list" #[] e1) :: (pf ++ pins)) σ H' s' ∧ J H' ∧ Sim (xfw X tbl) S' H' ∧ Stp S H S' H' ∧ Vals kvs kA.toList ∧ RvL (xfw X tbl) H' ks kvs ∧ ks.length = i ∧ sortKs c KK (xs.drop i) ks S') its 0 _
    ⟨H, S, #[], 0, [], [], I4, hJ, hs, .refl _ _, .nil, .nil, rfl, by rw [List.drop_zero]; exact hk⟩ ?step ?done)
  case step =>
    rintro j u s' hu' ⟨H', S', kA, e, ks, kvs, I', J', hs', st', kv, rk, hkl, hk'⟩
    simp only [Nat.zero_add] at hkl hk' ⊢
    have hj : j < its.length := (List.getElem?_eq_some_iff.mp hu').1
    have hjx : j < xs.length := by omega
    have hzk : kA.size ≤ its.length := by
      have h1 : kvs.length = kA.toList.length := kv.length
      have h2 : ks.length = kvs.length := rk.length
      have h3 : kA.toList.length = kA.size := Array.length_toList ..
      omega
    obtain ⟨v, hv, hvd⟩ : ∃ v, vs[j]? = some v ∧ Rv (xfw X tbl) H xs[j] v := rx.get (List.getElem?_eq_getElem hjx)
    obtain ⟨u2, hu2, rvu⟩ := rv.get hv
    rw [hu'] at hu2
    obtain rfl := Option.some.inj hu2
    rw [List.drop_eq_getElem_cons hjx] at hk'
    refine wpAny_bind (wpAny_attempt (wpAny_mono (hq.run _ H' s' v u xs[j] S' _ (fun _ _ => False) (fun p hp => List.mem_cons_of_mem _ (List.mem_cons_of_mem _ (List.mem_append_left _ hp))) I' J' rvu (st'.rv hvd) hs' hk') (fun u' s'' hh => ?_) fun _ _ hF => hF.elim))
    obtain ⟨d', S'', v', H'', I'', rv', rd', hs'', st'', hk''⟩ := hh
    try dsimp only
    have nk2 : s''.heap.get? kS = some (seqObj "list" kA e) := (I''.pin _ (List.mem_append_right _ (.head _))).1
    have s1 := Heap.SameBut.update s''.heap kS (Obj.mapSeq (·.push u'))
    obtain ⟨c2, hc2⟩ : ∃ c2, (s''.heap.update kS (Obj.mapSeq (·.push u'))).get? kS = some (seqObj "list" (kA.push u') c2) := ⟨_, get?_update_seq nk2 (·.push u')⟩
    have ea : (kA.push u').toList = kA.toList ++ [u'] := by simp
    refine wpAny_bind (listUpdate_at nk2 rfl ?_ (Nat.le_trans hzk hzi) (Nat.le_trans (Nat.le_of_eq (Array.size_push ..)) (Nat.succ_le_succ (Nat.le_trans hzk hzi))))
    refine wpAny_pure ⟨rfl, H'', S'', kA.push u', c2, ks ++ [d'], kvs ++ [v'], I''.repin (t' := s''.toks) s1 hc2 (fun _ z => by cases z) hs1 nkp, hq.lasts _ _ _ _ hs' st'' J', hs'', st'.trans st'', ?_, ?_, ?_, hk''⟩
    · rw [ea]; exact kv.append (.cons rv' .nil)
    · exact (st''.rvl rk).append (.cons rd' .nil)
    · rw [List.length_append, hkl]; rfl
  case done =>
    rintro s' ⟨H', S', kA, e, ks, kvs, I', J', hs', st', kv, rk, hkl, hk'⟩
    rw [Nat.zero_add] at hkl hk'
    rw [List.drop_of_length_le (by omega)] at hk'
    have hk'' : KK ks S' := hk'
    obtain ⟨k1, k2⟩ := hKK ks S' hk''
    have nk' : s'.heap.get? kS = some (seqObj "list" kA e) := (I'.pin _ (List.mem_append_right _ (.head _))).1
    have na' : s'.heap.get? a = some (seqObj "list" #[] e1) := (I'.pin _ (List.mem_append_right _ (.tail _ (.head _)))).1
    have hrl : xs.length = (rdL S' ks).length := by unfold rdL; rw [List.length_map, hkl, hlen]
    have hsz : kA.size = its.length := by
      have h1 : kvs.length = kA.toList.length := kv.length
      have h2 : ks.length = kvs.length := rk.length
      have h3 : kA.toList.length = kA.size := Array.length_toList ..
      omega
    have hread := keys_reads I' hs' (fun k hk => (k1 _ (List.mem_map.mpr ⟨k, hk, rfl⟩)).1) kv rk
    refine wpAny_bind (listItems_at nk' rfl ?_)
    refine PySem.W.keyH_end (h₁ := PySem.W.hideAll s'.heap [kS]) (κ := PySem.W.dataKind s'.heap ((rdL S' ks).map D.py)) (fun b u hb e => PySem.W.of_hideAll _ e) (PySem.W.hideAll_none _ (List.mem_singleton.mpr rfl)) nk' na' (Nat.ne_of_gt hka)
      (DLG.Sorts.at_ (s := s') k2 hread fun d hd => ?_) hsz hzi fun h3 tk3 c3 kp3 n3 => ⟨rfl, ?_⟩
    · obtain ⟨x, hx, rfl⟩ := List.mem_map.mp hd
      rw [D.dep_py _ (k1 x hx).1]
      have := (k1 x hx).2
      show X.A.units + 2 + _ < _
      omega
    · have zs := zip_snd D.py hrl
      have heach := DLG.Sorts.each (h := s'.heap) (ks := kA.toList) (fun p : D × D => p.2.py) (by rw [zs]; exact k2) (by rw [zs]; exact hread) (each_zip (R := fun u d => ∃ v, RelV v u ∧ Rv (xfw X tbl) H' d v) (RvL.each rv (st'.rvl rx)) hrl)
      rw [zs] at heach
      obtain ⟨ws, w1, w2⟩ := EachIs.rvl (each_fst heach)
      have hnH : H' a = none := (I'.pin _ (List.mem_append_right _ (.tail _ (.head _)))).2.1
      have hws : ws.length ≤ sizeLine := by
        rw [← w2.length, List.length_map, List.length_mergeSort, List.length_zip]; omega
      have I5 := I'.adopt (h' := h3) (t' := tk3) (fun c u hc1 hc2 e => kp3 c u hc2 (PySem.W.hideAll_get _ e (fun z => hc1 (List.mem_singleton.mp z)))) n3 w1 hws hs1 hs0 (fun p hp => npin kS hsk p hp) (fun p hp => npin a hsa p hp)
      exact done ks S' H' _ a ws hk'' I5 hnH hs' st' (I.hok.fresh hsa) w2
end
section
variable {X : Cx} {tbl : Tbl} {pins : List (Addr × Obj)} {σ : L2.St} {H : Hp} {s : Shared} {S : DS}
abbrev lamQ (X : Cx) : Str := X.env.qual ++ "<lambda>"
/-- its table, among those that are known -/
structure LamT (X : Cx) (tbl : Tbl) (c P : Addr) : Prop where
  at_ : TabB X.base X.mg c P
  mem : (P, lamQ X) ∈ tbl
  one : ∀ p ∈ tbl, p.1 = P → p.2 = lamQ X
theorem sim_grow {K : FW} {P c : Addr} {qn : Str} {ps : Array Value} {pos : Pos} (x : Sim K S H) (hP : H P = some (.tbl ps)) (hc : H c = none) (tok : TriplesOk ps.toList) (mem : (P, qn) ∈ K.tb) (one : ∀ p ∈ K.tb, p.1 = P → p.2 = qn) :
    Sim K S (upd (upd H P (.tbl (ps ++ #[rawInt pos.line, rawInt pos.col, .ref c]))) c (CodeO c qn)) ∧ Stp S H S (upd (upd H P (.tbl (ps ++ #[rawInt pos.line, rawInt pos.col, .ref c]))) c (CodeO c qn)) := by
  have nPc : P ≠ c := ne_of_none hP hc
  have same : ∀ b o, H b = some o → (∀ qs, o ≠ .tbl qs) → upd (upd H P (.tbl (ps ++ #[rawInt pos.line, rawInt pos.col, .ref c]))) c (CodeO c qn) b = some o := fun b o e n => by
    have h1 : b ≠ c := ne_of_none e hc
    have h2 : b ≠ P := fun z => by subst z; rw [hP] at e; exact n ps (Option.some.inj e).symm
    rw [upd_ne h1, upd_ne h2]; exact e
  have stp : Stp S H S (upd (upd H P (.tbl (ps ++ #[rawInt pos.line, rawInt pos.col, .ref c]))) c (CodeO c qn)) :=
    ⟨fun b xs e => same b _ e (fun _ z => nomatch z), fun b o u e => same b _ e (fun _ z => nomatch z), fun b o _ n e => same b o e n, fun _ _ n => n, fun b e => upd_live (upd_live e)⟩
  refine ⟨⟨fun a o e => ?_, fun p hp => ?_⟩, stp⟩
  · have r := x a o e
    obtain ⟨z, ez, _⟩ := r.some
    exact stp.ro ((same a z ez fun qs w => r.noT.1 qs (by rw [ez, w])).trans ez.symm) r
  · obtain ⟨qs, h1, h2, h3⟩ := x.tab p hp
    have code : ∀ {d : Addr}, H d = some (CodeO d p.2) → upd (upd H P (.tbl (ps ++ #[rawInt pos.line, rawInt pos.col, .ref c]))) c (CodeO c qn) d = some (CodeO d p.2) := fun e => same _ _ e codeO_ne
    by_cases hp1 : p.1 = P
    · rw [hp1, hP] at h1
      have e1 : qs = ps := by injection h1 with h1; injection h1 with h1; exact h1.symm
      subst e1
      refine ⟨_, by rw [hp1, upd_ne nPc, upd_same], ?_, fun ppos cv hcv => ?_⟩
      · rw [Array.toList_append]; exact TriplesOk_snoc _ _ _ _ tok
      · rw [Array.toList_append] at hcv
        rcases among_app _ tok hcv with z | z
        · obtain ⟨d, e1, e2⟩ := h3 ppos cv z
          exact ⟨d, e1, code e2⟩
        · exact ⟨c, z, by rw [one p hp hp1]; exact upd_same⟩
    · refine ⟨qs, ?_, h2, fun ppos cv hcv => ?_⟩
      · rw [upd_ne (ne_of_none h1 hc), upd_ne hp1]; exact h1
      · obtain ⟨d, e1, e2⟩ := h3 ppos cv hcv
        exact ⟨d, e1, code e2⟩
/-- the lambda's function object is new, its code object known -/
theorem lam_mk {c P : Addr} {params : Arguments} {body : Expr} {scope : Scope} {pos : Pos} {E : Value → Shared → Prop} {Q : Value → Shared → Prop} (I : Inv X pins σ H s) (hs : Sim (xfw X tbl) S H) (L : LamT X tbl c P) (hcode : X.env.code = .ref c) (hdef : defaultsOf params X.env = ([], []))
    (hfree : ∀ y ∈ scope.names, y.2 = .free → ∃ c, X.env.cells.lookup y.1 = some c)
    (h : ∀ (f c' : Addr) (pm ctv : Value) (H1 : Hp) (s' : Shared), Inv X pins σ H1 s' → Sim (xfw X tbl) S H1 → Stp S H S H1 → H1 c' = some (CodeO c' (lamQ X)) → H1 f = none → f ∉ X.fs → f ≠ X.env.locals →
      s'.heap.get? f = some (PySem.W.kla_obj "<lambda>" (lamQ X) params body scope (cloFrom X.env.cells scope.names []) pm c' ctv) → Q (.ref f) s') :
    wpAny (model X.prog X.w) X.A (eval (.Lambda params body scope pos) X.env) Q E s := by
  obtain ⟨ps, hP, tok, hall⟩ := hs.tab _ L.mem
  have hPo := I.hok P _ hP
  have bP := L.at_.bm.keeps I.bk
  have nf : ∀ a, s.heap.objs.size ≤ a → H a = none ∧ a ∉ X.fs ∧ a ≠ X.env.locals := fun a ha => ⟨I.hok.fresh ha, I.nofs ha, Nat.ne_of_gt (Nat.lt_of_lt_of_le I.lt ha)⟩
  refine PySem.W.kla_eval hdef ?_
  cases hc : codeAmong pos ps.toList with
  | some cv =>
    obtain ⟨d, rfl, hd⟩ := hall pos cv hc
    refine PySem.W.kla_makeFunctionHit (P := P) (closure_ok hfree) I.ok.glob (I.mod.glob.keeps I.bk) hcode (L.at_.code.keeps I.bk) hPo tok hc bP fun ctv h' tk old hsz => ?_
    have I1 := I.kept (t' := tk) (h' := h'.push (PySem.W.kla_obj "<lambda>" (lamQ X) params body scope (cloFrom X.env.cells scope.names []) ((X.mg "__name__").getD .none) d ctv)) fun b o e => Heap.get?_push_of_some _ (old b o e)
    obtain ⟨n1, n2, n3⟩ := nf _ hsz
    exact h _ d _ ctv H _ I1 hs (.refl _ _) hd n1 n2 n3 (Heap.get?_push_size _ rfl)
  | none =>
    refine PySem.W.kla_makeFunction (P := P) (closure_ok hfree) I.ok.glob (I.mod.glob.keeps I.bk) hcode (L.at_.code.keeps I.bk) hPo tok hc L.at_.gP bP fun d ctv h' tk old hge hlt rec tb' => ?_
    obtain ⟨d2, od, ws, tq, e2, g1, g2, g3⟩ := rec
    cases e2
    obtain ⟨m1, m2⟩ := sim_grow (pos := pos) hs hP (I.hok.fresh hge) tok L.mem L.one
    have hsz : s.heap.objs.size ≤ h'.objs.size := Nat.le_of_lt (Nat.lt_of_le_of_lt hge hlt)
    have I1 := inv_table (t' := tk) (more := #[rawInt pos.line, rawInt pos.col, .ref d]) (h' := h'.push (PySem.W.kla_obj "<lambda>" (lamQ X) params body scope (cloFrom X.env.cells scope.names []) ((X.mg "__name__").getD .none) d ctv)) I hP
      (fun b o nb e => Heap.get?_push_of_some _ (old b o nb e)) (Heap.get?_push_of_some _ tb') hge ⟨od, ws, tq, Heap.get?_push_of_some _ g1, g2, g3⟩
    obtain ⟨n1, n2, n3⟩ := nf _ hsz
    refine h _ d _ ctv _ _ I1 m1 m2 upd_same ?_ n2 n3 (Heap.get?_push_size _ rfl)
    rw [upd_ne (Nat.ne_of_gt hlt), upd_ne (Nat.ne_of_gt (Nat.lt_of_lt_of_le (Heap.lt_size hPo) hsz))]
    exact n1
end
/-- the arounds in which built-ins call -/
def InB (X : Cx) (A : Around) : Prop := A = X.A.in1 ∨ A = X.A.in1.in1
theorem InB.frames {X : Cx} {A : Around} (ok : X.Ok) (h : InB X A) : A.frames = some X.stack := by
  rcases h with rfl | rfl <;> exact ok.frames
theorem InB.room {X : Cx} {A : Around} {n : Nat} (hr : Room (4 * n + 3) X.A) (h : InB X A) : Room (4 * n + 1) A := by
  rcases h with rfl | rfl
  · exact (rm4i hr).1.mono (by omega)
  · exact (rm4i hr).2
structure KeyEx (X : Cx) (tbl : Tbl) (e : Expr) (cc : Loc → DF) : Prop where
  run : ∀ (pins : List (Addr × Obj)) (s : Shared) (σ : L2.St) (H : Hp) (δ : Loc) (S : DS) (Q : Value → Shared → Prop), Inv X pins σ H s → Rst (xfw X tbl) H δ σ → Sim (xfw X tbl) S H →
    (∀ (q : Addr) (s' : Shared) (H1 : Hp) (pf : List (Addr × Obj)) (J : Hp → Prop), Inv X (pf ++ pins) σ H1 s' → Sim (xfw X tbl) S H1 → Stp S H S H1 → (∀ A, InB X A → KeyFn X A tbl σ q pf J (cc δ)) → J H1 → Q (.ref q) s') →
    wpAny (model X.prog X.w) X.A (eval e X.env) Q X.xe s
section
variable {X : Cx} {tbl : Tbl} {n : Nat} {f : Addr} {fd : FuncData} {x y : Str} {c : DF} {pos : Pos}
theorem key_def (F : FnOk X.prog X.w X.K X.mg X.base CX0 (4 * n) f fd [y] (liftF (xfw X tbl) 1 c)) (hr : Room (4 * n + 3) X.A) (hg : Gl X x) (hm : X.mg x = some (.ref f)) (hb : Binds X.K fd [y] []) (hd : (x == ("__debug__" : Str)) = false := by decide) :
    KeyEx X tbl (.Name x pos) (fun _ => c) := by
  refine ⟨fun pins s σ H δ S Q I hR hs h => ?_⟩
  refine wpAny_mono ((pe_glob (pos := pos) (v := .ref f) hg hm rfl hd).run pins s σ H (fun v H' => v = .ref f ∧ H' = H) I ⟨rfl, rfl⟩) (fun u s' hq => ?_) fun _ _ e => e
  obtain ⟨v, H', I', ru, rfl, rfl⟩ := hq
  obtain rfl : u = Value.ref f := ru
  exact h f s' _ [] (fun _ => True) I' hs (.refl _ _) (fun A hA => keyfn_def F ((InB.room hr hA).mono (by omega)) (hA.frames I.ok) hb) True.intro
def slotD (δ : Loc) (j : Nat) : Option D := match δ[j]? with
  | some o => o
  | none => none
def startD (nl : Nat) (ds : List D) (wd : List (Option D)) : Loc := ds.map some ++ (wd ++ List.replicate (nl - ds.length - wd.length) none)
/-- a lambda's reading: its names are the parameter, what it captures (at js), its own -/
def lamK (nl : Nat) (js : List Nat) (t : DE) : Loc → DF := fun δ ds S Q => ds.length = 1 ∧ t (startD nl ds (js.map (slotD δ))) S Q
theorem rst_startD {K : FW} {H : Hp} {δ : Loc} {σ : L2.St} {N : List Str} {js : List Nat} {d : D} {v : V} (r : Rst K H δ σ) (rv : Rv K H d v) : Rst K H (startD N.length [d] (js.map (slotD δ))) (startF N [v] (js.map (slotAt σ))) := by
  unfold startD startF
  refine ⟨by simp, fun i e h => ?_⟩
  rw [List.map_cons, List.map_nil, List.singleton_append] at h
  show ∃ v', ([v].map some ++ _)[i]? = _ ∧ _
  rw [List.map_cons, List.map_nil, List.singleton_append]
  cases i with
  | zero =>
    rw [List.getElem?_cons_zero] at h ⊢
    obtain rfl := Option.some.inj (Option.some.inj h)
    exact ⟨v, rfl, rv⟩
  | succ i =>
    rw [List.getElem?_cons_succ] at h ⊢
    by_cases hi : i < js.length
    · rw [List.getElem?_append_left (by rw [List.length_map]; exact hi), List.getElem?_map, List.getElem?_eq_getElem hi] at h
      have h1 : slotD δ js[i] = some e := Option.some.inj h
      have h2 : δ[js[i]]? = some (some e) := by
        unfold slotD at h1
        split at h1
        · rename_i o ho; rw [ho, h1]
        · cases h1
      obtain ⟨w, w1, w2⟩ := r.2 _ _ h2
      exact ⟨w, by rw [List.getElem?_append_left (by rw [List.length_map]; exact hi), List.getElem?_map, List.getElem?_eq_getElem hi]; exact congrArg some (slotAt_of w1), w2⟩
    · rw [List.getElem?_append_right (by rw [List.length_map]; omega), List.getElem?_replicate] at h
      split at h <;> cases h
theorem key_lam {N fr : List Str} {js : List Nat} {cA P : Addr} {params : Arguments} {body : Expr} {scope : Scope} {t : DE} (L : LamT X tbl cA P) (hcode : X.env.code = .ref cA) (hr : Room (4 * n + 3) X.A) (S : NScope N [y] fr scope)
    (hdef : defaultsOf params X.env = ([], [])) (hdB : ndefB X.env.scope scope fr = true) (hjs : js.map (fun j => X.N[j]?) = fr.map some)
    (hbind : ∀ (q : Str) (cl : List (Str × Addr)) (pm cv ctv u : Value), bindArgs (PySem.W.kla_fn "<lambda>" q params body scope cl pm cv ctv) ⟨[u], []⟩ = pure [(y, u)])
    (hbody : ∀ (qn : Str) (cl : List (Str × Addr)) (c' f : Addr) (A : Around) (s : Shared) (H : Hp) (E : XK), Room (4 * n) (A.deeper (envF ⟨"<lambda>", qn, params, [], scope, cl, c'⟩ f s.heap.objs.size)) →
      PE (ncx CX0 X.prog X.w X.K X.mg X.base N ⟨"<lambda>", qn, params, [], scope, cl, c'⟩ f A X.stack s H E).nox body (liftE (xfw X tbl) t)) :
    KeyEx X tbl (.Lambda params body scope pos) (lamK N.length js t) := by
  refine ⟨fun pins s σ H δ S0 Q I hR hs h => ?_⟩
  have hfree := ndef_free hdB
  have hfr2 : ∀ y ∈ scope.names, y.2 = .free → ∃ c, X.env.cells.lookup y.1 = some c := fun y hy e => (hfree y hy e).elim (fun z => I.ok.has _ (.inl z)) fun z => I.ok.has _ (.inr z)
  refine lam_mk I hs L hcode hdef hfr2 fun f c' pm ctv H1 s1 I1 hs1 st1 hc' hf1 hf2 hf3 hfo => ?_
  have I2 : Inv X ([(f, PySem.W.kla_obj "<lambda>" (lamQ X) params body scope (cloFrom X.env.cells scope.names []) pm c' ctv)] ++ pins) σ H1 s1 := I1.pinAdd hfo hf1 hf3 hf2 (fun _ z => by cases z)
  refine h f s1 H1 _ (fun H2 => H2 c' = some (CodeO c' (lamQ X)) ∧ Rst (xfw X tbl) H2 δ σ) I2 hs1 st1 (fun A hA => ⟨fun S2 H2 S3 H3 hs2 st2 ⟨j1, j2⟩ => ⟨?_, j2.stp st2⟩, ?_⟩) ⟨hc', hR.stp st1⟩
  · refine st2.keep c' _ ?_ codeO_ne j1
    cases q : S2 c' with
    | none => rfl
    | some o => exact absurd j1 ((hs2 c' o q).noT.2 _ _)
  · intro pins2 H2 s2 v u d S2 Q2 E2 hp I3 ⟨j1, j2⟩ ru rv hs2 hq
    obtain ⟨_, hq⟩ := hq
    have ho := (I3.pin _ (List.mem_append_right _ (hp _ (.head _)))).1
    have hrA := InB.room hr hA
    let F : NF := ⟨"<lambda>", lamQ X, params, [], scope, cloFrom X.env.cells scope.names [], c'⟩
    have rc : codeAny (model X.prog X.w) A (.call (.ref f) ⟨[u], []⟩) (CR CX0 X.stack X.prog X.w H2 s2 (fun v' H' => ∃ d' S', Rv (xfw X tbl) H' d' v' ∧ Sim (xfw X tbl) S' H' ∧ Stp S2 H2 S' H' ∧ Q2 d' S') E0) s2 := by
      refine PySem.W.kla_callFunE hrA.depth ho rfl S.co S.gen rfl (codeO_at I3.hok j1) ?_
      rw [hbind]
      refine wpAny_pure (wpAny_newFunctionEnv S.nocell (fun z hz => by rw [List.mem_singleton.mp hz]; exact S.par _ (List.mem_singleton.mpr rfl)) (fun h₁ hns hsb => ⟨I3.nolimit.fresh _ hsb, ?_⟩) S.kind)
      show codeAny _ _ (.expr body (envF F f s2.heap.objs.size)) _ _
      have kp : ∀ b o, s2.heap.get? b = some o → h₁.get? b = some o := fun b o e => hsb.extBut b o (Nat.ne_of_lt (Heap.lt_size e)) (Heap.get?_push_of_some _ e)
      have caps : Caps X F.cl fr js := Caps.made I3.ok hfree (ndef_fr hdB) hjs
      have J : Inv (ncx CX0 X.prog X.w X.K X.mg X.base N F f A X.stack s2 H2 E0) [] (startF N [v] (js.map (slotAt σ))) H2 { s2 with heap := h₁, toks := s2.toks + ([(y, u)] : List (Str × Value)).length } :=
        inv_startN (ps := [y]) (us := [u]) S hrA.hd (env0_at I3 (hA.frames I3.ok)) rfl (.cons ru .nil) (cells_of I3 caps) hns kp
      refine PySem.W.kla_codeExpr (wpAny_mono ((hbody _ _ _ f A s2 H2 E0 (hrA.deeper _)).nox.run [] _ _ H2 (fun v' H' => ∃ d' S', Rv (xfw X tbl) H' d' v' ∧ Sim (xfw X tbl) S' H' ∧ Stp S2 H2 S' H' ∧ Q2 d' S') J
        ⟨_, S2, _, rst_startD j2 rv, hs2, hq, fun d' S' v' H' q r s a => ⟨d', S', r, s, a, q⟩⟩) (fun v' s' hv => ?_) fun e s' hv => hv)
      obtain ⟨w', H', J', rv', q⟩ := hv
      exact ⟨w', H', J'.os, J'.bare, J'.base, J'.hok, rv', q⟩
    refine wpAny_call (codeAny_mono rc fun r s' hv => ?_)
    cases r with
    | error e => exact (show False from hv).elim
    | ok fl =>
      cases fl with
      | ret u =>
        obtain ⟨v', H', I', rv', d', S', r1, r2, r3, r4⟩ := I3.after hv
        exact ⟨d', S', v', H', I', rv', r1, r2, r3, r4⟩
      | next => exact False.elim hv
      | brk => exact False.elim hv
      | cont => exact False.elim hv
end
def sortKV (c : DF) (x : D) (S : DS) (Q : DK) : Prop := match lstOf S x with
  | some xs => sortKs c (fun ks S2 => KeysOk (rdL S2 ks) ∧ ∀ p, S2 p = none → Q (.ref p) (dupd S2 p (.lst (sortedK xs (rdL S2 ks))))) xs [] S
  | none => False
def dSortK (cc : Loc → DF) (te : DE) : DE := fun δ S Q => te δ S fun x S1 => sortKV (cc δ) x S1 Q
def one1 (r : D → DS → Prop) (ds : List D) (S : DS) : Prop := match ds with
  | [x] => r x S
  | _ => False
section
variable {X : Cx} {tbl : Tbl} {e ek : Expr} {te : DE} {cc : Loc → DF} {pos p kpos : Pos}
theorem qe_sortK (hu : X.A.units + 100 < cLine) (hk : KeyEx X tbl ek cc) (hg : Gl X "sorted") (hm : X.mg "sorted" = none) (ha : PE X e (liftE (xfw X tbl) te))
    (he : backTo pos (starEach [e] X.env) = (false, eval e X.env) :: backTo pos (starEach [] X.env) := by rfl) (hpl : (backTo pos (starEach [e] X.env)).any (·.1) = false := by rfl) (hse : starEach [e] X.env = (false, eval e X.env) :: starEach [] X.env := by rfl) :
    PE X (.Call (.Name "sorted" p) [e] [⟨some "key", ek, kpos⟩] pos) (liftE (xfw X tbl) (dSortK cc te)) := by
  refine ⟨fun pins s σ H Q I ⟨δ, S, Q0, hr, hs, h, hq⟩ => ?_⟩
  refine wpAny_Call_Name_kw (ld_blt I hg hm rfl ?_)
  have pa : PA X [e] (liftA (xfw X tbl) (dCons te dNil)) := qa_cons ha qa_nil hse
  refine PyProof.Rows.callWith_kw (thn (pa.run pos pins s σ H (fun vs H1 => ∃ x S1 v, vs = [v] ∧ Rv (xfw X tbl) H1 x v ∧ Sim (xfw X tbl) S1 H1 ∧ Stp S H S1 H1 ∧ sortKV (cc δ) x S1 Q0) I
    ⟨δ, S, one1 fun x S1 => sortKV (cc δ) x S1 Q0, hr, hs, h, ?_⟩) fun us s1 ⟨vs, H1, I1, r1, x, S1, v, ev, rx, hs1, st1, q1⟩ => ?_) he hpl (by rfl) (by rfl)
  · intro ds S' vs H' q rv hs' st'
    match ds, q, rv with
    | [x], q, rv =>
      obtain ⟨v, rfl, rd⟩ := rv.one
      exact ⟨x, S', v, rfl, rd, hs', st', q⟩
  · subst ev
    unfold sortKV at q1
    split at q1
    · rename_i xs hx
      show wpAny _ _ (evalAll ((do let v ← eval ek X.env; standAt pos; pure v) :: [])) _ _ s1
      refine wpAny_evalAll_cons (wpAny_bind (hk.run pins s1 σ H1 δ S1 _ I1 (hr.stp st1) hs1 fun q s2 H2 pf J I2 hs2 st2 hK hJ => wpAny_bind (wpAny_standAt (wpAny_pure (wpAny_evalAll_nil ?_)))))
      obtain ⟨l, ws, rfl, hl, rxs⟩ := lst_of hs2 (st2.rv rx) hx
      rw [Vals.ref1 r1]
      show wpAny _ _ (call (.builtin "sorted") [.ref l] [(Str.ofString "key", .ref q)]) _ _ s2
      refine sortK_core I2 hJ hs2 (hK _ (.inr rfl)) hl rxs hu q1 (fun ks S3 z => z.1) fun ks S3 H3 s3 p us hkk I3 hp hs3 st3 hpH rus => ?_
      have I4 : Inv X pins σ (upd H3 p (.lst us)) s3 := I3.pins_of fun q hq => I3.pin q (List.mem_append_right _ (List.mem_append_right _ hq))
      have hp3 : S3 p = none := by
        cases z : S3 p with
        | none => rfl
        | some o => obtain ⟨w, ew, _⟩ := (hs3 p o z).some; rw [hp] at ew; cases ew
      refine ⟨.ref p, _, I4, rfl, hq _ _ _ _ (hkk.2 p hp3) (.ref p) (hs3.new hp ⟨us, upd_same, (Stp.laid (S := S3) hp).rvl rus⟩) ((st1.trans (st2.trans st3)).trans (Stp.new hp))⟩
    · exact q1.elim
end
def dmerge (kvs more : List (D × D)) : List (D × D) := more.foldl (fun acc p => dput acc p.1 p.2) kvs
def mUpdate : DM := fun x ds S Q => match x, ds with
  | .ref a, [.ref b] => match S a, S b with
    | some (.dct _ kvs), some (.dct _ more) => (a ≠ b ∧ kvs ≠ [] ∧ (∀ p ∈ kvs, isTk p.1 = true) ∧ (∀ p ∈ more, isTk p.1 = true) ∧ kvs.length + more.length ≤ 16777216) ∧ ∀ st', Q .non (dupd S a (.dct st' (dmerge kvs more)))
    | _, _ => False
  | _, _ => False
theorem dmerge_len : ∀ (more kvs : List (D × D)), (dmerge kvs more).length ≤ kvs.length + more.length
  | [], kvs => Nat.le_refl _
  | p :: more, kvs => by
    have h1 := dmerge_len more (dput kvs p.1 p.2)
    have h2 := length_dput kvs p.1 p.2
    show (dmerge (dput kvs p.1 p.2) more).length ≤ _
    rw [List.length_cons]; omega
theorem dmerge_nodup : ∀ (more kvs : List (D × D)), (kvs.map fun p => nk p.1).Nodup → ((dmerge kvs more).map fun p => nk p.1).Nodup
  | [], _, h => h
  | p :: more, kvs, h => dmerge_nodup more _ (dput_nodup h)
theorem dmerge_tp {K : FW} {H : Hp} : ∀ {more : List (D × D)} {ys : List XT} {kvs : List (D × D)} {xs : List XT}, TP K H kvs xs → TP K H more ys → TP K H (dmerge kvs more) (storedAllH xs ys)
  | _, _, kvs, xs, h, .nil => h
  | _, _, kvs, xs, h, .cons (a := a) (b := b) ⟨h0, h1, h2, v, h3, h4⟩ t => dmerge_tp (kvs := dput kvs a.1 a.2) (xs := storedH xs b.1 b.2.1 b.2.2) (dput_tp h3 h4 h h0 h1 h2) t
section
variable {X : Cx} {tbl : Tbl}
theorem dmt_update (hu : X.A.units + 100 < cLine) : MtR X "dict.update" (liftM (xfw X tbl) mUpdate) := dl_m fun pins s σ H d ds x xs v us S Q Q0 I rx rs hd hx hs hr hq => by
  match d, ds, hd, hx, hr with
  | .ref a, [.ref b], hd, hx, hr =>
    cases hd
    cases (show v = Value.ref a from rx)
    obtain ⟨yv, rfl, ry⟩ := hx.one
    cases ry
    have hr' : (match S a, S b with
      | some (.dct _ kvs), some (.dct _ more) => (a ≠ b ∧ kvs ≠ [] ∧ (∀ p ∈ kvs, isTk p.1 = true) ∧ (∀ p ∈ more, isTk p.1 = true) ∧ kvs.length + more.length ≤ 16777216) ∧ ∀ st', Q0 .non (dupd S a (.dct st' (dmerge kvs more)))
      | _, _ => False) := hr
    rw [Vals.ref1 rs]
    split at hr'
    · rename_i st kvs st2 more e1 e2
      obtain ⟨⟨h1, h2, h3, h4, h5⟩, h6⟩ := hr'
      obtain ⟨xs, tx, dx⟩ := dct_tp I hs e1 h3
      obtain ⟨ys, ty, dy⟩ := dct_tp I hs e2 h4
      have hxl := Paired.length tx
      have hyl := Paired.length ty
      refine PySem.call_update_dictH (kroom hu _ _) h1 (dct_at I hs e2).1 dx dy (.inl fun z => h2 ?_) (by rw [← hxl, ← hyl, szl]; exact h5) fun h' d1 d2 sb => ?_
      · subst z; exact List.eq_nil_of_length_eq_zero hxl
      · obtain ⟨o, es, ep, ho, hc, hdt, hes, _, _⟩ := d1
        have re' := tp_rent (P := X.prog) (dmerge_tp tx ty)
        obtain ⟨_, _, _, _, hn, _⟩ := dct_at I hs e1
        obtain ⟨i1, i2, i3⟩ := dct_write (t' := s.toks) (st' := ⟨es, ep⟩) I hs e1 sb ⟨o, ho, hc, hdt⟩ (by show REnt _ _ _ es.toList; rw [hes]; exact re') (by have := dmerge_len more kvs; rw [szl]; omega) (dmerge_nodup more kvs hn)
        exact ⟨.non, _, i1, rfl, hq _ _ _ _ (h6 ⟨es, ep⟩) .non i2 i3⟩
    · exact hr'.elim
end
end DL
namespace DL
open PySem PySem.Spec PyProof.Rows L2 LamX NdefX
abbrev LT := List (Str × Addr × Addr)
/-- the tables of the defs that make lambdas: name, code object, table -/
def tblOf (tt : LT) : Tbl := tt.map fun t => (t.2.2, (t.1 ++ ".<locals>.") ++ "<lambda>")
theorem lamT_of {X : Cx} {tt : LT} {x : Str} {c P : Addr} (hB : ∀ t ∈ tt, TabB X.base X.mg t.2.1 t.2.2) (hx : (x, c, P) ∈ tt) (hn : (tt.map fun t => t.2.2).Nodup) (hq : X.env.qual = x ++ ".<locals>.") : LamT X (tblOf tt) c P := by
  refine ⟨hB _ hx, ?_, fun p hp e => ?_⟩
  · unfold lamQ; rw [hq]; exact List.mem_map.mpr ⟨_, hx, rfl⟩
  · obtain ⟨t, ht, rfl⟩ := List.mem_map.mp hp
    have : t = (x, c, P) := by
      obtain ⟨i, hi⟩ := List.mem_iff_getElem?.mp ht
      obtain ⟨j, hj⟩ := List.mem_iff_getElem?.mp hx
      have h1 : (tt.map fun t => t.2.2)[i]? = some P := by rw [List.getElem?_map, hi]; exact congrArg some e
      have h2 : (tt.map fun t => t.2.2)[j]? = some P := by rw [List.getElem?_map, hj]; rfl
      have : i = j := (List.getElem?_inj (List.getElem?_eq_some_iff.mp h1).1 hn).mp (h1.trans h2.symm)
      subst this
      rw [hi] at hj; exact Option.some.inj hj
    subst this
    unfold lamQ; rw [hq]
/-- the code object that a def has -/
theorem tab_cd {K : PySem.W.Frag} {x : Str} {f c P : Addr} {oc : Value} {od : Option Addr} {fd : FuncData} {sl : Array (Option Value)} (a : PySem.W.nsIn K mainGlobals x = some (some (.ref f))) (l : K.lookup f = some ⟨oc, od, .func fd, sl⟩) (t : PySem.W.tabIn K x = some (c, P)) : fd.code = .ref c := by
  unfold PySem.W.tabIn at t
  simp only [a, l] at t
  split at t
  · rename_i c2 h2
    split at t
    · split at t
      · cases t; exact h2
      · cases t
    · cases t
  · cases t
theorem tab_mk {K : PySem.W.Frag} {x : Str} {f c P : Addr} {oc x1 : Value} {od x2 : Option Addr} {fd : FuncData} {sl x3 : Array (Option Value)} {vs : Array Value} (a : PySem.W.nsIn K mainGlobals x = some (some (.ref f))) (l : K.lookup f = some ⟨oc, od, .func fd, sl⟩) (hc : fd.code = .ref c)
    (lc : K.lookup c = some ⟨x1, x2, .fields vs, x3⟩) (v : vs[11]? = some (.ref P)) : PySem.W.tabIn K x = some (c, P) := by
  unfold PySem.W.tabIn
  simp only [a, l, hc, lc, v]
/-- a def whose code object is known -/
structure FunC (K : PySem.W.Frag) (x qual : Str) (st : Stmt) (f : Addr) (fd : FuncData) (c : Addr) : Prop where
  ex : ∃ (oc : Value) (od : Option Addr) (kV doc pm : Value) (an : Option Addr) (ct : Value) (osl : Array (Option Value)),
    fd = PySem.W.fnOf x qual (defArgs st) (defBody st) (defScope st) .none kV doc pm an (.ref c) ct ∧ K.lookup f = some ⟨oc, od, .func fd, osl⟩ ∧ PySem.W.codeIn K (.ref c) qual = true
theorem FunC.of {K : PySem.W.Frag} {x qual : Str} {st : Stmt} {f : Addr} {fd : FuncData} {c P : Addr} (F : Fun K x qual st f fd) (a : PySem.W.nsIn K mainGlobals x = some (some (.ref f))) (t : PySem.W.tabIn K x = some (c, P)) : FunC K x qual st f fd c := by
  obtain ⟨oc, od, kV, doc, pm, an, cdv, ct, osl, rfl, lk, hcd⟩ := F.ex
  have h : cdv = .ref c := tab_cd a lk t
  subst h
  exact ⟨oc, od, kV, doc, pm, an, ct, osl, rfl, lk, hcd⟩
section
variable {P : Program} {w : World} {K : PySem.W.Frag} {mg : Str → Option Value} {base : Heap}
theorem fn_okC {x qual : Str} {st : Stmt} {f c : Addr} {fd : FuncData} {N ps : List Str} {n : Nat} {fs : Nat → FnD} {i : Nat} {tbl : Tbl} (F : FunC K x qual st f fd c) (Sc : FnScope N ps (defScope st)) (hn : ps.length = (fs i).np) (hl : N.length = (fs i).nl)
    (hbody : ∀ (A : Around) (outer : List Env) (s : Shared) (H : Hp) (E : XK), Room (4 * n + 3) (A.deeper (envOfC qual (defScope st) s.heap.objs.size f (.ref c))) →
      PSs (cxOf CX0 P w K mg base N qual (defScope st) f (.ref c) A outer s H E).nox (defBody st) (liftS ⟨K, w, tbl⟩ ((fs i).body (sem fs n)))) :
    FnOk P w K mg base CX0 (4 * (n + 1)) f fd ps (liftF ⟨K, w, tbl⟩ (fs i).np (sem fs (n + 1) i)) := by
  obtain ⟨oc, od, kV, doc, pm, an, ct, osl, rfl, lk, hcd⟩ := F.ex
  refine fn_of (k := 4 * n + 3) lk hcd Sc (fun vs H Q E h => by rw [h.1, hn]) (fun A outer s H vs Q E hr h => ?_)
  obtain ⟨hlen, ds, S, Q0, rv, hs, hc, hq⟩ := h
  refine ⟨_, (hbody A outer s H E hr).nox, ?_⟩
  refine ⟨_, S, _, rst_start rv (m := (fs i).nl - (fs i).np) (by rw [hl, hlen]), hs, hc.2, ⟨fun δ S' σ H' h r x a => hq _ _ _ _ h .non x a, fun d S' v H' h r x a => hq _ _ _ _ h r x a, fun _ _ _ _ h => h.elim, fun _ _ _ _ h => h.elim⟩⟩
/-- a list that is handed in can be taken for one that nobody writes -/
def spFz (K : PySem.W.Frag) (sp : Sp) : Sp := fun vs H Q E => ∃ a xs, vs = [.ref a] ∧ SqL K H a xs ∧ ∀ H', FqL K H' a xs → (∀ b, b ≠ a → H' b = H b) → (H a = none → H' a = none) → sp [.ref a] H' Q E
theorem _root_.L2.FnOk.freeze {k : Nat} {f : Addr} {fd : FuncData} {x : Str} {sp : Sp} (F : FnOk P w K mg base CX0 k f fd [x] sp) : FnOk P w K mg base CX0 k f fd [x] (spFz K sp) := by
  refine ⟨fun vs H Q E ⟨a, xs, e, _⟩ => by rw [e]; rfl, fun A outer s H args us vs Q E hr e0 hb rv ⟨a, xs, e, hl, h⟩ => ?_⟩
  subst e
  rcases hl with (hl | ⟨o, hl⟩) | hl
  · have hob := e0.hok a _ hl
    obtain ⟨hz, its, n, r, ho⟩ := hob
    let H' := upd H a (.frz { cls := .type "list", data := .seq its.toArray n } (.lst xs))
    have same : ∀ b, b ≠ a → H' b = H b := fun b hb => upd_ne hb
    have hno : ∀ b, H b = none → H' b = none := fun b hb => (same b (fun z => by subst z; rw [hl] at hb; cases hb)).trans hb
    have nea : ∀ b u, H b = some u → (∀ ys, u ≠ .lst ys) → b ≠ a := fun b u e n z => by subst z; rw [hl] at e; exact n _ (Option.some.inj e).symm
    have ok' : HOk P w H' s.heap := fun b u e => by
      by_cases hba : b = a
      · subst hba
        have e2 : H' b = some (.frz _ (.lst xs)) := upd_same
        rw [e2] at e; cases e
        exact ⟨ho, hz, its, n, r, ho⟩
      · rw [same b hba] at e
        exact (e0.hok b u e).stay (fun d v _ q => q) (fun d q => (same d (nea d _ q (fun _ z => nomatch z))).trans q) fun d ys q => (same d (nea d _ q (fun _ z => nomatch z))).trans q
    have e1 : Env0 P w K mg base A outer s H' := ⟨e0.frames, e0.mod, fun b o e => ⟨(e0.bs b o e).1, hno b (e0.bs b o e).2⟩, e0.bsz, e0.funs, fun b hb => hno b (e0.frf b hb), ok', e0.bare⟩
    refine codeAny_mono (F.run A outer s H' args us [.ref a] Q E hr e1 hb rv (h H' (.inl ⟨_, upd_same⟩) same (fun z => by rw [hl] at z; cases z))) fun rr s' hq => ?_
    cases rr with
    | error e => exact (show False from hq).elim
    | ok fl =>
      cases fl with
      | next => exact False.elim hq
      | brk => exact False.elim hq
      | cont => exact False.elim hq
      | ret u =>
        obtain ⟨v, H2, os, bare, un, hok, r', q⟩ := hq
        refine ⟨v, H2, os, bare, ⟨fun b o e n hb hx => un.keep b o e (hno b n) hb hx, fun b o e n hb hx => un.slot b o e (hno b n) hb hx, fun b o e n hx => un.free b o e (hno b n) hx, un.there, fun b ys e => un.tups b ys ((same b (nea b _ e (fun _ z => nomatch z))).trans e), fun b o u e => un.frzs b o u ((same b (nea b _ e (fun _ z => nomatch z))).trans e), fun b ps e => un.tbls b ps ((same b (nea b _ e (fun _ z => nomatch z))).trans e)⟩, hok, r', q⟩
  · exact F.run A outer s H args us [.ref a] Q E hr e0 hb rv (h H (.inl ⟨o, hl⟩) (fun _ _ => rfl) id)
  · exact F.run A outer s H args us [.ref a] Q E hr e0 hb rv (h H (.inr hl) (fun _ _ => rfl) id)
end
theorem law_sp {K : FW} {c : DF} {np : Nat} (hnp : np = 1) {H : Hp} {a : Addr} {ns : List Int} (ht : ∀ p ∈ K.tb, H p.1 = some (.tbl #[])) (nt : ∀ p ∈ K.tb, K.K.lookup p.1 = none) (hS : SqL K H a (ns.map V.int)) {E : XK}
    (h : c [.fl (ns.map D.int)] (fun _ => none) fun d _ => d = .bl true) : spFz K (liftF K np c) [.ref a] H (fun v _ => v = .bl true) E := by
  refine ⟨a, _, rfl, hS, fun H' hF same _ => ⟨hnp.symm, [.fl (ns.map D.int)], fun _ => none, _, .cons (.fl hF (RvL.ints ns)) .nil, ⟨fun _ _ e => (nomatch e), fun p hp => .nil ?_⟩, h, fun d S' v H' e r _ _ => ?_⟩⟩
  · have hne : p.1 ≠ a := fun z => by
      rcases hS with (hS | ⟨o, hS⟩) | ⟨o, _, _, hS, _⟩
      · rw [← z, ht p hp] at hS; cases hS
      · rw [← z, ht p hp] at hS; cases hS
      · rw [← z, nt p hp] at hS; cases hS
    rw [same _ hne]; exact ht p hp
  · subst e; cases r; rfl
theorem walk_end {l : PySem.W.OpenLaw} {k : Nat} {q : Program} {loose : List Str} {XP : (Str → Option Value) → Heap → Prop} {YP : World → Heap → Prop} {d : DefRec} {K : Params → PySem.W.Frag} {fs : Nat → FnD} {i : Nat} (names : List Str)
    (hn : l.most = some 63) (hdf : d.params.defaults = []) (hr : Room (4 * k) callerA) (hnp : (fs i).np = 1)
    (hY : ∀ (w : World) (h : Heap), YP w h → (K w.params).In h)
    (hrec : names.all (fun x => ((recsOf q).find? fun e => e.name == x).isSome) = true)
    (F : ∀ (w : World) (mg : Str → Option Value) (fa : Addr) (h : Heap), (K w.params).In h → h.Ns mainGlobals mg → mg d.name = some (.ref fa) →
      ∃ (fd : FuncData) (tt : LT), (∀ t ∈ tt, t.1 ∈ names ∧ PySem.W.tabIn (K w.params) t.1 = some t.2 ∧ (K w.params).lookup t.2.2 = none) ∧ (∀ (s : Shared) (u : Value), BindsTo s fd ⟨[u], []⟩ [("script", u)]) ∧
        ∀ base : Heap, (K w.params).In base → base.Ns mainGlobals mg → (∀ t ∈ tt, TabB base mg t.2.1 t.2.2) → FnOk l.prog w (K w.params) mg base CX0 (4 * k) fa fd ["script"] (liftF ⟨K w.params, w, tblOf tt⟩ (fs i).np (sem fs k i)))
    (law : ∀ ns : List Int, ns.length ≤ 63 → sem fs k i [.fl (ns.map D.int)] (fun _ => none) fun d _ => d = .bl true) :
    PySem.W.WalkO q loose XP YP l.row.toRowW d [] (fun f vs => PySem.call f vs) := by
  refine Att.attach_callB hn hdf fun w s₀ s₁ mg mb fa o pm cd doc a vs ns G Y ho hd hcd hmg hobj hints hlen hbits hg => ?_
  have KX := hY w _ Y
  obtain ⟨fd, tt, hT, hb, hF⟩ := F w mg fa _ KX G.T.g hmg
  have tabs : ∀ t ∈ tt, PySem.W.CodeHd s₁.heap t.2.1 t.2.2 ∧ s₁.heap.get? t.2.2 = some { cls := .none, data := .fields #[] } := fun t ht => by
    obtain ⟨h1, h2, _⟩ := hT t ht
    obtain ⟨r, hr⟩ := Option.isSome_iff_exists.mp (List.all_eq_true.mp hrec t.1 h1)
    exact PySem.W.tab_of G.T KX hr h2
  have mem : ∀ p ∈ tt.map (·.2), ∃ t ∈ tt, t.2 = p := fun p hp => by obtain ⟨t, ht, e⟩ := List.mem_map.mp hp; exact ⟨t, ht, e⟩
  refine law_callTs (CX := CX0) (cs := tt.map (·.2)) KX G.T.g G.T.b G.T.builtins G.T.nolimit hg (fun p hp => ?_) (fun p hp => ?_) (fun p hp => ?_) G.T.bmain hobj hints (Nat.le_trans hlen (by decide)) hr
    (fun base hK hN hTB => (hF base hK hN fun t ht => hTB t.2 (List.mem_map.mpr ⟨t, ht, rfl⟩)).freeze) hb (fun H hH hS => ?_) (fun _ _ _ z => z)
  · obtain ⟨t, ht, rfl⟩ := mem p hp; exact (tabs t ht).2
  · obtain ⟨t, ht, rfl⟩ := mem p hp; exact (hT t ht).2.2
  · obtain ⟨t, ht, rfl⟩ := mem p hp; exact (tabs t ht).1
  · refine law_sp (K := ⟨K w.params, w, tblOf tt⟩) hnp (fun p hp => ?_) (fun p hp => ?_) hS (law ns hlen)
    · obtain ⟨t, ht, rfl⟩ := List.mem_map.mp hp; exact hH t.2 (List.mem_map.mpr ⟨t, ht, rfl⟩)
    · obtain ⟨t, ht, rfl⟩ := List.mem_map.mp hp; exact (hT t ht).2.2
end DL
namespace DL
open PySem PySem.Spec PyProof.Rows L2 LamX NdefX
def CmpOk (a b : D) : Prop := a.plain = true ∧ b.plain = true ∧ PySem.W.alike a.py b.py = true ∧ a.py ≠ .none ∧ a.dep ≤ 50
def dlt (a b : D) : Bool := PySem.W.dataLt a.py b.py
def minKs (c : DF) (x : D) (xs : List D) (Q : DK) : List D → D → D → DS → Prop
  | [], b, _, S => lstOf S x = some xs ∧ Q b S
  | y :: ys, b, kb, S => lstOf S x = some xs ∧ c [y] S fun k S1 => CmpOk (k.rd S1 4) (kb.rd S1 4) ∧ (if dlt (k.rd S1 4) (kb.rd S1 4) = true then minKs c x xs Q ys y k S1 else minKs c x xs Q ys b kb S1)
def minKV (c : DF) (x : D) (S : DS) (Q : DK) : Prop := match lstOf S x with
  | some (y :: ys) => c [y] S fun k S1 => minKs c x (y :: ys) Q ys y k S1
  | _ => False
section
variable {X : Cx} {tbl : Tbl} {pins : List (Addr × Obj)} {σ : L2.St} {q it a l : Addr} {pf : List (Addr × Obj)} {J : Hp → Prop} {c : DF} {x : D} {xs : List D} {Q0 : DK} {S0 : DS} {H0 : Hp}
theorem _root_.L2.Inv.pinSwap {p1 p2 : Addr × Obj} {σ : L2.St} {H : Hp} {s : Shared} (I : Inv X (p1 :: p2 :: pins) σ H s) : Inv X (p2 :: p1 :: pins) σ H s := I.pins_of fun p hp => by
  rcases List.mem_cons.mp hp with rfl | hp
  · exact I.pin _ (List.mem_append_right _ (.tail _ (.head _)))
  · rcases List.mem_cons.mp hp with rfl | hp
    · exact I.pin _ (List.mem_append_right _ (.head _))
    · exact I.pin _ (List.mem_append_right _ (.tail _ (.tail _ hp)))
theorem itObj {h : Heap} {o : Obj} {i : Nat} (hi : h.IsListIter it l i) (ho : h.get? it = some o) : o.cls = .type "list_iterator" ∧ o.data = .fields #[.ref l, .int i 0] := by
  obtain ⟨o', e, r⟩ := hi
  rw [ho] at e; cases e; exact r
theorem minK_loop {R : Result → Shared → Prop} {kw : List (Str × Value)} (hq : KeyFn X X.A.in1 tbl σ q pf J c) (hu : X.A.units + 100 < cLine) (hrx : Rv (xfw X tbl) H0 x (.ref l)) (hax : a ≠ it) (hs0 : X.s_0.heap.objs.size ≤ a) (hi0 : X.s_0.heap.objs.size ≤ it) (hcalm : X.A.handled = none)
    (na : ∀ p ∈ X.pn ++ (pf ++ pins), p.1 ≠ a) (ni : ∀ p ∈ X.pn ++ (pf ++ pins), p.1 ≠ it)
    (hR : ∀ s' u v b H S, Inv X (pf ++ pins) σ H s' → Sim (xfw X tbl) S H → Stp S0 H0 S H → RelV v u → Rv (xfw X tbl) H b v → Q0 b S → R (.ok (.ret u)) s') :
    ∀ (k j : Nat) (s : Shared) (ub uk : Value) (e : Nat) (oi : Obj) (H : Hp) (S : DS) (b kb : D) (vb vk : V), xs.length - (j + 1) = k → j + 1 ≤ xs.length → Inv X ((a, seqObj "list" #[ub, uk] e) :: (it, oi) :: (pf ++ pins)) σ H s → oi.cls = .type "list_iterator" → oi.data = .fields #[.ref l, .int (j + 1 : Nat) 0] → J H → Sim (xfw X tbl) S H → Stp S0 H0 S H → RelV vb ub → Rv (xfw X tbl) H b vb → RelV vk uk → Rv (xfw X tbl) H kb vk →
      minKs c x xs Q0 (xs.drop (j + 1)) b kb S → codeAny (model X.prog X.w) X.A (.builtin "min.loop" ⟨[.ref it, (.ref q), .ref a], kw⟩) R s := by
  have hname : (toString "min" ++ toString ".loop" : String) = "min.loop" := by decide
  intro k
  induction k with
  | zero =>
    intro j s ub uk e oi H S b kb vb vk hk hj I oc od hJ hs st rb rvb rk rvk hm
    have hin : j + 1 = xs.length := by omega
    rw [List.drop_of_length_le (by omega)] at hm
    obtain ⟨hl, hm⟩ := hm
    obtain ⟨l', ws, el, hsq, rws⟩ := lst_of hs (st.rv hrx) hl
    cases el
    obtain ⟨its, rv, hil, hz⟩ := I.list hsq
    have hlen : its.length = xs.length := by rw [← rv.length, rws.length]
    have hS : s.heap.get? a = some (seqObj "list" #[ub, uk] e) := (I.pin _ (List.mem_append_right _ (.head _))).1
    have hT := I.pin (it, oi) (List.mem_append_right _ (.tail _ (.head _)))
    have hA := I.pin (a, seqObj "list" #[ub, uk] e) (List.mem_append_right _ (.head _))
    refine codeAny_builtin F.entry_min_loop ?_
    rw [Around.under_plainId F.plain_min_loop _]
    show wpAny _ X.A.in1 (seqItems? (.ref a) >>= _) _ _ s
    refine wpAny_bind (wpAny_seqItems hS rfl ?_)
    show wpAny _ X.A.in1 (tryCatch (pyNext (.ref it)) _ >>= _) _ _ s
    refine wpAny_bind (wpAny_tryCatch (wpAny_pyNext_list_end hcalm ⟨oi, hT.1, oc, od⟩ hil.isList (by simp; omega) fun h' he => ?_))
    have hS' := he a _ hax hS
    show wpAny _ X.A.in1 (updateSeq a (fun _ => #[]) >>= _) _ _ _
    refine wpAny_bind ?_
    refine wpAny_updateSeq hS' rfl (wpAny_bind (wpAny_letGo (wpAny_pure ?_)))
    have I0 : Inv X (pf ++ pins) σ H s := I.pinDrop.pinDrop
    have I1 : Inv X (pf ++ pins) σ H { s with heap := h' } := I0.turned (t' := s.toks) (fun c u hc e => he c u hc e) hT.2.1 hT.2.2.1 (.inr hi0) (I0.cellNe hT.1 hT.2.2.2.2) ni
    have I2 : Inv X (pf ++ pins) σ H { s with heap := h'.update a (Obj.mapSeq fun _ => #[]) } := I1.turned (t' := s.toks) (fun c u hc e => (Heap.get?_update_other _ _ (Ne.symm hc)).trans e) hA.2.1 hA.2.2.1 (.inr hs0) (I1.cellNe hS' hA.2.2.2.2) na
    exact hR _ ub vb b H S I2 hs st rb rvb hm
  | succ k ih =>
    intro j s ub uk e oi H S b kb vb vk hk hj I oc od hJ hs st rb rvb rk rvk hm
    have hlt : j + 1 < xs.length := by omega
    rw [List.drop_eq_getElem_cons hlt] at hm
    obtain ⟨hl, hm⟩ := hm
    obtain ⟨l', ws, el, hsq, rws⟩ := lst_of hs (st.rv hrx) hl
    cases el
    obtain ⟨its, rv, hil, hz⟩ := I.list hsq
    have hlen : its.length = xs.length := by rw [← rv.length, rws.length]
    have hS : s.heap.get? a = some (seqObj "list" #[ub, uk] e) := (I.pin _ (List.mem_append_right _ (.head _))).1
    have hT := I.pin (it, oi) (List.mem_append_right _ (.tail _ (.head _)))
    obtain ⟨v, hv, hvd⟩ : ∃ v, ws[j + 1]? = some v ∧ Rv (xfw X tbl) H xs[j + 1] v := rws.get (List.getElem?_eq_getElem hlt)
    obtain ⟨u, hu1, rvu⟩ := rv.get hv
    refine codeAny_builtin F.entry_min_loop ?_
    rw [Around.under_plainId F.plain_min_loop _]
    show wpAny _ X.A.in1 (seqItems? (.ref a) >>= _) _ _ s
    refine wpAny_bind (wpAny_seqItems hS rfl ?_)
    show wpAny _ X.A.in1 (tryCatch (pyNext (.ref it)) _ >>= _) _ _ s
    refine wpAny_bind (wpAny_tryCatch (wpAny_pyNext_list_item ⟨oi, hT.1, oc, od⟩ hil.isList (x := u) (by rw [List.getElem?_toArray]; exact hu1) fun h' hit hsb => ?_))
    obtain ⟨oi', ho', oc', od'⟩ := hit
    have I0 : Inv X ((it, oi) :: (a, seqObj "list" #[ub, uk] e) :: (pf ++ pins)) σ H s := I.pinSwap
    have nka : ∀ p ∈ X.pn ++ ((a, seqObj "list" #[ub, uk] e) :: (pf ++ pins)), p.1 ≠ it := fun p hp => by
      rcases List.mem_append.mp hp with hp | hp
      · exact ni p (List.mem_append_left _ hp)
      · rcases List.mem_cons.mp hp with rfl | hp
        · exact hax
        · exact ni p (List.mem_append_right _ hp)
    have I1 : Inv X ((it, oi') :: (a, seqObj "list" #[ub, uk] e) :: (pf ++ pins)) σ H { s with heap := h' } := I0.repin (t' := s.toks) hsb ho' (fun v z => by rw [od'] at z; cases z) hi0 nka
    show wpAny _ X.A.in1 (tryCatch (holding [u] (call (.ref q) [u])) _ >>= _) _ _ _
    refine wpAny_bind (wpAny_tryCatch (wpAny_holding (wpAny_mono (hq.run _ H _ v u xs[j + 1] S _ (fun _ _ => False) (fun p hp => List.mem_cons_of_mem _ (List.mem_cons_of_mem _ (List.mem_append_left _ hp))) I1 hJ rvu hvd hs hm) (fun u' s2 hh => ?_) fun _ _ hF => hF.elim)))
    obtain ⟨d', S2, v', H2, I2, rv', rd', hs2, st2, hcm, hm2⟩ := hh
    have hJ2 := hq.lasts _ _ _ _ hs st2 hJ
    have rvk2 := st2.rv rvk
    obtain ⟨as1, r1⟩ := Rv.reads I2 hs2 4 hcm.1 rd' rv'
    obtain ⟨as2, r2⟩ := Rv.reads I2 hs2 4 hcm.2.1 rvk2 rk
    show wpAny _ X.A.in1 (tryCatch (holding [u, u'] (richCompare .Lt u' uk >>= _)) _ >>= _) _ _ _
    refine wpAny_bind (wpAny_tryCatch (wpAny_holding (wpAny_bind (PySem.W.rcLt_alike _ _ X.A.in1 s2 u' uk _ _ r1 r2 hcm.2.2.1 hcm.2.2.2.1 ?_ X.prog X.w _ _ ?_))))
    · rw [D.dep_py _ hcm.1]
      have h1 := hcm.2.2.2.2
      have h2 := Nat.min_le_left (d'.rd S2 4).dep ((kb.rd S2 4).py).depth
      show X.A.units + 1 + _ < _
      omega
    refine wpAny_bind (wpAny_holding (wpAny_truthy_bool ?_))
    refine wpAny_bind (wpAny_letGo (wpAny_pure ?_))
    have hS2 : s2.heap.get? a = some (seqObj "list" #[ub, uk] e) := (I2.pin _ (List.mem_append_right _ (.tail _ (.head _)))).1
    have hd : PySem.W.dataLt (d'.rd S2 4).py (kb.rd S2 4).py = dlt (d'.rd S2 4) (kb.rd S2 4) := rfl
    rw [hd]
    cases hb : dlt (d'.rd S2 4) (kb.rd S2 4) with
    | true =>
      rw [if_pos hb] at hm2
      simp only [if_true]
      refine wpAny_bind ?_
      refine wpAny_updateSeq hS2 rfl (wpAny_bind (wpAny_letGo ?_))
      rw [hname]
      obtain ⟨e2, he2⟩ : ∃ e2, (s2.heap.update a (Obj.mapSeq fun _ => #[u, u'])).get? a = some (seqObj "list" #[u, u'] e2) := ⟨_, get?_update_seq hS2 fun _ => #[u, u']⟩
      have I3 : Inv X ((a, seqObj "list" #[ub, uk] e) :: (it, oi') :: (pf ++ pins)) σ H2 s2 := I2.pinSwap
      have nki : ∀ p ∈ X.pn ++ ((it, oi') :: (pf ++ pins)), p.1 ≠ a := fun p hp => by
        rcases List.mem_append.mp hp with hp | hp
        · exact na p (List.mem_append_left _ hp)
        · rcases List.mem_cons.mp hp with rfl | hp
          · exact Ne.symm hax
          · exact na p (List.mem_append_right _ hp)
      have I4 := I3.repin (t' := s2.toks) (Heap.SameBut.update s2.heap a (Obj.mapSeq fun _ => #[u, u'])) he2 (fun _ z => by cases z) hs0 nki
      exact wpAny_pure ⟨plainId_quiet F.plain_min_loop _, ih (j + 1) _ u u' e2 oi' H2 S2 _ _ v v' (by omega) (by omega) I4 oc' od' hJ2 hs2 (st.trans st2) rvu (st2.rv hvd) rv' rd' hm2⟩
    | false =>
      rw [if_neg (by rw [hb]; exact Bool.false_ne_true)] at hm2
      simp only [Bool.false_eq_true, if_false]
      refine wpAny_bind (wpAny_letGo ?_)
      rw [hname]
      have I3 : Inv X ((a, seqObj "list" #[ub, uk] e) :: (it, oi') :: (pf ++ pins)) σ H2 s2 := I2.pinSwap
      exact wpAny_pure ⟨plainId_quiet F.plain_min_loop _, ih (j + 1) _ ub uk e oi' H2 S2 _ _ vb vk (by omega) (by omega) I3 oc' od' hJ2 hs2 (st.trans st2) rb (st2.rv rvb) rk rvk2 hm2⟩
theorem minK_core {H : Hp} {s : Shared} {S : DS} {Qv E : Value → Shared → Prop} (I : Inv X (pf ++ pins) σ H s) (hJ : J H) (hs : Sim (xfw X tbl) S H) (hq : KeyFn X X.A.in1 tbl σ q pf J c) (hrx : Rv (xfw X tbl) H x (.ref l)) (hu : X.A.units + 100 < cLine) (hcalm : X.A.handled = none)
    (hm : minKV c x S Q0) (hQ : ∀ s' u v b H' S', Inv X (pf ++ pins) σ H' s' → Sim (xfw X tbl) S' H' → Stp S H S' H' → RelV v u → Rv (xfw X tbl) H' b v → Q0 b S' → Qv u s') :
    wpAny (model X.prog X.w) X.A (call (.builtin "min") [.ref l] [(Str.ofString "key", .ref q)]) Qv E s := by
  have hname : (toString "min" ++ toString ".loop" : String) = "min.loop" := by decide
  unfold minKV at hm
  split at hm
  case h_2 => exact hm.elim
  rename_i y ys hl
  obtain ⟨l', ws, el, hsq, rws⟩ := lst_of hs hrx hl
  cases el
  obtain ⟨its, rv, hil, hz⟩ := I.list hsq
  have hlen : its.length = ys.length + 1 := by rw [← rv.length, ← rws.length]; rfl
  obtain ⟨v, hv, hvd⟩ : ∃ v, ws[0]? = some v ∧ Rv (xfw X tbl) H y v := rws.get rfl
  obtain ⟨u, hu1, rvu⟩ := rv.get hv
  refine PyProof.Rows.kmk_tree F.kind_min F.plain_min F.entry_min (PyProof.Rows.kmk_min_key _ _) ?_
  show wpAny _ X.A.in1 (Builtin.Builtins.bindParams "min" ["key", "default"] 0 ⟨[], [(Str.ofString "key", .ref q)]⟩ >>= _) _ _ s
  refine wpAny_bind (wpAny_of_eq (show Builtin.Builtins.bindParams "min" ["key", "default"] 0 ⟨[], [(Str.ofString "key", .ref q)]⟩ = pure [some (.ref q), none] from rfl) ?_)
  refine wpAny_bind (wpAny_pure ?_)
  refine wpAny_bind (wpAny_pyIter_list hil.isList ?_)
  refine wpAny_bind (wpAny_newObj_type ?_)
  rw [hname]
  generalize hit : s.heap.objs.size = it
  generalize ho : ({ cls := .type "list_iterator", data := .fields #[.ref l, .int 0 0] } : Obj) = oi
  have hsz : (s.heap.push oi).objs.size = it + 1 := by rw [Heap.size_push, hit]
  generalize hh2 : (s.heap.push oi).push (seqObj "list" #[] 0) = h2
  have old : ∀ b u, s.heap.get? b = some u → h2.get? b = some u := fun b u e => by
    rw [← hh2]; exact Heap.get?_push_of_some _ (Heap.get?_push_of_some _ e)
  have n1 : h2.get? it = some oi := by rw [← hh2, ← hit]; exact Heap.get?_push_of_some _ (Heap.get?_push_size _ (by rw [← ho]; rfl))
  have n2 : h2.get? (it + 1) = some (seqObj "list" #[] 0) := by rw [← hh2, ← hsz]; exact Heap.get?_push_size _ rfl
  have ltL := I.lt
  have hsi : s.heap.objs.size ≤ it := by omega
  have hsa : s.heap.objs.size ≤ it + 1 := by omega
  have npin : ∀ b, s.heap.objs.size ≤ b → ∀ p ∈ X.pn ++ (pf ++ pins), p.1 ≠ b := fun b hb p hp z => by
    exact Nat.lt_irrefl _ (Nat.lt_of_lt_of_le (z ▸ Heap.lt_size (I.pin p hp).1) hb)
  have I2 : Inv X (pf ++ pins) σ H { s with heap := h2 } := I.kept (t' := s.toks) old
  have I3 : Inv X ((it, oi) :: (pf ++ pins)) σ H { s with heap := h2 } := I2.pinAdd n1 (I.hok.fresh hsi) (Nat.ne_of_gt (Nat.lt_of_lt_of_le ltL hsi)) (I.nofs hsi) (fun _ z => by rw [← ho] at z; cases z)
  have I4 : Inv X ((it + 1, seqObj "list" #[] 0) :: (it, oi) :: (pf ++ pins)) σ H { s with heap := h2 } := I3.pinAdd n2 (I.hok.fresh hsa) (Nat.ne_of_gt (Nat.lt_of_lt_of_le ltL hsa)) (I.nofs hsa) (fun _ z => by cases z)
  have hs0 : X.s_0.heap.objs.size ≤ it := Nat.le_trans I.sz hsi
  have hs1 : X.s_0.heap.objs.size ≤ it + 1 := Nat.le_trans I.sz hsa
  rw [show ({ heap := s.heap.push oi, gens := s.gens, drawn := s.drawn, toks := s.toks, os := s.os } : Shared).heap.objs.size = it + 1 from hsz]
  refine wpAny_pure ⟨plainId_quiet F.plain_min_loop _, ?_⟩
  refine codeAny_builtin F.entry_min_loop ?_
  rw [Around.under_plainId F.plain_min_loop _]
  show wpAny _ X.A.in1 (seqItems? (.ref (it + 1)) >>= _) _ _ _
  refine wpAny_bind (wpAny_seqItems n2 rfl ?_)
  show wpAny _ X.A.in1 (tryCatch (pyNext (.ref it)) _ >>= _) _ _ _
  have hil2 : h2.IsList l its.toArray := by obtain ⟨o, e, r⟩ := hil.isList; exact ⟨o, old _ _ e, r⟩
  refine wpAny_bind (wpAny_tryCatch (wpAny_pyNext_list_item (s := { s with heap := h2 }) ⟨oi, n1, by rw [← ho], by rw [← ho]; rfl⟩ hil2 (x := u) (by rw [List.getElem?_toArray]; exact hu1) fun h' hit' hsb => ?_))
  obtain ⟨oi', ho', oc', od'⟩ := hit'
  have nka : ∀ p ∈ X.pn ++ ((it + 1, seqObj "list" #[] 0) :: (pf ++ pins)), p.1 ≠ it := fun p hp => by
    rcases List.mem_append.mp hp with hp | hp
    · exact npin it hsi p (List.mem_append_left _ hp)
    · rcases List.mem_cons.mp hp with rfl | hp
      · show it + 1 ≠ it; omega
      · exact npin it hsi p (List.mem_append_right _ hp)
  have I5 : Inv X ((it, oi') :: (it + 1, seqObj "list" #[] 0) :: (pf ++ pins)) σ H { s with heap := h' } := I4.pinSwap.repin (t' := s.toks) hsb ho' (fun v z => by rw [od'] at z; cases z) hs0 nka
  show wpAny _ X.A.in1 (tryCatch (holding [u] (call (.ref q) [u])) _ >>= _) _ _ _
  refine wpAny_bind (wpAny_tryCatch (wpAny_holding (wpAny_mono (hq.run _ H _ v u y S _ (fun _ _ => False) (fun p hp => List.mem_cons_of_mem _ (List.mem_cons_of_mem _ (List.mem_append_left _ hp))) I5 hJ rvu hvd hs hm) (fun u' s2 hh => ?_) fun _ _ hF => hF.elim)))
  obtain ⟨d', S2, v', H2, I6, rv', rd', hs2, st2, hm2⟩ := hh
  have hJ2 := hq.lasts _ _ _ _ hs st2 hJ
  have hS2 : s2.heap.get? (it + 1) = some (seqObj "list" #[] 0) := (I6.pin _ (List.mem_append_right _ (.tail _ (.head _)))).1
  show wpAny _ X.A.in1 (updateSeq (it + 1) (fun _ => #[u, u']) >>= _) _ _ _
  refine wpAny_bind ?_
  refine wpAny_updateSeq hS2 rfl ?_
  rw [hname]
  obtain ⟨e2, he2⟩ : ∃ e2, (s2.heap.update (it + 1) (Obj.mapSeq fun _ => #[u, u'])).get? (it + 1) = some (seqObj "list" #[u, u'] e2) := ⟨_, get?_update_seq hS2 fun _ => #[u, u']⟩
  have nki : ∀ p ∈ X.pn ++ ((it, oi') :: (pf ++ pins)), p.1 ≠ it + 1 := fun p hp => by
    rcases List.mem_append.mp hp with hp | hp
    · exact npin (it + 1) hsa p (List.mem_append_left _ hp)
    · rcases List.mem_cons.mp hp with rfl | hp
      · show it ≠ it + 1; omega
      · exact npin (it + 1) hsa p (List.mem_append_right _ hp)
  have I7 := I6.pinSwap.repin (t' := s2.toks) (Heap.SameBut.update s2.heap (it + 1) (Obj.mapSeq fun _ => #[u, u'])) he2 (fun _ z => by cases z) hs1 nki
  refine wpAny_pure ⟨plainId_quiet F.plain_min_loop _, minK_loop (xs := y :: ys) hq hu hrx (show it + 1 ≠ it by omega) hs1 hs0 hcalm (npin _ hsa) (npin _ hsi) (fun s' u v b H' S' i1 i2 i3 i4 i5 i6 => hQ s' u v b H' S' i1 i2 i3 i4 i5 i6) _ 0 _ u u' e2 oi' H2 S2 y d' v v' rfl (by rw [List.length_cons]; omega) I7 oc' (by rw [od']) hJ2 hs2 st2 rvu (st2.rv hvd) rv' rd' (by rw [Nat.zero_add, List.drop_succ_cons, List.drop_zero]; exact hm2)⟩
end
def dMinK (cc : Loc → DF) (te : DE) : DE := fun δ S Q => te δ S fun x S1 => minKV (cc δ) x S1 Q
theorem minKV_lst {c : DF} {x : D} {S : DS} {Q : DK} (h : minKV c x S Q) : ∃ xs, lstOf S x = some xs := by
  unfold minKV at h
  split at h
  · rename_i y ys e; exact ⟨_, e⟩
  · exact h.elim
section
variable {X : Cx} {tbl : Tbl} {e ek : Expr} {te : DE} {cc : Loc → DF} {pos p kpos : Pos}
theorem qe_minK (hc : X.calm = true) (hu : X.A.units + 100 < cLine) (hk : KeyEx X tbl ek cc) (hg : Gl X "min") (hm : X.mg "min" = none) (ha : PE X e (liftE (xfw X tbl) te))
    (he : backTo pos (starEach [e] X.env) = (false, eval e X.env) :: backTo pos (starEach [] X.env) := by rfl) (hpl : (backTo pos (starEach [e] X.env)).any (·.1) = false := by rfl) (hse : starEach [e] X.env = (false, eval e X.env) :: starEach [] X.env := by rfl) :
    PE X (.Call (.Name "min" p) [e] [⟨some "key", ek, kpos⟩] pos) (liftE (xfw X tbl) (dMinK cc te)) := by
  refine ⟨fun pins s σ H Q I ⟨δ, S, Q0, hr, hs, h, hq⟩ => ?_⟩
  refine wpAny_Call_Name_kw (ld_blt I hg hm rfl ?_)
  have pa : PA X [e] (liftA (xfw X tbl) (dCons te dNil)) := qa_cons ha qa_nil hse
  refine PyProof.Rows.callWith_kw (thn (pa.run pos pins s σ H (fun vs H1 => ∃ x S1 v, vs = [v] ∧ Rv (xfw X tbl) H1 x v ∧ Sim (xfw X tbl) S1 H1 ∧ Stp S H S1 H1 ∧ minKV (cc δ) x S1 Q0) I
    ⟨δ, S, one1 fun x S1 => minKV (cc δ) x S1 Q0, hr, hs, h, ?_⟩) fun us s1 ⟨vs, H1, I1, r1, x, S1, v, ev, rx, hs1, st1, q1⟩ => ?_) he hpl (by rfl) (by rfl)
  · intro ds S' vs H' q rv hs' st'
    match ds, q, rv with
    | [x], q, rv =>
      obtain ⟨v, rfl, rd⟩ := rv.one
      exact ⟨x, S', v, rfl, rd, hs', st', q⟩
  · subst ev
    obtain ⟨xs, hx⟩ := minKV_lst q1
    show wpAny _ _ (evalAll ((do let v ← eval ek X.env; standAt pos; pure v) :: [])) _ _ s1
    refine wpAny_evalAll_cons (wpAny_bind (hk.run pins s1 σ H1 δ S1 _ I1 (hr.stp st1) hs1 fun q s2 H2 pf J I2 hs2 st2 hK hJ => wpAny_bind (wpAny_standAt (wpAny_pure (wpAny_evalAll_nil ?_)))))
    obtain ⟨l, ws, rfl, hl, rxs⟩ := lst_of hs2 (st2.rv rx) hx
    rw [Vals.ref1 r1]
    show wpAny _ _ (call (.builtin "min") [.ref l] [(Str.ofString "key", .ref q)]) _ _ s2
    exact minK_core I2 hJ hs2 (hK _ (.inl rfl)) (st2.rv rx) hu (I2.ok.hd hc) q1 fun s3 u v b H3 S3 I3 hs3 st3 ru rb hb =>
      ⟨v, H3, I3.pins_of fun q hq => I3.pin q (List.mem_append_right _ (List.mem_append_right _ hq)), ru, hq _ _ _ _ hb rb hs3 (st1.trans (st2.trans st3))⟩
end
def minOn (S : DS) (x : D) (xs : List D) : D := xs.foldl (fun b y => if dlt (y.rd S 4) (b.rd S 4) = true then y else b) x
def bMinD : DRs := fun ds S Q => match ds with
  | [d] => match lstOf S d with
    | some (x :: xs) => (∀ a ∈ x :: xs, ∀ b ∈ x :: xs, CmpOk (a.rd S 4) (b.rd S 4)) ∧ Q (minOn S x xs) S
    | _ => False
  | _ => False
section
variable {X : Cx} {tbl : Tbl}
theorem dcall_minD (hc : X.calm = true) (hu : X.A.units + 100 < cLine) : CallR X (.builtin "min") (liftC (xfw X tbl) bMinD) := dl_call fun pins s σ H ds xs us S Q Q0 I ru rv hs hr hq => by
  match ds, hr, rv with
  | [d], hr, rv =>
    obtain ⟨v, rfl, rd⟩ := rv.one
    have hr' : (match lstOf S d with
      | some (x :: xs) => (∀ a ∈ x :: xs, ∀ b ∈ x :: xs, CmpOk (a.rd S 4) (b.rd S 4)) ∧ Q0 (minOn S x xs) S
      | _ => False) := hr
    split at hr'
    · rename_i x zs e
      obtain ⟨hcm, q⟩ := hr'
      obtain ⟨a, ws, rfl, hv, r⟩ := lst_of hs rd e
      rw [Vals.ref1 ru]
      obtain ⟨its, rvs, hil, hz⟩ := I.list hv
      have hlen : its.length = zs.length + 1 := by rw [← rvs.length, ← r.length]; rfl
      have look : ∀ (i : Nat) (u : Value), its.toArray[i]? = some u → ∃ d v, (x :: zs)[i]? = some d ∧ RelV v u ∧ Rv (xfw X tbl) H d v := fun i u hu => by
        rw [List.getElem?_toArray] at hu
        have hi := (List.getElem?_eq_some_iff.mp hu).1
        obtain ⟨dd, hdd⟩ : ∃ dd, (x :: zs)[i]? = some dd := ⟨_, List.getElem?_eq_getElem (by rw [List.length_cons]; omega)⟩
        obtain ⟨v, h1, h2⟩ := r.get hdd
        obtain ⟨u', h3, h4⟩ := rvs.get h1
        rw [hu] at h3; cases h3
        exact ⟨dd, v, hdd, h4, h2⟩
      refine PySem.call_min_walkH (PySem.W.iter_listW (A := X.A.in1) (I.ok.hd hc) hil.isList fun s₂ e2 W st hfp hw hk => ?_)
      refine ⟨_, _, _, _, _, _, _, s.heap, (fun i j => (fun a b : D => dlt (a.rd S 4) (b.rd S 4)) ((x :: zs).getD i .non) ((x :: zs).getD j .non)), rfl, W, st, hfp, by rw [List.size_toArray]; omega, hw, hk, fun i j vi vj s' Q' E' hkp hi hj hq' => ?_, fun v s' hP m => ?_⟩
      · obtain ⟨d1, v1, g1, r1, x1⟩ := look i vi hi
        obtain ⟨d2, v2, g2, r2, x2⟩ := look j vj hj
        have c12 := hcm d1 (List.mem_of_getElem? g1) d2 (List.mem_of_getElem? g2)
        obtain ⟨as1, q1⟩ := Rv.reads I hs 4 c12.1 x1 r1
        obtain ⟨as2, q2⟩ := Rv.reads I hs 4 c12.2.1 x2 r2
        refine PySem.W.rcLt_alike _ _ X.A.in1 s' vi vj _ _ (PySem.W.reads_keeps hkp q1) (PySem.W.reads_keeps hkp q2) c12.2.2.1 c12.2.2.2.1 ?_ X.prog X.w _ _ ?_
        · rw [D.dep_py _ c12.1]
          have h1 := c12.2.2.2.2
          have h2 := Nat.min_le_left (d1.rd S 4).dep ((d2.rd S 4).py).depth
          show X.A.units + 1 + _ < _
          omega
        · have e5 : (x :: zs).getD i .non = d1 := by rw [List.getD_eq_getElem?_getD, g1]; rfl
          have e6 : (x :: zs).getD j .non = d2 := by rw [List.getD_eq_getElem?_getD, g2]; rfl
          dsimp only at hq'
          rw [e5, e6] at hq'
          exact hq'
      · obtain ⟨h', tk, rfl, hk'⟩ := PySem.W.moved_old e2 rfl m
        obtain ⟨dd, vv, g1, g2, g3⟩ := look _ v hP
        have e1 : its.toArray.size - 1 = zs.length := by rw [List.size_toArray]; omega
        have e3 := (PySem.W.argBest_fold (fun a b : D => dlt (a.rd S 4) (b.rd S 4)) D.non x zs zs.length (Nat.le_refl _)).2
        rw [List.take_length] at e3
        rw [e1] at g1
        have e4 : dd = minOn S x zs := by
          rw [List.getD_eq_getElem?_getD, g1] at e3
          exact e3
        rw [e4] at g3
        exact ⟨vv, H, I.kept (t' := tk) hk', g2, hq _ _ _ _ q g3 hs (.refl _ _)⟩
    · exact hr'.elim
end
def ItiR (a : Addr) (st : DStm) : It :=
  ⟨fun i H => H a = some (rawO a st) ∧ ∃ hi : i < st.es.size, ∃ u v, RelV u st.es[i].key ∧ RelV v st.es[i].val,
   fun i H x H' => ∃ T u v, x = .ref T ∧ H T = none ∧ H' = upd H T (.tup [u, v]) ∧ ∃ hi : i < st.es.size, RelV u st.es[i].key ∧ RelV v st.es[i].val, fun i H => H a = some (rawO a st) ∧ st.es.size ≤ i⟩
def ItvR (a : Addr) (st : DStm) : It :=
  ⟨fun i H => H a = some (rawO a st) ∧ ∃ hi : i < st.es.size, ∃ u, RelV u st.es[i].val, fun i H x H' => H' = H ∧ ∃ hi : i < st.es.size, RelV x st.es[i].val, fun i H => H a = some (rawO a st) ∧ st.es.size ≤ i⟩
theorem turn_itemsR {P : Program} {w : World} {K : PySem.W.Frag} {elts : List Expr} {kk : Nat} {tpos : Pos} {a : Addr} {st : DStm} (it : Addr) : Turn P w K (.Tuple elts kk tpos) (ItiR a st) [it] it (fun i h => ∃ ok ov, IsItemIter h it a i st.es.size st.ep ok ov) where
  mem := List.mem_singleton.mpr rfl
  obj := fun i h hst b hb => by
    obtain rfl := List.mem_singleton.mp hb
    obtain ⟨ok, ov, e⟩ := hst
    exact ⟨_, e, fun v z => nomatch z⟩
  keep := fun i h h' hst k => let ⟨ok, ov, e⟩ := hst; ⟨ok, ov, k it (List.mem_singleton.mpr rfl) _ e⟩
  item := by
    rintro X rfl rfl rfl hc i pins s σ H E I hf ⟨ok, ov, he⟩ ⟨hd, hi, u, v, ru, rv⟩
    obtain ⟨ns, raw⟩ := raw_at I hd
    have hlt : it < s.heap.objs.size := Heap.lt_size he
    refine wpAny_pyNext_items_item_raw he raw hi fun h' ho hT hz hk => ?_
    refine ⟨_, rfl, wpAny_letOwnedTupleGo_items (s := { s with heap := h' }) ho fun h'' he' sb => ?_⟩
    have hT2 : h''.get? s.heap.objs.size = some { cls := .type "tuple", data := .seq #[st.es[i].key, st.es[i].val] } := (sb.2 _ (Nat.ne_of_gt hlt)).trans hT
    have new : ObjOk X.prog X.w (upd H s.heap.objs.size (.tup [u, v])) h'' s.heap.objs.size (.tup [u, v]) :=
      ⟨by show 2 ≤ sizeLine; decide, [st.es[i].key, st.es[i].val], .cons ru (.cons rv .nil), ⟨_, hT2, rfl, _, rfl⟩⟩
    have I1 : Inv X pins σ (upd H s.heap.objs.size (.tup [u, v])) { s with heap := h'' } :=
      I.turnedNew (t' := s.toks) (ch := [it]) (fun b ob hb e => (sb.2 b (by simpa using hb)).trans (hk b ob (by simpa using hb) e)) hf (Nat.le_refl _) new
    refine ⟨.ref s.heap.objs.size, _, I1, rfl, ⟨_, u, v, rfl, I.hok.fresh (Nat.le_refl _), rfl, hi, ru, rv⟩, ⟨_, _, he'⟩, fun b hb => ?_⟩
    obtain rfl := List.mem_singleton.mp hb
    rw [upd_ne (Nat.ne_of_lt hlt)]
    exact (hf b (List.mem_singleton.mpr rfl)).1
  done := by
    rintro X rfl rfl rfl hc i pins s σ H E I hf ⟨ok, ov, he⟩ ⟨hd, hi⟩
    obtain ⟨f0, f1, f2, f3, f4, f5⟩ := hf it (List.mem_singleton.mpr rfl)
    obtain ⟨ns, raw⟩ := raw_at I hd
    exact wpAny_pyNext_items_end_raw (I.ok.hd hc) he raw hi fun h' eb => ⟨rfl, I.turned (t' := s.toks) (fun b ob hb e => eb b ob hb e) f0 f1 f3 f4 f5⟩
  self := fun A i s Q E hst h => let ⟨_, _, e⟩ := hst; PySem.W.kcp_self e h
theorem turn_valsR {P : Program} {w : World} {K : PySem.W.Frag} {tg : Expr} {a : Addr} {st : DStm} (it : Addr) : Turn P w K tg (ItvR a st) [it] it (fun i h => h.IsValIter it a i st.es.size st.ep) where
  mem := List.mem_singleton.mpr rfl
  obj := fun i h hst b hb => by
    obtain rfl := List.mem_singleton.mp hb
    obtain ⟨oi, e, c, dd⟩ := hst
    exact ⟨oi, e, fun v z => by rw [dd] at z; cases z⟩
  keep := fun i h h' hst k => hst.at fun oi e => k it (List.mem_singleton.mpr rfl) oi e
  item := by
    rintro X rfl rfl rfl hc i pins s σ H E I hf hst ⟨hd, hi, u, ru⟩
    obtain ⟨f0, f1, f2, f3, f4, f5⟩ := hf it (List.mem_singleton.mpr rfl)
    obtain ⟨ns, raw⟩ := raw_at I hd
    refine wpAny_pyNext_values_item_raw hst raw hi fun h' st' sb => ?_
    have I1 : Inv X pins σ H { s with heap := h' } := I.turned (t' := s.toks) (fun b ob hb e => (sb.2 b hb).trans e) f0 f1 f3 f4 f5
    obtain ⟨oi, e, c, dd⟩ := id st'
    exact ⟨_, rfl, go_of (s := { s with heap := h' }) e c dd (by decide) ⟨u, H, I1, ru, ⟨rfl, hi, ru⟩, st', fun b hb => (hf b hb).1⟩⟩
  done := by
    rintro X rfl rfl rfl hc i pins s σ H E I hf hst ⟨hd, hi⟩
    obtain ⟨f0, f1, f2, f3, f4, f5⟩ := hf it (List.mem_singleton.mpr rfl)
    obtain ⟨ns, raw⟩ := raw_at I hd
    exact wpAny_pyNext_values_end_raw (I.ok.hd hc) hst raw hi fun h' eb => ⟨rfl, I.turned (t' := s.toks) (fun b ob hb e => eb b ob hb e) f0 f1 f3 f4 f5⟩
  self := fun A i s Q E hst h => wpAny_pyIter_valiter hst h
theorem jok_itemsR {K : FW} {H0 : Hp} {a : Addr} {st : DStm} {kvs : List (D × D)} {stay : DS → Prop} (h : ∀ S, stay S → S a = some (.dct st kvs)) : JOk K H0 (kvs.map fun p => D.tup [p.1, p.2]) stay (ItiR a st) := by
  intro i S H p hs hst
  obtain ⟨e, re, _⟩ := hs a _ (h S hst)
  have hlen : kvs.length = st.es.size := by have := rent_len re; simpa using this
  refine ⟨fun hi => ⟨e, by rw [← hlen]; simpa using hi⟩, fun d hd => ?_⟩
  rw [List.getElem?_map] at hd
  obtain ⟨q, hq, rfl⟩ := Option.map_eq_some_iff.mp hd
  obtain ⟨en, u, v, h1, h2, h3, h4, h5⟩ := rent_at re hq
  rw [Array.getElem?_toList] at h1
  obtain ⟨hi, h1⟩ := Array.getElem?_eq_some_iff.mp h1
  refine ⟨⟨e, hi, u, v, by rw [h1]; exact h3, by rw [h1]; exact h5⟩, fun x H' ⟨T, u', v', ex, hT, eH, hi', r1, r2⟩ => ?_⟩
  subst ex eH
  rw [h1] at r1 r2
  rw [r1.inj h3, r2.inj h5]
  exact ⟨.tup (.inl (.inl upd_same)) (.cons ((Stp.laid (S := S) hT).rv h2) (.cons ((Stp.laid (S := S) hT).rv h4) .nil)), hs.laid hT, Stp.laid hT⟩
theorem jok_valsR {K : FW} {H0 : Hp} {a : Addr} {st : DStm} {kvs : List (D × D)} {stay : DS → Prop} (h : ∀ S, stay S → S a = some (.dct st kvs)) : JOk K H0 (kvs.map (·.2)) stay (ItvR a st) := by
  intro i S H p hs hst
  obtain ⟨e, re, _⟩ := hs a _ (h S hst)
  have hlen : kvs.length = st.es.size := by have := rent_len re; simpa using this
  refine ⟨fun hi => ⟨e, by rw [← hlen]; simpa using hi⟩, fun d hd => ?_⟩
  rw [List.getElem?_map] at hd
  obtain ⟨q, hq, rfl⟩ := Option.map_eq_some_iff.mp hd
  obtain ⟨en, u, v, h1, h2, h3, h4, h5⟩ := rent_at re hq
  rw [Array.getElem?_toList] at h1
  obtain ⟨hi, h1⟩ := Array.getElem?_eq_some_iff.mp h1
  refine ⟨⟨e, hi, v, by rw [h1]; exact h5⟩, fun x H' ⟨eH, hi', rx⟩ => ?_⟩
  subst eH
  rw [h1] at rx
  rw [rx.inj h5]
  exact ⟨h4, hs, .refl _ _⟩
theorem ir_itemsR {X : Cx} {elts : List Expr} {kk : Nat} {tpos apos cpos : Pos} {e : Expr} {td : TE} (he : PE X e td) (hbase : attributeBase e "items" X.env (eval e X.env) = eval e X.env := by rfl) (hline : (apos.endLine == cpos.line) = true := by rfl) :
    PI X (.Tuple elts kk tpos) (.Call (.Attribute e "items" apos) [] [] cpos) (fun σ H R => td σ H fun x H1 => ∃ a st, x = .ref a ∧ H1 a = some (rawO a st) ∧ R (ItiR a st) H1) := by
  refine ⟨fun pins s σ H R I h => ?_⟩
  refine wpAny_Call_method (T := "dict") (id := "dict.items") hbase rfl hline F.plainAttrs_dict F.slot_dict_items F.type_dict_items (thn (he.run pins s σ H _ I h) fun u s1 ⟨x, H1, I1, rx, d, st, ex, hd, q⟩ => ?_)
  subst ex
  obtain rfl : u = Value.ref d := rx
  obtain ⟨ns, raw⟩ := raw_at I1 hd
  refine ⟨raw.typeIs, fun b hb => by cases hb; obtain ⟨o, ho, hc, hdt⟩ := raw; exact ⟨o, ho, hc.2.1⟩, ?_⟩
  have I2 : Inv X pins σ H1 { s1 with heap := s1.heap.push { cls := .type "dict_items", data := .fields #[.ref d] } } := I1.kept (t' := s1.toks) fun b ob q => Heap.get?_push_of_some _ q
  have fin : wpAny (model X.prog X.w) X.A (pyIter (.ref s1.heap.objs.size)) (PIE X pins σ (.Tuple elts kk tpos) R) X.xe { s1 with heap := s1.heap.push { cls := .type "dict_items", data := .fields #[.ref d] } } :=
    wpAny_pyIter_items_raw (d := d) ⟨_, Heap.get?_push_size _ rfl, rfl, rfl⟩ (by obtain ⟨o, ho, r⟩ := raw; exact ⟨o, Heap.get?_push_of_some _ ho, r⟩) (pi_one (tk := s1.toks) I2 _ (turn_itemsR _) ⟨.none, .none, Heap.get?_push_size _ rfl⟩ q)
  show wpAny _ _ (callWith cpos (.builtin "dict.items") [.ref d] [] []) _ X.xe s1
  exact method_meetsIn F.slot_dict_items F.entry_dict_items rfl (PySem.evalArgs_none ⟨rfl, raw.typeIs, F.args_dict_items_1 _, _, meets_dict_items_raw d ns, ⟨_, _, raw⟩, fin⟩)
theorem ir_valsR {X : Cx} {tg : Expr} {apos cpos : Pos} {e : Expr} {td : TE} (he : PE X e td) (hbase : attributeBase e "values" X.env (eval e X.env) = eval e X.env := by rfl) (hline : (apos.endLine == cpos.line) = true := by rfl) :
    PI X tg (.Call (.Attribute e "values" apos) [] [] cpos) (fun σ H R => td σ H fun x H1 => ∃ a st, x = .ref a ∧ H1 a = some (rawO a st) ∧ R (ItvR a st) H1) := by
  refine ⟨fun pins s σ H R I h => ?_⟩
  refine wpAny_Call_method (T := "dict") (id := "dict.values") hbase rfl hline F.plainAttrs_dict F.slot_dict_values F.type_dict_values (thn (he.run pins s σ H _ I h) fun u s1 ⟨x, H1, I1, rx, d, st, ex, hd, q⟩ => ?_)
  subst ex
  obtain rfl : u = Value.ref d := rx
  obtain ⟨ns, raw⟩ := raw_at I1 hd
  refine ⟨raw.typeIs, fun b hb => by cases hb; obtain ⟨o, ho, hc, hdt⟩ := raw; exact ⟨o, ho, hc.2.1⟩, ?_⟩
  have I2 : Inv X pins σ H1 { s1 with heap := s1.heap.push { cls := .type "dict_values", data := .fields #[.ref d] } } := I1.kept (t' := s1.toks) fun b ob q => Heap.get?_push_of_some _ q
  have fin : wpAny (model X.prog X.w) X.A (pyIter (.ref s1.heap.objs.size)) (PIE X pins σ tg R) X.xe { s1 with heap := s1.heap.push { cls := .type "dict_values", data := .fields #[.ref d] } } :=
    wpAny_pyIter_values_raw (d := d) ⟨_, Heap.get?_push_size _ rfl, rfl, rfl⟩ (by obtain ⟨o, ho, r⟩ := raw; exact ⟨o, Heap.get?_push_of_some _ ho, r⟩) (pi_one (tk := s1.toks) I2 _ (turn_valsR _) ⟨_, Heap.get?_push_size _ rfl, rfl, rfl⟩ q)
  show wpAny _ _ (callWith cpos (.builtin "dict.values") [.ref d] [] []) _ X.xe s1
  exact method_meetsIn F.slot_dict_values F.entry_dict_values rfl (PySem.evalArgs_none ⟨rfl, raw.typeIs, F.args_dict_values_1 _, _, meets_dict_values_raw d ns, ⟨_, _, raw⟩, fin⟩)
def dItems (te : DE) : DI := fun δ S Q => te δ S fun d S1 => match dctOf S1 d with
  | some kvs => Q (kvs.map fun p => D.tup [p.1, p.2]) (fun S' => S' (adr d) = S1 (adr d)) S1
  | none => False
def dVals (te : DE) : DI := fun δ S Q => te δ S fun d S1 => match dctOf S1 d with
  | some kvs => Q (kvs.map (·.2)) (fun S' => S' (adr d) = S1 (adr d)) S1
  | none => False
theorem qi_items {X : Cx} {tbl : Tbl} {elts : List Expr} {kk : Nat} {tpos apos cpos : Pos} {e : Expr} {te : DE} (he : PE X e (liftE (xfw X tbl) te)) (hbase : attributeBase e "items" X.env (eval e X.env) = eval e X.env := by rfl) (hline : (apos.endLine == cpos.line) = true := by rfl) :
    PI X (.Tuple elts kk tpos) (.Call (.Attribute e "items" apos) [] [] cpos) (liftI (xfw X tbl) (dItems te)) :=
  PI.imp (ir_itemsR he hbase hline) fun σ H R ⟨δ, S, Q0, hr, hs, h, hq⟩ => ⟨δ, S, _, hr, hs, h, fun d S1 v H1 h1 r1 s1 a1 => by
    split at h1
    · rename_i kvs hc
      obtain ⟨a, st, rfl, e⟩ := dctOf_get hc
      cases r1
      exact ⟨a, st, rfl, (s1 a _ e).1, hq _ _ _ _ _ h1 s1 a1 (jok_itemsR fun S' z => by rw [show S' a = S1 a from z]; exact e)⟩
    · exact h1.elim⟩
theorem qi_vals {X : Cx} {tbl : Tbl} {tg : Expr} {apos cpos : Pos} {e : Expr} {te : DE} (he : PE X e (liftE (xfw X tbl) te)) (hbase : attributeBase e "values" X.env (eval e X.env) = eval e X.env := by rfl) (hline : (apos.endLine == cpos.line) = true := by rfl) :
    PI X tg (.Call (.Attribute e "values" apos) [] [] cpos) (liftI (xfw X tbl) (dVals te)) :=
  PI.imp (ir_valsR he hbase hline) fun σ H R ⟨δ, S, Q0, hr, hs, h, hq⟩ => ⟨δ, S, _, hr, hs, h, fun d S1 v H1 h1 r1 s1 a1 => by
    split at h1
    · rename_i kvs hc
      obtain ⟨a, st, rfl, e⟩ := dctOf_get hc
      cases r1
      exact ⟨a, st, rfl, (s1 a _ e).1, hq _ _ _ _ _ h1 s1 a1 (jok_valsR fun S' z => by rw [show S' a = S1 a from z]; exact e)⟩
    · exact h1.elim⟩
def dLstVals (te : DE) : DE := fun δ S Q => te δ S fun d S1 => match dctOf S1 d with
  | some kvs => ∀ p, S1 p = none → Q (.ref p) (dupd S1 p (.lst (kvs.map (·.2))))
  | none => False
theorem qe_listVals {X : Cx} {tbl : Tbl} {e : Expr} {te : DE} {p pos apos cpos : Pos} (hc : X.calm = true) (hg : Gl X "list") (hm : X.mg "list" = none) (he : PE X e (liftE (xfw X tbl) te)) (hbase : attributeBase e "values" X.env (eval e X.env) = eval e X.env := by rfl) (hline : (apos.endLine == cpos.line) = true := by rfl)
    (na : starEach [.Call (.Attribute e "values" apos) [] [] cpos] X.env = (false, eval (.Call (.Attribute e "values" apos) [] [] cpos) X.env) :: starEach [] X.env := by rfl) : PE X (.Call (.Name "list" p) [.Call (.Attribute e "values" apos) [] [] cpos] [] pos) (liftE (xfw X tbl) (dLstVals te)) := by
  refine ⟨fun pins s σ H Q I ⟨δ, S, Q0, hr, hs, h, hq⟩ => ?_⟩
  refine Call_ (ld_blt I hg hm boot_list (PyProof.Rows.callWith_type1 (args_cons (wpAny_Call_method (T := "dict") (id := "dict.values") hbase rfl hline F.plainAttrs_dict F.slot_dict_values F.type_dict_values (thn (he.run pins s σ H (fun v H1 => ∃ d S1, Rv (xfw X tbl) H1 d v ∧ Sim (xfw X tbl) S1 H1 ∧ Stp S H S1 H1 ∧ (match dctOf S1 d with
    | some kvs => ∀ p, S1 p = none → Q0 (.ref p) (dupd S1 p (.lst (kvs.map (·.2))))
    | none => False)) I ⟨δ, S, _, hr, hs, h, fun d S1 v H1 h1 r1 s1 a1 => ⟨d, S1, r1, s1, a1, h1⟩⟩) fun u s1 ⟨v, H1, I1, rx, d, S1, rd, hs1, st1, q⟩ => ?_)) na) na))
  split at q
  case h_2 => exact q.elim
  rename_i kvs hk
  obtain ⟨a, st, rfl, e1⟩ := dctOf_get hk
  cases rd
  obtain rfl : u = Value.ref a := rx
  obtain ⟨hd, raw, re, hl, _⟩ := dct_at I1 hs1 e1
  have hlen : kvs.length = st.es.size := by have := rent_len re; simpa using this
  obtain ⟨vs, r1, r2⟩ := rent_vals re
  refine ⟨raw.typeIs, fun b hb => by cases hb; obtain ⟨o, ho, hc, hdt⟩ := raw; exact ⟨o, ho, hc.2.1⟩, ?_⟩
  have I2 : Inv X pins σ H1 { s1 with heap := s1.heap.push { cls := .type "dict_values", data := .fields #[.ref a] } } := I1.kept (t' := s1.toks) fun b ob q => Heap.get?_push_of_some _ q
  show wpAny _ _ (callWith cpos (.builtin "dict.values") [.ref a] [] []) _ X.xe s1
  refine method_meetsIn F.slot_dict_values F.entry_dict_values rfl (PySem.evalArgs_none ⟨rfl, raw.typeIs, F.args_dict_values_1 _, _, meets_dict_values_raw a hd, ⟨_, _, raw⟩, ?_⟩)
  refine args_nil ?_
  have raw2 : (s1.heap.push { cls := .type "dict_values", data := .fields #[.ref a] }).DictRaw a st.es st.ep := by obtain ⟨o, ho, r⟩ := raw; exact ⟨o, Heap.get?_push_of_some _ ho, r⟩
  refine PySem.W.kdl_call (s := { s1 with heap := s1.heap.push { cls := .type "dict_values", data := .fields #[.ref a] } }) (KdlSrc.rawValues (r := s1.heap.objs.size)) (I1.ok.hd hc) ⟨⟨_, Heap.get?_push_size _ rfl, rfl, rfl⟩, raw2⟩ (by omega) fun h' tk acc c hk hS hit => ?_
  have hf : H1 (s1.heap.push { cls := .type "dict_values", data := .fields #[.ref a] }).objs.size = none := I2.hok.fresh (Nat.le_refl _)
  have hv : Vals vs acc.toList := by rw [items_map (f := fun e : DictEntry => e.val) hit]; exact r2
  have hvl : vs.length = kvs.length := by rw [← r1.length, List.length_map]
  have I' := I2.laid (a := (s1.heap.push { cls := .type "dict_values", data := .fields #[.ref a] }).objs.size) (o := .lst vs) (t' := tk) hk (Nat.le_refl _) ⟨by omega, acc.toList, c, hv, by simpa using hS⟩
  exact ⟨.ref _, _, I', rfl, hq _ _ _ _ (q _ (hs1.fresh hf)) (.ref _) (hs1.new hf ⟨vs, upd_same, (Stp.laid (S := S1) hf).rvl r1⟩) (st1.trans (Stp.new hf))⟩
def mIndexI : DM := fun d ds S Q => match d, ds with
  | .ref a, [.int y] => ∃ (ns : List Int) (j : Nat), S a = some (.lst (ns.map D.int)) ∧ ns[j]? = some y ∧ (∀ m < j, ns[m]? ≠ some y) ∧ Q (.int j) S
  | _, _ => False
theorem dmt_indexI {X : Cx} {tbl : Tbl} : MtR X "list.index" (liftM (xfw X tbl) mIndexI) := dl_m fun pins s σ H d ds x xs v us S Q Q0 I rx ru rd rds hs hr hq => by
  match d, ds, hr, rd, rds with
  | .ref a, [.int y], ⟨ns, j, e, hj, hm, q⟩, rd, rds =>
    obtain ⟨w, rfl, rw0⟩ := rds.one
    cases rw0
    cases rd
    obtain ⟨vs, h1, r1⟩ := hs.lst e
    have hvs : vs = ns.map V.int := rvl_ints r1
    subst hvs
    have at_ : ∀ i : Nat, (ns.map V.int)[i]? = (ns[i]?).map V.int := fun i => List.getElem?_map ..
    refine mt_index pins s σ H _ _ v us Q I rx ru ⟨a, ns.map V.int, .int y, j, .int y, rfl, rfl, .inl (.of h1), rfl, List.all_eq_true.mpr fun z hz => ?_, by rw [at_, hj]; rfl, by simp [eqV], fun m z' hmj hz' => ?_, hq _ _ _ _ q (.int _) hs (.refl _ _)⟩
    · obtain ⟨i, _, rfl⟩ := List.mem_map.mp hz; rfl
    · rw [at_] at hz'
      obtain ⟨i, hi, rfl⟩ := Option.map_eq_some_iff.mp hz'
      have : i ≠ y := fun z => hm m hmj (by rw [hi, z])
      simp [eqV, this]
def dStar (te : DE) (t : DA) : DA := fun δ S Q => te δ S fun x S1 => match seqOf S1 x with
  | some xs => t δ S1 fun ys S2 => Q (xs ++ ys) S2
  | none => False
theorem qa_star {X : Cx} {tbl : Tbl} {e : Expr} {es : List Expr} {te : DE} {t : DA} {p : Pos} (he : PE X e (liftE (xfw X tbl) te)) (hr : PA X es (liftA (xfw X tbl) t)) (hs : starEach (.Starred e p :: es) X.env = (true, eval e X.env) :: starEach es X.env := by rfl) : PA X (.Starred e p :: es) (liftA (xfw X tbl) (dStar te t)) := by
  refine ⟨fun pos pins s σ H Q I ⟨δ, S, Q0, hr0, hsm, h, hq⟩ => (StX.pa_star he hr hs).run pos pins s σ H Q I ?_⟩
  refine ⟨δ, S, _, hr0, hsm, h, fun x S1 v H1 h1 r1 s1 a1 => ?_⟩
  split at h1
  · rename_i xs e
    obtain ⟨a, vs, rfl, hv, rr⟩ := seq_of s1 r1 e
    exact ⟨a, vs, rfl, hv.symm, δ, S1, _, hr0.stp a1, s1, h1, fun ys S2 ws H2 h2 r2 s2 a2 => hq _ _ _ _ h2 (RvL.append (a2.rvl rr) r2) s2 (a1.trans a2)⟩
  · exact h1.elim
end DL
namespace DL
open PySem PySem.Spec PyProof.Rows L2 LamX NdefX
def minKNV (c : DF) (x : D) (S : DS) (Q : DK) : Prop := match lstOf S x with
  | some [] => Q .non S
  | some (y :: ys) => c [y] S fun k S1 => minKs c x (y :: ys) Q ys y k S1
  | none => False
section
variable {X : Cx} {tbl : Tbl} {pins : List (Addr × Obj)} {σ : L2.St} {q it a l : Addr} {pf : List (Addr × Obj)} {J : Hp → Prop} {c : DF} {x : D} {xs : List D} {Q0 : DK} {S0 : DS} {H0 : Hp}
theorem minKD_core {H : Hp} {s : Shared} {S : DS} {Qv E : Value → Shared → Prop} (I : Inv X (pf ++ pins) σ H s) (hJ : J H) (hs : Sim (xfw X tbl) S H) (hq : KeyFn X X.A.in1 tbl σ q pf J c) (hrx : Rv (xfw X tbl) H x (.ref l)) (hu : X.A.units + 100 < cLine) (hcalm : X.A.handled = none)
    (hm : minKNV c x S Q0) (hQ : ∀ s' u v b H' S', Inv X (pf ++ pins) σ H' s' → Sim (xfw X tbl) S' H' → Stp S H S' H' → RelV v u → Rv (xfw X tbl) H' b v → Q0 b S' → Qv u s') :
    wpAny (model X.prog X.w) X.A (call (.builtin "min") [.ref l] [(Str.ofString "key", .ref q), (Str.ofString "default", .none)]) Qv E s := by
  have hname : (toString "min" ++ toString ".loop" : String) = "min.loop" := by decide
  unfold minKNV at hm
  split at hm
  case h_3 => exact hm.elim
  case h_1 =>
    rename_i hl
    obtain ⟨l', ws, el, hsq, rws⟩ := lst_of hs hrx hl
    cases el
    obtain ⟨its, rv, hil, hz⟩ := I.list hsq
    have hlen : its.length = 0 := by rw [← rv.length, ← rws.length]; rfl
    refine PyProof.Rows.kmk_tree F.kind_min F.plain_min F.entry_min (PySem.args_min_key_default _ _ _) ?_
    show wpAny _ X.A.in1 (Builtin.Builtins.bindParams "min" ["key", "default"] 0 ⟨[], [(Str.ofString "key", .ref q), (Str.ofString "default", .none)]⟩ >>= _) _ _ s
    refine wpAny_bind (wpAny_of_eq (show Builtin.Builtins.bindParams "min" ["key", "default"] 0 ⟨[], [(Str.ofString "key", .ref q), (Str.ofString "default", .none)]⟩ = pure [some (.ref q), some .none] from rfl) ?_)
    refine wpAny_bind (wpAny_pure ?_)
    refine wpAny_bind (wpAny_pyIter_list hil.isList ?_)
    refine wpAny_bind (wpAny_newObj_type ?_)
    rw [hname]
    generalize hit : s.heap.objs.size = it
    generalize ho : ({ cls := .type "list_iterator", data := .fields #[.ref l, .int 0 0] } : Obj) = oi
    have hsz : (s.heap.push oi).objs.size = it + 1 := by rw [Heap.size_push, hit]
    generalize hh2 : (s.heap.push oi).push (seqObj "list" #[] 0) = h2
    have old : ∀ b u, s.heap.get? b = some u → h2.get? b = some u := fun b u e => by
      rw [← hh2]; exact Heap.get?_push_of_some _ (Heap.get?_push_of_some _ e)
    have n1 : h2.get? it = some oi := by rw [← hh2, ← hit]; exact Heap.get?_push_of_some _ (Heap.get?_push_size _ (by rw [← ho]; rfl))
    have n2 : h2.get? (it + 1) = some (seqObj "list" #[] 0) := by rw [← hh2, ← hsz]; exact Heap.get?_push_size _ rfl
    have ltL := I.lt
    have hsi : s.heap.objs.size ≤ it := by omega
    have npin : ∀ b, s.heap.objs.size ≤ b → ∀ p ∈ X.pn ++ (pf ++ pins), p.1 ≠ b := fun b hb p hp z => by
      exact Nat.lt_irrefl _ (Nat.lt_of_lt_of_le (z ▸ Heap.lt_size (I.pin p hp).1) hb)
    have I2 : Inv X (pf ++ pins) σ H { s with heap := h2 } := I.kept (t' := s.toks) old
    have I3 : Inv X ((it, oi) :: (pf ++ pins)) σ H { s with heap := h2 } := I2.pinAdd n1 (I.hok.fresh hsi) (Nat.ne_of_gt (Nat.lt_of_lt_of_le ltL hsi)) (I.nofs hsi) (fun _ z => by rw [← ho] at z; cases z)
    rw [show ({ heap := s.heap.push oi, gens := s.gens, drawn := s.drawn, toks := s.toks, os := s.os } : Shared).heap.objs.size = it + 1 from hsz]
    refine wpAny_pure ⟨plainId_quiet F.plain_min_loop _, ?_⟩
    refine codeAny_builtin F.entry_min_loop ?_
    rw [Around.under_plainId F.plain_min_loop _]
    show wpAny _ X.A.in1 (seqItems? (.ref (it + 1)) >>= _) _ _ _
    refine wpAny_bind (wpAny_seqItems n2 rfl ?_)
    show wpAny _ X.A.in1 (tryCatch (pyNext (.ref it)) _ >>= _) _ _ _
    have hil2 : h2.IsList l its.toArray := by obtain ⟨o, e, r⟩ := hil.isList; exact ⟨o, old _ _ e, r⟩
    have hT := I3.pin (it, oi) (List.mem_append_right _ (.head _))
    refine wpAny_bind (wpAny_tryCatch (wpAny_pyNext_list_end (s := { s with heap := h2 }) hcalm ⟨oi, n1, by rw [← ho], by rw [← ho]; rfl⟩ hil2 (by rw [List.getElem?_toArray]; exact List.getElem?_eq_none (by omega)) fun h' he => ?_))
    have I0 : Inv X (pf ++ pins) σ H { s with heap := h2 } := I3.pinDrop
    have I1 : Inv X (pf ++ pins) σ H { s with heap := h' } := I0.turned (t' := s.toks) (fun c u hc e => he c u hc e) hT.2.1 hT.2.2.1 (.inr (Nat.le_trans I.sz hsi)) (I0.cellNe hT.1 hT.2.2.2.2) (npin _ hsi)
    show wpAny _ X.A.in1 (rule _ >>= _) _ _ _
    exact wpAny_bind (wpAny_rule (wpAny_pure (hQ _ .none .non .non H S I1 hs (.refl _ _) rfl .non hm)))
  rename_i y ys hl
  obtain ⟨l', ws, el, hsq, rws⟩ := lst_of hs hrx hl
  cases el
  obtain ⟨its, rv, hil, hz⟩ := I.list hsq
  have hlen : its.length = ys.length + 1 := by rw [← rv.length, ← rws.length]; rfl
  obtain ⟨v, hv, hvd⟩ : ∃ v, ws[0]? = some v ∧ Rv (xfw X tbl) H y v := rws.get rfl
  obtain ⟨u, hu1, rvu⟩ := rv.get hv
  refine PyProof.Rows.kmk_tree F.kind_min F.plain_min F.entry_min (PySem.args_min_key_default _ _ _) ?_
  show wpAny _ X.A.in1 (Builtin.Builtins.bindParams "min" ["key", "default"] 0 ⟨[], [(Str.ofString "key", .ref q), (Str.ofString "default", .none)]⟩ >>= _) _ _ s
  refine wpAny_bind (wpAny_of_eq (show Builtin.Builtins.bindParams "min" ["key", "default"] 0 ⟨[], [(Str.ofString "key", .ref q), (Str.ofString "default", .none)]⟩ = pure [some (.ref q), some .none] from rfl) ?_)
  refine wpAny_bind (wpAny_pure ?_)
  refine wpAny_bind (wpAny_pyIter_list hil.isList ?_)
  refine wpAny_bind (wpAny_newObj_type ?_)
  rw [hname]
  generalize hit : s.heap.objs.size = it
  generalize ho : ({ cls := .type "list_iterator", data := .fields #[.ref l, .int 0 0] } : Obj) = oi
  have hsz : (s.heap.push oi).objs.size = it + 1 := by rw [Heap.size_push, hit]
  generalize hh2 : (s.heap.push oi).push (seqObj "list" #[] 0) = h2
  have old : ∀ b u, s.heap.get? b = some u → h2.get? b = some u := fun b u e => by
    rw [← hh2]; exact Heap.get?_push_of_some _ (Heap.get?_push_of_some _ e)
  have n1 : h2.get? it = some oi := by rw [← hh2, ← hit]; exact Heap.get?_push_of_some _ (Heap.get?_push_size _ (by rw [← ho]; rfl))
  have n2 : h2.get? (it + 1) = some (seqObj "list" #[] 0) := by rw [← hh2, ← hsz]; exact Heap.get?_push_size _ rfl
  have ltL := I.lt
  have hsi : s.heap.objs.size ≤ it := by omega
  have hsa : s.heap.objs.size ≤ it + 1 := by omega
  have npin : ∀ b, s.heap.objs.size ≤ b → ∀ p ∈ X.pn ++ (pf ++ pins), p.1 ≠ b := fun b hb p hp z => by
    exact Nat.lt_irrefl _ (Nat.lt_of_lt_of_le (z ▸ Heap.lt_size (I.pin p hp).1) hb)
  have I2 : Inv X (pf ++ pins) σ H { s with heap := h2 } := I.kept (t' := s.toks) old
  have I3 : Inv X ((it, oi) :: (pf ++ pins)) σ H { s with heap := h2 } := I2.pinAdd n1 (I.hok.fresh hsi) (Nat.ne_of_gt (Nat.lt_of_lt_of_le ltL hsi)) (I.nofs hsi) (fun _ z => by rw [← ho] at z; cases z)
  have I4 : Inv X ((it + 1, seqObj "list" #[] 0) :: (it, oi) :: (pf ++ pins)) σ H { s with heap := h2 } := I3.pinAdd n2 (I.hok.fresh hsa) (Nat.ne_of_gt (Nat.lt_of_lt_of_le ltL hsa)) (I.nofs hsa) (fun _ z => by cases z)
  have hs0 : X.s_0.heap.objs.size ≤ it := Nat.le_trans I.sz hsi
  have hs1 : X.s_0.heap.objs.size ≤ it + 1 := Nat.le_trans I.sz hsa
  rw [show ({ heap := s.heap.push oi, gens := s.gens, drawn := s.drawn, toks := s.toks, os := s.os } : Shared).heap.objs.size = it + 1 from hsz]
  refine wpAny_pure ⟨plainId_quiet F.plain_min_loop _, ?_⟩
  refine codeAny_builtin F.entry_min_loop ?_
  rw [Around.under_plainId F.plain_min_loop _]
  show wpAny _ X.A.in1 (seqItems? (.ref (it + 1)) >>= _) _ _ _
  refine wpAny_bind (wpAny_seqItems n2 rfl ?_)
  show wpAny _ X.A.in1 (tryCatch (pyNext (.ref it)) _ >>= _) _ _ _
  have hil2 : h2.IsList l its.toArray := by obtain ⟨o, e, r⟩ := hil.isList; exact ⟨o, old _ _ e, r⟩
  refine wpAny_bind (wpAny_tryCatch (wpAny_pyNext_list_item (s := { s with heap := h2 }) ⟨oi, n1, by rw [← ho], by rw [← ho]; rfl⟩ hil2 (x := u) (by rw [List.getElem?_toArray]; exact hu1) fun h' hit' hsb => ?_))
  obtain ⟨oi', ho', oc', od'⟩ := hit'
  have nka : ∀ p ∈ X.pn ++ ((it + 1, seqObj "list" #[] 0) :: (pf ++ pins)), p.1 ≠ it := fun p hp => by
    rcases List.mem_append.mp hp with hp | hp
    · exact npin it hsi p (List.mem_append_left _ hp)
    · rcases List.mem_cons.mp hp with rfl | hp
      · show it + 1 ≠ it; omega
      · exact npin it hsi p (List.mem_append_right _ hp)
  have I5 : Inv X ((it, oi') :: (it + 1, seqObj "list" #[] 0) :: (pf ++ pins)) σ H { s with heap := h' } := I4.pinSwap.repin (t' := s.toks) hsb ho' (fun v z => by rw [od'] at z; cases z) hs0 nka
  show wpAny _ X.A.in1 (tryCatch (holding [u] (call (.ref q) [u])) _ >>= _) _ _ _
  refine wpAny_bind (wpAny_tryCatch (wpAny_holding (wpAny_mono (hq.run _ H _ v u y S _ (fun _ _ => False) (fun p hp => List.mem_cons_of_mem _ (List.mem_cons_of_mem _ (List.mem_append_left _ hp))) I5 hJ rvu hvd hs hm) (fun u' s2 hh => ?_) fun _ _ hF => hF.elim)))
  obtain ⟨d', S2, v', H2, I6, rv', rd', hs2, st2, hm2⟩ := hh
  have hJ2 := hq.lasts _ _ _ _ hs st2 hJ
  have hS2 : s2.heap.get? (it + 1) = some (seqObj "list" #[] 0) := (I6.pin _ (List.mem_append_right _ (.tail _ (.head _)))).1
  show wpAny _ X.A.in1 (updateSeq (it + 1) (fun _ => #[u, u']) >>= _) _ _ _
  refine wpAny_bind ?_
  refine wpAny_updateSeq hS2 rfl ?_
  rw [hname]
  obtain ⟨e2, he2⟩ : ∃ e2, (s2.heap.update (it + 1) (Obj.mapSeq fun _ => #[u, u'])).get? (it + 1) = some (seqObj "list" #[u, u'] e2) := ⟨_, get?_update_seq hS2 fun _ => #[u, u']⟩
  have nki : ∀ p ∈ X.pn ++ ((it, oi') :: (pf ++ pins)), p.1 ≠ it + 1 := fun p hp => by
    rcases List.mem_append.mp hp with hp | hp
    · exact npin (it + 1) hsa p (List.mem_append_left _ hp)
    · rcases List.mem_cons.mp hp with rfl | hp
      · show it ≠ it + 1; omega
      · exact npin (it + 1) hsa p (List.mem_append_right _ hp)
  have I7 := I6.pinSwap.repin (t' := s2.toks) (Heap.SameBut.update s2.heap (it + 1) (Obj.mapSeq fun _ => #[u, u'])) he2 (fun _ z => by cases z) hs1 nki
  refine wpAny_pure ⟨plainId_quiet F.plain_min_loop _, minK_loop (xs := y :: ys) hq hu hrx (show it + 1 ≠ it by omega) hs1 hs0 hcalm (npin _ hsa) (npin _ hsi) (fun s' u v b H' S' i1 i2 i3 i4 i5 i6 => hQ s' u v b H' S' i1 i2 i3 i4 i5 i6) _ 0 _ u u' e2 oi' H2 S2 y d' v v' rfl (by rw [List.length_cons]; omega) I7 oc' (by rw [od']) hJ2 hs2 st2 rvu (st2.rv hvd) rv' rd' (by rw [Nat.zero_add, List.drop_succ_cons, List.drop_zero]; exact hm2)⟩
end
def dMinKN (cc : Loc → DF) (te : DE) : DE := fun δ S Q => te δ S fun x S1 => minKNV (cc δ) x S1 Q
theorem minKNV_lst {c : DF} {x : D} {S : DS} {Q : DK} (h : minKNV c x S Q) : ∃ xs, lstOf S x = some xs := by
  unfold minKNV at h
  split at h
  · rename_i e; exact ⟨_, e⟩
  · rename_i y ys e; exact ⟨_, e⟩
  · exact h.elim
section
variable {X : Cx} {tbl : Tbl} {e ek : Expr} {te : DE} {cc : Loc → DF} {pos p kpos kpos2 dpos : Pos} {kj : Nat}
theorem qe_minKN (hc : X.calm = true) (hu : X.A.units + 100 < cLine) (hk : KeyEx X tbl ek cc) (hg : Gl X "min") (hm : X.mg "min" = none) (ha : PE X e (liftE (xfw X tbl) te))
    (he : backTo pos (starEach [e] X.env) = (false, eval e X.env) :: backTo pos (starEach [] X.env) := by rfl) (hpl : (backTo pos (starEach [e] X.env)).any (·.1) = false := by rfl) (hse : starEach [e] X.env = (false, eval e X.env) :: starEach [] X.env := by rfl) :
    PE X (.Call (.Name "min" p) [e] [⟨some "key", ek, kpos⟩, ⟨some "default", .Constant .none kj dpos, kpos2⟩] pos) (liftE (xfw X tbl) (dMinKN cc te)) := by
  refine ⟨fun pins s σ H Q I ⟨δ, S, Q0, hr, hs, h, hq⟩ => ?_⟩
  refine wpAny_Call_Name_kw (ld_blt I hg hm rfl ?_)
  have pa : PA X [e] (liftA (xfw X tbl) (dCons te dNil)) := qa_cons ha qa_nil hse
  refine PyProof.Rows.callWith_kw (thn (pa.run pos pins s σ H (fun vs H1 => ∃ x S1 v, vs = [v] ∧ Rv (xfw X tbl) H1 x v ∧ Sim (xfw X tbl) S1 H1 ∧ Stp S H S1 H1 ∧ minKNV (cc δ) x S1 Q0) I
    ⟨δ, S, one1 fun x S1 => minKNV (cc δ) x S1 Q0, hr, hs, h, ?_⟩) fun us s1 ⟨vs, H1, I1, r1, x, S1, v, ev, rx, hs1, st1, q1⟩ => ?_) he hpl (by rfl) (by rfl)
  · intro ds S' vs H' q rv hs' st'
    match ds, q, rv with
    | [x], q, rv =>
      obtain ⟨v, rfl, rd⟩ := rv.one
      exact ⟨x, S', v, rfl, rd, hs', st', q⟩
  · subst ev
    obtain ⟨xs, hx⟩ := minKNV_lst q1
    show wpAny _ _ (evalAll ((do let v ← eval ek X.env; standAt pos; pure v) :: (do let v ← eval (.Constant .none kj dpos) X.env; standAt pos; pure v) :: [])) _ _ s1
    refine wpAny_evalAll_cons (wpAny_bind (hk.run pins s1 σ H1 δ S1 _ I1 (hr.stp st1) hs1 fun q s2 H2 pf J I2 hs2 st2 hK hJ => wpAny_bind (wpAny_standAt (wpAny_pure (wpAny_evalAll_cons (wpAny_bind ((pe_non (j := kj) (pos := dpos)).run _ s2 σ H2 (fun v H' => v = .non ∧ H' = H2) I2 ⟨rfl, rfl⟩ |> fun z => wpAny_mono z (fun u0 s3 hh => ?_) fun _ _ e => e)))))))
    obtain ⟨_, _, I3, ru0, rfl, rfl⟩ := hh
    cases (show u0 = Value.none from ru0)
    refine wpAny_bind (wpAny_standAt (wpAny_pure (wpAny_evalAll_nil ?_)))
    obtain ⟨l, ws, rfl, hl, rxs⟩ := lst_of hs2 (st2.rv rx) hx
    rw [Vals.ref1 r1]
    show wpAny _ _ (call (.builtin "min") [.ref l] [(Str.ofString "key", .ref q), (Str.ofString "default", .none)]) _ _ s3
    exact minKD_core I3 hJ hs2 (hK _ (.inl rfl)) (st2.rv rx) hu (I3.ok.hd hc) q1 fun s4 u v b H3 S3 I4 hs3 st3 ru rb hb =>
      ⟨v, H3, I4.pins_of fun q hq => I4.pin q (List.mem_append_right _ (List.mem_append_right _ hq)), ru, hq _ _ _ _ hb rb hs3 (st1.trans (st2.trans st3))⟩
end
/-- the module's dict x: its pairs -/
def GlobT (K : PySem.W.Frag) (w : World) (mg : Str → Option Value) (x : Str) (kvs : List (D × D)) : Prop :=
  ∃ (a : Addr) (o : Obj) (es : Array DictEntry) (ep : Nat), mg x = some (.ref a) ∧ K.lookup a = some o ∧ o.ExactDict ∧ o.data = .dict es ep ∧ (∀ p ∈ kvs, isLf p.1 = true) ∧ (kvs.map fun p => nk p.1).Nodup ∧ ∀ tbl H, REnt ⟨K, w, tbl⟩ H kvs es.toList
/-- x[e], x a dict of the module -/
def dGix (kvs : List (D × D)) (te : DE) : DE := fun δ S Q => te δ S fun k S1 => isLf k = true ∧ ∃ d, dget kvs k = some d ∧ Q d S1
/-- f(e, ..), f a local name that holds a def -/
def dCallV (i : Nat) (tab : List (Str × Nat)) (c : Nat → DF) (t : DA) : DE := fun δ S Q => ∃ x j, δ[i]? = some (some (.fn x)) ∧ tab.lookup x = some j ∧ t δ S fun ds S1 => c j ds S1 Q
section
variable {X : Cx} {tbl : Tbl} {x : Str} {kvs : List (D × D)} {e : Expr} {es : List Expr} {te : DE} {t : DA} {pos p : Pos}
theorem gdct_lf {pins : List (Addr × Obj)} {σ : L2.St} {H : Hp} {s : Shared} {a : Addr} {o : Obj} {es : Array DictEntry} {ep : Nat} (I : Inv X pins σ H s) (hl : X.K.lookup a = some o) (hc : o.ExactDict) (hdt : o.data = .dict es ep) (hk : ∀ p ∈ kvs, isLf p.1 = true) (hn : (kvs.map fun p => nk p.1).Nodup) (re : REnt (xfw X tbl) H kvs es.toList) :
    ∃ vs, LP (xfw X tbl) H kvs vs ∧ s.heap.DictOf (mixKind X.prog X.w) a vs := by
  have ho : s.heap.get? a = some o := I.kIn a o hl
  obtain ⟨vs, h1, h2, h3⟩ := rent_lp (P := X.prog) re hk
  exact ⟨vs, h1, o, es, ep, ho, hc, hdt, fun e' he => h3 e' (Array.mem_toList_iff.mpr he), h2, lp_keys h1 hn⟩
def rGix (X : Cx) (tbl : Tbl) (a : Addr) (kvs : List (D × D)) : R2 := fun x y H Q => x = .ref a ∧ ∃ (k : D) (S : DS) (Q0 : DK), Rv (xfw X tbl) H k y ∧ Sim (xfw X tbl) S H ∧ (isLf k = true ∧ ∃ d, dget kvs k = some d ∧ Q0 d S) ∧ ∀ d S' v H', Q0 d S' → Rv (xfw X tbl) H' d v → Sim (xfw X tbl) S' H' → Stp S H S' H' → Q v H'
theorem qe_gix (hu : X.A.units + 100 < cLine) (g : GlobT X.K X.w X.mg x kvs) (hg : Gl X x) (he : PE X e (liftE (xfw X tbl) te)) (hs : PlainIx e) (hd : (x == ("__debug__" : Str)) = false := by decide) : PE X (.Subscript (.Name x p) e pos) (liftE (xfw X tbl) (dGix kvs te)) := by
  obtain ⟨a, o, es, ep, h1, h2, h3, h4, h5, h6, h7⟩ := g
  have hix : IxR X (rGix X tbl a kvs) := by
    rintro value slice pins s σ H xv yv v u Q I rx ry ⟨rfl, k, S, Q0, hk, hs, ⟨hl, d, hg, q⟩, hq⟩ hsub
    cases (show v = Value.ref a from rx)
    obtain ⟨vs, lp, dd⟩ := gdct_lf I h2 h3 h4 h5 h6 (h7 tbl H)
    have z := dget_lp lp hl
    rw [hg] at z
    obtain ⟨w', v', hw, rv, rw'⟩ := z
    have := lf_val hl hk
    subst this
    refine subscriptTail_builtinR (x := w') dd.typeIs PySem.F.slot_dict_getitem.lookup ?_ hsub
    exact wpAny_getItem_of (kV_is ry) dd.mapOf hw ⟨rfl, v', H, I.tok _, rw', hq _ _ _ _ q rv hs (.refl _ _)⟩
  refine PE.imp (pe_ix hix (pe_glob (v := .ref a) hg h1 rfl hd) he hs) ?_
  rintro σ H Q ⟨δ, S, Q0, hr, hs, h, hq⟩
  refine ⟨δ, S, _, hr, hs, h, fun k S1 v H1 ⟨hl, d, hg, q⟩ r1 s1 a1 => ⟨rfl, k, S1, _, r1, s1, ⟨hl, d, hg, q⟩, fun d' S' v' H' q' r s a => hq _ _ _ _ q' r s (a1.trans a)⟩⟩
/-- what may stand at a name that is called -/
def FnTab (X : Cx) (tbl : Tbl) (k : Nat) (tab : List (Str × Nat)) (c : Nat → DF) : Prop :=
  ∀ x j, tab.lookup x = some j → ∃ (f : Addr) (fd : FuncData) (ps : List Str) (np : Nat), PySem.W.nsIn X.K mainGlobals x = some (some (.ref f)) ∧ FnOk X.prog X.w X.K X.mg X.base CX0 k f fd ps (liftF (xfw X tbl) np (c j)) ∧ PySem.W.keepIn X.K (.ref f) = true ∧ Binds X.K fd ps [] ∧ ∀ ds S Q, c j ds S Q → ds.length = np
theorem qe_callV {i k : Nat} {tab : List (Str × Nat)} {c : Nat → DF} (hF : FnTab X tbl k tab c) (hr : Room k X.A) (hN : X.N[i]? = some x) (hv : Vis X.env.scope x) (ha : PA X (e :: es) (liftA (xfw X tbl) t))
    (hd : (x == ("__debug__" : Str)) = false := by decide) (hcd : (x == ("__classdict__" : Str)) = false := by decide)
    (he : starEach (e :: es) X.env = (false, eval e X.env) :: starEach es X.env := by rfl) (hpl : (backTo pos (starEach es X.env)).any (·.1) = false := by rfl) : PE X (.Call (.Name x p) (e :: es) [] pos) (liftE (xfw X tbl) (dCallV i tab c t)) := by
  refine ⟨fun pins s σ H Q I h => ?_⟩
  obtain ⟨δ, S, Q0, hrs, hs, ⟨y, j, hδ, hj, h⟩, hq⟩ := h
  obtain ⟨f, fd, ps, np, h1, F, hk, hb, hn⟩ := hF y j hj
  obtain ⟨v, hσ, rv⟩ := hrs.2 i _ hδ
  cases rv with
  | fn h1' =>
    rw [h1] at h1'
    cases h1'
    refine wpAny_Call_Name_kw (thn ((pe_var (pos := p) (i := i) hN hv hd hcd).run pins s σ H (fun v H1 => v = .ref f ∧ H1 = H) I ⟨.ref f, hσ, rfl, rfl⟩) fun u s1 ⟨v, H1, I1, r1, ev, eH⟩ => ?_)
    subst ev
    rw [eH] at I1
    cases r1
    have hc : tCall (liftF (xfw X tbl) np (c j)) [] E0 (liftA (xfw X tbl) t) σ H Q := lift_call hn σ H Q ⟨δ, S, Q0, hrs, hs, h, hq⟩
    exact PySem.W.callWith_K (h₀ := X.base) I.ok.mod.kin hk (thn (ha.run pos pins s1 σ H _ I1 hc) fun us s2 ⟨vs, H2, I2, r, q⟩ => ⟨I2.kIn, run_fn F hr hb .nil pass0 I2 r q⟩) he hpl
/-- a call without anything -/
theorem qe_call0 {k np : Nat} {f : Addr} {fd : FuncData} {ps : List Str} {c : DF} (hn : ∀ ds S Q, c ds S Q → ds.length = np) (F : FnOk X.prog X.w X.K X.mg X.base CX0 k f fd ps (liftF (xfw X tbl) np c)) (hr : Room k X.A) (hg : Gl X x) (hm : X.mg x = some (.ref f)) (hk : PySem.W.keepIn X.K (.ref f) = true) (hb : Binds X.K fd ps [])
    (hdb : (x == ("__debug__" : Str)) = false := by decide) : PE X (.Call (.Name x p) [] [] pos) (liftE (xfw X tbl) (dCall c dNil)) := by
  refine PE.imp (pe_call0 F hr hg hm hk hb .nil pass0 hdb) fun σ H Q h => ?_
  obtain ⟨δ, S, Q0, hr, hs, h, hq⟩ := h
  exact ⟨by rw [show ([] ++ [] : List V) = [] from rfl, ← hn _ _ _ h]; rfl, [], S, Q0, .nil, hs, h, hq⟩
end
theorem list_extend_tup (l : Addr) (items : Array Value) (n : Nat) (b : Addr) (dd : Option Addr) (ss : Array (Option Value)) (items2 : Array Value) (n2 : Nat) (hs0 : ¬(!items.isEmpty && Builtin.List.listTooLong (items.size + items2.size)) = true) (hs1 : items.size ≤ sizeLine) (hs2 : items.size + items2.size ≤ sizeLine + 1) :
    Meets (Builtin.«list.extend» ⟨[.ref l, .ref b], []⟩) (fun _ R s => s.heap.get? l = some { cls := .type "list", dict := none, data := .seq items n, slots := #[] } ∧ s.heap.get? b = some { cls := .type "tuple", dict := dd, data := .seq items2 n2, slots := ss } ∧ R (.ok (.ret Value.none)) { s with heap := s.heap.update l (Obj.mapSeq fun x => x ++ items2), toks := s.toks }) :=
  .of_wp fun prog w A R s h => by
    obtain ⟨hp, g, d, tk, os⟩ := s; obtain ⟨hl, hb, h⟩ := h; have f1 := AutoSeq1.idx_int; have f2 := AutoSeq1.sub_tuple_tuple; have f3 := AutoSeq1.sub_list_list; have f4 := AutoSeq1.sub_tuple_list; have f5 := AutoSeq1.sub_list_tuple;
    have hz' : (items ++ items2).size ≤ sizeLine + 1 := by rw [Array.size_append]; exact hs2
    wp_walk using (wpAny_updateSeq hl rfl (hz := hs1) (_hz' := hz')), AutoSeq1.wpAny_loadPart' hl, AutoSeq1.wpAny_loadPart' hb; exact ⟨_, rfl, h⟩
def rExtendT (K : PySem.W.Frag) : V → List V → Hp → VK → Prop := fun x vs H Q => ∃ l b xs zs, x = .ref l ∧ vs = [.ref b] ∧ H l = some (.lst xs) ∧ SqT K H b zs ∧ xs.length + zs.length ≤ sizeLine ∧ Q .non (upd H l (.lst (xs ++ zs)))
def mExtendT : DM := fun d ds S Q => match d, ds with
  | .ref a, [.tup ys] => match S a with
    | some (.lst xs) => xs.length + ys.length ≤ 16777216 ∧ Q .non (dupd S a (.lst (xs ++ ys)))
    | _ => False
  | _, _ => False
section
variable {X : Cx} {tbl : Tbl}
theorem mt_extendT : MtM X "list.extend" (rExtendT X.K) := by
  intro pins s σ H x vs v us Q I rx rv h
  obtain ⟨l, b, xs, zs, rfl, rfl, hH, hB, hz, q⟩ := h
  cases rx
  obtain ⟨u, rfl, ru⟩ := rv.one
  cases ru
  obtain ⟨z, its, n, r, hl, e⟩ := I.lstM hH
  obtain ⟨its2, r2, ⟨⟨oc, od, odt, osl⟩, e2, hc2, n2, hd2⟩, hl2⟩ := I.tuple hB
  dsimp only at hc2 hd2
  subst hc2 hd2
  have hlen2 := r2.length
  have hsz : its.toArray.size + its2.toArray.size ≤ sizeLine := by rw [List.size_toArray, List.size_toArray]; omega
  have hlong : ¬ (!its.toArray.isEmpty && Builtin.List.listTooLong (its.toArray.size + its2.toArray.size)) = true := by
    rw [notLongL hsz, Bool.and_false]
    exact Bool.false_ne_true
  refine call_meets F.slot_list_extend ⟨_, e, rfl⟩ F.entry_list_extend (F.args_list_extend_2 _ _)
    (list_extend_tup l its.toArray n b od osl its2.toArray n2 hlong (by rw [List.size_toArray]; omega) (by omega)) ⟨e, e2, ?_⟩
  refine ⟨.non, _, I.lset (its' := its ++ its2) hH e (by simp) (r.append r2) ?_, rfl, q⟩
  rw [List.length_append]
  omega
theorem dmt_extendT : MtR X "list.extend" (liftM (xfw X tbl) mExtendT) := dl_m fun pins s σ H d ds x xs v us S Q Q0 I rx ru rd rds hs hr hq => by
  match d, ds, hr, rd, rds with
  | .ref a, [.tup ys], hr, rd, rds =>
    obtain ⟨w0, rfl, rw0⟩ := rds.one
    cases rw0 with
    | tup q2 r2 =>
    cases rd
    have hr' : (match S a with
      | some (.lst xs) => xs.length + ys.length ≤ 16777216 ∧ Q0 .non (dupd S a (.lst (xs ++ ys)))
      | _ => False) := hr
    split at hr'
    · rename_i zs ea
      obtain ⟨vs, h1, r1⟩ := hs.lst ea
      exact mt_extendT pins s σ H _ _ v us Q I rx ru ⟨a, _, vs, _, rfl, rfl, h1, q2, by rw [szl, ← r1.length, ← r2.length]; exact hr'.1, hq _ _ _ _ hr'.2 .non (hs.write ea ⟨_, upd_same, (r1.append r2).updL h1⟩) (Stp.write hs ea)⟩
    · exact hr'.elim
end
theorem lk_cons {x a : Str} {b j : Nat} {l : List (Str × Nat)} (h : List.lookup x ((a, b) :: l) = some j) : (x = a ∧ j = b) ∨ List.lookup x l = some j := by
  rw [List.lookup] at h
  split at h
  · rename_i e
    exact .inl ⟨eq_of_beq e, (Option.some.inj h).symm⟩
  · exact .inr h
theorem lk_nil {x : Str} {j : Nat} (h : List.lookup x ([] : List (Str × Nat)) = some j) : False := nomatch h
end DL
namespace DL
open PySem PySem.Spec PyProof.Rows L2 LamX
structure ClsOk (K : PySem.W.Frag) (c : Str) (nm : List Str) (C : Addr) : Prop where
  at_ : PySem.W.nsIn K mainGlobals c = some (some (.ref C))
  cl : Cls K C
  no : ∀ f ∈ nm, NoAttr K C f
  nd : nm.Nodup
  ln : nm.length < 1000
theorem lookup_at {α : Type} : ∀ {vs : List (Str × α)} {i : Nat} {f : Str} {w : α}, (vs.map (·.1)).Nodup → vs[i]? = some (f, w) → vs.lookup f = some w
  | [], _, _, _, _, h => by simp at h
  | (g, x) :: vs, 0, f, w, _, h => by
    simp only [List.getElem?_cons_zero, Option.some.injEq, Prod.mk.injEq] at h
    obtain ⟨rfl, rfl⟩ := h
    rw [List.lookup_cons, beq_self_eq_true]
  | (g, x) :: vs, i + 1, f, w, hn, h => by
    rw [List.map_cons, List.nodup_cons] at hn
    have hm := List.mem_of_getElem? (show vs[i]? = some (f, w) from h)
    have hne : (f == g) = false := by
      rw [beq_eq_false_iff_ne]
      intro e
      exact hn.1 (List.mem_map.mpr ⟨_, hm, e⟩)
    rw [List.lookup_cons, hne]
    exact lookup_at hn.2 h
theorem lookup_none {α : Type} : ∀ {vs : List (Str × α)} {f : Str}, f ∉ vs.map (·.1) → vs.lookup f = none
  | [], _, _ => rfl
  | (g, x) :: vs, f, h => by
    rw [List.map_cons, List.mem_cons, not_or] at h
    rw [List.lookup_cons, show (f == g) = false from by rw [beq_eq_false_iff_ne]; exact h.1]
    exact lookup_none h.2
theorem putF_at : ∀ {vs : List (Str × V)} {i : Nat} {f : Str} {y : V}, (vs.map (·.1)).Nodup → (vs.map (·.1))[i]? = some f → putF f y vs = vs.set i (f, y)
  | [], _, _, _, _, h => by simp at h
  | (g, x) :: vs, 0, f, y, _, h => by
    simp only [List.map_cons, List.getElem?_cons_zero, Option.some.injEq] at h
    subst h
    rw [putF, if_pos rfl]; rfl
  | (g, x) :: vs, i + 1, f, y, hn, h => by
    rw [List.map_cons, List.nodup_cons] at hn
    have h' : (vs.map (·.1))[i]? = some f := h
    have hne : ¬ g = f := fun e => hn.1 (by rw [e]; exact List.mem_of_getElem? h')
    rw [putF, if_neg hne, putF_at hn.2 h']; rfl
theorem putF_new : ∀ {vs : List (Str × V)} {f : Str} {y : V}, f ∉ vs.map (·.1) → putF f y vs = vs ++ [(f, y)]
  | [], _, _, _ => rfl
  | (g, x) :: vs, f, y, h => by
    rw [List.map_cons, List.mem_cons, not_or] at h
    rw [putF, if_neg (fun e => h.1 e.symm), putF_new h.2]; rfl
theorem rm5 {n : Nat} {A : Around} (h : Room (4 * n + 3) A) : Room (4 * n + 1) A := h.mono (by omega)
/-- the instance at a: its fields -/
def insAt (c : Str) (nm : List Str) (x : D) (S : DS) (P : Addr → List D → Prop) : Prop := ∃ a xs, x = .ref a ∧ S a = some (.ins c nm xs) ∧ P a xs
def putX (xs : List D) (i : Nat) (y : D) : List D := if i < xs.length then xs.set i y else xs ++ [y]
def dFld (c : Str) (nm : List Str) (i : Nat) (te : DE) : DE := fun δ S Q => te δ S fun x S1 => insAt c nm x S1 fun _ xs => ∃ v, xs[i]? = some v ∧ Q v S1
def dSetF (c : Str) (nm : List Str) (i : Nat) (to te : DE) : DSt := fun D δ S => te δ S fun y S1 => to δ S1 fun x S2 => insAt c nm x S2 fun a xs => i ≤ xs.length ∧ D.nx δ (dupd S2 a (.ins c nm (putX xs i y)))
def dAugF (c : Str) (nm : List Str) (i : Nat) (to te : DE) (r : DR2) : DSt := fun D δ S => to δ S fun x S1 => insAt c nm x S1 fun a xs => ∃ v, xs[i]? = some v ∧ te δ S1 fun y S2 => r v y S2 fun z S3 => ∃ ys, S3 a = some (.ins c nm ys) ∧ i < ys.length ∧ D.nx δ (dupd S3 a (.ins c nm (ys.set i z)))
def dMeth (c : Str) (nm : List Str) (r : DF) (to : DE) (t : DA) : DE := fun δ S Q => to δ S fun x S1 => insAt c nm x S1 fun a _ => t δ S1 fun ds S2 => r (x :: ds) S2 Q
def dMake (c : Str) (nm : List Str) (r : DF) (t : DA) : DE := fun δ S Q => t δ S fun ds S1 => ∀ p, S1 p = none → r (.ref p :: ds) (dupd S1 p (.ins c nm [])) fun v S2 => v = .non ∧ Q (.ref p) S2
section
variable {X : Cx} {tbl : Tbl} {c : Str} {nm : List Str} {C : Addr} {S : DS} {H : Hp} {a : Addr} {xs : List D} {e o value : Expr} {es : List Expr} {f m : Str} {i : Nat} {pos pos' tpos apos p : Pos} {te to : DE}
theorem ins_of (T : ClsOk X.K c nm C) (hs : Sim (xfw X tbl) S H) (e : S a = some (.ins c nm xs)) : ∃ dx vs, H a = some (.ins C dx vs) ∧ vs.map (·.1) = nm.take xs.length ∧ xs.length ≤ nm.length ∧ RvL (xfw X tbl) H xs (vs.map (·.2)) := by
  obtain ⟨C', dx, vs, eH, ⟨h1, h2, h3⟩, r⟩ := hs a _ e
  have : C' = C := by
    have := h1.symm.trans T.at_
    simpa using this
  subst this
  exact ⟨dx, vs, eH, h2, h3, r⟩
theorem nd_take (h : nm.Nodup) (n : Nat) : (nm.take n).Nodup := h.sublist (List.take_sublist _ _)
theorem fld_at (T : ClsOk X.K c nm C) {vs : List (Str × V)} {v : D} (hn : vs.map (·.1) = nm.take xs.length) (r : RvL (xfw X tbl) H xs (vs.map (·.2))) (hi : nm[i]? = some f) (hx : xs[i]? = some v) : ∃ w, vs.lookup f = some w ∧ Rv (xfw X tbl) H v w := by
  obtain ⟨w, hw, rw'⟩ := r.get hx
  have hlt := (List.getElem?_eq_some_iff.mp hx).1
  rw [List.getElem?_map, Option.map_eq_some_iff] at hw
  obtain ⟨⟨g, w'⟩, hq, rfl⟩ := hw
  have hg : (vs.map (·.1))[i]? = some g := by rw [List.getElem?_map, hq]; rfl
  rw [hn, List.getElem?_take_of_lt hlt, hi] at hg
  obtain rfl := Option.some.inj hg
  exact ⟨w', lookup_at (by rw [hn]; exact nd_take T.nd _) hq, rw'⟩
theorem qe_fld (T : ClsOk X.K c nm C) (hi : nm[i]? = some f) (he : PE X e (liftE (xfw X tbl) te)) (hb : attributeBase e f X.env (eval e X.env) = eval e X.env := by rfl) : PE X (.Attribute e f pos) (liftE (xfw X tbl) (dFld c nm i te)) :=
  PE.imp (pe_fld he hb) fun σ H Q ⟨δ, S, Q0, hr, hs, h, hq⟩ => ⟨δ, S, _, hr, hs, h, fun x S1 v H1 h1 r1 s1 a1 => by
    obtain ⟨a, xs, rfl, e1, w, hw, hq0⟩ := h1
    cases r1
    obtain ⟨dx, vs, eH, h2, h3, r⟩ := ins_of T s1 e1
    obtain ⟨u, hu, ru⟩ := fld_at T h2 r hi hw
    exact ⟨a, C, dx, vs, u, rfl, eH, T.cl, T.no f (List.mem_of_getElem? hi), hu, hq _ _ _ _ hq0 ru s1 a1⟩⟩
theorem put_ins (T : ClsOk X.K c nm C) {vs : List (Str × V)} {y : D} {w : V} {dx : Addr} (hs : Sim (xfw X tbl) S H) (e : S a = some (.ins c nm xs)) (hn : vs.map (·.1) = nm.take xs.length) (hl : xs.length ≤ nm.length) (r : RvL (xfw X tbl) H xs (vs.map (·.2)))
    (hi : nm[i]? = some f) (hx : i ≤ xs.length) (ry : Rv (xfw X tbl) H y w) : Ro (xfw X tbl) (upd H a (.ins C dx (putF f w vs))) (.ins c nm (putX xs i y)) a := by
  have st := Stp.write (d := .ins c nm (putX xs i y)) (o := .ins C dx (putF f w vs)) hs e
  have hnl := (List.getElem?_eq_some_iff.mp hi).1
  have hvl : vs.length = xs.length := by
    have := congrArg List.length hn
    rw [List.length_map, List.length_take] at this
    omega
  refine ⟨C, dx, putF f w vs, upd_same, ⟨T.at_, ?_, ?_⟩, ?_⟩
  · unfold putX
    by_cases q : i < xs.length
    · have hg : (vs.map (·.1))[i]? = some f := by rw [hn, List.getElem?_take_of_lt q]; exact hi
      rw [if_pos q, putF_at (by rw [hn]; exact nd_take T.nd _) hg, List.length_set, List.map_set, ← hn]
      refine List.ext_getElem? fun j => ?_
      rw [List.getElem?_set]
      split
      · next z => subst z; split
                  · exact hg.symm
                  · next z => rw [List.getElem?_eq_none (by omega)]
      · rfl
    · have hi' : i = xs.length := by omega
      have hf : f ∉ vs.map (·.1) := by
        rw [hn]
        intro z
        obtain ⟨j, hj⟩ := List.mem_iff_getElem?.mp z
        have hjl := (List.getElem?_eq_some_iff.mp hj).1
        rw [List.length_take] at hjl
        rw [List.getElem?_take_of_lt (by omega)] at hj
        have := (List.getElem?_inj hnl T.nd).mp (hi.trans hj.symm)
        omega
      rw [if_neg q, putF_new hf, List.length_append, List.map_append, hn]
      show _ ++ [f] = nm.take (xs.length + 1)
      rw [List.take_add_one, ← hi', hi]; rfl
  · unfold putX
    split
    · rw [List.length_set]; exact hl
    · rw [List.length_append, List.length_singleton]; omega
  · unfold putX
    by_cases q : i < xs.length
    · have hg : (vs.map (·.1))[i]? = some f := by rw [hn, List.getElem?_take_of_lt q]; exact hi
      have e2 : (putF f w vs).map (·.2) = (vs.map (·.2)).set i w := by rw [putF_at (by rw [hn]; exact nd_take T.nd _) hg, List.map_set]
      rw [if_pos q, e2]
      exact (st.rvl r).set (st.rv ry) i
    · have hi' : i = xs.length := by omega
      have hf : f ∉ vs.map (·.1) := by
        rw [hn]
        intro z
        obtain ⟨j, hj⟩ := List.mem_iff_getElem?.mp z
        have hjl := (List.getElem?_eq_some_iff.mp hj).1
        rw [List.length_take] at hjl
        rw [List.getElem?_take_of_lt (by omega)] at hj
        have := (List.getElem?_inj hnl T.nd).mp (hi.trans hj.symm)
        omega
      have e2 : (putF f w vs).map (·.2) = vs.map (·.2) ++ [w] := by rw [putF_new hf, List.map_append]; rfl
      rw [if_neg q, e2]
      exact (st.rvl r).append (.cons (st.rv ry) .nil)
theorem vs_len {vs : List (Str × V)} (T : ClsOk X.K c nm C) (hn : vs.map (·.1) = nm.take xs.length) : vs.length < 1000 := by
  have := congrArg List.length hn
  rw [List.length_map, List.length_take] at this
  have := T.ln
  omega
theorem qs_setF (T : ClsOk X.K c nm C) (hi : nm[i]? = some f) (ho : PE X o (liftE (xfw X tbl) to)) (hv : PE X value (liftE (xfw X tbl) te)) (hs : swapsWith value (some (.Attribute o f pos')) pos.line X.env = pure false := by rfl) :
    PS X (.Assign [.Attribute o f pos'] value pos) (liftS (xfw X tbl) (dSetF c nm i to te)) :=
  PS.imp (ps_fld ho hv hs) fun E σ H ⟨δ, S, D0, hr, hsm, h, cv⟩ => ⟨δ, S, _, hr, hsm, h, fun y S1 w H1 h1 r1 s1 a1 => ⟨δ, S1, _, hr.stp a1, s1, h1, fun x S2 v H2 h2 r2 s2 a2 => by
    obtain ⟨a, xs, rfl, e1, hx, hq0⟩ := h2
    cases r2
    obtain ⟨dx, vs, eH, g2, g3, r⟩ := ins_of T s2 e1
    have st := Stp.write (d := .ins c nm (putX xs i y)) (o := .ins C dx (putF f w vs)) s2 e1
    exact ⟨a, C, dx, vs, rfl, eH, T.cl, T.no f (List.mem_of_getElem? hi), vs_len T g2, cv.nx _ _ _ _ hq0 (hr.stp ((a1.trans a2).trans st)) (s2.write e1 (put_ins T s2 e1 g2 g3 r hi hx (a2.rv r1))) ((a1.trans a2).trans st)⟩⟩⟩
theorem qs_augF {op : Operator} {r : DR2} (T : ClsOk X.K c nm C) (hi : nm[i]? = some f) (ho : PE X o (liftE (xfw X tbl) to)) (hv : PE X value (liftE (xfw X tbl) te)) (hop : OpR X (inplaceOp op) (liftO (xfw X tbl) r)) :
    PS X (.AugAssign (.Attribute o f tpos) op value pos) (liftS (xfw X tbl) (dAugF c nm i to te r)) :=
  PS.imp (ps_fldaug (rd := liftO (xfw X tbl) r) ho hv fun pins s σ H x y u v Q I rx ry h => hop pins s σ H x y u v Q I rx ry h) fun E σ H ⟨δ, S, D0, hr, hsm, h, cv⟩ => ⟨δ, S, _, hr, hsm, h, fun x S1 v H1 h1 r1 s1 a1 => by
    obtain ⟨a, xs, rfl, e1, w, hw, hq0⟩ := h1
    cases r1
    obtain ⟨dx, vs, eH, g2, g3, rr⟩ := ins_of T s1 e1
    obtain ⟨u, hu, ru⟩ := fld_at T g2 rr hi hw
    refine ⟨a, C, dx, vs, u, rfl, eH, T.cl, T.no f (List.mem_of_getElem? hi), hu, δ, S1, _, hr.stp a1, s1, hq0, fun y S2 yv H2 h2 r2 s2 a2 => ⟨w, y, S2, _, a2.rv ru, r2, s2, h2, fun z S3 zv H3 h3 r3 s3 a3 => ?_⟩⟩
    obtain ⟨ys, e3, hy, hq3⟩ := h3
    obtain ⟨dx', vs', eH', g2', g3', rr'⟩ := ins_of T s3 e3
    have hp : putX ys i z = ys.set i z := if_pos hy
    have st := Stp.write (d := .ins c nm (ys.set i z)) (o := .ins C dx' (putF f zv vs')) s3 e3
    have A := ((a1.trans a2).trans a3).trans st
    exact ⟨dx', vs', eH', vs_len T g2', cv.nx _ _ _ _ hq3 (hr.stp A) (s3.write e3 (by rw [← hp]; exact put_ins T s3 e3 g2' g3' rr' hi (Nat.le_of_lt hy) r3)) A⟩⟩
variable {k np : Nat} {g : Addr} {fd : FuncData} {ps : List Str} {r : DF} {t : DA}
theorem lift_meth (T : ClsOk X.K c nm C) (hm : m ∉ nm) (hn : ∀ ds S Q, r ds S Q → ds.length = np) : ∀ σ H Q, liftE (xfw X tbl) (dMeth c nm r to t) σ H Q → tMeth C m (liftF (xfw X tbl) np r) [] E0 (liftE (xfw X tbl) to) (liftA (xfw X tbl) t) σ H Q :=
  fun σ H Q ⟨δ, S, Q0, hr, hs, h, hq⟩ => ⟨δ, S, _, hr, hs, h, fun x S1 v H1 h1 r1 s1 a1 => by
    obtain ⟨a, xs, rfl, e1, hq0⟩ := h1
    have r1' := r1
    cases r1
    obtain ⟨dx, vs, eH, g2, g3, rr⟩ := ins_of T s1 e1
    refine ⟨a, dx, vs, rfl, eH, lookup_none (by rw [g2]; exact fun z => hm (List.mem_of_mem_take z)), δ, S1, _, hr.stp a1, s1, hq0, fun ds S2 ws H2 h2 r2 s2 a2 => ?_⟩
    show liftF (xfw X tbl) np r (_ :: (ws ++ [])) H2 Q E0
    rw [List.append_nil]
    refine ⟨?_, .ref a :: ds, S2, _, .cons (a2.rv r1') r2, s2, h2, fun d S' v H' q r s b => hq d S' v H' q r s ((a1.trans a2).trans b)⟩
    rw [List.length_cons, ← r2.length]
    exact hn _ _ _ h2⟩
theorem qe_meth {pl : Sem Bool} (T : ClsOk X.K c nm C) (hm : Meth X.K C m g) (hmn : m ∉ nm) (hn : ∀ ds S Q, r ds S Q → ds.length = np) (F : FnOk X.prog X.w X.K X.mg X.base CX0 k g fd ps (liftF (xfw X tbl) np r)) (hr : Room k X.A) (hb : Binds X.K fd ps [])
    (ho : PE X o (liftE (xfw X tbl) to)) (ha : PA X (e :: es) (liftA (xfw X tbl) t)) (hst : starEach (e :: es) X.env = (false, eval e X.env) :: starEach es X.env := by rfl) (hpl : (backTo pos (starEach es X.env)).any (·.1) = false := by rfl)
    (ht : eval (.Call (.Attribute o m apos) (e :: es) [] pos) X.env = (do
      let ov ← eval o X.env
      standAt apos.atName
      let (f, first) ← holding [ov] (getMethod ov m pl)
      callWith pos f first (backTo pos (starEach (e :: es) X.env)) (backToKw pos (keywordEach [] X.env))) := by rfl) :
    PE X (.Call (.Attribute o m apos) (e :: es) [] pos) (liftE (xfw X tbl) (dMeth c nm r to t)) := PE.imp (pe_meth ho T.cl hm F hr hb .nil pass0 ha hst hpl ht) (lift_meth T hmn hn)
theorem qe_meth0 {pl : Sem Bool} (T : ClsOk X.K c nm C) (hm : Meth X.K C m g) (hmn : m ∉ nm) (hn : ∀ ds S Q, r ds S Q → ds.length = np) (F : FnOk X.prog X.w X.K X.mg X.base CX0 k g fd ps (liftF (xfw X tbl) np r)) (hr : Room k X.A) (hb : Binds X.K fd ps [])
    (ho : PE X o (liftE (xfw X tbl) to))
    (ht : eval (.Call (.Attribute o m apos) [] [] pos) X.env = (do
      let ov ← eval o X.env
      standAt apos.atName
      let (f, first) ← holding [ov] (getMethod ov m pl)
      callWith pos f first (backTo pos (starEach [] X.env)) (backToKw pos (keywordEach [] X.env))) := by rfl) :
    PE X (.Call (.Attribute o m apos) [] [] pos) (liftE (xfw X tbl) (dMeth c nm r to dNil)) := PE.imp (pe_meth0 ho T.cl hm F hr hb .nil pass0 ht) fun σ H Q h => by
  obtain ⟨δ, S, Q1, a1, a2, a3, a4⟩ := lift_meth T hmn hn σ H Q h
  refine ⟨δ, S, Q1, a1, a2, a3, fun x S1 v H1 h1 r1 s1 b1 => ?_⟩
  obtain ⟨a, dx, vs, ex, eH, hl, δ', S', Q', c1, c2, c3, c4⟩ := a4 x S1 v H1 h1 r1 s1 b1
  exact ⟨a, dx, vs, ex, eH, hl, c4 [] S' [] _ c3 .nil c2 (.refl _ _)⟩
theorem lift_make (T : ClsOk X.K c nm C) (hn : ∀ ds S Q, r ds S Q → ds.length = np) : ∀ σ H Q, liftE (xfw X tbl) (dMake c nm r t) σ H Q → tMake C (liftF (xfw X tbl) np r) [] E0 (liftA (xfw X tbl) t) σ H Q :=
  fun σ H Q ⟨δ, S, Q0, hr, hs, h, hq⟩ => ⟨δ, S, _, hr, hs, h, fun ds S1 ws H1 h1 r1 s1 a1 x dx hx hd hne => by
    have sx := s1.fresh hx
    have b1 : Stp S1 H1 S1 (upd H1 dx (.own x)) := Stp.laid hd
    have s2 := s1.laid (o := .own x) hd
    have hx2 : upd H1 dx (.own x) x = none := (upd_ne (Ne.symm hne)).trans hx
    have b2 : Stp S1 (upd H1 dx (.own x)) (dupd S1 x (.ins c nm [])) (upd (upd H1 dx (.own x)) x (.ins C dx [])) := Stp.new hx2
    have s3 := s2.new (d := .ins c nm []) (o := .ins C dx []) hx2 ⟨C, dx, [], upd_same, ⟨T.at_, rfl, Nat.zero_le _⟩, .nil⟩
    have h2 := h1 x sx
    show liftF (xfw X tbl) np r (.ref x :: (ws ++ [])) _ _ E0
    rw [List.append_nil]
    refine ⟨?_, .ref x :: ds, _, _, .cons (.ref x) ((b1.trans b2).rvl r1), s3, h2, fun d S' v H' q r s b => ?_⟩
    · rw [List.length_cons, ← r1.length]; exact hn _ _ _ h2
    · obtain ⟨rfl, q⟩ := q
      cases r
      exact ⟨rfl, hq _ _ _ _ q (.ref x) s (((a1.trans b1).trans b2).trans b)⟩⟩
theorem qe_make {x : Str} (T : ClsOk X.K c nm C) (M : Mk X.K C g) (hn : ∀ ds S Q, r ds S Q → ds.length = np) (F : FnOk X.prog X.w X.K X.mg X.base CX0 k g fd ps (liftF (xfw X tbl) np r)) (hr : Room (k + 1) X.A) (hg : Gl X x) (hm : X.mg x = some (.ref C)) (hb : Binds X.K fd ps [])
    (ha : PA X (e :: es) (liftA (xfw X tbl) t)) (hdb : (x == ("__debug__" : Str)) = false := by decide) (he : starEach (e :: es) X.env = (false, eval e X.env) :: starEach es X.env := by rfl) (hpl : (backTo pos (starEach es X.env)).any (·.1) = false := by rfl) :
    PE X (.Call (.Name x p) (e :: es) [] pos) (liftE (xfw X tbl) (dMake c nm r t)) := PE.imp (pe_make M F hr hg hm hb .nil pass0 ha hdb he hpl) (lift_make T hn)
theorem qe_make0 {x : Str} (T : ClsOk X.K c nm C) (M : Mk X.K C g) (hn : ∀ ds S Q, r ds S Q → ds.length = np) (F : FnOk X.prog X.w X.K X.mg X.base CX0 k g fd ps (liftF (xfw X tbl) np r)) (hr : Room (k + 1) X.A) (hg : Gl X x) (hm : X.mg x = some (.ref C)) (hb : Binds X.K fd ps [])
    (hdb : (x == ("__debug__" : Str)) = false := by decide) :
    PE X (.Call (.Name x p) [] [] pos) (liftE (xfw X tbl) (dMake c nm r dNil)) := PE.imp (pe_make0 M F hr hg hm hb .nil pass0 hdb) fun σ H Q h => by
  obtain ⟨δ, S, Q1, a1, a2, a3, a4⟩ := lift_make (t := dNil) T hn σ H Q h
  exact a4 [] S [] H a3 .nil a2 (.refl _ _)
end
end DL
namespace DL
open PySem L2
def Ext (S S' : DS) : Prop := ∀ a o, S a = some o → S' a = some o
def But (d : Addr) (S S' : DS) : Prop := ∀ a o, a ≠ d → S a = some o → S' a = some o
theorem Ext.refl (S : DS) : Ext S S := fun _ _ h => h
theorem Ext.trans {S S1 S2 : DS} (a : Ext S S1) (b : Ext S1 S2) : Ext S S2 := fun c o h => b c o (a c o h)
theorem Ext.get {S S' : DS} {b : Addr} {o : DO} (e : Ext S S') (h : S b = some o) : S' b = some o := e b o h
theorem But.get {S S' : DS} {a b : Addr} {o : DO} (e : But a S S') (n : b ≠ a) (h : S b = some o) : S' b = some o := e b o n h
theorem Ext.back {S S' : DS} {a : Addr} (e : Ext S S') (h : S' a = none) : S a = none := by
  cases q : S a with
  | none => rfl
  | some o => rw [e a o q] at h; cases h
theorem But.back {S S' : DS} {d a : Addr} (e : But d S S') (n : a ≠ d) (h : S' a = none) : S a = none := by
  cases q : S a with
  | none => rfl
  | some o => rw [e a o n q] at h; cases h
theorem Ext.but {S S1 S2 : DS} {a : Addr} (e : Ext S S1) (b : But a S1 S2) (h : S a = none) : Ext S S2 := fun c o q => b c o (dne q h) (e c o q)
theorem But.ext {S S1 S2 : DS} {d : Addr} (e : But d S S1) (b : Ext S1 S2) : But d S S2 := fun c o n q => b c o (e c o n q)
theorem But.trans {S S1 S2 : DS} {d : Addr} (e : But d S S1) (b : But d S1 S2) : But d S S2 := fun c o n q => b c o n (e c o n q)
theorem But.but {S S1 S2 : DS} {d a : Addr} (e : But d S S1) (b : But a S1 S2) (h : S a = none) : But d S S2 := fun c o n q => b c o (dne q h) (e c o n q)
theorem Ext.toBut {S S1 : DS} {d : Addr} (e : Ext S S1) : But d S S1 := fun c o _ q => e c o q
theorem ext_new {S : DS} {p : Addr} {o : DO} (h : S p = none) : Ext S (dupd S p o) := fun a u q => by rw [dupd_ne (dne q h)]; exact q
theorem but_upd {S : DS} {p : Addr} {o : DO} : But p S (dupd S p o) := fun a u n q => by rw [dupd_ne n]; exact q
def asB (x : D) (S : DS) (Q : Bool → DS → Prop) : Prop := match x with
  | .bl k => Q k S
  | _ => False
def asP (x : D) (S : DS) (Q : Option Int → DS → Prop) : Prop := match x with
  | .int i => Q (some i) S
  | _ => False
section
variable {nx bk ct : Loc → DS → Prop} {rt : DK} {δ δ' : Loc} {S S1 : DS} {Q : DK} {QB : Bool → DS → Prop} {QA : List D → DS → Prop} {QL : Loc → DS → Prop} {QO : Option Int → DS → Prop} {E : DEnds} {i j n : Nat} {d x y : D} {a b c : DE} {r r' : DR2} {r1 : DR1} {t u : DT} {as : DA} {st su : DSt} {g : DG} {gs : DGs} {xs ys : List D} {f : DF} {QI : List D → (DS → Prop) → DS → Prop} {tb : DSt} {stay : DS → Prop}
theorem i_var (e : δ[i]? = some (some d)) (h : Q d S) : dVar i δ S Q := ⟨d, e, h⟩
theorem i_c (h : Q d S) : dC d δ S Q := h
theorem i_nil (h : QA [] S) : dNil δ S QA := h
theorem i_cons (h : a δ S fun x S1 => as δ S1 fun xs S2 => QA (x :: xs) S2) : dCons a as δ S QA := h
theorem i_tup (h : as δ S fun xs S1 => xs.length ≤ 16777216 ∧ Q (.tup xs) S1) : dTup as δ S Q := h
def newL (xs : List D) (S : DS) (Q : DK) : Prop := ∀ p, S p = none → Q (.ref p) (dupd S p (.lst xs))
theorem i_newL (h : ∀ p S1, S p = none → S1 p = some (.lst xs) → Ext S S1 → Q (.ref p) S1) : newL xs S Q := fun p hp => h p _ hp dupd_same (ext_new hp)
theorem i_len {P : Prop} (e : Nat.ble xs.length 16777216 = true) (h : P) : xs.length ≤ 16777216 ∧ P := ⟨Nat.le_of_ble_eq_true e, h⟩
theorem i_lst (h : as δ S fun xs S1 => xs.length ≤ 16777216 ∧ newL xs S1 Q) : dLst as δ S Q := h
theorem i_op (h : a δ S fun x S1 => b δ S1 fun y S2 => r x y S2 Q) : dOp r a b δ S Q := h
theorem i_un (h : a δ S fun x S1 => r1 x S1 Q) : dUn r1 a δ S Q := h
theorem i_tb (h : a δ S fun x S1 => asB x S1 QB) : dTb a δ S QB := h
theorem i_asB {k : Bool} (h : QB k S) : asB (.bl k) S QB := h
theorem i_chain (h : a δ S fun x S1 => b δ S1 fun y S2 => r x y S2 fun z S3 => asB z S3 fun k S4 => if k = true then c δ S4 fun w S5 => r' y w S5 Q else Q (.bl false) S4) : dChain r r' a b c δ S Q := h
theorem i_and (h : t δ S fun c S1 => if c = true then u δ S1 QB else QB false S1) : dAnd t u δ S QB := h
theorem i_or (h : t δ S fun c S1 => if c = true then QB true S1 else u δ S1 QB) : dOr t u δ S QB := h
theorem i_not (h : t δ S fun c S1 => QB (!c) S1) : dNot t δ S QB := h
theorem i_andV (h : a δ S fun x S1 => asB x S1 fun c S2 => if c = true then b δ S2 Q else Q (.bl false) S2) : dAndV a b δ S Q := h
theorem i_orV (h : a δ S fun x S1 => asB x S1 fun c S2 => if c = true then Q (.bl true) S2 else b δ S2 Q) : dOrV a b δ S Q := h
theorem i_notV (h : a δ S fun x S1 => asB x S1 fun c S2 => Q (.bl (!c)) S2) : dNotV a δ S Q := h
theorem i_ifE (h : t δ S fun c S1 => if c = true then a δ S1 Q else b δ S1 Q) : dIfE t a b δ S Q := h
theorem i_call (h : as δ S fun ds S1 => f ds S1 Q) : dCall f as δ S Q := h
theorem i_bm {ok : DS → D → Prop} {m : DM} (h : a δ S fun x S1 => ok S1 x ∧ as δ S1 fun xs S2 => m x xs S2 Q) : dBM ok m a as δ S Q := h
theorem i_noPart (h : QO none S) : dNoPart δ S QO := h
theorem i_part (h : a δ S fun x S1 => asP x S1 QO) : dPart a δ S QO := h
theorem i_asP {k : Int} (h : QO (some k) S) : asP (.int k) S QO := h
theorem i_sl {lo hi : DO'} (h : a δ S fun x S1 => lo δ S1 fun l S2 => hi δ S2 fun u S3 => oSl x l u S3 Q) : dSl a lo hi δ S Q := h
theorem i_yes (h : QB true S) : dYes δ S QB := h
theorem i_seq (h : st ⟨fun δ S => su ⟨nx, rt, bk, ct⟩ δ S, rt, bk, ct⟩ δ S) : dSeq st su ⟨nx, rt, bk, ct⟩ δ S := h
theorem i_next (h : nx δ S) : dNext ⟨nx, rt, bk, ct⟩ δ S := h
theorem i_break (h : bk δ S) : dBreak ⟨nx, rt, bk, ct⟩ δ S := h
theorem i_cont (h : ct δ S) : dCont ⟨nx, rt, bk, ct⟩ δ S := h
theorem i_drop (h : a δ S fun _ S1 => nx δ S1) : dDrop a ⟨nx, rt, bk, ct⟩ δ S := h
theorem i_ret (h : a δ S rt) : dRet a ⟨nx, rt, bk, ct⟩ δ S := h
theorem i_retN (h : rt .non S) : dRetN ⟨nx, rt, bk, ct⟩ δ S := h
theorem i_if (h : t δ S fun b S1 => if b = true then st E δ S1 else su E δ S1) : dIf t st su E δ S := h
theorem i_asg (h : a δ S fun x S1 => g x δ S1 nx) : dAsg a g ⟨nx, rt, bk, ct⟩ δ S := h
theorem i_gname (e : δ.set i (some d) = δ') (h : QL δ' S) : dgName i d δ S QL := by subst e; exact h
theorem i_gtupL {p : Addr} (e0 : S p = some (.lst xs)) (e : xs.length = n) (h : gs xs δ S QL) : dgTup n gs (.ref p) δ S QL := by
  have z : lstOf S (.ref p) = some xs := by
    unfold lstOf
    dsimp only
    rw [e0]
  show (match lstOf S (.ref p) with
    | some xs => xs.length = n ∧ gs xs δ S QL
    | none => False)
  rw [z]
  exact ⟨e, h⟩
theorem i_gtup (e : xs.length = n) (h : gs xs δ S QL) : dgTup n gs (.tup xs) δ S QL := ⟨e, h⟩
theorem i_gcons (h : g d δ S fun δ' S' => gs xs δ' S' QL) : dgCons g gs (d :: xs) δ S QL := h
theorem i_gnil (h : QL δ S) : dgNil [] δ S QL := ⟨rfl, h⟩
theorem i_gsub {sr : DSet} (h : a δ S fun o S1 => b δ S1 fun i S2 => sr o i d S2 fun S3 => QL δ S3) : dgSub a b sr d δ S QL := h
def par2 (i j : Nat) (nx : Loc → DS → Prop) (δ : Loc) (ds : List D) (S : DS) : Prop := match ds with
  | [d, e] => nx ((δ.set i (some d)).set j (some e)) S
  | _ => False
theorem i_par (h : as δ S fun ds S1 => par2 i j nx δ ds S1) : dPar i j as ⟨nx, rt, bk, ct⟩ δ S := h
theorem i_par2 (e : (δ.set i (some x)).set j (some y) = δ') (h : nx δ' S) : par2 i j nx δ [x, y] S := by subst e; exact h
theorem i_aug (e : δ[i]? = some (some d)) (h : a δ S fun y S1 => r d y S1 fun z S2 => dgName i z δ S2 nx) : dAug i a r ⟨nx, rt, bk, ct⟩ δ S := ⟨d, e, h⟩
theorem i_augS {rg rp : DR2} {rs : DSet} (h : a δ S fun o S1 => b δ S1 fun i S2 => rg o i S2 fun x S3 => c δ S3 fun y S4 => rp x y S4 fun z S5 => rs o i z S5 fun S6 => nx δ S6) : dAugS a b c rg rp rs ⟨nx, rt, bk, ct⟩ δ S := h
theorem i_for {di : DI} (h : di δ S fun xs stay S1 => forT stay g tb E xs δ S1) : dFor di g tb E δ S := h
theorem i_lc {di : DI} {vs : List Nat} (e : dwipe δ vs = δ') (h : di δ S fun xs stay S1 => lcT stay g t a δ' (fun ys S2 => newL ys S2 Q) xs [] S1) : dLc di g t a vs δ S Q := by subst e; exact h
theorem i_lc2 {di di1 : DI} {g1 : DG} {t1 : DT} {vs vs1 : List Nat} (e : dwipe δ vs = δ') (h : di δ S fun xs stay S1 => lcT2 stay g t di1 g1 t1 a δ' vs1 (fun ys S2 => newL ys S2 Q) xs [] S1) : dLc2 di g t di1 g1 t1 a vs vs1 δ S Q := by subst e; exact h
theorem i_run {F : FnD} {cs : Nat → DF} (e : xs.length = F.np) (el : xs.map some ++ List.replicate (F.nl - F.np) none = δ) (h : F.body cs { nx := fun _ S' => Q .non S', rt := Q, bk := fun _ _ => False, ct := fun _ _ => False } δ S) : runF F cs xs S Q := by subst el; exact ⟨e, h⟩
theorem i_iterT (h : QI xs (fun S' => seqOf S' (.tup xs) = some xs) S) : dIter (dC (.tup xs)) δ S QI := h
def iterV (x : D) (S : DS) (Q : List D → (DS → Prop) → DS → Prop) : Prop := match x with
  | .str z => Q (z.cps.toList.map fun c => D.str ⟨#[c]⟩) (fun _ => True) S
  | x => match dctOf S x with
    | some kvs => Q (kvs.map (·.1)) (fun S' => S' (adr x) = S (adr x)) S
    | none => match seqOf S x with
      | some xs => Q xs (fun S' => seqOf S' x = some xs) S
      | none => False
theorem dct_lst {p : Addr} (e : S p = some (.lst xs)) : dctOf S (.ref p) = none := by
  show (match S p with
    | some (.dct _ kvs) => some kvs
    | _ => none) = none
  rw [e]
theorem dct_ref {p : Addr} {st : DStm} {kvs : List (D × D)} (e : S p = some (.dct st kvs)) : dctOf S (.ref p) = some kvs := by
  show (match S p with
    | some (.dct _ kvs) => some kvs
    | _ => none) = some kvs
  rw [e]
theorem i_iter (h : a δ S fun x S1 => iterV x S1 QI) : dIter a δ S QI := h
theorem i_iterV_tup (h : QI xs (fun S' => seqOf S' (.tup xs) = some xs) S) : iterV (.tup xs) S QI := h
theorem i_iterV_fl (h : QI xs (fun S' => seqOf S' (.fl xs) = some xs) S) : iterV (.fl xs) S QI := h
theorem seq_ref {p : Addr} (e : S p = some (.lst xs)) : seqOf S (.ref p) = some xs := by
  show (match S p with
    | some (.lst xs) => some xs
    | _ => none) = some xs
  rw [e]
theorem lst_ref {p : Addr} (e : S p = some (.lst xs)) : lstOf S (.ref p) = some xs := by
  show (match S p with
    | some (.lst xs) => some xs
    | _ => none) = some xs
  rw [e]
theorem i_iterV_ref {p : Addr} (e : S p = some (.lst xs)) (h : QI xs (fun S' => seqOf S' (.ref p) = some xs) S) : iterV (.ref p) S QI := by
  show (match dctOf S (.ref p) with
    | some kvs => QI (kvs.map (·.1)) (fun S' => S' (adr (.ref p)) = S (adr (.ref p))) S
    | none => match seqOf S (.ref p) with
      | some xs => QI xs (fun S' => seqOf S' (.ref p) = some xs) S
      | none => False)
  rw [dct_lst e, seq_ref e]
  exact h
theorem i_iterV_dct {p : Addr} {st : DStm} {kvs : List (D × D)} (e : S p = some (.dct st kvs)) (h : QI (kvs.map (·.1)) (fun S' => S' p = some (.dct st kvs)) S) : iterV (.ref p) S QI := by
  show (match dctOf S (.ref p) with
    | some kvs => QI (kvs.map (·.1)) (fun S' => S' p = S p) S
    | none => match seqOf S (.ref p) with
      | some xs => QI xs (fun S' => seqOf S' (.ref p) = some xs) S
      | none => False)
  rw [dct_ref e, e]
  exact h
theorem oIx_lst {p : Addr} (e : S p = some (.lst xs)) (h : oIx0 (.ref p) y S Q) : oIx (.ref p) y S Q := by unfold oIx; rw [dct_lst e]; exact h
theorem oIn_lst {p : Addr} {neg : Bool} (e : S p = some (.lst xs)) (h : oIn0 neg x (.ref p) S Q) : oIn neg x (.ref p) S Q := by unfold oIn; rw [dct_lst e]; exact h
theorem sIx_lst {p : Addr} {QS : DS → Prop} {i v : D} (e : S p = some (.lst xs)) (h : sIx0 (.ref p) i v S QS) : sIx (.ref p) i v S QS := by unfold sIx; rw [dct_lst e]; exact h
theorem bLen_lst {p : Addr} (e : S p = some (.lst xs)) (h : bLen0 [.ref p] S Q) : bLen [.ref p] S Q := by unfold bLen; dsimp only; rw [dct_lst e]; exact h
theorem bList_lst {p : Addr} (e : S p = some (.lst xs)) (h : bList0 [.ref p] S Q) : bList [.ref p] S Q := by unfold bList; dsimp only; rw [dct_lst e]; exact h
/-- a new dict, a dict with another content -/
def newT (S : DS) (Q : DK) : Prop := ∀ p st, S p = none → Q (.ref p) (dupd S p (.dct st []))
theorem i_newT (h : ∀ p st S1, S p = none → S1 p = some (.dct st []) → Ext S S1 → Q (.ref p) S1) : newT S Q := fun p st hp => h p st _ hp dupd_same (ext_new hp)
theorem i_dct0 (h : newT S Q) : dDct0 δ S Q := h
def putD (p : Addr) (kvs : List (D × D)) (S : DS) (Q : DS → Prop) : Prop := ∀ st, Q (dupd S p (.dct st kvs))
theorem i_putD {p : Addr} {kvs : List (D × D)} {QS : DS → Prop} (h : ∀ st S1, S1 p = some (.dct st kvs) → But p S S1 → QS S1) : putD p kvs S QS := fun st => h st _ dupd_same but_upd
theorem o_ixD {p : Addr} {st : DStm} {kvs : List (D × D)} {v : D} (e : S p = some (.dct st kvs)) (hk : kOk kvs y) (hg : dget kvs y = some v) (h : Q v S) : oIx (.ref p) y S Q := by unfold oIx; rw [dct_ref e]; exact ⟨hk, v, hg, h⟩
theorem o_ixAD {p : Addr} {st : DStm} {kvs : List (D × D)} {v : D} (e : S p = some (.dct st kvs)) (hk : kOk kvs y) (hg : dget kvs y = some v) (h : Q v S) : oIxA (.ref p) y S Q := by unfold oIxA; rw [dct_ref e]; exact ⟨hk, v, hg, h⟩
theorem s_ixD {p : Addr} {st : DStm} {kvs : List (D × D)} {QS : DS → Prop} {v : D} (e : S p = some (.dct st kvs)) (hk : kOk kvs y) (hl : kvs.length < 16777216) (h : putD p (dput kvs y v) S QS) : sIx (.ref p) y v S QS := by unfold sIx; rw [dct_ref e]; exact ⟨⟨hk, hl⟩, h⟩
theorem o_inD {p : Addr} {st : DStm} {kvs : List (D × D)} {neg : Bool} (e : S p = some (.dct st kvs)) (hk : kOk kvs x) (h : Q (.bl (neg ^^ (dget kvs x).isSome)) S) : oIn neg x (.ref p) S Q := by unfold oIn; rw [dct_ref e]; exact ⟨hk, h⟩
theorem c_lenD {p : Addr} {st : DStm} {kvs : List (D × D)} (e : S p = some (.dct st kvs)) (h : Q (.int kvs.length) S) : bLen [.ref p] S Q := by unfold bLen; dsimp only; rw [dct_ref e]; exact h
theorem c_listD {p : Addr} {st : DStm} {kvs : List (D × D)} (e : S p = some (.dct st kvs)) (h : newL (kvs.map (·.1)) S Q) : bList [.ref p] S Q := by unfold bList; dsimp only; rw [dct_ref e]; exact h
theorem ok_D {p : Addr} {st : DStm} {kvs : List (D × D)} {PP : Prop} (e : S p = some (.dct st kvs)) (h : PP) : okDct S (.ref p) ∧ PP := ⟨by unfold okDct; rw [dct_ref e]; rfl, h⟩
theorem m_get1 {p : Addr} {st : DStm} {kvs : List (D × D)} (e : S p = some (.dct st kvs)) (hk : kOk kvs y) (h : Q ((dget kvs y).getD .non) S) : mGet (.ref p) [y] S Q := by unfold mGet; rw [dct_ref e]; exact ⟨hk, h⟩
theorem m_get2 {p : Addr} {st : DStm} {kvs : List (D × D)} (e : S p = some (.dct st kvs)) (hk : kOk kvs y) (h : Q ((dget kvs y).getD x) S) : mGet (.ref p) [y, x] S Q := by unfold mGet; rw [dct_ref e]; exact ⟨hk, h⟩
def rng1V (ds : List D) (S : DS) (Q : List D → (DS → Prop) → DS → Prop) : Prop := match ds with
  | [.int j] => (-(2 ^ 62) ≤ j ∧ j < 2 ^ 62) ∧ Q (rngL 0 j.toNat) (fun _ => True) S
  | _ => False
def rng2V (ds : List D) (S : DS) (Q : List D → (DS → Prop) → DS → Prop) : Prop := match ds with
  | [.int i, .int j] => (-(2 ^ 62) ≤ i ∧ i < 2 ^ 62 ∧ -(2 ^ 62) ≤ j ∧ j < 2 ^ 62) ∧ Q (rngL i (j - i).toNat) (fun _ => True) S
  | _ => False
theorem i_rng1 (h : as δ S fun ds S1 => rng1V ds S1 QI) : dRng1 as δ S QI := h
theorem i_rng1V {k : Int} (hb : -(2 ^ 62) ≤ k ∧ k < 2 ^ 62) (h : QI (rngL 0 k.toNat) (fun _ => True) S) : rng1V [.int k] S QI := ⟨hb, h⟩
theorem i_rng2 (h : as δ S fun ds S1 => rng2V ds S1 QI) : dRng2 as δ S QI := h
theorem i_rng2V {k l : Int} (hb : -(2 ^ 62) ≤ k ∧ k < 2 ^ 62 ∧ -(2 ^ 62) ≤ l ∧ l < 2 ^ 62) (h : QI (rngL k (l - k).toNat) (fun _ => True) S) : rng2V [.int k, .int l] S QI := ⟨hb, h⟩
def revV (x : D) (S : DS) (Q : List D → (DS → Prop) → DS → Prop) : Prop := match seqOf S x with
  | some xs => Q xs.reverse (fun S' => seqOf S' x = some xs) S
  | none => False
theorem i_rev (h : a δ S fun x S1 => revV x S1 QI) : dRev a δ S QI := h
theorem i_revV (e : seqOf S x = some xs) (h : QI xs.reverse (fun S' => seqOf S' x = some xs) S) : revV x S QI := by unfold revV; rw [e]; exact h
def enumV (ds : List D) (S : DS) (Q : List D → (DS → Prop) → DS → Prop) : Prop := match ds with
  | [.tup xs] => Q (numL xs) (fun _ => True) S
  | [x] => match lstOf S x with
    | some xs => Q (numL xs) (fun S' => lstOf S' x = some xs) S
    | none => False
  | _ => False
theorem i_enum (h : as δ S fun ds S1 => enumV ds S1 QI) : dEnum as δ S QI := h
theorem i_enumT (h : QI (numL xs) (fun _ => True) S) : enumV [.tup xs] S QI := h
theorem i_enumV (e : lstOf S x = some xs) (h : QI (numL xs) (fun S' => lstOf S' x = some xs) S) : enumV [x] S QI := by
  have gen : (match lstOf S x with
    | some xs => QI (numL xs) (fun S' => lstOf S' x = some xs) S
    | none => False) := by rw [e]; exact h
  cases x with
  | tup _ => cases e
  | _ => exact gen
variable {k l : Int} {p q : Addr} {z w : Str}
theorem o_addI (h : Q (.int (k + l)) S) : oAdd (.int k) (.int l) S Q := h
theorem o_addS (hl : z.length + w.length ≤ 16777216) (h : Q (.str (z ++ w)) S) : oAdd (.str z) (.str w) S Q := ⟨hl, h⟩
theorem o_addT (hl : xs.length + ys.length ≤ 16777216) (h : Q (.tup (xs ++ ys)) S) : oAdd (.tup xs) (.tup ys) S Q := ⟨hl, h⟩
theorem o_addL (e1 : S p = some (.lst xs)) (e2 : S q = some (.lst ys)) (hl : xs.length + ys.length ≤ 16777216) (h : newL (xs ++ ys) S Q) : oAdd (.ref p) (.ref q) S Q := by
  show (match S p, S q with
    | some (.lst xs), some (.lst ys) => xs.length + ys.length ≤ 16777216 ∧ ∀ p, S p = none → Q (.ref p) (dupd S p (.lst (xs ++ ys)))
    | _, _ => False)
  rw [e1, e2]; exact ⟨hl, h⟩
theorem o_subI (h : Q (.int (k - l)) S) : oSub (.int k) (.int l) S Q := h
theorem o_mulI (hl : k.natAbs.log2 + l.natAbs.log2 < 1000000) (h : Q (.int (k * l)) S) : oMul (.int k) (.int l) S Q := ⟨hl, h⟩
theorem o_mulL (e : S p = some (.lst xs)) (hl : -(2 ^ 63) ≤ k ∧ k < 2 ^ 63 ∧ xs.length * k.toNat ≤ 16777216) (h : newL (List.replicate k.toNat xs).flatten S Q) : oMul (.ref p) (.int k) S Q := by
  show (match S p with
    | some (.lst xs) => (-(2 ^ 63) ≤ k ∧ k < 2 ^ 63 ∧ xs.length * k.toNat ≤ 16777216) ∧ ∀ p, S p = none → Q (.ref p) (dupd S p (.lst (List.replicate k.toNat xs).flatten))
    | _ => False)
  rw [e]; exact ⟨hl, h⟩
theorem o_mulT (h1 : xs ≠ []) (h2 : 1 ≤ k) (h3 : k ≤ 1000) (h4 : xs.length ≤ 1000) (h : Q (.tup (List.replicate k.toNat xs).flatten) S) : oMul (.tup xs) (.int k) S Q := ⟨⟨h1, h2, h3, h4⟩, h⟩
theorem o_fdvI (hl : 0 < l ∧ l.natAbs.log2 < 9000) (h : Q (.int (k / l)) S) : oFdv (.int k) (.int l) S Q := ⟨hl, h⟩
theorem o_modI (hl : 0 < l) (h : Q (.int (k % l)) S) : oMod (.int k) (.int l) S Q := ⟨hl, h⟩
theorem o_powI (hl : 0 ≤ l ∧ l ≤ 1000000 ∧ k.natAbs < 2 ^ 64) (h : Q (.int (k ^ l.toNat)) S) : oPow (.int k) (.int l) S Q := ⟨hl, h⟩
theorem o_shlI (hl : 0 ≤ l ∧ l ≤ 1000000 ∧ k.natAbs < 2 ^ 64) (h : Q (.int (k * 2 ^ l.toNat)) S) : oShl (.int k) (.int l) S Q := ⟨hl, h⟩
theorem o_bitI {f : Int → Int → Int} (h : Q (.int (f k l)) S) : oBit f (.int k) (.int l) S Q := h
theorem o_neg (h : Q (.int (-k)) S) : uNeg (.int k) S Q := h
theorem o_cmpI {o : COp} (h : Q (.bl (o.int k l)) S) : oCmp o (.int k) (.int l) S Q := h
theorem o_ltI (h : Q (.bl (decide (k < l))) S) : oCmp .lt (.int k) (.int l) S Q := h
theorem o_leI (h : Q (.bl (decide (k ≤ l))) S) : oCmp .le (.int k) (.int l) S Q := h
theorem o_gtI (h : Q (.bl (decide (l < k))) S) : oCmp .gt (.int k) (.int l) S Q := h
theorem o_geI (h : Q (.bl (decide (l ≤ k))) S) : oCmp .ge (.int k) (.int l) S Q := h
theorem eqv_int : D.eqv (.int k) (.int l) = decide (k = l) := by unfold D.eqv; rw [D.py, D.py, PyData.eqv]; rw [Bool.eq_iff_iff]; simp
theorem eqv_str : D.eqv (.str z) (.str w) = decide (z = w) := by unfold D.eqv; rw [D.py, D.py, PyData.eqv]; rw [Bool.eq_iff_iff]; simp
theorem eqv_bl {b c : Bool} : D.eqv (.bl b) (.bl c) = (b == c) := by unfold D.eqv; rw [D.py, D.py, PyData.eqv]
theorem plain_int : (D.int k).plain = true := by rw [D.plain]
theorem plain_str : (D.str z).plain = true := by rw [D.plain]
theorem plain_bl {b : Bool} : (D.bl b).plain = true := by rw [D.plain]
theorem plain_non : D.non.plain = true := by rw [D.plain]
/-- == of things without mutable parts -/
theorem o_eqP {neg : Bool} (hx : x.plain = true) (hy : y.plain = true) (hd : x.dep ≤ 50 ∨ y.dep ≤ 50) (h : Q (.bl (neg ^^ D.eqv x y)) S) : oEq neg x y S Q := by
  unfold oEq
  rw [D.rd_plain x 4 hx, D.rd_plain y 4 hy]
  exact ⟨⟨hx, hy, hd⟩, h⟩
theorem rdL_plain {xs : List D} {n : Nat} (h : D.plainL xs = true) : xs.map (D.rd S n) = xs := by
  have : ∀ y ∈ xs, D.rd S n y = y := fun y hy => D.rd_plain y n (D.plainL_mem h y hy)
  exact (List.map_congr_left this).trans (List.map_id' xs)
theorem o_inT {neg : Bool} (hx : x.plain = true) (hxs : D.plainL xs = true) (hd : x.dep ≤ 50) (h : Q (.bl (neg ^^ xs.any fun e => D.eqv e x)) S) : oIn neg x (.tup xs) S Q := by
  show (((x.rd S 3).plain = true ∧ D.plainL (xs.map (D.rd S 3)) = true ∧ (x.rd S 3).dep ≤ 50) ∧ Q (.bl (neg ^^ (xs.map (D.rd S 3)).any fun e => D.eqv e (x.rd S 3))) S)
  rw [D.rd_plain x 3 hx, rdL_plain hxs]
  exact ⟨⟨hx, hxs, hd⟩, h⟩
theorem o_inL {neg : Bool} (e : S p = some (.lst xs)) (hx : x.plain = true) (hxs : D.plainL xs = true) (hd : x.dep ≤ 50) (h : Q (.bl (neg ^^ xs.any fun e => D.eqv e x)) S) : oIn neg x (.ref p) S Q := by
  refine oIn_lst e ?_
  show (match seqOf S (.ref p) with
    | some xs => ((x.rd S 3).plain = true ∧ D.plainL (xs.map (D.rd S 3)) = true ∧ (x.rd S 3).dep ≤ 50) ∧ Q (.bl (neg ^^ (xs.map (D.rd S 3)).any fun e => D.eqv e (x.rd S 3))) S
    | none => False)
  rw [seq_ref e]
  show (((x.rd S 3).plain = true ∧ D.plainL (xs.map (D.rd S 3)) = true ∧ (x.rd S 3).dep ≤ 50) ∧ Q (.bl (neg ^^ (xs.map (D.rd S 3)).any fun e => D.eqv e (x.rd S 3))) S)
  rw [D.rd_plain x 3 hx, rdL_plain hxs]
  exact ⟨⟨hx, hxs, hd⟩, h⟩
theorem plainL_strs : ∀ zs : List Str, D.plainL (zs.map D.str) = true
  | [] => by rw [List.map_nil, D.plainL]
  | z :: zs => by rw [List.map_cons, D.plainL, plainL_strs zs, plain_str]; rfl
theorem plainL_ints : ∀ zs : List Int, D.plainL (zs.map D.int) = true
  | [] => by rw [List.map_nil, D.plainL]
  | z :: zs => by rw [List.map_cons, D.plainL, plainL_ints zs, plain_int]; rfl
theorem any_strs {z : Str} : ∀ zs : List Str, ((zs.map D.str).any fun e => D.eqv e (.str z)) = decide (z ∈ zs)
  | [] => rfl
  | y :: zs => by
    rw [List.map_cons, List.any_cons, any_strs zs, eqv_str, Bool.eq_iff_iff, Bool.or_eq_true, decide_eq_true_iff, decide_eq_true_iff, decide_eq_true_iff, List.mem_cons]
    exact or_congr eq_comm Iff.rfl
theorem any_ints {z : Int} : ∀ zs : List Int, ((zs.map D.int).any fun e => D.eqv e (.int z)) = decide (z ∈ zs)
  | [] => rfl
  | y :: zs => by
    rw [List.map_cons, List.any_cons, any_ints zs, eqv_int, Bool.eq_iff_iff, Bool.or_eq_true, decide_eq_true_iff, decide_eq_true_iff, decide_eq_true_iff, List.mem_cons]
    exact or_congr eq_comm Iff.rfl
theorem dep_str0 {z : Str} : (D.str z).dep ≤ 50 := by rw [D.dep]; decide
theorem dep_int0 {z : Int} : (D.int z).dep ≤ 50 := by rw [D.dep]; decide
theorem o_inS (zs : List Str) (h : Q (.bl (decide (z ∈ zs))) S) : oIn false (.str z) (.tup (zs.map D.str)) S Q := o_inT plain_str (plainL_strs zs) dep_str0 (by rw [Bool.false_xor, any_strs]; exact h)
theorem o_notinS (zs : List Str) (h : Q (.bl (!decide (z ∈ zs))) S) : oIn true (.str z) (.tup (zs.map D.str)) S Q := o_inT plain_str (plainL_strs zs) dep_str0 (by rw [Bool.true_xor, any_strs]; exact h)
theorem o_inI (zs : List Int) (h : Q (.bl (decide (k ∈ zs))) S) : oIn false (.int k) (.tup (zs.map D.int)) S Q := o_inT plain_int (plainL_ints zs) dep_int0 (by rw [Bool.false_xor, any_ints]; exact h)
theorem o_notinI (zs : List Int) (h : Q (.bl (!decide (k ∈ zs))) S) : oIn true (.int k) (.tup (zs.map D.int)) S Q := o_inT plain_int (plainL_ints zs) dep_int0 (by rw [Bool.true_xor, any_ints]; exact h)
theorem o_inIL (zs : List Int) (e : S p = some (.lst (zs.map D.int))) (h : Q (.bl (decide (k ∈ zs))) S) : oIn false (.int k) (.ref p) S Q := o_inL e plain_int (plainL_ints zs) dep_int0 (by rw [Bool.false_xor, any_ints]; exact h)
theorem o_notinIL (zs : List Int) (e : S p = some (.lst (zs.map D.int))) (h : Q (.bl (!decide (k ∈ zs))) S) : oIn true (.int k) (.ref p) S Q := o_inL e plain_int (plainL_ints zs) dep_int0 (by rw [Bool.true_xor, any_ints]; exact h)
theorem plainL_bls : ∀ zs : List Bool, D.plainL (zs.map D.bl) = true
  | [] => by rw [List.map_nil, D.plainL]
  | z :: zs => by rw [List.map_cons, D.plainL, plainL_bls zs, plain_bl]; rfl
theorem any_bls {z : Bool} : ∀ zs : List Bool, ((zs.map D.bl).any fun e => D.eqv e (.bl z)) = decide (z ∈ zs)
  | [] => rfl
  | y :: zs => by
    rw [List.map_cons, List.any_cons, any_bls zs, eqv_bl, Bool.eq_iff_iff, Bool.or_eq_true, beq_iff_eq, decide_eq_true_iff, decide_eq_true_iff, List.mem_cons]
    exact or_congr eq_comm Iff.rfl
theorem o_inBL {z : Bool} {zs : List Bool} (neg : Bool) (e : S p = some (.lst (zs.map D.bl))) (h : Q (.bl (neg ^^ decide (z ∈ zs))) S) : oIn neg (.bl z) (.ref p) S Q := o_inL e plain_bl (plainL_bls zs) (by rw [D.dep]; decide) (by rw [any_bls]; exact h)
theorem dep_int : (D.int k).dep ≤ 50 := by rw [D.dep]; decide
theorem dep_str : (D.str z).dep ≤ 50 := by rw [D.dep]; decide
theorem dep_bl {b : Bool} : (D.bl b).dep ≤ 50 := by rw [D.dep]; decide
theorem dep_non : D.non.dep ≤ 50 := by rw [D.dep]; decide
theorem o_eqI (h : Q (.bl (decide (k = l))) S) : oEq false (.int k) (.int l) S Q := o_eqP plain_int plain_int (.inl dep_int) (by rw [Bool.false_xor, eqv_int]; exact h)
theorem o_neI (h : Q (.bl (!decide (k = l))) S) : oEq true (.int k) (.int l) S Q := o_eqP plain_int plain_int (.inl dep_int) (by rw [Bool.true_xor, eqv_int]; exact h)
theorem o_eqS (h : Q (.bl (decide (z = w))) S) : oEq false (.str z) (.str w) S Q := o_eqP plain_str plain_str (.inl dep_str) (by rw [Bool.false_xor, eqv_str]; exact h)
theorem o_neS (h : Q (.bl (!decide (z = w))) S) : oEq true (.str z) (.str w) S Q := o_eqP plain_str plain_str (.inl dep_str) (by rw [Bool.true_xor, eqv_str]; exact h)
theorem o_eqB {b c : Bool} (h : Q (.bl (b == c)) S) : oEq false (.bl b) (.bl c) S Q := o_eqP plain_bl plain_bl (.inl dep_bl) (by rw [Bool.false_xor, eqv_bl]; exact h)
theorem o_neB {b c : Bool} (h : Q (.bl (!(b == c))) S) : oEq true (.bl b) (.bl c) S Q := o_eqP plain_bl plain_bl (.inl dep_bl) (by rw [Bool.true_xor, eqv_bl]; exact h)
def isNon : D → Bool
  | .non => true
  | _ => false
theorem o_is (h : Q (.bl (isNon x)) S) : oIs false x .non S Q := by
  cases x <;> exact h
theorem o_isnot (h : Q (.bl (!isNon x)) S) : oIs true x .non S Q := by
  cases x <;> exact h
theorem o_isBl {b c : Bool} (h : Q (.bl (decide (b = c))) S) : oIs false (.bl b) (.bl c) S Q := by
  show Q (.bl (false ^^ decide (b = c))) S
  rw [Bool.false_xor]; exact h
theorem o_notBl {b c : Bool} (h : Q (.bl (!decide (b = c))) S) : oIs true (.bl b) (.bl c) S Q := by
  show Q (.bl (true ^^ decide (b = c))) S
  rw [Bool.true_xor]; exact h
/-- an item -/
theorem o_ixT {v : D} (e : atI xs k = some v) (h : Q v S) : oIx (.tup xs) (.int k) S Q := by
  show (match atI xs k with
    | some d => Q d S
    | none => False)
  rw [e]; exact h
theorem o_ixF {v : D} (e : atI xs k = some v) (h : Q v S) : oIx (.fl xs) (.int k) S Q := by
  show (match atI xs k with
    | some d => Q d S
    | none => False)
  rw [e]; exact h
theorem o_ixL {v : D} (e0 : S p = some (.lst xs)) (e : atI xs k = some v) (h : Q v S) : oIx (.ref p) (.int k) S Q := by
  refine oIx_lst e0 ?_
  show (match seqOf S (.ref p) with
    | some xs => match atI xs k with
      | some d => Q d S
      | none => False
    | none => False)
  rw [seq_ref e0]
  show (match atI xs k with
    | some d => Q d S
    | none => False)
  rw [e]; exact h
theorem o_ixS {c : Nat} (hz : z.length ≤ 16777216) (e : atI z.cps.toList k = some c) (h : Q (.str ⟨#[c]⟩) S) : oIx (.str z) (.int k) S Q := by
  refine ⟨hz, ?_⟩
  show (match atI z.cps.toList k with
    | some c => Q (.str ⟨#[c]⟩) S
    | none => False)
  rw [e]; exact h
theorem o_slT {lo hi : Option Int} (h : Q (.tup (dcut xs lo hi)) S) : oSl (.tup xs) lo hi S Q := h
theorem o_slF {lo hi : Option Int} (h : newL (dcut xs lo hi) S Q) : oSl (.fl xs) lo hi S Q := h
theorem o_slL {lo hi : Option Int} (e : S p = some (.lst xs)) (h : newL (dcut xs lo hi) S Q) : oSl (.ref p) lo hi S Q := by
  show (match lstOf S (.ref p) with
    | some xs => ∀ p, S p = none → Q (.ref p) (dupd S p (.lst (dcut xs lo hi)))
    | none => False)
  rw [lst_ref e]; exact h
def putL (p : Addr) (xs : List D) (S : DS) (Q : DS → Prop) : Prop := Q (dupd S p (.lst xs))
theorem i_putL {QS : DS → Prop} (h : ∀ S1, S1 p = some (.lst xs) → But p S S1 → QS S1) : putL p xs S QS := h _ dupd_same but_upd
theorem s_ix {QS : DS → Prop} {v : D} {m : Nat} (e : S p = some (.lst xs)) (ek : ixN xs.length k = some m) (h : putL p (xs.set m v) S QS) : sIx (.ref p) (.int k) v S QS := by
  refine sIx_lst e ?_
  show (match S p with
    | some (.lst xs) => match ixN xs.length k with
      | some j => QS (dupd S p (.lst (xs.set j v)))
      | none => False
    | _ => False)
  rw [e]
  show (match ixN xs.length k with
    | some j => QS (dupd S p (.lst (xs.set j v)))
    | none => False)
  rw [ek]; exact h
theorem c_lenT (h : Q (.int xs.length) S) : bLen [.tup xs] S Q := h
theorem c_lenF (h : Q (.int xs.length) S) : bLen [.fl xs] S Q := h
theorem c_lenL (e : S p = some (.lst xs)) (h : Q (.int xs.length) S) : bLen [.ref p] S Q := by
  refine bLen_lst e ?_
  show (match (seqOf S (.ref p)).map (fun l : List D => l.length) with
    | some n => Q (.int ((n : Nat) : Int)) S
    | none => False)
  rw [seq_ref e]; exact h
theorem c_lenS (hz : z.length ≤ 16777216) (h : Q (.int z.length) S) : bLen [.str z] S Q := by
  show (match lenOf S (.str z) with
    | some n => Q (.int n) S
    | none => False)
  rw [lenOf, if_pos hz]; exact h
theorem c_int (h : Q (.int k) S) : bInt [.int k] S Q := h
theorem c_intB {b : Bool} (h : Q (.int (if b then 1 else 0)) S) : bInt [.bl b] S Q := h
theorem c_abs (h : Q (.int (if k < 0 then -k else k)) S) : bAbs [.int k] S Q := h
theorem c_max2 (h : Q (.int (max k l)) S) : bMax2 [.int k, .int l] S Q := by
  show Q (.int (if l > k then l else k)) S
  rw [show (if l > k then l else k) = max k l by rw [Int.max_def]; split <;> split <;> omega]; exact h
theorem c_min2 (h : Q (.int (min k l)) S) : bMin2 [.int k, .int l] S Q := by
  show Q (.int (if l < k then l else k)) S
  rw [show (if l < k then l else k) = min k l by rw [Int.min_def]; split <;> split <;> omega]; exact h
theorem c_listT (h : newL xs S Q) : bList [.tup xs] S Q := h
theorem c_listF (h : newL xs S Q) : bList [.fl xs] S Q := h
theorem c_listL (e : S p = some (.lst xs)) (h : newL xs S Q) : bList [.ref p] S Q := by
  refine bList_lst e ?_
  show (match seqOf S (.ref p) with
    | some xs => ∀ p, S p = none → Q (.ref p) (dupd S p (.lst xs))
    | none => False)
  rw [seq_ref e]; exact h
theorem c_tupleT (h : Q (.tup xs) S) : bTuple [.tup xs] S Q := h
theorem c_tupleF (h : Q (.tup xs) S) : bTuple [.fl xs] S Q := h
theorem c_tupleL (e : S p = some (.lst xs)) (h : Q (.tup xs) S) : bTuple [.ref p] S Q := by
  show (match seqOf S (.ref p) with
    | some xs => Q (.tup xs) S
    | none => False)
  rw [seq_ref e]; exact h
theorem c_isi {T : String} {s : String} (e : tyName S x = some s) (kT : knownTy T = true) (h : Q (.bl (isi s T)) S) : bIsi [x, .ty T] S Q := by
  show (match tyName S x with
    | some t => knownTy T = true ∧ Q (.bl (isi t T)) S
    | none => False)
  rw [e]; exact ⟨kT, h⟩
theorem c_isi2 {T U : String} {s : String} (e : tyName S x = some s) (kT : knownTy T = true) (kU : knownTy U = true) (h : Q (.bl (isi s T || isi s U)) S) : bIsi [x, .tup [.ty T, .ty U]] S Q := by
  show (match tyName S x with
    | some t => (knownTy T = true ∧ knownTy U = true) ∧ Q (.bl (isi t T || isi t U)) S
    | none => False)
  rw [e]; exact ⟨⟨kT, kU⟩, h⟩
theorem c_sorted (e : lstOf S x = some xs) (h1 : ∀ x ∈ xs, x.plain = true ∧ x.dep ≤ 50) (h2 : PySem.W.AllAlike (xs.map D.py)) (h3 : PySem.W.Sortable (xs.map D.py)) (h : newL (xs.mergeSort dle) S Q) : bSorted [x] S Q := by
  show (match lstOf S x with
    | some xs => ((∀ x ∈ xs, x.plain = true ∧ x.dep ≤ 50) ∧ PySem.W.AllAlike (xs.map D.py) ∧ PySem.W.Sortable (xs.map D.py)) ∧ ∀ p, S p = none → Q (.ref p) (dupd S p (.lst (xs.mergeSort dle)))
    | none => False)
  rw [e]; exact ⟨⟨h1, h2, h3⟩, h⟩
theorem dle_int {i j : Int} : dle (.int i) (.int j) = decide (i ≤ j) := by
  show (!PySem.W.dataLt (D.py (.int j)) (D.py (.int i))) = _
  rw [show D.py (.int i) = .int i by rw [D.py], show D.py (.int j) = .int j by rw [D.py], PySem.W.dataLt_int]
  rw [Bool.eq_iff_iff]; simp
theorem c_sortedI {ns : List Int} (e : lstOf S x = some (ns.map D.int)) (h : newL ((ns.mergeSort fun a b => decide (a ≤ b)).map D.int) S Q) : bSorted [x] S Q := by
  refine c_sorted e ?_ ?_ ?_ ?_
  · intro x hx
    obtain ⟨i, _, rfl⟩ := List.mem_map.mp hx
    exact ⟨plain_int, dep_int⟩
  · intro d hd d' hd'
    rw [List.map_map] at hd hd'
    obtain ⟨i, _, rfl⟩ := List.mem_map.mp hd
    obtain ⟨j, _, rfl⟩ := List.mem_map.mp hd'
    simp [Function.comp, D.py, PySem.W.alike]
  · right
    intro d hd
    rw [List.map_map] at hd
    obtain ⟨i, _, rfl⟩ := List.mem_map.mp hd
    simp [Function.comp, D.py]
  · rw [← List.map_mergeSort (r := fun a b => decide (a ≤ b)) (fun a _ b _ => dle_int.symm)]
    exact h
theorem c_sum {ns : List Int} (e : lstOf S x = some (ns.map D.int)) (h : Q (.int ns.sum) S) : bSum [x] S Q := by
  show (match lstOf S x with
    | some xs => ∃ ns : List Int, xs = ns.map D.int ∧ Q (.int ns.sum) S
    | none => False)
  rw [e]; exact ⟨ns, rfl, h⟩
theorem c_any {bs : List Bool} (e : lstOf S x = some (bs.map D.bl)) (h : Q (.bl (bs.any id)) S) : bAny [x] S Q := by
  show (match lstOf S x with
    | some xs => ∃ bs : List Bool, xs = bs.map D.bl ∧ Q (.bl (bs.any id)) S
    | none => False)
  rw [e]; exact ⟨bs, rfl, h⟩
theorem c_all {bs : List Bool} (e : lstOf S x = some (bs.map D.bl)) (h : Q (.bl (bs.all id)) S) : bAll [x] S Q := by
  show (match lstOf S x with
    | some xs => ∃ bs : List Bool, xs = bs.map D.bl ∧ Q (.bl (bs.all id)) S
    | none => False)
  rw [e]; exact ⟨bs, rfl, h⟩
theorem ok_L {p : Addr} (e : S p = some (.lst xs)) {P : Prop} (h : P) : okLst S (.ref p) ∧ P := ⟨by unfold okLst; rw [lst_ref e]; rfl, h⟩
theorem ok_S {P : Prop} (h : P) : okStr S (.str z) ∧ P := ⟨True.intro, h⟩
theorem m_lst {fm : List D → List D → Option (D × List D)} {v : D} (e : S p = some (.lst xs)) (ef : fm xs ys = some (v, zs)) (hl : zs.length ≤ 16777216) (h : putL p zs S (Q v)) : mLst fm (.ref p) ys S Q := by
  show (match S p with
    | some (.lst xs) => match fm xs ys with
      | some (r, ys) => ys.length ≤ 16777216 ∧ Q r (dupd S p (.lst ys))
      | none => False
    | _ => False)
  rw [e]
  show (match fm xs ys with
    | some (r, ys) => ys.length ≤ 16777216 ∧ Q r (dupd S p (.lst ys))
    | none => False)
  rw [ef]; exact ⟨hl, h⟩
theorem m_append (e : S p = some (.lst xs)) (hl : (xs ++ [x]).length ≤ 16777216) (h : putL p (xs ++ [x]) S (Q .non)) : mLst fAppend (.ref p) [x] S Q := m_lst e rfl hl h
theorem m_pop (e : S p = some (.lst (xs ++ [x]))) (hl : xs.length ≤ 16777216) (h : putL p xs S (Q x)) : mLst fPop (.ref p) [] S Q := by
  refine m_lst e ?_ hl h
  show (match (xs ++ [x])[(xs ++ [x]).length - 1]? with
    | some y => some (y, (xs ++ [x]).dropLast)
    | none => none) = some (x, xs)
  simp
theorem m_reverse (e : S p = some (.lst xs)) (hl : xs.length ≤ 16777216) (h : putL p xs.reverse S (Q .non)) : mLst fReverse (.ref p) [] S Q := m_lst e rfl (by rw [List.length_reverse]; exact hl) h
theorem m_popAt {m : Nat} (e : S p = some (.lst xs)) (ek : ixN xs.length k = some m) (ex : xs[m]? = some x) (hl : xs.length ≤ 16777216) (h : putL p (xs.eraseIdx m) S (Q x)) : mLst fPopAt (.ref p) [.int k] S Q := by
  refine m_lst e ?_ (Nat.le_trans (List.length_eraseIdx_le ..) hl) h
  show (match ixN xs.length k with
    | some k => match xs[k]? with
      | some y => some (y, xs.eraseIdx k)
      | none => none
    | none => none) = some (x, xs.eraseIdx m)
  rw [ek]
  show (match xs[m]? with
    | some y => some (y, xs.eraseIdx m)
    | none => none) = some (x, xs.eraseIdx m)
  rw [ex]
theorem m_extend (e1 : S p = some (.lst xs)) (e2 : S q = some (.lst ys)) (hl : xs.length + ys.length ≤ 16777216) (h : putL p (xs ++ ys) S (Q .non)) : mExtend (.ref p) [.ref q] S Q := by
  show (match S p, S q with
    | some (.lst xs), some (.lst ys) => xs.length + ys.length ≤ 16777216 ∧ Q .non (dupd S p (.lst (xs ++ ys)))
    | _, _ => False)
  rw [e1, e2]; exact ⟨hl, h⟩
theorem m_join {zs : List Str} (e : seqOf S y = some (zs.map D.str)) (hl : (zs.map (·.length)).sum + zs.length * z.length ≤ 16777216) (h : Q (.str (Txt.join z zs)) S) : mJoin (.str z) [y] S Q := by
  show (match seqOf S y with
    | some xs => ∃ ys : List Str, xs = ys.map D.str ∧ (ys.map (·.length)).sum + ys.length * z.length ≤ 16777216 ∧ Q (.str (Txt.join z ys)) S
    | none => False)
  rw [e]; exact ⟨zs, rfl, hl, h⟩
theorem ite_dec {P A B : Prop} [Decidable P] (h1 : P → A) (h2 : ¬ P → B) : if decide P = true then A else B := by
  by_cases h : P
  · rw [if_pos (decide_eq_true h)]; exact h1 h
  · rw [if_neg (by rw [decide_eq_false h]; exact Bool.false_ne_true)]; exact h2 h
theorem ite_ndec {P A B : Prop} [Decidable P] (h1 : ¬ P → A) (h2 : P → B) : if (!decide P) = true then A else B := by
  by_cases h : P
  · rw [decide_eq_true h]; exact (if_neg Bool.false_ne_true).mpr (h2 h)
  · rw [decide_eq_false h]; exact (if_pos rfl).mpr (h1 h)
theorem ite_t {A B : Prop} (h : A) : if true = true then A else B := (if_pos rfl).mpr h
theorem ite_f {A B : Prop} (h : B) : if false = true then A else B := (if_neg Bool.false_ne_true).mpr h
theorem ite_nt {A B : Prop} (h : B) : if (!true) = true then A else B := (if_neg Bool.false_ne_true).mpr h
theorem ite_nf {A B : Prop} (h : A) : if (!false) = true then A else B := (if_pos rfl).mpr h
theorem ite_b {b : Bool} {A B : Prop} (h1 : b = true → A) (h2 : b = false → B) : if b = true then A else B := by
  cases b with
  | true => exact ite_t (h1 rfl)
  | false => exact ite_f (h2 rfl)
/-- a for loop by an invariant over the turns -/
theorem for_inv (P : Nat → Loc → DS → Prop) (h0 : P 0 δ S) (hst : ∀ m δ S, m ≤ xs.length → P m δ S → stay S)
    (turn : ∀ m x δ S (nx' : Loc → DS → Prop), xs[m]? = some x → m < xs.length → P m δ S → (∀ δ S, P (m + 1) δ S → nx' δ S) → g x δ S fun δ1 S1 => tb ⟨nx', rt, nx, nx'⟩ δ1 S1)
    (done : ∀ δ S, P xs.length δ S → nx δ S) : forT stay g tb ⟨nx, rt, bk, ct⟩ xs δ S := by
  have all : ∀ k m δ S, xs.length - m = k → m ≤ xs.length → P m δ S → forT stay g tb ⟨nx, rt, bk, ct⟩ (xs.drop m) δ S := by
    intro k
    induction k with
    | zero =>
      intro m δ S hk hm p
      have : m = xs.length := by omega
      subst this
      rw [List.drop_length]
      exact ⟨hst _ δ S (Nat.le_refl _) p, done δ S p⟩
    | succ k ih =>
      intro m δ S hk hm p
      have hlt : m < xs.length := by omega
      rw [List.drop_eq_getElem_cons hlt]
      exact ⟨hst m δ S hm p, turn m xs[m] δ S _ (List.getElem?_eq_getElem hlt) hlt p fun δ2 S2 h2 => ih (m + 1) δ2 S2 (by omega) (by omega) h2⟩
  have := all _ 0 δ S rfl (Nat.zero_le _) h0
  rwa [List.drop_zero] at this
theorem lc_inv {δ : Loc} {KK : List D → DS → Prop} (P : Nat → List D → DS → Prop) (h0 : P 0 [] S) (hst : ∀ m acc S, m ≤ xs.length → P m acc S → stay S)
    (turn : ∀ m x acc S (nx : List D → DS → Prop), xs[m]? = some x → m < xs.length → P m acc S → (∀ acc S, P (m + 1) acc S → nx acc S) → g x δ S fun δ2 S2 => t δ2 S2 fun b S3 => if b = true then a δ2 S3 fun y S4 => acc.length < 16777216 ∧ nx (acc ++ [y]) S4 else nx acc S3)
    (done : ∀ acc S, P xs.length acc S → KK acc S) : lcT stay g t a δ KK xs [] S := by
  have all : ∀ k m acc S, xs.length - m = k → m ≤ xs.length → P m acc S → lcT stay g t a δ KK (xs.drop m) acc S := by
    intro k
    induction k with
    | zero =>
      intro m acc S hk hm p
      have : m = xs.length := by omega
      subst this
      rw [List.drop_length]
      exact ⟨hst _ acc S (Nat.le_refl _) p, done acc S p⟩
    | succ k ih =>
      intro m acc S hk hm p
      have hlt : m < xs.length := by omega
      rw [List.drop_eq_getElem_cons hlt]
      exact ⟨hst m acc S hm p, turn m xs[m] acc S _ (List.getElem?_eq_getElem hlt) hlt p fun δ2 S2 h2 => ih (m + 1) δ2 S2 (by omega) (by omega) h2⟩
  have := all _ 0 [] S rfl (Nat.zero_le _) h0
  rwa [List.drop_zero] at this
/-- the same from any list so far -/
theorem lc_inv' {δ : Loc} {KK : List D → DS → Prop} {acc0 : List D} (P : Nat → List D → DS → Prop) (h0 : P 0 acc0 S) (hst : ∀ m acc S, m ≤ xs.length → P m acc S → stay S)
    (turn : ∀ m x acc S (nx : List D → DS → Prop), xs[m]? = some x → m < xs.length → P m acc S → (∀ acc S, P (m + 1) acc S → nx acc S) → g x δ S fun δ2 S2 => t δ2 S2 fun b S3 => if b = true then a δ2 S3 fun y S4 => acc.length < 16777216 ∧ nx (acc ++ [y]) S4 else nx acc S3)
    (done : ∀ acc S, P xs.length acc S → KK acc S) : lcT stay g t a δ KK xs acc0 S := by
  have all : ∀ k m acc S, xs.length - m = k → m ≤ xs.length → P m acc S → lcT stay g t a δ KK (xs.drop m) acc S := by
    intro k
    induction k with
    | zero =>
      intro m acc S hk hm p
      have : m = xs.length := by omega
      subst this
      rw [List.drop_length]
      exact ⟨hst _ acc S (Nat.le_refl _) p, done acc S p⟩
    | succ k ih =>
      intro m acc S hk hm p
      have hlt : m < xs.length := by omega
      rw [List.drop_eq_getElem_cons hlt]
      exact ⟨hst m acc S hm p, turn m xs[m] acc S _ (List.getElem?_eq_getElem hlt) hlt p fun δ2 S2 h2 => ih (m + 1) δ2 S2 (by omega) (by omega) h2⟩
  have := all _ 0 acc0 S rfl (Nat.zero_le _) h0
  rwa [List.drop_zero] at this
theorem lc2_inv {δ : Loc} {KK : List D → DS → Prop} {di1 : DI} {g1 : DG} {t1 : DT} {vs1 : List Nat} {acc0 : List D} (P : Nat → List D → DS → Prop) (h0 : P 0 acc0 S) (hst : ∀ m acc S, m ≤ xs.length → P m acc S → stay S)
    (turn : ∀ m x acc S (nx : List D → DS → Prop), xs[m]? = some x → m < xs.length → P m acc S → (∀ acc S, P (m + 1) acc S → nx acc S) →
      g x δ S fun δ2 S2 => t δ2 S2 fun b S3 => if b = true then di1 δ2 S3 fun ys stay1 S4 => lcT stay1 g1 t1 a (dwipe δ2 vs1) nx ys acc S4 else nx acc S3)
    (done : ∀ acc S, P xs.length acc S → KK acc S) : lcT2 stay g t di1 g1 t1 a δ vs1 KK xs acc0 S := by
  have all : ∀ k m acc S, xs.length - m = k → m ≤ xs.length → P m acc S → lcT2 stay g t di1 g1 t1 a δ vs1 KK (xs.drop m) acc S := by
    intro k
    induction k with
    | zero =>
      intro m acc S hk hm p
      have : m = xs.length := by omega
      subst this
      rw [List.drop_length]
      exact ⟨hst _ acc S (Nat.le_refl _) p, done acc S p⟩
    | succ k ih =>
      intro m acc S hk hm p
      have hlt : m < xs.length := by omega
      rw [List.drop_eq_getElem_cons hlt]
      exact ⟨hst m acc S hm p, turn m xs[m] acc S _ (List.getElem?_eq_getElem hlt) hlt p fun acc S h => ih (m + 1) acc S (by omega) (by omega) h⟩
  have := all _ 0 acc0 S rfl (Nat.zero_le _) h0
  rwa [List.drop_zero] at this
theorem while_inv (P : Nat → Loc → DS → Prop) (n : Nat) (h0 : P n δ S)
    (turn : ∀ m δ S (nx' : Loc → DS → Prop), P m δ S → (∀ m' δ S, m' < m → P m' δ S → nx' δ S) → t δ S fun b S1 => if b = true then tb ⟨nx', rt, nx, nx'⟩ δ S1 else nx δ S1) : dWhile t tb ⟨nx, rt, bk, ct⟩ δ S := by
  have all : ∀ k m δ S, m < k → P m δ S → dWhileN t tb k ⟨nx, rt, bk, ct⟩ δ S := by
    intro k
    induction k with
    | zero => intro m δ S h; omega
    | succ k ih =>
      intro m δ S hm p
      exact turn m δ S _ p fun m' δ' S' h' p' => ih m' δ' S' (by omega) p'
  exact ⟨n + 1, all _ n δ S (Nat.lt_succ_self n) h0⟩
end
section
variable {δ : Loc} {S : DS} {Q : DK} {a b : DE} {as : DA} {QR : Int → Int → DS → Prop} {QI : List D → (DS → Prop) → DS → Prop} {t : DRg} {x y : D} {xs ys : List D} {k l c : Int} {p q : Addr}
def rgV1 (x : D) (S : DS) (Q : Int → Int → DS → Prop) : Prop := match x with
  | .int j => Q 0 j S
  | _ => False
def rgV2 (x y : D) (S : DS) (Q : Int → Int → DS → Prop) : Prop := match x, y with
  | .int i, .int j => Q i j S
  | _, _ => False
theorem i_rg1 (h : a δ S fun x S1 => rgV1 x S1 QR) : dRg1 a δ S QR := h
theorem i_rg1V (h : QR 0 k S) : rgV1 (.int k) S QR := h
theorem i_rg2 (h : a δ S fun x S1 => b δ S1 fun y S2 => rgV2 x y S2 QR) : dRg2 a b δ S QR := h
theorem i_rg2V (h : QR k l S) : rgV2 (.int k) (.int l) S QR := h
theorem i_lstRg (h : t δ S fun a b S1 => RgOk a b ∧ newL (rngL a (b - a).toNat) S1 Q) : dLstRg t δ S Q := h
theorem i_tupRg (h : t δ S fun a b S1 => RgOk a b ∧ Q (.tup (rngL a (b - a).toNat)) S1) : dTupRg t δ S Q := h
theorem i_revR (h : t δ S fun a b S1 => (-(2 ^ 62) ≤ a ∧ a < 2 ^ 62 ∧ -(2 ^ 62) ≤ b ∧ b < 2 ^ 62) ∧ QI (rngC (a + (((b - a).toNat : Nat) : Int) - 1) (-1) (b - a).toNat) (fun _ => True) S1) : dRevR t δ S QI := h
def rng3V (ds : List D) (S : DS) (Q : List D → (DS → Prop) → DS → Prop) : Prop := match ds with
  | [.int i, .int j, .int c] => ∃ n, RgC i j c n ∧ Q (rngC i c n) (fun _ => True) S
  | _ => False
theorem i_rng3 (h : as δ S fun ds S1 => rng3V ds S1 QI) : dRng3 as δ S QI := h
theorem i_rng3V {n : Nat} (hn : RgC k l c n) (h : QI (rngC k c n) (fun _ => True) S) : rng3V [.int k, .int l, .int c] S QI := ⟨n, hn, h⟩
def zipV (ds : List D) (S : DS) (Q : List D → (DS → Prop) → DS → Prop) : Prop := match ds with
  | [.tup xs, .tup ys] => Q ((List.zip xs ys).map fun p => D.tup [p.1, p.2]) (fun _ => True) S
  | [x, y] => match lstOf S x, lstOf S y with
    | some xs, some ys => Q ((List.zip xs ys).map fun p => D.tup [p.1, p.2]) (fun S' => lstOf S' x = some xs ∧ lstOf S' y = some ys) S
    | _, _ => False
  | _ => False
theorem i_zip (h : as δ S fun ds S1 => zipV ds S1 QI) : dZip as δ S QI := h
theorem i_zipT (h : QI ((List.zip xs ys).map fun p => D.tup [p.1, p.2]) (fun _ => True) S) : zipV [.tup xs, .tup ys] S QI := h
theorem i_zipL (e1 : S p = some (.lst xs)) (e2 : S q = some (.lst ys)) (h : QI ((List.zip xs ys).map fun p => D.tup [p.1, p.2]) (fun S' => lstOf S' (.ref p) = some xs ∧ lstOf S' (.ref q) = some ys) S) : zipV [.ref p, .ref q] S QI := by
  show (match lstOf S (.ref p), lstOf S (.ref q) with
    | some xs, some ys => QI ((List.zip xs ys).map fun p => D.tup [p.1, p.2]) (fun S' => lstOf S' (.ref p) = some xs ∧ lstOf S' (.ref q) = some ys) S
    | _, _ => False)
  rw [lst_ref e1, lst_ref e2]; exact h
def rvV (x : D) (S : DS) (Q : DK) : Prop := match x with
  | .tup xs => Q (.tup xs.reverse) S
  | x => match lstOf S x with
    | some xs => newL xs.reverse S Q
    | none => False
theorem i_rvS (h : a δ S fun x S1 => rvV x S1 Q) : dRvS a δ S Q := h
theorem i_rvT (h : Q (.tup xs.reverse) S) : rvV (.tup xs) S Q := h
theorem i_rvF (h : newL xs.reverse S Q) : rvV (.fl xs) S Q := h
theorem i_rvL (e : S p = some (.lst xs)) (h : newL xs.reverse S Q) : rvV (.ref p) S Q := by
  show (match lstOf S (.ref p) with
    | some xs => newL xs.reverse S Q
    | none => False)
  rw [lst_ref e]; exact h
theorem c_max1 {ns : List Int} (e : lstOf S x = some (ns.map D.int)) (hn : ns ≠ []) (h : ∀ m, isMax ns m → Q (.int m) S) : bMax1 [x] S Q := by
  show (match lstOf S x with
    | some xs => ∃ ns : List Int, xs = ns.map D.int ∧ ns ≠ [] ∧ ∀ m, isMax ns m → Q (.int m) S
    | none => False)
  rw [e]; exact ⟨ns, rfl, hn, h⟩
theorem c_min1 {ns : List Int} (e : lstOf S x = some (ns.map D.int)) (hn : ns ≠ []) (h : ∀ m, isMin ns m → Q (.int m) S) : bMin1 [x] S Q := by
  show (match lstOf S x with
    | some xs => ∃ ns : List Int, xs = ns.map D.int ∧ ns ≠ [] ∧ ∀ m, isMin ns m → Q (.int m) S
    | none => False)
  rw [e]; exact ⟨ns, rfl, hn, h⟩
theorem m_insert (e : S p = some (.lst xs)) (h0 : 0 ≤ k ∧ k < 2 ^ 63) (hl : xs.length < 16777216) (h : putL p (xs.take k.toNat ++ [x] ++ xs.drop k.toNat) S (Q .non)) : mLst fInsert (.ref p) [.int k, x] S Q := by
  refine m_lst e (if_pos h0) ?_ h
  simp only [List.length_append, List.length_take, List.length_drop, List.length_singleton]
  omega
end
end DL
namespace DL
open PySem L2
mutual
theorem nk_plain : ∀ (d : D) (q : NestedKey), nk d = some q → d.plain = true
  | .non, q, h => by rw [D.plain]
  | .int _, q, h => by rw [D.plain]
  | .str _, q, h => by rw [D.plain]
  | .bl _, q, h => by rw [nk] at h; cases h
  | .ref _, q, h => by rw [nk] at h; cases h
  | .ty _, q, h => by rw [nk] at h; cases h
  | .fn _, q, h => by rw [nk] at h; cases h
  | .fl _, q, h => by rw [nk] at h; cases h
  | .tup xs, q, h => by
    rw [nk] at h
    split at h
    · rename_i ks e
      rw [D.plain]; exact nks_plain xs ks e
    · cases h
theorem nks_plain : ∀ (ds : List D) (ks : List NestedKey), nks ds = some ks → D.plainL ds = true
  | [], ks, h => by rw [D.plainL]
  | d :: ds, ks, h => by
    rw [nks] at h
    split at h
    · rename_i k e
      split at h
      · rename_i ks' e'
        rw [D.plainL, nk_plain d k e, nks_plain ds ks' e']; rfl
      · cases h
    · cases h
end
mutual
theorem eqv_nk : ∀ (a b : D) (p q : NestedKey), nk a = some p → nk b = some q → D.eqv a b = NestedKey.beq p q
  | .non, b, p, q, h, h' => by
    rw [nk] at h; cases h
    cases b with
    | non => rw [nk] at h'; cases h'; rfl
    | int _ => rw [nk] at h'; cases h'; rfl
    | str _ => rw [nk] at h'; cases h'; rfl
    | tup xs => rw [nk] at h'; split at h' <;> cases h'; rfl
    | _ => rw [nk] at h'; cases h'
  | .int i, b, p, q, h, h' => by
    rw [nk] at h; cases h
    cases b with
    | non => rw [nk] at h'; cases h'; rfl
    | int j => rw [nk] at h'; cases h'; rw [eqv_int, NestedKey.beq]
    | str _ => rw [nk] at h'; cases h'; rfl
    | tup xs => rw [nk] at h'; split at h' <;> cases h'; rfl
    | _ => rw [nk] at h'; cases h'
  | .str i, b, p, q, h, h' => by
    rw [nk] at h; cases h
    cases b with
    | non => rw [nk] at h'; cases h'; rfl
    | int j => rw [nk] at h'; cases h'; rfl
    | str _ => rw [nk] at h'; cases h'; rw [eqv_str, NestedKey.beq]
    | tup xs => rw [nk] at h'; split at h' <;> cases h'; rfl
    | _ => rw [nk] at h'; cases h'
  | .bl _, b, p, q, h, h' => by rw [nk] at h; cases h
  | .ref _, b, p, q, h, h' => by rw [nk] at h; cases h
  | .ty _, b, p, q, h, h' => by rw [nk] at h; cases h
  | .fn _, b, p, q, h, h' => by rw [nk] at h; cases h
  | .fl _, b, p, q, h, h' => by rw [nk] at h; cases h
  | .tup xs, b, p, q, h, h' => by
    rw [nk] at h
    split at h
    · rename_i ks e
      cases h
      cases b with
      | non => rw [nk] at h'; cases h'; rfl
      | int j => rw [nk] at h'; cases h'; rfl
      | str _ => rw [nk] at h'; cases h'; rfl
      | tup ys =>
        rw [nk] at h'
        split at h'
        · rename_i ks' e'
          cases h'
          have := eqvs_nk xs ys ks ks' e e'
          unfold D.eqv
          rw [D.py, D.py, PyData.eqv, this, NestedKey.beq]
        · cases h'
      | _ => rw [nk] at h'; cases h'
    · cases h
theorem eqvs_nk : ∀ (xs ys : List D) (ps qs : List NestedKey), nks xs = some ps → nks ys = some qs → PyData.eqvAll (D.pyL xs) (D.pyL ys) = NestedKey.beqAll ps qs
  | [], ys, ps, qs, h, h' => by
    rw [nks] at h; cases h
    cases ys with
    | nil => rw [nks] at h'; cases h'; rfl
    | cons y ys =>
      rw [nks] at h'
      split at h'
      · split at h' <;> cases h'; rfl
      · cases h'
  | x :: xs, ys, ps, qs, h, h' => by
    rw [nks] at h
    split at h
    · rename_i k e
      split at h
      · rename_i ks1 e1
        cases h
        cases ys with
        | nil => rw [nks] at h'; cases h'; rfl
        | cons y ys =>
          rw [nks] at h'
          split at h'
          · rename_i k2 e2
            split at h'
            · rename_i ks3 e3
              cases h'
              have h1 := eqv_nk x y k k2 e e2
              have h2 := eqvs_nk xs ys ks1 ks3 e1 e3
              rw [D.pyL, D.pyL, PyData.eqvAll, NestedKey.beqAll, h2]
              rw [show PyData.eqv x.py y.py = NestedKey.beq k k2 from h1]
            · cases h'
          · cases h'
      · cases h
    · cases h
end
/-- a way to write things down as keys -/
structure Enc {α : Type} (f : α → D) (n : Nat) : Prop where
  pl : ∀ x, ∃ q, nk (f x) = some q
  inj : ∀ x y, f x = f y → x = y
  dep : ∀ x, (f x).dep ≤ n
section
variable {α β : Type} {f : α → D} {g : β → D} {n m : Nat}
theorem Enc.eqv [DecidableEq α] (e : Enc f n) (x y : α) : D.eqv (f x) (f y) = decide (x = y) := by
  obtain ⟨p, hp⟩ := e.pl x
  obtain ⟨q, hq⟩ := e.pl y
  rw [eqv_nk _ _ p q hp hq, ← NestedKey.decide_eq]
  by_cases h : x = y
  · subst h; rw [hp] at hq; cases hq; simp
  · rw [decide_eq_false h, decide_eq_false]
    intro z; subst z
    exact h (e.inj _ _ (nk_inj _ _ p hp hq))
theorem Enc.plain (e : Enc f n) (x : α) : (f x).plain = true := let ⟨q, h⟩ := e.pl x; nk_plain _ q h
theorem Enc.nk (e : Enc f n) (x y : α) : nk (f x) = nk (f y) ↔ x = y := by
  constructor
  · intro h
    obtain ⟨p, hp⟩ := e.pl x
    exact e.inj _ _ (nk_inj _ _ p hp (by rw [← h, hp]))
  · intro h; rw [h]
theorem Enc.mono (e : Enc f n) (h : n ≤ m) : Enc f m := ⟨e.pl, e.inj, fun x => Nat.le_trans (e.dep x) h⟩
theorem enc_int : Enc D.int 0 := ⟨fun x => ⟨_, by rw [DL.nk]⟩, fun x y h => by injection h, fun x => by rw [D.dep]; exact Nat.le_refl 0⟩
theorem enc_nat : Enc (fun i : Nat => D.int (i : Int)) 0 := ⟨fun x => ⟨_, by rw [DL.nk]⟩, fun x y h => by injection h with h; omega, fun x => by rw [D.dep]; exact Nat.le_refl 0⟩
theorem enc_str : Enc D.str 0 := ⟨fun x => ⟨_, by rw [DL.nk]⟩, fun x y h => by injection h, fun x => by rw [D.dep]; exact Nat.le_refl 0⟩
theorem nks_map (e : Enc f n) : ∀ xs : List α, ∃ qs, nks (xs.map f) = some qs
  | [] => ⟨[], by rw [List.map_nil, nks]⟩
  | x :: xs => by
    obtain ⟨q, hq⟩ := e.pl x
    obtain ⟨qs, hqs⟩ := nks_map e xs
    exact ⟨q :: qs, by rw [List.map_cons, nks, hq, hqs]⟩
theorem map_inj_of (h : ∀ x y, f x = f y → x = y) : ∀ xs ys : List α, xs.map f = ys.map f → xs = ys
  | [], [], _ => rfl
  | [], _ :: _, e => by simp at e
  | _ :: _, [], e => by simp at e
  | x :: xs, y :: ys, e => by
    rw [List.map_cons, List.map_cons] at e
    injection e with e1 e2
    rw [h _ _ e1, map_inj_of h xs ys e2]
theorem enc_list (e : Enc f n) : Enc (fun xs : List α => D.tup (xs.map f)) (n + 1) :=
  ⟨fun xs => let ⟨qs, h⟩ := nks_map e xs; ⟨_, by rw [DL.nk, h]⟩, fun xs ys h => by injection h with h; exact map_inj_of e.inj xs ys h,
   fun xs => by rw [D.dep]; exact Nat.succ_le_succ (D.depL_le fun d hd => by obtain ⟨x, _, rfl⟩ := List.mem_map.mp hd; exact e.dep x)⟩
theorem enc_pair (e : Enc f n) (e' : Enc g m) : Enc (fun p : α × β => D.tup [f p.1, g p.2]) (max n m + 1) :=
  ⟨fun p => by
    obtain ⟨q, hq⟩ := e.pl p.1
    obtain ⟨r, hr⟩ := e'.pl p.2
    exact ⟨.tup [q, r], by rw [DL.nk, nks, hq, nks, hr, nks]⟩,
   fun p q h => by injection h with h; injection h with h1 h2; injection h2 with h2 _; exact Prod.ext (e.inj _ _ h1) (e'.inj _ _ h2),
   fun p => by
    rw [D.dep]
    refine Nat.succ_le_succ (D.depL_le fun d hd => ?_)
    rcases List.mem_cons.mp hd with rfl | hd
    · exact Nat.le_trans (e.dep _) (Nat.le_max_left _ _)
    · rw [List.mem_singleton.mp hd]; exact Nat.le_trans (e'.dep _) (Nat.le_max_right _ _)⟩
theorem Enc.comp {γ : Type} {h : γ → α} (e : Enc f n) (hh : ∀ x y, h x = h y → x = y) : Enc (fun x => f (h x)) n := ⟨fun x => e.pl _, fun x y z => hh _ _ (e.inj _ _ z), fun x => e.dep _⟩
/-- tuples as keys -/
structure TEnc (f : α → D) : Prop extends Enc f 8 where
  tup : ∀ x, ∃ xs, f x = .tup xs
theorem TEnc.tk (e : TEnc f) (x : α) : isTk (f x) = true := by
  obtain ⟨xs, h⟩ := e.tup x
  obtain ⟨q, hq⟩ := e.pl x
  have hd := e.dep x
  rw [h] at hq hd ⊢
  rw [isTk, hq, decide_eq_true hd]; rfl
end
def tget {κ ν : Type} [DecidableEq κ] (ts : List (κ × ν)) (k : κ) : Option ν := (ts.find? fun t => decide (t.1 = k)).map (·.2)
def tput {κ ν : Type} [DecidableEq κ] (ts : List (κ × ν)) (k : κ) (v : ν) : List (κ × ν) :=
  if (ts.any fun t => decide (t.1 = k)) = true then ts.map (fun t => if t.1 = k then (t.1, v) else t) else ts ++ [(k, v)]
def tab {κ ν : Type} (ek : κ → D) (ev : ν → D) (ts : List (κ × ν)) : List (D × D) := ts.map fun t => (ek t.1, ev t.2)
section
variable {κ ν : Type} [DecidableEq κ] {ek : κ → D} {ev : ν → D} {n : Nat}
theorem tget_tab (e : Enc ek n) (k : κ) : ∀ ts : List (κ × ν), dget (tab ek ev ts) (ek k) = (tget ts k).map ev
  | [] => rfl
  | t :: ts => by
    have ih := tget_tab e k ts
    unfold dget tab tget at ih ⊢
    rw [List.map_cons]
    by_cases h : t.1 = k
    · rw [List.find?_cons_of_pos (by simp [h]), List.find?_cons_of_pos (by simp [h])]; rfl
    · rw [List.find?_cons_of_neg (by simp [e.nk, h]), List.find?_cons_of_neg (by simp [h])]; exact ih
theorem tany_tab (e : Enc ek n) (k : κ) (ts : List (κ × ν)) : ((tab ek ev ts).any fun p => decide (nk p.1 = nk (ek k))) = ts.any fun t => decide (t.1 = k) := by
  unfold tab
  rw [List.any_map]
  congr 1
  funext t
  simp [Function.comp, e.nk]
theorem tput_tab (e : Enc ek n) (k : κ) (v : ν) (ts : List (κ × ν)) : dput (tab ek ev ts) (ek k) (ev v) = tab ek ev (tput ts k v) := by
  unfold dput tput
  rw [tany_tab e k ts]
  split
  · unfold tab
    rw [List.map_map, List.map_map]
    refine List.map_congr_left fun t _ => ?_
    simp only [Function.comp, e.nk]
    split <;> rfl
  · unfold tab
    rw [List.map_append]; rfl
theorem tget_some {ts : List (κ × ν)} {k : κ} {v : ν} (h : tget ts k = some v) : (k, v) ∈ ts := by
  unfold tget at h
  obtain ⟨t, h1, rfl⟩ := Option.map_eq_some_iff.mp h
  have h2 := List.find?_some h1
  have h3 := List.mem_of_find?_eq_some h1
  rw [decide_eq_true_eq] at h2
  subst h2
  exact h3
theorem tget_none {ts : List (κ × ν)} {k : κ} (h : tget ts k = none) : ∀ t ∈ ts, t.1 ≠ k := by
  unfold tget at h
  rw [Option.map_eq_none_iff, List.find?_eq_none] at h
  intro t ht e
  exact h t ht (decide_eq_true e)
theorem tget_isSome {ts : List (κ × ν)} {k : κ} : (tget ts k).isSome = decide (k ∈ ts.map (·.1)) := by
  rw [Bool.eq_iff_iff, decide_eq_true_iff]
  constructor
  · intro h
    obtain ⟨v, hv⟩ := Option.isSome_iff_exists.mp h
    exact List.mem_map.mpr ⟨_, tget_some hv, rfl⟩
  · intro h
    obtain ⟨t, ht, e⟩ := List.mem_map.mp h
    cases hq : tget ts k with
    | some v => rfl
    | none => exact absurd e (tget_none hq t ht)
theorem tput_new {ts : List (κ × ν)} {k : κ} (v : ν) (h : tget ts k = none) : tput ts k v = ts ++ [(k, v)] := by
  unfold tput
  rw [if_neg]
  intro q
  obtain ⟨t, ht, e⟩ := List.any_eq_true.mp q
  exact tget_none h t ht (of_decide_eq_true e)
theorem tget_put {ts : List (κ × ν)} {k j : κ} {v : ν} : tget (tput ts k v) j = if j = k then some v else tget ts j := by
  induction ts with
  | nil =>
    unfold tput tget
    by_cases h : k = j
    · simp [h]
    · simp [h, Ne.symm h]
  | cons t ts ih =>
    unfold tput tget at ih ⊢
    by_cases h : t.1 = k
    · rw [if_pos (by simp [h]), List.map_cons]
      by_cases hj : t.1 = j
      · have : j = k := hj.symm.trans h
        simp [h, this]
      · have hjk : ¬ j = k := fun z => hj (h.trans z.symm)
        rw [if_neg hjk]
        rw [List.find?_cons_of_neg (by simp [h, Ne.symm hjk]), List.find?_cons_of_neg (by simp [hj])]
        by_cases ha : (ts.any fun t => decide (t.1 = k)) = true
        · rw [if_pos ha, if_neg hjk] at ih; exact ih
        · congr 1
          have : (ts.map fun t => if t.1 = k then (t.1, v) else t) = ts := by
            refine (List.map_congr_left fun t ht => ?_).trans (List.map_id' ts)
            rw [if_neg fun z => ha (List.any_eq_true.mpr ⟨t, ht, decide_eq_true z⟩)]
          rw [this]
    · rw [List.any_cons, decide_eq_false h, Bool.false_or]
      by_cases ha : (ts.any fun t => decide (t.1 = k)) = true
      · rw [if_pos ha] at ih ⊢
        rw [List.map_cons, if_neg h]
        by_cases hj : t.1 = j
        · rw [List.find?_cons_of_pos (by simp [hj]), List.find?_cons_of_pos (by simp [hj]), if_neg (fun z => h (hj.trans z))]
        · rw [List.find?_cons_of_neg (by simp [hj]), List.find?_cons_of_neg (by simp [hj])]; exact ih
      · rw [if_neg ha] at ih ⊢
        rw [List.cons_append]
        by_cases hj : t.1 = j
        · rw [List.find?_cons_of_pos (by simp [hj]), List.find?_cons_of_pos (by simp [hj]), if_neg (fun z => h (hj.trans z))]
        · rw [List.find?_cons_of_neg (by simp [hj]), List.find?_cons_of_neg (by simp [hj])]; exact ih
theorem kOk_tab (e : TEnc ek) (k : κ) (ts : List (κ × ν)) : kOk (tab ek ev ts) (ek k) := .inr ⟨e.tk k, fun p hp => by
  obtain ⟨t, _, rfl⟩ := List.mem_map.mp hp
  exact e.tk t.1⟩
theorem kOk_tabI (e : ∀ k, isLf (ek k) = true) (k : κ) (ts : List (κ × ν)) : kOk (tab ek ev ts) (ek k) := .inl ⟨e k, fun p hp => by
  obtain ⟨t, _, rfl⟩ := List.mem_map.mp hp
  exact e t.1⟩
theorem tab_len (ts : List (κ × ν)) : (tab ek ev ts).length = ts.length := List.length_map ..
theorem tab_keys (ts : List (κ × ν)) : (tab ek ev ts).map (·.1) = (ts.map (·.1)).map ek := by unfold tab; rw [List.map_map, List.map_map]; rfl
variable {S : DS} {Q : DK} {p : Addr} {st : DStm} {ts : List (κ × ν)}
/-- reading a table -/
theorem t_ix {k : κ} {v : ν} (en : Enc ek n) (e : S p = some (.dct st (tab ek ev ts))) (hk : kOk (tab ek ev ts) (ek k)) (hg : tget ts k = some v) (h : Q (ev v) S) : oIx (.ref p) (ek k) S Q :=
  o_ixD e hk (by rw [tget_tab en, hg]; rfl) h
theorem dec_same {p : Prop} {a b : Decidable p} : @decide p a = @decide p b := decide_eq_decide.mpr Iff.rfl
theorem t_in {k : κ} [iD : Decidable (k ∈ ts.map (·.1))] (en : Enc ek n) (e : S p = some (.dct st (tab ek ev ts))) (hk : kOk (tab ek ev ts) (ek k)) (h : Q (.bl (decide (k ∈ ts.map (·.1)))) S) : oIn false (ek k) (.ref p) S Q :=
  o_inD e hk (by rw [tget_tab en, Bool.false_xor, Option.isSome_map, tget_isSome, dec_same (b := iD)]; exact h)
theorem t_notin {k : κ} [iD : Decidable (k ∈ ts.map (·.1))] (en : Enc ek n) (e : S p = some (.dct st (tab ek ev ts))) (hk : kOk (tab ek ev ts) (ek k)) (h : Q (.bl (!decide (k ∈ ts.map (·.1)))) S) : oIn true (ek k) (.ref p) S Q :=
  o_inD e hk (by rw [tget_tab en, Bool.true_xor, Option.isSome_map, tget_isSome, dec_same (b := iD)]; exact h)
theorem t_set {k : κ} {v : ν} {QS : DS → Prop} (en : Enc ek n) (e : S p = some (.dct st (tab ek ev ts))) (hk : kOk (tab ek ev ts) (ek k)) (hl : ts.length < 16777216) (h : putD p (tab ek ev (tput ts k v)) S QS) : sIx (.ref p) (ek k) (ev v) S QS :=
  s_ixD e hk (by rw [tab_len]; exact hl) (by rw [tput_tab en]; exact h)
theorem t_get1 {k : κ} (en : Enc ek n) (e : S p = some (.dct st (tab ek ev ts))) (hk : kOk (tab ek ev ts) (ek k)) (h : Q (((tget ts k).map ev).getD .non) S) : mGet (.ref p) [ek k] S Q := m_get1 e hk (by rw [tget_tab en]; exact h)
theorem t_get2 {k : κ} {x : D} (en : Enc ek n) (e : S p = some (.dct st (tab ek ev ts))) (hk : kOk (tab ek ev ts) (ek k)) (h : Q (((tget ts k).map ev).getD x) S) : mGet (.ref p) [ek k, x] S Q := m_get2 e hk (by rw [tget_tab en]; exact h)
theorem t_iter {QI : List D → (DS → Prop) → DS → Prop} (e : S p = some (.dct st (tab ek ev ts))) (h : QI ((ts.map (·.1)).map ek) (fun S' => S' p = some (.dct st (tab ek ev ts))) S) : iterV (.ref p) S QI := i_iterV_dct e (by rw [tab_keys]; exact h)
theorem t_list (e : S p = some (.dct st (tab ek ev ts))) (h : newL ((ts.map (·.1)).map ek) S Q) : bList [.ref p] S Q := c_listD e (by rw [tab_keys]; exact h)
theorem t_len (e : S p = some (.dct st (tab ek ev ts))) (h : Q (.int ts.length) S) : bLen [.ref p] S Q := c_lenD e (by rw [tab_len]; exact h)
end
section
variable {α : Type} [DecidableEq α] {f : α → D} {n : Nat} {S : DS} {Q : DK} {x y : α} {p : Addr} {xs : List α}
theorem e_eq (e : Enc f n) (hn : n ≤ 50) (h : Q (.bl (decide (x = y))) S) : oEq false (f x) (f y) S Q :=
  o_eqP (e.plain x) (e.plain y) (.inl (Nat.le_trans (e.dep x) hn)) (by rw [Bool.false_xor, e.eqv]; exact h)
theorem e_ne (e : Enc f n) (hn : n ≤ 50) (h : Q (.bl (!decide (x = y))) S) : oEq true (f x) (f y) S Q :=
  o_eqP (e.plain x) (e.plain y) (.inl (Nat.le_trans (e.dep x) hn)) (by rw [Bool.true_xor, e.eqv]; exact h)
theorem any_enc (e : Enc f n) : ∀ xs : List α, ((xs.map f).any fun d => D.eqv d (f x)) = decide (x ∈ xs)
  | [] => rfl
  | y :: ys => by
    rw [List.map_cons, List.any_cons, any_enc e ys, e.eqv, Bool.eq_iff_iff, Bool.or_eq_true, decide_eq_true_iff, decide_eq_true_iff, decide_eq_true_iff, List.mem_cons]
    exact or_congr eq_comm Iff.rfl
theorem plainL_enc (e : Enc f n) (xs : List α) : D.plainL (xs.map f) = true := D.plainL_of fun d hd => by obtain ⟨x, _, rfl⟩ := List.mem_map.mp hd; exact e.plain x
theorem e_inT [iD : Decidable (x ∈ xs)] (e : Enc f n) (hn : n ≤ 50) (h : Q (.bl (decide (x ∈ xs))) S) : oIn false (f x) (.tup (xs.map f)) S Q := o_inT (e.plain x) (plainL_enc e xs) (Nat.le_trans (e.dep x) hn) (by rw [Bool.false_xor, any_enc e, dec_same (b := iD)]; exact h)
theorem e_notinT [iD : Decidable (x ∈ xs)] (e : Enc f n) (hn : n ≤ 50) (h : Q (.bl (!decide (x ∈ xs))) S) : oIn true (f x) (.tup (xs.map f)) S Q := o_inT (e.plain x) (plainL_enc e xs) (Nat.le_trans (e.dep x) hn) (by rw [Bool.true_xor, any_enc e, dec_same (b := iD)]; exact h)
theorem e_inL [iD : Decidable (x ∈ xs)] (e : Enc f n) (hn : n ≤ 50) (e0 : S p = some (.lst (xs.map f))) (h : Q (.bl (decide (x ∈ xs))) S) : oIn false (f x) (.ref p) S Q := o_inL e0 (e.plain x) (plainL_enc e xs) (Nat.le_trans (e.dep x) hn) (by rw [Bool.false_xor, any_enc e, dec_same (b := iD)]; exact h)
theorem e_notinL [iD : Decidable (x ∈ xs)] (e : Enc f n) (hn : n ≤ 50) (e0 : S p = some (.lst (xs.map f))) (h : Q (.bl (!decide (x ∈ xs))) S) : oIn true (f x) (.ref p) S Q := o_inL e0 (e.plain x) (plainL_enc e xs) (Nat.le_trans (e.dep x) hn) (by rw [Bool.true_xor, any_enc e, dec_same (b := iD)]; exact h)
end
section
variable {P A B : Prop} [Decidable P]
theorem ite_yes (p : P) (h : A) : if decide P = true then A else B := by rw [if_pos (decide_eq_true p)]; exact h
theorem ite_no (p : ¬ P) (h : B) : if decide P = true then A else B := by rw [if_neg (by rw [decide_eq_false p]; exact Bool.false_ne_true)]; exact h
theorem ite_nyes (p : P) (h : B) : if (!decide P) = true then A else B := by rw [if_neg (by rw [decide_eq_true p]; exact Bool.false_ne_true)]; exact h
theorem ite_nno (p : ¬ P) (h : A) : if (!decide P) = true then A else B := by rw [if_pos (by rw [decide_eq_false p]; rfl)]; exact h
end
section
variable {S : DS} {Q : DK} {δ : Loc} {x y : D} {tk tv : DE} {lf : Bool}
def newD1 (x y : D) (S : DS) (Q : DK) : Prop := ∀ p st, S p = none → Q (.ref p) (dupd S p (.dct st [(x, y)]))
theorem i_newD1 (h : ∀ p st S1, S p = none → S1 p = some (.dct st [(x, y)]) → Ext S S1 → Q (.ref p) S1) : newD1 x y S Q := fun p st hp => h p st _ hp dupd_same (ext_new hp)
theorem i_dct1 (h : tk δ S fun x S1 => tv δ S1 fun y S2 => (if lf = true then isLf x = true else isTk x = true) ∧ newD1 x y S2 Q) : dDct1 lf tk tv δ S Q := h
end
theorem tget_of_mem {κ ν : Type} [DecidableEq κ] : ∀ {ts : List (κ × ν)} {k : κ} {v : ν}, (ts.map (·.1)).Nodup → (k, v) ∈ ts → tget ts k = some v
  | [], _, _, _, h => nomatch h
  | t :: ts, k, v, hn, h => by
    rw [List.map_cons, List.nodup_cons] at hn
    unfold tget
    rcases List.mem_cons.mp h with e | h
    · subst e; rw [List.find?_cons_of_pos (by simp)]; rfl
    · have : t.1 ≠ k := fun e => hn.1 (List.mem_map.mpr ⟨_, h, e.symm⟩)
      rw [List.find?_cons_of_neg (by simp [this])]
      exact tget_of_mem hn.2 h
theorem cut_from {α : Type} {xs : List α} {j : Nat} {k : Int} (e : k = (j : Int)) : dcut xs (some k) none = xs.drop j := by
  subst e
  unfold dcut
  rw [HT.sIx_none, HT.sIx_nat]
  rcases Nat.lt_or_ge j xs.length with h | h
  · rw [Nat.min_eq_left (Nat.le_of_lt h)]
    exact List.take_of_length_le (by rw [List.length_drop]; exact Nat.le_refl _)
  · rw [Nat.min_eq_right h, List.drop_length, List.drop_of_length_le h, List.take_nil]
theorem filter_first {α : Type} {p : α → Bool} : ∀ {M : List α} {l : Nat} {u : α}, (∀ i v, i < l → M[i]? = some v → p v = false) → M[l]? = some u → p u = true → ∃ m, M.filter p = u :: m
  | [], l, u, _, h, _ => by simp at h
  | a :: M, 0, u, _, h, hp => by
    obtain rfl := Option.some.inj h
    exact ⟨_, List.filter_cons_of_pos hp⟩
  | a :: M, l + 1, u, hn, h, hp => by
    rw [List.filter_cons_of_neg (by rw [hn 0 a (by omega) rfl]; exact Bool.false_ne_true)]
    exact filter_first (fun i v hi hv => hn (i + 1) v (by omega) hv) h hp
theorem flat_first {α β : Type} {g : α → List β} : ∀ {L : List α} {k : Nat} {t : α}, (∀ i v, i < k → L[i]? = some v → g v = []) → L[k]? = some t → ∃ m, L.flatMap g = g t ++ m
  | [], k, t, _, h => by simp at h
  | a :: L, 0, t, _, h => by
    obtain rfl := Option.some.inj h
    exact ⟨_, List.flatMap_cons⟩
  | a :: L, k + 1, t, hn, h => by
    rw [List.flatMap_cons, hn 0 a (by omega) rfl, List.nil_append]
    exact flat_first (fun i v hi hv => hn (i + 1) v (by omega) hv) h
theorem findSome_at {α β : Type} {f : α → Option β} : ∀ {l : List α} {j : Nat} {x : α} {y : β}, (∀ i z, i < j → l[i]? = some z → f z = none) → l[j]? = some x → f x = some y → l.findSome? f = some y
  | [], j, x, y, _, h, _ => by simp at h
  | a :: l, 0, x, y, _, h, hf => by
    obtain rfl := Option.some.inj h
    rw [List.findSome?_cons, hf]
  | a :: l, j + 1, x, y, hn, h, hf => by
    rw [List.findSome?_cons, hn 0 a (by omega) rfl]
    exact findSome_at (fun i z hi hz => hn (i + 1) z (by omega) hz) h hf
theorem findSome_no {α β : Type} {f : α → Option β} {l : List α} (h : ∀ (i : Nat) z, l[i]? = some z → f z = none) : l.findSome? f = none := by
  rw [List.findSome?_eq_none_iff]
  intro z hz
  obtain ⟨i, hi⟩ := List.getElem?_of_mem hz
  exact h i z hi
/-- a cut between two statements -/
theorem i_seqJ {st su : DSt} {δ : DL.Loc} {S : DS} {nx bk ct : DL.Loc → DS → Prop} {rt : DK} (J : DL.Loc → DS → Prop) (h1 : ∀ nx', (∀ δ S, J δ S → nx' δ S) → st ⟨nx', rt, bk, ct⟩ δ S) (h2 : ∀ δ S, J δ S → su ⟨nx, rt, bk, ct⟩ δ S) : dSeq st su ⟨nx, rt, bk, ct⟩ δ S := h1 _ h2
def pLe (x y : Int × Int) : Bool := decide (x.1 < y.1 ∨ (x.1 = y.1 ∧ x.2 ≤ y.2))
theorem lt_pair {a b c d : Int} : PySem.W.dataLt (.tuple [.int a, .int b]) (.tuple [.int c, .int d]) = decide (a < c ∨ (a = c ∧ b < d)) := by
  have h := PySem.W.dataLt_ints [a, b] [c, d]
  have e : PySem.W.rowLt ([a, b].map .int) ([c, d].map .int) = PySem.W.dataLt (.tuple [.int a, .int b]) (.tuple [.int c, .int d]) := by
    unfold PySem.W.rowLt PySem.W.dataLt
    rw [PySem.W.keyToks, PySem.W.keyToks]; rfl
  rw [← e, h, decide_eq_decide, List.cons_lt_cons_iff, List.cons_lt_cons_iff]
  simp
theorem py_pair {a b : Int} : D.py (.tup [.int a, .int b]) = .tuple [.int a, .int b] := by
  rw [D.py, D.pyL, D.pyL, D.pyL, D.py, D.py]
theorem dle_pair {a b c d : Int} : dle (.tup [.int a, .int b]) (.tup [.int c, .int d]) = pLe (a, b) (c, d) := by
  show (!PySem.W.dataLt (D.py (.tup [.int c, .int d])) (D.py (.tup [.int a, .int b]))) = _
  rw [py_pair, py_pair, lt_pair]
  unfold pLe
  rw [Bool.eq_iff_iff, Bool.not_eq_true', decide_eq_false_iff_not, decide_eq_true_iff]
  omega
def pD (x : Int × Int) : D := .tup [.int x.1, .int x.2]
theorem enc_pD : Enc pD 1 := (enc_pair enc_int enc_int).mono (by decide)
theorem pLe_trans (a b c : Int × Int) (h1 : pLe a b = true) (h2 : pLe b c = true) : pLe a c = true := by
  unfold pLe at *
  rw [decide_eq_true_iff] at *
  omega
theorem pLe_total (a b : Int × Int) : (pLe a b || pLe b a) = true := by
  unfold pLe
  rw [Bool.or_eq_true, decide_eq_true_iff, decide_eq_true_iff]
  omega
theorem pLe_anti {a b : Int × Int} (h1 : pLe a b = true) (h2 : pLe b a = true) : a = b := by
  unfold pLe at *
  rw [decide_eq_true_iff] at *
  exact Prod.ext (by omega) (by omega)
/-- what is ascending already is what sorting makes of any other order -/
theorem sort_perm {xs ys : List (Int × Int)} (h : ys.Perm xs) (hs : ys.Pairwise fun a b => pLe a b = true) : xs.mergeSort pLe = ys :=
  List.Perm.eq_of_pairwise (fun a b _ _ h1 h2 => pLe_anti h1 h2) (List.pairwise_mergeSort pLe_trans pLe_total xs) hs ((List.mergeSort_perm xs _).trans h.symm)
section
variable {S : DS} {Q : DK} {x : D}
theorem c_sortedP {ns ms : List (Int × Int)} (e : lstOf S x = some (ns.map pD)) (hp : ms.Perm ns) (hs : ms.Pairwise fun a b => pLe a b = true) (h : newL (ms.map pD) S Q) : bSorted [x] S Q := by
  refine c_sorted e ?_ ?_ ?_ ?_
  · intro x hx
    obtain ⟨i, _, rfl⟩ := List.mem_map.mp hx
    exact ⟨enc_pD.plain i, Nat.le_trans (enc_pD.dep i) (by decide)⟩
  · intro d hd d' hd'
    rw [List.map_map] at hd hd'
    obtain ⟨i, _, rfl⟩ := List.mem_map.mp hd
    obtain ⟨j, _, rfl⟩ := List.mem_map.mp hd'
    show PySem.W.alike (D.py (pD i)) (D.py (pD j)) = true
    unfold pD
    rw [py_pair, py_pair]
    simp [PySem.W.alike, PySem.W.alikeAll]
  · left
    intro d hd
    rw [List.map_map] at hd
    obtain ⟨i, _, rfl⟩ := List.mem_map.mp hd
    exact ⟨_, _, py_pair⟩
  · rw [← List.map_mergeSort (r := pLe) (fun a _ b _ => show pLe a b = dle (pD a) (pD b) from dle_pair.symm), sort_perm hp hs]
    exact h
end
section
variable {δ δ' : Loc} {S : DS} {Q : DK} {g : DG} {t : DT} {tk tv : DE} {stay : DS → Prop} {xs : List D}
theorem i_dc {di : DI} {vs : List Nat} (e : dwipe δ vs = δ') (h : di δ S fun xs stay S1 => dcT stay g t tk tv δ' (fun kvs S2 => newDc kvs S2 Q) xs [] S1) : dDc di g t tk tv vs δ S Q := by subst e; exact h
theorem i_newDc {kvs : List (D × D)} (h : ∀ p st S1, S p = none → S1 p = some (.dct st kvs) → Ext S S1 → Q (.ref p) S1) : newDc kvs S Q := fun p st hp => h p st _ hp dupd_same (ext_new hp)
theorem dc_inv {KK : List (D × D) → DS → Prop} (P : Nat → List (D × D) → DS → Prop) (h0 : P 0 [] S) (hst : ∀ m kvs S, m ≤ xs.length → P m kvs S → stay S)
    (turn : ∀ m x kvs S (nx : List (D × D) → DS → Prop), xs[m]? = some x → m < xs.length → P m kvs S → (∀ kvs S, P (m + 1) kvs S → nx kvs S) → g x δ S fun δ2 S2 => t δ2 S2 fun b S3 => if b = true then tk δ2 S3 fun k S4 => tv δ2 S4 fun d S5 => (kOk kvs k ∧ kvs.length < 16777216) ∧ nx (dput kvs k d) S5 else nx kvs S3)
    (done : ∀ kvs S, P xs.length kvs S → KK kvs S) : dcT stay g t tk tv δ KK xs [] S := by
  have all : ∀ k m kvs S, xs.length - m = k → m ≤ xs.length → P m kvs S → dcT stay g t tk tv δ KK (xs.drop m) kvs S := by
    intro k
    induction k with
    | zero =>
      intro m kvs S hk hm p
      have : m = xs.length := by omega
      subst this
      rw [List.drop_length]
      exact ⟨hst _ _ _ (Nat.le_refl _) p, done _ _ p⟩
    | succ k ih =>
      intro m kvs S hk hm p
      have hlt : m < xs.length := by omega
      rw [List.drop_eq_getElem_cons hlt]
      exact ⟨hst _ _ _ hm p, turn m xs[m] kvs S (fun kvs S => dcT stay g t tk tv δ KK (xs.drop (m + 1)) kvs S) (List.getElem?_eq_getElem hlt) hlt p fun kvs S p' => ih (m + 1) kvs S (by omega) hlt p'⟩
  have := all _ 0 [] S rfl (Nat.zero_le _) h0
  rwa [List.drop_zero] at this
end
section
variable {δ : Loc} {S : DS} {Q : DK} {te : DE} {cc : Loc → DF} {c : DF} {x y : D} {xs : List D}
theorem i_sortK (h : te δ S fun x S1 => sortKV (cc δ) x S1 Q) : dSortK cc te δ S Q := h
theorem i_lamK {nl : Nat} {js : List Nat} {t : DE} (h : t (startD nl [x] (js.map (slotD δ))) S Q) : lamK nl js t δ [x] S Q := ⟨rfl, h⟩
/-- keys that are only looked at -/
theorem sortKs_at {α : Type} {ex kf : α → D} {K : List D → DS → Prop} : ∀ (L : List α) (ks : List D), (∀ y ∈ L, ∀ Q : DK, Q (kf y) S → c [ex y] S Q) → K (ks ++ L.map kf) S → sortKs c K (L.map ex) ks S
  | [], ks, _, h => by rw [List.map_nil, List.append_nil] at h; exact h
  | y :: ys, ks, hc, h => hc y (List.mem_cons_self ..) _ (sortKs_at ys (ks ++ [kf y]) (fun z hz => hc z (List.mem_cons_of_mem _ hz)) (by rw [List.append_assoc]; exact h))
theorem rdL_plain' {ks : List D} (h : D.plainL ks = true) : rdL S ks = ks := rdL_plain h
theorem keysOk_ints (ns : List Int) : KeysOk (ns.map D.int) := by
  refine KeysOk.mk (fun k hk => ?_) (fun d hd d' hd' => ?_) (.inr fun d hd => ?_)
  · obtain ⟨i, _, rfl⟩ := List.mem_map.mp hk
    exact ⟨plain_int, dep_int⟩
  · rw [List.map_map] at hd hd'
    obtain ⟨i, _, rfl⟩ := List.mem_map.mp hd
    obtain ⟨j, _, rfl⟩ := List.mem_map.mp hd'
    simp [Function.comp, D.py, PySem.W.alike]
  · rw [List.map_map] at hd
    obtain ⟨i, _, rfl⟩ := List.mem_map.mp hd
    simp [Function.comp, D.py]
theorem c_sortKV {α : Type} {L : List α} {ex : α → D} (e : lstOf S x = some (L.map ex)) (kf : α → D) (hc : ∀ y ∈ L, ∀ Q : DK, Q (kf y) S → c [ex y] S Q) (hp : D.plainL (L.map kf) = true) (hk : KeysOk (L.map kf)) (h : newL (sortedK (L.map ex) (L.map kf)) S Q) : sortKV c x S Q := by
  show (match lstOf S x with
    | some xs => sortKs c (fun ks S2 => KeysOk (rdL S2 ks) ∧ ∀ p, S2 p = none → Q (.ref p) (dupd S2 p (.lst (sortedK xs (rdL S2 ks))))) xs [] S
    | none => False)
  rw [e]
  refine sortKs_at (kf := kf) L [] hc ?_
  rw [List.nil_append, rdL_plain' hp]
  exact ⟨hk, h⟩
/-- ascending keys leave the order -/
theorem sortedK_asc {xs : List D} {ns : List Int} (hl : xs.length = ns.length) (h : ns.Pairwise (· ≤ ·)) : sortedK xs (ns.map D.int) = xs := by
  unfold sortedK
  rw [List.mergeSort_of_pairwise]
  · rw [List.map_fst_zip]; rw [List.length_map]; omega
  · have : ∀ (xs : List D) (ns : List Int), ns.Pairwise (· ≤ ·) → (xs.zip (ns.map D.int)).Pairwise fun a b => dle a.2 b.2 = true := by
      intro xs
      induction xs with
      | nil => intro ns _; rw [List.zip_nil_left]; exact .nil
      | cons x xs ih =>
        intro ns hn
        cases ns with
        | nil => rw [List.map_nil, List.zip_nil_right]; exact .nil
        | cons n ns =>
          rw [List.map_cons, List.zip_cons_cons, List.pairwise_cons]
          rw [List.pairwise_cons] at hn
          refine ⟨fun p hp => ?_, ih ns hn.2⟩
          obtain ⟨_, h2⟩ := List.of_mem_zip (a := p.1) (b := p.2) hp
          obtain ⟨m, hm, e⟩ := List.mem_map.mp h2
          rw [← e]
          show dle (.int n) (.int m) = true
          rw [dle_int]; exact decide_eq_true (hn.1 m hm)
    exact this xs ns h
/-- d.update(d2) of tables -/
theorem dmerge_tab {κ ν : Type} [DecidableEq κ] {ek : κ → D} {ev : ν → D} {n : Nat} (en : Enc ek n) : ∀ (more ts : List (κ × ν)), dmerge (tab ek ev ts) (tab ek ev more) = tab ek ev (more.foldl (fun acc p => tput acc p.1 p.2) ts)
  | [], ts => rfl
  | p :: more, ts => by
    show dmerge (dput (tab ek ev ts) (ek p.1) (ev p.2)) (tab ek ev more) = _
    rw [tput_tab en, dmerge_tab en more]
    rfl
theorem m_update {κ ν : Type} [DecidableEq κ] {ek : κ → D} {ev : ν → D} {a b : Addr} {st st2 : DStm} {ts more : List (κ × ν)} (en : TEnc ek) (e1 : S a = some (.dct st (tab ek ev ts))) (e2 : S b = some (.dct st2 (tab ek ev more))) (hab : a ≠ b) (hn : ts ≠ []) (hl : ts.length + more.length ≤ 16777216)
    (h : ∀ st' S1, S1 a = some (.dct st' (tab ek ev (more.foldl (fun acc p => tput acc p.1 p.2) ts))) → But a S S1 → Q .non S1) : mUpdate (.ref a) [.ref b] S Q := by
  show (match S a, S b with
    | some (.dct _ kvs), some (.dct _ more) => (a ≠ b ∧ kvs ≠ [] ∧ (∀ p ∈ kvs, isTk p.1 = true) ∧ (∀ p ∈ more, isTk p.1 = true) ∧ kvs.length + more.length ≤ 16777216) ∧ ∀ st', Q .non (dupd S a (.dct st' (dmerge kvs more)))
    | _, _ => False)
  rw [e1, e2]
  have tk : ∀ ts : List (κ × ν), ∀ p ∈ tab ek ev ts, isTk p.1 = true := fun ts p hp => by
    obtain ⟨t, _, rfl⟩ := List.mem_map.mp hp
    exact en.tk t.1
  refine ⟨⟨hab, fun z => hn (List.eq_nil_of_length_eq_zero (by have := congrArg List.length z; rw [tab_len] at this; exact this)), tk _, tk _, by rw [tab_len, tab_len]; exact hl⟩, fun st' => h st' _ ?_ but_upd⟩
  rw [dmerge_tab en.toEnc]; exact dupd_same
end
section
variable {δ : Loc} {S S' : DS} {Q : DK} {c : DF} {x : D}
/-- what is read through the store stays while the store grows -/
theorem rd_ext (e : Ext S S') : ∀ (n : Nat) (d : D), (d.rd S n).plain = true → d.rd S' n = d.rd S n
  | 0, d, _ => rfl
  | n + 1, .ref a, h => by
    rw [D.rd] at h ⊢
    rw [D.rd]
    cases q : S a with
    | none => rw [q] at h; rw [D.plain] at h; cases h
    | some o =>
      rw [q] at h
      cases o with
      | lst xs =>
        rw [e a _ q]
        dsimp only at h ⊢
        rw [D.plain] at h
        congr 1
        refine List.map_congr_left fun y hy => rd_ext e n y (D.plainL_mem h _ (List.mem_map.mpr ⟨y, hy, rfl⟩))
      | _ => dsimp only at h; rw [D.plain] at h; cases h
  | n + 1, .tup xs, h => by
    rw [D.rd, D.plain] at h
    rw [D.rd, D.rd]
    congr 1
    exact List.map_congr_left fun y hy => rd_ext e n y (D.plainL_mem h _ (List.mem_map.mpr ⟨y, hy, rfl⟩))
  | n + 1, .fl xs, h => by
    rw [D.rd, D.plain] at h
    rw [D.rd, D.rd]
    congr 1
    exact List.map_congr_left fun y hy => rd_ext e n y (D.plainL_mem h _ (List.mem_map.mpr ⟨y, hy, rfl⟩))
  | _ + 1, .non, _ => by rw [D.rd, D.rd]
  | _ + 1, .bl _, _ => by rw [D.rd, D.rd]
  | _ + 1, .int _, _ => by rw [D.rd, D.rd]
  | _ + 1, .str _, _ => by rw [D.rd, D.rd]
  | _ + 1, .ty _, _ => by rw [D.rd, D.rd]
  | _ + 1, .fn _, _ => by rw [D.rd, D.rd]
/-- keys that are made, the store growing -/
theorem sortKs_ext {α : Type} {ex kf : α → D} {K : List D → DS → Prop} (hpl : ∀ a, (kf a).plain = true) : ∀ (L L0 : List α) (ks : List D) (S1 : DS), Ext S S1 → rdL S1 ks = L0.map kf →
    (∀ y ∈ L, ∀ S' (Q' : DK), Ext S S' → (∀ k S'', k.rd S'' 4 = kf y → Ext S' S'' → Q' k S'') → c [ex y] S' Q') → (∀ ks S', rdL S' ks = (L0 ++ L).map kf → Ext S S' → K ks S') → sortKs c K (L.map ex) ks S1
  | [], L0, ks, S1, x, hr, _, h => h ks S1 (by rw [List.append_nil]; exact hr) x
  | y :: ys, L0, ks, S1, x, hr, hc, h => hc y (List.mem_cons_self ..) S1 _ x fun k S2 hk x2 => by
    refine sortKs_ext hpl ys (L0 ++ [y]) (ks ++ [k]) S2 (x.trans x2) ?_ (fun z hz => hc z (List.mem_cons_of_mem _ hz)) fun ks S' h1 h2 => h ks S' (by rw [h1, List.append_assoc]; rfl) h2
    unfold rdL at hr ⊢
    rw [List.map_append, List.map_append, ← hr]
    congr 1
    · refine List.map_congr_left fun z hz => rd_ext x2 4 z ?_
      have : z.rd S1 4 ∈ L0.map kf := by rw [← hr]; exact List.mem_map.mpr ⟨z, hz, rfl⟩
      obtain ⟨a, _, e⟩ := List.mem_map.mp this
      rw [← e]; exact hpl a
    · rw [List.map_cons, List.map_nil, List.map_cons, List.map_nil, hk]
theorem c_sortKE {α : Type} {L : List α} {ex : α → D} (e : lstOf S x = some (L.map ex)) (kf : α → D) (hpl : ∀ a, (kf a).plain = true) (hc : ∀ y ∈ L, ∀ S' (Q' : DK), Ext S S' → (∀ k S'', k.rd S'' 4 = kf y → Ext S' S'' → Q' k S'') → c [ex y] S' Q') (hk : KeysOk (L.map kf))
    (h : ∀ S', Ext S S' → newL (sortedK (L.map ex) (L.map kf)) S' Q) : sortKV c x S Q := by
  show (match lstOf S x with
    | some xs => sortKs c (fun ks S2 => KeysOk (rdL S2 ks) ∧ ∀ p, S2 p = none → Q (.ref p) (dupd S2 p (.lst (sortedK xs (rdL S2 ks))))) xs [] S
    | none => False)
  rw [e]
  refine sortKs_ext (kf := kf) hpl L [] [] S (.refl S) rfl hc fun ks S' h1 h2 => ?_
  rw [List.nil_append] at h1
  rw [h1]
  exact ⟨hk, h S' h2⟩
/-- the order on what is meant -/
theorem sortedK_map {α : Type} {ex kf : α → D} (r : α → α → Bool) (L : List α) (h : ∀ a b, r a b = dle (kf a) (kf b)) : sortedK (L.map ex) (L.map kf) = (L.mergeSort r).map ex := by
  unfold sortedK
  rw [List.zip_map', ← List.map_mergeSort (r := r) (f := fun a => (ex a, kf a)) (fun a _ b _ => h a b), List.map_map]
  rfl
end
def itemsV (d : D) (S : DS) (Q : List D → (DS → Prop) → DS → Prop) : Prop := match dctOf S d with
  | some kvs => Q (kvs.map fun p => D.tup [p.1, p.2]) (fun S' => S' (adr d) = S (adr d)) S
  | none => False
def valsV (d : D) (S : DS) (Q : List D → (DS → Prop) → DS → Prop) : Prop := match dctOf S d with
  | some kvs => Q (kvs.map (·.2)) (fun S' => S' (adr d) = S (adr d)) S
  | none => False
def bestOf {α : Type} (kf : α → D) (b : α) (M : List α) : α := M.foldl (fun b y => if dlt (kf y) (kf b) = true then y else b) b
theorem bestOf_mem {α : Type} {kf : α → D} : ∀ (M : List α) (b : α), bestOf kf b M ∈ b :: M
  | [], b => List.mem_cons_self ..
  | y :: M, b => by
    show bestOf kf (if dlt (kf y) (kf b) = true then y else b) M ∈ _
    have h := bestOf_mem (kf := kf) M (if dlt (kf y) (kf b) = true then y else b)
    rcases List.mem_cons.mp h with z | z
    · rw [z]
      split
      · exact List.mem_cons_of_mem _ (List.mem_cons_self ..)
      · exact List.mem_cons_self ..
    · exact List.mem_cons_of_mem _ (List.mem_cons_of_mem _ z)
section
variable {S S' : DS} {QI : List D → (DS → Prop) → DS → Prop} {Q : DK} {c : DF} {x : D} {p : Addr} {te : DE} {δ : Loc} {cc : Loc → DF}
theorem i_items (h : te δ S fun d S1 => itemsV d S1 QI) : dItems te δ S QI := h
theorem i_vals (h : te δ S fun d S1 => valsV d S1 QI) : dVals te δ S QI := h
theorem i_minK (h : te δ S fun x S1 => minKV (cc δ) x S1 Q) : dMinK cc te δ S Q := h
theorem t_items {κ ν : Type} {ek : κ → D} {ev : ν → D} {ts : List (κ × ν)} {st : DStm} (e : S p = some (.dct st (tab ek ev ts))) (h : QI (ts.map fun t => D.tup [ek t.1, ev t.2]) (fun S' => S' p = some (.dct st (tab ek ev ts))) S) : itemsV (.ref p) S QI := by
  unfold itemsV
  rw [dct_ref e]
  show QI ((tab ek ev ts).map fun p => D.tup [p.1, p.2]) (fun S' => S' p = S p) S
  unfold tab
  rw [List.map_map, e]
  exact h
theorem t_vals {κ ν : Type} {ek : κ → D} {ev : ν → D} {ts : List (κ × ν)} {st : DStm} (e : S p = some (.dct st (tab ek ev ts))) (h : QI (ts.map fun t => ev t.2) (fun S' => S' p = some (.dct st (tab ek ev ts))) S) : valsV (.ref p) S QI := by
  unfold valsV
  rw [dct_ref e]
  show QI ((tab ek ev ts).map (·.2)) (fun S' => S' p = S p) S
  unfold tab
  rw [List.map_map, e]
  exact h
theorem minKs_ext {α : Type} {ex kf : α → D} {L : List α} (hx : ∀ S', Ext S S' → lstOf S' x = some (L.map ex)) (hpl : ∀ a, (kf a).plain = true) (hc : ∀ y ∈ L, ∀ S' (Q' : DK), Ext S S' → (∀ k S'', k.rd S'' 4 = kf y → Ext S' S'' → Q' k S'') → c [ex y] S' Q') (hcm : ∀ a ∈ L, ∀ b ∈ L, CmpOk (kf a) (kf b)) :
    ∀ (M : List α) (b : α) (kb : D) (S1 : DS), (∀ y ∈ M, y ∈ L) → b ∈ L → Ext S S1 → kb.rd S1 4 = kf b → (∀ S', Ext S S' → Q (ex (bestOf kf b M)) S') → minKs c x (L.map ex) Q (M.map ex) (ex b) kb S1
  | [], b, kb, S1, _, _, x1, _, h => ⟨hx S1 x1, h S1 x1⟩
  | y :: M, b, kb, S1, hM, hb, x1, hk, h => ⟨hx S1 x1, hc y (hM y (List.mem_cons_self ..)) S1 _ x1 fun k S2 hk2 x2 => by
    have e2 : kb.rd S2 4 = kf b := by rw [rd_ext x2 4 kb (by rw [hk]; exact hpl b), hk]
    rw [hk2, e2]
    refine ⟨hcm y (hM y (List.mem_cons_self ..)) b hb, ?_⟩
    have hM' := fun z hz => hM z (List.mem_cons_of_mem _ hz)
    by_cases q : dlt (kf y) (kf b) = true
    · rw [if_pos q]
      refine minKs_ext hx hpl hc hcm M y k S2 hM' (hM y (List.mem_cons_self ..)) (x1.trans x2) hk2 fun S' x' => ?_
      have := h S' x'
      unfold bestOf at this
      rw [List.foldl_cons, if_pos q] at this
      exact this
    · rw [if_neg q]
      refine minKs_ext hx hpl hc hcm M b kb S2 hM' hb (x1.trans x2) e2 fun S' x' => ?_
      have := h S' x'
      unfold bestOf at this
      rw [List.foldl_cons, if_neg q] at this
      exact this⟩
/-- the first thing with the least key, the keys being made while the store grows -/
theorem c_minKE {α : Type} {ex : α → D} {a : α} {L : List α} (e : S p = some (.lst ((a :: L).map ex))) (kf : α → D) (hpl : ∀ a, (kf a).plain = true) (hc : ∀ y ∈ a :: L, ∀ S' (Q' : DK), Ext S S' → (∀ k S'', k.rd S'' 4 = kf y → Ext S' S'' → Q' k S'') → c [ex y] S' Q')
    (hcm : ∀ x ∈ a :: L, ∀ y ∈ a :: L, CmpOk (kf x) (kf y)) (h : ∀ S', Ext S S' → Q (ex (bestOf kf a L)) S') : minKV c (.ref p) S Q := by
  unfold minKV
  rw [lst_ref e]
  show c [ex a] S fun k S1 => minKs c (.ref p) ((a :: L).map ex) Q (L.map ex) (ex a) k S1
  exact hc a (List.mem_cons_self ..) S _ (.refl S) fun k S1 hk x1 => minKs_ext (fun S' x' => lst_ref (x'.get e)) hpl hc hcm L a k S1 (fun y hy => List.mem_cons_of_mem _ hy) (List.mem_cons_self ..) x1 hk h
theorem minOn_rd {α : Type} {kf : α → D} : ∀ (xs : List D) (L : List α) (d : D) (a : α), d.rd S 4 = kf a → xs.map (D.rd S 4) = L.map kf → (minOn S d xs).rd S 4 = kf (bestOf kf a L)
  | [], [], d, a, h, _ => h
  | [], _ :: _, _, _, _, h => by simp at h
  | _ :: _, [], _, _, _, h => by simp at h
  | x :: xs, y :: L, d, a, h, hl => by
    rw [List.map_cons, List.map_cons] at hl
    injection hl with h1 h2
    show (minOn S (if dlt (x.rd S 4) (d.rd S 4) = true then x else d) xs).rd S 4 = kf (bestOf kf (if dlt (kf y) (kf a) = true then y else a) L)
    rw [h1, h]
    by_cases q : dlt (kf y) (kf a) = true
    · rw [if_pos q, if_pos q]; exact minOn_rd xs L x y h1 h2
    · rw [if_neg q, if_neg q]; exact minOn_rd xs L d a h h2
/-- the least of data that stand in the store -/
theorem c_minD {α : Type} {kf : α → D} {a : α} {L : List α} {xs : List D} (e : lstOf S x = some xs) (hr : xs.map (D.rd S 4) = (a :: L).map kf) (hcm : ∀ x ∈ a :: L, ∀ y ∈ a :: L, CmpOk (kf x) (kf y)) (h : ∀ d, d.rd S 4 = kf (bestOf kf a L) → Q d S) : bMinD [x] S Q := by
  match xs, hr with
  | d :: ds, hr =>
    have hm : ∀ z ∈ d :: ds, ∃ b ∈ a :: L, z.rd S 4 = kf b := fun z hz => by
      have : z.rd S 4 ∈ (a :: L).map kf := by rw [← hr]; exact List.mem_map.mpr ⟨z, hz, rfl⟩
      obtain ⟨b, h1, h2⟩ := List.mem_map.mp this
      exact ⟨b, h1, h2.symm⟩
    rw [List.map_cons, List.map_cons] at hr
    injection hr with h1 h2
    unfold bMinD
    dsimp only
    rw [e]
    refine ⟨fun y hy z hz => ?_, h _ (minOn_rd ds L d a h1 h2)⟩
    obtain ⟨b, hb, e1⟩ := hm y hy
    obtain ⟨b', hb', e2⟩ := hm z hz
    rw [e1, e2]
    exact hcm b hb b' hb'
/-- equal or not, by what stands in the store -/
theorem o_eqR {neg : Bool} {y kx ky : D} (hx : x.rd S 4 = kx) (hy : y.rd S 4 = ky) (px : kx.plain = true) (py : ky.plain = true) (hd : kx.dep ≤ 50 ∨ ky.dep ≤ 50) (h : Q (.bl (neg ^^ D.eqv kx ky)) S) : oEq neg x y S Q := by
  unfold oEq
  rw [hx, hy]
  exact ⟨⟨px, py, hd⟩, h⟩
end
def lstValsV (d : D) (S : DS) (Q : DK) : Prop := match dctOf S d with
  | some kvs => newL (kvs.map (·.2)) S Q
  | none => False
section
variable {S : DS} {Q : DK} {p : Addr} {te : DE} {δ : Loc} {t : DA} {QA : List D → DS → Prop}
theorem i_lstVals (h : te δ S fun d S1 => lstValsV d S1 Q) : dLstVals te δ S Q := h
theorem t_lstVals {κ ν : Type} {ek : κ → D} {ev : ν → D} {ts : List (κ × ν)} {st : DStm} (e : S p = some (.dct st (tab ek ev ts))) (h : newL (ts.map fun t => ev t.2) S Q) : lstValsV (.ref p) S Q := by
  unfold lstValsV
  rw [dct_ref e]
  show newL ((tab ek ev ts).map (·.2)) S Q
  unfold tab
  rw [List.map_map]
  exact h
theorem m_indexI {ns : List Int} {y : Int} {j : Nat} (e : S p = some (.lst (ns.map D.int))) (hj : ns[j]? = some y) (hm : ∀ m < j, ns[m]? ≠ some y) (h : Q (.int (j : Int)) S) : mIndexI (.ref p) [.int y] S Q := ⟨ns, j, e, hj, hm, h⟩
def starV (x : D) (S : DS) (Q : List D → DS → Prop) : Prop := match seqOf S x with
  | some xs => Q xs S
  | none => False
theorem i_star (h : te δ S fun x S1 => starV x S1 fun xs S1' => t δ S1' fun ys S2 => QA (xs ++ ys) S2) : dStar te t δ S QA := by
  unfold dStar
  unfold starV at h
  exact h
theorem c_star {x : D} {xs : List D} {Q : List D → DS → Prop} (e : seqOf S x = some xs) (h : Q xs S) : starV x S Q := by unfold starV; rw [e]; exact h
end
end DL
namespace Gk66
open PySem L2 DL
def c_Family : Str := "Family"
def nm_Family : List Str := ["tree", "own", "ends", "hurts", "children"]
/- 0: Family___init__(self, tree): 0 self 1 tree 2 _ 3 scope 4 parent 5 kind -/
def b_0 (c : Nat → DF) : DSt :=
  (dSeq (dSetF c_Family nm_Family 0 (dVar 0) (dVar 1))
  (dSeq (dSetF c_Family nm_Family 1 (dVar 0) (dOp oMul (dLst (dCons (dC .non) dNil)) (dCall bLen (dCons (dVar 1) dNil))))
  (dSeq (dSetF c_Family nm_Family 2 (dVar 0) (dOp oMul (dLst (dCons (dC .non) dNil)) (dCall bLen (dCons (dVar 1) dNil))))
  (dSeq (dSetF c_Family nm_Family 3 (dVar 0) (dOp oMul (dLst (dCons (dC .non) dNil)) (dCall bLen (dCons (dVar 1) dNil))))
  (dSeq (dSetF c_Family nm_Family 4 (dVar 0) (dLc (dIter (dVar 1)) (dgName 2) dYes (dLst dNil) [2]))
  (dFor (dEnum (dCons (dVar 1) dNil)) (dgTup 2 (dgCons (dgName 3) (dgCons (dgTup 2 (dgCons (dgName 4) (dgCons (dgName 5) dgNil))) dgNil))) (dIf (dTb (dOp (oIs true) (dVar 4) (dC .non))) (dDrop (dBM okLst (mLst fAppend) (dOp oIx (dFld c_Family nm_Family 4 (dVar 0)) (dVar 4)) (dCons (dVar 3) dNil))) dNext)))))))
def f_0 : FnD := ⟨2, 6, b_0⟩
/- 1: Family_all_below(self, scope): 0 self 1 scope 2 found 3 waiting 4 lower -/
def b_1 (c : Nat → DF) : DSt :=
  (dSeq (dAsg (dLst dNil) (dgName 2))
  (dSeq (dAsg (dCall bList (dCons (dOp oIx (dFld c_Family nm_Family 4 (dVar 0)) (dVar 1)) dNil)) (dgName 3))
  (dSeq (dWhile (dTb (dOp (oCmp .gt) (dCall bLen (dCons (dVar 3) dNil)) (dC (.int 0)))) (dSeq (dAsg (dBM okLst (mLst fPop) (dVar 3) dNil) (dgName 4))
    (dSeq (dDrop (dBM okLst (mLst fAppend) (dVar 2) (dCons (dVar 4) dNil)))
    (dDrop (dBM okLst mExtend (dVar 3) (dCons (dOp oIx (dFld c_Family nm_Family 4 (dVar 0)) (dVar 4)) dNil))))))
  (dRet (dVar 2)))))
def f_1 : FnD := ⟨2, 5, b_1⟩
/- 2: Family_cancel_own(self, scopes): 0 self 1 scopes 2 scope -/
def b_2 (c : Nat → DF) : DSt :=
  (dFor (dIter (dVar 1)) (dgName 2) (dIf (dTb (dOp (oIs false) (dOp oIx (dFld c_Family nm_Family 1 (dVar 0)) (dVar 2)) (dC .non))) (dAsg (dC (.str "cancelled")) (dgSub (dFld c_Family nm_Family 1 (dVar 0)) (dVar 2) sIx)) dNext))
def f_2 : FnD := ⟨2, 3, b_2⟩
/- 3: Family_happen(self, event): 0 self 1 event 2 scope -/
def b_3 (c : Nat → DF) : DSt :=
  (dSeq (dAsg (dOp oIx (dVar 1) (dC (.int 1))) (dgName 2))
  (dSeq (dIf (dTb (dOp (oEq false) (dOp oIx (dVar 1) (dC (.int 0))) (dC (.str "cancel")))) (dDrop (dMeth c_Family nm_Family (c 2) (dVar 0) (dCons (dOp oAdd (dLst (dCons (dVar 2) dNil)) (dMeth c_Family nm_Family (c 1) (dVar 0) (dCons (dVar 2) dNil))) dNil))) (dIf (dTb (dOp (oIs false) (dOp oIx (dFld c_Family nm_Family 1 (dVar 0)) (dVar 2)) (dC .non))) (dIf (dTb (dOp (oEq false) (dOp oIx (dVar 1) (dC (.int 0))) (dC (.str "done")))) (dAsg (dC (.str "good")) (dgSub (dFld c_Family nm_Family 1 (dVar 0)) (dVar 2) sIx)) (dSeq (dAsg (dTup (dCons (dC (.str "failed")) (dCons (dOp oIx (dVar 1) (dC (.int 2))) dNil))) (dgSub (dFld c_Family nm_Family 1 (dVar 0)) (dVar 2) sIx))
        (dDrop (dMeth c_Family nm_Family (c 2) (dVar 0) (dCons (dMeth c_Family nm_Family (c 1) (dVar 0) (dCons (dVar 2) dNil)) dNil))))) dNext))
  (dWhile (dTb (dMeth c_Family nm_Family (c 4) (dVar 0) dNil)) dNext)))
def f_3 : FnD := ⟨2, 3, b_3⟩
/- 4: Family_end_more(self): 0 self 1 changed 2 scope -/
def b_4 (c : Nat → DF) : DSt :=
  (dSeq (dAsg (dC (.bl false)) (dgName 1))
  (dSeq (dFor (dRevR (dRg1 (dCall bLen (dCons (dFld c_Family nm_Family 0 (dVar 0)) dNil)))) (dgName 2) (dIf (dAnd (dTb (dOp (oIs false) (dOp oIx (dFld c_Family nm_Family 2 (dVar 0)) (dVar 2)) (dC .non))) (dTb (dMeth c_Family nm_Family (c 5) (dVar 0) (dCons (dVar 2) dNil)))) (dSeq (dAsg (dMeth c_Family nm_Family (c 6) (dVar 0) (dCons (dVar 2) dNil)) (dgSub (dFld c_Family nm_Family 2 (dVar 0)) (dVar 2) sIx))
      (dSeq (dDrop (dMeth c_Family nm_Family (c 7) (dVar 0) (dCons (dVar 2) dNil)))
      (dAsg (dC (.bl true)) (dgName 1)))) dNext))
  (dRet (dVar 1))))
def f_4 : FnD := ⟨1, 3, b_4⟩
/- 5: Family_can_end(self, scope): 0 self 1 scope 2 lower -/
def b_5 (c : Nat → DF) : DSt :=
  (dSeq (dIf (dTb (dOp (oIs false) (dOp oIx (dFld c_Family nm_Family 1 (dVar 0)) (dVar 1)) (dC .non))) (dRet (dC (.bl false))) dNext)
  (dRet (dCall bAll (dCons (dLc (dIter (dOp oIx (dFld c_Family nm_Family 4 (dVar 0)) (dVar 1))) (dgName 2) dYes (dOp (oIs true) (dOp oIx (dFld c_Family nm_Family 2 (dVar 0)) (dVar 2)) (dC .non)) [2]) dNil))))
def f_5 : FnD := ⟨2, 3, b_5⟩
/- 6: Family_ending(self, scope): 0 self 1 scope -/
def b_6 (c : Nat → DF) : DSt :=
  (dSeq (dIf (dTb (dCall bIsi (dCons (dOp oIx (dFld c_Family nm_Family 1 (dVar 0)) (dVar 1)) (dCons (dC (.ty "tuple")) dNil)))) (dRet (dOp oIx (dFld c_Family nm_Family 1 (dVar 0)) (dVar 1))) dNext)
  (dSeq (dIf (dAnd (dTb (dOp (oEq false) (dOp oIx (dOp oIx (dFld c_Family nm_Family 0 (dVar 0)) (dVar 1)) (dC (.int 1))) (dC (.str "strict")))) (dTb (dOp (oIs true) (dOp oIx (dFld c_Family nm_Family 3 (dVar 0)) (dVar 1)) (dC .non)))) (dRet (dTup (dCons (dC (.str "failed")) (dCons (dOp oIx (dFld c_Family nm_Family 3 (dVar 0)) (dVar 1)) dNil)))) dNext)
  (dRet (dOp oIx (dFld c_Family nm_Family 1 (dVar 0)) (dVar 1)))))
def f_6 : FnD := ⟨2, 2, b_6⟩
/- 7: Family_hurt_parent(self, scope): 0 self 1 scope 2 parent -/
def b_7 (c : Nat → DF) : DSt :=
  (dSeq (dAsg (dOp oIx (dOp oIx (dFld c_Family nm_Family 0 (dVar 0)) (dVar 1)) (dC (.int 0))) (dgName 2))
  (dSeq (dIf (dOr (dTb (dOp (oIs false) (dVar 2) (dC .non))) (dNot (dTb (dCall bIsi (dCons (dOp oIx (dFld c_Family nm_Family 2 (dVar 0)) (dVar 1)) (dCons (dC (.ty "tuple")) dNil)))))) dRetN dNext)
  (dSeq (dIf (dTb (dOp (oIs false) (dOp oIx (dFld c_Family nm_Family 3 (dVar 0)) (dVar 2)) (dC .non))) (dAsg (dOp oIx (dOp oIx (dFld c_Family nm_Family 2 (dVar 0)) (dVar 1)) (dC (.int 1))) (dgSub (dFld c_Family nm_Family 3 (dVar 0)) (dVar 2) sIx)) dNext)
  (dIf (dTb (dOp (oEq false) (dOp oIx (dOp oIx (dFld c_Family nm_Family 0 (dVar 0)) (dVar 2)) (dC (.int 1))) (dC (.str "strict")))) (dDrop (dMeth c_Family nm_Family (c 2) (dVar 0) (dCons (dOp oAdd (dLst (dCons (dVar 2) dNil)) (dMeth c_Family nm_Family (c 1) (dVar 0) (dCons (dVar 2) dNil))) dNil))) dNext))))
def f_7 : FnD := ⟨2, 3, b_7⟩
/- 8: scopes_behind(tree, events): 0 tree 1 events 2 family 3 event 4 end -/
def b_8 (c : Nat → DF) : DSt :=
  (dSeq (dAsg (dMake c_Family nm_Family (c 0) (dCons (dVar 0) dNil)) (dgName 2))
  (dSeq (dFor (dIter (dVar 1)) (dgName 3) (dDrop (dMeth c_Family nm_Family (c 3) (dVar 2) (dCons (dVar 3) dNil))))
  (dRet (dCall bTuple (dCons (dLc (dIter (dFld c_Family nm_Family 2 (dVar 2))) (dgName 4) dYes (dIfE (dTb (dOp (oIs false) (dVar 4) (dC .non))) (dC (.str "open")) (dVar 4)) [4]) dNil)))))
def f_8 : FnD := ⟨2, 5, b_8⟩
/- 9: _law_draws(script, many): 0 script 1 many 2 cells 3 cell 4 left 5 draws 6 k 7 place 8 mixed -/
def b_9 (c : Nat → DF) : DSt :=
  (dSeq (dAsg (dLc (dIter (dSl (dVar 0) dNoPart (dPart (dC (.int 63))))) (dgName 3) dYes (dOp oMod (dCall bInt (dCons (dVar 3) dNil)) (dOp oShl (dC (.int 1)) (dC (.int 7200)))) [3]) (dgName 2))
  (dSeq (dIf (dTb (dOp (oEq false) (dCall bLen (dCons (dVar 2) dNil)) (dC (.int 0)))) (dDrop (dBM okLst (mLst fAppend) (dVar 2) (dCons (dC (.int 0)) dNil))) dNext)
  (dSeq (dAsg (dCall bList (dCons (dVar 2) dNil)) (dgName 4))
  (dSeq (dAsg (dLst dNil) (dgName 5))
  (dSeq (dFor (dRng1 (dCons (dVar 1) dNil)) (dgName 6) (dSeq (dAsg (dOp oMod (dCall bInt (dCons (dVar 6) dNil)) (dCall bLen (dCons (dVar 2) dNil))) (dgName 7))
    (dIf (dAnd (dTb (dOp (oCmp .ge) (dOp oIx (dVar 2) (dVar 7)) (dOp oPow (dC (.int 10)) (dC (.int 18))))) (dTb (dOp (oCmp .gt) (dOp oIx (dVar 4) (dVar 7)) (dC (.int 0))))) (dSeq (dDrop (dBM okLst (mLst fAppend) (dVar 5) (dCons (dOp oMod (dCall bInt (dCons (dOp oIx (dVar 4) (dVar 7)) dNil)) (dC (.int 1000))) dNil)))
      (dAsg (dOp oFdv (dOp oIx (dVar 4) (dVar 7)) (dC (.int 1000))) (dgSub (dVar 4) (dVar 7) sIx))) (dSeq (dAsg (dOp oMod (dCall bInt (dCons (dOp oAdd (dOp oAdd (dOp oMul (dOp oIx (dVar 2) (dVar 7)) (dC (.int 48271))) (dOp oMul (dVar 6) (dC (.int 69621)))) (dC (.int 11))) dNil)) (dC (.int 2147483647))) (dgName 8))
      (dDrop (dBM okLst (mLst fAppend) (dVar 5) (dCons (dOp oMod (dCall bInt (dCons (dOp oAdd (dOp oAdd (dOp oMul (dVar 8) (dVar 8)) (dOp oMul (dC (.int 3)) (dVar 8))) (dVar 6)) dNil)) (dC (.int 1000003))) dNil)))))))
  (dSeq (dDrop (dBM okLst (mLst fReverse) (dVar 5) dNil))
  (dRet (dVar 5))))))))
def f_9 : FnD := ⟨2, 9, b_9⟩
/- 10: _law_take(draws, many): 0 draws 1 many -/
def b_10 (c : Nat → DF) : DSt :=
  (dSeq (dIf (dTb (dOp (oEq false) (dCall bLen (dCons (dVar 0) dNil)) (dC (.int 0)))) (dRet (dC (.int 0))) dNext)
  (dRet (dOp oMod (dCall bInt (dCons (dBM okLst (mLst fPop) (dVar 0) dNil) dNil)) (dVar 1))))
def f_10 : FnD := ⟨2, 2, b_10⟩
/- 11: _law_pick(draws, row): 0 draws 1 row -/
def b_11 (c : Nat → DF) : DSt :=
  (dRet (dOp oIx (dVar 1) (dCall (c 10) (dCons (dVar 0) (dCons (dCall bLen (dCons (dVar 1) dNil)) dNil)))))
def f_11 : FnD := ⟨2, 2, b_11⟩
/- 12: _law_same(actual, due): 0 actual 1 due 2 k -/
def b_12 (c : Nat → DF) : DSt :=
  (dSeq (dIf (dTb (dCall bIsi (dCons (dVar 1) (dCons (dTup (dCons (dC (.ty "tuple")) (dCons (dC (.ty "list")) dNil))) dNil)))) (dSeq (dIf (dOr (dTb (dOp (oEq true) (dCall bIsi (dCons (dVar 0) (dCons (dC (.ty "tuple")) dNil))) (dCall bIsi (dCons (dVar 1) (dCons (dC (.ty "tuple")) dNil))))) (dTb (dOp (oEq true) (dCall bIsi (dCons (dVar 0) (dCons (dC (.ty "list")) dNil))) (dCall bIsi (dCons (dVar 1) (dCons (dC (.ty "list")) dNil)))))) (dRet (dC (.bl false))) dNext)
    (dSeq (dIf (dTb (dOp (oEq true) (dCall bLen (dCons (dVar 0) dNil)) (dCall bLen (dCons (dVar 1) dNil)))) (dRet (dC (.bl false))) dNext)
    (dRet (dOp (oIn true) (dC (.bl false)) (dLc (dRng1 (dCons (dCall bLen (dCons (dVar 1) dNil)) dNil)) (dgName 2) dYes (dCall (c 12) (dCons (dOp oIx (dVar 0) (dVar 2)) (dCons (dOp oIx (dVar 1) (dVar 2)) dNil))) [2]))))) dNext)
  (dSeq (dIf (dOr (dTb (dOp (oEq true) (dCall bIsi (dCons (dVar 0) (dCons (dC (.ty "bool")) dNil))) (dCall bIsi (dCons (dVar 1) (dCons (dC (.ty "bool")) dNil))))) (dTb (dOp (oEq true) (dCall bIsi (dCons (dVar 0) (dCons (dC (.ty "int")) dNil))) (dCall bIsi (dCons (dVar 1) (dCons (dC (.ty "int")) dNil)))))) (dRet (dC (.bl false))) dNext)
  (dSeq (dIf (dOr (dTb (dOp (oEq true) (dCall bIsi (dCons (dVar 0) (dCons (dC (.ty "str")) dNil))) (dCall bIsi (dCons (dVar 1) (dCons (dC (.ty "str")) dNil))))) (dTb (dOp (oEq true) (dOp (oIs false) (dVar 0) (dC .non)) (dOp (oIs false) (dVar 1) (dC .non))))) (dRet (dC (.bl false))) dNext)
  (dRet (dOp (oEq false) (dVar 0) (dVar 1))))))
def f_12 : FnD := ⟨2, 3, b_12⟩
/- 13: _law_shuffled(draws, row): 0 draws 1 row 2 left 3 told 4 k -/
def b_13 (c : Nat → DF) : DSt :=
  (dSeq (dAsg (dCall bList (dCons (dVar 1) dNil)) (dgName 2))
  (dSeq (dAsg (dLst dNil) (dgName 3))
  (dSeq (dFor (dRng1 (dCons (dCall bLen (dCons (dVar 2) dNil)) dNil)) (dgName 4) (dDrop (dBM okLst (mLst fAppend) (dVar 3) (dCons (dBM okLst (mLst fPopAt) (dVar 2) (dCons (dCall (c 10) (dCons (dVar 0) (dCons (dCall bLen (dCons (dVar 2) dNil)) dNil))) dNil)) dNil))))
  (dRet (dVar 3)))))
def f_13 : FnD := ⟨2, 5, b_13⟩
/- 14: _law_word(draws): 0 draws 1 size 2 j -/
def b_14 (c : Nat → DF) : DSt :=
  (dSeq (dAsg (dOp oAdd (dC (.int 1)) (dCall (c 10) (dCons (dVar 0) (dCons (dC (.int 3)) dNil)))) (dgName 1))
  (dSeq (dIf (dTb (dOp (oEq false) (dCall (c 10) (dCons (dVar 0) (dCons (dC (.int 9)) dNil))) (dC (.int 0)))) (dAsg (dOp oAdd (dOp oAdd (dVar 1) (dC (.int 3))) (dCall (c 10) (dCons (dVar 0) (dCons (dC (.int 20)) dNil)))) (dgName 1)) dNext)
  (dRet (dBM okStr mJoin (dC (.str "")) (dCons (dLc (dRng1 (dCons (dVar 1) dNil)) (dgName 2) dYes (dOp oIx (dC (.str "abcdefghijklmnopqrstuvwxyz")) (dCall (c 10) (dCons (dVar 0) (dCons (dC (.int 26)) dNil)))) [2]) dNil)))))
def f_14 : FnD := ⟨1, 3, b_14⟩
/- 15: _law_parent_row(draws, many): 0 draws 1 many 2 shape 3 told 4 k -/
def b_15 (c : Nat → DF) : DSt :=
  (dSeq (dAsg (dCall (c 10) (dCons (dVar 0) (dCons (dC (.int 4)) dNil))) (dgName 2))
  (dSeq (dAsg (dLst (dCons (dC .non) dNil)) (dgName 3))
  (dSeq (dFor (dRng2 (dCons (dC (.int 1)) (dCons (dVar 1) dNil))) (dgName 4) (dDrop (dBM okLst (mLst fAppend) (dVar 3) (dCons (dOp oIx (dLst (dCons (dOp oSub (dVar 4) (dC (.int 1))) (dCons (dC (.int 0)) (dCons (dCall (c 10) (dCons (dVar 0) (dCons (dVar 4) dNil))) (dCons (dCall bMax2 (dCons (dC (.int 0)) (dCons (dOp oSub (dOp oSub (dVar 4) (dC (.int 1))) (dCall (c 10) (dCons (dVar 0) (dCons (dC (.int 3)) dNil)))) dNil))) dNil))))) (dVar 2)) dNil))))
  (dRet (dVar 3)))))
def f_15 : FnD := ⟨2, 5, b_15⟩
/- 16: _law_is_below(parents, k, top): 0 parents 1 k 2 top 3 here 4 turn -/
def b_16 (c : Nat → DF) : DSt :=
  (dSeq (dAsg (dVar 1) (dgName 3))
  (dSeq (dFor (dRng1 (dCons (dCall bLen (dCons (dVar 0) dNil)) dNil)) (dgName 4) (dSeq (dIf (dOr (dTb (dOp (oIs false) (dVar 3) (dC .non))) (dTb (dOp (oEq false) (dVar 3) (dVar 2)))) dBreak dNext)
    (dAsg (dOp oIx (dVar 0) (dVar 3)) (dgName 3))))
  (dRet (dOp (oEq false) (dVar 3) (dVar 2)))))
def f_16 : FnD := ⟨3, 5, b_16⟩
/- 17: _law_children(parents, k): 0 parents 1 k 2 j -/
def b_17 (c : Nat → DF) : DSt :=
  (dRet (dLc (dRng1 (dCons (dCall bLen (dCons (dVar 0) dNil)) dNil)) (dgName 2) (dAnd (dTb (dOp (oIs true) (dOp oIx (dVar 0) (dVar 2)) (dC .non))) (dTb (dOp (oEq false) (dOp oIx (dVar 0) (dVar 2)) (dVar 1)))) (dVar 2) [2]))
def f_17 : FnD := ⟨2, 3, b_17⟩
/- 18: _law_stop(parents, work, top): 0 parents 1 work 2 top 3 k -/
def b_18 (c : Nat → DF) : DSt :=
  (dFor (dRng1 (dCons (dCall bLen (dCons (dVar 0) dNil)) dNil)) (dgName 3) (dIf (dAnd (dTb (dOp (oEq false) (dOp oIx (dVar 1) (dVar 3)) (dTup (dCons (dC (.str "open")) dNil)))) (dTb (dCall (c 16) (dCons (dVar 0) (dCons (dVar 3) (dCons (dVar 2) dNil)))))) (dAsg (dTup (dCons (dC (.str "cancelled")) dNil)) (dgSub (dVar 1) (dVar 3) sIx)) dNext))
def f_18 : FnD := ⟨3, 4, b_18⟩
/- 19: _law_end_of(tree, work, ended, s): 0 tree 1 work 2 ended 3 s 4 parents 5 pair 6 below 7 k 8 told -/
def b_19 (c : Nat → DF) : DSt :=
  (dSeq (dAsg (dLc (dIter (dVar 0)) (dgName 5) dYes (dOp oIx (dVar 5) (dC (.int 0))) [5]) (dgName 4))
  (dSeq (dAsg (dLc (dIter (dCall (c 17) (dCons (dVar 4) (dCons (dVar 3) dNil)))) (dgName 7) dYes (dOp oIx (dVar 2) (dVar 7)) [7]) (dgName 6))
  (dSeq (dIf (dOr (dTb (dOp (oEq false) (dOp oIx (dVar 1) (dVar 3)) (dTup (dCons (dC (.str "open")) dNil)))) (dTb (dOp (oIn false) (dC .non) (dVar 6)))) (dRet (dC .non)) dNext)
  (dSeq (dIf (dTb (dOp (oEq false) (dOp oIx (dOp oIx (dVar 1) (dVar 3)) (dC (.int 0))) (dC (.str "failed")))) (dRet (dOp oIx (dVar 1) (dVar 3))) dNext)
  (dSeq (dIf (dTb (dOp (oEq false) (dOp oIx (dOp oIx (dVar 0) (dVar 3)) (dC (.int 1))) (dC (.str "strict")))) (dFor (dIter (dVar 6)) (dgName 8) (dIf (dTb (dOp (oEq false) (dOp oIx (dVar 8) (dC (.int 0))) (dC (.str "failed")))) (dRet (dVar 8)) dNext)) dNext)
  (dRet (dOp oIx (dVar 1) (dVar 3))))))))
def f_19 : FnD := ⟨4, 9, b_19⟩
/- 20: _law_scope_event(tree, work, ended, event): 0 tree 1 work 2 ended 3 event 4 parents 5 pair 6 s 7 turn 8 k 9 told -/
def b_20 (c : Nat → DF) : DSt :=
  (dSeq (dAsg (dLc (dIter (dVar 0)) (dgName 5) dYes (dOp oIx (dVar 5) (dC (.int 0))) [5]) (dgName 4))
  (dSeq (dAsg (dOp oIx (dVar 3) (dC (.int 1))) (dgName 6))
  (dSeq (dIf (dTb (dOp (oEq false) (dOp oIx (dVar 3) (dC (.int 0))) (dC (.str "cancel")))) (dDrop (dCall (c 18) (dCons (dVar 4) (dCons (dVar 1) (dCons (dVar 6) dNil))))) (dIf (dTb (dOp (oEq false) (dOp oIx (dVar 1) (dVar 6)) (dTup (dCons (dC (.str "open")) dNil)))) (dIf (dTb (dOp (oEq false) (dOp oIx (dVar 3) (dC (.int 0))) (dC (.str "done")))) (dAsg (dTup (dCons (dC (.str "good")) dNil)) (dgSub (dVar 1) (dVar 6) sIx)) (dSeq (dAsg (dTup (dCons (dC (.str "failed")) (dCons (dOp oIx (dVar 3) (dC (.int 2))) dNil))) (dgSub (dVar 1) (dVar 6) sIx))
        (dDrop (dCall (c 18) (dCons (dVar 4) (dCons (dVar 1) (dCons (dVar 6) dNil))))))) dNext))
  (dFor (dRng1 (dCons (dOp oAdd (dCall bLen (dCons (dVar 0) dNil)) (dC (.int 1))) dNil)) (dgName 7) (dFor (dRng3 (dCons (dOp oSub (dCall bLen (dCons (dVar 0) dNil)) (dC (.int 1))) (dCons (dUn uNeg (dC (.int 1))) (dCons (dUn uNeg (dC (.int 1))) dNil)))) (dgName 8) (dIf (dTb (dOp (oIs false) (dOp oIx (dVar 2) (dVar 8)) (dC .non))) (dSeq (dAsg (dCall (c 19) (dCons (dVar 0) (dCons (dVar 1) (dCons (dVar 2) (dCons (dVar 8) dNil))))) (dgName 9))
        (dIf (dTb (dOp (oIs true) (dVar 9) (dC .non))) (dSeq (dAsg (dVar 9) (dgSub (dVar 2) (dVar 8) sIx))
          (dIf (dAnd (dTb (dOp (oEq false) (dOp oIx (dVar 9) (dC (.int 0))) (dC (.str "failed")))) (dAnd (dTb (dOp (oIs true) (dOp oIx (dVar 4) (dVar 8)) (dC .non))) (dTb (dOp (oEq false) (dOp oIx (dOp oIx (dVar 0) (dOp oIx (dVar 4) (dVar 8))) (dC (.int 1))) (dC (.str "strict")))))) (dDrop (dCall (c 18) (dCons (dVar 4) (dCons (dVar 1) (dCons (dOp oIx (dVar 4) (dVar 8)) dNil))))) dNext)) dNext)) dNext))))))
def f_20 : FnD := ⟨4, 10, b_20⟩
/- 21: _law_scope_words(ended): 0 ended 1 told 2 end -/
def b_21 (c : Nat → DF) : DSt :=
  (dSeq (dAsg (dLst dNil) (dgName 1))
  (dSeq (dFor (dIter (dVar 0)) (dgName 2) (dIf (dTb (dOp (oIs false) (dVar 2) (dC .non))) (dDrop (dBM okLst (mLst fAppend) (dVar 1) (dCons (dC (.str "open")) dNil))) (dIf (dTb (dOp (oEq false) (dOp oIx (dVar 2) (dC (.int 0))) (dC (.str "failed")))) (dDrop (dBM okLst (mLst fAppend) (dVar 1) (dCons (dVar 2) dNil))) (dDrop (dBM okLst (mLst fAppend) (dVar 1) (dCons (dOp oIx (dVar 2) (dC (.int 0))) dNil))))))
  (dRet (dCall bTuple (dCons (dVar 1) dNil)))))
def f_21 : FnD := ⟨1, 3, b_21⟩
/- 22: _law_scope_stages(tree, events): 0 tree 1 events 2 work 3 ended 4 told 5 event -/
def b_22 (c : Nat → DF) : DSt :=
  (dSeq (dAsg (dOp oMul (dLst (dCons (dTup (dCons (dC (.str "open")) dNil)) dNil)) (dCall bLen (dCons (dVar 0) dNil))) (dgName 2))
  (dSeq (dAsg (dOp oMul (dLst (dCons (dC .non) dNil)) (dCall bLen (dCons (dVar 0) dNil))) (dgName 3))
  (dSeq (dAsg (dLst (dCons (dCall (c 21) (dCons (dVar 3) dNil)) dNil)) (dgName 4))
  (dSeq (dFor (dIter (dVar 1)) (dgName 5) (dSeq (dDrop (dCall (c 20) (dCons (dVar 0) (dCons (dVar 2) (dCons (dVar 3) (dCons (dVar 5) dNil))))))
    (dDrop (dBM okLst (mLst fAppend) (dVar 4) (dCons (dCall (c 21) (dCons (dVar 3) dNil)) dNil)))))
  (dRet (dVar 4))))))
def f_22 : FnD := ⟨2, 6, b_22⟩
/- 23: _law_tree(draws, many): 0 draws 1 many 2 parent -/
def b_23 (c : Nat → DF) : DSt :=
  (dRet (dCall bTuple (dCons (dLc (dIter (dCall (c 15) (dCons (dVar 0) (dCons (dVar 1) dNil)))) (dgName 2) dYes (dTup (dCons (dVar 2) (dCons (dCall (c 11) (dCons (dVar 0) (dCons (dLst (dCons (dC (.str "strict")) (dCons (dC (.str "calm")) dNil))) dNil))) dNil))) [2]) dNil)))
def f_23 : FnD := ⟨2, 3, b_23⟩
/- 24: _law_scope_events(draws, many, count): 0 draws 1 many 2 count 3 told 4 k 5 kind 6 s -/
def b_24 (c : Nat → DF) : DSt :=
  (dSeq (dAsg (dLst dNil) (dgName 3))
  (dSeq (dFor (dRng1 (dCons (dVar 2) dNil)) (dgName 4) (dSeq (dAsg (dCall (c 11) (dCons (dVar 0) (dCons (dLst (dCons (dC (.str "done")) (dCons (dC (.str "done")) (dCons (dC (.str "done")) (dCons (dC (.str "done")) (dCons (dC (.str "fail")) (dCons (dC (.str "cancel")) dNil))))))) dNil))) (dgName 5))
    (dSeq (dAsg (dCall (c 10) (dCons (dVar 0) (dCons (dVar 1) dNil))) (dgName 6))
    (dIf (dTb (dOp (oEq false) (dVar 5) (dC (.str "fail")))) (dDrop (dBM okLst (mLst fAppend) (dVar 3) (dCons (dTup (dCons (dVar 5) (dCons (dVar 6) (dCons (dCall (c 14) (dCons (dVar 0) dNil)) dNil)))) dNil))) (dDrop (dBM okLst (mLst fAppend) (dVar 3) (dCons (dTup (dCons (dVar 5) (dCons (dVar 6) dNil))) dNil)))))))
  (dRet (dCall bTuple (dCons (dVar 3) dNil)))))
def f_24 : FnD := ⟨3, 7, b_24⟩
/- 25: _law_told_cases(draws): 0 draws 1 word 2 top 3 middle 4 tree 5 cases -/
def b_25 (c : Nat → DF) : DSt :=
  (dSeq (dAsg (dCall (c 14) (dCons (dVar 0) dNil)) (dgName 1))
  (dSeq (dAsg (dCall (c 11) (dCons (dVar 0) (dCons (dLst (dCons (dC (.str "strict")) (dCons (dC (.str "calm")) dNil))) dNil))) (dgName 2))
  (dSeq (dAsg (dCall (c 11) (dCons (dVar 0) (dCons (dLst (dCons (dC (.str "strict")) (dCons (dC (.str "calm")) dNil))) dNil))) (dgName 3))
  (dSeq (dAsg (dTup (dCons (dTup (dCons (dC .non) (dCons (dVar 2) dNil))) (dCons (dTup (dCons (dC (.int 0)) (dCons (dVar 3) dNil))) (dCons (dTup (dCons (dC (.int 1)) (dCons (dCall (c 11) (dCons (dVar 0) (dCons (dLst (dCons (dC (.str "strict")) (dCons (dC (.str "calm")) dNil))) dNil))) dNil))) (dCons (dTup (dCons (dC (.int 1)) (dCons (dC (.str "calm")) dNil))) (dCons (dTup (dCons (dC (.int 0)) (dCons (dC (.str "strict")) dNil))) (dCons (dTup (dCons (dC (.int 4)) (dCons (dC (.str "calm")) dNil))) dNil))))))) (dgName 4))
  (dSeq (dAsg (dLst (dCons (dTup (dCons (dVar 4) (dCons (dTup (dCons (dTup (dCons (dC (.str "fail")) (dCons (dC (.int 2)) (dCons (dVar 1) dNil)))) (dCons (dTup (dCons (dC (.str "done")) (dCons (dC (.int 1)) dNil))) (dCons (dTup (dCons (dC (.str "done")) (dCons (dC (.int 3)) dNil))) (dCons (dTup (dCons (dC (.str "done")) (dCons (dC (.int 0)) dNil))) dNil))))) dNil))) dNil)) (dgName 5))
  (dSeq (dDrop (dBM okLst (mLst fAppend) (dVar 5) (dCons (dTup (dCons (dVar 4) (dCons (dTup (dCons (dTup (dCons (dC (.str "done")) (dCons (dC (.int 1)) dNil))) (dCons (dTup (dCons (dC (.str "fail")) (dCons (dC (.int 3)) (dCons (dVar 1) dNil)))) (dCons (dTup (dCons (dC (.str "fail")) (dCons (dC (.int 2)) (dCons (dC (.str "x")) dNil)))) (dCons (dTup (dCons (dC (.str "done")) (dCons (dC (.int 5)) dNil))) (dCons (dTup (dCons (dC (.str "done")) (dCons (dC (.int 4)) dNil))) (dCons (dTup (dCons (dC (.str "done")) (dCons (dC (.int 0)) dNil))) dNil))))))) dNil))) dNil)))
  (dSeq (dDrop (dBM okLst (mLst fAppend) (dVar 5) (dCons (dTup (dCons (dVar 4) (dCons (dTup (dCons (dTup (dCons (dC (.str "fail")) (dCons (dC (.int 4)) (dCons (dVar 1) dNil)))) (dCons (dTup (dCons (dC (.str "done")) (dCons (dC (.int 0)) dNil))) (dCons (dTup (dCons (dC (.str "cancel")) (dCons (dC (.int 1)) dNil))) (dCons (dTup (dCons (dC (.str "fail")) (dCons (dC (.int 0)) (dCons (dC (.str "y")) dNil)))) dNil))))) dNil))) dNil)))
  (dSeq (dDrop (dBM okLst (mLst fAppend) (dVar 5) (dCons (dTup (dCons (dVar 4) (dCons (dTup (dCons (dTup (dCons (dC (.str "done")) (dCons (dC (.int 0)) dNil))) (dCons (dTup (dCons (dC (.str "cancel")) (dCons (dC (.int 0)) dNil))) (dCons (dTup (dCons (dC (.str "fail")) (dCons (dC (.int 0)) (dCons (dVar 1) dNil)))) dNil)))) dNil))) dNil)))
  (dSeq (dDrop (dBM okLst (mLst fAppend) (dVar 5) (dCons (dTup (dCons (dVar 4) (dCons (dTup (dCons (dTup (dCons (dC (.str "fail")) (dCons (dC (.int 0)) (dCons (dVar 1) dNil)))) (dCons (dTup (dCons (dC (.str "done")) (dCons (dC (.int 2)) dNil))) dNil))) dNil))) dNil)))
  (dRet (dVar 5)))))))))))
def f_25 : FnD := ⟨1, 6, b_25⟩
/- 26: law(script): 0 script 1 draws 2 cases 3 k 4 many 5 tree 6 events 7 due -/
def b_26 (c : Nat → DF) : DSt :=
  (dSeq (dAsg (dCall (c 9) (dCons (dVar 0) (dCons (dC (.int 400)) dNil))) (dgName 1))
  (dSeq (dAsg (dCall (c 25) (dCons (dVar 1) dNil)) (dgName 2))
  (dSeq (dFor (dRng1 (dCons (dC (.int 2)) dNil)) (dgName 3) (dSeq (dAsg (dOp oAdd (dC (.int 1)) (dCall (c 10) (dCons (dVar 1) (dCons (dC (.int 12)) dNil)))) (dgName 4))
    (dDrop (dBM okLst (mLst fAppend) (dVar 2) (dCons (dTup (dCons (dCall (c 23) (dCons (dVar 1) (dCons (dVar 4) dNil))) (dCons (dCall (c 24) (dCons (dVar 1) (dCons (dVar 4) (dCons (dCall (c 10) (dCons (dVar 1) (dCons (dC (.int 19)) dNil))) dNil)))) dNil))) dNil)))))
  (dSeq (dFor (dIter (dVar 2)) (dgTup 2 (dgCons (dgName 5) (dgCons (dgName 6) dgNil))) (dSeq (dAsg (dCall (c 22) (dCons (dVar 5) (dCons (dVar 6) dNil))) (dgName 7))
    (dFor (dIter (dCall (c 13) (dCons (dVar 1) (dCons (dLstRg (dRg1 (dOp oAdd (dCall bLen (dCons (dVar 6) dNil)) (dC (.int 1))))) dNil)))) (dgName 3) (dIf (dNot (dTb (dCall (c 12) (dCons (dCall (c 8) (dCons (dVar 5) (dCons (dSl (dVar 6) dNoPart (dPart (dVar 3))) dNil))) (dCons (dOp oIx (dVar 7) (dVar 3)) dNil))))) (dRet (dC (.bl false))) dNext))))
  (dRet (dC (.bl true)))))))
def f_26 : FnD := ⟨1, 8, b_26⟩
def fs : Nat → FnD
  | 0 => f_0
  | 1 => f_1
  | 2 => f_2
  | 3 => f_3
  | 4 => f_4
  | 5 => f_5
  | 6 => f_6
  | 7 => f_7
  | 8 => f_8
  | 9 => f_9
  | 10 => f_10
  | 11 => f_11
  | 12 => f_12
  | 13 => f_13
  | 14 => f_14
  | 15 => f_15
  | 16 => f_16
  | 17 => f_17
  | 18 => f_18
  | 19 => f_19
  | 20 => f_20
  | 21 => f_21
  | 22 => f_22
  | 23 => f_23
  | 24 => f_24
  | 25 => f_25
  | 26 => f_26
  | _ => ⟨0, 0, fun _ => dNever⟩
theorem run_Family___init__ {n : Nat} {a0 a1 : D} {S : DS} {Q : DK} (h : b_0 (sem fs n) { nx := fun _ S' => Q .non S', rt := Q, bk := fun _ _ => False, ct := fun _ _ => False } [some a0, some a1, none, none, none, none] S) : sem fs (n + 1) 0 [a0, a1] S Q := ⟨rfl, h⟩
theorem run_Family_all_below {n : Nat} {a0 a1 : D} {S : DS} {Q : DK} (h : b_1 (sem fs n) { nx := fun _ S' => Q .non S', rt := Q, bk := fun _ _ => False, ct := fun _ _ => False } [some a0, some a1, none, none, none] S) : sem fs (n + 1) 1 [a0, a1] S Q := ⟨rfl, h⟩
theorem run_Family_cancel_own {n : Nat} {a0 a1 : D} {S : DS} {Q : DK} (h : b_2 (sem fs n) { nx := fun _ S' => Q .non S', rt := Q, bk := fun _ _ => False, ct := fun _ _ => False } [some a0, some a1, none] S) : sem fs (n + 1) 2 [a0, a1] S Q := ⟨rfl, h⟩
theorem run_Family_happen {n : Nat} {a0 a1 : D} {S : DS} {Q : DK} (h : b_3 (sem fs n) { nx := fun _ S' => Q .non S', rt := Q, bk := fun _ _ => False, ct := fun _ _ => False } [some a0, some a1, none] S) : sem fs (n + 1) 3 [a0, a1] S Q := ⟨rfl, h⟩
theorem run_Family_end_more {n : Nat} {a0 : D} {S : DS} {Q : DK} (h : b_4 (sem fs n) { nx := fun _ S' => Q .non S', rt := Q, bk := fun _ _ => False, ct := fun _ _ => False } [some a0, none, none] S) : sem fs (n + 1) 4 [a0] S Q := ⟨rfl, h⟩
theorem run_Family_can_end {n : Nat} {a0 a1 : D} {S : DS} {Q : DK} (h : b_5 (sem fs n) { nx := fun _ S' => Q .non S', rt := Q, bk := fun _ _ => False, ct := fun _ _ => False } [some a0, some a1, none] S) : sem fs (n + 1) 5 [a0, a1] S Q := ⟨rfl, h⟩
theorem run_Family_ending {n : Nat} {a0 a1 : D} {S : DS} {Q : DK} (h : b_6 (sem fs n) { nx := fun _ S' => Q .non S', rt := Q, bk := fun _ _ => False, ct := fun _ _ => False } [some a0, some a1] S) : sem fs (n + 1) 6 [a0, a1] S Q := ⟨rfl, h⟩
theorem run_Family_hurt_parent {n : Nat} {a0 a1 : D} {S : DS} {Q : DK} (h : b_7 (sem fs n) { nx := fun _ S' => Q .non S', rt := Q, bk := fun _ _ => False, ct := fun _ _ => False } [some a0, some a1, none] S) : sem fs (n + 1) 7 [a0, a1] S Q := ⟨rfl, h⟩
theorem run_scopes_behind {n : Nat} {a0 a1 : D} {S : DS} {Q : DK} (h : b_8 (sem fs n) { nx := fun _ S' => Q .non S', rt := Q, bk := fun _ _ => False, ct := fun _ _ => False } [some a0, some a1, none, none, none] S) : sem fs (n + 1) 8 [a0, a1] S Q := ⟨rfl, h⟩
theorem run__law_draws {n : Nat} {a0 a1 : D} {S : DS} {Q : DK} (h : b_9 (sem fs n) { nx := fun _ S' => Q .non S', rt := Q, bk := fun _ _ => False, ct := fun _ _ => False } [some a0, some a1, none, none, none, none, none, none, none] S) : sem fs (n + 1) 9 [a0, a1] S Q := ⟨rfl, h⟩
theorem run__law_take {n : Nat} {a0 a1 : D} {S : DS} {Q : DK} (h : b_10 (sem fs n) { nx := fun _ S' => Q .non S', rt := Q, bk := fun _ _ => False, ct := fun _ _ => False } [some a0, some a1] S) : sem fs (n + 1) 10 [a0, a1] S Q := ⟨rfl, h⟩
theorem run__law_pick {n : Nat} {a0 a1 : D} {S : DS} {Q : DK} (h : b_11 (sem fs n) { nx := fun _ S' => Q .non S', rt := Q, bk := fun _ _ => False, ct := fun _ _ => False } [some a0, some a1] S) : sem fs (n + 1) 11 [a0, a1] S Q := ⟨rfl, h⟩
theorem run__law_same {n : Nat} {a0 a1 : D} {S : DS} {Q : DK} (h : b_12 (sem fs n) { nx := fun _ S' => Q .non S', rt := Q, bk := fun _ _ => False, ct := fun _ _ => False } [some a0, some a1, none] S) : sem fs (n + 1) 12 [a0, a1] S Q := ⟨rfl, h⟩
theorem run__law_shuffled {n : Nat} {a0 a1 : D} {S : DS} {Q : DK} (h : b_13 (sem fs n) { nx := fun _ S' => Q .non S', rt := Q, bk := fun _ _ => False, ct := fun _ _ => False } [some a0, some a1, none, none, none] S) : sem fs (n + 1) 13 [a0, a1] S Q := ⟨rfl, h⟩
theorem run__law_word {n : Nat} {a0 : D} {S : DS} {Q : DK} (h : b_14 (sem fs n) { nx := fun _ S' => Q .non S', rt := Q, bk := fun _ _ => False, ct := fun _ _ => False } [some a0, none, none] S) : sem fs (n + 1) 14 [a0] S Q := ⟨rfl, h⟩
theorem run__law_parent_row {n : Nat} {a0 a1 : D} {S : DS} {Q : DK} (h : b_15 (sem fs n) { nx := fun _ S' => Q .non S', rt := Q, bk := fun _ _ => False, ct := fun _ _ => False } [some a0, some a1, none, none, none] S) : sem fs (n + 1) 15 [a0, a1] S Q := ⟨rfl, h⟩
theorem run__law_is_below {n : Nat} {a0 a1 a2 : D} {S : DS} {Q : DK} (h : b_16 (sem fs n) { nx := fun _ S' => Q .non S', rt := Q, bk := fun _ _ => False, ct := fun _ _ => False } [some a0, some a1, some a2, none, none] S) : sem fs (n + 1) 16 [a0, a1, a2] S Q := ⟨rfl, h⟩
theorem run__law_children {n : Nat} {a0 a1 : D} {S : DS} {Q : DK} (h : b_17 (sem fs n) { nx := fun _ S' => Q .non S', rt := Q, bk := fun _ _ => False, ct := fun _ _ => False } [some a0, some a1, none] S) : sem fs (n + 1) 17 [a0, a1] S Q := ⟨rfl, h⟩
theorem run__law_stop {n : Nat} {a0 a1 a2 : D} {S : DS} {Q : DK} (h : b_18 (sem fs n) { nx := fun _ S' => Q .non S', rt := Q, bk := fun _ _ => False, ct := fun _ _ => False } [some a0, some a1, some a2, none] S) : sem fs (n + 1) 18 [a0, a1, a2] S Q := ⟨rfl, h⟩
theorem run__law_end_of {n : Nat} {a0 a1 a2 a3 : D} {S : DS} {Q : DK} (h : b_19 (sem fs n) { nx := fun _ S' => Q .non S', rt := Q, bk := fun _ _ => False, ct := fun _ _ => False } [some a0, some a1, some a2, some a3, none, none, none, none, none] S) : sem fs (n + 1) 19 [a0, a1, a2, a3] S Q := ⟨rfl, h⟩
theorem run__law_scope_event {n : Nat} {a0 a1 a2 a3 : D} {S : DS} {Q : DK} (h : b_20 (sem fs n) { nx := fun _ S' => Q .non S', rt := Q, bk := fun _ _ => False, ct := fun _ _ => False } [some a0, some a1, some a2, some a3, none, none, none, none, none, none] S) : sem fs (n + 1) 20 [a0, a1, a2, a3] S Q := ⟨rfl, h⟩
theorem run__law_scope_words {n : Nat} {a0 : D} {S : DS} {Q : DK} (h : b_21 (sem fs n) { nx := fun _ S' => Q .non S', rt := Q, bk := fun _ _ => False, ct := fun _ _ => False } [some a0, none, none] S) : sem fs (n + 1) 21 [a0] S Q := ⟨rfl, h⟩
theorem run__law_scope_stages {n : Nat} {a0 a1 : D} {S : DS} {Q : DK} (h : b_22 (sem fs n) { nx := fun _ S' => Q .non S', rt := Q, bk := fun _ _ => False, ct := fun _ _ => False } [some a0, some a1, none, none, none, none] S) : sem fs (n + 1) 22 [a0, a1] S Q := ⟨rfl, h⟩
theorem run__law_tree {n : Nat} {a0 a1 : D} {S : DS} {Q : DK} (h : b_23 (sem fs n) { nx := fun _ S' => Q .non S', rt := Q, bk := fun _ _ => False, ct := fun _ _ => False } [some a0, some a1, none] S) : sem fs (n + 1) 23 [a0, a1] S Q := ⟨rfl, h⟩
theorem run__law_scope_events {n : Nat} {a0 a1 a2 : D} {S : DS} {Q : DK} (h : b_24 (sem fs n) { nx := fun _ S' => Q .non S', rt := Q, bk := fun _ _ => False, ct := fun _ _ => False } [some a0, some a1, some a2, none, none, none, none] S) : sem fs (n + 1) 24 [a0, a1, a2] S Q := ⟨rfl, h⟩
theorem run__law_told_cases {n : Nat} {a0 : D} {S : DS} {Q : DK} (h : b_25 (sem fs n) { nx := fun _ S' => Q .non S', rt := Q, bk := fun _ _ => False, ct := fun _ _ => False } [some a0, none, none, none, none, none] S) : sem fs (n + 1) 25 [a0] S Q := ⟨rfl, h⟩
theorem run_law {n : Nat} {a0 : D} {S : DS} {Q : DK} (h : b_26 (sem fs n) { nx := fun _ S' => Q .non S', rt := Q, bk := fun _ _ => False, ct := fun _ _ => False } [some a0, none, none, none, none, none, none, none] S) : sem fs (n + 1) 26 [a0] S Q := ⟨rfl, h⟩
end Gk66
namespace Gk66
open PySem L2 DL
local macro_rules | `(tactic| walk_at "look") => `(tactic| first | assumption | exact dupd_same | ((with_reducible refine Ext.get (by assumption) ?_); walk_at "look") | ((with_reducible refine But.get (by assumption) ?_ ?_); walk_at "neq"; walk_at "look"))
local macro_rules | `(tactic| walk_at "neq") => `(tactic| first | assumption | (refine Ne.symm ?_; assumption) | (refine dne ?_ (by assumption); walk_at "look"; done) | (refine Ne.symm (dne ?_ (by assumption)); walk_at "look"; done))
local macro_rules | `(tactic| walk_at "fresh") => `(tactic| first | assumption | (refine Ext.back ?_ (by assumption); walk_at "ext"; done) | (refine But.back ?_ ?_ (by assumption); rotate_left; walk_at "neq"; walk_at "but"; done))
local macro_rules | `(tactic| walk_at "ext") => `(tactic| first | assumption | exact Ext.refl _ | ((with_reducible refine Ext.trans ?_ (by assumption)); walk_at "ext"; done) | ((with_reducible refine Ext.but ?_ (by assumption) ?_); rotate_left; walk_at "fresh"; walk_at "ext"; done))
local macro_rules | `(tactic| walk_at "but") => `(tactic| first | assumption | ((with_reducible refine But.ext ?_ (by assumption)); walk_at "but"; done) | ((with_reducible refine But.trans ?_ (by assumption)); walk_at "but"; done) | ((with_reducible refine But.but ?_ (by assumption) ?_); rotate_left; walk_at "fresh"; walk_at "but"; done) | (refine Ext.toBut ?_; walk_at "ext"; done))
local macro_rules | `(tactic| walk_at "d") => `(tactic| first
  | (with_reducible refine i_seq ?_)
  | (with_reducible refine i_asg ?_)
  | ((with_reducible refine' i_var ?e ?_); (case e => rfl))
  | (with_reducible refine i_c ?_)
  | (with_reducible refine i_cons ?_)
  | (with_reducible refine i_nil ?_)
  | ((with_reducible refine i_tup ?_))
  | ((with_reducible refine' i_len ?e ?_); (case e => exact rfl))
  | (with_reducible refine i_lst ?_)
  | (with_reducible refine i_op ?_)
  | (with_reducible refine i_un ?_)
  | (with_reducible refine i_tb ?_)
  | (with_reducible refine i_asB ?_)
  | (with_reducible refine i_call ?_)
  | (with_reducible refine i_bm ?_)
  | (with_reducible refine i_if ?_)
  | (with_reducible refine i_ret ?_)
  | (with_reducible refine i_next ?_)
  | (with_reducible refine i_drop ?_)
  | ((with_reducible refine' i_gname ?e ?_); (case e => (simp only [dwipe, List.set_cons_zero, List.set_cons_succ, List.set_nil]; exact rfl)))
  | ((with_reducible refine i_gtup ?e ?_); (case e => rfl))
  | (with_reducible refine i_gcons ?_)
  | (with_reducible refine i_gnil ?_)
  | (with_reducible refine i_gsub ?_)
  | (with_reducible refine i_and ?_)
  | (with_reducible refine i_or ?_)
  | (with_reducible refine i_not ?_)
  | (with_reducible refine i_andV ?_)
  | (with_reducible refine i_orV ?_)
  | (with_reducible refine i_notV ?_)
  | (with_reducible refine i_ifE ?_)
  | (with_reducible refine i_chain ?_)
  | (with_reducible refine i_sl ?_)
  | (with_reducible refine i_noPart ?_)
  | (with_reducible refine i_part ?_)
  | (with_reducible refine i_asP ?_)
  | (with_reducible refine i_yes ?_)
  | (with_reducible refine i_break ?_)
  | (with_reducible refine i_cont ?_)
  | (with_reducible refine i_retN ?_)
  | (with_reducible refine i_par ?_)
  | ((with_reducible refine' i_par2 ?e ?_); (case e => (simp only [List.set_cons_zero, List.set_cons_succ, List.set_nil]; exact rfl)))
  | ((with_reducible refine' i_aug ?e ?_); (case e => rfl))
  | (with_reducible refine i_augS ?_)
  | (with_reducible refine i_for ?_)
  | ((with_reducible refine' i_lc ?e ?_); (case e => (simp only [dwipe, List.set_cons_zero, List.set_cons_succ, List.set_nil]; exact rfl)))
  | ((with_reducible refine' i_lc2 ?e ?_); (case e => (simp only [dwipe, List.set_cons_zero, List.set_cons_succ, List.set_nil]; exact rfl)))
  | (with_reducible refine i_iter ?_)
  | (with_reducible refine i_iterV_tup ?_)
  | (with_reducible refine i_iterV_fl ?_)
  | ((with_reducible refine' i_iterV_ref ?e ?_); (case e => (walk_at "look"; done)))
  | (with_reducible refine i_rng1 ?_)
  | (with_reducible refine i_rng2 ?_)
  | (with_reducible refine i_rev ?_)
  | (with_reducible refine i_enum ?_)
  | (with_reducible refine i_rg1 ?_)
  | (with_reducible refine i_rg1V ?_)
  | (with_reducible refine i_rg2 ?_)
  | (with_reducible refine i_rg2V ?_)
  | (with_reducible refine i_lstRg ?_)
  | (with_reducible refine i_tupRg ?_)
  | (with_reducible refine i_revR ?_)
  | (with_reducible refine i_rng3 ?_)
  | (with_reducible refine i_zip ?_)
  | (with_reducible refine i_zipT ?_)
  | (with_reducible refine i_rvS ?_)
  | (with_reducible refine i_rvT ?_)
  | (with_reducible refine i_rvF ?_)
  | ((with_reducible refine' i_rvL ?e ?_); (case e => (walk_at "look"; done)))
  | (with_reducible refine o_addI ?_)
  | (with_reducible refine o_subI ?_)
  | (with_reducible refine o_neg ?_)
  | (with_reducible refine o_ltI ?_)
  | (with_reducible refine o_leI ?_)
  | (with_reducible refine o_gtI ?_)
  | (with_reducible refine o_geI ?_)
  | (with_reducible refine o_eqI ?_)
  | (with_reducible refine o_neI ?_)
  | (with_reducible refine o_eqS ?_)
  | (with_reducible refine o_neS ?_)
  | (with_reducible refine o_eqB ?_)
  | (with_reducible refine o_neB ?_)
  | (with_reducible refine o_is ?_)
  | (with_reducible refine o_isnot ?_)
  | (with_reducible refine o_isBl ?_)
  | (with_reducible refine o_notBl ?_)
  | (with_reducible refine o_bitI ?_)
  | (with_reducible refine o_slT ?_)
  | (with_reducible refine o_slF ?_)
  | ((with_reducible refine' o_slL ?e ?_); (case e => (walk_at "look"; done)))
  | (with_reducible refine c_lenT ?_)
  | (with_reducible refine c_lenF ?_)
  | ((with_reducible refine' c_lenL ?e ?_); (case e => (walk_at "look"; done)))
  | (with_reducible refine c_int ?_)
  | (with_reducible refine c_intB ?_)
  | (with_reducible refine c_abs ?_)
  | (with_reducible refine c_max2 ?_)
  | (with_reducible refine c_min2 ?_)
  | (with_reducible refine c_listT ?_)
  | (with_reducible refine c_listF ?_)
  | ((with_reducible refine' c_listL ?e ?_); (case e => (walk_at "look"; done)))
  | (with_reducible refine c_tupleT ?_)
  | (with_reducible refine c_tupleF ?_)
  | ((with_reducible refine' c_tupleL ?e ?_); (case e => (walk_at "look"; done)))
  | ((with_reducible refine' ok_L ?e ?_); (case e => (walk_at "look"; done)))
  | (with_reducible refine ok_S ?_)
  | (with_reducible refine ite_t ?_)
  | (with_reducible refine ite_f ?_)
  | (with_reducible refine ite_nt ?_)
  | (with_reducible refine ite_nf ?_))
local macro_rules | `(tactic| walk_at "e") => `(tactic| first
  | (walk_at "d")
  | (with_reducible refine i_dct0 ?_)
  | (with_reducible refine i_enumT ?_)
  | (with_reducible refine i_orT ?_)
  | ((with_reducible refine' i_dc ?e ?_); (case e => (simp only [dwipe, List.set_cons_zero, List.set_cons_succ, List.set_nil]; exact rfl)))
  | (with_reducible refine i_dct1 ?_)
  | (with_reducible refine i_sortK ?_)
  | (with_reducible refine i_minK ?_)
  | (with_reducible refine i_items ?_)
  | (with_reducible refine i_vals ?_)
  | (with_reducible refine i_lstVals ?_)
  | (with_reducible refine i_star ?_)
  | ((with_reducible refine' i_gtupL ?e0 ?e ?_); (case e0 => (walk_at "look"; done)); (case e => rfl))
  | (walk_at "lit")
  | (walk_at "call"))
local macro_rules | `(tactic| walk_at "lit") => `(tactic| first
  | ((with_reducible refine' ite_yes ?e ?_); (case e => (with_reducible rfl)))
  | ((with_reducible refine' ite_nyes ?e ?_); (case e => (with_reducible rfl)))
  | ((with_reducible refine' ite_no ?e ?_); (case e => (decide +kernel)))
  | ((with_reducible refine' ite_nno ?e ?_); (case e => (decide +kernel)))
  | ((with_reducible refine' o_ixT ?e ?_); (case e => (exact rfl))))
local macro_rules | `(tactic| walk_at "call") => `(tactic| fail "no call")
local macro_rules | `(tactic| walk_at "w") => `(tactic| first
  | (walk_at "e")
  | (with_reducible refine i_newL (fun _ _ _ _ _ => ?_))
  | (with_reducible refine i_putL (fun _ _ _ => ?_))
  | (with_reducible refine i_newT (fun _ _ _ _ _ _ => ?_))
  | (with_reducible refine i_putD (fun _ _ _ _ => ?_)))
local macro_rules | `(tactic| walk_at "s") => `(tactic| ((fail_if_success (with_reducible refine i_seqJ (fun _ _ => True) ?_ ?_)); walk_at "e"))
def Drw (S : DS) (d : Addr) : Prop := ∃ ns : List Int, S d = some (.lst (ns.map D.int)) ∧ ns.length ≤ 1000000
theorem Drw.ext {S S' : DS} {d : Addr} (h : Drw S d) (e : Ext S S') : Drw S' d := let ⟨ns, h1, h2⟩ := h; ⟨ns, e _ _ h1, h2⟩
theorem Drw.but {S S' : DS} {d p : Addr} (h : Drw S d) (e : But p S S') (n : d ≠ p) : Drw S' d := let ⟨ns, h1, h2⟩ := h; ⟨ns, e _ _ n h1, h2⟩
theorem Drw.ne {S : DS} {d p : Addr} (h : Drw S d) (e : S p = none) : d ≠ p := let ⟨ns, h1, h2⟩ := h; dne h1 e
theorem Drw.ne' {S : DS} {d p : Addr} (h : Drw S d) (e : S p = none) : p ≠ d := (h.ne e).symm
theorem But.refl (d : Addr) (S : DS) : But d S S := fun _ _ _ h => h
theorem atI_some {α : Type} {xs : List α} {k : Int} (h0 : 0 ≤ k) (h1 : k < (xs.length : Int)) : ∃ v, L2.atI xs k = some v ∧ v ∈ xs ∧ xs[k.toNat]? = some v := by
  have hk : k.toNat < xs.length := by omega
  have e : k = ((k.toNat : Nat) : Int) := by omega
  have := L2.atI_nat (List.getElem?_eq_getElem hk)
  rw [← e] at this
  exact ⟨xs[k.toNat], this, List.getElem_mem hk, List.getElem?_eq_getElem hk⟩
theorem atI_at {α : Type} {xs : List α} {j : Nat} {k : Int} {v : α} (e : k = (j : Int)) (h : xs[j]? = some v) : L2.atI xs k = some v := by subst e; exact L2.atI_nat h
theorem ixN_at {n j : Nat} {k : Int} (e : k = (j : Int)) (h : j < n) : ixN n k = some j := by
  subst e; unfold ixN; rw [if_pos (by omega), if_pos (by omega)]; simp
theorem rng_at {lo : Int} {n m : Nat} {x : D} (h : (rngL lo n)[m]? = some x) : x = .int (lo + (m : Int)) ∧ m < n := by
  unfold rngL at h
  rw [List.getElem?_map] at h
  by_cases hm : m < n
  · rw [List.getElem?_range hm] at h; exact ⟨(Option.some.inj h).symm, hm⟩
  · rw [List.getElem?_eq_none (by rw [List.length_range]; omega)] at h; cases h
theorem rng_len {lo : Int} {n : Nat} : (rngL lo n).length = n := by unfold rngL; rw [List.length_map, List.length_range]
theorem log2_lt {z : Nat} {k : Nat} (hz : z < 2 ^ k) : z.log2 ≤ k := by
  by_cases h0 : z = 0
  · subst h0; rw [Nat.log2_zero]; exact Nat.zero_le _
  · exact Nat.le_of_lt ((Nat.log2_lt h0).mpr hz)
theorem lt_log {x y : Int} (hx : x.natAbs < 2 ^ 9000) (hy : y.natAbs < 2 ^ 9000) : x.natAbs.log2 + y.natAbs.log2 < 1000000 := by
  have := log2_lt hx
  have := log2_lt hy
  omega
def Pl : Nat → D → Prop
  | 0, _ => False
  | m + 1, d => match d with
    | .non => True
    | .bl _ => True
    | .int _ => True
    | .str _ => True
    | .tup xs => xs.length ≤ 16777216 ∧ ∀ x ∈ xs, Pl m x
    | _ => False
theorem Pl.up {m : Nat} {d : D} (h : Pl m d) : Pl (m + 1) d := by
  induction m generalizing d with
  | zero => exact h.elim
  | succ m ih =>
    cases d with
    | tup xs => exact ⟨h.1, fun x hx => ih (h.2 x hx)⟩
    | non => trivial
    | bl b => trivial
    | int b => trivial
    | str b => trivial
    | _ => exact h.elim
theorem Pl.int {m : Nat} {i : Int} : Pl (m + 1) (.int i) := True.intro
theorem Pl.str {m : Nat} {i : Str} : Pl (m + 1) (.str i) := True.intro
theorem Pl.bl {m : Nat} {i : Bool} : Pl (m + 1) (.bl i) := True.intro
theorem Pl.non {m : Nat} : Pl (m + 1) .non := True.intro
theorem Pl.tup {m : Nat} {xs : List D} (hl : xs.length ≤ 16777216) (h : ∀ x ∈ xs, Pl m x) : Pl (m + 1) (.tup xs) := ⟨hl, h⟩
theorem pow_le {a b : Nat} (h : a ≤ b) : (2 : Nat) ^ a ≤ 2 ^ b := Nat.pow_le_pow_right (by decide) h
/-- a comprehension over what stands in a list: what each item gives -/
theorem lc_fm {α : Type} {xs : List α} {ex : α → D} (f : α → Option D) (J : DS → Prop) {stay : DS → Prop} {g : DG} {t : DT} {a : DE} {δ : DL.Loc} {KK : List D → DS → Prop} {S : DS} (hl : xs.length ≤ 16777216) (h0 : J S) (hst : ∀ S, J S → stay S)
    (turn : ∀ x ∈ xs, ∀ (acc : List D) S (nx : List D → DS → Prop), acc.length < 16777216 → J S → (∀ S', J S' → nx (acc ++ (f x).toList) S') → g (ex x) δ S fun δ2 S2 => t δ2 S2 fun b S3 => if b = true then a δ2 S3 fun y S4 => acc.length < 16777216 ∧ nx (acc ++ [y]) S4 else nx acc S3)
    (done : ∀ S, J S → KK (xs.filterMap f) S) : lcT stay g t a δ KK (xs.map ex) [] S := by
  refine lc_inv (fun m acc S => acc = (xs.take m).filterMap f ∧ J S) ⟨rfl, h0⟩ (fun m acc S _ p => hst S p.2) (fun m x acc S nx hx hm p hnx => ?_) (fun acc S p => ?_)
  · obtain ⟨rfl, hJ⟩ := p
    rw [List.getElem?_map] at hx
    rw [List.length_map] at hm
    cases e : xs[m]? with
    | none => rw [e] at hx; cases hx
    | some z =>
      rw [e] at hx
      obtain rfl := (Option.some.inj hx).symm
      have hlen : ((xs.take m).filterMap f).length ≤ m := Nat.le_trans (List.length_filterMap_le ..) (List.length_take_le ..)
      refine turn z (List.mem_of_getElem? e) _ S nx (by omega) hJ fun S' hJ' => hnx _ S' ⟨?_, hJ'⟩
      rw [List.take_add_one, e, List.filterMap_append]
      cases hf : f z with
      | none => simp [hf]
      | some y => simp [hf]
  · obtain ⟨rfl, hJ⟩ := p
    rw [List.length_map, List.take_length]
    exact done S hJ
theorem lc_map {α : Type} {xs : List α} {ex : α → D} (f : α → D) (J : DS → Prop) {stay : DS → Prop} {g : DG} {t : DT} {a : DE} {δ : DL.Loc} {KK : List D → DS → Prop} {S : DS} (hl : xs.length ≤ 16777216) (h0 : J S) (hst : ∀ S, J S → stay S)
    (turn : ∀ x ∈ xs, ∀ (acc : List D) S (nx : List D → DS → Prop), acc.length < 16777216 → J S → (∀ S', J S' → nx (acc ++ [f x]) S') → g (ex x) δ S fun δ2 S2 => t δ2 S2 fun b S3 => if b = true then a δ2 S3 fun y S4 => acc.length < 16777216 ∧ nx (acc ++ [y]) S4 else nx acc S3)
    (done : ∀ S, J S → KK (xs.map f) S) : lcT stay g t a δ KK (xs.map ex) [] S :=
  lc_fm (fun x => some (f x)) J hl h0 hst (fun x hx acc S nx hacc hJ hnx => turn x hx acc S nx hacc hJ hnx) fun S hJ => by
    rw [show xs.filterMap (fun x => some (f x)) = xs.map f from congrFun List.filterMap_eq_map xs]
    exact done S hJ
theorem rng_map {lo : Int} {n : Nat} : rngL lo n = (List.range n).map fun (i : Nat) => D.int (lo + (i : Int)) := rfl
theorem lst_map_at {α : Type} {xs : List α} {f : α → D} {j : Nat} {k : Int} {x : α} (e : k = (j : Int)) (h : xs[j]? = some x) : L2.atI (xs.map f) k = some (f x) := atI_at e (by rw [List.getElem?_map, h]; rfl)
theorem map_at {α : Type} {xs : List α} {f : α → D} {j : Nat} {y : D} (h : (xs.map f)[j]? = some y) : ∃ x, xs[j]? = some x ∧ y = f x := by
  rw [List.getElem?_map] at h
  cases e : xs[j]? with
  | none => rw [e] at h; cases h
  | some x => rw [e] at h; exact ⟨x, rfl, (Option.some.inj h).symm⟩
theorem take_succ' {α : Type} {xs : List α} {j : Nat} {x : α} (h : xs[j]? = some x) : xs.take (j + 1) = xs.take j ++ [x] := by
  rw [List.take_add_one, h]; rfl
theorem o_addV {k l m : Int} (h : k + l = m) {S : DS} {Q : DK} (hq : Q (.int m) S) : oAdd (.int k) (.int l) S Q := by
  show Q (.int (k + l)) S
  rw [h]; exact hq
theorem take_spec {n : Nat} {S : DS} {d : Addr} {m : Int} {Q : DK} (hd : Drw S d) (hm : 0 < m) (h : ∀ k S', 0 ≤ k → k < m → But d S S' → Drw S' d → Q (.int k) S') : sem fs (n + 1) 10 [.ref d, .int m] S Q := by
  obtain ⟨ns, h1, h2⟩ := hd
  refine run__law_take ?_
  unfold b_10
  repeat walk_at "d"
  refine ite_dec (fun c => ?_) (fun c => ?_)
  · repeat walk_at "d"
    exact h 0 S (Int.le_refl 0) hm (But.refl _ _) ⟨ns, h1, h2⟩
  · rcases List.eq_nil_or_concat ns with e | ⟨ms, v, e⟩
    · subst e; exact absurd rfl c
    · subst e
      rw [List.concat_eq_append, List.map_append] at h1
      rw [List.concat_eq_append, List.length_append] at h2
      repeat walk_at "d"
      refine m_pop h1 (by rw [List.length_map]; omega) (i_putL fun S1 e1 b1 => ?_)
      repeat walk_at "d"
      exact o_modI hm (h _ S1 (Int.emod_nonneg _ (by omega)) (Int.emod_lt_of_pos _ hm) b1 ⟨ms, e1, by omega⟩)
theorem pick_spec {n : Nat} {S : DS} {d r : Addr} {xs : List D} {Q : DK} (hd : Drw S d) (hr : S r = some (.lst xs)) (hn : xs ≠ []) (hne : r ≠ d) (h : ∀ v S', v ∈ xs → But d S S' → Drw S' d → Q v S') : sem fs (n + 2) 11 [.ref d, .ref r] S Q := by
  refine run__law_pick ?_
  unfold b_11
  repeat walk_at "d"
  have hl : 0 < (xs.length : Int) := by
    cases xs with
    | nil => exact absurd rfl hn
    | cons a b => simp only [List.length_cons]; omega
  refine take_spec hd hl fun k S1 h0 h1 b1 d1 => ?_
  obtain ⟨v, e, hv, _⟩ := atI_some h0 h1
  exact o_ixL (b1.get hne hr) e (h v S1 hv b1 d1)
theorem pickT_spec {n : Nat} {S : DS} {d : Addr} {xs : List D} {Q : DK} (hd : Drw S d) (hn : xs ≠ []) (h : ∀ v S', v ∈ xs → But d S S' → Drw S' d → Q v S') : sem fs (n + 2) 11 [.ref d, .tup xs] S Q := by
  refine run__law_pick ?_
  unfold b_11
  repeat walk_at "d"
  have hl : 0 < (xs.length : Int) := by
    cases xs with
    | nil => exact absurd rfl hn
    | cons a b => simp only [List.length_cons]; omega
  refine take_spec hd hl fun k S1 h0 h1 b1 d1 => ?_
  obtain ⟨v, e, hv, _⟩ := atI_some h0 h1
  exact o_ixT e (h v S1 hv b1 d1)
theorem draws_spec {n : Nat} {S : DS} {ns : List Int} {m : Int} {Q : DK} (hm : 0 ≤ m ∧ m ≤ 1000000) (h : ∀ p S', Ext S S' → S p = none → Drw S' p → Q (.ref p) S') : sem fs (n + 1) 9 [.fl (ns.map D.int), .int m] S Q := by
  refine run__law_draws ?_
  unfold b_9
  repeat walk_at "d"
  refine i_newL fun p0 S0 n0 e0 x0 => ?_
  repeat walk_at "d"
  refine lc_inv (fun j acc S1 => (∃ cs : List Int, acc = cs.map D.int ∧ cs.length = j ∧ ∀ c ∈ cs, 0 ≤ c ∧ c < 2 ^ 7200) ∧ Ext S S1 ∧ S1 p0 = some (.lst (dcut (ns.map D.int) none (some 63)))) ⟨⟨[], rfl, rfl, fun c h => by cases h⟩, x0, e0⟩ (fun j acc S1 hj p => seq_ref p.2.2) (fun j x acc S1 nx hx hj p hnx => ?_) (fun acc S1 p => ?_)
  · obtain ⟨⟨cs, rfl, hl, hc⟩, x1, e1⟩ := p
    have hxm := List.mem_of_getElem? hx
    have hxi : ∃ v, x = D.int v := by
      unfold dcut at hxm
      have := List.mem_of_mem_drop (List.mem_of_mem_take hxm)
      obtain ⟨v, _, q⟩ := List.mem_map.mp this
      exact ⟨v, q.symm⟩
    obtain ⟨v, rfl⟩ := hxi
    have hlen : (dcut (ns.map D.int) none (some 63)).length ≤ 63 := by
      unfold dcut
      rw [List.length_take]
      refine Nat.le_trans (Nat.min_le_left _ _) (Nat.le_trans (Nat.sub_le _ _) ?_)
      exact Nat.min_le_left _ _
    repeat walk_at "d"
    refine o_shlI (by decide) ?_
    repeat walk_at "d"
    have hpos : (0 : Int) < 1 * 2 ^ 7200 := by rw [Int.one_mul]; exact Int.pow_pos (by decide)
    refine o_modI hpos ⟨by rw [List.length_map]; omega, hnx _ _ ⟨⟨cs ++ [v % (1 * 2 ^ 7200)], by rw [List.map_append]; rfl, by rw [List.length_append, hl]; rfl, fun c hc' => ?_⟩, x1, e1⟩⟩
    rcases List.mem_append.mp hc' with q | q
    · exact hc c q
    · rw [List.mem_singleton.mp q]
      exact ⟨Int.emod_nonneg _ (by omega), Int.lt_of_lt_of_le (Int.emod_lt_of_pos _ hpos) (Int.le_of_eq (Int.one_mul _))⟩
  · obtain ⟨⟨cs, rfl, hl, hc⟩, x1, e1⟩ := p
    have hlen : (dcut (ns.map D.int) none (some 63)).length ≤ 63 := by
      unfold dcut
      rw [List.length_take]
      refine Nat.le_trans (Nat.min_le_left _ _) (Nat.le_trans (Nat.sub_le _ _) ?_)
      exact Nat.min_le_left _ _
    refine i_newL fun p1 S2 n2 e2 x2 => ?_
    replace x2 := x1.trans x2
    have n1 := Ext.back x1 n2
    clear x1 e1 x0 e0 n0
    have fin : ∀ (cs : List Int) (S2 : DS), cs ≠ [] → cs.length ≤ 64 → (∀ c ∈ cs, 0 ≤ c ∧ c < 2 ^ 7200) → S2 p1 = some (.lst (cs.map D.int)) → Ext S S2 → (dSeq (dAsg (dCall bList (dCons (dVar 2) dNil)) (dgName 4))
  (dSeq (dAsg (dLst dNil) (dgName 5))
  (dSeq (dFor (dRng1 (dCons (dVar 1) dNil)) (dgName 6) (dSeq (dAsg (dOp oMod (dCall bInt (dCons (dVar 6) dNil)) (dCall bLen (dCons (dVar 2) dNil))) (dgName 7))
    (dIf (dAnd (dTb (dOp (oCmp .ge) (dOp oIx (dVar 2) (dVar 7)) (dOp oPow (dC (.int 10)) (dC (.int 18))))) (dTb (dOp (oCmp .gt) (dOp oIx (dVar 4) (dVar 7)) (dC (.int 0))))) (dSeq (dDrop (dBM okLst (mLst fAppend) (dVar 5) (dCons (dOp oMod (dCall bInt (dCons (dOp oIx (dVar 4) (dVar 7)) dNil)) (dC (.int 1000))) dNil)))
      (dAsg (dOp oFdv (dOp oIx (dVar 4) (dVar 7)) (dC (.int 1000))) (dgSub (dVar 4) (dVar 7) sIx))) (dSeq (dAsg (dOp oMod (dCall bInt (dCons (dOp oAdd (dOp oAdd (dOp oMul (dOp oIx (dVar 2) (dVar 7)) (dC (.int 48271))) (dOp oMul (dVar 6) (dC (.int 69621)))) (dC (.int 11))) dNil)) (dC (.int 2147483647))) (dgName 8))
      (dDrop (dBM okLst (mLst fAppend) (dVar 5) (dCons (dOp oMod (dCall bInt (dCons (dOp oAdd (dOp oAdd (dOp oMul (dVar 8) (dVar 8)) (dOp oMul (dC (.int 3)) (dVar 8))) (dVar 6)) dNil)) (dC (.int 1000003))) dNil)))))))
  (dSeq (dDrop (dBM okLst (mLst fReverse) (dVar 5) dNil))
  (dRet (dVar 5)))))) { nx := fun _ S' => Q .non S', rt := Q, bk := fun _ _ => False, ct := fun _ _ => False } [some (.fl (ns.map D.int)), some (.int m), some (.ref p1), none, none, none, none, none, none] S2 := by
      intro cs S2 hne hl hc e2 x2
      have hp1 : 0 < cs.length := List.length_pos_iff.mpr hne
      repeat walk_at "d"
      refine i_newL fun p2 S3 n3 e3 x3 => ?_
      repeat walk_at "d"
      refine i_newL fun p3 S4 n4 e4 x4 => ?_
      repeat walk_at "d"
      refine i_rng1V (by omega) (for_inv (fun j δ S5 => ∃ a b c, ∃ ls ds : List Int, δ = [some (.fl (ns.map D.int)), some (.int m), some (.ref p1), none, some (.ref p2), some (.ref p3), a, b, c] ∧ ls.length = cs.length ∧ ds.length = j ∧ S5 p1 = some (.lst (cs.map D.int)) ∧ S5 p2 = some (.lst (ls.map D.int)) ∧ S5 p3 = some (.lst (ds.map D.int)) ∧ Ext S S5) ?_ ?_ ?_ ?_)
      · refine ⟨none, none, none, cs, [], rfl, rfl, rfl, x4.get (x3.get e2), x4.get e3, e4, x2.trans (x3.trans x4)⟩
      · exact fun _ _ _ _ _ => True.intro
      · rintro j x δ S5 nx hx hj ⟨a, b, c, ls, ds, rfl, h1, h2, e1, e2', e3', x5⟩ hnx
        obtain ⟨rfl, hjm⟩ := rng_at hx
        rw [Int.zero_add]
        have n12 : p1 ≠ p2 := fun e => by rw [← e] at n3; rw [n3] at e2; cases e2
        have n13 : p1 ≠ p3 := fun e => by rw [← e] at n4; rw [x3.get e2] at n4; cases n4
        have n23 : p2 ≠ p3 := fun e => by rw [← e] at n4; rw [e3] at n4; cases n4
        have bk : ∀ (S6 : DS), But p3 S5 S6 → Ext S S6 := fun S6 b6 => x5.but b6 (Ext.back x2 (Ext.back x3 n4))
        repeat walk_at "d"
        refine o_modI (by rw [List.length_map]; omega) ?_
        rw [List.length_map]
        repeat walk_at "d"
        have g0 := Int.emod_nonneg (j : Int) (show ((cs.length : Nat) : Int) ≠ 0 by omega)
        have g1 := Int.emod_lt_of_pos (j : Int) (show 0 < ((cs.length : Nat) : Int) by omega)
        generalize hk : (j : Int) % (cs.length : Int) = k at g0 g1
        have t1 : ∃ v, L2.atI (cs.map D.int) k = some (.int v) ∧ 0 ≤ v ∧ v < 2 ^ 7200 := by
          obtain ⟨v, q1, q2, q3⟩ := atI_some (xs := cs.map D.int) g0 (by rw [List.length_map]; exact g1)
          obtain ⟨w, q4, q5⟩ := List.mem_map.mp q2
          subst q5
          exact ⟨w, q1, hc w q4⟩
        have t2 : ∃ v, L2.atI (ls.map D.int) k = some (.int v) := by
          obtain ⟨v, q1, q2, q3⟩ := atI_some (xs := ls.map D.int) g0 (by rw [List.length_map, h1]; exact g1)
          obtain ⟨w, q4, q5⟩ := List.mem_map.mp q2
          subst q5
          exact ⟨w, q1⟩
        obtain ⟨v, q1, v0, v1⟩ := t1
        obtain ⟨w, q2⟩ := t2
        refine o_ixL e1 q1 ?_
        repeat walk_at "d"
        refine o_powI (by decide) ?_
        repeat walk_at "d"
        have els : (dSeq (dAsg (dOp oMod (dCall bInt (dCons (dOp oAdd (dOp oAdd (dOp oMul (dOp oIx (dVar 2) (dVar 7)) (dC (.int 48271))) (dOp oMul (dVar 6) (dC (.int 69621)))) (dC (.int 11))) dNil)) (dC (.int 2147483647))) (dgName 8))
      (dDrop (dBM okLst (mLst fAppend) (dVar 5) (dCons (dOp oMod (dCall bInt (dCons (dOp oAdd (dOp oAdd (dOp oMul (dVar 8) (dVar 8)) (dOp oMul (dC (.int 3)) (dVar 8))) (dVar 6)) dNil)) (dC (.int 1000003))) dNil)))) ⟨nx, Q, fun δ S => dSeq (dDrop (dBM okLst (mLst fReverse) (dVar 5) dNil))
  (dRet (dVar 5)) ⟨fun _ S' => Q .non S', Q, fun _ _ => False, fun _ _ => False⟩ δ S, nx⟩ [some (.fl (ns.map D.int)), some (.int m), some (.ref p1), none, some (.ref p2), some (.ref p3), some (.int j), some (.int k), c] S5 := by
          repeat walk_at "d"
          refine o_ixL e1 q1 ?_
          repeat walk_at "d"
          have b7200 : (2 : Int) ^ 7200 = ((2 ^ 7200 : Nat) : Int) := by rw [Int.natCast_pow]; rfl
          have hv : v.natAbs < 2 ^ 9000 := Nat.lt_of_lt_of_le (show v.natAbs < 2 ^ 7200 by rw [b7200] at v1; omega) (Nat.pow_le_pow_right (by decide) (by decide))
          have sm : ∀ z : Int, 0 ≤ z → z < 2 ^ 40 → z.natAbs < 2 ^ 9000 := fun z z0 z1 => Nat.lt_of_lt_of_le (show z.natAbs < 2 ^ 40 by omega) (Nat.pow_le_pow_right (by decide) (by decide))
          refine o_mulI (lt_log hv (sm _ (by decide) (by decide))) ?_
          repeat walk_at "d"
          refine o_mulI (lt_log (sm _ (by omega) (by omega)) (sm _ (by decide) (by decide))) ?_
          repeat walk_at "d"
          refine o_modI (by decide) ?_
          repeat walk_at "d"
          generalize hz : (v * 48271 + (j : Int) * 69621 + 11) % 2147483647 = z
          have z0 : 0 ≤ z := by rw [← hz]; exact Int.emod_nonneg _ (by decide)
          have z1 : z < 2147483647 := by rw [← hz]; exact Int.emod_lt_of_pos _ (by decide)
          refine o_mulI (lt_log (sm _ (by omega) (by omega)) (sm _ (by omega) (by omega))) ?_
          repeat walk_at "d"
          refine o_mulI (lt_log (sm _ (by decide) (by decide)) (sm _ (by omega) (by omega))) ?_
          repeat walk_at "d"
          refine o_modI (by decide) ?_
          repeat walk_at "d"
          refine m_append e3' (by rw [List.length_append, List.length_map]; show ds.length + 1 ≤ _; omega) (i_putL fun S6 e6 b6 => ?_)
          refine hnx _ _ ⟨_, _, _, ls, ds ++ [_], rfl, h1, by rw [List.length_append, h2]; rfl, b6.get n13 e1, b6.get n23 e2', by rw [List.map_append]; exact e6, bk _ b6⟩
        refine ite_dec (fun c1 => ?_) (fun c1 => ?_)
        · repeat walk_at "d"
          refine o_ixL e2' q2 ?_
          repeat walk_at "d"
          refine ite_dec (fun c2 => ?_) (fun c2 => ?_)
          · repeat walk_at "d"
            refine o_ixL e2' q2 ?_
            repeat walk_at "d"
            refine o_modI (by decide) ?_
            repeat walk_at "d"
            refine m_append e3' (by rw [List.length_append, List.length_map]; show ds.length + 1 ≤ _; omega) (i_putL fun S6 e6 b6 => ?_)
            repeat walk_at "d"
            refine o_ixL (b6.get n23 e2') q2 ?_
            repeat walk_at "d"
            refine o_fdvI (by decide) ?_
            repeat walk_at "d"
            refine s_ix (m := k.toNat) (b6.get n23 e2') (ixN_at (by omega) (by rw [List.length_map]; omega)) (i_putL fun S7 e7 b7 => ?_)
            refine hnx _ _ ⟨_, _, _, ls.set k.toNat (w / 1000), ds ++ [_], rfl, by rw [List.length_set]; exact h1, by rw [List.length_append, h2]; rfl, b7.get n12 (b6.get n13 e1), by rw [List.map_set]; exact e7, b7.get n23.symm (by rw [List.map_append]; exact e6), (bk _ b6).but b7 (Ext.back x2 n3)⟩
          · exact els
        · exact els
      · rintro δ S5 ⟨a, b, c, ls, ds, rfl, h1, h2, e1, e2', e3', x5⟩
        rw [rng_len] at h2
        repeat walk_at "d"
        refine m_reverse e3' (by rw [List.length_map]; omega) (i_putL fun S6 e6 b6 => ?_)
        repeat walk_at "d"
        exact h p3 S6 (x5.but b6 (Ext.back x2 (Ext.back x3 n4))) (Ext.back x2 (Ext.back x3 n4)) ⟨ds.reverse, by rw [List.map_reverse]; exact e6, by rw [List.length_reverse]; omega⟩
    repeat walk_at "d"
    refine ite_dec (fun c => ?_) (fun c => ?_)
    · have hcs : cs = [] := by
        rw [List.length_map] at c
        exact List.eq_nil_of_length_eq_zero (by omega)
      subst hcs
      repeat walk_at "d"
      refine m_append e2 (by decide) (i_putL fun S3 e3 b3 => ?_)
      exact fin [0] S3 (by simp) (by decide) (fun c hc => by rw [List.mem_singleton.mp hc]; exact ⟨by decide, Int.pow_pos (by decide)⟩) e3 (x2.but b3 n1)
    · refine i_next ?_
      refine fin cs S2 (fun e => by subst e; exact c rfl) (by rw [hl]; omega) hc e2 x2
theorem same_spec {n : Nat} : ∀ {m : Nat} {d : D} {S : DS} {Q : DK}, Pl m d → (∀ S', Ext S S' → Q (.bl true) S') → sem fs (n + m) 12 [d, d] S Q := by
  intro m
  induction m with
  | zero => intro d S Q h; exact h.elim
  | succ m ih =>
    intro d S Q h hq
    refine run__law_same ?_
    unfold b_12
    cases d with
    | tup xs =>
      obtain ⟨hl, hx⟩ := h
      repeat walk_at "d"
      refine c_isi2 (s := "tuple") rfl rfl rfl ?_
      repeat walk_at "d"
      refine ite_b (fun _ => ?_) (fun e => absurd e (by decide))
      repeat walk_at "d"
      refine c_isi (s := "tuple") rfl rfl ?_
      repeat walk_at "d"
      refine c_isi (s := "tuple") rfl rfl ?_
      repeat walk_at "d"
      refine ite_b (fun e => absurd e Bool.false_ne_true) (fun _ => ?_)
      repeat walk_at "d"
      refine c_isi (s := "tuple") rfl rfl ?_
      repeat walk_at "d"
      refine c_isi (s := "tuple") rfl rfl ?_
      repeat walk_at "d"
      refine ite_b (fun e => absurd e Bool.false_ne_true) (fun _ => ?_)
      repeat walk_at "d"
      refine ite_ndec (fun e => absurd rfl e) (fun _ => ?_)
      repeat walk_at "d"
      refine i_rng1V (by omega) (lc_inv (fun j acc S1 => acc = List.replicate j (D.bl true) ∧ Ext S S1) ⟨rfl, Ext.refl S⟩ (fun _ _ _ _ _ => True.intro) ?_ ?_)
      · rintro j x acc S1 nx hx' hj ⟨rfl, e1⟩ hnx
        obtain ⟨rfl, hjm⟩ := rng_at hx'
        rw [Int.toNat_natCast] at hjm
        rw [Int.zero_add]
        obtain ⟨v, q1, q2, _⟩ := atI_some (xs := xs) (k := (j : Int)) (by omega) (by omega)
        repeat walk_at "d"
        refine o_ixT q1 ?_
        repeat walk_at "d"
        refine o_ixT q1 ?_
        repeat walk_at "d"
        refine ih (hx v q2) fun S2 e2 => ⟨by rw [List.length_replicate]; omega, hnx _ _ ⟨by rw [List.replicate_succ'], e1.trans e2⟩⟩
      · rintro acc S1 ⟨rfl, e1⟩
        refine i_newL fun p S2 n2 e2 x2 => ?_
        have hp : D.plainL ((List.replicate (rngL 0 ((xs.length : Nat) : Int).toNat).length (D.bl true)).map (D.rd S2 3)) = true := by
          generalize (rngL 0 ((xs.length : Nat) : Int).toNat).length = z
          induction z with
          | zero => rfl
          | succ z ihz => rw [List.replicate_succ, List.map_cons, D.plainL, ihz]; rfl
        have hv : (((List.replicate (rngL 0 ((xs.length : Nat) : Int).toNat).length (D.bl true)).map (D.rd S2 3)).any fun e => D.eqv e ((D.bl false).rd S2 3)) = false := by
          rw [List.any_eq_false]
          intro e he
          obtain ⟨w, hw, rfl⟩ := List.mem_map.mp he
          rw [(List.mem_replicate.mp hw).2]
          rw [D.rd_plain _ 3 plain_bl, D.rd_plain _ 3 plain_bl, eqv_bl]
          decide
        have hi : oIn true (.bl false) (.ref p) S2 Q := by
          refine oIn_lst e2 ?_
          show (match seqOf S2 (.ref p) with
            | some xs => (((D.bl false).rd S2 3).plain = true ∧ D.plainL (xs.map (D.rd S2 3)) = true ∧ ((D.bl false).rd S2 3).dep ≤ 50) ∧ Q (.bl (true ^^ (xs.map (D.rd S2 3)).any fun e => D.eqv e ((D.bl false).rd S2 3))) S2
            | none => False)
          rw [seq_ref e2]
          refine ⟨⟨by rw [D.rd_plain _ 3 plain_bl]; exact plain_bl, hp, by rw [D.rd_plain _ 3 plain_bl]; exact dep_bl⟩, ?_⟩
          rw [hv]
          exact hq S2 (e1.trans x2)
        exact hi
    | non =>
      repeat walk_at "d"
      refine c_isi2 (s := "NoneType") rfl rfl rfl ?_
      repeat walk_at "d"
      refine ite_b (fun e => absurd e Bool.false_ne_true) (fun _ => ?_)
      repeat walk_at "d"
      refine c_isi (s := "NoneType") rfl rfl ?_
      repeat walk_at "d"
      refine c_isi (s := "NoneType") rfl rfl ?_
      repeat walk_at "d"
      refine ite_b (fun e => absurd e Bool.false_ne_true) (fun _ => ?_)
      repeat walk_at "d"
      refine c_isi (s := "NoneType") rfl rfl ?_
      repeat walk_at "d"
      refine c_isi (s := "NoneType") rfl rfl ?_
      repeat walk_at "d"
      refine ite_b (fun e => absurd e Bool.false_ne_true) (fun _ => ?_)
      repeat walk_at "d"
      refine c_isi (s := "NoneType") rfl rfl ?_
      repeat walk_at "d"
      refine c_isi (s := "NoneType") rfl rfl ?_
      repeat walk_at "d"
      refine ite_b (fun e => absurd e Bool.false_ne_true) (fun _ => ?_)
      repeat walk_at "d"
      refine ite_b (fun e => absurd e Bool.false_ne_true) (fun _ => ?_)
      repeat walk_at "d"
      exact o_eqP plain_non plain_non (.inl dep_non) (hq _ (Ext.refl _))
    | bl b =>
      repeat walk_at "d"
      refine c_isi2 (s := "bool") rfl rfl rfl ?_
      repeat walk_at "d"
      refine ite_b (fun e => absurd e Bool.false_ne_true) (fun _ => ?_)
      repeat walk_at "d"
      refine c_isi (s := "bool") rfl rfl ?_
      repeat walk_at "d"
      refine c_isi (s := "bool") rfl rfl ?_
      repeat walk_at "d"
      refine ite_b (fun e => absurd e Bool.false_ne_true) (fun _ => ?_)
      repeat walk_at "d"
      refine c_isi (s := "bool") rfl rfl ?_
      repeat walk_at "d"
      refine c_isi (s := "bool") rfl rfl ?_
      repeat walk_at "d"
      refine ite_b (fun e => absurd e Bool.false_ne_true) (fun _ => ?_)
      repeat walk_at "d"
      refine c_isi (s := "bool") rfl rfl ?_
      repeat walk_at "d"
      refine c_isi (s := "bool") rfl rfl ?_
      repeat walk_at "d"
      refine ite_b (fun e => absurd e Bool.false_ne_true) (fun _ => ?_)
      repeat walk_at "d"
      refine ite_b (fun e => absurd e Bool.false_ne_true) (fun _ => ?_)
      repeat walk_at "d"
      rw [beq_self_eq_true]
      exact hq _ (Ext.refl _)
    | int i =>
      repeat walk_at "d"
      refine c_isi2 (s := "int") rfl rfl rfl ?_
      repeat walk_at "d"
      refine ite_b (fun e => absurd e Bool.false_ne_true) (fun _ => ?_)
      repeat walk_at "d"
      refine c_isi (s := "int") rfl rfl ?_
      repeat walk_at "d"
      refine c_isi (s := "int") rfl rfl ?_
      repeat walk_at "d"
      refine ite_b (fun e => absurd e Bool.false_ne_true) (fun _ => ?_)
      repeat walk_at "d"
      refine c_isi (s := "int") rfl rfl ?_
      repeat walk_at "d"
      refine c_isi (s := "int") rfl rfl ?_
      repeat walk_at "d"
      refine ite_b (fun e => absurd e Bool.false_ne_true) (fun _ => ?_)
      repeat walk_at "d"
      refine c_isi (s := "int") rfl rfl ?_
      repeat walk_at "d"
      refine c_isi (s := "int") rfl rfl ?_
      repeat walk_at "d"
      refine ite_b (fun e => absurd e Bool.false_ne_true) (fun _ => ?_)
      repeat walk_at "d"
      refine ite_b (fun e => absurd e Bool.false_ne_true) (fun _ => ?_)
      repeat walk_at "d"
      rw [decide_eq_true rfl]
      exact hq _ (Ext.refl _)
    | str z =>
      repeat walk_at "d"
      refine c_isi2 (s := "str") rfl rfl rfl ?_
      repeat walk_at "d"
      refine ite_b (fun e => absurd e Bool.false_ne_true) (fun _ => ?_)
      repeat walk_at "d"
      refine c_isi (s := "str") rfl rfl ?_
      repeat walk_at "d"
      refine c_isi (s := "str") rfl rfl ?_
      repeat walk_at "d"
      refine ite_b (fun e => absurd e Bool.false_ne_true) (fun _ => ?_)
      repeat walk_at "d"
      refine c_isi (s := "str") rfl rfl ?_
      repeat walk_at "d"
      refine c_isi (s := "str") rfl rfl ?_
      repeat walk_at "d"
      refine ite_b (fun e => absurd e Bool.false_ne_true) (fun _ => ?_)
      repeat walk_at "d"
      refine c_isi (s := "str") rfl rfl ?_
      repeat walk_at "d"
      refine c_isi (s := "str") rfl rfl ?_
      repeat walk_at "d"
      refine ite_b (fun e => absurd e Bool.false_ne_true) (fun _ => ?_)
      repeat walk_at "d"
      refine ite_b (fun e => absurd e Bool.false_ne_true) (fun _ => ?_)
      repeat walk_at "d"
      rw [decide_eq_true rfl]
      exact hq _ (Ext.refl _)
    | _ => exact h.elim
theorem tyn_ref {S : DS} {p : Addr} {xs : List D} (e : S p = some (.lst xs)) : tyName S (.ref p) = some "list" := by
  show (match S p with
    | some (.lst _) => some "list"
    | _ => none) = _
  rw [e]
theorem sameL_spec {n m : Nat} {p q : Addr} {xs : List D} {S : DS} {Q : DK} (ep : S p = some (.lst xs)) (eq : S q = some (.lst xs)) (hl : xs.length ≤ 16777216) (hx : ∀ x ∈ xs, Pl m x) (hq : ∀ S', Ext S S' → Q (.bl true) S') : sem fs (n + m + 1) 12 [.ref p, .ref q] S Q := by
  refine run__law_same ?_
  unfold b_12
  repeat walk_at "d"
  refine c_isi2 (tyn_ref eq) rfl rfl ?_
  repeat walk_at "d"
  refine ite_b (fun _ => ?_) (fun e => absurd e (by decide))
  repeat walk_at "d"
  refine c_isi (tyn_ref ep) rfl ?_
  repeat walk_at "d"
  refine c_isi (tyn_ref eq) rfl ?_
  repeat walk_at "d"
  refine ite_b (fun e => absurd e (by decide)) (fun _ => ?_)
  repeat walk_at "d"
  refine c_isi (tyn_ref ep) rfl ?_
  repeat walk_at "d"
  refine c_isi (tyn_ref eq) rfl ?_
  repeat walk_at "d"
  refine ite_b (fun e => absurd e (by decide)) (fun _ => ?_)
  repeat walk_at "d"
  refine ite_ndec (fun e => absurd rfl e) (fun _ => ?_)
  repeat walk_at "d"
  refine i_rng1V (by omega) (lc_inv (fun j acc S1 => acc = List.replicate j (D.bl true) ∧ Ext S S1) ⟨rfl, Ext.refl S⟩ (fun _ _ _ _ _ => True.intro) ?_ ?_)
  · rintro j x acc S1 nx hx' hj ⟨rfl, e1⟩ hnx
    obtain ⟨rfl, hjm⟩ := rng_at hx'
    rw [Int.toNat_natCast] at hjm
    rw [Int.zero_add]
    obtain ⟨v, q1, q2, _⟩ := atI_some (xs := xs) (k := (j : Int)) (by omega) (by omega)
    repeat walk_at "d"
    refine o_ixL (e1.get ep) q1 ?_
    repeat walk_at "d"
    refine o_ixL (e1.get eq) q1 ?_
    repeat walk_at "d"
    refine same_spec (hx v q2) fun S2 e2 => ⟨by rw [List.length_replicate]; omega, hnx _ _ ⟨by rw [List.replicate_succ'], e1.trans e2⟩⟩
  · rintro acc S1 ⟨rfl, e1⟩
    refine i_newL fun r S2 n2 e2 x2 => ?_
    have hp : D.plainL ((List.replicate (rngL 0 ((xs.length : Nat) : Int).toNat).length (D.bl true)).map (D.rd S2 3)) = true := by
      generalize (rngL 0 ((xs.length : Nat) : Int).toNat).length = z
      induction z with
      | zero => rfl
      | succ z ihz => rw [List.replicate_succ, List.map_cons, D.plainL, ihz]; rfl
    have hv : (((List.replicate (rngL 0 ((xs.length : Nat) : Int).toNat).length (D.bl true)).map (D.rd S2 3)).any fun e => D.eqv e ((D.bl false).rd S2 3)) = false := by
      rw [List.any_eq_false]
      intro e he
      obtain ⟨w, hw, rfl⟩ := List.mem_map.mp he
      rw [(List.mem_replicate.mp hw).2]
      rw [D.rd_plain _ 3 plain_bl, D.rd_plain _ 3 plain_bl, eqv_bl]
      decide
    have hi : oIn true (.bl false) (.ref r) S2 Q := by
      refine oIn_lst e2 ?_
      show (match seqOf S2 (.ref r) with
        | some xs => (((D.bl false).rd S2 3).plain = true ∧ D.plainL (xs.map (D.rd S2 3)) = true ∧ ((D.bl false).rd S2 3).dep ≤ 50) ∧ Q (.bl (true ^^ (xs.map (D.rd S2 3)).any fun e => D.eqv e ((D.bl false).rd S2 3))) S2
        | none => False)
      rw [seq_ref e2]
      refine ⟨⟨by rw [D.rd_plain _ 3 plain_bl]; exact plain_bl, hp, by rw [D.rd_plain _ 3 plain_bl]; exact dep_bl⟩, ?_⟩
      rw [hv]
      exact hq S2 (e1.trans x2)
    exact hi
theorem shuffled_spec {n : Nat} {S : DS} {d r : Addr} {xs : List D} {Q : DK} (hd : Drw S d) (hr : S r = some (.lst xs)) (hn : xs.length ≤ 100000) (h : ∀ p ys S', ys.Perm xs → S p = none → S' p = some (.lst ys) → p ≠ d → But d S S' → Drw S' d → Q (.ref p) S') : sem fs (n + 2) 13 [.ref d, .ref r] S Q := by
  refine run__law_shuffled ?_
  unfold b_13
  repeat walk_at "d"
  refine i_newL fun p1 S1 n1 e1 x1 => ?_
  repeat walk_at "d"
  refine i_newL fun p2 S2 n2 e2 x2 => ?_
  have d2 := (hd.ext x1).ext x2
  have n12 : p1 ≠ p2 := fun e => by rw [← e] at n2; rw [n2] at e1; cases e1
  have m1 := hd.ne' n1
  have m2 := (hd.ext x1).ne' n2
  repeat walk_at "d"
  refine i_rng1V (by omega) (for_inv (fun j δ S3 => ∃ k, ∃ ls ds : List D, δ = [some (.ref d), some (.ref r), some (.ref p1), some (.ref p2), k] ∧ ls.length + j = xs.length ∧ (ds ++ ls).Perm xs ∧ S3 p1 = some (.lst ls) ∧ S3 p2 = some (.lst ds) ∧ But d S S3 ∧ Drw S3 d) ⟨none, xs, [], rfl, rfl, List.Perm.refl _, x2.get e1, e2, (x1.trans x2).toBut, d2⟩ (fun _ _ _ _ _ => True.intro) ?_ ?_)
  · rintro j x δ S3 nx hx hj ⟨k, ls, ds, rfl, h1, h2, g1, g2, b3, d3⟩ hnx
    obtain ⟨rfl, hjm⟩ := rng_at hx
    rw [Int.toNat_natCast] at hjm
    have hlen := h2.length_eq
    rw [List.length_append] at hlen
    repeat walk_at "d"
    refine take_spec d3 (by omega) fun v S4 v0 v1 b4 d4 => ?_
    repeat walk_at "d"
    have g1' := b4.get m1 g1
    have g2' := b4.get m2 g2
    repeat walk_at "d"
    have hv : v.toNat < ls.length := by omega
    refine m_popAt (m := v.toNat) g1' (ixN_at (by omega) hv) (List.getElem?_eq_getElem hv) (by omega) (i_putL fun S5 e5 b5 => ?_)
    repeat walk_at "d"
    refine m_append (b5.get n12.symm g2') (by rw [List.length_append]; show ds.length + 1 ≤ _; omega) (i_putL fun S6 e6 b6 => ?_)
    refine hnx _ _ ⟨_, ls.eraseIdx v.toNat, ds ++ [ls[v.toNat]], rfl, by rw [List.length_eraseIdx_of_lt hv]; omega, ?_, b6.get n12 e5, e6, ((b3.trans b4).but b5 n1).but b6 (Ext.back x1 n2), (d4.but b5 m1.symm).but b6 m2.symm⟩
    refine List.Perm.trans ?_ h2
    rw [List.append_assoc]
    refine List.Perm.append_left ds ?_
    show (ls[v.toNat] :: ls.eraseIdx v.toNat).Perm ls
    conv => rhs; rw [← List.take_append_drop v.toNat ls, List.drop_eq_getElem_cons hv]
    rw [List.eraseIdx_eq_take_drop_succ]
    exact List.perm_middle.symm
  · rintro δ S3 ⟨k, ls, ds, rfl, h1, h2, g1, g2, b3, d3⟩
    rw [rng_len] at h1
    rw [Int.toNat_natCast] at h1
    have : ls = [] := List.eq_nil_of_length_eq_zero (by omega)
    subst this
    rw [List.append_nil] at h2
    repeat walk_at "d"
    exact h p2 ds S3 h2 (Ext.back x1 n2) g2 m2 b3 d3
theorem letters {z : Str} {k : Int} (hz : z.length = 26) (h0 : 0 ≤ k) (h1 : k < 26) : ∃ c, L2.atI z.cps.toList k = some c := by
  obtain ⟨v, q, _⟩ := atI_some (xs := z.cps.toList) h0 (by rw [Array.length_toList]; show k < ((z.length : Nat) : Int); omega)
  exact ⟨v, q⟩
theorem word_spec {n : Nat} {S : DS} {d : Addr} {Q : DK} (hd : Drw S d) (h : ∀ w S', w.length ≤ 30 → But d S S' → Drw S' d → Q (.str w) S') : sem fs (n + 2) 14 [.ref d] S Q := by
  have main : ∀ (z : Int) (S1 : DS), 0 ≤ z → z ≤ 30 → But d S S1 → Drw S1 d → dRet (dBM okStr mJoin (dC (.str "")) (dCons (dLc (dRng1 (dCons (dVar 1) dNil)) (dgName 2) dYes (dOp oIx (dC (.str "abcdefghijklmnopqrstuvwxyz")) (dCall (sem fs (n + 1) 10) (dCons (dVar 0) (dCons (dC (.int 26)) dNil)))) [2]) dNil)) { nx := fun _ S' => Q .non S', rt := Q, bk := fun _ _ => False, ct := fun _ _ => False } [some (.ref d), some (.int z), none] S1 := by
    intro z S1 z0 z1 b1 d1
    repeat walk_at "d"
    refine i_rng1V (by omega) (lc_inv (fun j acc S2 => (∃ ws : List Str, acc = ws.map D.str ∧ ws.length = j ∧ ∀ w ∈ ws, w.length = 1) ∧ But d S S2 ∧ Drw S2 d) ⟨⟨[], rfl, rfl, fun w hw => by cases hw⟩, b1, d1⟩ (fun _ _ _ _ _ => True.intro) ?_ ?_)
    · rintro j x acc S2 nx hx hj ⟨⟨ws, rfl, hl, hw⟩, b2, d2⟩ hnx
      obtain ⟨rfl, hjm⟩ := rng_at hx
      repeat walk_at "d"
      refine take_spec d2 (by decide) fun k S3 k0 k1 b3 d3 => ?_
      obtain ⟨c, hc⟩ := letters (z := "abcdefghijklmnopqrstuvwxyz") (by decide +kernel) k0 k1
      refine o_ixS (by decide +kernel) hc ⟨by rw [List.length_map]; omega, hnx _ _ ⟨⟨ws ++ [⟨#[c]⟩], by rw [List.map_append]; rfl, by rw [List.length_append, hl]; rfl, fun w h' => ?_⟩, b2.trans b3, d3⟩⟩
      rcases List.mem_append.mp h' with q | q
      · exact hw w q
      · rw [List.mem_singleton.mp q]; rfl
    · rintro acc S2 ⟨⟨ws, rfl, hl, hw⟩, b2, d2⟩
      rw [rng_len] at hl
      refine i_newL fun p S3 n3 e3 x3 => ?_
      repeat walk_at "d"
      have hs : (ws.map (·.length)).sum = ws.length := by
        clear hl e3
        induction ws with
        | nil => rfl
        | cons a r ih => rw [List.map_cons, List.sum_cons, ih fun w q => hw w (List.mem_cons_of_mem _ q), hw a (List.mem_cons_self ..), List.length_cons]; omega
      refine m_join (seq_ref e3) (by rw [hs, show Str.length "" = 0 by decide +kernel]; omega) (h _ S3 ?_ (b2.ext x3) (d2.ext x3))
      exact Nat.le_trans (Nat.le_of_eq (PySem.W.KT.join_ones ws hw)) (by omega)
  refine run__law_word ?_
  unfold b_14
  repeat walk_at "d"
  refine take_spec hd (by decide) fun k S1 k0 k1 b1 d1 => ?_
  repeat walk_at "d"
  refine take_spec d1 (by decide) fun l S2 l0 l1 b2 d2 => ?_
  repeat walk_at "d"
  refine ite_dec (fun c => ?_) (fun c => ?_)
  · repeat walk_at "d"
    refine take_spec d2 (by decide) fun l S3 l0 l1 b3 d3 => ?_
    refine o_addI (i_gname rfl ?_)
    exact main _ S3 (by omega) (by omega) ((b1.trans b2).trans b3) d3
  · refine i_next ?_
    exact main _ S2 (by omega) (by omega) (b1.trans b2) d2
theorem tnew {κ ν : Type} [DecidableEq κ] {ts : List (κ × ν)} {k : κ} (h : k ∉ ts.map (·.1)) : tget ts k = none := by
  cases e : tget ts k with
  | none => rfl
  | some v => exact absurd (List.mem_map.mpr ⟨_, tget_some e, rfl⟩) h
theorem fm_if {α β : Type} (c : α → Bool) (f : α → β) : ∀ L : List α, (L.filterMap fun e => if c e = true then some (f e) else none) = (L.filter c).map f
  | [] => rfl
  | e :: L => by
    have ih := fm_if c f L
    cases h : c e with
    | true => rw [List.filterMap_cons, if_pos h, List.filter_cons_of_pos h, List.map_cons, ih]
    | false => rw [List.filterMap_cons, if_neg (by rw [h]; exact Bool.false_ne_true), List.filter_cons_of_neg (by rw [h]; exact Bool.false_ne_true), ih]
structure LLi (S : DS) (w : Addr) (fl : List (List D)) : Prop where
  ex : ∃ as : List Addr, as.length = fl.length ∧ S w = some (.lst (as.map D.ref)) ∧ ∀ (i : Nat) (a : Addr) (f : List D), as[i]? = some a → fl[i]? = some f → S a = some (.lst f) ∧ a ≠ w
theorem LLi.ext {S S' : DS} {w : Addr} {fl : List (List D)} (h : LLi S w fl) (e : Ext S S') : LLi S' w fl :=
  let ⟨as, h1, h2, h3⟩ := h.ex; ⟨⟨as, h1, e.get h2, fun i a x ha hx => ⟨e.get (h3 i a x ha hx).1, (h3 i a x ha hx).2⟩⟩⟩
theorem LLi.get {S : DS} {w : Addr} {fl : List (List D)} (h : LLi S w fl) {i : Nat} {f : List D} (hx : fl[i]? = some f) : ∃ (as : List Addr) (a : Addr), as.length = fl.length ∧ S w = some (.lst (as.map D.ref)) ∧ as[i]? = some a ∧ S a = some (.lst f) := by
  obtain ⟨as, h1, h2, h3⟩ := h.ex
  have hi : i < as.length := by
    rw [h1]
    rcases Nat.lt_or_ge i fl.length with q | q
    · exact q
    · rw [List.getElem?_eq_none q] at hx; cases hx
  exact ⟨as, as[i], h1, h2, List.getElem?_eq_getElem hi, (h3 i _ f (List.getElem?_eq_getElem hi) hx).1⟩
theorem LLi.nil {S : DS} {w : Addr} (h : S w = some (.lst [])) : LLi S w [] := ⟨⟨[], rfl, h, fun i a f h => by simp at h⟩⟩
theorem LLi.add {S S' S'' : DS} {w a : Addr} {fl : List (List D)} {f : List D} (h : LLi S w fl) (na : S a = none) (ea : S' a = some (.lst f)) (xa : Ext S S') (hw : ∀ as : List Addr, S w = some (.lst (as.map D.ref)) → S'' w = some (.lst (as.map D.ref ++ [.ref a]))) (b : But w S' S'') : LLi S'' w (fl ++ [f]) := by
  obtain ⟨as, h1, h2, h3⟩ := h.ex
  have haw : a ≠ w := fun z => by subst z; rw [h2] at na; cases na
  refine ⟨as ++ [a], by rw [List.length_append, List.length_append, h1]; rfl, by rw [hw as h2, List.map_append]; rfl, fun i c y hc hy => ?_⟩
  by_cases hi : i < as.length
  · rw [List.getElem?_append_left hi] at hc
    rw [List.getElem?_append_left (by rw [← h1]; exact hi)] at hy
    obtain ⟨g1, g2⟩ := h3 i c y hc hy
    exact ⟨b.get g2 (xa.get g1), g2⟩
  · rw [List.getElem?_append_right (by omega)] at hc
    rw [List.getElem?_append_right (by omega), ← h1] at hy
    cases hq : i - as.length with
    | zero =>
      rw [hq] at hc hy
      obtain rfl := Option.some.inj hc
      obtain rfl := Option.some.inj hy
      exact ⟨b.get haw ea, haw⟩
    | succ m => rw [hq] at hc; cases hc
/-- walking such a list in a comprehension -/
theorem LLi.lc {α : Type} {S : DS} {w : Addr} {L : List α} {fe : α → List D} (h : LLi S w (L.map fe)) (f : α → Option D) {stay : DS → Prop} {g : DG} {t : DT} {a : DE} {δ : DL.Loc} {KK : List D → DS → Prop} (hl : L.length ≤ 16777216) (hst : stay S)
    (turn : ∀ (x : α) (p : Addr) (acc : List D) (nx : List D → DS → Prop), x ∈ L → S p = some (.lst (fe x)) → acc.length < 16777216 → nx (acc ++ (f x).toList) S → g (.ref p) δ S fun δ2 S2 => t δ2 S2 fun b S3 => if b = true then a δ2 S3 fun y S4 => acc.length < 16777216 ∧ nx (acc ++ [y]) S4 else nx acc S3)
    (done : KK (L.filterMap f) S) : ∀ xs : List D, S w = some (.lst xs) → lcT stay g t a δ KK xs [] S := by
  intro xs hxs
  obtain ⟨as, h1, h2, h3⟩ := h.ex
  rw [hxs] at h2
  have e : xs = as.map D.ref := by injection h2 with h2; injection h2
  subst e
  rw [List.length_map] at h1
  refine lc_inv (fun m acc S' => acc = (L.take m).filterMap f ∧ S' = S) ⟨rfl, rfl⟩ (fun m acc S' _ p => by rw [p.2]; exact hst) ?_ ?_
  · rintro m y acc S' nx hy hm ⟨rfl, rfl⟩ hnx
    obtain ⟨p, hp, rfl⟩ := map_at hy
    rw [List.length_map] at hm
    have hx : L[m]? = some (L[m]'(by omega)) := List.getElem?_eq_getElem _
    have hlen : ((L.take m).filterMap f).length ≤ m := Nat.le_trans (List.length_filterMap_le ..) (List.length_take_le ..)
    refine turn _ p _ nx (List.mem_of_getElem? hx) (h3 m p _ hp (by rw [List.getElem?_map, hx]; rfl)).1 (by omega) (hnx _ _ ⟨?_, rfl⟩)
    rw [take_succ' hx, List.filterMap_append]
    cases hf : f (L[m]'(by omega)) with
    | none => simp [hf]
    | some y => simp [hf]
  · rintro acc S' ⟨rfl, rfl⟩
    rw [List.length_map, h1, List.take_length]
    exact done
theorem fm_all {α β : Type} (f : α → β) (L : List α) : (L.filterMap fun x => some (f x)) = L.map f := congrFun List.filterMap_eq_map L
section
variable {δ : DL.Loc} {S : DS} {Q : DK} {QS : DS → Prop} {c : Str} {nm : List Str} {i : Nat} {te to : DE} {t : DA} {xs ys zs : List D} {a : Addr} {x y v : D} {r : DF} {E : DEnds}
def fldV (c : Str) (nm : List Str) (i : Nat) (x : D) (S : DS) (Q : DK) : Prop := insAt c nm x S fun _ xs => ∃ v, xs[i]? = some v ∧ Q v S
def putI (a : Addr) (c : Str) (nm : List Str) (xs : List D) (S : DS) (QS : DS → Prop) : Prop := QS (dupd S a (.ins c nm xs))
def setV (c : Str) (nm : List Str) (i : Nat) (x y : D) (S : DS) (QS : DS → Prop) : Prop := insAt c nm x S fun a xs => i ≤ xs.length ∧ putI a c nm (putX xs i y) S QS
def augP (a : Addr) (c : Str) (nm : List Str) (i : Nat) (z : D) (S : DS) (QS : DS → Prop) : Prop := ∃ ys, S a = some (.ins c nm ys) ∧ i < ys.length ∧ putI a c nm (ys.set i z) S QS
def augV (c : Str) (nm : List Str) (i : Nat) (x : D) (S : DS) (P : Addr → D → Prop) : Prop := insAt c nm x S fun a xs => ∃ v, xs[i]? = some v ∧ P a v
def methV (c : Str) (nm : List Str) (x : D) (S : DS) (P : Prop) : Prop := insAt c nm x S fun _ _ => P
def newI (c : Str) (nm : List Str) (r : DF) (ds : List D) (S : DS) (Q : DK) : Prop := ∀ p, S p = none → r (.ref p :: ds) (dupd S p (.ins c nm [])) fun v S2 => v = .non ∧ Q (.ref p) S2
theorem o_ixAL {p : Addr} {k : Int} {v : D} (e0 : S p = some (.lst xs)) (hk : 0 ≤ k) (e : L2.atI xs k = some v) (h : Q v S) : oIxA (.ref p) (.int k) S Q := by
  unfold oIxA
  rw [dct_lst e0, lst_ref e0]
  dsimp only
  rw [e]
  exact ⟨hk, h⟩
theorem i_fld (h : te δ S fun x S1 => fldV c nm i x S1 Q) : dFld c nm i te δ S Q := h
theorem f_get (e : S a = some (.ins c nm xs)) (hv : xs[i]? = some v) (h : Q v S) : fldV c nm i (.ref a) S Q := ⟨a, xs, rfl, e, v, hv, h⟩
theorem i_setF (h : te δ S fun y S1 => to δ S1 fun x S2 => setV c nm i x y S2 fun S3 => E.nx δ S3) : dSetF c nm i to te E δ S := h
theorem f_set (e : S a = some (.ins c nm xs)) (hl : i ≤ xs.length) (hp : putX xs i y = ys) (h : putI a c nm ys S QS) : setV c nm i (.ref a) y S QS := ⟨a, xs, rfl, e, hl, by rw [hp]; exact h⟩
theorem i_putI (h : ∀ S1, S1 a = some (.ins c nm xs) → But a S S1 → QS S1) : putI a c nm xs S QS := h _ dupd_same but_upd
theorem i_augF {r : DR2} (h : to δ S fun x S1 => augV c nm i x S1 fun a v => te δ S1 fun y S2 => r v y S2 fun z S3 => augP a c nm i z S3 fun S4 => E.nx δ S4) : dAugF c nm i to te r E δ S := h
theorem f_aug {P : Addr → D → Prop} (e : S a = some (.ins c nm xs)) (hv : xs[i]? = some v) (h : P a v) : augV c nm i (.ref a) S P := ⟨a, xs, rfl, e, v, hv, h⟩
theorem f_augP (e : S a = some (.ins c nm ys)) (hl : i < ys.length) (hz : ys.set i y = zs) (h : putI a c nm zs S QS) : augP a c nm i y S QS := ⟨ys, e, hl, by rw [hz]; exact h⟩
theorem i_methC (h : to δ S fun x S1 => methV c nm x S1 (t δ S1 fun ds S2 => r (x :: ds) S2 Q)) : dMeth c nm r to t δ S Q := by
  unfold dMeth
  have e : (fun (x : D) (S1 : DS) => methV c nm x S1 (t δ S1 fun ds S2 => r (x :: ds) S2 Q)) = fun x S1 => insAt c nm x S1 fun _ _ => t δ S1 fun ds S2 => r (x :: ds) S2 Q := rfl
  rw [e] at h; exact h
theorem f_meth {P : Prop} (e : S a = some (.ins c nm xs)) (h : P) : methV c nm (.ref a) S P := ⟨a, xs, rfl, e, h⟩
theorem i_make (h : t δ S fun ds S1 => newI c nm r ds S1 Q) : dMake c nm r t δ S Q := h
theorem i_newI {ds : List D} (h : ∀ p S1, S p = none → S1 p = some (.ins c nm []) → Ext S S1 → r (.ref p :: ds) S1 fun v S2 => v = .non ∧ Q (.ref p) S2) : newI c nm r ds S Q := fun p hp => h p _ hp dupd_same (ext_new hp)
end
local macro_rules | `(tactic| walk_at "call") => `(tactic| first | (with_reducible refine i_fld ?_) | ((with_reducible refine' f_get ?e ?hv ?_); (case e => (walk_at "look"; done)); (case hv => exact rfl)) | (with_reducible refine i_setF ?_) | (with_reducible refine i_augF ?_) | ((with_reducible refine' f_aug ?e ?hv ?_); (case e => (walk_at "look"; done)); (case hv => exact rfl)) | ((with_reducible refine' f_augP ?e ?hl ?hz ?_); (case e => (walk_at "look"; done)); (case hl => exact Nat.le_of_ble_eq_true rfl); (case hz => exact rfl)) | ((with_reducible refine' f_set ?e ?hl ?hp ?_); (case e => (walk_at "look"; done)); (case hl => exact Nat.le_of_ble_eq_true rfl); (case hp => exact rfl)) | (with_reducible refine i_methC ?_) | ((with_reducible refine' f_meth ?e ?_); (case e => (walk_at "look"; done))) | (with_reducible refine i_make ?_))
inductive Wk where
  | can | good | fail (w : Str)
def Wk.d : Wk → D
  | .can => .str "cancelled"
  | .good => .str "good"
  | .fail w => .tup [.str "failed", .str w]
def Wk.isF : Wk → Bool
  | .fail _ => true
  | _ => false
structure Tree where
  rows : List (Option Nat × Bool)
def Tree.n (T : Tree) : Nat := T.rows.length
def Tree.par (T : Tree) (k : Nat) : Option Nat := match T.rows[k]? with
  | some r => r.1
  | none => none
def Tree.strict (T : Tree) (k : Nat) : Bool := match T.rows[k]? with
  | some r => r.2
  | none => false
structure Tree.ok (T : Tree) : Prop where
  le : T.n ≤ 20
  par : ∀ k p, T.par k = some p → p < k
def kids (T : Tree) (s : Nat) : List Nat := (List.range T.n).filter fun k => decide (T.par k = some s)
theorem kid_mem {T : Tree} {s k : Nat} : k ∈ kids T s ↔ k < T.n ∧ T.par k = some s := by
  unfold kids
  rw [List.mem_filter, List.mem_range, decide_eq_true_iff]
theorem par_lt {T : Tree} {k p : Nat} (h : T.par k = some p) : k < T.n := by
  unfold Tree.par at h
  split at h
  · next r hr => exact (List.getElem?_eq_some_iff.mp hr).1
  · cases h
/-- k lies at top or below it -/
inductive Bel (T : Tree) (top : Nat) : Nat → Prop
  | at_ : Bel T top top
  | up {k p : Nat} : T.par k = some p → Bel T top p → Bel T top k
theorem Bel.le {T : Tree} (h : T.ok) {top k : Nat} (b : Bel T top k) : top ≤ k := by
  induction b with
  | at_ => exact Nat.le_refl _
  | up e _ ih => have := h.par _ _ e; omega
theorem Bel.trans {T : Tree} {a b c : Nat} (x : Bel T a b) (y : Bel T b c) : Bel T a c := by
  induction y with
  | at_ => exact x
  | up e _ ih => exact .up e ih
theorem bel_kid {T : Tree} {s k : Nat} (h : k ∈ kids T s) : Bel T s k := .up (kid_mem.mp h).2 .at_
/-- the law's climb -/
def belB (T : Tree) : Nat → Nat → Nat → Bool
  | 0, top, k => decide (k = top)
  | m + 1, top, k => decide (k = top) || (match T.par k with
    | some p => belB T m top p
    | none => false)
theorem belB_iff {T : Tree} (h : T.ok) {top : Nat} : ∀ (m k : Nat), k ≤ m → (belB T m top k = true ↔ Bel T top k)
  | 0, k, hk => by
    have : k = 0 := by omega
    subst this
    rw [belB, decide_eq_true_iff]
    constructor
    · rintro rfl; exact .at_
    · intro b
      have := b.le h
      omega
  | m + 1, k, hk => by
    rw [belB, Bool.or_eq_true, decide_eq_true_iff]
    constructor
    · rintro (rfl | e)
      · exact .at_
      · cases q : T.par k with
        | none => rw [q] at e; cases e
        | some p =>
          rw [q] at e
          exact .up q ((belB_iff h m p (by have := h.par k p q; omega)).mp e)
    · intro b
      cases b with
      | at_ => exact .inl rfl
      | up e b =>
        refine .inr ?_
        rw [e]
        exact (belB_iff h m _ (by have := h.par _ _ e; omega)).mpr b
def isBel (T : Tree) (top k : Nat) : Bool := belB T T.n top k
theorem isBel_iff {T : Tree} (h : T.ok) {top k : Nat} (hk : k < T.n) : isBel T top k = true ↔ Bel T top k := belB_iff h _ _ (Nat.le_of_lt hk)
/-- the state: own works, ends -/
structure Fm where
  own : List (Option Wk)
  ends : List (Option Wk)
def at1 (xs : List (Option Wk)) (k : Nat) : Option Wk := match xs[k]? with
  | some o => o
  | none => none
structure Fm.ok (T : Tree) (s : Fm) : Prop where
  l1 : s.own.length = T.n
  l2 : s.ends.length = T.n
/-- what is still open at top or below it is cancelled -/
def stopO (T : Tree) (xs : List (Option Wk)) (top : Nat) : List (Option Wk) := (List.range xs.length).map fun k => if (at1 xs k).isNone = true ∧ isBel T top k = true then some .can else at1 xs k
theorem stopO_len {T : Tree} {xs : List (Option Wk)} {top : Nat} : (stopO T xs top).length = xs.length := by unfold stopO; rw [List.length_map, List.length_range]
theorem at1_stop {T : Tree} {xs : List (Option Wk)} {top k : Nat} (hk : k < xs.length) : at1 (stopO T xs top) k = if (at1 xs k).isNone = true ∧ isBel T top k = true then some .can else at1 xs k := by
  show (match (stopO T xs top)[k]? with
    | some o => o
    | none => none) = _
  unfold stopO
  rw [List.getElem?_map, List.getElem?_range hk]; rfl
theorem at1_lt {xs : List (Option Wk)} {k : Nat} {w : Wk} (h : at1 xs k = some w) : k < xs.length := by
  unfold at1 at h
  split at h
  · next hx => exact (List.getElem?_eq_some_iff.mp hx).1
  · cases h
theorem at1_set {xs : List (Option Wk)} {i k : Nat} {w : Option Wk} (hi : i < xs.length) : at1 (xs.set i w) k = if k = i then w else at1 xs k := by
  unfold at1
  rw [List.getElem?_set]
  by_cases h : i = k
  · subst h; rw [if_pos rfl, if_pos rfl, if_pos hi]
  · rw [if_neg h, if_neg (fun z => h z.symm)]
def isFail (o : Option Wk) : Bool := match o with
  | some w => w.isF
  | none => false
/-- the first child that ended failed -/
def ffail (T : Tree) (ends : List (Option Wk)) (s : Nat) : Option Wk := ((kids T s).map (at1 ends)).findSome? fun o => if isFail o = true then o else none
def endOf (T : Tree) (s : Fm) (k : Nat) : Option Wk :=
  if at1 s.own k = none ∨ (kids T k).any (fun c => (at1 s.ends c).isNone) = true then none
  else if isFail (at1 s.own k) = true then at1 s.own k
  else if T.strict k = true then (match ffail T s.ends k with
    | some w => some w
    | none => at1 s.own k)
  else at1 s.own k
def stepF (T : Tree) (s : Fm) (k : Nat) : Fm :=
  if (at1 s.ends k).isNone = true then match endOf T s k with
    | none => s
    | some w => ⟨match T.par k with
      | some p => if w.isF = true ∧ T.strict p = true then stopO T s.own p else s.own
      | none => s.own, s.ends.set k (some w)⟩
  else s
def downL (n : Nat) : List Nat := (List.range n).map fun i => n - 1 - i
def passF (T : Tree) (s : Fm) : Fm := (downL T.n).foldl (stepF T) s
def iterF (T : Tree) : Nat → Fm → Fm
  | 0, s => s
  | m + 1, s => iterF T m (passF T s)
inductive SEv where
  | done (s : Nat) | fail (s : Nat) (w : Str) | cancel (s : Nat)
def SEv.s : SEv → Nat
  | .done s => s
  | .fail s _ => s
  | .cancel s => s
def SEv.d : SEv → D
  | .done s => .tup [.str "done", .int (s : Int)]
  | .fail s w => .tup [.str "fail", .int (s : Int), .str w]
  | .cancel s => .tup [.str "cancel", .int (s : Int)]
def evO (T : Tree) (s : Fm) (e : SEv) : Fm := match e with
  | .cancel k => ⟨stopO T s.own k, s.ends⟩
  | .done k => if (at1 s.own k).isNone = true then ⟨s.own.set k (some .good), s.ends⟩ else s
  | .fail k w => if (at1 s.own k).isNone = true then ⟨stopO T (s.own.set k (some (.fail w))) k, s.ends⟩ else s
def evF (T : Tree) (s : Fm) (e : SEv) : Fm := iterF T (T.n + 1) (evO T s e)
def fm0 (T : Tree) : Fm := ⟨List.replicate T.n none, List.replicate T.n none⟩
theorem at1_rep {n k : Nat} : at1 (List.replicate n none) k = none := by
  unfold at1
  rw [List.getElem?_replicate]
  split <;> first | rfl | (next h => split at h <;> cases h <;> rfl)
def Bad (T : Tree) (s : Fm) (k : Nat) : Prop := k < T.n ∧ at1 s.ends k = none ∧ (isFail (at1 s.own k) = true ∨ (T.strict k = true ∧ ∃ c ∈ kids T k, isFail (at1 s.ends c) = true))
structure FI (T : Tree) (s : Fm) : Prop where
  ok : s.ok T
  one : ∀ a b, Bad T s a → Bad T s b → a = b
  low : ∀ a k, Bad T s a → k < T.n → Bel T a k → at1 s.own k ≠ none
theorem ffail_some {T : Tree} {ends : List (Option Wk)} {s : Nat} {w : Wk} (h : ffail T ends s = some w) : w.isF = true ∧ ∃ c ∈ kids T s, at1 ends c = some w := by
  unfold ffail at h
  obtain ⟨o, ho, e⟩ := List.exists_of_findSome?_eq_some h
  obtain ⟨c, hc, rfl⟩ := List.mem_map.mp ho
  split at e
  · next q => exact ⟨by rw [e] at q; exact q, c, hc, e⟩
  · cases e
theorem ffail_none {T : Tree} {ends : List (Option Wk)} {s : Nat} (h : ffail T ends s = none) : ∀ c ∈ kids T s, isFail (at1 ends c) = false := fun c hc => by
  unfold ffail at h
  have := List.findSome?_eq_none_iff.mp h _ (List.mem_map.mpr ⟨c, hc, rfl⟩)
  cases q : isFail (at1 ends c) with
  | false => rfl
  | true =>
    rw [q, if_pos rfl] at this
    rw [this] at q
    cases q
/-- a scope that ends fails just if it was to fail -/
theorem endOf_fail {T : Tree} {s : Fm} {k : Nat} {w : Wk} (hk : k < T.n) (he : at1 s.ends k = none) (h : endOf T s k = some w) : w.isF = true ↔ Bad T s k := by
  unfold endOf at h
  split at h
  · cases h
  · next hn =>
    split at h
    · next hf =>
      rw [h] at hf
      exact ⟨fun _ => ⟨hk, he, .inl (by rw [h]; exact hf)⟩, fun _ => hf⟩
    · next hf =>
      split at h
      · next hs =>
        cases q : ffail T s.ends k with
        | some v =>
          rw [q] at h
          obtain rfl := Option.some.inj h
          obtain ⟨a, c, hc, e⟩ := ffail_some q
          exact ⟨fun _ => ⟨hk, he, .inr ⟨hs, c, hc, by rw [e]; exact a⟩⟩, fun _ => a⟩
        | none =>
          rw [q] at h
          dsimp only at h
          constructor
          · intro z; exact absurd (by rw [h]; exact z) hf
          · rintro ⟨_, _, z | ⟨_, c, hc, z⟩⟩
            · exact absurd z hf
            · rw [ffail_none q c hc] at z; cases z
      · next hs =>
        constructor
        · intro z; exact absurd (by rw [h]; exact z) hf
        · rintro ⟨_, _, z | ⟨z, _⟩⟩
          · exact absurd z hf
          · exact absurd z hs
theorem stepF_ok {T : Tree} {s : Fm} {k : Nat} (h : s.ok T) : (stepF T s k).ok T := by
  unfold stepF
  split
  · split
    · exact h
    · refine ⟨?_, by rw [List.length_set]; exact h.l2⟩
      dsimp only
      split
      · split
        · rw [stopO_len]; exact h.l1
        · exact h.l1
      · exact h.l1
  · exact h
theorem own_mono {T : Tree} {s : Fm} {k j : Nat} (h : s.ok T) : at1 s.own j ≠ none → at1 (stepF T s k).own j = at1 s.own j := fun hj => by
  unfold stepF
  split
  · split
    · rfl
    · dsimp only
      split
      · split
        · obtain ⟨v, hv⟩ := Option.ne_none_iff_exists'.mp hj
          rw [at1_stop (at1_lt hv), hv, if_neg (fun z => by cases z.1)]
        · rfl
      · rfl
  · rfl
theorem stop_fail {T : Tree} {xs : List (Option Wk)} {p j : Nat} : isFail (at1 (stopO T xs p) j) = isFail (at1 xs j) := by
  by_cases hj : j < xs.length
  · rw [at1_stop hj]
    split
    · next q =>
      have := q.1
      cases e : at1 xs j with
      | none => rfl
      | some v => rw [e] at this; cases this
    · rfl
  · have e1 : at1 xs j = none := by unfold at1; rw [List.getElem?_eq_none (by omega)]
    have e2 : at1 (stopO T xs p) j = none := by
      cases q : at1 (stopO T xs p) j with
      | none => rfl
      | some v => have := at1_lt q; rw [stopO_len] at this; omega
    rw [e1, e2]
theorem stepF_fi {T : Tree} (hT : T.ok) {s : Fm} {k : Nat} (hk : k < T.n) (h : FI T s) : FI T (stepF T s k) := by
  by_cases he : at1 s.ends k = none
  · cases q : endOf T s k with
    | none =>
      have : stepF T s k = s := by unfold stepF; rw [if_pos (by rw [he]; rfl), q]
      rw [this]; exact h
    | some w =>
      have hok := stepF_ok (k := k) h.ok
      have hle : k < s.ends.length := by rw [h.ok.l2]; exact hk
      have hends : (stepF T s k).ends = s.ends.set k (some w) := by unfold stepF; rw [if_pos (by rw [he]; rfl), q]
      have hown : (stepF T s k).own = match T.par k with
          | some p => if w.isF = true ∧ T.strict p = true then stopO T s.own p else s.own
          | none => s.own := by unfold stepF; rw [if_pos (by rw [he]; rfl), q]
      have hf := endOf_fail hk he q
      have hof : ∀ j, isFail (at1 (stepF T s k).own j) = isFail (at1 s.own j) := fun j => by
        rw [hown]
        split
        · split
          · exact stop_fail
          · rfl
        · rfl
      -- who will fail behind the step
      have hbad : ∀ a, Bad T (stepF T s k) a → (Bad T s a ∧ a ≠ k) ∨ (w.isF = true ∧ T.par k = some a ∧ T.strict a = true) := by
        rintro a ⟨ha, hae, hb⟩
        rw [hends, at1_set hle] at hae
        have hak : a ≠ k := fun z => by rw [if_pos z] at hae; cases hae
        rw [if_neg hak] at hae
        rcases hb with hb | ⟨hs, c, hc, hb⟩
        · rw [hof] at hb
          exact .inl ⟨⟨ha, hae, .inl hb⟩, hak⟩
        · rw [hends, at1_set hle] at hb
          by_cases z : c = k
          · rw [if_pos z] at hb
            refine .inr ⟨hb, ?_, hs⟩
            rw [← z]; exact (kid_mem.mp hc).2
          · rw [if_neg z] at hb
            exact .inl ⟨⟨ha, hae, .inr ⟨hs, c, hc, hb⟩⟩, hak⟩
      refine ⟨hok, fun a b ha hb => ?_, fun a j ha hj hb => ?_⟩
      · rcases hbad a ha with ⟨ha1, ha2⟩ | ⟨ha1, ha2, ha3⟩
        · rcases hbad b hb with ⟨hb1, hb2⟩ | ⟨hb1, hb2, hb3⟩
          · exact h.one a b ha1 hb1
          · exact absurd (h.one a k ha1 (hf.mp hb1)) ha2
        · rcases hbad b hb with ⟨hb1, hb2⟩ | ⟨hb1, hb2, hb3⟩
          · exact absurd (h.one b k hb1 (hf.mp ha1)) hb2
          · rw [ha2] at hb2; exact Option.some.inj hb2
      · rcases hbad a ha with ⟨ha1, ha2⟩ | ⟨ha1, ha2, ha3⟩
        · have := h.low a j ha1 hj hb
          rw [own_mono h.ok this]; exact this
        · rw [hown, ha2]
          dsimp only
          rw [if_pos ⟨ha1, ha3⟩, at1_stop (by rw [h.ok.l1]; exact hj)]
          split
          · exact Option.some_ne_none _
          · next z =>
            intro hn
            exact z ⟨by rw [hn]; rfl, (isBel_iff hT hj).mpr hb⟩
  · have : stepF T s k = s := by
      unfold stepF
      rw [if_neg (fun z => he (by cases e : at1 s.ends k with
        | none => rfl
        | some v => rw [e] at z; cases z))]
    rw [this]; exact h
theorem down_mem {n k : Nat} : k ∈ downL n ↔ k < n := by
  unfold downL
  rw [List.mem_map]
  constructor
  · rintro ⟨i, hi, rfl⟩; have := List.mem_range.mp hi; omega
  · intro h; exact ⟨n - 1 - k, List.mem_range.mpr (by omega), by omega⟩
theorem fold_fi {T : Tree} (hT : T.ok) : ∀ (l : List Nat) (s : Fm), (∀ k ∈ l, k < T.n) → FI T s → FI T (l.foldl (stepF T) s)
  | [], _, _, h => h
  | k :: l, s, hl, h => fold_fi hT l _ (fun j hj => hl j (List.mem_cons_of_mem _ hj)) (stepF_fi hT (hl k (List.mem_cons_self ..)) h)
theorem passF_fi {T : Tree} (hT : T.ok) {s : Fm} (h : FI T s) : FI T (passF T s) := fold_fi hT _ _ (fun k hk => down_mem.mp hk) h
/-- how many have ended -/
def cntE (s : Fm) : Nat := (s.ends.filter fun o => o.isSome).length
theorem cnt_set : ∀ {xs : List (Option Wk)} {k : Nat} {w : Wk}, xs[k]? = some none → ((xs.set k (some w)).filter fun o => o.isSome).length = (xs.filter fun o => o.isSome).length + 1
  | [], _, _, h => by simp at h
  | x :: xs, 0, w, h => by
    obtain rfl := Option.some.inj h
    rw [List.set_cons_zero, List.filter_cons, List.filter_cons]; simp
  | x :: xs, k + 1, w, h => by
    rw [List.set_cons_succ, List.filter_cons, List.filter_cons]
    have := cnt_set (xs := xs) (k := k) (w := w) h
    split
    · rw [List.length_cons, List.length_cons, this]
    · exact this
theorem stepF_cases {T : Tree} {s : Fm} {k : Nat} (hk : k < T.n) (h : s.ok T) : stepF T s k = s ∨ (at1 s.ends k = none ∧ (∃ w, endOf T s k = some w) ∧ cntE (stepF T s k) = cntE s + 1) := by
  by_cases he : at1 s.ends k = none
  · cases q : endOf T s k with
    | none => left; unfold stepF; rw [if_pos (by rw [he]; rfl), q]
    | some w =>
      refine .inr ⟨he, ⟨w, rfl⟩, ?_⟩
      have hg : s.ends[k]? = some none := by
        have hl : k < s.ends.length := by rw [h.l2]; exact hk
        have e : s.ends[k]? = some s.ends[k] := List.getElem?_eq_getElem hl
        unfold at1 at he
        rw [e] at he ⊢
        dsimp only at he
        rw [he]
      unfold cntE stepF
      rw [if_pos (by rw [he]; rfl), q]
      exact cnt_set hg
  · left
    unfold stepF
    rw [if_neg (fun z => he (by cases e : at1 s.ends k with
      | none => rfl
      | some v => rw [e] at z; cases z))]
theorem fold_cnt {T : Tree} : ∀ (l : List Nat) (s : Fm), (∀ k ∈ l, k < T.n) → s.ok T → l.foldl (stepF T) s = s ∨ cntE s < cntE (l.foldl (stepF T) s)
  | [], _, _, _ => .inl rfl
  | k :: l, s, hl, h => by
    have ih := fold_cnt l (stepF T s k) (fun j hj => hl j (List.mem_cons_of_mem _ hj)) (stepF_ok h)
    rw [List.foldl_cons]
    rcases stepF_cases (hl k (List.mem_cons_self ..)) h with e | ⟨_, _, e⟩
    · rw [e] at ih ⊢; exact ih
    · rcases ih with ih | ih
      · rw [ih]; right; omega
      · right; omega
theorem cnt_le {T : Tree} {s : Fm} (h : s.ok T) : cntE s ≤ T.n := by rw [← h.l2]; exact List.length_filter_le ..
theorem fix_iter {T : Tree} {s : Fm} (h : passF T s = s) : ∀ m, iterF T m s = s
  | 0 => rfl
  | m + 1 => by rw [iterF, h, fix_iter h m]
theorem iter_add {T : Tree} : ∀ (a b : Nat) (s : Fm), iterF T (a + b) s = iterF T b (iterF T a s)
  | 0, b, s => by rw [Nat.zero_add]; rfl
  | a + 1, b, s => by rw [show a + 1 + b = (a + b) + 1 by omega, iterF, iter_add a b]; rfl
theorem iterF_ok {T : Tree} (hT : T.ok) : ∀ (m : Nat) (s : Fm), FI T s → FI T (iterF T m s)
  | 0, _, h => h
  | m + 1, s, h => iterF_ok hT m _ (passF_fi hT h)
/-- so many passes that nothing changes any more -/
theorem iter_fix {T : Tree} (hT : T.ok) {s : Fm} (h : FI T s) : passF T (iterF T (T.n + 1) s) = iterF T (T.n + 1) s := by
  have key : ∀ m (s : Fm), FI T s → passF T (iterF T m s) = iterF T m s ∨ cntE s + m ≤ cntE (iterF T m s) := by
    intro m
    induction m with
    | zero => intro s _; right; exact Nat.le_refl _
    | succ m ih =>
      intro s h
      rw [iterF]
      rcases fold_cnt (downL T.n) s (fun k hk => down_mem.mp hk) h.ok with e | e
      · have e : passF T s = s := e
        left
        rw [e, fix_iter e, e]
      · have e : cntE s < cntE (passF T s) := e
        rcases ih (passF T s) (passF_fi hT h) with z | z
        · exact .inl z
        · right; omega
  rcases key (T.n + 1) s h with e | e
  · exact e
  · have := cnt_le (iterF_ok hT (T.n + 1) s h).ok
    omega
theorem fold_fix {T : Tree} : ∀ (l : List Nat) (s : Fm), (∀ k ∈ l, k < T.n) → s.ok T → l.foldl (stepF T) s = s → ∀ k ∈ l, stepF T s k = s
  | [], _, _, _, _, _, h => by cases h
  | k :: l, s, hl, h, e, j, hj => by
    rw [List.foldl_cons] at e
    have h1 : stepF T s k = s := by
      rcases stepF_cases (hl k (List.mem_cons_self ..)) h with z | ⟨_, _, z⟩
      · exact z
      · rcases fold_cnt l (stepF T s k) (fun j hj => hl j (List.mem_cons_of_mem _ hj)) (stepF_ok h) with y | y
        · rw [e] at y; rw [← y]
        · rw [e] at y; omega
    rcases List.mem_cons.mp hj with rfl | hj
    · exact h1
    · rw [h1] at e
      exact fold_fix l s (fun j hj => hl j (List.mem_cons_of_mem _ hj)) h e j hj
/-- where nothing changes any more nobody will fail -/
theorem no_bad {T : Tree} (hT : T.ok) {s : Fm} (h : FI T s) (e : passF T s = s) : ∀ a, ¬ Bad T s a := by
  intro a ha
  have st : ∀ m k, T.n - k = m → k < T.n → Bel T a k → at1 s.ends k = none → False := by
    intro m
    induction m using Nat.strongRecOn with
    | ind m ih =>
      intro k hm hk hb he
      have h1 := fold_fix _ s (fun k hk => down_mem.mp hk) h.ok e k (down_mem.mpr hk)
      have hn : endOf T s k = none := by
        cases q : endOf T s k with
        | none => rfl
        | some w =>
          rcases stepF_cases hk h.ok with z | z
          · have : (stepF T s k).ends = s.ends.set k (some w) := by unfold stepF; rw [if_pos (by rw [he]; rfl), q]
            rw [z] at this
            have hl : k < s.ends.length := by rw [h.ok.l2]; exact hk
            have e2 := at1_set (xs := s.ends) (i := k) (k := k) (w := some w) hl
            rw [← this, if_pos rfl, he] at e2
            cases e2
          · have := z.2.2; rw [h1] at this; omega
      have ho := h.low a k ha hk hb
      unfold endOf at hn
      split at hn
      · next z =>
        rcases z with z | z
        · exact ho z
        · obtain ⟨c, hc, z⟩ := List.any_eq_true.mp z
          have hcn : at1 s.ends c = none := by
            cases q : at1 s.ends c with
            | none => rfl
            | some v => rw [q] at z; cases z
          obtain ⟨c1, c2⟩ := kid_mem.mp hc
          have := hT.par c k c2
          exact ih (T.n - c) (by omega) c rfl c1 (hb.trans (bel_kid hc)) hcn
      · split at hn
        · exact ho hn
        · split at hn
          · split at hn
            · cases hn
            · exact ho hn
          · exact ho hn
  exact st _ a rfl ha.1 .at_ ha.2.1
/-- an event comes upon a state in which nobody will fail -/
theorem evO_fi {T : Tree} (hT : T.ok) {s : Fm} (h : s.ok T) (hn : ∀ a, ¬ Bad T s a) {e : SEv} (he : e.s < T.n) : FI T (evO T s e) := by
  have hlen : ∀ k : Nat, k < T.n → k < s.own.length := fun k hk => by rw [h.l1]; exact hk
  cases e with
  | cancel k =>
    have nb : ∀ a, ¬ Bad T (evO T s (.cancel k)) a := by
      rintro a ⟨h1, h2, h3⟩
      refine hn a ⟨h1, h2, ?_⟩
      rcases h3 with h3 | h3
      · left
        have : isFail (at1 (stopO T s.own k) a) = true := h3
        rwa [stop_fail] at this
      · exact .inr h3
    exact ⟨⟨by show (stopO T s.own k).length = _; rw [stopO_len]; exact h.l1, h.l2⟩, fun a b ha _ => absurd ha (nb a), fun a j ha _ _ => absurd ha (nb a)⟩
  | done k =>
    have nb : ∀ a, ¬ Bad T (evO T s (.done k)) a := by
      rintro a ⟨h1, h2, h3⟩
      unfold evO at h2 h3
      dsimp only at h2 h3
      split at h2
      · next q =>
        rw [if_pos q] at h3
        refine hn a ⟨h1, h2, ?_⟩
        rcases h3 with h3 | h3
        · dsimp only at h3
          rw [at1_set (hlen k he)] at h3
          split at h3
          · cases h3
          · exact .inl h3
        · exact .inr h3
      · next q => rw [if_neg q] at h3; exact hn a ⟨h1, h2, h3⟩
    refine ⟨?_, fun a b ha _ => absurd ha (nb a), fun a j ha _ _ => absurd ha (nb a)⟩
    unfold evO
    dsimp only
    split
    · exact ⟨by rw [List.length_set]; exact h.l1, h.l2⟩
    · exact h
  | fail k w =>
    by_cases q : (at1 s.own k).isNone = true
    · have e1 : evO T s (.fail k w) = ⟨stopO T (s.own.set k (some (.fail w))) k, s.ends⟩ := if_pos q
      have bk : ∀ a, Bad T (evO T s (.fail k w)) a → a = k := by
        rintro a ⟨h1, h2, h3⟩
        rw [e1] at h2 h3
        dsimp only at h2 h3
        rcases h3 with h3 | h3
        · rw [stop_fail, at1_set (hlen k he)] at h3
          by_cases z : a = k
          · exact z
          · rw [if_neg z] at h3
            exact absurd ⟨h1, h2, .inl h3⟩ (hn a)
        · exact absurd ⟨h1, h2, .inr h3⟩ (hn a)
      refine ⟨by rw [e1]; exact ⟨by show (stopO T _ k).length = _; rw [stopO_len, List.length_set]; exact h.l1, h.l2⟩, fun a b ha hb => by rw [bk a ha, bk b hb], fun a j ha hj hb => ?_⟩
      rw [bk a ha] at hb
      rw [e1]
      show at1 (stopO T _ k) j ≠ none
      rw [at1_stop (by rw [List.length_set, h.l1]; exact hj)]
      split
      · exact Option.some_ne_none _
      · next z =>
        intro hn'
        exact z ⟨by rw [hn']; rfl, (isBel_iff hT hj).mpr hb⟩
    · have e1 : evO T s (.fail k w) = s := if_neg q
      rw [e1]
      exact ⟨h, fun a b ha _ => absurd ha (hn a), fun a j ha _ _ => absurd ha (hn a)⟩
/-- what stands between events -/
structure FS (T : Tree) (s : Fm) : Prop where
  ok : s.ok T
  no : ∀ a, ¬ Bad T s a
theorem evF_fs {T : Tree} (hT : T.ok) {s : Fm} (h : FS T s) {e : SEv} (he : e.s < T.n) : FS T (evF T s e) := by
  have f := evO_fi hT h.ok h.no he
  exact ⟨(iterF_ok hT _ _ f).ok, no_bad hT (iterF_ok hT _ _ f) (iter_fix hT f)⟩
theorem fs0 (T : Tree) : FS T (fm0 T) := by
  refine ⟨⟨List.length_replicate, List.length_replicate⟩, ?_⟩
  rintro a ⟨h1, h2, h3⟩
  rcases h3 with h3 | ⟨_, c, _, h3⟩
  · have : isFail (at1 (List.replicate T.n none) a) = true := h3
    rw [at1_rep] at this; cases this
  · have : isFail (at1 (List.replicate T.n none) c) = true := h3
    rw [at1_rep] at this; cases this
def evsF (T : Tree) (es : List SEv) : Fm := es.foldl (evF T) (fm0 T)
theorem evsF_fs {T : Tree} (hT : T.ok) {es : List SEv} (h : ∀ e ∈ es, e.s < T.n) : FS T (evsF T es) := by
  have gen : ∀ (es : List SEv) (s : Fm), (∀ e ∈ es, e.s < T.n) → FS T s → FS T (es.foldl (evF T) s) := by
    intro es
    induction es with
    | nil => intro s _ h; exact h
    | cons e es ih => intro s he h; exact ih _ (fun x hx => he x (List.mem_cons_of_mem _ hx)) (evF_fs hT h (he e (List.mem_cons_self ..)))
  exact gen es _ h (fs0 T)
def optD : Option Nat → D
  | none => .non
  | some p => .int (p : Int)
def kindD (b : Bool) : D := if b = true then .str "strict" else .str "calm"
def rowT (r : Option Nat × Bool) : D := .tup [optD r.1, kindD r.2]
def Tree.d (T : Tree) : D := .tup (T.rows.map rowT)
def wkO : Option Wk → D
  | none => .non
  | some w => w.d
def strO : Option Str → D
  | none => .non
  | some w => .str w
def natsI (L : List Nat) : List D := L.map fun i : Nat => D.int (i : Int)
theorem natsI_len {L : List Nat} : (natsI L).length = L.length := List.length_map ..
def Onl (W : List Addr) (S S' : DS) : Prop := ∀ b o, b ∉ W → S b = some o → S' b = some o
theorem Onl.refl (W : List Addr) (S : DS) : Onl W S S := fun _ _ _ h => h
theorem Onl.trans {W : List Addr} {S S1 S2 : DS} (a : Onl W S S1) (b : Onl W S1 S2) : Onl W S S2 := fun c o h e => b c o h (a c o h e)
theorem Onl.ext {W : List Addr} {S S1 S2 : DS} (a : Onl W S S1) (b : Ext S1 S2) : Onl W S S2 := fun c o h e => b.get (a c o h e)
theorem Onl.of {W : List Addr} {S S' : DS} (b : Ext S S') : Onl W S S' := fun _ _ _ e => b.get e
theorem Onl.but {W : List Addr} {S S1 S2 : DS} {p : Addr} (a : Onl W S S1) (b : But p S1 S2) (h : p ∈ W) : Onl W S S2 := fun c o hc e => b.get (fun z => hc (by rw [z]; exact h)) (a c o hc e)
theorem Onl.get {W : List Addr} {S S' : DS} {b : Addr} {o : DO} (a : Onl W S S') (h : b ∉ W) (e : S b = some o) : S' b = some o := a b o h e
theorem Onl.extO {W : List Addr} {S0 S S' : DS} (x : Ext S0 S) (a : Onl W S S') (h : ∀ p ∈ W, S0 p = none) : Ext S0 S' := fun b o e => a b o (fun z => by rw [h b z] at e; cases e) (x b o e)
structure Nm (a ow en hu ch : Addr) (as : List Addr) : Prop where
  n1 : ow ≠ en ∧ ow ≠ hu ∧ en ≠ hu
  n2 : ow ≠ a ∧ en ≠ a ∧ hu ≠ a
  n3 : ow ≠ ch ∧ en ≠ ch ∧ hu ≠ ch
  n4 : ow ∉ as ∧ en ∉ as ∧ hu ∉ as
structure FamAt (a ow en hu ch : Addr) (as : List Addr) (T : Tree) (S : DS) (s : Fm) (hs : List (Option Str)) : Prop where
  obj : S a = some (.ins c_Family nm_Family [T.d, .ref ow, .ref en, .ref hu, .ref ch])
  own : S ow = some (.lst (s.own.map wkO))
  ends : S en = some (.lst (s.ends.map wkO))
  hurts : S hu = some (.lst (hs.map strO))
  kid : S ch = some (.lst (as.map D.ref))
  len : as.length = T.n
  each : ∀ i k, as[i]? = some k → S k = some (.lst (natsI (kids T i)))
section
variable {a ow en hu ch : Addr} {as : List Addr} {T : Tree} {S S' : DS} {s : Fm} {hs : List (Option Str)} {n : Nat} {Q : DK}
theorem FamAt.ext (h : FamAt a ow en hu ch as T S s hs) (x : Ext S S') : FamAt a ow en hu ch as T S' s hs :=
  ⟨x.get h.obj, x.get h.own, x.get h.ends, x.get h.hurts, x.get h.kid, h.len, fun i k e => x.get (h.each i k e)⟩
theorem FamAt.putO (h : FamAt a ow en hu ch as T S s hs) (N : Nm a ow en hu ch as) {xs : List (Option Wk)} (e : S' ow = some (.lst (xs.map wkO))) (b : But ow S S') : FamAt a ow en hu ch as T S' ⟨xs, s.ends⟩ hs :=
  ⟨b.get N.n2.1.symm h.obj, e, b.get N.n1.1.symm h.ends, b.get N.n1.2.1.symm h.hurts, b.get N.n3.1.symm h.kid, h.len, fun i k q => b.get (fun z => N.n4.1 (by rw [← z]; exact List.mem_of_getElem? q)) (h.each i k q)⟩
theorem FamAt.putE (h : FamAt a ow en hu ch as T S s hs) (N : Nm a ow en hu ch as) {xs : List (Option Wk)} (e : S' en = some (.lst (xs.map wkO))) (b : But en S S') : FamAt a ow en hu ch as T S' ⟨s.own, xs⟩ hs :=
  ⟨b.get N.n2.2.1.symm h.obj, b.get N.n1.1 h.own, e, b.get N.n1.2.2.symm h.hurts, b.get N.n3.2.1.symm h.kid, h.len, fun i k q => b.get (fun z => N.n4.2.1 (by rw [← z]; exact List.mem_of_getElem? q)) (h.each i k q)⟩
theorem FamAt.putH (h : FamAt a ow en hu ch as T S s hs) (N : Nm a ow en hu ch as) {xs : List (Option Str)} (e : S' hu = some (.lst (xs.map strO))) (b : But hu S S') : FamAt a ow en hu ch as T S' s xs :=
  ⟨b.get N.n2.2.2.symm h.obj, b.get N.n1.2.1 h.own, b.get N.n1.2.2 h.ends, e, b.get N.n3.2.2.symm h.kid, h.len, fun i k q => b.get (fun z => N.n4.2.2 (by rw [← z]; exact List.mem_of_getElem? q)) (h.each i k q)⟩
theorem FamAt.kids (h : FamAt a ow en hu ch as T S s hs) {i : Nat} (hi : i < T.n) : ∃ k, L2.atI (as.map D.ref) (i : Int) = some (.ref k) ∧ S k = some (.lst (natsI (kids T i))) := by
  have e : as[i]? = some (as[i]'(by rw [h.len]; exact hi)) := List.getElem?_eq_getElem _
  exact ⟨_, lst_map_at (j := i) rfl e, h.each i _ e⟩
theorem wk_at {xs : List (Option Wk)} {k : Nat} (hk : k < xs.length) : L2.atI (xs.map wkO) (k : Int) = some (wkO (at1 xs k)) := by
  have e : xs[k]? = some xs[k] := List.getElem?_eq_getElem hk
  refine (lst_map_at (j := k) rfl e).trans ?_
  unfold at1
  rw [e]
theorem row_at {k : Nat} (hk : k < T.n) : L2.atI (T.rows.map rowT) (k : Int) = some (.tup [optD (T.par k), kindD (T.strict k)]) := by
  have e : T.rows[k]? = some T.rows[k] := List.getElem?_eq_getElem hk
  refine (lst_map_at (j := k) rfl e).trans ?_
  unfold Tree.par Tree.strict
  rw [e]; rfl
theorem nodup_le {α : Type} [DecidableEq α] : ∀ (l m : List α), l.Nodup → (∀ x ∈ l, x ∈ m) → l.length ≤ m.length
  | [], _, _, _ => Nat.zero_le _
  | x :: l, m, h, hs => by
    rw [List.nodup_cons] at h
    have hx := hs x List.mem_cons_self
    have := nodup_le l (m.erase x) h.2 fun y hy => (List.mem_erase_of_ne (fun e => h.1 (by rw [← e]; exact hy))).mpr (hs y (List.mem_cons_of_mem _ hy))
    rw [List.length_erase_of_mem hx] at this
    have := List.length_pos_of_mem hx
    rw [List.length_cons]; omega
theorem nodup_range {l : List Nat} {m : Nat} (h : l.Nodup) (hl : ∀ x ∈ l, x < m) : l.length ≤ m := by
  have := nodup_le l (List.range m) h fun x hx => List.mem_range.mpr (hl x hx)
  rwa [List.length_range] at this
def wt (n : Nat) (L : List Nat) : Nat := (L.map fun c => 2 ^ (n - c)).sum
theorem wt_lt {n : Nat} : ∀ {L : List Nat} {x : Nat}, L.Pairwise (· < ·) → (∀ c ∈ L, x < c ∧ c < n) → wt n L < 2 ^ (n - x)
  | [], x, _, _ => Nat.pow_pos (by decide)
  | c :: L, x, hp, h => by
    obtain ⟨h1, h2⟩ := h c (List.mem_cons_self ..)
    have ih := wt_lt (L := L) (x := c) (List.pairwise_cons.mp hp).2 fun d hd => ⟨(List.pairwise_cons.mp hp).1 d hd, (h d (List.mem_cons_of_mem _ hd)).2⟩
    show 2 ^ (n - c) + wt n L < _
    have : 2 ^ (n - c + 1) ≤ 2 ^ (n - x) := Nat.pow_le_pow_right (by decide) (by omega)
    rw [Nat.pow_succ] at this
    omega
theorem wt_app {n : Nat} (L M : List Nat) : wt n (L ++ M) = wt n L + wt n M := by unfold wt; rw [List.map_append, List.sum_append]
theorem kids_asc {T : Tree} {s : Nat} : (kids T s).Pairwise (· < ·) := List.Pairwise.filter _ List.pairwise_lt_range
theorem kids_len {T : Tree} {x : Nat} : (kids T x).length ≤ T.n := by unfold kids; exact Nat.le_trans (List.length_filter_le ..) (by rw [List.length_range]; exact Nat.le_refl _)
theorem below_spec (hT : T.ok) {k : Nat} (hk : k < T.n) (F : FamAt a ow en hu ch as T S s hs) (h : ∀ p L S', S p = none → S' p = some (.lst (natsI L)) → (∀ j, j ∈ L ↔ (j < T.n ∧ Bel T k j ∧ j ≠ k)) → L.length ≤ 40 → Ext S S' → Q (.ref p) S') :
    sem fs (n + 1) 1 [.ref a, .int (k : Int)] S Q := by
  refine run_Family_all_below ?_
  unfold b_1
  have o0 := F.obj
  have hle := hT.le
  repeat walk_at "e"
  refine i_newL fun fp S1 n1 e1 x1 => ?_
  have F1 := F.ext x1
  obtain ⟨kc, q1, q2⟩ := F1.kids hk
  have o1 := F1.obj
  repeat walk_at "e"
  refine o_ixL F1.kid q1 ?_
  repeat walk_at "e"
  refine i_newL fun wp S2 n2 e2 x2 => ?_
  have F2 := F1.ext x2
  have nfw : fp ≠ wp := dne e1 n2
  repeat walk_at "e"
  have belk : ∀ {x c : Nat}, Bel T k x → c ∈ kids T x → Bel T k c ∧ c ≠ k := fun {x c} hb hc => ⟨hb.trans (bel_kid hc), fun z => by
    have h1 := hb.le hT
    have h2 := hT.par c x (kid_mem.mp hc).2
    omega⟩
  refine while_inv (fun m δ S3 => ∃ o4 found wait, δ = [some (.ref a), some (.int (k : Int)), some (.ref fp), some (.ref wp), o4] ∧ m = wt T.n wait ∧ (∀ x ∈ found ++ wait, x < T.n ∧ Bel T k x ∧ x ≠ k) ∧ (found ++ wait).Nodup ∧
    (∀ x ∈ found ++ wait, T.par x = some k ∨ ∃ p ∈ found, T.par x = some p) ∧ (∀ j, Bel T k j → j ≠ k → j ∈ found ∨ ∃ x ∈ wait, Bel T x j) ∧
    S3 fp = some (.lst (natsI found)) ∧ S3 wp = some (.lst (natsI wait)) ∧ Onl [fp, wp] S2 S3) (wt T.n (kids T k)) ?_ ?_
  · refine ⟨none, [], kids T k, rfl, rfl, fun x hx => ?_, ?_, fun x hx => .inl (kid_mem.mp (by simpa using hx)).2, fun j hb hj => ?_, x2.get e1, e2, Onl.refl _ _⟩
    · have hx : x ∈ kids T k := by simpa using hx
      exact ⟨(kid_mem.mp hx).1, belk .at_ hx⟩
    · exact (List.Pairwise.imp (fun h => Nat.ne_of_lt h) kids_asc : List.Nodup _)
    · right
      -- the first step from k down to j
      have : ∀ {j}, Bel T k j → j ≠ k → ∃ x ∈ kids T k, Bel T x j := by
        intro j hb
        induction hb with
        | at_ => intro z; exact absurd rfl z
        | @up j p e b ih =>
          intro _
          by_cases z : p = k
          · rw [z] at e
            exact ⟨j, kid_mem.mpr ⟨par_lt e, e⟩, .at_⟩
          · obtain ⟨x, hx, hb⟩ := ih z
            exact ⟨x, hx, .up e hb⟩
      exact this hb hj
  · rintro m δ S3 nx ⟨o4, found, wait, rfl, rfl, hin, hnd, hpar, hcov, g1, g2, g3⟩ hnx
    have nW : ∀ b, S2 b ≠ none → b ≠ fp → b ≠ wp → b ∉ [fp, wp] := fun b _ h1 h2 z => by
      simp only [List.mem_cons, List.not_mem_nil, or_false] at z
      rcases z with z | z
      · exact h1 z
      · exact h2 z
    have stay : ∀ {b o}, S b = some o → S3 b = some o := fun {b o} e => g3.get (fun z => by
      simp only [List.mem_cons, List.not_mem_nil, or_false] at z
      rcases z with rfl | rfl
      · rw [n1] at e; cases e
      · have := x1.get e; rw [n2] at this; cases this) (x2.get (x1.get e))
    have F3 : FamAt a ow en hu ch as T S3 s hs := ⟨stay F.obj, stay F.own, stay F.ends, stay F.hurts, stay F.kid, F.len, fun i k e => stay (F.each i k e)⟩
    have o3 := F3.obj
    have hlen : (found ++ wait).length ≤ T.n := by
      have := nodup_range hnd fun x hx => (hin x hx).1
      exact this
    rw [List.length_append] at hlen
    repeat walk_at "e"
    rw [natsI_len]
    refine ite_dec (fun c => ?_) (fun c => ?_)
    · obtain ⟨ws, x, rfl⟩ : ∃ ws x, wait = ws ++ [x] := by
        rcases List.eq_nil_or_concat wait with z | ⟨ws, x, z⟩
        · rw [z] at c; exact absurd c (by decide)
        · exact ⟨ws, x, by rw [z, List.concat_eq_append]⟩
      obtain ⟨hx1, hx2, hx3⟩ := hin x (by simp)
      have g2' : S3 wp = some (.lst (natsI ws ++ [.int (x : Int)])) := by rw [g2]; unfold natsI; rw [List.map_append]; rfl
      repeat walk_at "e"
      refine m_pop g2' (by rw [natsI_len]; rw [List.length_append] at hlen; omega) (i_putL fun S4 e4 b4 => ?_)
      have g14 := b4.get nfw g1
      repeat walk_at "e"
      refine m_append g14 (by rw [List.length_append, natsI_len, List.length_singleton]; omega) (i_putL fun S5 e5 b5 => ?_)
      have e4' := b5.get nfw.symm e4
      have stay5 : ∀ {b o}, S b = some o → S5 b = some o := fun {b o} e => by
        have h1 : b ≠ fp := fun z => by rw [z, n1] at e; cases e
        have h2 : b ≠ wp := fun z => by have := x1.get e; rw [z, n2] at this; cases this
        exact b5.get h1 (b4.get h2 (stay e))
      have F5 : FamAt a ow en hu ch as T S5 s hs := ⟨stay5 F.obj, stay5 F.own, stay5 F.ends, stay5 F.hurts, stay5 F.kid, F.len, fun i k e => stay5 (F.each i k e)⟩
      obtain ⟨kx, q3, q4⟩ := F5.kids hx1
      have o5 := F5.obj
      have hkl : (kids T x).length ≤ T.n := by unfold kids; exact Nat.le_trans (List.length_filter_le ..) (by rw [List.length_range]; exact Nat.le_refl _)
      rw [List.length_append, List.length_singleton] at hlen
      repeat walk_at "e"
      refine o_ixL F5.kid q3 ?_
      refine i_nil ?_
      refine m_extend e4' q4 (by rw [natsI_len, natsI_len]; omega) (i_putL fun S6 e6 b6 => ?_)
      have e6' : S6 wp = some (.lst (natsI (ws ++ kids T x))) := by rw [e6]; unfold natsI; rw [List.map_append]
      have e5' : S6 fp = some (.lst (natsI (found ++ [x]))) := by rw [b6.get nfw e5]; unfold natsI; rw [List.map_append]; rfl
      refine hnx (wt T.n (ws ++ kids T x)) _ _ ?_ ⟨_, found ++ [x], ws ++ kids T x, rfl, rfl, fun y hy => ?_, ?_, fun y hy => ?_, fun j hb hj => ?_, e5', e6', ((g3.but b4 (by simp)).but b5 (by simp)).but b6 (by simp)⟩
      · rw [wt_app, wt_app]
        have := wt_lt (n := T.n) (L := kids T x) (x := x) kids_asc fun c hc => ⟨hT.par c x (kid_mem.mp hc).2, (kid_mem.mp hc).1⟩
        show _ < wt T.n ws + (2 ^ (T.n - x) + 0)
        omega
      · simp only [List.mem_append, List.mem_singleton] at hy
        rcases hy with (hy | rfl) | hy | hy
        · exact hin y (by simp [hy])
        · exact ⟨hx1, hx2, hx3⟩
        · exact hin y (by simp [hy])
        · exact ⟨(kid_mem.mp hy).1, belk hx2 hy⟩
      · -- the new ones are new
        have e : (found ++ [x] ++ (ws ++ kids T x)).Perm ((found ++ (ws ++ [x])) ++ kids T x) := by
          rw [List.append_assoc, List.append_assoc]
          refine List.Perm.append_left found ?_
          rw [← List.append_assoc]
          exact List.Perm.append_right _ List.perm_append_comm
        rw [e.nodup_iff, List.nodup_append]
        refine ⟨hnd, List.Pairwise.imp (fun h => Nat.ne_of_lt h) kids_asc, fun y hy z hz e => ?_⟩
        subst e
        have hpz := (kid_mem.mp hz).2
        rcases hpar y hy with z | ⟨p, hp, z⟩
        · rw [hpz] at z; exact hx3 (Option.some.inj z)
        · rw [hpz] at z
          obtain rfl := Option.some.inj z
          exact (List.nodup_append.mp hnd).2.2 x hp x (by simp) rfl
      · simp only [List.mem_append, List.mem_singleton] at hy
        rcases hy with (hy | rfl) | hy | hy
        · rcases hpar y (by simp [hy]) with z | ⟨p, hp, z⟩
          · exact .inl z
          · exact .inr ⟨p, by simp [hp], z⟩
        · rcases hpar y (by simp) with z | ⟨p, hp, z⟩
          · exact .inl z
          · exact .inr ⟨p, by simp [hp], z⟩
        · rcases hpar y (by simp [hy]) with z | ⟨p, hp, z⟩
          · exact .inl z
          · exact .inr ⟨p, by simp [hp], z⟩
        · exact .inr ⟨x, by simp, (kid_mem.mp hy).2⟩
      · rcases hcov j hb hj with z | ⟨y, hy, z⟩
        · exact .inl (by simp [z])
        · simp only [List.mem_append, List.mem_singleton] at hy
          rcases hy with hy | rfl
          · exact .inr ⟨y, by simp [hy], z⟩
          · by_cases w : j = y
            · exact .inl (by simp [w])
            · right
              have : ∀ {j}, Bel T y j → j ≠ y → ∃ x ∈ kids T y, Bel T x j := by
                intro j hb
                induction hb with
                | at_ => intro z; exact absurd rfl z
                | @up j p e b ih =>
                  intro _
                  by_cases z : p = y
                  · rw [z] at e
                    exact ⟨j, kid_mem.mpr ⟨par_lt e, e⟩, .at_⟩
                  · obtain ⟨x, hx, hb⟩ := ih z
                    exact ⟨x, hx, .up e hb⟩
              obtain ⟨c, hc, hb'⟩ := this z w
              exact ⟨c, by simp [hc], hb'⟩
    · obtain rfl : wait = [] := by
        cases wait with
        | nil => rfl
        | cons x xs => exact absurd (by rw [List.length_cons]; omega) c
      repeat walk_at "e"
      refine h fp found S3 n1 g1 (fun j => ⟨fun hj => hin j (by simp [hj]), fun ⟨_, hb, hj⟩ => ?_⟩) (by rw [List.length_nil] at hlen; omega) (fun b o e => stay e)
      rcases hcov j hb hj with z | ⟨y, hy, _⟩
      · exact z
      · cases hy
end
section
variable {a ow en hu ch : Addr} {as : List Addr} {T : Tree} {S S' : DS} {s : Fm} {hs : List (Option Str)} {n : Nat} {Q : DK}
def canL (xs : List (Option Wk)) (L : List Nat) : List (Option Wk) := (List.range xs.length).map fun k => if (at1 xs k).isNone = true ∧ k ∈ L then some .can else at1 xs k
theorem canL_len {xs : List (Option Wk)} {L : List Nat} : (canL xs L).length = xs.length := by unfold canL; rw [List.length_map, List.length_range]
theorem at1_can {xs : List (Option Wk)} {L : List Nat} {k : Nat} (hk : k < xs.length) : at1 (canL xs L) k = if (at1 xs k).isNone = true ∧ k ∈ L then some .can else at1 xs k := by
  show (match (canL xs L)[k]? with
    | some o => o
    | none => none) = _
  unfold canL
  rw [List.getElem?_map, List.getElem?_range hk]; rfl
theorem at1_ext {xs ys : List (Option Wk)} (hl : xs.length = ys.length) (h : ∀ k, k < xs.length → at1 xs k = at1 ys k) : xs = ys := by
  refine List.ext_getElem? fun k => ?_
  rcases Nat.lt_or_ge k xs.length with q | q
  · have e1 : xs[k]? = some xs[k] := List.getElem?_eq_getElem q
    have e2 : ys[k]? = some (ys[k]'(by omega)) := List.getElem?_eq_getElem _
    have := h k q
    unfold at1 at this
    rw [e1, e2] at this
    rw [e1, e2]
    exact congrArg some this
  · rw [List.getElem?_eq_none q, List.getElem?_eq_none (by omega)]
theorem canL_nil {xs : List (Option Wk)} : canL xs [] = xs := at1_ext canL_len fun k hk => by
  rw [canL_len] at hk
  rw [at1_can hk, if_neg (fun z => by cases z.2)]
theorem canL_snoc {xs : List (Option Wk)} {L : List Nat} {j : Nat} (hj : j < xs.length) : canL xs (L ++ [j]) = if (at1 (canL xs L) j).isNone = true then (canL xs L).set j (some .can) else canL xs L := by
  have hj' : j < (canL xs L).length := by rw [canL_len]; exact hj
  split
  · next q =>
    refine at1_ext (by rw [List.length_set, canL_len, canL_len]) fun k hk => ?_
    rw [canL_len] at hk
    rw [at1_set hj', at1_can hk, at1_can hk]
    rw [at1_can hj] at q
    by_cases z : k = j
    · subst z
      rw [if_pos rfl]
      by_cases w : (at1 xs k).isNone = true
      · rw [if_pos ⟨w, by simp⟩]
      · rw [if_neg (fun y => w y.1)] at q
        exact absurd q w
    · rw [if_neg z]
      by_cases w : (at1 xs k).isNone = true ∧ k ∈ L
      · rw [if_pos w, if_pos ⟨w.1, by simp [w.2]⟩]
      · rw [if_neg w, if_neg (fun y => w ⟨y.1, by have := y.2; simp only [List.mem_append, List.mem_singleton] at this; rcases this with h | h; exact h; exact absurd h z⟩)]
  · next q =>
    refine at1_ext (by rw [canL_len, canL_len]) fun k hk => ?_
    rw [canL_len] at hk
    rw [at1_can hk, at1_can hk]
    rw [at1_can hj] at q
    by_cases w : (at1 xs k).isNone = true ∧ k ∈ L
    · rw [if_pos w, if_pos ⟨w.1, by simp [w.2]⟩]
    · rw [if_neg w]
      by_cases z : k = j
      · subst z
        rw [if_neg w] at q
        rw [if_neg (fun y => q y.1)]
      · rw [if_neg (fun y => w ⟨y.1, by have := y.2; simp only [List.mem_append, List.mem_singleton] at this; rcases this with h | h; exact h; exact absurd h z⟩)]
theorem canL_stop (hT : T.ok) {xs : List (Option Wk)} {L : List Nat} {top : Nat} (hl : xs.length = T.n) (h : ∀ j, j < T.n → at1 xs j = none → (j ∈ L ↔ Bel T top j)) : canL xs L = stopO T xs top := at1_ext (by rw [canL_len, stopO_len]) fun k hk => by
  rw [canL_len] at hk
  rw [at1_can hk, at1_stop hk]
  cases e : at1 xs k with
  | some v => rw [if_neg (fun z => by cases z.1), if_neg (fun z => by cases z.1)]
  | none =>
    have hkn : k < T.n := by rw [← hl]; exact hk
    by_cases z : k ∈ L
    · rw [if_pos ⟨rfl, z⟩, if_pos ⟨rfl, (isBel_iff hT hkn).mpr ((h k hkn e).mp z)⟩]
    · rw [if_neg (fun y => z y.2), if_neg (fun y => z ((h k hkn e).mpr ((isBel_iff hT hkn).mp y.2)))]
theorem isNon_wk (o : Option Wk) : isNon (wkO o) = o.isNone := by
  cases o with
  | none => rfl
  | some w => cases w <;> rfl
theorem cancel_spec {p : Addr} {L : List Nat} (N : Nm a ow en hu ch as) (hl : s.ok T) (F : FamAt a ow en hu ch as T S s hs) (ep : S p = some (.lst (natsI L))) (np : ow ≠ p) (hL : ∀ j ∈ L, j < T.n) (h : ∀ S', FamAt a ow en hu ch as T S' ⟨canL s.own L, s.ends⟩ hs → But ow S S' → Q .non S') :
    sem fs (n + 1) 2 [.ref a, .ref p] S Q := by
  refine run_Family_cancel_own ?_
  unfold b_2
  repeat walk_at "e"
  refine for_inv (fun j δ S1 => (∃ o2, δ = [some (.ref a), some (.ref p), o2]) ∧ FamAt a ow en hu ch as T S1 ⟨canL s.own (L.take j), s.ends⟩ hs ∧ But ow S S1) ⟨⟨_, rfl⟩, by rw [List.take_zero, canL_nil]; exact F, But.refl _ _⟩ (fun _ _ _ _ hh => seq_ref (hh.2.2.get np.symm ep)) ?_ ?_
  · rintro j x δ S1 nx hx hj ⟨⟨o2, rfl⟩, F1, b1⟩ hnx
    have hx' : (L.map fun i : Nat => D.int (i : Int))[j]? = some x := hx
    obtain ⟨k, hk, rfl⟩ := map_at hx'
    have hkn := hL k (List.mem_of_getElem? hk)
    have hkl : k < s.own.length := by rw [hl.l1]; exact hkn
    have hkc : k < (canL s.own (L.take j)).length := by rw [canL_len]; exact hkl
    have e1 : L.take (j + 1) = L.take j ++ [k] := by rw [List.take_add_one, hk]; rfl
    have o1 := F1.obj
    have w1 := F1.own
    dsimp only at w1
    rw [e1, canL_snoc hkl] at hnx
    repeat walk_at "e"
    refine o_ixL w1 (wk_at hkc) ?_
    repeat walk_at "e"
    rw [isNon_wk]
    cases q : (at1 (canL s.own (L.take j)) k).isNone with
    | true =>
      rw [q, if_pos rfl] at hnx
      repeat walk_at "e"
      refine s_ix w1 (ixN_at (j := k) rfl (by rw [List.length_map]; exact hkc)) (i_putL fun S2 e2 b2 => ?_)
      refine hnx _ _ ⟨⟨_, rfl⟩, ?_, b1.trans b2⟩
      exact F1.putO N (by rw [e2, List.map_set]; rfl) b2
    | false =>
      rw [q, if_neg Bool.false_ne_true] at hnx
      refine ite_f (i_next (hnx _ _ ⟨⟨_, rfl⟩, F1, b1⟩))
  · rintro δ S1 ⟨⟨o2, rfl⟩, F1, b1⟩
    rw [natsI_len, List.take_length] at F1
    exact h S1 F1 b1
/-- self.cancel_own([k] + self.all_below(k)) -/
theorem stopV (hT : T.ok) {k : Nat} (hk : k < T.n) {E : DEnds} {δ : DL.Loc} {i : Nat} (N : Nm a ow en hu ch as) (hl : s.ok T) (F : FamAt a ow en hu ch as T S s hs) (hi : δ[i]? = some (some (.int (k : Int)))) (h0 : δ[0]? = some (some (.ref a)))
    (h : ∀ S', FamAt a ow en hu ch as T S' ⟨stopO T s.own k, s.ends⟩ hs → Onl [ow] S S' → E.nx δ S') :
    (dDrop (dMeth c_Family nm_Family (sem fs (n + 1) 2) (dVar 0) (dCons (dOp oAdd (dLst (dCons (dVar i) dNil)) (dMeth c_Family nm_Family (sem fs (n + 1) 1) (dVar 0) (dCons (dVar i) dNil))) dNil))) E δ S := by
  obtain ⟨nx, rt, bk, ct⟩ := E
  have o0 := F.obj
  refine i_drop (i_methC (i_var h0 (f_meth o0 (i_cons (i_op (i_lst (i_cons (i_var hi (i_nil ⟨Nat.le_of_ble_eq_true rfl, ?_⟩)))))))))
  refine i_newL fun p S1 n1 e1 x1 => ?_
  have F1 := F.ext x1
  have o1 := F1.obj
  refine i_methC (i_var h0 (f_meth o1 (i_cons (i_var hi (i_nil ?_)))))
  refine below_spec hT hk F1 fun q L S2 n2 e2 hL hLl x2 => ?_
  refine o_addL (x2.get e1) e2 (by rw [natsI_len]; show 1 + _ ≤ _; omega) ?_
  refine i_newL fun r S3 n3 e3 x3 => ?_
  have F3 := (F1.ext x2).ext x3
  have e3' : S3 r = some (.lst (natsI (k :: L))) := e3
  refine i_nil ?_
  refine cancel_spec N hl F3 e3' (dne (F1.ext x2).own n3) (fun j hj => ?_) fun S4 F4 b4 => ?_
  · rcases List.mem_cons.mp hj with rfl | hj
    · exact hk
    · exact ((hL j).mp hj).1
  · rw [canL_stop hT (top := k) hl.l1 fun j hj _ => ?_] at F4
    · exact h S4 F4 ((Onl.of ((x1.trans x2).trans x3)).but b4 (by simp))
    · rw [List.mem_cons]
      constructor
      · rintro (rfl | hj)
        · exact .at_
        · exact ((hL j).mp hj).2.1
      · intro hb
        by_cases z : j = k
        · exact .inl z
        · exact .inr ((hL j).mpr ⟨hj, hb, z⟩)
theorem canend_spec (hT : T.ok) {k : Nat} (hk : k < T.n) (hl : s.ok T) (F : FamAt a ow en hu ch as T S s hs) (h : ∀ S', Ext S S' → Q (.bl (!(decide (at1 s.own k = none ∨ (kids T k).any (fun c => (at1 s.ends c).isNone) = true)))) S') :
    sem fs (n + 1) 5 [.ref a, .int (k : Int)] S Q := by
  refine run_Family_can_end ?_
  unfold b_5
  have o0 := F.obj
  have hkl : k < s.own.length := by rw [hl.l1]; exact hk
  repeat walk_at "e"
  refine o_ixL F.own (wk_at hkl) ?_
  repeat walk_at "e"
  rw [isNon_wk]
  cases q : at1 s.own k with
  | none =>
    refine ite_t ?_
    repeat walk_at "e"
    have := h S (.refl S)
    rw [show decide (at1 s.own k = none ∨ (kids T k).any (fun c => (at1 s.ends c).isNone) = true) = true from decide_eq_true (.inl q)] at this
    exact this
  | some v =>
    refine ite_f (i_next ?_)
    obtain ⟨kc, q1, q2⟩ := F.kids hk
    repeat walk_at "e"
    refine o_ixL F.kid q1 ?_
    repeat walk_at "e"
    refine lc_map (xs := kids T k) (ex := fun i : Nat => D.int (i : Int)) (fun c => D.bl (!(at1 s.ends c).isNone)) (fun S' => S' = S) (Nat.le_trans (kids_len (T := T) (x := k)) (Nat.le_trans hT.le (by decide))) rfl (fun S' e => by subst e; exact seq_ref q2) ?_ ?_
    · rintro c hc acc S1 nx hacc rfl hnx
      have hcn : c < s.ends.length := by rw [hl.l2]; exact (kid_mem.mp hc).1
      repeat walk_at "e"
      refine o_ixL F.ends (wk_at hcn) ?_
      repeat walk_at "e"
      rw [isNon_wk]
      exact ⟨hacc, hnx _ rfl⟩
    · rintro S1 rfl
      refine i_newL fun p S2 n2 e2 x2 => ?_
      repeat walk_at "e"
      rw [show (List.map (fun c => D.bl (!(at1 s.ends c).isNone)) (kids T k)) = ((kids T k).map fun c => !(at1 s.ends c).isNone).map D.bl from by rw [List.map_map]; rfl] at e2
      refine c_all (bs := (kids T k).map fun c => !(at1 s.ends c).isNone) (lst_ref e2) ?_
      have := h S2 x2
      rw [show (!(decide (at1 s.own k = none ∨ (kids T k).any (fun c => (at1 s.ends c).isNone) = true))) = (((kids T k).map fun c => !(at1 s.ends c).isNone).all id) from ?_] at this
      · exact this
      · rw [List.all_map]
        cases z : (kids T k).any (fun c => (at1 s.ends c).isNone) with
        | true =>
          rw [decide_eq_true (.inr rfl)]
          obtain ⟨c, hc, e⟩ := List.any_eq_true.mp z
          symm
          rw [Bool.not_true, List.all_eq_false]
          exact ⟨c, hc, by simp [e]⟩
        | false =>
          rw [decide_eq_false (fun y => y.elim (fun u => by rw [q] at u; cases u) (fun u => by cases u))]
          symm
          rw [Bool.not_false, List.all_eq_true]
          intro c hc
          have := List.any_eq_false.mp z c hc
          simp only [Function.comp, id]
          cases y : (at1 s.ends c).isNone with
          | true => exact absurd y this
          | false => rfl
end
def hAt (hs : List (Option Str)) (k : Nat) : Option Str := match hs[k]? with
  | some o => o
  | none => none
theorem hAt_at {hs : List (Option Str)} {k : Nat} (hk : k < hs.length) : L2.atI (hs.map strO) (k : Int) = some (strO (hAt hs k)) := by
  have e : hs[k]? = some hs[k] := List.getElem?_eq_getElem hk
  refine (lst_map_at (j := k) rfl e).trans ?_
  unfold hAt
  rw [e]
theorem hAt_set {hs : List (Option Str)} {i k : Nat} {w : Option Str} (hi : i < hs.length) : hAt (hs.set i w) k = if k = i then w else hAt hs k := by
  unfold hAt
  rw [List.getElem?_set]
  by_cases h : i = k
  · subst h; rw [if_pos rfl, if_pos rfl, if_pos hi]
  · rw [if_neg h, if_neg (fun z => h z.symm)]
def Wk.w : Wk → Str
  | .fail w => w
  | _ => Str.ofString ""
/-- what is kept of hurts -/
structure HI (T : Tree) (s : Fm) (hs : List (Option Str)) : Prop where
  len : hs.length = T.n
  at_ : ∀ k, k < T.n → T.strict k = true → at1 s.ends k = none → hAt hs k = (ffail T s.ends k).map Wk.w
section
variable {a ow en hu ch : Addr} {as : List Addr} {T : Tree} {S S' : DS} {s : Fm} {hs : List (Option Str)} {n : Nat} {Q : DK}
theorem isf_true {w : Wk} (h : w.isF = true) : w = .fail w.w := by
  cases w with
  | fail w => rfl
  | can => cases h
  | good => cases h
theorem ending_spec {k : Nat} {w : Wk} (hk : k < T.n) (hl : s.ok T) (H : HI T s hs) (F : FamAt a ow en hu ch as T S s hs) (he : at1 s.ends k = none) (hw : endOf T s k = some w) (h : Q w.d S) :
    sem fs (n + 1) 6 [.ref a, .int (k : Int)] S Q := by
  refine run_Family_ending ?_
  unfold b_6
  have o0 := F.obj
  have hkl : k < s.own.length := by rw [hl.l1]; exact hk
  have hkh : k < hs.length := by rw [H.len]; exact hk
  unfold endOf at hw
  split at hw
  · cases hw
  · next hn =>
    have own := wk_at (xs := s.own) hkl
    repeat walk_at "e"
    refine o_ixL F.own own ?_
    repeat walk_at "e"
    cases q : at1 s.own k with
    | none => exact absurd (.inl q) hn
    | some v =>
      rw [q] at own hw
      have rest : isFail (some v) = false → (dSeq (dIf (dAnd (dTb (dOp (oEq false) (dOp oIx (dOp oIx (dFld c_Family nm_Family 0 (dVar 0)) (dVar 1)) (dC (.int 1))) (dC (.str "strict")))) (dTb (dOp (oIs true) (dOp oIx (dFld c_Family nm_Family 3 (dVar 0)) (dVar 1)) (dC .non)))) (dRet (dTup (dCons (dC (.str "failed")) (dCons (dOp oIx (dFld c_Family nm_Family 3 (dVar 0)) (dVar 1)) dNil)))) dNext)
          (dRet (dOp oIx (dFld c_Family nm_Family 1 (dVar 0)) (dVar 1)))) { nx := fun _ S' => Q .non S', rt := Q, bk := fun _ _ => False, ct := fun _ _ => False } [some (.ref a), some (.int (k : Int))] S := by
        intro hf
        rw [if_neg (by rw [hf]; exact Bool.false_ne_true)] at hw
        repeat walk_at "e"
        refine o_ixT (row_at hk) ?_
        repeat walk_at "e"
        cases z : T.strict k with
        | false =>
          rw [z, if_neg Bool.false_ne_true] at hw
          obtain rfl := Option.some.inj hw
          unfold kindD
          rw [if_neg Bool.false_ne_true]
          repeat walk_at "e"
          refine o_ixL F.own own ?_
          exact h
        | true =>
          rw [z, if_pos rfl] at hw
          have hh := H.at_ k hk z he
          unfold kindD
          rw [if_pos rfl]
          repeat walk_at "e"
          refine o_ixL F.hurts (hAt_at hkh) ?_
          repeat walk_at "e"
          cases y : ffail T s.ends k with
          | none =>
            rw [y] at hw hh
            obtain rfl := Option.some.inj hw
            rw [hh]
            refine ite_nt ?_
            repeat walk_at "e"
            refine o_ixL F.own own ?_
            exact h
          | some u =>
            rw [y] at hw hh
            obtain rfl := Option.some.inj hw
            have hu' := isf_true (ffail_some y).1
            rw [hh]
            refine ite_nf ?_
            repeat walk_at "e"
            refine o_ixL F.hurts (hAt_at hkh) ?_
            rw [hh]
            repeat walk_at "e"
            rw [hu'] at h
            exact h
      cases v with
      | fail x =>
        rw [if_pos (show isFail (some (Wk.fail x)) = true from rfl)] at hw
        obtain rfl := Option.some.inj hw
        refine c_isi (s := "tuple") rfl rfl ?_
        repeat walk_at "e"
        refine ite_b (fun _ => ?_) (fun e => absurd e (by decide))
        repeat walk_at "e"
        refine o_ixL F.own own ?_
        exact h
      | can =>
        refine c_isi (s := "str") rfl rfl ?_
        repeat walk_at "e"
        refine ite_b (fun e => absurd e (by decide)) (fun _ => i_next ?_)
        exact rest rfl
      | good =>
        refine c_isi (s := "str") rfl rfl ?_
        repeat walk_at "e"
        refine ite_b (fun e => absurd e (by decide)) (fun _ => i_next ?_)
        exact rest rfl
/-- what hurts the parent -/
def hurtL (T : Tree) (hs : List (Option Str)) (k : Nat) (w : Wk) : List (Option Str) := match T.par k with
  | some p => if w.isF = true ∧ (hAt hs p).isNone = true then hs.set p (some w.w) else hs
  | none => hs
theorem isNon_str (o : Option Str) : isNon (strO o) = o.isNone := by cases o <;> rfl
theorem hurt_spec (hT : T.ok) {k : Nat} {w : Wk} (hk : k < T.n) (N : Nm a ow en hu ch as) (hl : s.ok T) (hlen : hs.length = T.n) (F : FamAt a ow en hu ch as T S s hs) (hw : at1 s.ends k = some w)
    (h : ∀ S', FamAt a ow en hu ch as T S' ⟨match T.par k with
      | some p => if w.isF = true ∧ T.strict p = true then stopO T s.own p else s.own
      | none => s.own, s.ends⟩ (hurtL T hs k w) → Onl [ow, hu] S S' → Q .non S') :
    sem fs (n + 2) 7 [.ref a, .int (k : Int)] S Q := by
  refine run_Family_hurt_parent ?_
  unfold b_7
  have o0 := F.obj
  have hke : k < s.ends.length := by rw [hl.l2]; exact hk
  have ends := wk_at (xs := s.ends) hke
  rw [hw] at ends
  repeat walk_at "e"
  refine o_ixT (row_at hk) ?_
  repeat walk_at "e"
  cases z : T.par k with
  | none =>
    rw [show hurtL T hs k w = hs by unfold hurtL; rw [z], z] at h
    refine ite_t ?_
    repeat walk_at "e"
    exact h S F (Onl.refl _ _)
  | some p =>
    have hpn : p < T.n := by have := hT.par k p z; omega
    have hph : p < hs.length := by rw [hlen]; exact hpn
    rw [show hurtL T hs k w = if w.isF = true ∧ (hAt hs p).isNone = true then hs.set p (some w.w) else hs by unfold hurtL; rw [z], z] at h
    dsimp only at h
    refine ite_f ?_
    repeat walk_at "e"
    refine o_ixL F.ends ends ?_
    repeat walk_at "e"
    have nofail : w.isF = false → Q .non S := by
      intro hf
      rw [if_neg (fun y => by rw [hf] at y; cases y.1), if_neg (fun y => by rw [hf] at y; cases y.1)] at h
      exact h S F (Onl.refl _ _)
    cases w with
    | can =>
      refine c_isi (s := "str") rfl rfl ?_
      repeat walk_at "e"
      refine ite_b (fun _ => ?_) (fun e => absurd e (by decide))
      repeat walk_at "e"
      exact nofail rfl
    | good =>
      refine c_isi (s := "str") rfl rfl ?_
      repeat walk_at "e"
      refine ite_b (fun _ => ?_) (fun e => absurd e (by decide))
      repeat walk_at "e"
      exact nofail rfl
    | fail x =>
      refine c_isi (s := "tuple") rfl rfl ?_
      repeat walk_at "e"
      refine ite_b (fun e => absurd e (by decide)) (fun _ => i_next ?_)
      have tail : ∀ (hs' : List (Option Str)) S1, hs' = (if (hAt hs p).isNone = true then hs.set p (some x) else hs) → FamAt a ow en hu ch as T S1 s hs' → Onl [ow, hu] S S1 →
          (dIf (dTb (dOp (oEq false) (dOp oIx (dOp oIx (dFld c_Family nm_Family 0 (dVar 0)) (dVar 2)) (dC (.int 1))) (dC (.str "strict")))) (dDrop (dMeth c_Family nm_Family (sem fs (n + 1) 2) (dVar 0) (dCons (dOp oAdd (dLst (dCons (dVar 2) dNil)) (dMeth c_Family nm_Family (sem fs (n + 1) 1) (dVar 0) (dCons (dVar 2) dNil))) dNil))) dNext) { nx := fun _ S' => Q .non S', rt := Q, bk := fun _ _ => False, ct := fun _ _ => False } [some (.ref a), some (.int (k : Int)), some (.int (p : Int))] S1 := by
        intro hs' S1 ehs F1 O1
        have o1 := F1.obj
        have hset : (if (Wk.fail x).isF = true ∧ (hAt hs p).isNone = true then hs.set p (some (Wk.fail x).w) else hs) = hs' := by
          rw [ehs]
          by_cases y : (hAt hs p).isNone = true
          · rw [if_pos ⟨rfl, y⟩, if_pos y]; rfl
          · rw [if_neg (fun u => y u.2), if_neg y]
        rw [hset] at h
        repeat walk_at "e"
        refine o_ixT (row_at hpn) ?_
        repeat walk_at "e"
        cases y : T.strict p with
        | true =>
          rw [if_pos ⟨rfl, y⟩] at h
          unfold kindD
          rw [if_pos rfl]
          refine o_eqS ?_
          refine i_asB ?_
          refine ite_yes rfl ?_
          refine stopV hT hpn N hl F1 rfl rfl fun S2 F2 O2 => ?_
          exact h S2 F2 (O1.trans fun b o hb e => O2 b o (fun u => hb (by simp only [List.mem_singleton] at u; simp [u])) e)
        | false =>
          rw [if_neg (fun u => by rw [y] at u; cases u.2)] at h
          unfold kindD
          rw [if_neg Bool.false_ne_true]
          repeat walk_at "e"
          exact h S1 F1 O1
      repeat walk_at "e"
      refine o_ixL F.hurts (hAt_at hph) ?_
      repeat walk_at "e"
      rw [isNon_str]
      cases y : (hAt hs p).isNone with
      | true =>
        repeat walk_at "e"
        refine o_ixL F.ends ends ?_
        repeat walk_at "e"
        refine o_ixT (v := .str x) rfl ?_
        repeat walk_at "e"
        refine s_ix F.hurts (ixN_at (j := p) rfl (by rw [List.length_map]; exact hph)) (i_putL fun S1 e1 b1 => ?_)
        exact tail _ S1 (by rw [if_pos y]) (F.putH N (by rw [e1, List.map_set]; rfl) b1) ((Onl.refl _ _).but b1 (by simp))
      | false =>
        refine ite_f (i_next ?_)
        exact tail _ S (by rw [if_neg (by rw [y]; exact Bool.false_ne_true)]) F (Onl.refl _ _)
end
theorem hi_step {T : Tree} (hT : T.ok) {s : Fm} {hs : List (Option Str)} {k : Nat} {w : Wk} (hk : k < T.n) (h : FI T s) (H : HI T s hs) (he : at1 s.ends k = none) (hw : endOf T s k = some w) : HI T (stepF T s k) (hurtL T hs k w) := by
  have hle : k < s.ends.length := by rw [h.ok.l2]; exact hk
  have hends : (stepF T s k).ends = s.ends.set k (some w) := by unfold stepF; rw [if_pos (by rw [he]; rfl), hw]
  have hf := endOf_fail hk he hw
  refine ⟨?_, fun p hp hs1 hpe => ?_⟩
  · unfold hurtL
    split
    · split
      · rw [List.length_set]; exact H.len
      · exact H.len
    · exact H.len
  · rw [hends, at1_set hle] at hpe
    have hpk : p ≠ k := fun z => by rw [if_pos z] at hpe; cases hpe
    rw [if_neg hpk] at hpe
    have ih := H.at_ p hp hs1 hpe
    rw [hends]
    by_cases hpar : T.par k = some p
    · have hkk : k ∈ kids T p := kid_mem.mpr ⟨hk, hpar⟩
      have hhl : p < hs.length := by rw [H.len]; exact hp
      unfold hurtL
      rw [hpar]
      dsimp only
      by_cases hF : w.isF = true
      · -- no child had failed
        have hno : ffail T s.ends p = none := by
          cases q : ffail T s.ends p with
          | none => rfl
          | some v =>
            obtain ⟨a1, c, hc, e⟩ := ffail_some q
            have bp : Bad T s p := ⟨hp, hpe, .inr ⟨hs1, c, hc, by rw [e]; exact a1⟩⟩
            exact absurd (h.one p k bp (hf.mp hF)) hpk
        rw [hno] at ih
        rw [if_pos ⟨hF, by rw [ih]; rfl⟩, hAt_set hhl, if_pos rfl]
        have : ffail T (s.ends.set k (some w)) p = some w := by
          cases q : ffail T (s.ends.set k (some w)) p with
          | none =>
            have := ffail_none q k hkk
            rw [at1_set hle, if_pos rfl] at this
            rw [show isFail (some w) = w.isF from rfl, hF] at this
            cases this
          | some v =>
            obtain ⟨a1, c, hc, e⟩ := ffail_some q
            rw [at1_set hle] at e
            by_cases z : c = k
            · rw [if_pos z] at e; exact e.symm
            · rw [if_neg z] at e
              have := ffail_none hno c hc
              rw [e] at this
              rw [show isFail (some v) = v.isF from rfl, a1] at this
              cases this
        rw [this]; rfl
      · rw [if_neg (fun z => hF z.1), ih]
        have : ffail T (s.ends.set k (some w)) p = ffail T s.ends p := by
          have key : ∀ o : Option Wk, True := fun _ => True.intro
          unfold ffail
          rw [show (kids T p).map (at1 (s.ends.set k (some w))) = (kids T p).map (fun c => if c = k then some w else at1 s.ends c) from List.map_congr_left fun c _ => at1_set hle]
          have gen : ∀ L : List Nat, (L.map fun c => if c = k then some w else at1 s.ends c).findSome? (fun o => if isFail o = true then o else none) = (L.map (at1 s.ends)).findSome? fun o => if isFail o = true then o else none := by
            intro L
            induction L with
            | nil => rfl
            | cons c L ih =>
              rw [List.map_cons, List.map_cons, List.findSome?_cons, List.findSome?_cons, ih]
              by_cases z : c = k
              · rw [if_pos z, z, he]
                rw [if_neg (show ¬ isFail (some w) = true from hF), if_neg (show ¬ isFail none = true from Bool.false_ne_true)]
              · rw [if_neg z]
          exact gen _
        rw [this]
    · have hk' : k ∉ kids T p := fun z => hpar (kid_mem.mp z).2
      have h1 : hAt (hurtL T hs k w) p = hAt hs p := by
        unfold hurtL
        split
        · next q hq =>
          split
          · rw [hAt_set (by rw [H.len]; have := hT.par k q hq; omega), if_neg (fun z => hpar (by rw [hq, z]))]
          · rfl
        · rfl
      rw [h1, ih]
      congr 1
      unfold ffail
      congr 1
      exact List.map_congr_left fun c hc => by rw [at1_set hle, if_neg (fun z => hk' (by rw [← z]; exact hc))]
section
variable {a ow en hu ch : Addr} {as : List Addr} {T : Tree} {S S' : DS} {s : Fm} {hs : List (Option Str)} {n : Nat} {Q : DK}
theorem more_spec (hT : T.ok) (N : Nm a ow en hu ch as) (hfi : FI T s) (H : HI T s hs) (F : FamAt a ow en hu ch as T S s hs) (h : ∀ hs' S' (b : Bool), FamAt a ow en hu ch as T S' (passF T s) hs' → HI T (passF T s) hs' → Onl [ow, en, hu] S S' → (b = true → cntE s < cntE (passF T s)) → (b = false → passF T s = s) → Q (.bl b) S') :
    sem fs (n + 3) 4 [.ref a] S Q := by
  refine run_Family_end_more ?_
  unfold b_4
  have o0 := F.obj
  have hTl := hT.le
  repeat walk_at "e"
  refine c_lenT (xs := T.rows.map rowT) ?_
  repeat walk_at "e"
  rw [show ((T.rows.map rowT).length : Int) = (T.n : Int) by rw [List.length_map]; rfl]
  refine ⟨⟨by decide, by decide, by omega, by omega⟩, ?_⟩
  rw [show ((T.n : Int) - 0).toNat = T.n by omega]
  refine for_inv (fun j δ S1 => ∃ o2 hs1 b, δ = [some (.ref a), some (.bl b), o2] ∧ FI T (((downL T.n).take j).foldl (stepF T) s) ∧ HI T (((downL T.n).take j).foldl (stepF T) s) hs1 ∧ FamAt a ow en hu ch as T S1 (((downL T.n).take j).foldl (stepF T) s) hs1 ∧ Onl [ow, en, hu] S S1 ∧
    (b = true → cntE s < cntE (((downL T.n).take j).foldl (stepF T) s)) ∧ (b = false → ((downL T.n).take j).foldl (stepF T) s = s)) ⟨_, hs, false, rfl, by rw [List.take_zero]; exact hfi, by rw [List.take_zero]; exact H, by rw [List.take_zero]; exact F, Onl.refl _ _, (fun z => by cases z), fun _ => by rw [List.take_zero]; rfl⟩ (fun _ _ _ _ _ => True.intro) ?_ ?_
  · rintro j x δ S1 nx hx hj ⟨o2, hs1, b, rfl, f1, h1, F1, O1, c1, c2⟩ hnx
    have hjn : j < T.n := by rw [rngC, List.length_map, List.length_range] at hj; exact hj
    obtain rfl : x = .int ((T.n - 1 - j : Nat) : Int) := by
      rw [rngC, List.getElem?_map, List.getElem?_range hjn] at hx
      rw [← Option.some.inj hx]
      show D.int _ = D.int _
      congr 1; omega
    have hdj : (downL T.n)[j]? = some (T.n - 1 - j) := by unfold downL; rw [List.getElem?_map, List.getElem?_range hjn]; rfl
    have htk : (downL T.n).take (j + 1) = (downL T.n).take j ++ [T.n - 1 - j] := by rw [List.take_add_one, hdj]; rfl
    rw [htk, List.foldl_append] at hnx
    generalize hk0 : T.n - 1 - j = k at hnx ⊢
    have hk : k < T.n := by omega
    generalize ((downL T.n).take j).foldl (stepF T) s = s1 at f1 h1 F1 c1 c2 hnx
    change (∀ δ S, _ → nx δ S) at hnx
    have hke : k < s1.ends.length := by rw [f1.ok.l2]; exact hk
    have o1 := F1.obj
    have stay : stepF T s1 k = s1 → ∀ S2, FamAt a ow en hu ch as T S2 s1 hs1 → Onl [ow, en, hu] S S2 → nx [some (.ref a), some (.bl b), some (.int (k : Int))] S2 := fun e S2 F2 O2 => by
      refine hnx _ _ ⟨_, hs1, b, rfl, ?_⟩
      show FI T (stepF T s1 k) ∧ _
      rw [show List.foldl (stepF T) s1 [k] = stepF T s1 k from rfl, e]
      exact ⟨f1, h1, F2, O2, c1, c2⟩
    repeat walk_at "e"
    refine o_ixL F1.ends (wk_at hke) ?_
    repeat walk_at "e"
    rw [isNon_wk]
    by_cases he : at1 s1.ends k = none
    · rw [he]
      refine ite_t ?_
      repeat walk_at "e"
      refine canend_spec hT hk f1.ok F1 fun S2 x2 => ?_
      have F2 := F1.ext x2
      have O2 := O1.ext x2
      cases q : endOf T s1 k with
      | none =>
        have hc : at1 s1.own k = none ∨ (kids T k).any (fun c => (at1 s1.ends c).isNone) = true := by
          unfold endOf at q
          split at q
          · assumption
          · next z =>
            split at q
            · exact .inl q
            · split at q
              · split at q
                · cases q
                · exact .inl q
              · exact .inl q
        rw [decide_eq_true hc]
        repeat walk_at "e"
        exact stay (by unfold stepF; rw [if_pos (by rw [he]; rfl), q]) S2 F2 O2
      | some w =>
        have hc : ¬ (at1 s1.own k = none ∨ (kids T k).any (fun c => (at1 s1.ends c).isNone) = true) := fun z => by
          unfold endOf at q
          rw [if_pos z] at q
          cases q
        rw [decide_eq_false hc]
        have o2 := F2.obj
        repeat walk_at "e"
        refine ending_spec hk f1.ok h1 F2 he q ?_
        have F2e := F2.ends
        repeat walk_at "e"
        refine s_ix F2e (ixN_at (j := k) rfl (by rw [List.length_map]; exact hke)) (i_putL fun S3 e3 b3 => ?_)
        have F3 : FamAt a ow en hu ch as T S3 ⟨s1.own, s1.ends.set k (some w)⟩ hs1 := F2.putE N (by rw [e3, List.map_set]; rfl) b3
        have ok3 : Fm.ok T ⟨s1.own, s1.ends.set k (some w)⟩ := ⟨f1.ok.l1, by rw [List.length_set]; exact f1.ok.l2⟩
        have o3 := F3.obj
        repeat walk_at "e"
        refine hurt_spec hT hk N ok3 h1.len F3 (by rw [at1_set hke, if_pos rfl]) fun S4 F4 O4 => ?_
        have hst : stepF T s1 k = ⟨match T.par k with
          | some p => if w.isF = true ∧ T.strict p = true then stopO T s1.own p else s1.own
          | none => s1.own, s1.ends.set k (some w)⟩ := by unfold stepF; rw [if_pos (by rw [he]; rfl), q] <;> rfl
        replace F4 : FamAt a ow en hu ch as T S4 (stepF T s1 k) (hurtL T hs1 k w) := by rw [hst]; exact F4
        repeat walk_at "e"
        have hcnt : cntE (stepF T s1 k) = cntE s1 + 1 := by
          rcases stepF_cases hk f1.ok with z | z
          · exfalso
            have e2 : (stepF T s1 k).ends = s1.ends.set k (some w) := by rw [hst]
            rw [z] at e2
            have e3 := at1_set (xs := s1.ends) (i := k) (k := k) (w := some w) hke
            rw [← e2, if_pos rfl, he] at e3
            cases e3
          · exact z.2.2
        refine hnx _ _ ⟨_, hurtL T hs1 k w, true, rfl, ?_⟩
        rw [show List.foldl (stepF T) s1 [k] = stepF T s1 k from rfl]
        refine ⟨stepF_fi hT hk f1, hi_step hT hk f1 h1 he q, F4, (O2.but b3 (by simp)).trans fun b' o hb e => O4 b' o (fun u => hb (by simp only [List.mem_cons, List.not_mem_nil, or_false] at u ⊢; rcases u with u | u <;> simp [u])) e, fun _ => ?_, fun z => by cases z⟩
        rw [hcnt]
        cases b with
        | true => have := c1 rfl; omega
        | false => rw [c2 rfl]; omega
    · obtain ⟨v, hv⟩ := Option.ne_none_iff_exists'.mp he
      rw [hv]
      refine ite_f (i_next ?_)
      exact stay (by unfold stepF; rw [if_neg (by rw [hv]; exact Bool.false_ne_true)]) S1 F1 O1
  · rintro δ S1 ⟨o2, hs1, b, rfl, f1, h1, F1, O1, c1, c2⟩
    have e : ((downL T.n).take (rngC (0 + (T.n : Int) - 1) (-1) T.n).length).foldl (stepF T) s = passF T s := by
      rw [rngC, List.length_map, List.length_range, List.take_of_length_le (by unfold downL; rw [List.length_map, List.length_range]; exact Nat.le_refl _)]; rfl
    rw [e] at f1 h1 F1 c1 c2
    repeat walk_at "e"
    exact h hs1 S1 b F1 h1 O1 c1 c2
end
def kidsU (T : Tree) (j s : Nat) : List Nat := (List.range j).filter fun k => decide (T.par k = some s)
theorem kidsU_succ {T : Tree} {j s : Nat} : kidsU T (j + 1) s = kidsU T j s ++ (if T.par j = some s then [j] else []) := by
  unfold kidsU
  rw [List.range_succ, List.filter_append, List.filter_cons, List.filter_nil]
  by_cases h : T.par j = some s
  · rw [if_pos (decide_eq_true h), if_pos h]
  · rw [if_neg (by rw [decide_eq_false h]; exact Bool.false_ne_true), if_neg h]
theorem kidsU_len {T : Tree} {j s : Nat} : (kidsU T j s).length ≤ j := by unfold kidsU; exact Nat.le_trans (List.length_filter_le ..) (by rw [List.length_range]; exact Nat.le_refl _)
theorem rep_none (k : Nat) : (List.replicate k [D.non]).flatten = (List.replicate k (none : Option Wk)).map wkO := by
  induction k with
  | zero => rfl
  | succ k ih => rw [List.replicate_succ, List.flatten_cons, ih, List.replicate_succ]; rfl
theorem rep_noneS (k : Nat) : (List.replicate k [D.non]).flatten = (List.replicate k (none : Option Str)).map strO := by
  induction k with
  | zero => rfl
  | succ k ih => rw [List.replicate_succ, List.flatten_cons, ih, List.replicate_succ]; rfl
section
variable {T : Tree} {S S' S0 : DS} {n : Nat} {Q : DK} {a : Addr}
theorem init_spec (hT : T.ok) (e : S a = some (.ins c_Family nm_Family [])) (na : S0 a = none) (X : Ext S0 S)
    (h : ∀ ow en hu ch as S', Nm a ow en hu ch as → (∀ p ∈ [ow, en, hu], S0 p = none) → FamAt a ow en hu ch as T S' (fm0 T) (List.replicate T.n none) → Ext S0 S' → Q .non S') : sem fs (n + 1) 0 [.ref a, T.d] S Q := by
  have hTl := hT.le
  refine run_Family___init__ ?_
  unfold b_0
  repeat walk_at "e"
  refine i_putI fun S1 e1 b1 => ?_
  have X1 := X.but b1 na
  have len : ∀ {S1 : DS} {δ : DL.Loc} {Q' : DK}, Q' (.int (T.n : Int)) S1 → bLen [T.d] S1 Q' := fun h => c_lenT (xs := T.rows.map rowT) (by rw [List.length_map]; exact h)
  repeat walk_at "e"
  refine i_newL fun p2 S2 n2 e2 x2 => ?_
  repeat walk_at "e"
  refine len (δ := []) ?_
  repeat walk_at "e"
  refine o_mulL e2 ⟨by omega, by omega, by rw [List.length_singleton]; omega⟩ ?_
  refine i_newL fun ow S3 n3 e3 x3 => ?_
  rw [Int.toNat_natCast, rep_none] at e3
  have e1' := x3.get (x2.get e1)
  have nwa : ow ≠ a := (dne (x2.get e1) n3).symm
  repeat walk_at "e"
  refine i_putI fun S4 e4 b4 => ?_
  have e3' := b4.get nwa e3
  have X4 := (((X1.trans x2).trans x3).but b4 na)
  repeat walk_at "e"
  refine i_newL fun p5 S5 n5 e5 x5 => ?_
  repeat walk_at "e"
  refine len (δ := []) ?_
  repeat walk_at "e"
  refine o_mulL e5 ⟨by omega, by omega, by rw [List.length_singleton]; omega⟩ ?_
  refine i_newL fun en S6 n6 e6 x6 => ?_
  rw [Int.toNat_natCast, rep_none] at e6
  have e4' := x6.get (x5.get e4)
  have nea : en ≠ a := (dne (x5.get e4) n6).symm
  have nwe : ow ≠ en := dne (x5.get e3') n6
  repeat walk_at "e"
  refine i_putI fun S7 e7 b7 => ?_
  have w7 := b7.get nwa (x6.get (x5.get e3'))
  have v7 := b7.get nea e6
  have X7 := (((X4.trans x5).trans x6).but b7 na)
  repeat walk_at "e"
  refine i_newL fun p8 S8 n8 e8 x8 => ?_
  repeat walk_at "e"
  refine len (δ := []) ?_
  repeat walk_at "e"
  refine o_mulL e8 ⟨by omega, by omega, by rw [List.length_singleton]; omega⟩ ?_
  refine i_newL fun hu S9 n9 e9 x9 => ?_
  rw [Int.toNat_natCast, rep_noneS] at e9
  have e7' := x9.get (x8.get e7)
  have nha : hu ≠ a := (dne (x8.get e7) n9).symm
  have nwh : ow ≠ hu := dne (x8.get w7) n9
  have neh : en ≠ hu := dne (x8.get v7) n9
  repeat walk_at "e"
  refine i_putI fun S10 e10 b10 => ?_
  have w10 := b10.get nwa (x9.get (x8.get w7))
  have v10 := b10.get nea (x9.get (x8.get v7))
  have u10 := b10.get nha e9
  have X10 := (((X7.trans x8).trans x9).but b10 na)
  clear e9 e8 e7 e7' e6 e5 e4 e4' e3 e3' e2 e1 e1' w7 v7
  repeat walk_at "e"
  refine lc_inv (fun j acc S11 => ∃ as : List Addr, acc = as.map D.ref ∧ as.length = j ∧ as.Nodup ∧ (∀ k ∈ as, S11 k = some (.lst []) ∧ S10 k = none) ∧ Ext S10 S11) ⟨[], rfl, rfl, List.nodup_nil, (fun k hk => by cases hk), .refl _⟩ (fun _ _ _ _ _ => rfl) ?_ ?_
  · rintro j x acc S11 nx hx hj ⟨as, rfl, hl, hnd, hal, x11⟩ hnx
    rw [List.length_map] at hj
    have hj : j < T.n := hj
    repeat walk_at "e"
    refine i_newL fun k S12 n12 e12 x12 => ?_
    refine ⟨by rw [List.length_map]; omega, hnx _ _ ⟨as ++ [k], by rw [List.map_append]; rfl, by rw [List.length_append, hl]; rfl, ?_, fun q hq => ?_, x11.trans x12⟩⟩
    · rw [List.nodup_append]
      refine ⟨hnd, List.nodup_cons.mpr ⟨List.not_mem_nil, List.nodup_nil⟩, fun y hy z hz e => ?_⟩
      rw [List.mem_singleton] at hz
      subst e hz
      have := (hal y hy).1
      rw [n12] at this; cases this
    · rcases List.mem_append.mp hq with q' | q'
      · exact ⟨x12.get (hal q q').1, (hal q q').2⟩
      · rw [List.mem_singleton.mp q']; exact ⟨e12, x11.back n12⟩
  rintro acc S11 ⟨as, rfl, hl, hnd, hal, x11⟩
  rw [List.length_map] at hl
  have hl : as.length = T.n := hl
  refine i_newL fun ch S12 n12 e12 x12 => ?_
  have e10' := x12.get (x11.get e10)
  repeat walk_at "e"
  refine i_putI fun S13 e13 b13 => ?_
  have nca : ch ≠ a := (dne (x11.get e10) n12).symm
  have nas : ∀ q o, S10 q = some o → q ∉ as := fun q o h z => by have := (hal q z).2; rw [h] at this; cases this
  have hch : ch ∉ as := fun z => by have := (hal ch z).1; rw [n12] at this; cases this
  have w13 := b13.get nwa (x12.get (x11.get w10))
  have v13 := b13.get nea (x12.get (x11.get v10))
  have u13 := b13.get nha (x12.get (x11.get u10))
  have c13 := b13.get nca e12
  have N : Nm a ow en hu ch as := ⟨⟨nwe, nwh, neh⟩, ⟨nwa, nea, nha⟩, ⟨dne (x11.get w10) n12, dne (x11.get v10) n12, dne (x11.get u10) n12⟩, ⟨nas _ _ w10, nas _ _ v10, nas _ _ u10⟩⟩
  have f0 : ∀ p ∈ [ow, en, hu], S0 p = none := by
    intro p hp
    simp only [List.mem_cons, List.not_mem_nil, or_false] at hp
    rcases hp with rfl | rfl | rfl
    · exact (X1.trans x2).back n3
    · exact (X4.trans x5).back n6
    · exact (X7.trans x8).back n9
  have X13 : Ext S0 S13 := (((X10.trans x11).trans x12).but b13 na)
  have as0 : ∀ k ∈ as, S0 k = none ∧ k ≠ a := fun k hk => ⟨X10.back (hal k hk).2, fun z => by have := (hal k hk).2; rw [z, e10] at this; cases this⟩
  have each13 : ∀ i k, as[i]? = some k → S13 k = some (.lst (natsI (kidsU T 0 i))) := fun i k hk => b13.get (as0 k (List.mem_of_getElem? hk)).2 (x12.get (hal k (List.mem_of_getElem? hk)).1)
  repeat walk_at "e"
  refine i_enumT (xs := T.rows.map rowT) ?_
  refine for_inv (fun j δ S14 => ∃ o2 o3 o4 o5, δ = [some (.ref a), some T.d, o2, o3, o4, o5] ∧ S14 a = some (.ins c_Family nm_Family [T.d, .ref ow, .ref en, .ref hu, .ref ch]) ∧ S14 ow = some (.lst ((fm0 T).own.map wkO)) ∧ S14 en = some (.lst ((fm0 T).ends.map wkO)) ∧ S14 hu = some (.lst ((List.replicate T.n none).map strO)) ∧
    S14 ch = some (.lst (as.map D.ref)) ∧ (∀ i k, as[i]? = some k → S14 k = some (.lst (natsI (kidsU T j i)))) ∧ Ext S0 S14) ⟨_, _, _, _, rfl, e13, w13, v13, u13, c13, each13, X13⟩ (fun _ _ _ _ _ => True.intro) ?_ ?_
  · rintro j x δ S14 nx hx hj ⟨o2, o3, o4, o5, rfl, g1, g2, g3, g4, g5, g6, X14⟩ hnx
    obtain ⟨y, hy, rfl⟩ := numL_get hx
    rw [numL, List.length_map, List.length_range, List.length_map] at hj
    have hj : j < T.n := hj
    obtain ⟨r, hr, rfl⟩ := map_at hy
    have hpar : T.par j = r.1 := by unfold Tree.par; rw [hr]
    repeat walk_at "e"
    refine i_gtup (xs := [optD r.1, kindD r.2]) rfl ?_
    repeat walk_at "e"
    cases q : r.1 with
    | none =>
      refine ite_nt (i_next (hnx _ _ ⟨_, _, _, _, rfl, g1, g2, g3, g4, g5, fun i k hk => ?_, X14⟩))
      rw [kidsU_succ, hpar, q, if_neg (fun z => by cases z), List.append_nil]
      exact g6 i k hk
    | some p =>
      have hp : p < T.n := by have := hT.par j p (by rw [hpar, q]); omega
      have hpl : as[p]? = some (as[p]'(by rw [hl]; exact hp)) := List.getElem?_eq_getElem _
      generalize as[p]'(by rw [hl]; exact hp) = kp at hpl
      refine ite_nf ?_
      repeat walk_at "e"
      refine o_ixL g5 (lst_map_at (j := p) rfl hpl) ?_
      have g6p := g6 p kp hpl
      repeat walk_at "e"
      refine m_append g6p (by rw [List.length_append, natsI_len, List.length_singleton]; have := kidsU_len (T := T) (j := j) (s := p); omega) (i_putL fun S15 e15 b15 => ?_)
      have hkp := List.mem_of_getElem? hpl
      have nk : ∀ q, q ∉ as → q ≠ kp := fun q hq z => hq (by rw [z]; exact hkp)
      refine hnx _ _ ⟨_, _, _, _, rfl, b15.get (as0 kp hkp).2.symm g1, b15.get (nk _ N.n4.1) g2, b15.get (nk _ N.n4.2.1) g3, b15.get (nk _ N.n4.2.2) g4, b15.get (nk _ hch) g5, fun i k hk => ?_, X14.but b15 (as0 kp hkp).1⟩
      rw [kidsU_succ, hpar, q]
      by_cases z : i = p
      · subst z
        have : k = kp := Option.some.inj (hk.symm.trans hpl)
        rw [this, e15, if_pos rfl]
        unfold natsI
        rw [List.map_append]; rfl
      · have hne : k ≠ kp := fun w => z ((List.getElem?_inj (List.getElem?_eq_some_iff.mp hk).1 hnd).mp (by rw [hk, hpl, w]))
        rw [if_neg (fun w => z (Option.some.inj w).symm), List.append_nil]
        exact b15.get hne (g6 i k hk)
  · rintro δ S14 ⟨o2, o3, o4, o5, rfl, g1, g2, g3, g4, g5, g6, X14⟩
    rw [numL, List.length_map, List.length_range, List.length_map] at g6
    exact h ow en hu ch as S14 N f0 ⟨g1, g2, g3, g4, g5, hl, g6⟩ X14
variable {ow en hu ch : Addr} {as : List Addr} {s : Fm} {hs : List (Option Str)}
theorem happen_spec (hT : T.ok) (N : Nm a ow en hu ch as) (fs' : FS T s) (H : HI T s hs) (F : FamAt a ow en hu ch as T S s hs) {e : SEv} (he : e.s < T.n) (h : ∀ hs' S', FamAt a ow en hu ch as T S' (evF T s e) hs' → HI T (evF T s e) hs' → Onl [ow, en, hu] S S' → Q .non S') :
    sem fs (n + 4) 3 [.ref a, e.d] S Q := by
  refine run_Family_happen ?_
  unfold b_3
  have f0 := evO_fi hT fs'.ok fs'.no he
  have hel : e.s < s.own.length := by rw [fs'.ok.l1]; exact he
  have tail : ∀ S1, FamAt a ow en hu ch as T S1 (evO T s e) hs → Onl [ow, en, hu] S S1 → (dWhile (dTb (dMeth c_Family nm_Family (sem fs (n + 3) 4) (dVar 0) dNil)) dNext) { nx := fun _ S' => Q .non S', rt := Q, bk := fun _ _ => False, ct := fun _ _ => False } [some (.ref a), some e.d, some (.int (e.s : Int))] S1 := by
    intro S1 F1 O1
    have H1 : HI T (evO T s e) hs := by
      refine ⟨H.len, fun k hk hst hke => ?_⟩
      have ee : (evO T s e).ends = s.ends := by
        cases e with
        | cancel k => rfl
        | done k => unfold evO; dsimp only; split <;> rfl
        | fail k w => unfold evO; dsimp only; split <;> rfl
      rw [ee] at hke ⊢
      exact H.at_ k hk hst hke
    refine while_inv (fun m δ S2 => ∃ k st hs2, δ = [some (.ref a), some e.d, some (.int (e.s : Int))] ∧ st = iterF T k (evO T s e) ∧ k ≤ cntE st ∧ m = T.n - cntE st ∧ FI T st ∧ HI T st hs2 ∧ FamAt a ow en hu ch as T S2 st hs2 ∧ Onl [ow, en, hu] S S2) (T.n - cntE (evO T s e)) ⟨0, _, hs, rfl, rfl, Nat.zero_le _, rfl, f0, H1, F1, O1⟩ ?_
    rintro m δ S2 nx ⟨k, st, hs2, rfl, hst, hk, rfl, f2, H2, F2, O2⟩ hnx
    have o2 := F2.obj
    repeat walk_at "e"
    refine more_spec hT N f2 H2 F2 fun hs3 S3 b F3 H3 O3 c1 c2 => ?_
    repeat walk_at "e"
    have e1 : passF T st = iterF T (k + 1) (evO T s e) := by rw [iter_add, ← hst]; rfl
    have f3 := passF_fi hT f2
    cases b with
    | true =>
      have := c1 rfl
      have := cnt_le f3.ok
      refine ite_t (i_next (hnx (T.n - cntE (passF T st)) _ _ (by omega) ⟨k + 1, passF T st, hs3, rfl, e1, by omega, rfl, f3, H3, F3, O2.trans O3⟩))
    | false =>
      have e2 := c2 rfl
      have hle := cnt_le f2.ok
      have e3 : evF T s e = st := by
        unfold evF
        rw [show T.n + 1 = k + (T.n + 1 - k) by omega, iter_add, ← hst, fix_iter e2]
      rw [e2] at F3 H3
      refine ite_f ?_
      exact h hs3 S3 (by rw [e3]; exact F3) (by rw [e3]; exact H3) (O2.trans O3)
  have o0 := F.obj
  cases e with
  | cancel k =>
    refine i_seq ?_
    refine i_asg ?_
    refine i_op (i_var rfl (i_c (o_ixT (v := .int (k : Int)) rfl (i_gname rfl ?_))))
    refine i_seq (i_if (i_tb (i_op (i_op (i_var rfl (i_c (o_ixT (v := .str "cancel") rfl (i_c (o_eqS (i_asB ?_))))))))))
    refine ite_yes rfl ?_
    refine stopV (δ := [some (.ref a), some (SEv.d (.cancel k)), some (.int (k : Int))]) (i := 2) hT he N fs'.ok F rfl rfl fun S1 F1 O1 => ?_
    exact tail S1 F1 fun b o hb e => O1 b o (fun u => hb (by simp only [List.mem_singleton] at u; simp [u])) e
  | done k =>
    repeat walk_at "e"
    refine o_ixT (v := .int (k : Int)) rfl ?_
    repeat walk_at "e"
    refine o_ixT (v := .str "done") rfl ?_
    repeat walk_at "e"
    refine o_ixL F.own (wk_at hel) ?_
    repeat walk_at "e"
    rw [isNon_wk]
    cases q : (at1 s.own k).isNone with
    | true =>
      refine ite_b (fun _ => ?_) (fun z => by cases z)
      repeat walk_at "e"
      refine o_ixT (v := .str "done") rfl ?_
      repeat walk_at "e"
      refine s_ix F.own (ixN_at (j := k) rfl (by rw [List.length_map]; exact hel)) (i_putL fun S1 e1 b1 => ?_)
      refine tail S1 ?_ ((Onl.refl _ _).but b1 (by simp))
      rw [show evO T s (.done k) = ⟨s.own.set k (some .good), s.ends⟩ from if_pos q]
      exact F.putO N (by rw [e1, List.map_set]; rfl) b1
    | false =>
      refine ite_b (fun z => by cases z) (fun _ => i_next ?_)
      refine tail S ?_ (Onl.refl _ _)
      rw [show evO T s (.done k) = s from if_neg (by rw [q]; exact Bool.false_ne_true)]
      exact F
  | fail k w =>
    repeat walk_at "e"
    refine o_ixT (v := .int (k : Int)) rfl ?_
    repeat walk_at "e"
    refine o_ixT (v := .str "fail") rfl ?_
    repeat walk_at "e"
    refine o_ixL F.own (wk_at hel) ?_
    repeat walk_at "e"
    rw [isNon_wk]
    cases q : (at1 s.own k).isNone with
    | true =>
      refine ite_b (fun _ => ?_) (fun z => by cases z)
      repeat walk_at "e"
      refine o_ixT (v := .str "fail") rfl ?_
      repeat walk_at "e"
      refine o_ixT (v := .str w) rfl ?_
      repeat walk_at "e"
      refine s_ix F.own (ixN_at (j := k) rfl (by rw [List.length_map]; exact hel)) (i_putL fun S1 e1 b1 => ?_)
      have F1 : FamAt a ow en hu ch as T S1 ⟨s.own.set k (some (.fail w)), s.ends⟩ hs := F.putO N (by rw [e1, List.map_set]; rfl) b1
      have ok1 : Fm.ok T ⟨s.own.set k (some (.fail w)), s.ends⟩ := ⟨by rw [List.length_set]; exact fs'.ok.l1, fs'.ok.l2⟩
      have o1 := F1.obj
      repeat walk_at "e"
      refine below_spec hT he F1 fun p L S2 n2 e2 hL hLl x2 => ?_
      have F2 := F1.ext x2
      have o2 := F2.obj
      repeat walk_at "e"
      refine cancel_spec N ok1 F2 e2 (dne F1.own n2) (fun j hj => ((hL j).mp hj).1) fun S3 F3 b3 => ?_
      refine tail S3 ?_ ((((Onl.refl _ _).but b1 (by simp)).ext x2).but b3 (by simp))
      rw [show evO T s (.fail k w) = ⟨stopO T (s.own.set k (some (.fail w))) k, s.ends⟩ from if_pos q]
      rw [canL_stop hT (top := k) ok1.l1 fun j hj hjn => ?_] at F3
      · exact F3
      · rw [hL]
        refine ⟨fun z => z.2.1, fun z => ⟨hj, z, fun w' => ?_⟩⟩
        rw [w'] at hjn
        dsimp only at hjn
        rw [at1_set (show k < s.own.length from hel), if_pos rfl] at hjn
        cases hjn
    | false =>
      refine ite_b (fun z => by cases z) (fun _ => i_next ?_)
      refine tail S ?_ (Onl.refl _ _)
      rw [show evO T s (.fail k w) = s from if_neg (by rw [q]; exact Bool.false_ne_true)]
      exact F
end
def wkT : Wk → D
  | .can => .tup [.str "cancelled"]
  | .good => .tup [.str "good"]
  | .fail w => .tup [.str "failed", .str w]
def workD : Option Wk → D
  | none => .tup [.str "open"]
  | some w => wkT w
def endD : Option Wk → D
  | none => .non
  | some w => wkT w
theorem isNon_end (o : Option Wk) : isNon (endD o) = o.isNone := by
  cases o with
  | none => rfl
  | some w => cases w <;> rfl
theorem work_plain (o : Option Wk) : (workD o).plain = true := by
  cases o with
  | none => rfl
  | some w => cases w <;> rfl
theorem end_plain (o : Option Wk) : (endD o).plain = true := by
  cases o with
  | none => rfl
  | some w => cases w <;> rfl
theorem work_open (o : Option Wk) : D.eqv (workD o) (.tup [.str "open"]) = o.isNone := by
  cases o with
  | none => rfl
  | some w =>
    cases w with
    | can => decide +kernel
    | good => decide +kernel
    | fail w => simp [workD, wkT, D.eqv, D.py, D.pyL, PyData.eqv, PyData.eqvAll]
theorem end_non (o : Option Wk) : D.eqv (endD o) .non = o.isNone := by
  cases o with
  | none => rfl
  | some w => cases w <;> simp [endD, wkT, D.eqv, D.py, D.pyL, PyData.eqv]
theorem o_open {o : Option Wk} {S : DS} {Q : DK} (h : Q (.bl o.isNone) S) : oEq false (workD o) (.tup [.str "open"]) S Q := o_eqP (work_plain o) rfl (.inr (by decide)) (by rw [Bool.false_xor, work_open]; exact h)
theorem work_at {xs : List (Option Wk)} {k : Nat} (hk : k < xs.length) : L2.atI (xs.map workD) (k : Int) = some (workD (at1 xs k)) := by
  have e : xs[k]? = some xs[k] := List.getElem?_eq_getElem hk
  refine (lst_map_at (j := k) rfl e).trans ?_
  unfold at1
  rw [e]
theorem end_at {xs : List (Option Wk)} {k : Nat} (hk : k < xs.length) : L2.atI (xs.map endD) (k : Int) = some (endD (at1 xs k)) := by
  have e : xs[k]? = some xs[k] := List.getElem?_eq_getElem hk
  refine (lst_map_at (j := k) rfl e).trans ?_
  unfold at1
  rw [e]
def parsD (T : Tree) : List D := T.rows.map fun r => optD r.1
theorem parsD_len {T : Tree} : (parsD T).length = T.n := List.length_map ..
theorem pars_at {T : Tree} {k : Nat} (hk : k < T.n) : L2.atI (parsD T) (k : Int) = some (optD (T.par k)) := by
  have e : T.rows[k]? = some T.rows[k] := List.getElem?_eq_getElem hk
  refine (lst_map_at (j := k) rfl e).trans ?_
  unfold Tree.par
  rw [e]
theorem isNon_opt (o : Option Nat) : isNon (optD o) = o.isNone := by cases o <;> rfl
theorem eqv_optI (o : Option Nat) (t : Nat) : D.eqv (optD o) (.int (t : Int)) = decide (o = some t) := by
  cases o with
  | none => rfl
  | some k =>
    show D.eqv (.int (k : Int)) (.int (t : Int)) = _
    rw [eqv_int]
    by_cases h : k = t
    · rw [decide_eq_true (by rw [h]), decide_eq_true (by rw [h])]
    · rw [decide_eq_false (fun z => h (by omega)), decide_eq_false (fun z => h (Option.some.inj z))]
theorem opt_plain (o : Option Nat) : (optD o).plain = true := by cases o <;> rfl
theorem o_optI {o : Option Nat} {t : Nat} {S : DS} {Q : DK} (h : Q (.bl (decide (o = some t))) S) : oEq false (optD o) (.int (t : Int)) S Q := o_eqP (opt_plain o) rfl (.inr dep_int) (by rw [Bool.false_xor, eqv_optI]; exact h)
def belO (T : Tree) (m top : Nat) : Option Nat → Bool
  | some k => belB T m top k
  | none => false
section
variable {T : Tree} {S S' : DS} {n : Nat} {Q : DK} {p q r : Addr}
theorem isbel_spec {k top : Nat} (hT : T.ok) (hk : k < T.n) (e : S p = some (.lst (parsD T))) (h : Q (.bl (isBel T top k)) S) : sem fs (n + 1) 16 [.ref p, .int (k : Int), .int (top : Int)] S Q := by
  have hTl := hT.le
  refine run__law_is_below ?_
  unfold b_16
  repeat walk_at "e"
  rw [parsD_len]
  refine i_rng1V (by omega) (for_inv (fun j δ S1 => ∃ here o4, δ = [some (.ref p), some (.int (k : Int)), some (.int (top : Int)), some (optD here), o4] ∧ S1 = S ∧ isBel T top k = belO T (T.n - j) top here ∧ ∀ x, here = some x → x < T.n) ⟨some k, _, rfl, rfl, rfl, fun x hx => by rw [← Option.some.inj hx]; exact hk⟩ (fun _ _ _ _ _ => True.intro) ?_ ?_)
  · rintro j x δ S1 nx hx hj ⟨here, o4, rfl, rfl, hb, hlt⟩ hnx
    obtain ⟨rfl, hjn⟩ := rng_at hx
    rw [show T.n - j = (T.n - (j + 1)) + 1 by omega] at hb
    repeat walk_at "e"
    rw [isNon_opt]
    cases here with
    | none =>
      refine ite_t ?_
      repeat walk_at "e"
      refine o_optI ?_
      rw [hb] at h
      exact h
    | some y =>
      refine ite_f ?_
      have hy := hlt y rfl
      have hb' : isBel T top k = (decide (y = top) || belO T (T.n - (j + 1)) top (T.par y)) := by
        rw [hb]
        show belB T (T.n - (j + 1) + 1) top y = _
        rw [belB]
        cases T.par y <;> rfl
      repeat walk_at "e"
      refine o_optI ?_
      repeat walk_at "e"
      by_cases z : y = top
      · refine ite_yes (by rw [z]) ?_
        repeat walk_at "e"
        refine o_optI ?_
        rw [hb', decide_eq_true z, Bool.true_or] at h
        rw [decide_eq_true (by rw [z])]
        exact h
      · refine ite_no (fun w => z (Option.some.inj w)) (i_next ?_)
        refine i_asg (i_op (i_var rfl (i_var rfl ?_)))
        refine o_ixL e (pars_at hy) ?_
        repeat walk_at "e"
        refine hnx _ _ ⟨T.par y, _, rfl, rfl, by rw [hb', decide_eq_false z, Bool.false_or], fun x hx => by have := hT.par y x hx; omega⟩
  · rintro δ S1 ⟨here, o4, rfl, rfl, hb, hlt⟩
    rw [rng_len, Int.toNat_natCast, Nat.sub_self] at hb
    repeat walk_at "e"
    refine o_optI ?_
    rw [hb] at h
    cases here with
    | none => exact h
    | some y =>
      rw [show belO T 0 top (some y) = decide (some y = some top) from by
        show decide (y = top) = _
        by_cases z : y = top
        · rw [decide_eq_true z, decide_eq_true (by rw [z])]
        · rw [decide_eq_false z, decide_eq_false (fun w => z (Option.some.inj w))]] at h
      exact h
theorem kidsL_spec {k : Nat} (hT : T.ok) (e : S p = some (.lst (parsD T))) (h : ∀ q S', S q = none → S' q = some (.lst (natsI (kids T k))) → Ext S S' → Q (.ref q) S') : sem fs (n + 1) 17 [.ref p, .int (k : Int)] S Q := by
  have hTl := hT.le
  refine run__law_children ?_
  unfold b_17
  repeat walk_at "e"
  rw [parsD_len]
  refine i_rng1V (by omega) ?_
  rw [Int.toNat_natCast]
  refine lc_fm (xs := List.range T.n) (ex := fun i : Nat => D.int (0 + (i : Int))) (fun i => if decide (T.par i = some k) = true then some (D.int (i : Int)) else none) (fun S' => S' = S) (by rw [List.length_range]; omega) rfl (fun _ _ => True.intro) ?_ ?_
  · rintro i hi acc S1 nx hacc rfl hnx
    have hi := List.mem_range.mp hi
    rw [Int.zero_add]
    repeat walk_at "e"
    refine o_ixL e (pars_at hi) ?_
    repeat walk_at "e"
    rw [isNon_opt]
    cases z : T.par i with
    | none =>
      rw [z, if_neg (by simp)] at hnx
      refine ite_nt ?_
      repeat walk_at "e"
      simpa using hnx _ rfl
    | some y =>
      rw [z] at hnx
      refine ite_nf ?_
      repeat walk_at "e"
      refine o_ixL e (pars_at hi) ?_
      rw [z]
      repeat walk_at "e"
      refine o_optI ?_
      repeat walk_at "e"
      cases w : decide (some y = some k) with
      | true =>
        rw [w] at hnx
        repeat walk_at "e"
        exact ⟨hacc, hnx _ rfl⟩
      | false =>
        rw [w] at hnx
        repeat walk_at "e"
        simpa using hnx _ rfl
  rintro S1 rfl
  rw [fm_if]
  refine i_newL fun q S2 n2 e2 x2 => ?_
  exact h q S2 n2 e2 x2
theorem stopL_spec {own : List (Option Wk)} {top : Nat} (hT : T.ok) (hl : own.length = T.n) (e : S p = some (.lst (parsD T))) (ew : S q = some (.lst (own.map workD))) (npq : p ≠ q) (h : ∀ S', S' q = some (.lst ((stopO T own top).map workD)) → But q S S' → Q .non S') :
    sem fs (n + 2) 18 [.ref p, .ref q, .int (top : Int)] S Q := by
  have hTl := hT.le
  refine run__law_stop ?_
  unfold b_18
  repeat walk_at "e"
  rw [parsD_len]
  refine i_rng1V (by omega) (for_inv (fun j δ S1 => (∃ o3, δ = [some (.ref p), some (.ref q), some (.int (top : Int)), o3]) ∧ S1 q = some (.lst ((canL own ((List.range j).filter (isBel T top))).map workD)) ∧ But q S S1) ⟨⟨_, rfl⟩, by rw [List.range_zero, List.filter_nil, canL_nil]; exact ew, But.refl _ _⟩ (fun _ _ _ _ _ => True.intro) ?_ ?_)
  · rintro j x δ S1 nx hx hj ⟨⟨o3, rfl⟩, e1, b1⟩ hnx
    obtain ⟨rfl, hjn⟩ := rng_at hx
    have hjn : j < T.n := by omega
    have hjo : j < own.length := by rw [hl]; exact hjn
    rw [Int.zero_add]
    have ep := b1.get npq e
    generalize hL : (List.range j).filter (isBel T top) = L at e1 hnx
    have hstep : (List.range (j + 1)).filter (isBel T top) = L ++ (if isBel T top j = true then [j] else []) := by
      rw [List.range_succ, List.filter_append, hL, List.filter_cons, List.filter_nil]
    rw [hstep] at hnx
    have hjc : j < (canL own L).length := by rw [canL_len]; exact hjo
    repeat walk_at "e"
    refine o_ixL e1 (work_at hjc) ?_
    repeat walk_at "e"
    refine o_open ?_
    repeat walk_at "e"
    cases z : (at1 (canL own L) j).isNone with
    | false =>
      refine ite_f (i_next (hnx _ _ ⟨⟨_, rfl⟩, ?_, b1⟩))
      by_cases w : isBel T top j = true
      · rw [if_pos w, canL_snoc hjo, z, if_neg Bool.false_ne_true]; exact e1
      · rw [if_neg w, List.append_nil]; exact e1
    | true =>
      repeat walk_at "e"
      refine isbel_spec hT hjn ep ?_
      repeat walk_at "e"
      cases w : isBel T top j with
      | true =>
        rw [w, if_pos rfl, canL_snoc hjo, z, if_pos rfl] at hnx
        repeat walk_at "e"
        refine s_ix e1 (ixN_at (j := j) rfl (by rw [List.length_map]; exact hjc)) (i_putL fun S2 e2 b2 => ?_)
        exact hnx _ _ ⟨⟨_, rfl⟩, by rw [e2, List.map_set]; rfl, b1.trans b2⟩
      | false =>
        rw [w, if_neg Bool.false_ne_true, List.append_nil] at hnx
        refine ite_f (i_next (hnx _ _ ⟨⟨_, rfl⟩, e1, b1⟩))
  · rintro δ S1 ⟨⟨o3, rfl⟩, e1, b1⟩
    rw [rng_len, Int.toNat_natCast, canL_stop hT (top := top) hl fun j hj _ => by rw [List.mem_filter, List.mem_range, isBel_iff hT hj]; exact ⟨fun z => z.2, fun z => ⟨hj, z⟩⟩] at e1
    exact h S1 e1 b1
theorem endof_spec {s : Fm} {k : Nat} (hT : T.ok) (hl : s.ok T) (hk : k < T.n) (ew : S q = some (.lst (s.own.map workD))) (ee : S r = some (.lst (s.ends.map endD))) (h : ∀ S', Ext S S' → Q (endD (endOf T s k)) S') :
    sem fs (n + 2) 19 [T.d, .ref q, .ref r, .int (k : Int)] S Q := by
  have hTl := hT.le
  have hko : k < s.own.length := by rw [hl.l1]; exact hk
  refine run__law_end_of ?_
  unfold b_19 Tree.d
  repeat walk_at "e"
  refine lc_map (xs := T.rows) (ex := rowT) (fun r => optD r.1) (fun S' => S' = S) (Nat.le_trans hTl (by decide)) rfl (fun _ _ => rfl) ?_ ?_
  · rintro r0 hr0 acc S1 nx hacc rfl hnx
    repeat walk_at "e"
    refine o_ixT (v := optD r0.1) rfl ?_
    exact ⟨hacc, hnx _ rfl⟩
  rintro S1 rfl
  refine i_newL fun pp S2 n2 e2 x2 => ?_
  have e2' : S2 pp = some (.lst (parsD T)) := e2
  have w2 := x2.get ew
  have v2 := x2.get ee
  repeat walk_at "e"
  refine kidsL_spec (k := k) hT e2' fun kp S3 n3 e3 x3 => ?_
  have w3 := x3.get w2
  have v3 := x3.get v2
  repeat walk_at "e"
  refine lc_map (xs := kids T k) (ex := fun i : Nat => D.int (i : Int)) (fun c => endD (at1 s.ends c)) (fun S' => S' = S3) (Nat.le_trans (kids_len (T := T) (x := k)) (Nat.le_trans hTl (by decide))) rfl (fun S' e => by subst e; exact seq_ref e3) ?_ ?_
  · rintro c hc acc S4 nx hacc rfl hnx
    have hcn : c < s.ends.length := by rw [hl.l2]; exact (kid_mem.mp hc).1
    repeat walk_at "e"
    refine o_ixL v3 (end_at hcn) ?_
    exact ⟨hacc, hnx _ rfl⟩
  rintro S4 rfl
  refine i_newL fun bp S5 n5 e5 x5 => ?_
  have w5 := x5.get w3
  have X5 := (x2.trans x3).trans x5
  have own := work_at hko
  have fin := h S5 X5
  unfold endOf at fin
  repeat walk_at "e"
  refine o_ixL w5 own ?_
  repeat walk_at "e"
  refine o_open ?_
  repeat walk_at "e"
  have hbn : ((kids T k).map fun c => endD (at1 s.ends c)).any (fun e => D.eqv e .non) = (kids T k).any fun c => (at1 s.ends c).isNone := by
    rw [List.any_map]
    congr 1
    funext c
    exact end_non _
  have hpl : D.plainL ((kids T k).map fun c => endD (at1 s.ends c)) = true := D.plainL_of fun x hx => by
    obtain ⟨c, _, rfl⟩ := List.mem_map.mp hx
    exact end_plain _
  cases z : at1 s.own k with
  | none =>
    rw [if_pos (.inl z)] at fin
    refine ite_t ?_
    repeat walk_at "e"
    exact fin
  | some w =>
    rw [z] at own fin
    refine ite_f ?_
    refine i_tb (i_op (i_c (i_var rfl (o_inL e5 rfl hpl (by decide) ?_))))
    rw [Bool.false_xor, hbn]
    repeat walk_at "e"
    cases y : (kids T k).any fun c => (at1 s.ends c).isNone with
    | true =>
      rw [if_pos (.inr y)] at fin
      repeat walk_at "e"
      exact fin
    | false =>
      rw [if_neg (fun u => u.elim (fun u => by cases u) (fun u => by rw [y] at u; cases u))] at fin
      refine ite_f (i_next ?_)
      repeat walk_at "e"
      refine o_ixL w5 own ?_
      have rest : w.isF = false → (dSeq (dIf (dTb (dOp (oEq false) (dOp oIx (dOp oIx (dVar 0) (dVar 3)) (dC (.int 1))) (dC (.str "strict")))) (dFor (dIter (dVar 6)) (dgName 8) (dIf (dTb (dOp (oEq false) (dOp oIx (dVar 8) (dC (.int 0))) (dC (.str "failed")))) (dRet (dVar 8)) dNext)) dNext)
          (dRet (dOp oIx (dVar 1) (dVar 3)))) { nx := fun _ S' => Q .non S', rt := Q, bk := fun _ _ => False, ct := fun _ _ => False } [some (.tup (T.rows.map rowT)), some (.ref q), some (.ref r), some (.int (k : Int)), some (.ref pp), none, some (.ref bp), none, none] S5 := by
        intro hf
        rw [if_neg (show ¬ isFail (some w) = true from by rw [show isFail (some w) = w.isF from rfl, hf]; exact Bool.false_ne_true)] at fin
        repeat walk_at "e"
        refine o_ixT (row_at hk) ?_
        repeat walk_at "e"
        cases u : T.strict k with
        | false =>
          rw [u, if_neg Bool.false_ne_true] at fin
          unfold kindD
          rw [if_neg Bool.false_ne_true]
          repeat walk_at "e"
          refine o_ixL w5 own ?_
          exact fin
        | true =>
          rw [u, if_pos rfl] at fin
          unfold kindD
          rw [if_pos rfl]
          repeat walk_at "e"
          refine for_inv (fun j δ S6 => (∃ o8, δ = [some (.tup (T.rows.map rowT)), some (.ref q), some (.ref r), some (.int (k : Int)), some (.ref pp), none, some (.ref bp), none, o8]) ∧ S6 = S5 ∧ (((kids T k).take j).map (at1 s.ends)).findSome? (fun o => if isFail o = true then o else none) = none) ⟨⟨_, rfl⟩, rfl, by rw [List.take_zero]; rfl⟩ (fun _ _ _ _ hh => by rw [hh.2.1]; exact seq_ref e5) ?_ ?_
          · rintro j x δ S6 nx hx hj ⟨⟨o8, rfl⟩, rfl, hno⟩ hnx
            obtain ⟨c, hc, rfl⟩ := map_at hx
            have hcm := List.mem_of_getElem? hc
            have hce : at1 s.ends c ≠ none := fun z' => by
              have := List.any_eq_false.mp y c hcm
              rw [z'] at this; exact this rfl
            obtain ⟨v, hv⟩ := Option.ne_none_iff_exists'.mp hce
            rw [List.take_add_one, hc] at hnx
            have hstep : (((kids T k).take j ++ [c]).map (at1 s.ends)).findSome? (fun o => if isFail o = true then o else none) = if v.isF = true then some v else none := by
              rw [List.map_append, List.findSome?_append, hno, List.map_cons, List.map_nil, List.findSome?_cons, List.findSome?_nil, hv, show isFail (some v) = v.isF from rfl]
              cases v.isF <;> rfl
            have hff : v.isF = true → ffail T s.ends k = some v := fun hF => by
              unfold ffail
              have e1 : kids T k = ((kids T k).take j ++ [c]) ++ (kids T k).drop (j + 1) := by
                conv => lhs; rw [← List.take_append_drop (j + 1) (kids T k), List.take_add_one, hc]
                rfl
              rw [e1, List.map_append, List.findSome?_append, hstep, if_pos hF]; rfl
            rw [hv]
            have stay : v.isF = false → nx [some (.tup (T.rows.map rowT)), some (.ref q), some (.ref r), some (.int (k : Int)), some (.ref pp), none, some (.ref bp), none, some (wkT v)] S6 := fun hF => hnx _ _ ⟨⟨_, rfl⟩, rfl, by
              show (((kids T k).take j ++ [c]).map (at1 s.ends)).findSome? _ = none
              rw [hstep, hF, if_neg Bool.false_ne_true]⟩
            cases v with
            | fail x =>
              rw [hff rfl] at fin
              repeat walk_at "e"
              refine o_ixT (v := .str "failed") rfl ?_
              repeat walk_at "e"
              exact fin
            | can =>
              repeat walk_at "e"
              refine o_ixT (v := .str "cancelled") rfl ?_
              repeat walk_at "e"
              exact stay rfl
            | good =>
              repeat walk_at "e"
              refine o_ixT (v := .str "good") rfl ?_
              repeat walk_at "e"
              exact stay rfl
          · rintro δ S6 ⟨⟨o8, rfl⟩, rfl, hno⟩
            rw [List.length_map, List.take_length] at hno
            rw [show ffail T s.ends k = none from hno] at fin
            repeat walk_at "e"
            refine o_ixL w5 own ?_
            exact fin
      cases w with
      | fail x =>
        rw [if_pos (show isFail (some (Wk.fail x)) = true from rfl)] at fin
        refine i_c ?_
        refine o_ixT (v := .str "failed") rfl ?_
        repeat walk_at "e"
        refine o_ixL w5 own ?_
        exact fin
      | can =>
        refine i_c ?_
        refine o_ixT (v := .str "cancelled") rfl ?_
        refine i_c ?_
        refine o_eqS ?_
        refine i_asB ?_
        refine ite_no (by decide +kernel) (i_next ?_)
        exact rest rfl
      | good =>
        refine i_c ?_
        refine o_ixT (v := .str "good") rfl ?_
        refine i_c ?_
        refine o_eqS ?_
        refine i_asB ?_
        refine ite_no (by decide +kernel) (i_next ?_)
        exact rest rfl
end
def wordD : Option Wk → D
  | none => .str "open"
  | some w => w.d
def wordsD (s : Fm) : D := .tup (s.ends.map wordD)
section
variable {T : Tree} {S S' : DS} {n : Nat} {Q : DK} {p q r : Addr}
theorem wkT_ix {w : Wk} {S : DS} {Q : DK} (h : ∀ z : Str, decide (z = Str.ofString "failed") = w.isF → Q (.str z) S) : oIx (wkT w) (.int 0) S Q := by
  cases w with
  | can => exact o_ixT (v := .str "cancelled") rfl (h _ (by decide +kernel))
  | good => exact o_ixT (v := .str "good") rfl (h _ (by decide +kernel))
  | fail w => exact o_ixT (v := .str "failed") rfl (h _ (decide_eq_true rfl))
theorem levent_spec {s : Fm} {e : SEv} (hT : T.ok) (hl : s.ok T) (he : e.s < T.n) (nqr : q ≠ r) (ew : S q = some (.lst (s.own.map workD))) (ee : S r = some (.lst (s.ends.map endD)))
    (h : ∀ S', S' q = some (.lst ((evF T s e).own.map workD)) → S' r = some (.lst ((evF T s e).ends.map endD)) → Onl [q, r] S S' → Q .non S') : sem fs (n + 3) 20 [T.d, .ref q, .ref r, e.d] S Q := by
  have hTl := hT.le
  refine run__law_scope_event ?_
  unfold b_20 Tree.d
  have hel : e.s < s.own.length := by rw [hl.l1]; exact he
  repeat walk_at "e"
  refine lc_map (xs := T.rows) (ex := rowT) (fun r => optD r.1) (fun S' => S' = S) (Nat.le_trans hTl (by decide)) rfl (fun _ _ => rfl) ?_ ?_
  · rintro r0 hr0 acc S1 nx hacc rfl hnx
    repeat walk_at "e"
    refine o_ixT (v := optD r0.1) rfl ?_
    exact ⟨hacc, hnx _ rfl⟩
  rintro S1 rfl
  refine i_newL fun pp S2 n2 e2 x2 => ?_
  have e2' : S2 pp = some (.lst (parsD T)) := e2
  have w2 := x2.get ew
  have v2 := x2.get ee
  have npq : pp ≠ q := (dne ew n2).symm
  have npr : pp ≠ r := (dne ee n2).symm
  clear e2
  let δ0 : Option D → Option D → Option D → DL.Loc := fun o7 o8 o9 => [some (.tup (T.rows.map rowT)), some (.ref q), some (.ref r), some e.d, some (.ref pp), none, some (.int (e.s : Int)), o7, o8, o9]
  have tail : ∀ S3, S3 pp = some (.lst (parsD T)) → S3 q = some (.lst ((evO T s e).own.map workD)) → S3 r = some (.lst ((evO T s e).ends.map endD)) → Onl [q, r] S1 S3 → (evO T s e).ok T →
      (dFor (dRng1 (dCons (dOp oAdd (dCall bLen (dCons (dVar 0) dNil)) (dC (.int 1))) dNil)) (dgName 7) (dFor (dRng3 (dCons (dOp oSub (dCall bLen (dCons (dVar 0) dNil)) (dC (.int 1))) (dCons (dUn uNeg (dC (.int 1))) (dCons (dUn uNeg (dC (.int 1))) dNil)))) (dgName 8) (dIf (dTb (dOp (oIs false) (dOp oIx (dVar 2) (dVar 8)) (dC .non))) (dSeq (dAsg (dCall (sem fs (n + 2) 19) (dCons (dVar 0) (dCons (dVar 1) (dCons (dVar 2) (dCons (dVar 8) dNil))))) (dgName 9))
        (dIf (dTb (dOp (oIs true) (dVar 9) (dC .non))) (dSeq (dAsg (dVar 9) (dgSub (dVar 2) (dVar 8) sIx))
          (dIf (dAnd (dTb (dOp (oEq false) (dOp oIx (dVar 9) (dC (.int 0))) (dC (.str "failed")))) (dAnd (dTb (dOp (oIs true) (dOp oIx (dVar 4) (dVar 8)) (dC .non))) (dTb (dOp (oEq false) (dOp oIx (dOp oIx (dVar 0) (dOp oIx (dVar 4) (dVar 8))) (dC (.int 1))) (dC (.str "strict")))))) (dDrop (dCall (sem fs (n + 2) 18) (dCons (dVar 4) (dCons (dVar 1) (dCons (dOp oIx (dVar 4) (dVar 8)) dNil))))) dNext)) dNext)) dNext))) { nx := fun _ S' => Q .non S', rt := Q, bk := fun _ _ => False, ct := fun _ _ => False } (δ0 none none none) S3 := by
    intro S3 p3 q3 r3 O3 ok3
    simp only [δ0]
    repeat walk_at "e"
    rw [List.length_map]
    refine i_rng1V (by show _ ∧ (T.n : Int) + 1 < _; omega) (for_inv (fun j δ S4 => ∃ o7 o8 o9 m, δ = δ0 o7 o8 o9 ∧ m + j = T.n + 1 ∧ ∃ st, iterF T m st = iterF T (T.n + 1) (evO T s e) ∧ st.ok T ∧ S4 pp = some (.lst (parsD T)) ∧ S4 q = some (.lst (st.own.map workD)) ∧ S4 r = some (.lst (st.ends.map endD)) ∧ Onl [q, r] S1 S4) ⟨_, _, _, T.n + 1, rfl, rfl, _, rfl, ok3, p3, q3, r3, O3⟩ (fun _ _ _ _ _ => True.intro) ?_ ?_)
    · rintro j x δ S4 nx hx hj ⟨o7, o8, o9, m, rfl, hm, st, hst, ok4, p4, q4, r4, O4⟩ hnx
      obtain ⟨rfl, hjn⟩ := rng_at hx
      have hjn : j < T.n + 1 := by
        have e9 : T.rows.length = T.n := rfl
        omega
      obtain ⟨m', rfl⟩ : ∃ m', m = m' + 1 := ⟨m - 1, by omega⟩
      simp only [δ0]
      repeat walk_at "e"
      rw [List.length_map]
      have hrg := RgC.neg (i := (T.n : Int) - 1) (j := -1) (by omega) (by omega) (by decide) (by decide)
      rw [show ((T.n : Int) - 1 - -1).toNat = T.n by omega] at hrg
      refine i_rng3V hrg ?_
      refine for_inv (fun i δ S5 => ∃ o8 o9, δ = δ0 (some (.int (0 + (j : Int)))) o8 o9 ∧ ∃ s5, s5 = ((downL T.n).take i).foldl (stepF T) st ∧ s5.ok T ∧ S5 pp = some (.lst (parsD T)) ∧ S5 q = some (.lst (s5.own.map workD)) ∧ S5 r = some (.lst (s5.ends.map endD)) ∧ Onl [q, r] S1 S5) ⟨_, _, rfl, st, by rw [List.take_zero]; rfl, ok4, p4, q4, r4, O4⟩ (fun _ _ _ _ _ => True.intro) ?_ ?_
      · rintro i y δ S5 nx' hy hi ⟨o8', o9', rfl, s5, hs5, ok5, p5, q5, r5, O5⟩ hnx'
        have hin : i < T.n := by rw [rngC, List.length_map, List.length_range] at hi; exact hi
        obtain rfl : y = .int ((T.n - 1 - i : Nat) : Int) := by
          rw [rngC, List.getElem?_map, List.getElem?_range hin] at hy
          rw [← Option.some.inj hy]
          have e9 : T.rows.length = T.n := rfl
          show D.int _ = D.int _
          congr 1; omega
        have hdi : (downL T.n)[i]? = some (T.n - 1 - i) := by unfold downL; rw [List.getElem?_map, List.getElem?_range hin]; rfl
        have htk : ((downL T.n).take (i + 1)).foldl (stepF T) st = stepF T s5 (T.n - 1 - i) := by
          rw [List.take_add_one, hdi, hs5]
          show ((downL T.n).take i ++ [T.n - 1 - i]).foldl (stepF T) st = _
          rw [List.foldl_append]; rfl
        have hk : T.n - 1 - i < T.n := by omega
        generalize T.n - 1 - i = k at htk hk ⊢
        have hke : k < s5.ends.length := by rw [ok5.l2]; exact hk
        simp only [δ0]
        have stay : stepF T s5 k = s5 → ∀ S6 o8 o9, S6 pp = some (.lst (parsD T)) → S6 q = some (.lst (s5.own.map workD)) → S6 r = some (.lst (s5.ends.map endD)) → Onl [q, r] S1 S6 → nx' (δ0 (some (.int (0 + (j : Int)))) o8 o9) S6 := fun e1 S6 o8 o9 a1 a2 a3 a4 => hnx' _ _ ⟨o8, o9, rfl, s5, by rw [htk, e1], ok5, a1, a2, a3, a4⟩
        repeat walk_at "e"
        refine o_ixL r5 (end_at hke) ?_
        repeat walk_at "e"
        rw [isNon_end]
        by_cases hen : at1 s5.ends k = none
        · rw [hen]
          refine ite_t ?_
          repeat walk_at "e"
          refine endof_spec hT ok5 hk q5 r5 fun S6 x6 => ?_
          have p6 := x6.get p5
          have q6 := x6.get q5
          have r6 := x6.get r5
          have O6 := O5.ext x6
          repeat walk_at "e"
          rw [isNon_end]
          cases z : endOf T s5 k with
          | none =>
            refine ite_nt (i_next ?_)
            exact stay (by unfold stepF; rw [if_pos (by rw [hen]; rfl), z]) S6 _ _ p6 q6 r6 O6
          | some w =>
            have hst5 : stepF T s5 k = ⟨match T.par k with
              | some p => if w.isF = true ∧ T.strict p = true then stopO T s5.own p else s5.own
              | none => s5.own, s5.ends.set k (some w)⟩ := by unfold stepF; rw [if_pos (by rw [hen]; rfl), z] <;> rfl
            have okn := stepF_ok (k := k) ok5
            refine ite_nf ?_
            repeat walk_at "e"
            refine s_ix r6 (ixN_at (j := k) rfl (by rw [List.length_map]; exact hke)) (i_putL fun S7 e7 b7 => ?_)
            have e7' : S7 r = some (.lst ((s5.ends.set k (some w)).map endD)) := by rw [e7, List.map_set]
            have p7 := b7.get npr p6
            have q7 := b7.get nqr q6
            have O7 := O6.but b7 (by simp)
            have go : ∀ S8, S8 pp = some (.lst (parsD T)) → S8 q = some (.lst ((stepF T s5 k).own.map workD)) → S8 r = some (.lst ((s5.ends.set k (some w)).map endD)) → Onl [q, r] S1 S8 → nx' (δ0 (some (.int (0 + (j : Int)))) (some (.int (k : Int))) (some (wkT w))) S8 := fun S8 a1 a2 a3 a4 => hnx' _ _ ⟨_, _, rfl, stepF T s5 k, by rw [htk], okn, a1, a2, by rw [hst5]; exact a3, a4⟩
            repeat walk_at "e"
            refine wkT_ix fun zs hzs => ?_
            repeat walk_at "e"
            rw [hzs]
            cases hF : w.isF with
            | false =>
              refine ite_f (i_next ?_)
              refine go S7 p7 ?_ e7' O7
              rw [hst5]
              dsimp only
              rw [show (match T.par k with
                | some p => if w.isF = true ∧ T.strict p = true then stopO T s5.own p else s5.own
                | none => s5.own) = s5.own from by
                split
                · rw [if_neg (fun u => by rw [hF] at u; cases u.1)]
                · rfl]
              exact q7
            | true =>
              refine ite_t ?_
              repeat walk_at "e"
              refine o_ixL p7 (pars_at hk) ?_
              repeat walk_at "e"
              rw [isNon_opt]
              cases hp : T.par k with
              | none =>
                refine ite_nt ?_
                repeat walk_at "e"
                refine go S7 p7 ?_ e7' O7
                rw [hst5, hp]
                exact q7
              | some y =>
                have hy : y < T.n := by have := hT.par k y hp; omega
                refine ite_nf ?_
                repeat walk_at "e"
                refine o_ixL p7 (pars_at hk) ?_
                rw [hp]
                refine o_ixT (row_at hy) ?_
                repeat walk_at "e"
                cases hs : T.strict y with
                | false =>
                  unfold kindD
                  rw [if_neg Bool.false_ne_true]
                  repeat walk_at "e"
                  refine go S7 p7 ?_ e7' O7
                  rw [hst5, hp]
                  dsimp only
                  rw [if_neg (fun u => by rw [hs] at u; cases u.2)]
                  exact q7
                | true =>
                  unfold kindD
                  rw [if_pos rfl]
                  repeat walk_at "e"
                  refine o_ixL p7 (pars_at hk) ?_
                  rw [hp]
                  repeat walk_at "e"
                  refine stopL_spec (top := y) hT ok5.l1 p7 q7 npq fun S8 e8 b8 => ?_
                  refine go S8 (b8.get npq p7) ?_ (b8.get nqr.symm e7') (O7.but b8 (by simp))
                  rw [hst5, hp]
                  dsimp only
                  rw [if_pos ⟨hF, hs⟩]
                  exact e8
        · obtain ⟨v, hv⟩ := Option.ne_none_iff_exists'.mp hen
          rw [hv]
          refine ite_f (i_next ?_)
          exact stay (by unfold stepF; rw [if_neg (by rw [hv]; exact Bool.false_ne_true)]) S5 _ _ p5 q5 r5 O5
      · rintro δ S5 ⟨o8', o9', rfl, s5, hs5, ok5, p5, q5, r5, O5⟩
        have e5 : s5 = passF T st := by
          rw [hs5, rngC, List.length_map, List.length_range, List.take_of_length_le (by unfold downL; rw [List.length_map, List.length_range]; exact Nat.le_refl _)]; rfl
        exact hnx _ _ ⟨_, _, _, m', rfl, by omega, s5, by rw [e5]; exact hst, ok5, p5, q5, r5, O5⟩
    · rintro δ S4 ⟨o7, o8, o9, m, rfl, hm, st, hst, ok4, p4, q4, r4, O4⟩
      have : m = 0 := by
        rw [rng_len] at hm
        have : ((T.rows.length : Int) + 1).toNat = T.n + 1 := by show ((T.n : Int) + 1).toNat = _; omega
        omega
      subst this
      have e4 : st = evF T s e := hst
      rw [e4] at q4 r4
      exact h S4 q4 r4 O4
  have O2 : Onl [q, r] S1 S2 := Onl.of x2
  cases e with
  | cancel k =>
    repeat walk_at "e"
    refine o_ixT (v := .int (k : Int)) rfl ?_
    repeat walk_at "e"
    refine o_ixT (v := .str "cancel") rfl ?_
    repeat walk_at "e"
    refine stopL_spec (top := k) hT hl.l1 e2' w2 npq fun S3 e3 b3 => ?_
    exact tail S3 (b3.get npq e2') e3 (b3.get nqr.symm v2) (O2.but b3 (by simp)) ⟨by show (stopO T s.own k).length = _; rw [stopO_len]; exact hl.l1, hl.l2⟩
  | done k =>
    repeat walk_at "e"
    refine o_ixT (v := .int (k : Int)) rfl ?_
    repeat walk_at "e"
    refine o_ixT (v := .str "done") rfl ?_
    repeat walk_at "e"
    refine o_ixL w2 (work_at hel) ?_
    repeat walk_at "e"
    refine o_open ?_
    repeat walk_at "e"
    refine ite_b (fun z => ?_) (fun z => i_next ?_)
    · have e1 : evO T s (.done k) = ⟨s.own.set k (some .good), s.ends⟩ := if_pos z
      repeat walk_at "e"
      refine o_ixT (v := .str "done") rfl ?_
      repeat walk_at "e"
      refine s_ix w2 (ixN_at (j := k) rfl (by rw [List.length_map]; exact hel)) (i_putL fun S3 e3 b3 => ?_)
      exact tail S3 (b3.get npq e2') (by rw [e1, e3, List.map_set]; rfl) (by rw [e1]; exact b3.get nqr.symm v2) (O2.but b3 (by simp)) (by rw [e1]; exact ⟨by rw [List.length_set]; exact hl.l1, hl.l2⟩)
    · have e1 : evO T s (.done k) = s := if_neg (fun y => by have : (at1 s.own k).isNone = false := z; rw [this] at y; cases y)
      exact tail S2 e2' (by rw [e1]; exact w2) (by rw [e1]; exact v2) O2 (by rw [e1]; exact hl)
  | fail k w =>
    repeat walk_at "e"
    refine o_ixT (v := .int (k : Int)) rfl ?_
    repeat walk_at "e"
    refine o_ixT (v := .str "fail") rfl ?_
    repeat walk_at "e"
    refine o_ixL w2 (work_at hel) ?_
    repeat walk_at "e"
    refine o_open ?_
    repeat walk_at "e"
    refine ite_b (fun z => ?_) (fun z => i_next ?_)
    · have e1 : evO T s (.fail k w) = ⟨stopO T (s.own.set k (some (.fail w))) k, s.ends⟩ := if_pos z
      repeat walk_at "e"
      refine o_ixT (v := .str "fail") rfl ?_
      repeat walk_at "e"
      refine o_ixT (v := .str w) rfl ?_
      repeat walk_at "e"
      refine s_ix w2 (ixN_at (j := k) rfl (by rw [List.length_map]; exact hel)) (i_putL fun S3 e3 b3 => ?_)
      have e3' : S3 q = some (.lst ((s.own.set k (some (.fail w))).map workD)) := by rw [e3, List.map_set]; rfl
      have p3 := b3.get npq e2'
      repeat walk_at "e"
      refine stopL_spec (top := k) hT (by rw [List.length_set]; exact hl.l1) p3 e3' npq fun S4 e4 b4 => ?_
      exact tail S4 (b4.get npq p3) (by rw [e1]; exact e4) (by rw [e1]; exact b4.get nqr.symm (b3.get nqr.symm v2)) ((O2.but b3 (by simp)).but b4 (by simp)) (by rw [e1]; exact ⟨by show (stopO T _ k).length = _; rw [stopO_len, List.length_set]; exact hl.l1, hl.l2⟩)
    · have e1 : evO T s (.fail k w) = s := if_neg (fun y => by have : (at1 s.own k).isNone = false := z; rw [this] at y; cases y)
      exact tail S2 e2' (by rw [e1]; exact w2) (by rw [e1]; exact v2) O2 (by rw [e1]; exact hl)
end
section
variable {T : Tree} {S S' : DS} {n : Nat} {Q : DK} {p q r d : Addr}
theorem words_spec {xs : List (Option Wk)} (hl : xs.length ≤ 1000) (e : S p = some (.lst (xs.map endD))) (h : ∀ S', Ext S S' → Q (.tup (xs.map wordD)) S') : sem fs (n + 1) 21 [.ref p] S Q := by
  refine run__law_scope_words ?_
  unfold b_21
  repeat walk_at "e"
  refine i_newL fun tp S1 n1 e1 x1 => ?_
  have ep := x1.get e
  have npt : p ≠ tp := dne e n1
  repeat walk_at "e"
  refine for_inv (fun j δ S2 => (∃ o2, δ = [some (.ref p), some (.ref tp), o2]) ∧ S2 tp = some (.lst ((xs.take j).map wordD)) ∧ But tp S1 S2) ⟨⟨_, rfl⟩, e1, But.refl _ _⟩ (fun _ _ _ _ hh => seq_ref (hh.2.2.get npt ep)) ?_ ?_
  · rintro j x δ S2 nx hx hj ⟨⟨o2, rfl⟩, e2, b2⟩ hnx
    obtain ⟨o, ho, rfl⟩ := map_at hx
    rw [List.length_map] at hj
    have htl : ((xs.take j).map wordD).length ≤ 1000 := by rw [List.length_map, List.length_take]; omega
    have put : ∀ S3 o2, S3 tp = some (.lst ((xs.take j).map wordD ++ [wordD o])) → But tp S2 S3 → nx [some (.ref p), some (.ref tp), o2] S3 := fun S3 o2 e3 b3 => hnx _ _ ⟨⟨_, rfl⟩, by rw [e3, List.take_add_one, ho, List.map_append]; rfl, b2.trans b3⟩
    repeat walk_at "e"
    rw [isNon_end]
    cases o with
    | none =>
      refine ite_t ?_
      repeat walk_at "e"
      refine m_append e2 (by rw [List.length_append, List.length_singleton]; omega) (i_putL fun S3 e3 b3 => ?_)
      exact put S3 _ e3 b3
    | some w =>
      refine ite_f ?_
      show (dIf _ _ _) _ _ _
      cases w with
      | fail z =>
        repeat walk_at "e"
        refine o_ixT (v := .str "failed") rfl ?_
        repeat walk_at "e"
        refine m_append e2 (by rw [List.length_append, List.length_singleton]; omega) (i_putL fun S3 e3 b3 => ?_)
        exact put S3 _ e3 b3
      | can =>
        repeat walk_at "e"
        refine o_ixT (v := .str "cancelled") rfl ?_
        repeat walk_at "e"
        refine o_ixT (v := .str "cancelled") rfl ?_
        repeat walk_at "e"
        refine m_append e2 (by rw [List.length_append, List.length_singleton]; omega) (i_putL fun S3 e3 b3 => ?_)
        exact put S3 _ e3 b3
      | good =>
        repeat walk_at "e"
        refine o_ixT (v := .str "good") rfl ?_
        repeat walk_at "e"
        refine o_ixT (v := .str "good") rfl ?_
        repeat walk_at "e"
        refine m_append e2 (by rw [List.length_append, List.length_singleton]; omega) (i_putL fun S3 e3 b3 => ?_)
        exact put S3 _ e3 b3
  · rintro δ S2 ⟨⟨o2, rfl⟩, e2, b2⟩
    rw [List.length_map, List.take_length] at e2
    repeat walk_at "e"
    exact h S2 (x1.but b2 n1)
theorem rep_work (k : Nat) : (List.replicate k [D.tup [.str "open"]]).flatten = (List.replicate k (none : Option Wk)).map workD := by
  induction k with
  | zero => rfl
  | succ k ih => rw [List.replicate_succ, List.flatten_cons, ih, List.replicate_succ]; rfl
theorem rep_end (k : Nat) : (List.replicate k [D.non]).flatten = (List.replicate k (none : Option Wk)).map endD := by
  induction k with
  | zero => rfl
  | succ k ih => rw [List.replicate_succ, List.flatten_cons, ih, List.replicate_succ]; rfl
theorem stages_spec {es : List SEv} (hT : T.ok) (he : ∀ e ∈ es, e.s < T.n) (hel : es.length ≤ 100) (h : ∀ p S', S p = none → S' p = some (.lst ((List.range (es.length + 1)).map fun i => wordsD (evsF T (es.take i)))) → Ext S S' → Q (.ref p) S') :
    sem fs (n + 4) 22 [T.d, .tup (es.map SEv.d)] S Q := by
  have hTl := hT.le
  refine run__law_scope_stages ?_
  unfold b_22
  repeat walk_at "e"
  refine i_newL fun p1 S1 n1 e1 x1 => ?_
  repeat walk_at "e"
  refine c_lenT (xs := T.rows.map rowT) ?_
  rw [List.length_map]
  refine o_mulL e1 ⟨by omega, by show (T.n : Int) < _; omega, by rw [List.length_singleton]; show 1 * (T.n : Int).toNat ≤ _; omega⟩ ?_
  refine i_newL fun w S2 n2 e2 x2 => ?_
  rw [Int.toNat_natCast, rep_work] at e2
  repeat walk_at "e"
  refine i_newL fun p3 S3 n3 e3 x3 => ?_
  repeat walk_at "e"
  refine c_lenT (xs := T.rows.map rowT) ?_
  rw [List.length_map]
  refine o_mulL e3 ⟨by omega, by show (T.n : Int) < _; omega, by rw [List.length_singleton]; show 1 * (T.n : Int).toNat ≤ _; omega⟩ ?_
  refine i_newL fun en S4 n4 e4 x4 => ?_
  rw [Int.toNat_natCast, rep_end] at e4
  have w4 := x4.get (x3.get e2)
  have nwe : w ≠ en := dne (x3.get e2) n4
  repeat walk_at "e"
  refine words_spec (xs := List.replicate T.rows.length none) (by rw [List.length_replicate]; exact Nat.le_trans hTl (by decide)) e4 fun S5 x5 => ?_
  repeat walk_at "e"
  refine i_newL fun tp S6 n6 e6 x6 => ?_
  have w6 := x6.get (x5.get w4)
  have v6 := x6.get (x5.get e4)
  have nwt : w ≠ tp := dne (x5.get w4) n6
  have net : en ≠ tp := dne (x5.get e4) n6
  have X6 := (((((x1.trans x2).trans x3).trans x4).trans x5).trans x6)
  have f0 : ∀ b ∈ [w, en, tp], S b = none := by
    intro b hb
    simp only [List.mem_cons, List.not_mem_nil, or_false] at hb
    rcases hb with rfl | rfl | rfl
    · exact x1.back n2
    · exact ((x1.trans x2).trans x3).back n4
    · exact ((((x1.trans x2).trans x3).trans x4).trans x5).back n6
  have ft : S tp = none := f0 tp (by simp)
  repeat walk_at "e"
  refine for_inv (fun j δ S7 => (∃ o5, δ = [some T.d, some (.tup (es.map SEv.d)), some (.ref w), some (.ref en), some (.ref tp), o5]) ∧ FS T (evsF T (es.take j)) ∧ S7 w = some (.lst ((evsF T (es.take j)).own.map workD)) ∧ S7 en = some (.lst ((evsF T (es.take j)).ends.map endD)) ∧
    S7 tp = some (.lst ((List.range (j + 1)).map fun i => wordsD (evsF T (es.take i)))) ∧ Onl [w, en, tp] S6 S7) ⟨⟨_, rfl⟩, by rw [List.take_zero]; exact fs0 T, w6, v6, e6, Onl.refl _ _⟩ (fun _ _ _ _ _ => rfl) ?_ ?_
  · rintro j x δ S7 nx hx hj ⟨⟨o5, rfl⟩, fj, w7, v7, t7, O7⟩ hnx
    obtain ⟨e, hej, rfl⟩ := map_at hx
    have hes := he e (List.mem_of_getElem? hej)
    rw [List.length_map] at hj
    have hst : evsF T (es.take (j + 1)) = evF T (evsF T (es.take j)) e := by
      unfold evsF
      rw [List.take_add_one, hej]
      show (es.take j ++ [e]).foldl _ _ = _
      rw [List.foldl_append]; rfl
    have f1 := evF_fs hT fj hes
    rw [← hst] at f1
    repeat walk_at "e"
    refine levent_spec hT fj.ok hes nwe w7 v7 fun S8 w8 v8 O8 => ?_
    rw [← hst] at w8 v8
    have t8 := O8.get (by simp [nwt.symm, net.symm]) t7
    repeat walk_at "e"
    refine words_spec (by rw [f1.ok.l2]; exact Nat.le_trans hTl (by decide)) v8 fun S9 x9 => ?_
    have t9 := x9.get t8
    repeat walk_at "e"
    refine m_append t9 (by rw [List.length_append, List.length_map, List.length_range, List.length_singleton]; omega) (i_putL fun S10 e10 b10 => ?_)
    refine hnx _ _ ⟨⟨_, rfl⟩, f1, b10.get nwt (x9.get w8), b10.get net (x9.get v8), ?_, ((O7.trans fun b o hb hh => O8 b o (fun u => hb (by simp only [List.mem_cons, List.not_mem_nil, or_false] at u ⊢; rcases u with u | u <;> simp [u])) hh).ext x9).but b10 (by simp)⟩
    rw [e10, List.range_succ (n := j + 1), List.map_append]; rfl
  · rintro δ S7 ⟨⟨o5, rfl⟩, fj, w7, v7, t7, O7⟩
    rw [List.length_map] at t7
    repeat walk_at "e"
    exact h tp S7 ft t7 (O7.extO X6 f0)
theorem behind_spec {es : List SEv} (hT : T.ok) (he : ∀ e ∈ es, e.s < T.n) (h : ∀ S', Ext S S' → Q (wordsD (evsF T es)) S') : sem fs (n + 5) 8 [T.d, .tup (es.map SEv.d)] S Q := by
  have hTl := hT.le
  refine run_scopes_behind ?_
  unfold b_8
  repeat walk_at "e"
  refine i_newI fun a S1 n1 e1 x1 => ?_
  refine init_spec (S0 := S) hT e1 n1 x1 fun ow en hu ch as S2 N f0 F2 x2 => ⟨rfl, ?_⟩
  repeat walk_at "e"
  have f0' : ∀ p ∈ [ow, en, hu], S p = none := f0
  have H0 : HI T (fm0 T) (List.replicate T.n none) := by
    refine ⟨List.length_replicate, fun k hk _ _ => ?_⟩
    have h1 : hAt (List.replicate T.n none) k = none := by
      unfold hAt
      rw [List.getElem?_replicate, if_pos hk]
    have h2 : ffail T (fm0 T).ends k = none := by
      cases q : ffail T (fm0 T).ends k with
      | none => rfl
      | some v =>
        obtain ⟨_, c, _, e⟩ := ffail_some q
        have e : at1 (List.replicate T.n none) c = some v := e
        rw [at1_rep] at e; cases e
    rw [h1, h2]; rfl
  refine for_inv (fun j δ S3 => (∃ o3, δ = [some T.d, some (.tup (es.map SEv.d)), some (.ref a), o3, none]) ∧ ∃ hs, FS T (evsF T (es.take j)) ∧ HI T (evsF T (es.take j)) hs ∧ FamAt a ow en hu ch as T S3 (evsF T (es.take j)) hs ∧ Onl [ow, en, hu] S2 S3) ⟨⟨_, rfl⟩, _, fs0 T, H0, F2, Onl.refl _ _⟩ (fun _ _ _ _ _ => rfl) ?_ ?_
  · rintro j x δ S3 nx hx hj ⟨⟨o3, rfl⟩, hs, fj, Hj, F3, O3⟩ hnx
    obtain ⟨e, hej, rfl⟩ := map_at hx
    have hes := he e (List.mem_of_getElem? hej)
    have hst : evsF T (es.take (j + 1)) = evF T (evsF T (es.take j)) e := by
      unfold evsF
      rw [List.take_add_one, hej]
      show (es.take j ++ [e]).foldl _ _ = _
      rw [List.foldl_append]; rfl
    have o3' := F3.obj
    repeat walk_at "e"
    refine happen_spec hT N fj Hj F3 hes fun hs' S4 F4 H4 O4 => ?_
    rw [← hst] at F4 H4
    exact hnx _ _ ⟨⟨_, rfl⟩, hs', by rw [hst]; exact evF_fs hT fj hes, H4, F4, O3.trans O4⟩
  · rintro δ S3 ⟨⟨o3, rfl⟩, hs, fj, Hj, F3, O3⟩
    rw [List.length_map, List.take_length] at fj F3
    have o3' := F3.obj
    have X3 := O3.extO x2 f0
    repeat walk_at "e"
    refine i_iterV_ref F3.ends ?_
    refine lc_map (xs := (evsF T es).ends) (ex := wkO) wordD (fun S' => S' = S3) (by rw [fj.ok.l2]; exact Nat.le_trans hTl (by decide)) rfl (fun S' e => by subst e; exact seq_ref F3.ends) ?_ ?_
    · rintro o ho acc S4 nx hacc rfl hnx
      repeat walk_at "e"
      rw [isNon_wk]
      cases o with
      | none =>
        refine ite_t ?_
        repeat walk_at "e"
        exact ⟨hacc, hnx _ rfl⟩
      | some w =>
        refine ite_f ?_
        repeat walk_at "e"
        exact ⟨hacc, hnx _ rfl⟩
    rintro S4 rfl
    refine i_newL fun q S5 n5 e5 x5 => ?_
    repeat walk_at "e"
    exact h S5 (X3.trans x5)
def kindL : List D := [.str "strict", .str "calm"]
theorem prow_spec {m : Nat} (hm : 1 ≤ m ∧ m ≤ 20) (hd : Drw S d) (h : ∀ p S' (ps : List (Option Nat)), ps.length = m → (∀ (k y : Nat), ps[k]? = some (some y) → y < k) → p ≠ d → S' p = some (.lst (ps.map optD)) → But d S S' → Drw S' d → Q (.ref p) S') :
    sem fs (n + 2) 15 [.ref d, .int (m : Int)] S Q := by
  refine run__law_parent_row ?_
  unfold b_15
  repeat walk_at "e"
  refine take_spec hd (by decide) fun sh S1 s0 s1 b1 d1 => ?_
  repeat walk_at "e"
  refine i_newL fun tp S2 n2 e2 x2 => ?_
  have d2 := d1.ext x2
  have ntd := d1.ne' n2
  have B2 := b1.ext x2
  have nt0 : S tp = none := b1.back ntd n2
  repeat walk_at "e"
  refine i_rng2V (by omega) (for_inv (fun j δ S3 => ∃ o4 ps, δ = [some (.ref d), some (.int (m : Int)), some (.int sh), some (.ref tp), o4] ∧ ps.length = j + 1 ∧ (∀ (k y : Nat), ps[k]? = some (some y) → y < k) ∧ S3 tp = some (.lst (ps.map optD)) ∧ But d S S3 ∧ Drw S3 d) ⟨_, [none], rfl, rfl, (fun k y h => by
    cases k with
    | zero => simp at h
    | succ k => simp at h), e2, B2, d2⟩ (fun _ _ _ _ _ => True.intro) ?_ ?_)
  · rintro j x δ S3 nx hx hj ⟨o4, ps, rfl, hpl, hps, e3, b3, d3⟩ hnx
    obtain ⟨rfl, hjm⟩ := rng_at hx
    obtain ⟨k, hk⟩ : ∃ k : Nat, (1 : Int) + (j : Int) = (k : Int) := ⟨1 + j, by omega⟩
    rw [hk]
    have hkj : k = j + 1 := by omega
    repeat walk_at "e"
    refine take_spec d3 (by omega) fun u S4 u0 u1 b4 d4 => ?_
    repeat walk_at "e"
    refine take_spec d4 (by decide) fun v S5 v0 v1 b5 d5 => ?_
    repeat walk_at "e"
    refine i_newL fun lp S6 n6 e6 x6 => ?_
    have d6 := d5.ext x6
    obtain ⟨y, hy, hyk⟩ : ∃ y : Nat, L2.atI [D.int ((k : Int) - 1), .int 0, .int u, .int (max 0 ((k : Int) - 1 - v))] sh = some (.int (y : Int)) ∧ y < k := by
      have : sh = 0 ∨ sh = 1 ∨ sh = 2 ∨ sh = 3 := by omega
      rcases this with rfl | rfl | rfl | rfl
      · exact ⟨k - 1, by rw [show ((k - 1 : Nat) : Int) = (k : Int) - 1 by omega]; rfl, by omega⟩
      · exact ⟨0, rfl, by omega⟩
      · exact ⟨u.toNat, by rw [Int.toNat_of_nonneg u0]; rfl, by omega⟩
      · exact ⟨(max 0 ((k : Int) - 1 - v)).toNat, by rw [Int.toNat_of_nonneg (Int.le_max_left ..)]; rfl, by omega⟩
    have t6 := x6.get (b5.get ntd (b4.get ntd e3))
    repeat walk_at "e"
    refine o_ixL e6 hy ?_
    repeat walk_at "e"
    refine m_append t6 (by rw [List.length_append, List.length_map, List.length_singleton]; omega) (i_putL fun S7 e7 b7 => ?_)
    refine hnx _ _ ⟨_, ps ++ [some y], rfl, by rw [List.length_append, hpl]; rfl, fun k' y' h' => ?_, by rw [e7, List.map_append]; rfl, ((((b3.trans b4).trans b5).ext x6).but b7 nt0), d6.but b7 ntd.symm⟩
    rcases Nat.lt_or_ge k' ps.length with z | z
    · rw [List.getElem?_append_left z] at h'; exact hps k' y' h'
    · rw [List.getElem?_append_right z] at h'
      have h1 := (List.getElem?_eq_some_iff.mp h').1
      rw [List.length_singleton] at h1
      rw [show k' - ps.length = 0 by omega] at h'
      have := Option.some.inj (Option.some.inj h')
      omega
  · rintro δ S3 ⟨o4, ps, rfl, hpl, hps, e3, b3, d3⟩
    rw [rng_len] at hpl
    repeat walk_at "e"
    exact h tp S3 ps (by omega) hps ntd e3 b3 d3
theorem tree_spec {m : Nat} (hm : 1 ≤ m ∧ m ≤ 20) (hd : Drw S d) (h : ∀ T S', T.ok → T.n = m → But d S S' → Drw S' d → Q (Tree.d T) S') : sem fs (n + 4) 23 [.ref d, .int (m : Int)] S Q := by
  refine run__law_tree ?_
  unfold b_23
  repeat walk_at "e"
  refine prow_spec hm hd fun p S1 ps hpl hps npd e1 b1 d1 => ?_
  repeat walk_at "e"
  refine lc_inv (fun j acc S2 => ∃ rows : List (Option Nat × Bool), acc = rows.map rowT ∧ rows.map (·.1) = ps.take j ∧ But d S1 S2 ∧ Drw S2 d) ⟨[], rfl, rfl, But.refl _ _, d1⟩ (fun _ _ _ _ ⟨_, _, _, b, _⟩ => seq_ref (b.get npd e1)) ?_ ?_
  · rintro j x acc S2 nx hx hj ⟨rows, rfl, hrows, b2, d2⟩ hnx
    obtain ⟨o, ho, rfl⟩ := map_at hx
    have hrl : rows.length ≤ j := by have := congrArg List.length hrows; rw [List.length_map, List.length_take] at this; omega
    rw [List.length_map] at hj
    repeat walk_at "e"
    refine i_newL fun kp S3 n3 e3 x3 => ?_
    have d3 := d2.ext x3
    repeat walk_at "e"
    refine pick_spec d3 e3 (by simp) (d2.ne' n3) fun v S4 hv b4 d4 => ?_
    obtain ⟨b, rfl⟩ : ∃ b : Bool, v = kindD b := by
      simp only [List.mem_cons, List.not_mem_nil, or_false] at hv
      rcases hv with rfl | rfl
      · exact ⟨true, rfl⟩
      · exact ⟨false, rfl⟩
    repeat walk_at "e"
    refine ⟨by rw [List.length_map]; omega, hnx _ _ ⟨rows ++ [(o, b)], by rw [List.map_append]; rfl, ?_, (b2.ext x3).trans b4, d4⟩⟩
    rw [List.map_append, hrows, List.take_add_one, ho]; rfl
  rintro acc S2 ⟨rows, rfl, hrows, b2, d2⟩
  rw [List.length_map, List.take_length] at hrows
  refine i_newL fun q S3 n3 e3 x3 => ?_
  repeat walk_at "e"
  have hn : (Tree.mk rows).n = m := by
    show rows.length = m
    rw [← hpl, ← hrows, List.length_map]
  refine h ⟨rows⟩ S3 ⟨by rw [hn]; exact hm.2, fun k y hy => ?_⟩ hn ((b1.trans b2).ext x3) (d2.ext x3)
  unfold Tree.par at hy
  split at hy
  · next r0 hr0 =>
    refine hps k y ?_
    rw [← hrows, List.getElem?_map]
    have hr0 : rows[k]? = some r0 := hr0
    rw [hr0]
    exact congrArg some hy
  · cases hy
theorem sevents_spec {m c : Nat} (hm : 1 ≤ m) (hc : c ≤ 50) (hd : Drw S d) (h : ∀ (es : List SEv) S', (∀ e ∈ es, e.s < m) → es.length ≤ 50 → But d S S' → Drw S' d → Q (.tup (es.map SEv.d)) S') : sem fs (n + 4) 24 [.ref d, .int (m : Int), .int (c : Int)] S Q := by
  refine run__law_scope_events ?_
  unfold b_24
  repeat walk_at "e"
  refine i_newL fun tp S1 n1 e1 x1 => ?_
  have d1 := hd.ext x1
  have ntd := hd.ne' n1
  repeat walk_at "e"
  refine i_rng1V (by omega) (for_inv (fun j δ S2 => ∃ o4 o5 o6 es, δ = [some (.ref d), some (.int (m : Int)), some (.int (c : Int)), some (.ref tp), o4, o5, o6] ∧ (∀ e ∈ es, SEv.s e < m) ∧ es.length = j ∧ S2 tp = some (.lst (es.map SEv.d)) ∧ But d S S2 ∧ Drw S2 d) ⟨_, _, _, [], rfl, (fun e he => by cases he), rfl, e1, x1.toBut, d1⟩ (fun _ _ _ _ _ => True.intro) ?_ ?_)
  · rintro j x δ S2 nx hx hj ⟨o4, o5, o6, es, rfl, hes, hel, e2, b2, d2⟩ hnx
    obtain ⟨rfl, hjc⟩ := rng_at hx
    have hj50 : j ≤ 50 := by omega
    repeat walk_at "e"
    refine i_newL fun kp S3 n3 e3 x3 => ?_
    have d3 := d2.ext x3
    repeat walk_at "e"
    refine pick_spec d3 e3 (by simp) (d2.ne' n3) fun kd S4 hkd b4 d4 => ?_
    repeat walk_at "e"
    refine take_spec d4 (by omega) fun s S5 s0 s1 b5 d5 => ?_
    obtain ⟨sn, rfl, hsn⟩ : ∃ sn : Nat, s = (sn : Int) ∧ sn < m := ⟨s.toNat, by omega, by omega⟩
    have t5 := b5.get ntd (b4.get ntd (x3.get e2))
    have B5 := ((b2.ext x3).trans b4).trans b5
    have put : ∀ (e : SEv) S6 S7 o5, e.s < m → But d S5 S6 → Drw S6 d → S7 tp = some (.lst (es.map SEv.d ++ [e.d])) → But tp S6 S7 → nx [some (.ref d), some (.int (m : Int)), some (.int (c : Int)), some (.ref tp), some (.int (0 + (j : Int))), o5, some (.int (sn : Int))] S7 := fun e S6 S7 o5 h1 b6 d6 e7 b7 => by
      refine hnx _ _ ⟨_, _, _, es ++ [e], rfl, fun e' he' => ?_, by rw [List.length_append, hel]; rfl, by rw [e7, List.map_append]; rfl, (B5.trans b6).but b7 n1, d6.but b7 ntd.symm⟩
      rcases List.mem_append.mp he' with z | z
      · exact hes e' z
      · rw [List.mem_singleton.mp z]; exact h1
    have hlen : (es.map SEv.d).length + 1 ≤ 16777216 := by rw [List.length_map]; omega
    simp only [List.mem_cons, List.not_mem_nil, or_false] at hkd
    have hkd : kd = .str "done" ∨ kd = .str "fail" ∨ kd = .str "cancel" := by
      rcases hkd with z | z | z | z | z | z
      · exact .inl z
      · exact .inl z
      · exact .inl z
      · exact .inl z
      · exact .inr (.inl z)
      · exact .inr (.inr z)
    rcases hkd with rfl | rfl | rfl
    · repeat walk_at "e"
      refine m_append t5 (by rw [List.length_append]; exact hlen) (i_putL fun S6 e6 b6 => ?_)
      exact put (.done sn) S5 S6 _ hsn (But.refl _ _) d5 e6 b6
    · repeat walk_at "e"
      refine word_spec d5 fun w S6 _ b6 d6 => ?_
      have t6 := b6.get ntd t5
      repeat walk_at "e"
      refine m_append t6 (by rw [List.length_append]; exact hlen) (i_putL fun S7 e7 b7 => ?_)
      exact put (.fail sn w) S6 S7 _ hsn b6 d6 e7 b7
    · repeat walk_at "e"
      refine m_append t5 (by rw [List.length_append]; exact hlen) (i_putL fun S6 e6 b6 => ?_)
      exact put (.cancel sn) S5 S6 _ hsn (But.refl _ _) d5 e6 b6
  · rintro δ S2 ⟨o4, o5, o6, es, rfl, hes, hel, e2, b2, d2⟩
    rw [rng_len] at hel
    repeat walk_at "e"
    exact h es S2 hes (by omega) b2 d2
end
theorem cut_upto {α : Type} {xs : List α} {j : Nat} : dcut xs none (some (j : Int)) = xs.take j := by
  unfold dcut
  rw [HT.sIx_none, HT.sIx_nat, List.drop_zero, Nat.sub_zero]
  rcases Nat.lt_or_ge j xs.length with h | h
  · rw [Nat.min_eq_left (Nat.le_of_lt h)]
  · rw [Nat.min_eq_right h, List.take_length, List.take_of_length_le h]
def csD (c : Tree × List SEv) : D := .tup [c.1.d, .tup (c.2.map SEv.d)]
structure CsOk (c : Tree × List SEv) : Prop where
  t : c.1.ok
  e : ∀ e ∈ c.2, e.s < c.1.n
  l : c.2.length ≤ 50
def toldT (a b c : Bool) : Tree := ⟨[(none, a), (some 0, b), (some 1, c), (some 1, false), (some 0, true), (some 4, false)]⟩
theorem toldT_ok (a b c : Bool) : (toldT a b c).ok := ⟨by show (6 : Nat) ≤ 20; decide, fun k p h => by
  match k with
  | 0 => cases h
  | 1 => obtain rfl : 0 = p := Option.some.inj h; decide
  | 2 => obtain rfl : 1 = p := Option.some.inj h; decide
  | 3 => obtain rfl : 1 = p := Option.some.inj h; decide
  | 4 => obtain rfl : 0 = p := Option.some.inj h; decide
  | 5 => obtain rfl : 4 = p := Option.some.inj h; decide
  | k + 6 => cases h⟩
def toldC (a b c : Bool) (w : Str) : List (Tree × List SEv) := [
  (toldT a b c, [.fail 2 w, .done 1, .done 3, .done 0]),
  (toldT a b c, [.done 1, .fail 3 w, .fail 2 (Str.ofString "x"), .done 5, .done 4, .done 0]),
  (toldT a b c, [.fail 4 w, .done 0, .cancel 1, .fail 0 (Str.ofString "y")]),
  (toldT a b c, [.done 0, .cancel 0, .fail 0 w]),
  (toldT a b c, [.fail 0 w, .done 2])]
theorem toldC_ok (a b c : Bool) (w : Str) : ∀ x ∈ toldC a b c w, CsOk x := fun x hx => by
  unfold toldC at hx
  simp only [List.mem_cons, List.not_mem_nil, or_false] at hx
  have h6 : (toldT a b c).n = 6 := rfl
  rcases hx with rfl | rfl | rfl | rfl | rfl <;> refine ⟨toldT_ok a b c, fun e he => ?_, Nat.le_of_ble_eq_true rfl⟩ <;> simp only [List.mem_cons, List.not_mem_nil, or_false] at he <;> rw [h6]
  · rcases he with rfl | rfl | rfl | rfl <;> exact Nat.le_of_ble_eq_true rfl
  · rcases he with rfl | rfl | rfl | rfl | rfl | rfl <;> exact Nat.le_of_ble_eq_true rfl
  · rcases he with rfl | rfl | rfl | rfl <;> exact Nat.le_of_ble_eq_true rfl
  · rcases he with rfl | rfl | rfl <;> exact Nat.le_of_ble_eq_true rfl
  · rcases he with rfl | rfl <;> exact Nat.le_of_ble_eq_true rfl
section
variable {S S' : DS} {n : Nat} {Q : DK} {d : Addr}
theorem kind_spec {r : Addr} (hd : Drw S d) (e : S r = some (.lst [.str "strict", .str "calm"])) (hne : r ≠ d) (h : ∀ b S', But d S S' → Drw S' d → Q (kindD b) S') : sem fs (n + 2) 11 [.ref d, .ref r] S Q := by
  refine pick_spec hd e (by simp) hne fun v S4 hv b4 d4 => ?_
  simp only [List.mem_cons, List.not_mem_nil, or_false] at hv
  rcases hv with rfl | rfl
  · exact h true S4 b4 d4
  · exact h false S4 b4 d4
theorem told_spec (hd : Drw S d) (h : ∀ p S' (cs : List (Tree × List SEv)), cs.length = 5 → (∀ c ∈ cs, CsOk c) → p ≠ d → S' p = some (.lst (cs.map csD)) → Drw S' d → Q (.ref p) S') : sem fs (n + 3) 25 [.ref d] S Q := by
  refine run__law_told_cases ?_
  unfold b_25
  repeat walk_at "e"
  refine word_spec hd fun w S1 _ b1 d1 => ?_
  repeat walk_at "e"
  refine i_newL fun p2 S2 n2 e2 x2 => ?_
  have d2 := d1.ext x2
  repeat walk_at "e"
  refine kind_spec d2 e2 (d1.ne' n2) fun a S3 b3 d3 => ?_
  repeat walk_at "e"
  refine i_newL fun p4 S4 n4 e4 x4 => ?_
  have d4 := d3.ext x4
  repeat walk_at "e"
  refine kind_spec d4 e4 (d3.ne' n4) fun b S5 b5 d5 => ?_
  repeat walk_at "e"
  refine i_newL fun p6 S6 n6 e6 x6 => ?_
  have d6 := d5.ext x6
  repeat walk_at "e"
  refine kind_spec d6 e6 (d5.ne' n6) fun c S7 b7 d7 => ?_
  repeat walk_at "e"
  refine i_newL fun q S8 n8 e8 x8 => ?_
  have d8 := d7.ext x8
  have nqd := d7.ne' n8
  repeat walk_at "e"
  refine m_append e8 (Nat.le_of_ble_eq_true rfl) (i_putL fun S9 e9 b9 => ?_)
  have d9 := d8.but b9 nqd.symm
  repeat walk_at "e"
  refine m_append e9 (Nat.le_of_ble_eq_true rfl) (i_putL fun S10 e10 b10 => ?_)
  have d10 := d9.but b10 nqd.symm
  repeat walk_at "e"
  refine m_append e10 (Nat.le_of_ble_eq_true rfl) (i_putL fun S11 e11 b11 => ?_)
  have d11 := d10.but b11 nqd.symm
  repeat walk_at "e"
  refine m_append e11 (Nat.le_of_ble_eq_true rfl) (i_putL fun S12 e12 b12 => ?_)
  have d12 := d11.but b12 nqd.symm
  repeat walk_at "e"
  exact h q S12 (toldC a b c w) rfl (toldC_ok a b c w) nqd e12 d12
end
theorem words_pl {s : Fm} (hl : s.ends.length ≤ 1000) : Pl 4 (wordsD s) := by
  unfold wordsD
  refine ⟨by rw [List.length_map]; exact Nat.le_trans hl (by decide), fun x hx => ?_⟩
  obtain ⟨o, _, rfl⟩ := List.mem_map.mp hx
  cases o with
  | none => exact True.intro
  | some w =>
    cases w with
    | can => exact True.intro
    | good => exact True.intro
    | fail z =>
      refine ⟨Nat.le_of_ble_eq_true rfl, fun y hy => ?_⟩
      simp only [List.mem_cons, List.not_mem_nil, or_false] at hy
      rcases hy with rfl | rfl <;> exact True.intro
theorem law_ok (ns : List Int) (hns : ns.length ≤ 63) : sem fs 40 26 [.fl (ns.map D.int)] (fun _ => none) fun d _ => d = .bl true := by
  refine run_law ?_
  unfold b_26
  repeat walk_at "e"
  refine draws_spec (by decide) fun d S1 x1 n1 d1 => ?_
  repeat walk_at "e"
  refine told_spec d1 fun cp S2 cs hcs hco ncd e2 d2 => ?_
  repeat walk_at "e"
  refine i_rng1V (by decide) (for_inv (fun j δ S3 => ∃ o3 o4 cs, δ = [some (.fl (ns.map D.int)), some (.ref d), some (.ref cp), o3, o4, none, none, none] ∧ cs.length = 5 + j ∧ (∀ c ∈ cs, CsOk c) ∧ S3 cp = some (.lst (cs.map csD)) ∧ Drw S3 d) ⟨_, _, cs, rfl, hcs, hco, e2, d2⟩ (fun _ _ _ _ _ => True.intro) ?_ ?_)
  · rintro j x δ S3 nx hx hj ⟨o3, o4, cs, rfl, hcl, hco, e3, d3⟩ hnx
    rw [rng_len] at hj
    obtain ⟨rfl, hj2⟩ := rng_at hx
    repeat walk_at "e"
    refine take_spec d3 (by decide) fun m0 S4 m00 m01 b4 d4 => ?_
    obtain ⟨m, hm, hm1⟩ : ∃ m : Nat, 1 + m0 = (m : Int) ∧ (1 ≤ m ∧ m ≤ 12) := ⟨(1 + m0).toNat, by omega, by omega⟩
    repeat walk_at "e"
    rw [hm]
    refine tree_spec ⟨hm1.1, by omega⟩ d4 fun T S5 hT hTn b5 d5 => ?_
    repeat walk_at "e"
    refine take_spec d5 (by decide) fun c0 S6 c00 c01 b6 d6 => ?_
    obtain ⟨c, rfl⟩ : ∃ c : Nat, c0 = (c : Int) := ⟨c0.toNat, by omega⟩
    repeat walk_at "e"
    refine sevents_spec hm1.1 (by omega) d6 fun es S7 hes hel b7 d7 => ?_
    have e7 := b7.get ncd (b6.get ncd (b5.get ncd (b4.get ncd e3)))
    repeat walk_at "e"
    refine m_append e7 (by rw [List.length_append, List.length_map, List.length_singleton, hcl]; omega) (i_putL fun S8 e8 b8 => ?_)
    refine hnx _ _ ⟨_, _, cs ++ [(T, es)], rfl, by rw [List.length_append, List.length_singleton, hcl, Nat.add_assoc], fun c' hc' => ?_, by rw [e8, List.map_append]; rfl, d7.but b8 ncd.symm⟩
    rcases List.mem_append.mp hc' with z | z
    · exact hco c' z
    · rw [List.mem_singleton.mp z]; exact ⟨hT, fun e he => by show e.s < T.n; rw [hTn]; exact hes e he, hel⟩
  rintro δ S3 ⟨o3, o4, cs, rfl, hcl, hco, e3, d3⟩
  repeat walk_at "e"
  refine for_inv (fun j δ S4 => (∃ o3 o5 o6 o7, δ = [some (.fl (ns.map D.int)), some (.ref d), some (.ref cp), o3, o4, o5, o6, o7]) ∧ But d S3 S4 ∧ Drw S4 d) ⟨⟨_, _, _, _, rfl⟩, But.refl _ _, d3⟩ (fun _ _ _ _ hh => seq_ref (hh.2.1.get ncd e3)) ?_ ?_
  · rintro j x δ S4 nx hx hj ⟨⟨o3, o5, o6, o7, rfl⟩, b4, d4⟩ hnx
    obtain ⟨⟨T, es⟩, hc, rfl⟩ := map_at hx
    obtain ⟨hT, hes, hel⟩ := hco _ (List.mem_of_getElem? hc)
    have hel : es.length ≤ 50 := hel
    unfold csD
    repeat walk_at "e"
    refine stages_spec hT hes (by omega) fun dp S5 n5 e5 x5 => ?_
    have d5 := d4.ext x5
    have nd : dp ≠ d := d4.ne' n5
    repeat walk_at "e"
    rw [List.length_map]
    refine ⟨RgOk.of_le (by decide) (by omega) (by decide) (by omega), i_newL fun lp S6 n6 e6 x6 => ?_⟩
    rw [show ((es.length : Int) + 1 - 0).toNat = es.length + 1 by omega] at e6
    have d6 := d5.ext x6
    repeat walk_at "e"
    have hrl : (DL.rngL 0 (es.length + 1)).length = es.length + 1 := rng_len
    refine shuffled_spec d6 e6 (by rw [hrl]; omega) fun sp ys S7 hys n7 e7 nsd b7 d7 => ?_
    have e5' := b7.get nd (x6.get e5)
    repeat walk_at "e"
    refine for_inv (fun i δ S8 => (∃ o3, δ = [some (.fl (ns.map D.int)), some (.ref d), some (.ref cp), o3, o4, some T.d, some (.tup (es.map SEv.d)), some (.ref dp)]) ∧ Ext S7 S8) ⟨⟨_, rfl⟩, Ext.refl _⟩ (fun _ _ _ _ hh => seq_ref (hh.2.get e7)) ?_ ?_
    · rintro i y δ S8 nx' hy hi ⟨⟨o3, rfl⟩, x8⟩ hnx'
      obtain ⟨k, rfl, hk⟩ : ∃ k : Nat, y = .int (k : Int) ∧ k ≤ es.length := by
        have := hys.mem_iff.mp (List.mem_of_getElem? hy)
        obtain ⟨j', hj'⟩ := List.getElem?_of_mem this
        obtain ⟨rfl, h2⟩ := rng_at hj'
        exact ⟨j', by rw [Int.zero_add], by omega⟩
      repeat walk_at "e"
      rw [cut_upto, ← List.map_take]
      refine behind_spec hT (fun e he => hes e (List.mem_of_mem_take he)) fun S9 x9 => ?_
      repeat walk_at "e"
      have hat : L2.atI ((List.range (es.length + 1)).map fun i => wordsD (evsF T (es.take i))) (k : Int) = some (wordsD (evsF T (es.take k))) := lst_map_at (j := k) rfl (List.getElem?_range (by omega))
      refine o_ixL (x9.get (x8.get e5')) hat ?_
      repeat walk_at "e"
      refine same_spec (m := 4) (words_pl (by rw [(evsF_fs hT (es := es.take k) fun e he => hes e (List.mem_of_mem_take he)).ok.l2]; exact Nat.le_trans hT.le (by decide))) fun S10 x10 => ?_
      repeat walk_at "e"
      exact hnx' _ _ ⟨⟨_, rfl⟩, (x8.trans x9).trans x10⟩
    · rintro δ S8 ⟨⟨o3, rfl⟩, x8⟩
      exact hnx _ _ ⟨⟨_, _, _, _, rfl⟩, (((b4.ext x5).ext x6).trans b7).ext x8, d7.ext x8⟩
  · rintro δ S4 ⟨⟨o3, o5, o6, o7, rfl⟩, b4, d4⟩
    repeat walk_at "e"
    rfl
end Gk66
namespace Gk66
open PySem PySem.Spec PyProof.Rows L2 DL
def top (i : Nat) : Stmt := PySem.Challenge.pw_promiseskept_k66_scopes_behind_events.main.body.getD i (.Pass ⟨0, 0, 0, 0⟩)
abbrev s_0 : Stmt := inClass (top 1) 0
abbrev N_0 : List Str := ["self", "tree", "_", "scope", "parent", "kind"]
abbrev P_0 : List Str := ["self", "tree"]
theorem sc_0 : FnScope N_0 P_0 (defScope s_0) := ⟨rfl, rfl, rfl, by decide +kernel, rfl, by decide +kernel, by decide +kernel⟩
abbrev s_1 : Stmt := inClass (top 1) 1
abbrev N_1 : List Str := ["self", "scope", "found", "waiting", "lower"]
abbrev P_1 : List Str := ["self", "scope"]
theorem sc_1 : FnScope N_1 P_1 (defScope s_1) := ⟨rfl, rfl, rfl, by decide +kernel, rfl, by decide +kernel, by decide +kernel⟩
abbrev s_2 : Stmt := inClass (top 1) 2
abbrev N_2 : List Str := ["self", "scopes", "scope"]
abbrev P_2 : List Str := ["self", "scopes"]
theorem sc_2 : FnScope N_2 P_2 (defScope s_2) := ⟨rfl, rfl, rfl, by decide +kernel, rfl, by decide +kernel, by decide +kernel⟩
abbrev s_3 : Stmt := inClass (top 1) 3
abbrev N_3 : List Str := ["self", "event", "scope"]
abbrev P_3 : List Str := ["self", "event"]
theorem sc_3 : FnScope N_3 P_3 (defScope s_3) := ⟨rfl, rfl, rfl, by decide +kernel, rfl, by decide +kernel, by decide +kernel⟩
abbrev s_4 : Stmt := inClass (top 1) 4
abbrev N_4 : List Str := ["self", "changed", "scope"]
abbrev P_4 : List Str := ["self"]
theorem sc_4 : FnScope N_4 P_4 (defScope s_4) := ⟨rfl, rfl, rfl, by decide +kernel, rfl, by decide +kernel, by decide +kernel⟩
abbrev s_5 : Stmt := inClass (top 1) 5
abbrev N_5 : List Str := ["self", "scope", "lower"]
abbrev P_5 : List Str := ["self", "scope"]
theorem sc_5 : FnScope N_5 P_5 (defScope s_5) := ⟨rfl, rfl, rfl, by decide +kernel, rfl, by decide +kernel, by decide +kernel⟩
abbrev s_6 : Stmt := inClass (top 1) 6
abbrev N_6 : List Str := ["self", "scope"]
abbrev P_6 : List Str := ["self", "scope"]
theorem sc_6 : FnScope N_6 P_6 (defScope s_6) := ⟨rfl, rfl, rfl, by decide +kernel, rfl, by decide +kernel, by decide +kernel⟩
abbrev s_7 : Stmt := inClass (top 1) 7
abbrev N_7 : List Str := ["self", "scope", "parent"]
abbrev P_7 : List Str := ["self", "scope"]
theorem sc_7 : FnScope N_7 P_7 (defScope s_7) := ⟨rfl, rfl, rfl, by decide +kernel, rfl, by decide +kernel, by decide +kernel⟩
abbrev s_8 : Stmt := top 2
abbrev N_8 : List Str := ["tree", "events", "family", "event", "end"]
abbrev P_8 : List Str := ["tree", "events"]
theorem sc_8 : FnScope N_8 P_8 (defScope s_8) := ⟨rfl, rfl, rfl, by decide +kernel, rfl, by decide +kernel, by decide +kernel⟩
abbrev s_9 : Stmt := top 4
abbrev N_9 : List Str := ["script", "many", "cells", "cell", "left", "draws", "k", "place", "mixed"]
abbrev P_9 : List Str := ["script", "many"]
theorem sc_9 : FnScope N_9 P_9 (defScope s_9) := ⟨rfl, rfl, rfl, by decide +kernel, rfl, by decide +kernel, by decide +kernel⟩
abbrev s_10 : Stmt := top 5
abbrev N_10 : List Str := ["draws", "many"]
abbrev P_10 : List Str := ["draws", "many"]
theorem sc_10 : FnScope N_10 P_10 (defScope s_10) := ⟨rfl, rfl, rfl, by decide +kernel, rfl, by decide +kernel, by decide +kernel⟩
abbrev s_11 : Stmt := top 6
abbrev N_11 : List Str := ["draws", "row"]
abbrev P_11 : List Str := ["draws", "row"]
theorem sc_11 : FnScope N_11 P_11 (defScope s_11) := ⟨rfl, rfl, rfl, by decide +kernel, rfl, by decide +kernel, by decide +kernel⟩
abbrev s_12 : Stmt := top 7
abbrev N_12 : List Str := ["actual", "due", "k"]
abbrev P_12 : List Str := ["actual", "due"]
theorem sc_12 : FnScope N_12 P_12 (defScope s_12) := ⟨rfl, rfl, rfl, by decide +kernel, rfl, by decide +kernel, by decide +kernel⟩
abbrev s_13 : Stmt := top 8
abbrev N_13 : List Str := ["draws", "row", "left", "told", "k"]
abbrev P_13 : List Str := ["draws", "row"]
theorem sc_13 : FnScope N_13 P_13 (defScope s_13) := ⟨rfl, rfl, rfl, by decide +kernel, rfl, by decide +kernel, by decide +kernel⟩
abbrev s_14 : Stmt := top 9
abbrev N_14 : List Str := ["draws", "size", "j"]
abbrev P_14 : List Str := ["draws"]
theorem sc_14 : FnScope N_14 P_14 (defScope s_14) := ⟨rfl, rfl, rfl, by decide +kernel, rfl, by decide +kernel, by decide +kernel⟩
abbrev s_15 : Stmt := top 10
abbrev N_15 : List Str := ["draws", "many", "shape", "told", "k"]
abbrev P_15 : List Str := ["draws", "many"]
theorem sc_15 : FnScope N_15 P_15 (defScope s_15) := ⟨rfl, rfl, rfl, by decide +kernel, rfl, by decide +kernel, by decide +kernel⟩
abbrev s_16 : Stmt := top 11
abbrev N_16 : List Str := ["parents", "k", "top", "here", "turn"]
abbrev P_16 : List Str := ["parents", "k", "top"]
theorem sc_16 : FnScope N_16 P_16 (defScope s_16) := ⟨rfl, rfl, rfl, by decide +kernel, rfl, by decide +kernel, by decide +kernel⟩
abbrev s_17 : Stmt := top 12
abbrev N_17 : List Str := ["parents", "k", "j"]
abbrev P_17 : List Str := ["parents", "k"]
theorem sc_17 : FnScope N_17 P_17 (defScope s_17) := ⟨rfl, rfl, rfl, by decide +kernel, rfl, by decide +kernel, by decide +kernel⟩
abbrev s_18 : Stmt := top 13
abbrev N_18 : List Str := ["parents", "work", "top", "k"]
abbrev P_18 : List Str := ["parents", "work", "top"]
theorem sc_18 : FnScope N_18 P_18 (defScope s_18) := ⟨rfl, rfl, rfl, by decide +kernel, rfl, by decide +kernel, by decide +kernel⟩
abbrev s_19 : Stmt := top 14
abbrev N_19 : List Str := ["tree", "work", "ended", "s", "parents", "pair", "below", "k", "told"]
abbrev P_19 : List Str := ["tree", "work", "ended", "s"]
theorem sc_19 : FnScope N_19 P_19 (defScope s_19) := ⟨rfl, rfl, rfl, by decide +kernel, rfl, by decide +kernel, by decide +kernel⟩
abbrev s_20 : Stmt := top 15
abbrev N_20 : List Str := ["tree", "work", "ended", "event", "parents", "pair", "s", "turn", "k", "told"]
abbrev P_20 : List Str := ["tree", "work", "ended", "event"]
theorem sc_20 : FnScope N_20 P_20 (defScope s_20) := ⟨rfl, rfl, rfl, by decide +kernel, rfl, by decide +kernel, by decide +kernel⟩
abbrev s_21 : Stmt := top 16
abbrev N_21 : List Str := ["ended", "told", "end"]
abbrev P_21 : List Str := ["ended"]
theorem sc_21 : FnScope N_21 P_21 (defScope s_21) := ⟨rfl, rfl, rfl, by decide +kernel, rfl, by decide +kernel, by decide +kernel⟩
abbrev s_22 : Stmt := top 17
abbrev N_22 : List Str := ["tree", "events", "work", "ended", "told", "event"]
abbrev P_22 : List Str := ["tree", "events"]
theorem sc_22 : FnScope N_22 P_22 (defScope s_22) := ⟨rfl, rfl, rfl, by decide +kernel, rfl, by decide +kernel, by decide +kernel⟩
abbrev s_23 : Stmt := top 18
abbrev N_23 : List Str := ["draws", "many", "parent"]
abbrev P_23 : List Str := ["draws", "many"]
theorem sc_23 : FnScope N_23 P_23 (defScope s_23) := ⟨rfl, rfl, rfl, by decide +kernel, rfl, by decide +kernel, by decide +kernel⟩
abbrev s_24 : Stmt := top 19
abbrev N_24 : List Str := ["draws", "many", "count", "told", "k", "kind", "s"]
abbrev P_24 : List Str := ["draws", "many", "count"]
theorem sc_24 : FnScope N_24 P_24 (defScope s_24) := ⟨rfl, rfl, rfl, by decide +kernel, rfl, by decide +kernel, by decide +kernel⟩
abbrev s_25 : Stmt := top 20
abbrev N_25 : List Str := ["draws", "word", "top", "middle", "tree", "cases"]
abbrev P_25 : List Str := ["draws"]
theorem sc_25 : FnScope N_25 P_25 (defScope s_25) := ⟨rfl, rfl, rfl, by decide +kernel, rfl, by decide +kernel, by decide +kernel⟩
abbrev s_26 : Stmt := top 21
abbrev N_26 : List Str := ["script", "draws", "cases", "k", "many", "tree", "events", "due"]
abbrev P_26 : List Str := ["script"]
theorem sc_26 : FnScope N_26 P_26 (defScope s_26) := ⟨rfl, rfl, rfl, by decide +kernel, rfl, by decide +kernel, by decide +kernel⟩
structure Txt (K : PySem.W.Frag) (w : World) (mg : Str → Option Value) (tt : LT) where
  f : Nat → Addr
  fd : Nat → FuncData
  nd : (tt.map fun t => t.2.2).Nodup
  C_Family : Addr
  k_Family : ClsOk K c_Family nm_Family C_Family
  mc_Family : mg "Family" = some (.ref C_Family)
  mk_Family : Mk K C_Family (f 0)
  F0 : Fun K "__init__" "Family.__init__" s_0 (f 0) (fd 0)
  b0 : Binds K (fd 0) P_0 []
  me0 : Meth K C_Family "__init__" (f 0)
  F1 : Fun K "all_below" "Family.all_below" s_1 (f 1) (fd 1)
  b1 : Binds K (fd 1) P_1 []
  me1 : Meth K C_Family "all_below" (f 1)
  F2 : Fun K "cancel_own" "Family.cancel_own" s_2 (f 2) (fd 2)
  b2 : Binds K (fd 2) P_2 []
  me2 : Meth K C_Family "cancel_own" (f 2)
  F3 : Fun K "happen" "Family.happen" s_3 (f 3) (fd 3)
  b3 : Binds K (fd 3) P_3 []
  me3 : Meth K C_Family "happen" (f 3)
  F4 : Fun K "end_more" "Family.end_more" s_4 (f 4) (fd 4)
  b4 : Binds K (fd 4) P_4 []
  me4 : Meth K C_Family "end_more" (f 4)
  F5 : Fun K "can_end" "Family.can_end" s_5 (f 5) (fd 5)
  b5 : Binds K (fd 5) P_5 []
  me5 : Meth K C_Family "can_end" (f 5)
  F6 : Fun K "ending" "Family.ending" s_6 (f 6) (fd 6)
  b6 : Binds K (fd 6) P_6 []
  me6 : Meth K C_Family "ending" (f 6)
  F7 : Fun K "hurt_parent" "Family.hurt_parent" s_7 (f 7) (fd 7)
  b7 : Binds K (fd 7) P_7 []
  me7 : Meth K C_Family "hurt_parent" (f 7)
  F8 : Fun K "scopes_behind" "scopes_behind" s_8 (f 8) (fd 8)
  b8 : Binds K (fd 8) P_8 []
  m8 : mg "scopes_behind" = some (.ref (f 8))
  F9 : Fun K "_law_draws" "_law_draws" s_9 (f 9) (fd 9)
  b9 : Binds K (fd 9) P_9 []
  m9 : mg "_law_draws" = some (.ref (f 9))
  F10 : Fun K "_law_take" "_law_take" s_10 (f 10) (fd 10)
  b10 : Binds K (fd 10) P_10 []
  m10 : mg "_law_take" = some (.ref (f 10))
  F11 : Fun K "_law_pick" "_law_pick" s_11 (f 11) (fd 11)
  b11 : Binds K (fd 11) P_11 []
  m11 : mg "_law_pick" = some (.ref (f 11))
  F12 : Fun K "_law_same" "_law_same" s_12 (f 12) (fd 12)
  b12 : Binds K (fd 12) P_12 []
  m12 : mg "_law_same" = some (.ref (f 12))
  F13 : Fun K "_law_shuffled" "_law_shuffled" s_13 (f 13) (fd 13)
  b13 : Binds K (fd 13) P_13 []
  m13 : mg "_law_shuffled" = some (.ref (f 13))
  F14 : Fun K "_law_word" "_law_word" s_14 (f 14) (fd 14)
  b14 : Binds K (fd 14) P_14 []
  m14 : mg "_law_word" = some (.ref (f 14))
  F15 : Fun K "_law_parent_row" "_law_parent_row" s_15 (f 15) (fd 15)
  b15 : Binds K (fd 15) P_15 []
  m15 : mg "_law_parent_row" = some (.ref (f 15))
  F16 : Fun K "_law_is_below" "_law_is_below" s_16 (f 16) (fd 16)
  b16 : Binds K (fd 16) P_16 []
  m16 : mg "_law_is_below" = some (.ref (f 16))
  F17 : Fun K "_law_children" "_law_children" s_17 (f 17) (fd 17)
  b17 : Binds K (fd 17) P_17 []
  m17 : mg "_law_children" = some (.ref (f 17))
  F18 : Fun K "_law_stop" "_law_stop" s_18 (f 18) (fd 18)
  b18 : Binds K (fd 18) P_18 []
  m18 : mg "_law_stop" = some (.ref (f 18))
  F19 : Fun K "_law_end_of" "_law_end_of" s_19 (f 19) (fd 19)
  b19 : Binds K (fd 19) P_19 []
  m19 : mg "_law_end_of" = some (.ref (f 19))
  F20 : Fun K "_law_scope_event" "_law_scope_event" s_20 (f 20) (fd 20)
  b20 : Binds K (fd 20) P_20 []
  m20 : mg "_law_scope_event" = some (.ref (f 20))
  F21 : Fun K "_law_scope_words" "_law_scope_words" s_21 (f 21) (fd 21)
  b21 : Binds K (fd 21) P_21 []
  m21 : mg "_law_scope_words" = some (.ref (f 21))
  F22 : Fun K "_law_scope_stages" "_law_scope_stages" s_22 (f 22) (fd 22)
  b22 : Binds K (fd 22) P_22 []
  m22 : mg "_law_scope_stages" = some (.ref (f 22))
  F23 : Fun K "_law_tree" "_law_tree" s_23 (f 23) (fd 23)
  b23 : Binds K (fd 23) P_23 []
  m23 : mg "_law_tree" = some (.ref (f 23))
  F24 : Fun K "_law_scope_events" "_law_scope_events" s_24 (f 24) (fd 24)
  b24 : Binds K (fd 24) P_24 []
  m24 : mg "_law_scope_events" = some (.ref (f 24))
  F25 : Fun K "_law_told_cases" "_law_told_cases" s_25 (f 25) (fd 25)
  b25 : Binds K (fd 25) P_25 []
  m25 : mg "_law_told_cases" = some (.ref (f 25))
  F26 : Fun K "law" "law" s_26 (f 26) (fd 26)
  b26 : Binds K (fd 26) P_26 []
  m26 : mg "law" = some (.ref (f 26))
  z_all : mg "all" = none
  z_bool : mg "bool" = none
  z_enumerate : mg "enumerate" = none
  z_int : mg "int" = none
  z_isinstance : mg "isinstance" = none
  z_len : mg "len" = none
  z_list : mg "list" = none
  z_max : mg "max" = none
  z_range : mg "range" = none
  z_reversed : mg "reversed" = none
  z_str : mg "str" = none
  z_tuple : mg "tuple" = none
structure IH {K : PySem.W.Frag} {mg : Str → Option Value} {tt : LT} (P : Program) (w : World) (base : Heap) (T : Txt K w mg tt) (n : Nat) : Prop where
  o0 : FnOk P w K mg base CX0 (4 * n) (T.f 0) (T.fd 0) P_0 (liftF ⟨K, w, tblOf tt⟩ (fs 0).np (sem fs n 0))
  o1 : FnOk P w K mg base CX0 (4 * n) (T.f 1) (T.fd 1) P_1 (liftF ⟨K, w, tblOf tt⟩ (fs 1).np (sem fs n 1))
  o2 : FnOk P w K mg base CX0 (4 * n) (T.f 2) (T.fd 2) P_2 (liftF ⟨K, w, tblOf tt⟩ (fs 2).np (sem fs n 2))
  o3 : FnOk P w K mg base CX0 (4 * n) (T.f 3) (T.fd 3) P_3 (liftF ⟨K, w, tblOf tt⟩ (fs 3).np (sem fs n 3))
  o4 : FnOk P w K mg base CX0 (4 * n) (T.f 4) (T.fd 4) P_4 (liftF ⟨K, w, tblOf tt⟩ (fs 4).np (sem fs n 4))
  o5 : FnOk P w K mg base CX0 (4 * n) (T.f 5) (T.fd 5) P_5 (liftF ⟨K, w, tblOf tt⟩ (fs 5).np (sem fs n 5))
  o6 : FnOk P w K mg base CX0 (4 * n) (T.f 6) (T.fd 6) P_6 (liftF ⟨K, w, tblOf tt⟩ (fs 6).np (sem fs n 6))
  o7 : FnOk P w K mg base CX0 (4 * n) (T.f 7) (T.fd 7) P_7 (liftF ⟨K, w, tblOf tt⟩ (fs 7).np (sem fs n 7))
  o8 : FnOk P w K mg base CX0 (4 * n) (T.f 8) (T.fd 8) P_8 (liftF ⟨K, w, tblOf tt⟩ (fs 8).np (sem fs n 8))
  o9 : FnOk P w K mg base CX0 (4 * n) (T.f 9) (T.fd 9) P_9 (liftF ⟨K, w, tblOf tt⟩ (fs 9).np (sem fs n 9))
  o10 : FnOk P w K mg base CX0 (4 * n) (T.f 10) (T.fd 10) P_10 (liftF ⟨K, w, tblOf tt⟩ (fs 10).np (sem fs n 10))
  o11 : FnOk P w K mg base CX0 (4 * n) (T.f 11) (T.fd 11) P_11 (liftF ⟨K, w, tblOf tt⟩ (fs 11).np (sem fs n 11))
  o12 : FnOk P w K mg base CX0 (4 * n) (T.f 12) (T.fd 12) P_12 (liftF ⟨K, w, tblOf tt⟩ (fs 12).np (sem fs n 12))
  o13 : FnOk P w K mg base CX0 (4 * n) (T.f 13) (T.fd 13) P_13 (liftF ⟨K, w, tblOf tt⟩ (fs 13).np (sem fs n 13))
  o14 : FnOk P w K mg base CX0 (4 * n) (T.f 14) (T.fd 14) P_14 (liftF ⟨K, w, tblOf tt⟩ (fs 14).np (sem fs n 14))
  o15 : FnOk P w K mg base CX0 (4 * n) (T.f 15) (T.fd 15) P_15 (liftF ⟨K, w, tblOf tt⟩ (fs 15).np (sem fs n 15))
  o16 : FnOk P w K mg base CX0 (4 * n) (T.f 16) (T.fd 16) P_16 (liftF ⟨K, w, tblOf tt⟩ (fs 16).np (sem fs n 16))
  o17 : FnOk P w K mg base CX0 (4 * n) (T.f 17) (T.fd 17) P_17 (liftF ⟨K, w, tblOf tt⟩ (fs 17).np (sem fs n 17))
  o18 : FnOk P w K mg base CX0 (4 * n) (T.f 18) (T.fd 18) P_18 (liftF ⟨K, w, tblOf tt⟩ (fs 18).np (sem fs n 18))
  o19 : FnOk P w K mg base CX0 (4 * n) (T.f 19) (T.fd 19) P_19 (liftF ⟨K, w, tblOf tt⟩ (fs 19).np (sem fs n 19))
  o20 : FnOk P w K mg base CX0 (4 * n) (T.f 20) (T.fd 20) P_20 (liftF ⟨K, w, tblOf tt⟩ (fs 20).np (sem fs n 20))
  o21 : FnOk P w K mg base CX0 (4 * n) (T.f 21) (T.fd 21) P_21 (liftF ⟨K, w, tblOf tt⟩ (fs 21).np (sem fs n 21))
  o22 : FnOk P w K mg base CX0 (4 * n) (T.f 22) (T.fd 22) P_22 (liftF ⟨K, w, tblOf tt⟩ (fs 22).np (sem fs n 22))
  o23 : FnOk P w K mg base CX0 (4 * n) (T.f 23) (T.fd 23) P_23 (liftF ⟨K, w, tblOf tt⟩ (fs 23).np (sem fs n 23))
  o24 : FnOk P w K mg base CX0 (4 * n) (T.f 24) (T.fd 24) P_24 (liftF ⟨K, w, tblOf tt⟩ (fs 24).np (sem fs n 24))
  o25 : FnOk P w K mg base CX0 (4 * n) (T.f 25) (T.fd 25) P_25 (liftF ⟨K, w, tblOf tt⟩ (fs 25).np (sem fs n 25))
  o26 : FnOk P w K mg base CX0 (4 * n) (T.f 26) (T.fd 26) P_26 (liftF ⟨K, w, tblOf tt⟩ (fs 26).np (sem fs n 26))
section
variable {P : Program} {w : World} {K : PySem.W.Frag} {mg : Str → Option Value} {tt : LT} {base : Heap} {n : Nat}
/- Family___init__ -/
theorem w_0 (T : Txt K w mg tt) (hB : ∀ t ∈ tt, LamX.TabB base mg t.2.1 t.2.2) (ih : IH P w base T n) (cdv : Value) (A : Around) (outer : List Env) (s : Shared) (H : Hp) (E : XK) (hr : Room (4 * n + 3) (A.deeper (envOfC "Family.__init__" (defScope s_0) s.heap.objs.size (T.f 0) cdv))) :
    PSs (cxOf CX0 P w K mg base N_0 "Family.__init__" (defScope s_0) (T.f 0) cdv A outer s H E).nox (defBody s_0) (liftS ⟨K, w, tblOf tt⟩ (b_0 (sem fs n))) :=
  (qss_cons (qs_setF T.k_Family rfl (qv 0) (qv 1))
  (qss_cons (qs_setF T.k_Family rfl (qv 0) (qe_op dop_mul (qe_lst (qa_cons qn qa_nil)) (qe_callB dcall_len rfl T.z_len (by decide +kernel) (qa_cons (qv 1) qa_nil))))
  (qss_cons (qs_setF T.k_Family rfl (qv 0) (qe_op dop_mul (qe_lst (qa_cons qn qa_nil)) (qe_callB dcall_len rfl T.z_len (by decide +kernel) (qa_cons (qv 1) qa_nil))))
  (qss_cons (qs_setF T.k_Family rfl (qv 0) (qe_op dop_mul (qe_lst (qa_cons qn qa_nil)) (qe_callB dcall_len rfl T.z_len (by decide +kernel) (qa_cons (qv 1) qa_nil))))
  (qss_cons (qs_setF T.k_Family rfl (qv 0) (qe_lc [("_", 2)] rfl sc_0.nd (qi_seq (qv 1)) (okb (by kernel_rfl)) (by decide) (fun _ _ _ _ _ => (qg_name (i := 2) sc_0.nd rfl (by first | exact Or.inl rfl | exact Or.inr rfl))) (fun _ _ _ _ _ => qts_nil) (fun _ _ _ _ _ => (qe_lst qa_nil))))
  (qss_one (qs_for PassesOwn.never rfl (qi_enum rfl T.z_enumerate (qa_cons (qv 1) qa_nil)) (qg_tup rfl (qgs_cons (qg_name (i := 3) sc_0.nd rfl (by first | exact Or.inl rfl | exact Or.inr rfl)) (qgs_cons (qg_tup rfl (qgs_cons (qg_name (i := 4) sc_0.nd rfl (by first | exact Or.inl rfl | exact Or.inr rfl)) (qgs_cons (qg_name (i := 5) sc_0.nd rfl (by first | exact Or.inl rfl | exact Or.inr rfl)) qgs_nil))) qgs_nil))) (qss_one (qs_if (qt_cmp dop_isnot (qv 4) qn (nomark _)) (qss_one (qs_expr (qe_bm PySem.F.plainAttrs_list PySem.F.slot_list_append PySem.F.type_list_append okLst_ty dmt_append (qe_ix (hu100 hr) (qe_fld T.k_Family rfl (qv 0)) (qv 4) (fun _ _ => rfl)) (qa_cons (qv 3) qa_nil)))) qss_nil)))))))))
/- Family_all_below -/
theorem w_1 (T : Txt K w mg tt) (hB : ∀ t ∈ tt, LamX.TabB base mg t.2.1 t.2.2) (ih : IH P w base T n) (cdv : Value) (A : Around) (outer : List Env) (s : Shared) (H : Hp) (E : XK) (hr : Room (4 * n + 3) (A.deeper (envOfC "Family.all_below" (defScope s_1) s.heap.objs.size (T.f 1) cdv))) :
    PSs (cxOf CX0 P w K mg base N_1 "Family.all_below" (defScope s_1) (T.f 1) cdv A outer s H E).nox (defBody s_1) (liftS ⟨K, w, tblOf tt⟩ (b_1 (sem fs n))) :=
  (qss_cons (qs_set (i := 2) sc_1.nd rfl (by first | exact Or.inl rfl | exact Or.inr rfl) (qe_lst qa_nil))
  (qss_cons (qs_set (i := 3) sc_1.nd rfl (by first | exact Or.inl rfl | exact Or.inr rfl) (qe_callTy (dcall_list rfl) rfl T.z_list (by decide +kernel) (qa_cons (qe_ix (hu100 hr) (qe_fld T.k_Family rfl (qv 0)) (qv 1) (fun _ _ => rfl)) qa_nil)))
  (qss_cons (qs_while PassesOwn.never (qt_cmp (dop_cmp (hu100 hr) .gt) (qe_callB dcall_len rfl T.z_len (by decide +kernel) (qa_cons (qv 3) qa_nil)) qi (nomark _)) (qss_cons (qs_set (i := 4) sc_1.nd rfl (by first | exact Or.inl rfl | exact Or.inr rfl) (qe_bm0 PySem.F.plainAttrs_list PySem.F.slot_list_pop PySem.F.type_list_pop okLst_ty dmt_pop (qv 3)))
    (qss_cons (qs_expr (qe_bm PySem.F.plainAttrs_list PySem.F.slot_list_append PySem.F.type_list_append okLst_ty dmt_append (qv 2) (qa_cons (qv 4) qa_nil)))
    (qss_one (qs_expr (qe_bm PySem.F.plainAttrs_list PySem.F.slot_list_extend PySem.F.type_list_extend okLst_ty dmt_extend (qv 3) (qa_cons (qe_ix (hu100 hr) (qe_fld T.k_Family rfl (qv 0)) (qv 4) (fun _ _ => rfl)) qa_nil)))))))
  (qss_one (qs_ret (qv 2))))))
/- Family_cancel_own -/
theorem w_2 (T : Txt K w mg tt) (hB : ∀ t ∈ tt, LamX.TabB base mg t.2.1 t.2.2) (ih : IH P w base T n) (cdv : Value) (A : Around) (outer : List Env) (s : Shared) (H : Hp) (E : XK) (hr : Room (4 * n + 3) (A.deeper (envOfC "Family.cancel_own" (defScope s_2) s.heap.objs.size (T.f 2) cdv))) :
    PSs (cxOf CX0 P w K mg base N_2 "Family.cancel_own" (defScope s_2) (T.f 2) cdv A outer s H E).nox (defBody s_2) (liftS ⟨K, w, tblOf tt⟩ (b_2 (sem fs n))) :=
  (qss_one (qs_for PassesOwn.never rfl (qi_seq (qv 1)) (qg_name (i := 2) sc_2.nd rfl (by first | exact Or.inl rfl | exact Or.inr rfl)) (qss_one (qs_if (qt_cmp dop_is (qe_ix (hu100 hr) (qe_fld T.k_Family rfl (qv 0)) (qv 2) (fun _ _ => rfl)) qn (nomark _)) (qss_one (qs_asg qs (qg_sub (qe_fld T.k_Family rfl (qv 0)) (qv 2) (dset_ix (hu100 hr))))) qss_nil))))
/- Family_happen -/
theorem w_3 (T : Txt K w mg tt) (hB : ∀ t ∈ tt, LamX.TabB base mg t.2.1 t.2.2) (ih : IH P w base T n) (cdv : Value) (A : Around) (outer : List Env) (s : Shared) (H : Hp) (E : XK) (hr : Room (4 * n + 3) (A.deeper (envOfC "Family.happen" (defScope s_3) s.heap.objs.size (T.f 3) cdv))) :
    PSs (cxOf CX0 P w K mg base N_3 "Family.happen" (defScope s_3) (T.f 3) cdv A outer s H E).nox (defBody s_3) (liftS ⟨K, w, tblOf tt⟩ (b_3 (sem fs n))) :=
  (qss_cons (qs_set (i := 2) sc_3.nd rfl (by first | exact Or.inl rfl | exact Or.inr rfl) (qe_ix (hu100 hr) (qv 1) qi (fun _ _ => rfl)))
  (qss_cons (qs_if (qt_cmp (dop_eq (hu100 hr)) (qe_ix (hu100 hr) (qv 1) qi (fun _ _ => rfl)) qs (nomark _)) (qss_one (qs_expr (qe_meth T.k_Family T.me2 (by unfold nm_Family; decide +kernel) (sem_len (i := 2)) ih.o2 (rm4 hr) T.b2 (qv 0) (qa_cons (qe_op dop_add (qe_lst (qa_cons (qv 2) qa_nil)) (qe_meth T.k_Family T.me1 (by unfold nm_Family; decide +kernel) (sem_len (i := 1)) ih.o1 (rm4 hr) T.b1 (qv 0) (qa_cons (qv 2) qa_nil))) qa_nil)))) (qss_one (qs_if (qt_cmp dop_is (qe_ix (hu100 hr) (qe_fld T.k_Family rfl (qv 0)) (qv 2) (fun _ _ => rfl)) qn (nomark _)) (qss_one (qs_if (qt_cmp (dop_eq (hu100 hr)) (qe_ix (hu100 hr) (qv 1) qi (fun _ _ => rfl)) qs (nomark _)) (qss_one (qs_asg qs (qg_sub (qe_fld T.k_Family rfl (qv 0)) (qv 2) (dset_ix (hu100 hr))))) (qss_cons (qs_asg (qe_tup (qa_cons qs (qa_cons (qe_ix (hu100 hr) (qv 1) qi (fun _ _ => rfl)) qa_nil))) (qg_sub (qe_fld T.k_Family rfl (qv 0)) (qv 2) (dset_ix (hu100 hr))))
        (qss_one (qs_expr (qe_meth T.k_Family T.me2 (by unfold nm_Family; decide +kernel) (sem_len (i := 2)) ih.o2 (rm4 hr) T.b2 (qv 0) (qa_cons (qe_meth T.k_Family T.me1 (by unfold nm_Family; decide +kernel) (sem_len (i := 1)) ih.o1 (rm4 hr) T.b1 (qv 0) (qa_cons (qv 2) qa_nil)) qa_nil))))))) qss_nil)))
  (qss_one (qs_while PassesOwn.never (qt_val (qe_meth0 T.k_Family T.me4 (by unfold nm_Family; decide +kernel) (sem_len (i := 4)) ih.o4 (rm4 hr) T.b4 (qv 0))) (qss_one qs_pass)))))
/- Family_end_more -/
theorem w_4 (T : Txt K w mg tt) (hB : ∀ t ∈ tt, LamX.TabB base mg t.2.1 t.2.2) (ih : IH P w base T n) (cdv : Value) (A : Around) (outer : List Env) (s : Shared) (H : Hp) (E : XK) (hr : Room (4 * n + 3) (A.deeper (envOfC "Family.end_more" (defScope s_4) s.heap.objs.size (T.f 4) cdv))) :
    PSs (cxOf CX0 P w K mg base N_4 "Family.end_more" (defScope s_4) (T.f 4) cdv A outer s H E).nox (defBody s_4) (liftS ⟨K, w, tblOf tt⟩ (b_4 (sem fs n))) :=
  (qss_cons (qs_set (i := 1) sc_4.nd rfl (by first | exact Or.inl rfl | exact Or.inr rfl) qb)
  (qss_cons (qs_for PassesOwn.never rfl (qi_revR rfl T.z_reversed (qr_1 rfl T.z_range (qe_callB dcall_len rfl T.z_len (by decide +kernel) (qa_cons (qe_fld T.k_Family rfl (qv 0)) qa_nil)))) (qg_name (i := 2) sc_4.nd rfl (by first | exact Or.inl rfl | exact Or.inr rfl)) (qss_one (qs_if (qt_w (qw_and (qt_cmp dop_is (qe_ix (hu100 hr) (qe_fld T.k_Family rfl (qv 0)) (qv 2) (fun _ _ => rfl)) qn (nomark _)) (qw_and1 (qt_val (qe_meth T.k_Family T.me5 (by unfold nm_Family; decide +kernel) (sem_len (i := 5)) ih.o5 (rm4 hr) T.b5 (qv 0) (qa_cons (qv 2) qa_nil)))))) (qss_cons (qs_asg (qe_meth T.k_Family T.me6 (by unfold nm_Family; decide +kernel) (sem_len (i := 6)) ih.o6 (rm4 hr) T.b6 (qv 0) (qa_cons (qv 2) qa_nil)) (qg_sub (qe_fld T.k_Family rfl (qv 0)) (qv 2) (dset_ix (hu100 hr))))
      (qss_cons (qs_expr (qe_meth T.k_Family T.me7 (by unfold nm_Family; decide +kernel) (sem_len (i := 7)) ih.o7 (rm4 hr) T.b7 (qv 0) (qa_cons (qv 2) qa_nil)))
      (qss_one (qs_set (i := 1) sc_4.nd rfl (by first | exact Or.inl rfl | exact Or.inr rfl) qb)))) qss_nil)))
  (qss_one (qs_ret (qv 1)))))
/- Family_can_end -/
theorem w_5 (T : Txt K w mg tt) (hB : ∀ t ∈ tt, LamX.TabB base mg t.2.1 t.2.2) (ih : IH P w base T n) (cdv : Value) (A : Around) (outer : List Env) (s : Shared) (H : Hp) (E : XK) (hr : Room (4 * n + 3) (A.deeper (envOfC "Family.can_end" (defScope s_5) s.heap.objs.size (T.f 5) cdv))) :
    PSs (cxOf CX0 P w K mg base N_5 "Family.can_end" (defScope s_5) (T.f 5) cdv A outer s H E).nox (defBody s_5) (liftS ⟨K, w, tblOf tt⟩ (b_5 (sem fs n))) :=
  (qss_cons (qs_if (qt_cmp dop_is (qe_ix (hu100 hr) (qe_fld T.k_Family rfl (qv 0)) (qv 1) (fun _ _ => rfl)) qn (nomark _)) (qss_one (qs_ret qb)) qss_nil)
  (qss_one (qs_ret (qe_callB (dcall_all rfl) rfl T.z_all (by decide +kernel) (qa_cons (qe_lc [("lower", 2)] rfl sc_5.nd (qi_seq (qe_ix (hu100 hr) (qe_fld T.k_Family rfl (qv 0)) (qv 1) (fun _ _ => rfl))) (okb (by kernel_rfl)) (by decide) (fun _ _ _ _ _ => (qg_name (i := 2) sc_5.nd rfl (by first | exact Or.inl rfl | exact Or.inr rfl))) (fun _ _ _ _ _ => qts_nil) (fun _ _ _ _ _ => (qe_cmp dop_isnot (qe_ix (hu100 hr) (qe_fld T.k_Family rfl (qv 0)) (qv 2) (fun _ _ => rfl)) qn (nomark _)))) qa_nil)))))
/- Family_ending -/
theorem w_6 (T : Txt K w mg tt) (hB : ∀ t ∈ tt, LamX.TabB base mg t.2.1 t.2.2) (ih : IH P w base T n) (cdv : Value) (A : Around) (outer : List Env) (s : Shared) (H : Hp) (E : XK) (hr : Room (4 * n + 3) (A.deeper (envOfC "Family.ending" (defScope s_6) s.heap.objs.size (T.f 6) cdv))) :
    PSs (cxOf CX0 P w K mg base N_6 "Family.ending" (defScope s_6) (T.f 6) cdv A outer s H E).nox (defBody s_6) (liftS ⟨K, w, tblOf tt⟩ (b_6 (sem fs n))) :=
  (qss_cons (qs_if (qt_val (qe_callB dcall_isi rfl T.z_isinstance (by decide +kernel) (qa_cons (qe_ix (hu100 hr) (qe_fld T.k_Family rfl (qv 0)) (qv 1) (fun _ _ => rfl)) (qa_cons (qe_ty rfl T.z_tuple (by decide +kernel)) qa_nil)))) (qss_one (qs_ret (qe_ix (hu100 hr) (qe_fld T.k_Family rfl (qv 0)) (qv 1) (fun _ _ => rfl)))) qss_nil)
  (qss_cons (qs_if (qt_w (qw_and (qt_cmp (dop_eq (hu100 hr)) (qe_ix (hu100 hr) (qe_ix (hu100 hr) (qe_fld T.k_Family rfl (qv 0)) (qv 1) (fun _ _ => rfl)) qi (fun _ _ => rfl)) qs (nomark _)) (qw_and1 (qt_cmp dop_isnot (qe_ix (hu100 hr) (qe_fld T.k_Family rfl (qv 0)) (qv 1) (fun _ _ => rfl)) qn (nomark _))))) (qss_one (qs_ret (qe_tup (qa_cons qs (qa_cons (qe_ix (hu100 hr) (qe_fld T.k_Family rfl (qv 0)) (qv 1) (fun _ _ => rfl)) qa_nil))))) qss_nil)
  (qss_one (qs_ret (qe_ix (hu100 hr) (qe_fld T.k_Family rfl (qv 0)) (qv 1) (fun _ _ => rfl))))))
/- Family_hurt_parent -/
theorem w_7 (T : Txt K w mg tt) (hB : ∀ t ∈ tt, LamX.TabB base mg t.2.1 t.2.2) (ih : IH P w base T n) (cdv : Value) (A : Around) (outer : List Env) (s : Shared) (H : Hp) (E : XK) (hr : Room (4 * n + 3) (A.deeper (envOfC "Family.hurt_parent" (defScope s_7) s.heap.objs.size (T.f 7) cdv))) :
    PSs (cxOf CX0 P w K mg base N_7 "Family.hurt_parent" (defScope s_7) (T.f 7) cdv A outer s H E).nox (defBody s_7) (liftS ⟨K, w, tblOf tt⟩ (b_7 (sem fs n))) :=
  (qss_cons (qs_set (i := 2) sc_7.nd rfl (by first | exact Or.inl rfl | exact Or.inr rfl) (qe_ix (hu100 hr) (qe_ix (hu100 hr) (qe_fld T.k_Family rfl (qv 0)) (qv 1) (fun _ _ => rfl)) qi (fun _ _ => rfl)))
  (qss_cons (qs_if (qt_w (qw_or (qt_cmp dop_is (qv 2) qn (nomark _)) (qw_or1 (qt_not (qt_val (qe_callB dcall_isi rfl T.z_isinstance (by decide +kernel) (qa_cons (qe_ix (hu100 hr) (qe_fld T.k_Family rfl (qv 0)) (qv 1) (fun _ _ => rfl)) (qa_cons (qe_ty rfl T.z_tuple (by decide +kernel)) qa_nil)))))))) (qss_one qs_retN) qss_nil)
  (qss_cons (qs_if (qt_cmp dop_is (qe_ix (hu100 hr) (qe_fld T.k_Family rfl (qv 0)) (qv 2) (fun _ _ => rfl)) qn (nomark _)) (qss_one (qs_asg (qe_ix (hu100 hr) (qe_ix (hu100 hr) (qe_fld T.k_Family rfl (qv 0)) (qv 1) (fun _ _ => rfl)) qi (fun _ _ => rfl)) (qg_sub (qe_fld T.k_Family rfl (qv 0)) (qv 2) (dset_ix (hu100 hr))))) qss_nil)
  (qss_one (qs_if (qt_cmp (dop_eq (hu100 hr)) (qe_ix (hu100 hr) (qe_ix (hu100 hr) (qe_fld T.k_Family rfl (qv 0)) (qv 2) (fun _ _ => rfl)) qi (fun _ _ => rfl)) qs (nomark _)) (qss_one (qs_expr (qe_meth T.k_Family T.me2 (by unfold nm_Family; decide +kernel) (sem_len (i := 2)) ih.o2 (rm4 hr) T.b2 (qv 0) (qa_cons (qe_op dop_add (qe_lst (qa_cons (qv 2) qa_nil)) (qe_meth T.k_Family T.me1 (by unfold nm_Family; decide +kernel) (sem_len (i := 1)) ih.o1 (rm4 hr) T.b1 (qv 0) (qa_cons (qv 2) qa_nil))) qa_nil)))) qss_nil)))))
/- scopes_behind -/
theorem w_8 (T : Txt K w mg tt) (hB : ∀ t ∈ tt, LamX.TabB base mg t.2.1 t.2.2) (ih : IH P w base T n) (cdv : Value) (A : Around) (outer : List Env) (s : Shared) (H : Hp) (E : XK) (hr : Room (4 * n + 3) (A.deeper (envOfC "scopes_behind" (defScope s_8) s.heap.objs.size (T.f 8) cdv))) :
    PSs (cxOf CX0 P w K mg base N_8 "scopes_behind" (defScope s_8) (T.f 8) cdv A outer s H E).nox (defBody s_8) (liftS ⟨K, w, tblOf tt⟩ (b_8 (sem fs n))) :=
  (qss_cons (qs_set (i := 2) sc_8.nd rfl (by first | exact Or.inl rfl | exact Or.inr rfl) (qe_make T.k_Family T.mk_Family (sem_len (i := 0)) ih.o0 (rm5 hr) rfl T.mc_Family T.b0 (qa_cons (qv 0) qa_nil)))
  (qss_cons (qs_for PassesOwn.never rfl (qi_seq (qv 1)) (qg_name (i := 3) sc_8.nd rfl (by first | exact Or.inl rfl | exact Or.inr rfl)) (qss_one (qs_expr (qe_meth T.k_Family T.me3 (by unfold nm_Family; decide +kernel) (sem_len (i := 3)) ih.o3 (rm4 hr) T.b3 (qv 2) (qa_cons (qv 3) qa_nil)))))
  (qss_one (qs_ret (qe_callTy dcall_tuple rfl T.z_tuple (by decide +kernel) (qa_cons (qe_lc [("end", 4)] rfl sc_8.nd (qi_seq (qe_fld T.k_Family rfl (qv 2))) (okb (by kernel_rfl)) (by decide) (fun _ _ _ _ _ => (qg_name (i := 4) sc_8.nd rfl (by first | exact Or.inl rfl | exact Or.inr rfl))) (fun _ _ _ _ _ => qts_nil) (fun _ _ _ _ _ => (qe_if (qt_cmp dop_is (qv 4) qn (nomark _)) qs (qv 4)))) qa_nil))))))
/- _law_draws -/
theorem w_9 (T : Txt K w mg tt) (hB : ∀ t ∈ tt, LamX.TabB base mg t.2.1 t.2.2) (ih : IH P w base T n) (cdv : Value) (A : Around) (outer : List Env) (s : Shared) (H : Hp) (E : XK) (hr : Room (4 * n + 3) (A.deeper (envOfC "_law_draws" (defScope s_9) s.heap.objs.size (T.f 9) cdv))) :
    PSs (cxOf CX0 P w K mg base N_9 "_law_draws" (defScope s_9) (T.f 9) cdv A outer s H E).nox (defBody s_9) (liftS ⟨K, w, tblOf tt⟩ (b_9 (sem fs n))) :=
  (qss_cons (qs_setLc (i := 2) [("cell", 3)] rfl sc_9.nd rfl rfl (sw_true rfl rfl rfl (by decide +kernel)) (qi_seq (qe_slice (qv 0) qo_none (qo_some qi))) (okb (by kernel_rfl)) (by decide) (fun _ _ _ _ _ => (qg_name (i := 3) sc_9.nd rfl (by first | exact Or.inl rfl | exact Or.inr rfl))) (fun _ _ _ _ _ => qts_nil) (fun _ _ _ _ _ => (qe_op dop_mod (qe_callTy dcall_int rfl T.z_int (by decide +kernel) (qa_cons (qv 3) qa_nil)) (qe_op dop_shl qi qi))))
  (qss_cons (qs_if (qt_cmp (dop_eq (hu100 hr)) (qe_callB dcall_len rfl T.z_len (by decide +kernel) (qa_cons (qv 2) qa_nil)) qi (nomark _)) (qss_one (qs_expr (qe_bm PySem.F.plainAttrs_list PySem.F.slot_list_append PySem.F.type_list_append okLst_ty dmt_append (qv 2) (qa_cons qi qa_nil)))) qss_nil)
  (qss_cons (qs_set (i := 4) sc_9.nd rfl (by first | exact Or.inl rfl | exact Or.inr rfl) (qe_callTy (dcall_list rfl) rfl T.z_list (by decide +kernel) (qa_cons (qv 2) qa_nil)))
  (qss_cons (qs_set (i := 5) sc_9.nd rfl (by first | exact Or.inl rfl | exact Or.inr rfl) (qe_lst qa_nil))
  (qss_cons (qs_for PassesOwn.never rfl (qi_range1 rfl T.z_range (qa_cons (qv 1) qa_nil)) (qg_name (i := 6) sc_9.nd rfl (by first | exact Or.inl rfl | exact Or.inr rfl)) (qss_cons (qs_set (i := 7) sc_9.nd rfl (by first | exact Or.inl rfl | exact Or.inr rfl) (qe_op dop_mod (qe_callTy dcall_int rfl T.z_int (by decide +kernel) (qa_cons (qv 6) qa_nil)) (qe_callB dcall_len rfl T.z_len (by decide +kernel) (qa_cons (qv 2) qa_nil))))
    (qss_one (qs_if (qt_w (qw_and (qt_cmp (dop_cmp (hu100 hr) .ge) (qe_ix (hu100 hr) (qv 2) (qv 7) (fun _ _ => rfl)) (qe_op dop_pow qi qi) (nomark _)) (qw_and1 (qt_cmp (dop_cmp (hu100 hr) .gt) (qe_ix (hu100 hr) (qv 4) (qv 7) (fun _ _ => rfl)) qi (nomark _))))) (qss_cons (qs_expr (qe_bm PySem.F.plainAttrs_list PySem.F.slot_list_append PySem.F.type_list_append okLst_ty dmt_append (qv 5) (qa_cons (qe_op dop_mod (qe_callTy dcall_int rfl T.z_int (by decide +kernel) (qa_cons (qe_ix (hu100 hr) (qv 4) (qv 7) (fun _ _ => rfl)) qa_nil)) qi) qa_nil)))
      (qss_one (qs_asg (qe_op dop_fdv (qe_ix (hu100 hr) (qv 4) (qv 7) (fun _ _ => rfl)) qi) (qg_sub (qv 4) (qv 7) (dset_ix (hu100 hr)))))) (qss_cons (qs_set (i := 8) sc_9.nd rfl (by first | exact Or.inl rfl | exact Or.inr rfl) (qe_op dop_mod (qe_callTy dcall_int rfl T.z_int (by decide +kernel) (qa_cons (qe_op dop_add (qe_op dop_add (qe_op dop_mul (qe_ix (hu100 hr) (qv 2) (qv 7) (fun _ _ => rfl)) qi) (qe_op dop_mul (qv 6) qi)) qi) qa_nil)) qi))
      (qss_one (qs_expr (qe_bm PySem.F.plainAttrs_list PySem.F.slot_list_append PySem.F.type_list_append okLst_ty dmt_append (qv 5) (qa_cons (qe_op dop_mod (qe_callTy dcall_int rfl T.z_int (by decide +kernel) (qa_cons (qe_op dop_add (qe_op dop_add (qe_op dop_mul (qv 8) (qv 8)) (qe_op dop_mul qi (qv 8))) (qv 6)) qa_nil)) qi) qa_nil)))))))))
  (qss_cons (qs_expr (qe_bm0 PySem.F.plainAttrs_list PySem.F.slot_list_reverse PySem.F.type_list_reverse okLst_ty dmt_reverse (qv 5)))
  (qss_one (qs_ret (qv 5)))))))))
/- _law_take -/
theorem w_10 (T : Txt K w mg tt) (hB : ∀ t ∈ tt, LamX.TabB base mg t.2.1 t.2.2) (ih : IH P w base T n) (cdv : Value) (A : Around) (outer : List Env) (s : Shared) (H : Hp) (E : XK) (hr : Room (4 * n + 3) (A.deeper (envOfC "_law_take" (defScope s_10) s.heap.objs.size (T.f 10) cdv))) :
    PSs (cxOf CX0 P w K mg base N_10 "_law_take" (defScope s_10) (T.f 10) cdv A outer s H E).nox (defBody s_10) (liftS ⟨K, w, tblOf tt⟩ (b_10 (sem fs n))) :=
  (qss_cons (qs_if (qt_cmp (dop_eq (hu100 hr)) (qe_callB dcall_len rfl T.z_len (by decide +kernel) (qa_cons (qv 0) qa_nil)) qi (nomark _)) (qss_one (qs_ret qi)) qss_nil)
  (qss_one (qs_ret (qe_op dop_mod (qe_callTy dcall_int rfl T.z_int (by decide +kernel) (qa_cons (qe_bm0 PySem.F.plainAttrs_list PySem.F.slot_list_pop PySem.F.type_list_pop okLst_ty dmt_pop (qv 0)) qa_nil)) (qv 1)))))
/- _law_pick -/
theorem w_11 (T : Txt K w mg tt) (hB : ∀ t ∈ tt, LamX.TabB base mg t.2.1 t.2.2) (ih : IH P w base T n) (cdv : Value) (A : Around) (outer : List Env) (s : Shared) (H : Hp) (E : XK) (hr : Room (4 * n + 3) (A.deeper (envOfC "_law_pick" (defScope s_11) s.heap.objs.size (T.f 11) cdv))) :
    PSs (cxOf CX0 P w K mg base N_11 "_law_pick" (defScope s_11) (T.f 11) cdv A outer s H E).nox (defBody s_11) (liftS ⟨K, w, tblOf tt⟩ (b_11 (sem fs n))) :=
  (qss_one (qs_ret (qe_ix (hu100 hr) (qv 1) (qe_call (sem_len (i := 10)) ih.o10 (rm4 hr) rfl T.m10 T.F10.kp T.b10 (qa_cons (qv 0) (qa_cons (qe_callB dcall_len rfl T.z_len (by decide +kernel) (qa_cons (qv 1) qa_nil)) qa_nil))) (fun _ _ => rfl))))
/- _law_same -/
theorem w_12 (T : Txt K w mg tt) (hB : ∀ t ∈ tt, LamX.TabB base mg t.2.1 t.2.2) (ih : IH P w base T n) (cdv : Value) (A : Around) (outer : List Env) (s : Shared) (H : Hp) (E : XK) (hr : Room (4 * n + 3) (A.deeper (envOfC "_law_same" (defScope s_12) s.heap.objs.size (T.f 12) cdv))) :
    PSs (cxOf CX0 P w K mg base N_12 "_law_same" (defScope s_12) (T.f 12) cdv A outer s H E).nox (defBody s_12) (liftS ⟨K, w, tblOf tt⟩ (b_12 (sem fs n))) :=
  (qss_cons (qs_if (qt_val (qe_callB dcall_isi rfl T.z_isinstance (by decide +kernel) (qa_cons (qv 1) (qa_cons (qe_tup (qa_cons (qe_ty rfl T.z_tuple (by decide +kernel)) (qa_cons (qe_ty rfl T.z_list (by decide +kernel)) qa_nil))) qa_nil)))) (qss_cons (qs_if (qt_w (qw_or (qt_cmp (dop_ne (hu100 hr)) (qe_callB dcall_isi rfl T.z_isinstance (by decide +kernel) (qa_cons (qv 0) (qa_cons (qe_ty rfl T.z_tuple (by decide +kernel)) qa_nil))) (qe_callB dcall_isi rfl T.z_isinstance (by decide +kernel) (qa_cons (qv 1) (qa_cons (qe_ty rfl T.z_tuple (by decide +kernel)) qa_nil))) (nomark _)) (qw_or1 (qt_cmp (dop_ne (hu100 hr)) (qe_callB dcall_isi rfl T.z_isinstance (by decide +kernel) (qa_cons (qv 0) (qa_cons (qe_ty rfl T.z_list (by decide +kernel)) qa_nil))) (qe_callB dcall_isi rfl T.z_isinstance (by decide +kernel) (qa_cons (qv 1) (qa_cons (qe_ty rfl T.z_list (by decide +kernel)) qa_nil))) (nomark _))))) (qss_one (qs_ret qb)) qss_nil)
    (qss_cons (qs_if (qt_cmp (dop_ne (hu100 hr)) (qe_callB dcall_len rfl T.z_len (by decide +kernel) (qa_cons (qv 0) qa_nil)) (qe_callB dcall_len rfl T.z_len (by decide +kernel) (qa_cons (qv 1) qa_nil)) (nomark _)) (qss_one (qs_ret qb)) qss_nil)
    (qss_one (qs_ret (qe_cmp (dop_notin (hu100 hr)) qb (qe_lc [("k", 2)] rfl sc_12.nd (qi_range1 rfl T.z_range (qa_cons (qe_callB dcall_len rfl T.z_len (by decide +kernel) (qa_cons (qv 1) qa_nil)) qa_nil)) (okb (by kernel_rfl)) (by decide) (fun _ _ _ _ _ => (qg_name (i := 2) sc_12.nd rfl (by first | exact Or.inl rfl | exact Or.inr rfl))) (fun _ _ _ _ _ => qts_nil) (fun _ _ _ _ _ => (qe_call (sem_len (i := 12)) ih.o12 (rm4 hr) rfl T.m12 T.F12.kp T.b12 (qa_cons (qe_ix (hu100 hr) (qv 0) (qv 2) (fun _ _ => rfl)) (qa_cons (qe_ix (hu100 hr) (qv 1) (qv 2) (fun _ _ => rfl)) qa_nil))))) (by with_unfolding_all rfl)))))) qss_nil)
  (qss_cons (qs_if (qt_w (qw_or (qt_cmp (dop_ne (hu100 hr)) (qe_callB dcall_isi rfl T.z_isinstance (by decide +kernel) (qa_cons (qv 0) (qa_cons (qe_ty rfl T.z_bool (by decide +kernel)) qa_nil))) (qe_callB dcall_isi rfl T.z_isinstance (by decide +kernel) (qa_cons (qv 1) (qa_cons (qe_ty rfl T.z_bool (by decide +kernel)) qa_nil))) (nomark _)) (qw_or1 (qt_cmp (dop_ne (hu100 hr)) (qe_callB dcall_isi rfl T.z_isinstance (by decide +kernel) (qa_cons (qv 0) (qa_cons (qe_ty rfl T.z_int (by decide +kernel)) qa_nil))) (qe_callB dcall_isi rfl T.z_isinstance (by decide +kernel) (qa_cons (qv 1) (qa_cons (qe_ty rfl T.z_int (by decide +kernel)) qa_nil))) (nomark _))))) (qss_one (qs_ret qb)) qss_nil)
  (qss_cons (qs_if (qt_w (qw_or (qt_cmp (dop_ne (hu100 hr)) (qe_callB dcall_isi rfl T.z_isinstance (by decide +kernel) (qa_cons (qv 0) (qa_cons (qe_ty rfl T.z_str (by decide +kernel)) qa_nil))) (qe_callB dcall_isi rfl T.z_isinstance (by decide +kernel) (qa_cons (qv 1) (qa_cons (qe_ty rfl T.z_str (by decide +kernel)) qa_nil))) (nomark _)) (qw_or1 (qt_cmp (dop_ne (hu100 hr)) (qe_cmp dop_is (qv 0) qn (nomark _)) (qe_cmp dop_is (qv 1) qn (nomark _)) (nomark _))))) (qss_one (qs_ret qb)) qss_nil)
  (qss_one (qs_ret (qe_cmp (dop_eq (hu100 hr)) (qv 0) (qv 1) (nomark _)))))))
/- _law_shuffled -/
theorem w_13 (T : Txt K w mg tt) (hB : ∀ t ∈ tt, LamX.TabB base mg t.2.1 t.2.2) (ih : IH P w base T n) (cdv : Value) (A : Around) (outer : List Env) (s : Shared) (H : Hp) (E : XK) (hr : Room (4 * n + 3) (A.deeper (envOfC "_law_shuffled" (defScope s_13) s.heap.objs.size (T.f 13) cdv))) :
    PSs (cxOf CX0 P w K mg base N_13 "_law_shuffled" (defScope s_13) (T.f 13) cdv A outer s H E).nox (defBody s_13) (liftS ⟨K, w, tblOf tt⟩ (b_13 (sem fs n))) :=
  (qss_cons (qs_set (i := 2) sc_13.nd rfl (by first | exact Or.inl rfl | exact Or.inr rfl) (qe_callTy (dcall_list rfl) rfl T.z_list (by decide +kernel) (qa_cons (qv 1) qa_nil)))
  (qss_cons (qs_set (i := 3) sc_13.nd rfl (by first | exact Or.inl rfl | exact Or.inr rfl) (qe_lst qa_nil))
  (qss_cons (qs_for PassesOwn.never rfl (qi_range1 rfl T.z_range (qa_cons (qe_callB dcall_len rfl T.z_len (by decide +kernel) (qa_cons (qv 2) qa_nil)) qa_nil)) (qg_name (i := 4) sc_13.nd rfl (by first | exact Or.inl rfl | exact Or.inr rfl)) (qss_one (qs_expr (qe_bm PySem.F.plainAttrs_list PySem.F.slot_list_append PySem.F.type_list_append okLst_ty dmt_append (qv 3) (qa_cons (qe_bm PySem.F.plainAttrs_list PySem.F.slot_list_pop PySem.F.type_list_pop okLst_ty dmt_popAt (qv 2) (qa_cons (qe_call (sem_len (i := 10)) ih.o10 (rm4 hr) rfl T.m10 T.F10.kp T.b10 (qa_cons (qv 0) (qa_cons (qe_callB dcall_len rfl T.z_len (by decide +kernel) (qa_cons (qv 2) qa_nil)) qa_nil))) qa_nil)) qa_nil)))))
  (qss_one (qs_ret (qv 3))))))
/- _law_word -/
theorem w_14 (T : Txt K w mg tt) (hB : ∀ t ∈ tt, LamX.TabB base mg t.2.1 t.2.2) (ih : IH P w base T n) (cdv : Value) (A : Around) (outer : List Env) (s : Shared) (H : Hp) (E : XK) (hr : Room (4 * n + 3) (A.deeper (envOfC "_law_word" (defScope s_14) s.heap.objs.size (T.f 14) cdv))) :
    PSs (cxOf CX0 P w K mg base N_14 "_law_word" (defScope s_14) (T.f 14) cdv A outer s H E).nox (defBody s_14) (liftS ⟨K, w, tblOf tt⟩ (b_14 (sem fs n))) :=
  (qss_cons (qs_set (i := 1) sc_14.nd rfl (by first | exact Or.inl rfl | exact Or.inr rfl) (qe_op dop_add qi (qe_call (sem_len (i := 10)) ih.o10 (rm4 hr) rfl T.m10 T.F10.kp T.b10 (qa_cons (qv 0) (qa_cons qi qa_nil)))))
  (qss_cons (qs_if (qt_cmp (dop_eq (hu100 hr)) (qe_call (sem_len (i := 10)) ih.o10 (rm4 hr) rfl T.m10 T.F10.kp T.b10 (qa_cons (qv 0) (qa_cons qi qa_nil))) qi (nomark _)) (qss_one (qs_set (i := 1) sc_14.nd rfl (by first | exact Or.inl rfl | exact Or.inr rfl) (qe_op dop_add (qe_op dop_add (qv 1) qi) (qe_call (sem_len (i := 10)) ih.o10 (rm4 hr) rfl T.m10 T.F10.kp T.b10 (qa_cons (qv 0) (qa_cons qi qa_nil)))))) qss_nil)
  (qss_one (qs_ret (qe_bm PySem.F.plainAttrs_str PySem.F.slot_str_join PySem.F.type_str_join okStr_ty dmt_join qs (qa_cons (qe_lc [("j", 2)] rfl sc_14.nd (qi_range1 rfl T.z_range (qa_cons (qv 1) qa_nil)) (okb (by kernel_rfl)) (by decide) (fun _ _ _ _ _ => (qg_name (i := 2) sc_14.nd rfl (by first | exact Or.inl rfl | exact Or.inr rfl))) (fun _ _ _ _ _ => qts_nil) (fun _ _ _ _ _ => (qe_ix (hu100 hr) qs (qe_call (sem_len (i := 10)) ih.o10 (rm4 hr) rfl T.m10 T.F10.kp T.b10 (qa_cons (qv 0) (qa_cons qi qa_nil))) (fun _ _ => rfl)))) qa_nil))))))
/- _law_parent_row -/
theorem w_15 (T : Txt K w mg tt) (hB : ∀ t ∈ tt, LamX.TabB base mg t.2.1 t.2.2) (ih : IH P w base T n) (cdv : Value) (A : Around) (outer : List Env) (s : Shared) (H : Hp) (E : XK) (hr : Room (4 * n + 3) (A.deeper (envOfC "_law_parent_row" (defScope s_15) s.heap.objs.size (T.f 15) cdv))) :
    PSs (cxOf CX0 P w K mg base N_15 "_law_parent_row" (defScope s_15) (T.f 15) cdv A outer s H E).nox (defBody s_15) (liftS ⟨K, w, tblOf tt⟩ (b_15 (sem fs n))) :=
  (qss_cons (qs_set (i := 2) sc_15.nd rfl (by first | exact Or.inl rfl | exact Or.inr rfl) (qe_call (sem_len (i := 10)) ih.o10 (rm4 hr) rfl T.m10 T.F10.kp T.b10 (qa_cons (qv 0) (qa_cons qi qa_nil))))
  (qss_cons (qs_set (i := 3) sc_15.nd rfl (by first | exact Or.inl rfl | exact Or.inr rfl) (qe_lst (qa_cons qn qa_nil)))
  (qss_cons (qs_for PassesOwn.never rfl (qi_range2 rfl T.z_range (qa_cons qi (qa_cons (qv 1) qa_nil))) (qg_name (i := 4) sc_15.nd rfl (by first | exact Or.inl rfl | exact Or.inr rfl)) (qss_one (qs_expr (qe_bm PySem.F.plainAttrs_list PySem.F.slot_list_append PySem.F.type_list_append okLst_ty dmt_append (qv 3) (qa_cons (qe_ix (hu100 hr) (qe_lst (qa_cons (qe_op dop_sub (qv 4) qi) (qa_cons qi (qa_cons (qe_call (sem_len (i := 10)) ih.o10 (rm4 hr) rfl T.m10 T.F10.kp T.b10 (qa_cons (qv 0) (qa_cons (qv 4) qa_nil))) (qa_cons (qe_callB (dcall_max2 rfl) rfl T.z_max (by decide +kernel) (qa_cons qi (qa_cons (qe_op dop_sub (qe_op dop_sub (qv 4) qi) (qe_call (sem_len (i := 10)) ih.o10 (rm4 hr) rfl T.m10 T.F10.kp T.b10 (qa_cons (qv 0) (qa_cons qi qa_nil)))) qa_nil))) qa_nil))))) (qv 2) (fun _ _ => rfl)) qa_nil)))))
  (qss_one (qs_ret (qv 3))))))
/- _law_is_below -/
theorem w_16 (T : Txt K w mg tt) (hB : ∀ t ∈ tt, LamX.TabB base mg t.2.1 t.2.2) (ih : IH P w base T n) (cdv : Value) (A : Around) (outer : List Env) (s : Shared) (H : Hp) (E : XK) (hr : Room (4 * n + 3) (A.deeper (envOfC "_law_is_below" (defScope s_16) s.heap.objs.size (T.f 16) cdv))) :
    PSs (cxOf CX0 P w K mg base N_16 "_law_is_below" (defScope s_16) (T.f 16) cdv A outer s H E).nox (defBody s_16) (liftS ⟨K, w, tblOf tt⟩ (b_16 (sem fs n))) :=
  (qss_cons (qs_set (i := 3) sc_16.nd rfl (by first | exact Or.inl rfl | exact Or.inr rfl) (qv 1))
  (qss_cons (qs_for PassesOwn.never rfl (qi_range1 rfl T.z_range (qa_cons (qe_callB dcall_len rfl T.z_len (by decide +kernel) (qa_cons (qv 0) qa_nil)) qa_nil)) (qg_name (i := 4) sc_16.nd rfl (by first | exact Or.inl rfl | exact Or.inr rfl)) (qss_cons (qs_if (qt_w (qw_or (qt_cmp dop_is (qv 3) qn (nomark _)) (qw_or1 (qt_cmp (dop_eq (hu100 hr)) (qv 3) (qv 2) (nomark _))))) (qss_one qs_break) qss_nil)
    (qss_one (qs_set (i := 3) sc_16.nd rfl (by first | exact Or.inl rfl | exact Or.inr rfl) (qe_ix (hu100 hr) (qv 0) (qv 3) (fun _ _ => rfl))))))
  (qss_one (qs_ret (qe_cmp (dop_eq (hu100 hr)) (qv 3) (qv 2) (nomark _))))))
/- _law_children -/
theorem w_17 (T : Txt K w mg tt) (hB : ∀ t ∈ tt, LamX.TabB base mg t.2.1 t.2.2) (ih : IH P w base T n) (cdv : Value) (A : Around) (outer : List Env) (s : Shared) (H : Hp) (E : XK) (hr : Room (4 * n + 3) (A.deeper (envOfC "_law_children" (defScope s_17) s.heap.objs.size (T.f 17) cdv))) :
    PSs (cxOf CX0 P w K mg base N_17 "_law_children" (defScope s_17) (T.f 17) cdv A outer s H E).nox (defBody s_17) (liftS ⟨K, w, tblOf tt⟩ (b_17 (sem fs n))) :=
  (qss_one (qs_ret (qe_lc [("j", 2)] rfl sc_17.nd (qi_range1 rfl T.z_range (qa_cons (qe_callB dcall_len rfl T.z_len (by decide +kernel) (qa_cons (qv 0) qa_nil)) qa_nil)) (okb (by kernel_rfl)) (by decide) (fun _ _ _ _ _ => (qg_name (i := 2) sc_17.nd rfl (by first | exact Or.inl rfl | exact Or.inr rfl))) (fun _ _ _ _ _ => (qts_one (qt_w (qw_and (qt_cmp dop_isnot (qe_ix (hu100 hr) (qv 0) (qv 2) (fun _ _ => rfl)) qn (nomark _)) (qw_and1 (qt_cmp (dop_eq (hu100 hr)) (qe_ix (hu100 hr) (qv 0) (qv 2) (fun _ _ => rfl)) (qv 1) (nomark _))))))) (fun _ _ _ _ _ => (qv 2)))))
/- _law_stop -/
theorem w_18 (T : Txt K w mg tt) (hB : ∀ t ∈ tt, LamX.TabB base mg t.2.1 t.2.2) (ih : IH P w base T n) (cdv : Value) (A : Around) (outer : List Env) (s : Shared) (H : Hp) (E : XK) (hr : Room (4 * n + 3) (A.deeper (envOfC "_law_stop" (defScope s_18) s.heap.objs.size (T.f 18) cdv))) :
    PSs (cxOf CX0 P w K mg base N_18 "_law_stop" (defScope s_18) (T.f 18) cdv A outer s H E).nox (defBody s_18) (liftS ⟨K, w, tblOf tt⟩ (b_18 (sem fs n))) :=
  (qss_one (qs_for PassesOwn.never rfl (qi_range1 rfl T.z_range (qa_cons (qe_callB dcall_len rfl T.z_len (by decide +kernel) (qa_cons (qv 0) qa_nil)) qa_nil)) (qg_name (i := 3) sc_18.nd rfl (by first | exact Or.inl rfl | exact Or.inr rfl)) (qss_one (qs_if (qt_w (qw_and (qt_cmp (dop_eq (hu100 hr)) (qe_ix (hu100 hr) (qv 1) (qv 3) (fun _ _ => rfl)) (qe_tup (qa_cons qs qa_nil)) (nomark _)) (qw_and1 (qt_val (qe_call (sem_len (i := 16)) ih.o16 (rm4 hr) rfl T.m16 T.F16.kp T.b16 (qa_cons (qv 0) (qa_cons (qv 3) (qa_cons (qv 2) qa_nil)))))))) (qss_one (qs_asg (qe_tup (qa_cons qs qa_nil)) (qg_sub (qv 1) (qv 3) (dset_ix (hu100 hr))))) qss_nil))))
/- _law_end_of -/
theorem w_19 (T : Txt K w mg tt) (hB : ∀ t ∈ tt, LamX.TabB base mg t.2.1 t.2.2) (ih : IH P w base T n) (cdv : Value) (A : Around) (outer : List Env) (s : Shared) (H : Hp) (E : XK) (hr : Room (4 * n + 3) (A.deeper (envOfC "_law_end_of" (defScope s_19) s.heap.objs.size (T.f 19) cdv))) :
    PSs (cxOf CX0 P w K mg base N_19 "_law_end_of" (defScope s_19) (T.f 19) cdv A outer s H E).nox (defBody s_19) (liftS ⟨K, w, tblOf tt⟩ (b_19 (sem fs n))) :=
  (qss_cons (qs_setLc (i := 4) [("pair", 5)] rfl sc_19.nd rfl rfl (sw_true rfl rfl rfl (by decide +kernel)) (qi_seq (qv 0)) (okb (by kernel_rfl)) (by decide) (fun _ _ _ _ _ => (qg_name (i := 5) sc_19.nd rfl (by first | exact Or.inl rfl | exact Or.inr rfl))) (fun _ _ _ _ _ => qts_nil) (fun _ _ _ _ _ => (qe_ix (hu100 hr) (qv 5) qi (fun _ _ => rfl))))
  (qss_cons (qs_setLc (i := 6) [("k", 7)] rfl sc_19.nd rfl rfl (sw_true rfl rfl rfl (by decide +kernel)) (qi_seq (qe_call (sem_len (i := 17)) ih.o17 (rm4 hr) rfl T.m17 T.F17.kp T.b17 (qa_cons (qv 4) (qa_cons (qv 3) qa_nil)))) (okb (by kernel_rfl)) (by decide) (fun _ _ _ _ _ => (qg_name (i := 7) sc_19.nd rfl (by first | exact Or.inl rfl | exact Or.inr rfl))) (fun _ _ _ _ _ => qts_nil) (fun _ _ _ _ _ => (qe_ix (hu100 hr) (qv 2) (qv 7) (fun _ _ => rfl))))
  (qss_cons (qs_if (qt_w (qw_or (qt_cmp (dop_eq (hu100 hr)) (qe_ix (hu100 hr) (qv 1) (qv 3) (fun _ _ => rfl)) (qe_tup (qa_cons qs qa_nil)) (nomark _)) (qw_or1 (qt_cmp (dop_in (hu100 hr)) qn (qv 6) (by with_unfolding_all rfl))))) (qss_one (qs_ret qn)) qss_nil)
  (qss_cons (qs_if (qt_cmp (dop_eq (hu100 hr)) (qe_ix (hu100 hr) (qe_ix (hu100 hr) (qv 1) (qv 3) (fun _ _ => rfl)) qi (fun _ _ => rfl)) qs (nomark _)) (qss_one (qs_ret (qe_ix (hu100 hr) (qv 1) (qv 3) (fun _ _ => rfl)))) qss_nil)
  (qss_cons (qs_if (qt_cmp (dop_eq (hu100 hr)) (qe_ix (hu100 hr) (qe_ix (hu100 hr) (qv 0) (qv 3) (fun _ _ => rfl)) qi (fun _ _ => rfl)) qs (nomark _)) (qss_one (qs_for PassesOwn.never rfl (qi_seq (qv 6)) (qg_name (i := 8) sc_19.nd rfl (by first | exact Or.inl rfl | exact Or.inr rfl)) (qss_one (qs_if (qt_cmp (dop_eq (hu100 hr)) (qe_ix (hu100 hr) (qv 8) qi (fun _ _ => rfl)) qs (nomark _)) (qss_one (qs_ret (qv 8))) qss_nil)))) qss_nil)
  (qss_one (qs_ret (qe_ix (hu100 hr) (qv 1) (qv 3) (fun _ _ => rfl)))))))))
/- _law_scope_event -/
theorem w_20 (T : Txt K w mg tt) (hB : ∀ t ∈ tt, LamX.TabB base mg t.2.1 t.2.2) (ih : IH P w base T n) (cdv : Value) (A : Around) (outer : List Env) (s : Shared) (H : Hp) (E : XK) (hr : Room (4 * n + 3) (A.deeper (envOfC "_law_scope_event" (defScope s_20) s.heap.objs.size (T.f 20) cdv))) :
    PSs (cxOf CX0 P w K mg base N_20 "_law_scope_event" (defScope s_20) (T.f 20) cdv A outer s H E).nox (defBody s_20) (liftS ⟨K, w, tblOf tt⟩ (b_20 (sem fs n))) :=
  (qss_cons (qs_setLc (i := 4) [("pair", 5)] rfl sc_20.nd rfl rfl (sw_true rfl rfl rfl (by decide +kernel)) (qi_seq (qv 0)) (okb (by kernel_rfl)) (by decide) (fun _ _ _ _ _ => (qg_name (i := 5) sc_20.nd rfl (by first | exact Or.inl rfl | exact Or.inr rfl))) (fun _ _ _ _ _ => qts_nil) (fun _ _ _ _ _ => (qe_ix (hu100 hr) (qv 5) qi (fun _ _ => rfl))))
  (qss_cons (qs_set (i := 6) sc_20.nd rfl (by first | exact Or.inl rfl | exact Or.inr rfl) (qe_ix (hu100 hr) (qv 3) qi (fun _ _ => rfl)))
  (qss_cons (qs_if (qt_cmp (dop_eq (hu100 hr)) (qe_ix (hu100 hr) (qv 3) qi (fun _ _ => rfl)) qs (nomark _)) (qss_one (qs_expr (qe_call (sem_len (i := 18)) ih.o18 (rm4 hr) rfl T.m18 T.F18.kp T.b18 (qa_cons (qv 4) (qa_cons (qv 1) (qa_cons (qv 6) qa_nil)))))) (qss_one (qs_if (qt_cmp (dop_eq (hu100 hr)) (qe_ix (hu100 hr) (qv 1) (qv 6) (fun _ _ => rfl)) (qe_tup (qa_cons qs qa_nil)) (nomark _)) (qss_one (qs_if (qt_cmp (dop_eq (hu100 hr)) (qe_ix (hu100 hr) (qv 3) qi (fun _ _ => rfl)) qs (nomark _)) (qss_one (qs_asg (qe_tup (qa_cons qs qa_nil)) (qg_sub (qv 1) (qv 6) (dset_ix (hu100 hr))))) (qss_cons (qs_asg (qe_tup (qa_cons qs (qa_cons (qe_ix (hu100 hr) (qv 3) qi (fun _ _ => rfl)) qa_nil))) (qg_sub (qv 1) (qv 6) (dset_ix (hu100 hr))))
        (qss_one (qs_expr (qe_call (sem_len (i := 18)) ih.o18 (rm4 hr) rfl T.m18 T.F18.kp T.b18 (qa_cons (qv 4) (qa_cons (qv 1) (qa_cons (qv 6) qa_nil))))))))) qss_nil)))
  (qss_one (qs_for PassesOwn.never rfl (qi_range1 rfl T.z_range (qa_cons (qe_op dop_add (qe_callB dcall_len rfl T.z_len (by decide +kernel) (qa_cons (qv 0) qa_nil)) qi) qa_nil)) (qg_name (i := 7) sc_20.nd rfl (by first | exact Or.inl rfl | exact Or.inr rfl)) (qss_one (qs_for PassesOwn.never rfl (qi_range3 rfl T.z_range (qa_cons (qe_op dop_sub (qe_callB dcall_len rfl T.z_len (by decide +kernel) (qa_cons (qv 0) qa_nil)) qi) (qa_cons (qe_un dun_neg qi) (qa_cons (qe_un dun_neg qi) qa_nil)))) (qg_name (i := 8) sc_20.nd rfl (by first | exact Or.inl rfl | exact Or.inr rfl)) (qss_one (qs_if (qt_cmp dop_is (qe_ix (hu100 hr) (qv 2) (qv 8) (fun _ _ => rfl)) qn (nomark _)) (qss_cons (qs_set (i := 9) sc_20.nd rfl (by first | exact Or.inl rfl | exact Or.inr rfl) (qe_call (sem_len (i := 19)) ih.o19 (rm4 hr) rfl T.m19 T.F19.kp T.b19 (qa_cons (qv 0) (qa_cons (qv 1) (qa_cons (qv 2) (qa_cons (qv 8) qa_nil))))))
        (qss_one (qs_if (qt_cmp dop_isnot (qv 9) qn (nomark _)) (qss_cons (qs_asg (qv 9) (qg_sub (qv 2) (qv 8) (dset_ix (hu100 hr))))
          (qss_one (qs_if (qt_w (qw_and (qt_cmp (dop_eq (hu100 hr)) (qe_ix (hu100 hr) (qv 9) qi (fun _ _ => rfl)) qs (nomark _)) (qw_and (qt_cmp dop_isnot (qe_ix (hu100 hr) (qv 4) (qv 8) (fun _ _ => rfl)) qn (nomark _)) (qw_and1 (qt_cmp (dop_eq (hu100 hr)) (qe_ix (hu100 hr) (qe_ix (hu100 hr) (qv 0) (qe_ix (hu100 hr) (qv 4) (qv 8) (fun _ _ => rfl)) (fun _ _ => rfl)) qi (fun _ _ => rfl)) qs (nomark _)))))) (qss_one (qs_expr (qe_call (sem_len (i := 18)) ih.o18 (rm4 hr) rfl T.m18 T.F18.kp T.b18 (qa_cons (qv 4) (qa_cons (qv 1) (qa_cons (qe_ix (hu100 hr) (qv 4) (qv 8) (fun _ _ => rfl)) qa_nil)))))) qss_nil))) qss_nil))) qss_nil)))))))))
/- _law_scope_words -/
theorem w_21 (T : Txt K w mg tt) (hB : ∀ t ∈ tt, LamX.TabB base mg t.2.1 t.2.2) (ih : IH P w base T n) (cdv : Value) (A : Around) (outer : List Env) (s : Shared) (H : Hp) (E : XK) (hr : Room (4 * n + 3) (A.deeper (envOfC "_law_scope_words" (defScope s_21) s.heap.objs.size (T.f 21) cdv))) :
    PSs (cxOf CX0 P w K mg base N_21 "_law_scope_words" (defScope s_21) (T.f 21) cdv A outer s H E).nox (defBody s_21) (liftS ⟨K, w, tblOf tt⟩ (b_21 (sem fs n))) :=
  (qss_cons (qs_set (i := 1) sc_21.nd rfl (by first | exact Or.inl rfl | exact Or.inr rfl) (qe_lst qa_nil))
  (qss_cons (qs_for PassesOwn.never rfl (qi_seq (qv 0)) (qg_name (i := 2) sc_21.nd rfl (by first | exact Or.inl rfl | exact Or.inr rfl)) (qss_one (qs_if (qt_cmp dop_is (qv 2) qn (nomark _)) (qss_one (qs_expr (qe_bm PySem.F.plainAttrs_list PySem.F.slot_list_append PySem.F.type_list_append okLst_ty dmt_append (qv 1) (qa_cons qs qa_nil)))) (qss_one (qs_if (qt_cmp (dop_eq (hu100 hr)) (qe_ix (hu100 hr) (qv 2) qi (fun _ _ => rfl)) qs (nomark _)) (qss_one (qs_expr (qe_bm PySem.F.plainAttrs_list PySem.F.slot_list_append PySem.F.type_list_append okLst_ty dmt_append (qv 1) (qa_cons (qv 2) qa_nil)))) (qss_one (qs_expr (qe_bm PySem.F.plainAttrs_list PySem.F.slot_list_append PySem.F.type_list_append okLst_ty dmt_append (qv 1) (qa_cons (qe_ix (hu100 hr) (qv 2) qi (fun _ _ => rfl)) qa_nil)))))))))
  (qss_one (qs_ret (qe_callTy dcall_tuple rfl T.z_tuple (by decide +kernel) (qa_cons (qv 1) qa_nil))))))
/- _law_scope_stages -/
theorem w_22 (T : Txt K w mg tt) (hB : ∀ t ∈ tt, LamX.TabB base mg t.2.1 t.2.2) (ih : IH P w base T n) (cdv : Value) (A : Around) (outer : List Env) (s : Shared) (H : Hp) (E : XK) (hr : Room (4 * n + 3) (A.deeper (envOfC "_law_scope_stages" (defScope s_22) s.heap.objs.size (T.f 22) cdv))) :
    PSs (cxOf CX0 P w K mg base N_22 "_law_scope_stages" (defScope s_22) (T.f 22) cdv A outer s H E).nox (defBody s_22) (liftS ⟨K, w, tblOf tt⟩ (b_22 (sem fs n))) :=
  (qss_cons (qs_set (i := 2) sc_22.nd rfl (by first | exact Or.inl rfl | exact Or.inr rfl) (qe_op dop_mul (qe_lst (qa_cons (qe_tup (qa_cons qs qa_nil)) qa_nil)) (qe_callB dcall_len rfl T.z_len (by decide +kernel) (qa_cons (qv 0) qa_nil))))
  (qss_cons (qs_set (i := 3) sc_22.nd rfl (by first | exact Or.inl rfl | exact Or.inr rfl) (qe_op dop_mul (qe_lst (qa_cons qn qa_nil)) (qe_callB dcall_len rfl T.z_len (by decide +kernel) (qa_cons (qv 0) qa_nil))))
  (qss_cons (qs_set (i := 4) sc_22.nd rfl (by first | exact Or.inl rfl | exact Or.inr rfl) (qe_lst (qa_cons (qe_call (sem_len (i := 21)) ih.o21 (rm4 hr) rfl T.m21 T.F21.kp T.b21 (qa_cons (qv 3) qa_nil)) qa_nil)))
  (qss_cons (qs_for PassesOwn.never rfl (qi_seq (qv 1)) (qg_name (i := 5) sc_22.nd rfl (by first | exact Or.inl rfl | exact Or.inr rfl)) (qss_cons (qs_expr (qe_call (sem_len (i := 20)) ih.o20 (rm4 hr) rfl T.m20 T.F20.kp T.b20 (qa_cons (qv 0) (qa_cons (qv 2) (qa_cons (qv 3) (qa_cons (qv 5) qa_nil))))))
    (qss_one (qs_expr (qe_bm PySem.F.plainAttrs_list PySem.F.slot_list_append PySem.F.type_list_append okLst_ty dmt_append (qv 4) (qa_cons (qe_call (sem_len (i := 21)) ih.o21 (rm4 hr) rfl T.m21 T.F21.kp T.b21 (qa_cons (qv 3) qa_nil)) qa_nil))))))
  (qss_one (qs_ret (qv 4)))))))
/- _law_tree -/
theorem w_23 (T : Txt K w mg tt) (hB : ∀ t ∈ tt, LamX.TabB base mg t.2.1 t.2.2) (ih : IH P w base T n) (cdv : Value) (A : Around) (outer : List Env) (s : Shared) (H : Hp) (E : XK) (hr : Room (4 * n + 3) (A.deeper (envOfC "_law_tree" (defScope s_23) s.heap.objs.size (T.f 23) cdv))) :
    PSs (cxOf CX0 P w K mg base N_23 "_law_tree" (defScope s_23) (T.f 23) cdv A outer s H E).nox (defBody s_23) (liftS ⟨K, w, tblOf tt⟩ (b_23 (sem fs n))) :=
  (qss_one (qs_ret (qe_callTy dcall_tuple rfl T.z_tuple (by decide +kernel) (qa_cons (qe_lc [("parent", 2)] rfl sc_23.nd (qi_seq (qe_call (sem_len (i := 15)) ih.o15 (rm4 hr) rfl T.m15 T.F15.kp T.b15 (qa_cons (qv 0) (qa_cons (qv 1) qa_nil)))) (okb (by kernel_rfl)) (by decide) (fun _ _ _ _ _ => (qg_name (i := 2) sc_23.nd rfl (by first | exact Or.inl rfl | exact Or.inr rfl))) (fun _ _ _ _ _ => qts_nil) (fun _ _ _ _ _ => (qe_tup (qa_cons (qv 2) (qa_cons (qe_call (sem_len (i := 11)) ih.o11 (rm4 hr) rfl T.m11 T.F11.kp T.b11 (qa_cons (qv 0) (qa_cons (qe_lst (qa_cons qs (qa_cons qs qa_nil))) qa_nil))) qa_nil))))) qa_nil))))
/- _law_scope_events -/
theorem w_24 (T : Txt K w mg tt) (hB : ∀ t ∈ tt, LamX.TabB base mg t.2.1 t.2.2) (ih : IH P w base T n) (cdv : Value) (A : Around) (outer : List Env) (s : Shared) (H : Hp) (E : XK) (hr : Room (4 * n + 3) (A.deeper (envOfC "_law_scope_events" (defScope s_24) s.heap.objs.size (T.f 24) cdv))) :
    PSs (cxOf CX0 P w K mg base N_24 "_law_scope_events" (defScope s_24) (T.f 24) cdv A outer s H E).nox (defBody s_24) (liftS ⟨K, w, tblOf tt⟩ (b_24 (sem fs n))) :=
  (qss_cons (qs_set (i := 3) sc_24.nd rfl (by first | exact Or.inl rfl | exact Or.inr rfl) (qe_lst qa_nil))
  (qss_cons (qs_for PassesOwn.never rfl (qi_range1 rfl T.z_range (qa_cons (qv 2) qa_nil)) (qg_name (i := 4) sc_24.nd rfl (by first | exact Or.inl rfl | exact Or.inr rfl)) (qss_cons (qs_set (i := 5) sc_24.nd rfl (by first | exact Or.inl rfl | exact Or.inr rfl) (qe_call (sem_len (i := 11)) ih.o11 (rm4 hr) rfl T.m11 T.F11.kp T.b11 (qa_cons (qv 0) (qa_cons (qe_lst (qa_cons qs (qa_cons qs (qa_cons qs (qa_cons qs (qa_cons qs (qa_cons qs qa_nil))))))) qa_nil))))
    (qss_cons (qs_set (i := 6) sc_24.nd rfl (by first | exact Or.inl rfl | exact Or.inr rfl) (qe_call (sem_len (i := 10)) ih.o10 (rm4 hr) rfl T.m10 T.F10.kp T.b10 (qa_cons (qv 0) (qa_cons (qv 1) qa_nil))))
    (qss_one (qs_if (qt_cmp (dop_eq (hu100 hr)) (qv 5) qs (nomark _)) (qss_one (qs_expr (qe_bm PySem.F.plainAttrs_list PySem.F.slot_list_append PySem.F.type_list_append okLst_ty dmt_append (qv 3) (qa_cons (qe_tup (qa_cons (qv 5) (qa_cons (qv 6) (qa_cons (qe_call (sem_len (i := 14)) ih.o14 (rm4 hr) rfl T.m14 T.F14.kp T.b14 (qa_cons (qv 0) qa_nil)) qa_nil)))) qa_nil)))) (qss_one (qs_expr (qe_bm PySem.F.plainAttrs_list PySem.F.slot_list_append PySem.F.type_list_append okLst_ty dmt_append (qv 3) (qa_cons (qe_tup (qa_cons (qv 5) (qa_cons (qv 6) qa_nil))) qa_nil)))))))))
  (qss_one (qs_ret (qe_callTy dcall_tuple rfl T.z_tuple (by decide +kernel) (qa_cons (qv 3) qa_nil))))))
/- _law_told_cases -/
theorem w_25 (T : Txt K w mg tt) (hB : ∀ t ∈ tt, LamX.TabB base mg t.2.1 t.2.2) (ih : IH P w base T n) (cdv : Value) (A : Around) (outer : List Env) (s : Shared) (H : Hp) (E : XK) (hr : Room (4 * n + 3) (A.deeper (envOfC "_law_told_cases" (defScope s_25) s.heap.objs.size (T.f 25) cdv))) :
    PSs (cxOf CX0 P w K mg base N_25 "_law_told_cases" (defScope s_25) (T.f 25) cdv A outer s H E).nox (defBody s_25) (liftS ⟨K, w, tblOf tt⟩ (b_25 (sem fs n))) :=
  (qss_cons (qs_set (i := 1) sc_25.nd rfl (by first | exact Or.inl rfl | exact Or.inr rfl) (qe_call (sem_len (i := 14)) ih.o14 (rm4 hr) rfl T.m14 T.F14.kp T.b14 (qa_cons (qv 0) qa_nil)))
  (qss_cons (qs_set (i := 2) sc_25.nd rfl (by first | exact Or.inl rfl | exact Or.inr rfl) (qe_call (sem_len (i := 11)) ih.o11 (rm4 hr) rfl T.m11 T.F11.kp T.b11 (qa_cons (qv 0) (qa_cons (qe_lst (qa_cons qs (qa_cons qs qa_nil))) qa_nil))))
  (qss_cons (qs_set (i := 3) sc_25.nd rfl (by first | exact Or.inl rfl | exact Or.inr rfl) (qe_call (sem_len (i := 11)) ih.o11 (rm4 hr) rfl T.m11 T.F11.kp T.b11 (qa_cons (qv 0) (qa_cons (qe_lst (qa_cons qs (qa_cons qs qa_nil))) qa_nil))))
  (qss_cons (qs_set (i := 4) sc_25.nd rfl (by first | exact Or.inl rfl | exact Or.inr rfl) (qe_tup (qa_cons (qe_tup (qa_cons qn (qa_cons (qv 2) qa_nil))) (qa_cons (qe_tup (qa_cons qi (qa_cons (qv 3) qa_nil))) (qa_cons (qe_tup (qa_cons qi (qa_cons (qe_call (sem_len (i := 11)) ih.o11 (rm4 hr) rfl T.m11 T.F11.kp T.b11 (qa_cons (qv 0) (qa_cons (qe_lst (qa_cons qs (qa_cons qs qa_nil))) qa_nil))) qa_nil))) (qa_cons (qe_tup (qa_cons qi (qa_cons qs qa_nil))) (qa_cons (qe_tup (qa_cons qi (qa_cons qs qa_nil))) (qa_cons (qe_tup (qa_cons qi (qa_cons qs qa_nil))) qa_nil))))))))
  (qss_cons (qs_set (i := 5) sc_25.nd rfl (by first | exact Or.inl rfl | exact Or.inr rfl) (qe_lst (qa_cons (qe_tup (qa_cons (qv 4) (qa_cons (qe_tup (qa_cons (qe_tup (qa_cons qs (qa_cons qi (qa_cons (qv 1) qa_nil)))) (qa_cons (qe_tup (qa_cons qs (qa_cons qi qa_nil))) (qa_cons (qe_tup (qa_cons qs (qa_cons qi qa_nil))) (qa_cons (qe_tup (qa_cons qs (qa_cons qi qa_nil))) qa_nil))))) qa_nil))) qa_nil)))
  (qss_cons (qs_expr (qe_bm PySem.F.plainAttrs_list PySem.F.slot_list_append PySem.F.type_list_append okLst_ty dmt_append (qv 5) (qa_cons (qe_tup (qa_cons (qv 4) (qa_cons (qe_tup (qa_cons (qe_tup (qa_cons qs (qa_cons qi qa_nil))) (qa_cons (qe_tup (qa_cons qs (qa_cons qi (qa_cons (qv 1) qa_nil)))) (qa_cons (qe_tup (qa_cons qs (qa_cons qi (qa_cons qs qa_nil)))) (qa_cons (qe_tup (qa_cons qs (qa_cons qi qa_nil))) (qa_cons (qe_tup (qa_cons qs (qa_cons qi qa_nil))) (qa_cons (qe_tup (qa_cons qs (qa_cons qi qa_nil))) qa_nil))))))) qa_nil))) qa_nil)))
  (qss_cons (qs_expr (qe_bm PySem.F.plainAttrs_list PySem.F.slot_list_append PySem.F.type_list_append okLst_ty dmt_append (qv 5) (qa_cons (qe_tup (qa_cons (qv 4) (qa_cons (qe_tup (qa_cons (qe_tup (qa_cons qs (qa_cons qi (qa_cons (qv 1) qa_nil)))) (qa_cons (qe_tup (qa_cons qs (qa_cons qi qa_nil))) (qa_cons (qe_tup (qa_cons qs (qa_cons qi qa_nil))) (qa_cons (qe_tup (qa_cons qs (qa_cons qi (qa_cons qs qa_nil)))) qa_nil))))) qa_nil))) qa_nil)))
  (qss_cons (qs_expr (qe_bm PySem.F.plainAttrs_list PySem.F.slot_list_append PySem.F.type_list_append okLst_ty dmt_append (qv 5) (qa_cons (qe_tup (qa_cons (qv 4) (qa_cons (qe_tup (qa_cons (qe_tup (qa_cons qs (qa_cons qi qa_nil))) (qa_cons (qe_tup (qa_cons qs (qa_cons qi qa_nil))) (qa_cons (qe_tup (qa_cons qs (qa_cons qi (qa_cons (qv 1) qa_nil)))) qa_nil)))) qa_nil))) qa_nil)))
  (qss_cons (qs_expr (qe_bm PySem.F.plainAttrs_list PySem.F.slot_list_append PySem.F.type_list_append okLst_ty dmt_append (qv 5) (qa_cons (qe_tup (qa_cons (qv 4) (qa_cons (qe_tup (qa_cons (qe_tup (qa_cons qs (qa_cons qi (qa_cons (qv 1) qa_nil)))) (qa_cons (qe_tup (qa_cons qs (qa_cons qi qa_nil))) qa_nil))) qa_nil))) qa_nil)))
  (qss_one (qs_ret (qv 5))))))))))))
/- law -/
theorem w_26 (T : Txt K w mg tt) (hB : ∀ t ∈ tt, LamX.TabB base mg t.2.1 t.2.2) (ih : IH P w base T n) (cdv : Value) (A : Around) (outer : List Env) (s : Shared) (H : Hp) (E : XK) (hr : Room (4 * n + 3) (A.deeper (envOfC "law" (defScope s_26) s.heap.objs.size (T.f 26) cdv))) :
    PSs (cxOf CX0 P w K mg base N_26 "law" (defScope s_26) (T.f 26) cdv A outer s H E).nox (defBody s_26) (liftS ⟨K, w, tblOf tt⟩ (b_26 (sem fs n))) :=
  (qss_cons (qs_set (i := 1) sc_26.nd rfl (by first | exact Or.inl rfl | exact Or.inr rfl) (qe_call (sem_len (i := 9)) ih.o9 (rm4 hr) rfl T.m9 T.F9.kp T.b9 (qa_cons (qv 0) (qa_cons qi qa_nil))))
  (qss_cons (qs_set (i := 2) sc_26.nd rfl (by first | exact Or.inl rfl | exact Or.inr rfl) (qe_call (sem_len (i := 25)) ih.o25 (rm4 hr) rfl T.m25 T.F25.kp T.b25 (qa_cons (qv 1) qa_nil)))
  (qss_cons (qs_for PassesOwn.never rfl (qi_range1 rfl T.z_range (qa_cons qi qa_nil)) (qg_name (i := 3) sc_26.nd rfl (by first | exact Or.inl rfl | exact Or.inr rfl)) (qss_cons (qs_set (i := 4) sc_26.nd rfl (by first | exact Or.inl rfl | exact Or.inr rfl) (qe_op dop_add qi (qe_call (sem_len (i := 10)) ih.o10 (rm4 hr) rfl T.m10 T.F10.kp T.b10 (qa_cons (qv 1) (qa_cons qi qa_nil)))))
    (qss_one (qs_expr (qe_bm PySem.F.plainAttrs_list PySem.F.slot_list_append PySem.F.type_list_append okLst_ty dmt_append (qv 2) (qa_cons (qe_tup (qa_cons (qe_call (sem_len (i := 23)) ih.o23 (rm4 hr) rfl T.m23 T.F23.kp T.b23 (qa_cons (qv 1) (qa_cons (qv 4) qa_nil))) (qa_cons (qe_call (sem_len (i := 24)) ih.o24 (rm4 hr) rfl T.m24 T.F24.kp T.b24 (qa_cons (qv 1) (qa_cons (qv 4) (qa_cons (qe_call (sem_len (i := 10)) ih.o10 (rm4 hr) rfl T.m10 T.F10.kp T.b10 (qa_cons (qv 1) (qa_cons qi qa_nil))) qa_nil)))) qa_nil))) qa_nil))))))
  (qss_cons (qs_for PassesOwn.never rfl (qi_seq (qv 2)) (qg_tup rfl (qgs_cons (qg_name (i := 5) sc_26.nd rfl (by first | exact Or.inl rfl | exact Or.inr rfl)) (qgs_cons (qg_name (i := 6) sc_26.nd rfl (by first | exact Or.inl rfl | exact Or.inr rfl)) qgs_nil))) (qss_cons (qs_set (i := 7) sc_26.nd rfl (by first | exact Or.inl rfl | exact Or.inr rfl) (qe_call (sem_len (i := 22)) ih.o22 (rm4 hr) rfl T.m22 T.F22.kp T.b22 (qa_cons (qv 5) (qa_cons (qv 6) qa_nil))))
    (qss_one (qs_for PassesOwn.never rfl (qi_seq (qe_call (sem_len (i := 13)) ih.o13 (rm4 hr) rfl T.m13 T.F13.kp T.b13 (qa_cons (qv 1) (qa_cons (qe_listRg rfl rfl T.z_list (qr_1 rfl T.z_range (qe_op dop_add (qe_callB dcall_len rfl T.z_len (by decide +kernel) (qa_cons (qv 6) qa_nil)) qi))) qa_nil)))) (qg_name (i := 3) sc_26.nd rfl (by first | exact Or.inl rfl | exact Or.inr rfl)) (qss_one (qs_if (qt_not (qt_val (qe_call (sem_len (i := 12)) ih.o12 (rm4 hr) rfl T.m12 T.F12.kp T.b12 (qa_cons (qe_call (sem_len (i := 8)) ih.o8 (rm4 hr) rfl T.m8 T.F8.kp T.b8 (qa_cons (qv 5) (qa_cons (qe_slice (qv 6) qo_none (qo_some (qv 3))) qa_nil))) (qa_cons (qe_ix (hu100 hr) (qv 7) (qv 3) (fun _ _ => rfl)) qa_nil))))) (qss_one (qs_ret qb)) qss_nil))))))
  (qss_one (qs_ret qb))))))
end
theorem all {P : Program} {w : World} {K : PySem.W.Frag} {mg : Str → Option Value} {tt : LT} {base : Heap} (T : Txt K w mg tt) (hB : ∀ t ∈ tt, LamX.TabB base mg t.2.1 t.2.2) : ∀ n, IH P w base T n
  | 0 => ⟨FnOk.zero rfl, FnOk.zero rfl, FnOk.zero rfl, FnOk.zero rfl, FnOk.zero rfl, FnOk.zero rfl, FnOk.zero rfl, FnOk.zero rfl, FnOk.zero rfl, FnOk.zero rfl, FnOk.zero rfl, FnOk.zero rfl, FnOk.zero rfl, FnOk.zero rfl, FnOk.zero rfl, FnOk.zero rfl, FnOk.zero rfl, FnOk.zero rfl, FnOk.zero rfl, FnOk.zero rfl, FnOk.zero rfl, FnOk.zero rfl, FnOk.zero rfl, FnOk.zero rfl, FnOk.zero rfl, FnOk.zero rfl, FnOk.zero rfl⟩
  | n + 1 => by
    have ih := all (P := P) (w := w) (base := base) T hB n
    exact ⟨fn_ok T.F0 sc_0 rfl rfl (fun cdv A outer s H E hr => w_0 T hB ih cdv A outer s H E hr), fn_ok T.F1 sc_1 rfl rfl (fun cdv A outer s H E hr => w_1 T hB ih cdv A outer s H E hr), fn_ok T.F2 sc_2 rfl rfl (fun cdv A outer s H E hr => w_2 T hB ih cdv A outer s H E hr), fn_ok T.F3 sc_3 rfl rfl (fun cdv A outer s H E hr => w_3 T hB ih cdv A outer s H E hr), fn_ok T.F4 sc_4 rfl rfl (fun cdv A outer s H E hr => w_4 T hB ih cdv A outer s H E hr), fn_ok T.F5 sc_5 rfl rfl (fun cdv A outer s H E hr => w_5 T hB ih cdv A outer s H E hr), fn_ok T.F6 sc_6 rfl rfl (fun cdv A outer s H E hr => w_6 T hB ih cdv A outer s H E hr), fn_ok T.F7 sc_7 rfl rfl (fun cdv A outer s H E hr => w_7 T hB ih cdv A outer s H E hr), fn_ok T.F8 sc_8 rfl rfl (fun cdv A outer s H E hr => w_8 T hB ih cdv A outer s H E hr), fn_ok T.F9 sc_9 rfl rfl (fun cdv A outer s H E hr => w_9 T hB ih cdv A outer s H E hr), fn_ok T.F10 sc_10 rfl rfl (fun cdv A outer s H E hr => w_10 T hB ih cdv A outer s H E hr), fn_ok T.F11 sc_11 rfl rfl (fun cdv A outer s H E hr => w_11 T hB ih cdv A outer s H E hr), fn_ok T.F12 sc_12 rfl rfl (fun cdv A outer s H E hr => w_12 T hB ih cdv A outer s H E hr), fn_ok T.F13 sc_13 rfl rfl (fun cdv A outer s H E hr => w_13 T hB ih cdv A outer s H E hr), fn_ok T.F14 sc_14 rfl rfl (fun cdv A outer s H E hr => w_14 T hB ih cdv A outer s H E hr), fn_ok T.F15 sc_15 rfl rfl (fun cdv A outer s H E hr => w_15 T hB ih cdv A outer s H E hr), fn_ok T.F16 sc_16 rfl rfl (fun cdv A outer s H E hr => w_16 T hB ih cdv A outer s H E hr), fn_ok T.F17 sc_17 rfl rfl (fun cdv A outer s H E hr => w_17 T hB ih cdv A outer s H E hr), fn_ok T.F18 sc_18 rfl rfl (fun cdv A outer s H E hr => w_18 T hB ih cdv A outer s H E hr), fn_ok T.F19 sc_19 rfl rfl (fun cdv A outer s H E hr => w_19 T hB ih cdv A outer s H E hr), fn_ok T.F20 sc_20 rfl rfl (fun cdv A outer s H E hr => w_20 T hB ih cdv A outer s H E hr), fn_ok T.F21 sc_21 rfl rfl (fun cdv A outer s H E hr => w_21 T hB ih cdv A outer s H E hr), fn_ok T.F22 sc_22 rfl rfl (fun cdv A outer s H E hr => w_22 T hB ih cdv A outer s H E hr), fn_ok T.F23 sc_23 rfl rfl (fun cdv A outer s H E hr => w_23 T hB ih cdv A outer s H E hr), fn_ok T.F24 sc_24 rfl rfl (fun cdv A outer s H E hr => w_24 T hB ih cdv A outer s H E hr), fn_ok T.F25 sc_25 rfl rfl (fun cdv A outer s H E hr => w_25 T hB ih cdv A outer s H E hr), fn_ok T.F26 sc_26 rfl rfl (fun cdv A outer s H E hr => w_26 T hB ih cdv A outer s H E hr)⟩
def lamNames : List Str := []
theorem all_mk {l : PySem.W.OpenLaw} {w : World} {K : PySem.W.Frag} {h : Heap} {mg : Str → Option Value} {fa f0 f1 f2 f3 f4 f5 f6 f7 f8 f9 f10 f11 f12 f13 f14 f15 f16 f17 f18 f19 f20 f21 f22 f23 f24 f25 f26 : Addr} (X : K.In h) (G : h.Ns mainGlobals mg) (hfa : mg "law" = some (.ref fa))
    {od0 an0 : Option Addr} {sl0 : Array (Option Value)} {oc0 kV0 dc0 pm0 cd0 ct0 : Value}
    {od1 an1 : Option Addr} {sl1 : Array (Option Value)} {oc1 kV1 dc1 pm1 cd1 ct1 : Value}
    {od2 an2 : Option Addr} {sl2 : Array (Option Value)} {oc2 kV2 dc2 pm2 cd2 ct2 : Value}
    {od3 an3 : Option Addr} {sl3 : Array (Option Value)} {oc3 kV3 dc3 pm3 cd3 ct3 : Value}
    {od4 an4 : Option Addr} {sl4 : Array (Option Value)} {oc4 kV4 dc4 pm4 cd4 ct4 : Value}
    {od5 an5 : Option Addr} {sl5 : Array (Option Value)} {oc5 kV5 dc5 pm5 cd5 ct5 : Value}
    {od6 an6 : Option Addr} {sl6 : Array (Option Value)} {oc6 kV6 dc6 pm6 cd6 ct6 : Value}
    {od7 an7 : Option Addr} {sl7 : Array (Option Value)} {oc7 kV7 dc7 pm7 cd7 ct7 : Value}
    {od8 an8 : Option Addr} {sl8 : Array (Option Value)} {oc8 kV8 dc8 pm8 cd8 ct8 : Value}
    {od9 an9 : Option Addr} {sl9 : Array (Option Value)} {oc9 kV9 dc9 pm9 cd9 ct9 : Value}
    {od10 an10 : Option Addr} {sl10 : Array (Option Value)} {oc10 kV10 dc10 pm10 cd10 ct10 : Value}
    {od11 an11 : Option Addr} {sl11 : Array (Option Value)} {oc11 kV11 dc11 pm11 cd11 ct11 : Value}
    {od12 an12 : Option Addr} {sl12 : Array (Option Value)} {oc12 kV12 dc12 pm12 cd12 ct12 : Value}
    {od13 an13 : Option Addr} {sl13 : Array (Option Value)} {oc13 kV13 dc13 pm13 cd13 ct13 : Value}
    {od14 an14 : Option Addr} {sl14 : Array (Option Value)} {oc14 kV14 dc14 pm14 cd14 ct14 : Value}
    {od15 an15 : Option Addr} {sl15 : Array (Option Value)} {oc15 kV15 dc15 pm15 cd15 ct15 : Value}
    {od16 an16 : Option Addr} {sl16 : Array (Option Value)} {oc16 kV16 dc16 pm16 cd16 ct16 : Value}
    {od17 an17 : Option Addr} {sl17 : Array (Option Value)} {oc17 kV17 dc17 pm17 cd17 ct17 : Value}
    {od18 an18 : Option Addr} {sl18 : Array (Option Value)} {oc18 kV18 dc18 pm18 cd18 ct18 : Value}
    {od19 an19 : Option Addr} {sl19 : Array (Option Value)} {oc19 kV19 dc19 pm19 cd19 ct19 : Value}
    {od20 an20 : Option Addr} {sl20 : Array (Option Value)} {oc20 kV20 dc20 pm20 cd20 ct20 : Value}
    {od21 an21 : Option Addr} {sl21 : Array (Option Value)} {oc21 kV21 dc21 pm21 cd21 ct21 : Value}
    {od22 an22 : Option Addr} {sl22 : Array (Option Value)} {oc22 kV22 dc22 pm22 cd22 ct22 : Value}
    {od23 an23 : Option Addr} {sl23 : Array (Option Value)} {oc23 kV23 dc23 pm23 cd23 ct23 : Value}
    {od24 an24 : Option Addr} {sl24 : Array (Option Value)} {oc24 kV24 dc24 pm24 cd24 ct24 : Value}
    {od25 an25 : Option Addr} {sl25 : Array (Option Value)} {oc25 kV25 dc25 pm25 cd25 ct25 : Value}
    {od26 an26 : Option Addr} {sl26 : Array (Option Value)} {oc26 kV26 dc26 pm26 cd26 ct26 : Value}
    {C_Family : Addr} (aC_Family : PySem.W.nsIn K mainGlobals "Family" = some (some (.ref C_Family))) (pg_Family : PySem.W.plainGet K C_Family Str.empty = true) (hd_Family : PySem.W.hasDictIn K C_Family = true) (po_Family : PySem.W.plainOver K C_Family = true) (sa_Family : PySem.W.findIn K (.ref C_Family) "__setattr__" = some (some (.builtin "object.__setattr__"))) (mk_Family : PySem.W.makesIn K C_Family = true) (kc_Family : PySem.W.keepIn K (.ref C_Family) = true) (no_Family_0 : PySem.W.findIn K (.ref C_Family) "tree" = some none) (no_Family_1 : PySem.W.findIn K (.ref C_Family) "own" = some none) (no_Family_2 : PySem.W.findIn K (.ref C_Family) "ends" = some none) (no_Family_3 : PySem.W.findIn K (.ref C_Family) "hurts" = some none) (no_Family_4 : PySem.W.findIn K (.ref C_Family) "children" = some none)
    (a0 : PySem.W.findIn K (.ref C_Family) "__init__" = some (some (.ref f0))) (i0 : PySem.W.isFn K (.ref f0) = true) (l0 : K.lookup f0 = some ⟨oc0, od0, .func (PySem.W.fnOf "__init__" "Family.__init__" (defArgs s_0) (defBody s_0) (defScope s_0) .none kV0 dc0 pm0 an0 cd0 ct0), sl0⟩) (c0 : PySem.W.codeIn K cd0 "Family.__init__" = true) (k0 : PySem.W.keepIn K (.ref f0) = true)
    (a1 : PySem.W.findIn K (.ref C_Family) "all_below" = some (some (.ref f1))) (i1 : PySem.W.isFn K (.ref f1) = true) (l1 : K.lookup f1 = some ⟨oc1, od1, .func (PySem.W.fnOf "all_below" "Family.all_below" (defArgs s_1) (defBody s_1) (defScope s_1) .none kV1 dc1 pm1 an1 cd1 ct1), sl1⟩) (c1 : PySem.W.codeIn K cd1 "Family.all_below" = true) (k1 : PySem.W.keepIn K (.ref f1) = true)
    (a2 : PySem.W.findIn K (.ref C_Family) "cancel_own" = some (some (.ref f2))) (i2 : PySem.W.isFn K (.ref f2) = true) (l2 : K.lookup f2 = some ⟨oc2, od2, .func (PySem.W.fnOf "cancel_own" "Family.cancel_own" (defArgs s_2) (defBody s_2) (defScope s_2) .none kV2 dc2 pm2 an2 cd2 ct2), sl2⟩) (c2 : PySem.W.codeIn K cd2 "Family.cancel_own" = true) (k2 : PySem.W.keepIn K (.ref f2) = true)
    (a3 : PySem.W.findIn K (.ref C_Family) "happen" = some (some (.ref f3))) (i3 : PySem.W.isFn K (.ref f3) = true) (l3 : K.lookup f3 = some ⟨oc3, od3, .func (PySem.W.fnOf "happen" "Family.happen" (defArgs s_3) (defBody s_3) (defScope s_3) .none kV3 dc3 pm3 an3 cd3 ct3), sl3⟩) (c3 : PySem.W.codeIn K cd3 "Family.happen" = true) (k3 : PySem.W.keepIn K (.ref f3) = true)
    (a4 : PySem.W.findIn K (.ref C_Family) "end_more" = some (some (.ref f4))) (i4 : PySem.W.isFn K (.ref f4) = true) (l4 : K.lookup f4 = some ⟨oc4, od4, .func (PySem.W.fnOf "end_more" "Family.end_more" (defArgs s_4) (defBody s_4) (defScope s_4) .none kV4 dc4 pm4 an4 cd4 ct4), sl4⟩) (c4 : PySem.W.codeIn K cd4 "Family.end_more" = true) (k4 : PySem.W.keepIn K (.ref f4) = true)
    (a5 : PySem.W.findIn K (.ref C_Family) "can_end" = some (some (.ref f5))) (i5 : PySem.W.isFn K (.ref f5) = true) (l5 : K.lookup f5 = some ⟨oc5, od5, .func (PySem.W.fnOf "can_end" "Family.can_end" (defArgs s_5) (defBody s_5) (defScope s_5) .none kV5 dc5 pm5 an5 cd5 ct5), sl5⟩) (c5 : PySem.W.codeIn K cd5 "Family.can_end" = true) (k5 : PySem.W.keepIn K (.ref f5) = true)
    (a6 : PySem.W.findIn K (.ref C_Family) "ending" = some (some (.ref f6))) (i6 : PySem.W.isFn K (.ref f6) = true) (l6 : K.lookup f6 = some ⟨oc6, od6, .func (PySem.W.fnOf "ending" "Family.ending" (defArgs s_6) (defBody s_6) (defScope s_6) .none kV6 dc6 pm6 an6 cd6 ct6), sl6⟩) (c6 : PySem.W.codeIn K cd6 "Family.ending" = true) (k6 : PySem.W.keepIn K (.ref f6) = true)
    (a7 : PySem.W.findIn K (.ref C_Family) "hurt_parent" = some (some (.ref f7))) (i7 : PySem.W.isFn K (.ref f7) = true) (l7 : K.lookup f7 = some ⟨oc7, od7, .func (PySem.W.fnOf "hurt_parent" "Family.hurt_parent" (defArgs s_7) (defBody s_7) (defScope s_7) .none kV7 dc7 pm7 an7 cd7 ct7), sl7⟩) (c7 : PySem.W.codeIn K cd7 "Family.hurt_parent" = true) (k7 : PySem.W.keepIn K (.ref f7) = true)
    (a8 : PySem.W.nsIn K mainGlobals "scopes_behind" = some (some (.ref f8))) (l8 : K.lookup f8 = some ⟨oc8, od8, .func (PySem.W.fnOf "scopes_behind" "scopes_behind" (defArgs s_8) (defBody s_8) (defScope s_8) .none kV8 dc8 pm8 an8 cd8 ct8), sl8⟩) (c8 : PySem.W.codeIn K cd8 "scopes_behind" = true) (k8 : PySem.W.keepIn K (.ref f8) = true)
    (a9 : PySem.W.nsIn K mainGlobals "_law_draws" = some (some (.ref f9))) (l9 : K.lookup f9 = some ⟨oc9, od9, .func (PySem.W.fnOf "_law_draws" "_law_draws" (defArgs s_9) (defBody s_9) (defScope s_9) .none kV9 dc9 pm9 an9 cd9 ct9), sl9⟩) (c9 : PySem.W.codeIn K cd9 "_law_draws" = true) (k9 : PySem.W.keepIn K (.ref f9) = true)
    (a10 : PySem.W.nsIn K mainGlobals "_law_take" = some (some (.ref f10))) (l10 : K.lookup f10 = some ⟨oc10, od10, .func (PySem.W.fnOf "_law_take" "_law_take" (defArgs s_10) (defBody s_10) (defScope s_10) .none kV10 dc10 pm10 an10 cd10 ct10), sl10⟩) (c10 : PySem.W.codeIn K cd10 "_law_take" = true) (k10 : PySem.W.keepIn K (.ref f10) = true)
    (a11 : PySem.W.nsIn K mainGlobals "_law_pick" = some (some (.ref f11))) (l11 : K.lookup f11 = some ⟨oc11, od11, .func (PySem.W.fnOf "_law_pick" "_law_pick" (defArgs s_11) (defBody s_11) (defScope s_11) .none kV11 dc11 pm11 an11 cd11 ct11), sl11⟩) (c11 : PySem.W.codeIn K cd11 "_law_pick" = true) (k11 : PySem.W.keepIn K (.ref f11) = true)
    (a12 : PySem.W.nsIn K mainGlobals "_law_same" = some (some (.ref f12))) (l12 : K.lookup f12 = some ⟨oc12, od12, .func (PySem.W.fnOf "_law_same" "_law_same" (defArgs s_12) (defBody s_12) (defScope s_12) .none kV12 dc12 pm12 an12 cd12 ct12), sl12⟩) (c12 : PySem.W.codeIn K cd12 "_law_same" = true) (k12 : PySem.W.keepIn K (.ref f12) = true)
    (a13 : PySem.W.nsIn K mainGlobals "_law_shuffled" = some (some (.ref f13))) (l13 : K.lookup f13 = some ⟨oc13, od13, .func (PySem.W.fnOf "_law_shuffled" "_law_shuffled" (defArgs s_13) (defBody s_13) (defScope s_13) .none kV13 dc13 pm13 an13 cd13 ct13), sl13⟩) (c13 : PySem.W.codeIn K cd13 "_law_shuffled" = true) (k13 : PySem.W.keepIn K (.ref f13) = true)
    (a14 : PySem.W.nsIn K mainGlobals "_law_word" = some (some (.ref f14))) (l14 : K.lookup f14 = some ⟨oc14, od14, .func (PySem.W.fnOf "_law_word" "_law_word" (defArgs s_14) (defBody s_14) (defScope s_14) .none kV14 dc14 pm14 an14 cd14 ct14), sl14⟩) (c14 : PySem.W.codeIn K cd14 "_law_word" = true) (k14 : PySem.W.keepIn K (.ref f14) = true)
    (a15 : PySem.W.nsIn K mainGlobals "_law_parent_row" = some (some (.ref f15))) (l15 : K.lookup f15 = some ⟨oc15, od15, .func (PySem.W.fnOf "_law_parent_row" "_law_parent_row" (defArgs s_15) (defBody s_15) (defScope s_15) .none kV15 dc15 pm15 an15 cd15 ct15), sl15⟩) (c15 : PySem.W.codeIn K cd15 "_law_parent_row" = true) (k15 : PySem.W.keepIn K (.ref f15) = true)
    (a16 : PySem.W.nsIn K mainGlobals "_law_is_below" = some (some (.ref f16))) (l16 : K.lookup f16 = some ⟨oc16, od16, .func (PySem.W.fnOf "_law_is_below" "_law_is_below" (defArgs s_16) (defBody s_16) (defScope s_16) .none kV16 dc16 pm16 an16 cd16 ct16), sl16⟩) (c16 : PySem.W.codeIn K cd16 "_law_is_below" = true) (k16 : PySem.W.keepIn K (.ref f16) = true)
    (a17 : PySem.W.nsIn K mainGlobals "_law_children" = some (some (.ref f17))) (l17 : K.lookup f17 = some ⟨oc17, od17, .func (PySem.W.fnOf "_law_children" "_law_children" (defArgs s_17) (defBody s_17) (defScope s_17) .none kV17 dc17 pm17 an17 cd17 ct17), sl17⟩) (c17 : PySem.W.codeIn K cd17 "_law_children" = true) (k17 : PySem.W.keepIn K (.ref f17) = true)
    (a18 : PySem.W.nsIn K mainGlobals "_law_stop" = some (some (.ref f18))) (l18 : K.lookup f18 = some ⟨oc18, od18, .func (PySem.W.fnOf "_law_stop" "_law_stop" (defArgs s_18) (defBody s_18) (defScope s_18) .none kV18 dc18 pm18 an18 cd18 ct18), sl18⟩) (c18 : PySem.W.codeIn K cd18 "_law_stop" = true) (k18 : PySem.W.keepIn K (.ref f18) = true)
    (a19 : PySem.W.nsIn K mainGlobals "_law_end_of" = some (some (.ref f19))) (l19 : K.lookup f19 = some ⟨oc19, od19, .func (PySem.W.fnOf "_law_end_of" "_law_end_of" (defArgs s_19) (defBody s_19) (defScope s_19) .none kV19 dc19 pm19 an19 cd19 ct19), sl19⟩) (c19 : PySem.W.codeIn K cd19 "_law_end_of" = true) (k19 : PySem.W.keepIn K (.ref f19) = true)
    (a20 : PySem.W.nsIn K mainGlobals "_law_scope_event" = some (some (.ref f20))) (l20 : K.lookup f20 = some ⟨oc20, od20, .func (PySem.W.fnOf "_law_scope_event" "_law_scope_event" (defArgs s_20) (defBody s_20) (defScope s_20) .none kV20 dc20 pm20 an20 cd20 ct20), sl20⟩) (c20 : PySem.W.codeIn K cd20 "_law_scope_event" = true) (k20 : PySem.W.keepIn K (.ref f20) = true)
    (a21 : PySem.W.nsIn K mainGlobals "_law_scope_words" = some (some (.ref f21))) (l21 : K.lookup f21 = some ⟨oc21, od21, .func (PySem.W.fnOf "_law_scope_words" "_law_scope_words" (defArgs s_21) (defBody s_21) (defScope s_21) .none kV21 dc21 pm21 an21 cd21 ct21), sl21⟩) (c21 : PySem.W.codeIn K cd21 "_law_scope_words" = true) (k21 : PySem.W.keepIn K (.ref f21) = true)
    (a22 : PySem.W.nsIn K mainGlobals "_law_scope_stages" = some (some (.ref f22))) (l22 : K.lookup f22 = some ⟨oc22, od22, .func (PySem.W.fnOf "_law_scope_stages" "_law_scope_stages" (defArgs s_22) (defBody s_22) (defScope s_22) .none kV22 dc22 pm22 an22 cd22 ct22), sl22⟩) (c22 : PySem.W.codeIn K cd22 "_law_scope_stages" = true) (k22 : PySem.W.keepIn K (.ref f22) = true)
    (a23 : PySem.W.nsIn K mainGlobals "_law_tree" = some (some (.ref f23))) (l23 : K.lookup f23 = some ⟨oc23, od23, .func (PySem.W.fnOf "_law_tree" "_law_tree" (defArgs s_23) (defBody s_23) (defScope s_23) .none kV23 dc23 pm23 an23 cd23 ct23), sl23⟩) (c23 : PySem.W.codeIn K cd23 "_law_tree" = true) (k23 : PySem.W.keepIn K (.ref f23) = true)
    (a24 : PySem.W.nsIn K mainGlobals "_law_scope_events" = some (some (.ref f24))) (l24 : K.lookup f24 = some ⟨oc24, od24, .func (PySem.W.fnOf "_law_scope_events" "_law_scope_events" (defArgs s_24) (defBody s_24) (defScope s_24) .none kV24 dc24 pm24 an24 cd24 ct24), sl24⟩) (c24 : PySem.W.codeIn K cd24 "_law_scope_events" = true) (k24 : PySem.W.keepIn K (.ref f24) = true)
    (a25 : PySem.W.nsIn K mainGlobals "_law_told_cases" = some (some (.ref f25))) (l25 : K.lookup f25 = some ⟨oc25, od25, .func (PySem.W.fnOf "_law_told_cases" "_law_told_cases" (defArgs s_25) (defBody s_25) (defScope s_25) .none kV25 dc25 pm25 an25 cd25 ct25), sl25⟩) (c25 : PySem.W.codeIn K cd25 "_law_told_cases" = true) (k25 : PySem.W.keepIn K (.ref f25) = true)
    (a26 : PySem.W.nsIn K mainGlobals "law" = some (some (.ref f26))) (l26 : K.lookup f26 = some ⟨oc26, od26, .func (PySem.W.fnOf "law" "law" (defArgs s_26) (defBody s_26) (defScope s_26) .none kV26 dc26 pm26 an26 cd26 ct26), sl26⟩) (c26 : PySem.W.codeIn K cd26 "law" = true) (k26 : PySem.W.keepIn K (.ref f26) = true)
    (z_all : PySem.W.nsIn K mainGlobals "all" = some none)
    (z_bool : PySem.W.nsIn K mainGlobals "bool" = some none)
    (z_enumerate : PySem.W.nsIn K mainGlobals "enumerate" = some none)
    (z_int : PySem.W.nsIn K mainGlobals "int" = some none)
    (z_isinstance : PySem.W.nsIn K mainGlobals "isinstance" = some none)
    (z_len : PySem.W.nsIn K mainGlobals "len" = some none)
    (z_list : PySem.W.nsIn K mainGlobals "list" = some none)
    (z_max : PySem.W.nsIn K mainGlobals "max" = some none)
    (z_range : PySem.W.nsIn K mainGlobals "range" = some none)
    (z_reversed : PySem.W.nsIn K mainGlobals "reversed" = some none)
    (z_str : PySem.W.nsIn K mainGlobals "str" = some none)
    (z_tuple : PySem.W.nsIn K mainGlobals "tuple" = some none) :
    ∃ (fd : FuncData) (tt : LT), (∀ t ∈ tt, t.1 ∈ lamNames ∧ PySem.W.tabIn K t.1 = some t.2 ∧ K.lookup t.2.2 = none) ∧ (∀ (s : Shared) (v : Value), BindsTo s fd ⟨[v], []⟩ [("script", v)]) ∧ ∀ base : Heap, K.In base → base.Ns mainGlobals mg → (∀ t ∈ tt, LamX.TabB base mg t.2.1 t.2.2) → FnOk l.prog w K mg base CX0 (4 * 40) fa fd ["script"] (liftF ⟨K, w, tblOf tt⟩ (fs 26).np (sem fs 40 26)) := by
  have e : f26 = fa := by
    have e := hfa.symm.trans (PySem.W.mg_of X G a26)
    cases e
    rfl
  subst e
  have F0 := fun_mk (st := s_0) l0 c0 k0
  have F1 := fun_mk (st := s_1) l1 c1 k1
  have F2 := fun_mk (st := s_2) l2 c2 k2
  have F3 := fun_mk (st := s_3) l3 c3 k3
  have F4 := fun_mk (st := s_4) l4 c4 k4
  have F5 := fun_mk (st := s_5) l5 c5 k5
  have F6 := fun_mk (st := s_6) l6 c6 k6
  have F7 := fun_mk (st := s_7) l7 c7 k7
  have F8 := fun_mk (st := s_8) l8 c8 k8
  have F9 := fun_mk (st := s_9) l9 c9 k9
  have F10 := fun_mk (st := s_10) l10 c10 k10
  have F11 := fun_mk (st := s_11) l11 c11 k11
  have F12 := fun_mk (st := s_12) l12 c12 k12
  have F13 := fun_mk (st := s_13) l13 c13 k13
  have F14 := fun_mk (st := s_14) l14 c14 k14
  have F15 := fun_mk (st := s_15) l15 c15 k15
  have F16 := fun_mk (st := s_16) l16 c16 k16
  have F17 := fun_mk (st := s_17) l17 c17 k17
  have F18 := fun_mk (st := s_18) l18 c18 k18
  have F19 := fun_mk (st := s_19) l19 c19 k19
  have F20 := fun_mk (st := s_20) l20 c20 k20
  have F21 := fun_mk (st := s_21) l21 c21 k21
  have F22 := fun_mk (st := s_22) l22 c22 k22
  have F23 := fun_mk (st := s_23) l23 c23 k23
  have F24 := fun_mk (st := s_24) l24 c24 k24
  have F25 := fun_mk (st := s_25) l25 c25 k25
  have F26 := fun_mk (st := s_26) l26 c26 k26
  let T : Txt K w mg [] := ⟨fun i => [f0, f1, f2, f3, f4, f5, f6, f7, f8, f9, f10, f11, f12, f13, f14, f15, f16, f17, f18, f19, f20, f21, f22, f23, f24, f25, f26].getD i 0, fun i => ([PySem.W.fnOf "__init__" "Family.__init__" (defArgs s_0) (defBody s_0) (defScope s_0) .none kV0 dc0 pm0 an0 cd0 ct0, PySem.W.fnOf "all_below" "Family.all_below" (defArgs s_1) (defBody s_1) (defScope s_1) .none kV1 dc1 pm1 an1 cd1 ct1, PySem.W.fnOf "cancel_own" "Family.cancel_own" (defArgs s_2) (defBody s_2) (defScope s_2) .none kV2 dc2 pm2 an2 cd2 ct2, PySem.W.fnOf "happen" "Family.happen" (defArgs s_3) (defBody s_3) (defScope s_3) .none kV3 dc3 pm3 an3 cd3 ct3, PySem.W.fnOf "end_more" "Family.end_more" (defArgs s_4) (defBody s_4) (defScope s_4) .none kV4 dc4 pm4 an4 cd4 ct4, PySem.W.fnOf "can_end" "Family.can_end" (defArgs s_5) (defBody s_5) (defScope s_5) .none kV5 dc5 pm5 an5 cd5 ct5, PySem.W.fnOf "ending" "Family.ending" (defArgs s_6) (defBody s_6) (defScope s_6) .none kV6 dc6 pm6 an6 cd6 ct6, PySem.W.fnOf "hurt_parent" "Family.hurt_parent" (defArgs s_7) (defBody s_7) (defScope s_7) .none kV7 dc7 pm7 an7 cd7 ct7, PySem.W.fnOf "scopes_behind" "scopes_behind" (defArgs s_8) (defBody s_8) (defScope s_8) .none kV8 dc8 pm8 an8 cd8 ct8, PySem.W.fnOf "_law_draws" "_law_draws" (defArgs s_9) (defBody s_9) (defScope s_9) .none kV9 dc9 pm9 an9 cd9 ct9, PySem.W.fnOf "_law_take" "_law_take" (defArgs s_10) (defBody s_10) (defScope s_10) .none kV10 dc10 pm10 an10 cd10 ct10, PySem.W.fnOf "_law_pick" "_law_pick" (defArgs s_11) (defBody s_11) (defScope s_11) .none kV11 dc11 pm11 an11 cd11 ct11, PySem.W.fnOf "_law_same" "_law_same" (defArgs s_12) (defBody s_12) (defScope s_12) .none kV12 dc12 pm12 an12 cd12 ct12, PySem.W.fnOf "_law_shuffled" "_law_shuffled" (defArgs s_13) (defBody s_13) (defScope s_13) .none kV13 dc13 pm13 an13 cd13 ct13, PySem.W.fnOf "_law_word" "_law_word" (defArgs s_14) (defBody s_14) (defScope s_14) .none kV14 dc14 pm14 an14 cd14 ct14, PySem.W.fnOf "_law_parent_row" "_law_parent_row" (defArgs s_15) (defBody s_15) (defScope s_15) .none kV15 dc15 pm15 an15 cd15 ct15, PySem.W.fnOf "_law_is_below" "_law_is_below" (defArgs s_16) (defBody s_16) (defScope s_16) .none kV16 dc16 pm16 an16 cd16 ct16, PySem.W.fnOf "_law_children" "_law_children" (defArgs s_17) (defBody s_17) (defScope s_17) .none kV17 dc17 pm17 an17 cd17 ct17, PySem.W.fnOf "_law_stop" "_law_stop" (defArgs s_18) (defBody s_18) (defScope s_18) .none kV18 dc18 pm18 an18 cd18 ct18, PySem.W.fnOf "_law_end_of" "_law_end_of" (defArgs s_19) (defBody s_19) (defScope s_19) .none kV19 dc19 pm19 an19 cd19 ct19, PySem.W.fnOf "_law_scope_event" "_law_scope_event" (defArgs s_20) (defBody s_20) (defScope s_20) .none kV20 dc20 pm20 an20 cd20 ct20, PySem.W.fnOf "_law_scope_words" "_law_scope_words" (defArgs s_21) (defBody s_21) (defScope s_21) .none kV21 dc21 pm21 an21 cd21 ct21, PySem.W.fnOf "_law_scope_stages" "_law_scope_stages" (defArgs s_22) (defBody s_22) (defScope s_22) .none kV22 dc22 pm22 an22 cd22 ct22, PySem.W.fnOf "_law_tree" "_law_tree" (defArgs s_23) (defBody s_23) (defScope s_23) .none kV23 dc23 pm23 an23 cd23 ct23, PySem.W.fnOf "_law_scope_events" "_law_scope_events" (defArgs s_24) (defBody s_24) (defScope s_24) .none kV24 dc24 pm24 an24 cd24 ct24, PySem.W.fnOf "_law_told_cases" "_law_told_cases" (defArgs s_25) (defBody s_25) (defScope s_25) .none kV25 dc25 pm25 an25 cd25 ct25, PySem.W.fnOf "law" "law" (defArgs s_26) (defBody s_26) (defScope s_26) .none kV26 dc26 pm26 an26 cd26 ct26]).getD i (PySem.W.fnOf "law" "law" (defArgs s_26) (defBody s_26) (defScope s_26) .none kV26 dc26 pm26 an26 cd26 ct26), (by simp),
    C_Family, ⟨aC_Family, ⟨pg_Family, hd_Family, po_Family, sa_Family⟩, fun f hf => (by
      unfold nm_Family at hf; simp only [List.mem_cons, List.not_mem_nil, or_false] at hf
      rcases hf with rfl | rfl | rfl | rfl | rfl
      · exact no_Family_0
      · exact no_Family_1
      · exact no_Family_2
      · exact no_Family_3
      · exact no_Family_4), (by unfold nm_Family; decide +kernel), (by decide)⟩, PySem.W.mg_of X G aC_Family, ⟨mk_Family, a0, i0, kc_Family⟩,
    F0, F0.binds (ps := P_0) (fun _ _ _ _ _ _ us hl => match us, hl with | [_, _], _ => rfl), ⟨a0, i0, k0⟩,
    F1, F1.binds (ps := P_1) (fun _ _ _ _ _ _ us hl => match us, hl with | [_, _], _ => rfl), ⟨a1, i1, k1⟩,
    F2, F2.binds (ps := P_2) (fun _ _ _ _ _ _ us hl => match us, hl with | [_, _], _ => rfl), ⟨a2, i2, k2⟩,
    F3, F3.binds (ps := P_3) (fun _ _ _ _ _ _ us hl => match us, hl with | [_, _], _ => rfl), ⟨a3, i3, k3⟩,
    F4, F4.binds (ps := P_4) (fun _ _ _ _ _ _ us hl => match us, hl with | [_], _ => rfl), ⟨a4, i4, k4⟩,
    F5, F5.binds (ps := P_5) (fun _ _ _ _ _ _ us hl => match us, hl with | [_, _], _ => rfl), ⟨a5, i5, k5⟩,
    F6, F6.binds (ps := P_6) (fun _ _ _ _ _ _ us hl => match us, hl with | [_, _], _ => rfl), ⟨a6, i6, k6⟩,
    F7, F7.binds (ps := P_7) (fun _ _ _ _ _ _ us hl => match us, hl with | [_, _], _ => rfl), ⟨a7, i7, k7⟩,
    F8, F8.binds (ps := P_8) (fun _ _ _ _ _ _ us hl => match us, hl with | [_, _], _ => rfl), PySem.W.mg_of X G a8,
    F9, F9.binds (ps := P_9) (fun _ _ _ _ _ _ us hl => match us, hl with | [_, _], _ => rfl), PySem.W.mg_of X G a9,
    F10, F10.binds (ps := P_10) (fun _ _ _ _ _ _ us hl => match us, hl with | [_, _], _ => rfl), PySem.W.mg_of X G a10,
    F11, F11.binds (ps := P_11) (fun _ _ _ _ _ _ us hl => match us, hl with | [_, _], _ => rfl), PySem.W.mg_of X G a11,
    F12, F12.binds (ps := P_12) (fun _ _ _ _ _ _ us hl => match us, hl with | [_, _], _ => rfl), PySem.W.mg_of X G a12,
    F13, F13.binds (ps := P_13) (fun _ _ _ _ _ _ us hl => match us, hl with | [_, _], _ => rfl), PySem.W.mg_of X G a13,
    F14, F14.binds (ps := P_14) (fun _ _ _ _ _ _ us hl => match us, hl with | [_], _ => rfl), PySem.W.mg_of X G a14,
    F15, F15.binds (ps := P_15) (fun _ _ _ _ _ _ us hl => match us, hl with | [_, _], _ => rfl), PySem.W.mg_of X G a15,
    F16, F16.binds (ps := P_16) (fun _ _ _ _ _ _ us hl => match us, hl with | [_, _, _], _ => rfl), PySem.W.mg_of X G a16,
    F17, F17.binds (ps := P_17) (fun _ _ _ _ _ _ us hl => match us, hl with | [_, _], _ => rfl), PySem.W.mg_of X G a17,
    F18, F18.binds (ps := P_18) (fun _ _ _ _ _ _ us hl => match us, hl with | [_, _, _], _ => rfl), PySem.W.mg_of X G a18,
    F19, F19.binds (ps := P_19) (fun _ _ _ _ _ _ us hl => match us, hl with | [_, _, _, _], _ => rfl), PySem.W.mg_of X G a19,
    F20, F20.binds (ps := P_20) (fun _ _ _ _ _ _ us hl => match us, hl with | [_, _, _, _], _ => rfl), PySem.W.mg_of X G a20,
    F21, F21.binds (ps := P_21) (fun _ _ _ _ _ _ us hl => match us, hl with | [_], _ => rfl), PySem.W.mg_of X G a21,
    F22, F22.binds (ps := P_22) (fun _ _ _ _ _ _ us hl => match us, hl with | [_, _], _ => rfl), PySem.W.mg_of X G a22,
    F23, F23.binds (ps := P_23) (fun _ _ _ _ _ _ us hl => match us, hl with | [_, _], _ => rfl), PySem.W.mg_of X G a23,
    F24, F24.binds (ps := P_24) (fun _ _ _ _ _ _ us hl => match us, hl with | [_, _, _], _ => rfl), PySem.W.mg_of X G a24,
    F25, F25.binds (ps := P_25) (fun _ _ _ _ _ _ us hl => match us, hl with | [_], _ => rfl), PySem.W.mg_of X G a25,
    F26, F26.binds (ps := P_26) (fun _ _ _ _ _ _ us hl => match us, hl with | [_], _ => rfl), PySem.W.mg_of X G a26,
    PySem.W.mg_none_of X G z_all,
    PySem.W.mg_none_of X G z_bool,
    PySem.W.mg_none_of X G z_enumerate,
    PySem.W.mg_none_of X G z_int,
    PySem.W.mg_none_of X G z_isinstance,
    PySem.W.mg_none_of X G z_len,
    PySem.W.mg_none_of X G z_list,
    PySem.W.mg_none_of X G z_max,
    PySem.W.mg_none_of X G z_range,
    PySem.W.mg_none_of X G z_reversed,
    PySem.W.mg_none_of X G z_str,
    PySem.W.mg_none_of X G z_tuple⟩
  have hT : ∀ t ∈ ([] : LT), t.1 ∈ lamNames ∧ PySem.W.tabIn K t.1 = some t.2 ∧ K.lookup t.2.2 = none := by
    intro t ht
    cases ht
  refine ⟨PySem.W.fnOf "law" "law" (defArgs s_26) (defBody s_26) (defScope s_26) .none kV26 dc26 pm26 an26 cd26 ct26, [], hT, fun s v => .of_eq rfl, fun base _ _ hB => ?_⟩
  exact (all (P := l.prog) (w := w) (base := base) T hB 40).o26
end Gk66
open PySem PySem.W PyProof.Rows
theorem PySem.Challenge.cw_promiseskept_k66_scopes_behind_events_holds : PySem.Challenge.rw_promiseskept_k66_scopes_behind_events.Holds := by
  w_on; o_law; k_head; (case hw => w_witness2)
  k_fill
  refine DL.walk_end (l := PySem.Challenge.rw_promiseskept_k66_scopes_behind_events) (k := 40) (fs := Gk66.fs) (i := 26) Gk66.lamNames rfl rfl ⟨rfl, by decide, by decide⟩ rfl (fun w h Y => PySem.W.kIn_of Y) (by decide +kernel) ?F Gk66.law_ok
  case F =>
    intro w mg fa h KX G hmg
    refine' Gk66.all_mk KX G hmg ?aC_Family ?pg_Family ?hd_Family ?po_Family ?sa_Family ?mk_Family ?kc_Family ?no_Family_0 ?no_Family_1 ?no_Family_2 ?no_Family_3 ?no_Family_4 ?a0 ?i0 ?l0 ?c0 ?k0 ?a1 ?i1 ?l1 ?c1 ?k1 ?a2 ?i2 ?l2 ?c2 ?k2 ?a3 ?i3 ?l3 ?c3 ?k3 ?a4 ?i4 ?l4 ?c4 ?k4 ?a5 ?i5 ?l5 ?c5 ?k5 ?a6 ?i6 ?l6 ?c6 ?k6 ?a7 ?i7 ?l7 ?c7 ?k7 ?a8 ?l8 ?c8 ?k8 ?a9 ?l9 ?c9 ?k9 ?a10 ?l10 ?c10 ?k10 ?a11 ?l11 ?c11 ?k11 ?a12 ?l12 ?c12 ?k12 ?a13 ?l13 ?c13 ?k13 ?a14 ?l14 ?c14 ?k14 ?a15 ?l15 ?c15 ?k15 ?a16 ?l16 ?c16 ?k16 ?a17 ?l17 ?c17 ?k17 ?a18 ?l18 ?c18 ?k18 ?a19 ?l19 ?c19 ?k19 ?a20 ?l20 ?c20 ?k20 ?a21 ?l21 ?c21 ?k21 ?a22 ?l22 ?c22 ?k22 ?a23 ?l23 ?c23 ?k23 ?a24 ?l24 ?c24 ?k24 ?a25 ?l25 ?c25 ?k25 ?a26 ?l26 ?c26 ?k26 ?z_all ?z_bool ?z_enumerate ?z_int ?z_isinstance ?z_len ?z_list ?z_max ?z_range ?z_reversed ?z_str ?z_tuple
    (case aC_Family => k_is); (case pg_Family => k_is); (case hd_Family => k_is); (case po_Family => k_is); (case sa_Family => k_is); (case mk_Family => k_is); (case kc_Family => k_is); (case no_Family_0 => k_is); (case no_Family_1 => k_is); (case no_Family_2 => k_is); (case no_Family_3 => k_is); (case no_Family_4 => k_is)
    (case a0 => k_is); (case i0 => k_is); (case l0 => k_is); (case c0 => k_is); (case k0 => k_is)
    (case a1 => k_is); (case i1 => k_is); (case l1 => k_is); (case c1 => k_is); (case k1 => k_is)
    (case a2 => k_is); (case i2 => k_is); (case l2 => k_is); (case c2 => k_is); (case k2 => k_is)
    (case a3 => k_is); (case i3 => k_is); (case l3 => k_is); (case c3 => k_is); (case k3 => k_is)
    (case a4 => k_is); (case i4 => k_is); (case l4 => k_is); (case c4 => k_is); (case k4 => k_is)
    (case a5 => k_is); (case i5 => k_is); (case l5 => k_is); (case c5 => k_is); (case k5 => k_is)
    (case a6 => k_is); (case i6 => k_is); (case l6 => k_is); (case c6 => k_is); (case k6 => k_is)
    (case a7 => k_is); (case i7 => k_is); (case l7 => k_is); (case c7 => k_is); (case k7 => k_is)
    (case a8 => k_is); (case l8 => k_is); (case c8 => k_is); (case k8 => k_is)
    (case a9 => k_is); (case l9 => k_is); (case c9 => k_is); (case k9 => k_is)
    (case a10 => k_is); (case l10 => k_is); (case c10 => k_is); (case k10 => k_is)
    (case a11 => k_is); (case l11 => k_is); (case c11 => k_is); (case k11 => k_is)
    (case a12 => k_is); (case l12 => k_is); (case c12 => k_is); (case k12 => k_is)
    (case a13 => k_is); (case l13 => k_is); (case c13 => k_is); (case k13 => k_is)
    (case a14 => k_is); (case l14 => k_is); (case c14 => k_is); (case k14 => k_is)
    (case a15 => k_is); (case l15 => k_is); (case c15 => k_is); (case k15 => k_is)
    (case a16 => k_is); (case l16 => k_is); (case c16 => k_is); (case k16 => k_is)
    (case a17 => k_is); (case l17 => k_is); (case c17 => k_is); (case k17 => k_is)
    (case a18 => k_is); (case l18 => k_is); (case c18 => k_is); (case k18 => k_is)
    (case a19 => k_is); (case l19 => k_is); (case c19 => k_is); (case k19 => k_is)
    (case a20 => k_is); (case l20 => k_is); (case c20 => k_is); (case k20 => k_is)
    (case a21 => k_is); (case l21 => k_is); (case c21 => k_is); (case k21 => k_is)
    (case a22 => k_is); (case l22 => k_is); (case c22 => k_is); (case k22 => k_is)
    (case a23 => k_is); (case l23 => k_is); (case c23 => k_is); (case k23 => k_is)
    (case a24 => k_is); (case l24 => k_is); (case c24 => k_is); (case k24 => k_is)
    (case a25 => k_is); (case l25 => k_is); (case c25 => k_is); (case k25 => k_is)
    (case a26 => k_is); (case l26 => k_is); (case c26 => k_is); (case k26 => k_is)
    (case z_all => k_is)
    (case z_bool => k_is)
    (case z_enumerate => k_is)
    (case z_int => k_is)
    (case z_isinstance => k_is)
    (case z_len => k_is)
    (case z_list => k_is)
    (case z_max => k_is)
    (case z_range => k_is)
    (case z_reversed => k_is)
    (case z_str => k_is)
    (case z_tuple => k_is)
