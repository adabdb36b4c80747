import PyProof.Rows.All
import Wide.All
import OpenK.AllK
import Wide.FinOn
import HandS.ForMost
import HandS.Wide
import HandS.TupAny
import KE.KDictKeyed
import HandS.Nested
import HandS.EndTab
import HandS.TupMul
import HandS.Style
import KE.KxText
import HandS.IsInst
import KE.DataEq
import KE.DataFind
import KE.DataCmp
import KE.SortData
import KE.DataMinMax
import HandS.SortInts
import HandS.Rev
import HandS.RevRange
import HandS.Zip
import HandS.Conv
import HandS.Iter
import HandS.More
import HandS.SetFor
import HandS.Strs
import HandS.Dict
import KE.KDictItemsList
import KE.KDictDisplayH
import HandS.DictComp
import KE.GoesMore
import KE.GoesEnum
import HandS.NoneIn
import HandS.TupSets
import HandS.Flow
import KE.SortKeyHeap
import KE.DataMinKey
import KE.KDictWalk
import PySem.Challenge.RW_promiseskept_k40_programs_alike
set_option Elab.async false
set_option linter.all false
set_option maxRecDepth 100000
set_option maxHeartbeats 4000000
namespace DL
open PySem PySem.Spec PyProof.Rows L2 LamX
/-- the frozen part and the world -/
abbrev Tbl := List (Addr × Str)
structure FW where
  K : PySem.W.Frag
  w : World
  tb : Tbl
instance : Coe FW PySem.W.Frag := ⟨FW.K⟩
abbrev xfw (X : Cx) (tb : Tbl) : FW := ⟨X.K, X.w, tb⟩
inductive D where
  | non | bl (b : Bool) | int (i : Int) | str (x : Str) | tup (xs : List D) | ref (a : Addr) | ty (n : String) | fl (xs : List D)
/-- what stands raw in a dict -/
structure DStm where
  es : Array DictEntry
  ep : Nat
inductive DO where
  | lst (xs : List D) | ins (C : Addr) (fs : List (Str × D)) | dct (st : DStm) (kvs : List (D × D)) | dset (xs : List D)
abbrev DS := Addr → Option DO
def dupd (S : DS) (a : Addr) (o : DO) : DS := fun b => if b = a then some o else S b
theorem dupd_same {S : DS} {a : Addr} {o : DO} : dupd S a o a = some o := by unfold dupd; rw [if_pos rfl]
theorem dupd_ne {S : DS} {a b : Addr} {o : DO} (h : b ≠ a) : dupd S a o b = S b := by unfold dupd; rw [if_neg h]
theorem dne {S : DS} {a b : Addr} {o : DO} (h : S a = some o) (h' : S b = none) : a ≠ b := by
  intro e; subst e; rw [h] at h'; cases h'
/-- a list that nobody writes: the frozen script, a list of the module -/
def FqL (K : PySem.W.Frag) (H : Hp) (a : Addr) (vs : List V) : Prop :=
  (∃ o, H a = some (.frz o (.lst vs))) ∨
    ∃ (o : Obj) (its : Array Value) (n : Nat), K.lookup a = some o ∧ o.cls = .type "list" ∧ o.dict = none ∧ o.data = .seq its n ∧ its.size ≤ sizeLine ∧ Vals vs its.toList
theorem FqL.sq {K : PySem.W.Frag} {H : Hp} {a : Addr} {vs : List V} (h : FqL K H a vs) : SqL K H a vs := h.elim (fun h => .inl (.inr h)) .inr
mutual
inductive Rv (K : FW) (H : Hp) : D → V → Prop
  | non : Rv K H .non .non
  | bl (b : Bool) : Rv K H (.bl b) (.bl b)
  | int (i : Int) : Rv K H (.int i) (.int i)
  | str (x : Str) : Rv K H (.str x) (.str x)
  | ty (n : String) : Rv K H (.ty n) (.ty n)
  | ref (a : Addr) : Rv K H (.ref a) (.ref a)
  | tup {a : Addr} {vs : List V} {ds : List D} : SqT K H a vs → RvL K H ds vs → Rv K H (.tup ds) (.ref a)
  | fl {a : Addr} {vs : List V} {ds : List D} : FqL K H a vs → RvL K H ds vs → Rv K H (.fl ds) (.ref a)
inductive RvL (K : FW) (H : Hp) : List D → List V → Prop
  | nil : RvL K H [] []
  | cons {d : D} {ds : List D} {v : V} {vs : List V} : Rv K H d v → RvL K H ds vs → RvL K H (d :: ds) (v :: vs)
end
section
variable {K : FW} {H H' : Hp}
mutual
theorem Rv.mono (h1 : ∀ a vs, SqT K H a vs → SqT K H' a vs) (h2 : ∀ a vs, FqL K H a vs → FqL K H' a vs) : ∀ (d : D) (v : V), Rv K H d v → Rv K H' d v
  | .non, _, r => by cases r; exact .non
  | .bl _, _, r => by cases r; exact .bl _
  | .int _, _, r => by cases r; exact .int _
  | .str _, _, r => by cases r; exact .str _
  | .ty _, _, r => by cases r; exact .ty _
  | .ref _, _, r => by cases r; exact .ref _
  | .tup ds, _, r => by
    cases r with
    | tup q rr => exact .tup (h1 _ _ q) (RvL.mono h1 h2 ds _ rr)
  | .fl ds, _, r => by
    cases r with
    | fl q rr => exact .fl (h2 _ _ q) (RvL.mono h1 h2 ds _ rr)
theorem RvL.mono (h1 : ∀ a vs, SqT K H a vs → SqT K H' a vs) (h2 : ∀ a vs, FqL K H a vs → FqL K H' a vs) : ∀ (ds : List D) (vs : List V), RvL K H ds vs → RvL K H' ds vs
  | [], _, r => by cases r; exact .nil
  | d :: ds, _, r => by
    cases r with
    | cons q rr => exact .cons (Rv.mono h1 h2 d _ q) (RvL.mono h1 h2 ds _ rr)
end
theorem RvL.length : ∀ {ds : List D} {vs : List V}, RvL K H ds vs → ds.length = vs.length
  | [], _, r => by cases r; rfl
  | d :: ds, _, r => by
    cases r with
    | cons q rr => simp [RvL.length rr]
theorem RvL.get : ∀ {ds : List D} {vs : List V} {i : Nat} {d : D}, RvL K H ds vs → ds[i]? = some d → ∃ v, vs[i]? = some v ∧ Rv K H d v
  | [], _, _, _, r, e => by simp at e
  | d :: ds, _, 0, x, r, e => by
    cases r with
    | cons q rr => simp at e; subst e; exact ⟨_, rfl, q⟩
  | d :: ds, _, i + 1, x, r, e => by
    cases r with
    | cons q rr =>
      obtain ⟨v, h1, h2⟩ := RvL.get (i := i) (d := x) rr (by simpa using e)
      exact ⟨v, by simpa using h1, h2⟩
theorem RvL.getv : ∀ {ds : List D} {vs : List V} {i : Nat} {v : V}, RvL K H ds vs → vs[i]? = some v → ∃ d, ds[i]? = some d ∧ Rv K H d v
  | [], _, _, _, r, e => by cases r; simp at e
  | d :: ds, _, 0, x, r, e => by
    cases r with
    | cons q rr => simp at e; subst e; exact ⟨_, rfl, q⟩
  | d :: ds, _, i + 1, x, r, e => by
    cases r with
    | cons q rr =>
      obtain ⟨v, h1, h2⟩ := RvL.getv (i := i) (v := x) rr (by simpa using e)
      exact ⟨v, by simpa using h1, h2⟩
theorem RvL.append : ∀ {ds es : List D} {vs ws : List V}, RvL K H ds vs → RvL K H es ws → RvL K H (ds ++ es) (vs ++ ws)
  | [], _, _, _, r, q => by cases r; exact q
  | d :: ds, _, _, _, r, q => by
    cases r with
    | cons a rr => exact .cons a (RvL.append rr q)
theorem RvL.take : ∀ {ds : List D} {vs : List V} (n : Nat), RvL K H ds vs → RvL K H (ds.take n) (vs.take n)
  | _, _, 0, _ => by simp only [List.take_zero]; exact .nil
  | [], _, n + 1, r => by cases r; exact .nil
  | d :: ds, _, n + 1, r => by
    cases r with
    | cons a rr => exact .cons a (RvL.take n rr)
theorem RvL.drop : ∀ {ds : List D} {vs : List V} (n : Nat), RvL K H ds vs → RvL K H (ds.drop n) (vs.drop n)
  | _, _, 0, r => r
  | [], _, n + 1, r => by cases r; exact .nil
  | d :: ds, _, n + 1, r => by
    cases r with
    | cons a rr => exact RvL.drop n rr
theorem RvL.set {d : D} {v : V} (q : Rv K H d v) : ∀ {ds : List D} {vs : List V} (n : Nat), RvL K H ds vs → RvL K H (ds.set n d) (vs.set n v)
  | [], _, n, r => by cases r; exact .nil
  | e :: ds, _, 0, r => by
    cases r with
    | cons a rr => exact .cons q rr
  | e :: ds, _, n + 1, r => by
    cases r with
    | cons a rr => exact .cons a (RvL.set q n rr)
theorem RvL.reverse : ∀ {ds : List D} {vs : List V}, RvL K H ds vs → RvL K H ds.reverse vs.reverse
  | [], _, r => by cases r; exact .nil
  | d :: ds, _, r => by
    cases r with
    | cons a rr => rw [List.reverse_cons, List.reverse_cons]; exact RvL.append (RvL.reverse rr) (.cons a .nil)
theorem RvL.erase : ∀ {ds : List D} {vs : List V} (n : Nat), RvL K H ds vs → RvL K H (ds.eraseIdx n) (vs.eraseIdx n)
  | [], _, n, r => by cases r; exact .nil
  | d :: ds, _, 0, r => by
    cases r with
    | cons a rr => exact rr
  | d :: ds, _, n + 1, r => by
    cases r with
    | cons a rr => exact .cons a (RvL.erase n rr)
theorem RvL.dropLast : ∀ {ds : List D} {vs : List V}, RvL K H ds vs → RvL K H ds.dropLast vs.dropLast := fun {ds vs} r => by
  rw [List.dropLast_eq_take, List.dropLast_eq_take, ← r.length]; exact r.take _
theorem RvL.ints : ∀ (ns : List Int), RvL K H (ns.map D.int) (ns.map V.int)
  | [] => .nil
  | n :: ns => .cons (.int n) (RvL.ints ns)
end
mutual
/-- a value as a key -/
def nk : D → Option NestedKey
  | .non => some .none | .int i => some (.num i) | .str x => some (.text x) | .bl _ => none | .ref _ => none | .ty _ => none | .fl _ => none
  | .tup xs => match nks xs with
    | some ks => some (.tup ks)
    | none => none
def nks : List D → Option (List NestedKey)
  | [] => some []
  | x :: xs => match nk x with
    | some k => match nks xs with
      | some ks => some (k :: ks)
      | none => none
    | none => none
end
/-- the raw dict at a -/
def rawO (a : Addr) (st : DStm) : HO := .ext fun h => (a == sysModules) = false ∧ h.DictRaw a st.es st.ep
inductive REnt (K : FW) (H : Hp) : List (D × D) → List DictEntry → Prop
  | nil : REnt K H [] []
  | cons {k d : D} {q : NestedKey} {u v : V} {e : DictEntry} {kvs : List (D × D)} {es : List DictEntry} : nk k = some q → e.hash = q.hash K.w → Rv K H k u → RelV u e.key → Rv K H d v → RelV v e.val → REnt K H kvs es → REnt K H ((k, d) :: kvs) (e :: es)
theorem REnt.mono {K : FW} {H H' : Hp} (h1 : ∀ a vs, SqT K H a vs → SqT K H' a vs) (h2 : ∀ a vs, FqL K H a vs → FqL K H' a vs) : ∀ {kvs : List (D × D)} {es : List DictEntry}, REnt K H kvs es → REnt K H' kvs es
  | _, _, .nil => .nil
  | _, _, .cons a b c d e f r => .cons a b (Rv.mono h1 h2 _ _ c) d (Rv.mono h1 h2 _ _ e) f (REnt.mono h1 h2 r)
def Ro (K : FW) (H : Hp) : DO → Addr → Prop
  | .lst xs, a => ∃ vs, H a = some (.lst vs) ∧ RvL K H xs vs
  | .ins C fs, a => ∃ dx vs, H a = some (.ins C dx vs) ∧ fs.map (·.1) = vs.map (·.1) ∧ RvL K H (fs.map (·.2)) (vs.map (·.2))
  | .dct st kvs, a => H a = some (rawO a st) ∧ REnt K H kvs st.es.toList ∧ kvs.length ≤ sizeLine ∧ (kvs.map fun p => nk p.1).Nodup
  | .dset _, _ => False
structure Sim (K : FW) (S : DS) (H : Hp) : Prop where
  has : ∀ a o, S a = some o → Ro K H o a
  tab : Tabs K.tb H
instance {K : FW} {S : DS} {H : Hp} : CoeFun (Sim K S H) (fun _ => ∀ a o, S a = some o → Ro K H o a) := ⟨Sim.has⟩
/-- what no table needs -/
def NoT (o : Option HO) : Prop := (∀ ps, o ≠ some (.tbl ps)) ∧ ∀ c q, o ≠ some (CodeO c q)
theorem NoT.none : NoT none := ⟨fun _ z => (nomatch z), fun _ _ z => (nomatch z)⟩
theorem tabs_upd {tb : Tbl} {H : Hp} {p : Addr} {o : HO} (t : Tabs tb H) (n : NoT (H p)) : Tabs tb (upd H p o) := fun x hx => by
  obtain ⟨ps, h1, h2, h3⟩ := t x hx
  refine ⟨ps, (upd_ne fun z => n.1 ps (by rw [← z]; exact h1)).trans h1, h2, fun pos cv hc => ?_⟩
  obtain ⟨c, e1, e2⟩ := h3 pos cv hc
  exact ⟨c, e1, (upd_ne fun z => n.2 c x.2 (by rw [← z]; exact e2)).trans e2⟩
theorem tabs_new {tb : Tbl} {H : Hp} {p : Addr} {o : HO} (t : Tabs tb H) (n : H p = none) : Tabs tb (upd H p o) := tabs_upd t (by rw [n]; exact .none)
theorem rawO_ne {a c : Addr} {q : Str} {st : DStm} : rawO a st ≠ CodeO c q := fun z => by
  have e : (fun h : Heap => (a == sysModules) = false ∧ h.DictRaw a st.es st.ep) = fun h : Heap => ∃ (oc : Obj) (vs : Array Value) (t : Tok), h.get? c = some oc ∧ oc.data = .fields vs ∧ vs[1]? = some (.str q t) := HO.ext.inj z
  let o : Obj := { cls := .none, data := .fields #[.none, .str q default] }
  let h : Heap := ⟨Array.replicate (c + 1) o, {}⟩
  have g : ∀ b o', h.get? b = some o' → o' = o := fun b o' e => by
    have e' : (match (Array.replicate (c + 1) o)[b]? with
      | some ⟨_, _, .freed, _⟩ => none
      | o => o) = some o' := e
    rw [Array.getElem?_replicate] at e'
    split at e'
    · cases e'
    · rename_i hx
      split at e'
      · exact (Option.some.inj e').symm
      · cases e'
  have gc : h.get? c = some o := by
    show (match (Array.replicate (c + 1) o)[c]? with
      | some ⟨_, _, .freed, _⟩ => none
      | o => o) = some o
    rw [Array.getElem?_replicate, if_pos (Nat.lt_succ_self c)]
  have e1 := congrFun e h
  obtain ⟨_, o', g1, _, hd⟩ := e1.mpr ⟨o, _, _, gc, rfl, rfl⟩
  rw [g a o' g1] at hd
  cases hd
theorem Ro.noT {K : FW} {H : Hp} {o : DO} {a : Addr} (h : Ro K H o a) : NoT (H a) := by
  cases o with
  | lst xs => obtain ⟨vs, e, r⟩ := h; rw [e]; exact ⟨fun _ z => (nomatch z), fun _ _ z => (nomatch z)⟩
  | ins C fs => obtain ⟨dx, vs, e, n, r⟩ := h; rw [e]; exact ⟨fun _ z => (nomatch z), fun _ _ z => (nomatch z)⟩
  | dct st kvs => obtain ⟨e, r⟩ := h; rw [e]; exact ⟨fun _ z => (nomatch z), fun _ _ z => rawO_ne (Option.some.inj z)⟩
  | dset _ => exact h.elim
/-- from S, H to S', H': the tuples stand, what the store does not know stands, the store learns of new things alone -/
structure Stp (S : DS) (H : Hp) (S' : DS) (H' : Hp) : Prop where
  tup : ∀ b xs, H b = some (.tup xs) → H' b = some (.tup xs)
  frz : ∀ b o u, H b = some (.frz o u) → H' b = some (.frz o u)
  keep : ∀ b o, S b = none → (∀ ps, o ≠ .tbl ps) → H b = some o → H' b = some o
  hid : ∀ b, H b ≠ none → S b = none → S' b = none
  live : ∀ b, H b ≠ none → H' b ≠ none
theorem upd_live {H : Hp} {p b : Addr} {o : HO} (h : H b ≠ none) : upd H p o b ≠ none := by
  unfold upd; split <;> simp_all
section
variable {K : FW} {S S' S1 S2 : DS} {H H' H1 H2 : Hp}
theorem Stp.refl (S : DS) (H : Hp) : Stp S H S H := ⟨fun _ _ h => h, fun _ _ _ h => h, fun _ _ _ _ h => h, fun _ _ h => h, fun _ h => h⟩
theorem Stp.trans (a : Stp S H S1 H1) (b : Stp S1 H1 S2 H2) : Stp S H S2 H2 :=
  ⟨fun c xs h => b.tup c xs (a.tup c xs h), fun c o u h => b.frz c o u (a.frz c o u h),
   fun c o n t h => b.keep c o (a.hid c (by rw [h]; simp) n) t (a.keep c o n t h),
   fun c h n => b.hid c (a.live c h) (a.hid c h n), fun c h => b.live c (a.live c h)⟩
/-- tuples and frozen things stand -/
structure Prs (H H' : Hp) : Prop where
  tup : ∀ b xs, H b = some (.tup xs) → H' b = some (.tup xs)
  frz : ∀ b o u, H b = some (.frz o u) → H' b = some (.frz o u)
theorem Stp.prs (a : Stp S H S' H') : Prs H H' := ⟨a.tup, a.frz⟩
theorem Prs.refl (H : Hp) : Prs H H := ⟨fun _ _ h => h, fun _ _ _ h => h⟩
theorem Prs.trans (a : Prs H H1) (b : Prs H1 H2) : Prs H H2 := ⟨fun c xs h => b.tup c xs (a.tup c xs h), fun c o u h => b.frz c o u (a.frz c o u h)⟩
theorem Prs.updL {p : Addr} {ws us : List V} (h : H p = some (.lst ws)) : Prs H (upd H p (.lst us)) :=
  ⟨fun b xs e => by rw [upd_ne (fun z => by subst z; rw [h] at e; cases e)]; exact e, fun b o u e => by rw [upd_ne (fun z => by subst z; rw [h] at e; cases e)]; exact e⟩
theorem Prs.rv (a : Prs H H') {d : D} {v : V} (h : Rv K H d v) : Rv K H' d v := by
  refine Rv.mono (fun b vs q => ?_) (fun b vs q => ?_) d v h
  · rcases q with (q | ⟨o, q⟩) | q
    · exact .inl (.inl (a.tup _ _ q))
    · exact .inl (.inr ⟨o, a.frz _ _ _ q⟩)
    · exact .inr q
  · rcases q with ⟨o, q⟩ | q
    · exact .inl ⟨o, a.frz _ _ _ q⟩
    · exact .inr q
theorem Prs.rvl (a : Prs H H') : ∀ {ds : List D} {vs : List V}, RvL K H ds vs → RvL K H' ds vs
  | [], _, r => by cases r; exact .nil
  | d :: ds, _, r => by
    cases r with
    | cons q rr => exact .cons (a.rv q) (Prs.rvl a rr)
theorem Prs.sqT (a : Prs H H') {b : Addr} {vs : List V} (q : SqT K H b vs) : SqT K H' b vs := by
  rcases q with (q | ⟨o, q⟩) | q
  · exact .inl (.inl (a.tup _ _ q))
  · exact .inl (.inr ⟨o, a.frz _ _ _ q⟩)
  · exact .inr q
theorem Prs.fqL (a : Prs H H') {b : Addr} {vs : List V} (q : FqL K H b vs) : FqL K H' b vs := by
  rcases q with ⟨o, q⟩ | q
  · exact .inl ⟨o, a.frz _ _ _ q⟩
  · exact .inr q
theorem Stp.sqT (a : Stp S H S' H') {b : Addr} {vs : List V} (h : SqT K H b vs) : SqT K H' b vs := by
  rcases h with (h | ⟨o, h⟩) | h
  · exact .inl (.inl (a.tup _ _ h))
  · exact .inl (.inr ⟨o, a.frz _ _ _ h⟩)
  · exact .inr h
theorem Stp.fqL (a : Stp S H S' H') {b : Addr} {vs : List V} (h : FqL K H b vs) : FqL K H' b vs := by
  rcases h with ⟨o, h⟩ | h
  · exact .inl ⟨o, a.frz _ _ _ h⟩
  · exact .inr h
theorem Stp.rv (a : Stp S H S' H') {d : D} {v : V} (h : Rv K H d v) : Rv K H' d v := Rv.mono (fun _ _ => a.sqT) (fun _ _ => a.fqL) d v h
theorem Stp.rvl (a : Stp S H S' H') {d : List D} {v : List V} (h : RvL K H d v) : RvL K H' d v := RvL.mono (fun _ _ => a.sqT) (fun _ _ => a.fqL) d v h
theorem Stp.ro (a : Stp S H S' H') {o : DO} {b : Addr} (hb : H' b = H b) (h : Ro K H o b) : Ro K H' o b := by
  cases o with
  | lst xs => obtain ⟨vs, e, r⟩ := h; exact ⟨vs, hb.trans e, a.rvl r⟩
  | ins C fs => obtain ⟨dx, vs, e, n, r⟩ := h; exact ⟨dx, vs, hb.trans e, n, a.rvl r⟩
  | dct st kvs => obtain ⟨e, r, l, n⟩ := h; exact ⟨hb.trans e, r.mono (fun _ _ => a.sqT) (fun _ _ => a.fqL), l, n⟩
  | dset _ => exact h
theorem Ro.some {o : DO} {a : Addr} (h : Ro K H o a) : ∃ u, H a = some u ∧ (∀ xs, u ≠ .tup xs) ∧ ∀ x y, u ≠ .frz x y := by
  cases o with
  | lst xs => obtain ⟨vs, e, r⟩ := h; exact ⟨_, e, (fun _ q => nomatch q), fun _ _ q => nomatch q⟩
  | ins C fs => obtain ⟨dx, vs, e, n, r⟩ := h; exact ⟨_, e, (fun _ q => nomatch q), fun _ _ q => nomatch q⟩
  | dct st kvs => obtain ⟨e, r⟩ := h; exact ⟨_, e, (fun _ q => nomatch q), fun _ _ q => nomatch q⟩
  | dset _ => exact h.elim
theorem Sim.fresh (x : Sim K S H) {p : Addr} (h : H p = none) : S p = none := by
  cases q : S p with
  | none => rfl
  | some o =>
    obtain ⟨u, e, _⟩ := (x p o q).some
    rw [h] at e; cases e
/-- something new that the store does not know (a tuple) -/
theorem Stp.laid {p : Addr} {o : HO} (h : H p = none) : Stp S H S (upd H p o) :=
  ⟨fun b xs e => by rw [upd_ne (ne_of_none e h)]; exact e, fun b x u e => by rw [upd_ne (ne_of_none e h)]; exact e,
   fun b x _ _ e => by rw [upd_ne (ne_of_none e h)]; exact e, fun _ _ n => n, fun _ => upd_live⟩
theorem Sim.laid (x : Sim K S H) {p : Addr} {o : HO} (h : H p = none) : Sim K S (upd H p o) := ⟨fun a u e => by
  obtain ⟨z, ez, _⟩ := (x a u e).some
  exact (Stp.laid (S := S) h).ro (upd_ne (ne_of_none ez h)) (x a u e), tabs_new x.tab h⟩
/-- something new that the store knows -/
theorem Stp.new {p : Addr} {o : HO} {d : DO} (h : H p = none) : Stp S H (dupd S p d) (upd H p o) :=
  ⟨fun b xs e => by rw [upd_ne (ne_of_none e h)]; exact e, fun b x u e => by rw [upd_ne (ne_of_none e h)]; exact e,
   fun b x _ _ e => by rw [upd_ne (ne_of_none e h)]; exact e, fun b e n => by
    have hb : b ≠ p := fun z => e (by rw [z]; exact h)
    rw [dupd_ne hb]; exact n, fun _ => upd_live⟩
theorem Sim.new (x : Sim K S H) {p : Addr} {o : HO} {d : DO} (h : H p = none) (r : Ro K (upd H p o) d p) : Sim K (dupd S p d) (upd H p o) := ⟨fun a u e => by
  by_cases ha : a = p
  · subst ha; rw [dupd_same] at e; cases e; exact r
  · rw [dupd_ne ha] at e
    exact (Stp.laid (S := S) h).ro (upd_ne ha) (x a u e), tabs_new x.tab h⟩
/-- a thing that the store knows is changed -/
theorem Stp.write {a : Addr} {o : HO} {d d0 : DO} (x : Sim K S H) (h : S a = some d0) : Stp S H (dupd S a d) (upd H a o) := by
  obtain ⟨z, ez, n1, n2⟩ := (x a d0 h).some
  refine ⟨fun b xs e => ?_, fun b y u e => ?_, fun b y n _ e => ?_, fun b e n => ?_, fun _ => upd_live⟩
  · rw [upd_ne (fun q => by subst q; rw [ez] at e; cases e; exact n1 _ rfl)]; exact e
  · rw [upd_ne (fun q => by subst q; rw [ez] at e; cases e; exact n2 _ _ rfl)]; exact e
  · rw [upd_ne (fun q => by subst q; rw [h] at n; cases n)]; exact e
  · rw [dupd_ne (fun q => by subst q; rw [h] at n; cases n)]; exact n
theorem Sim.write {a : Addr} {o : HO} {d d0 : DO} (x : Sim K S H) (h : S a = some d0) (r : Ro K (upd H a o) d a) : Sim K (dupd S a d) (upd H a o) := ⟨fun b u e => by
  by_cases hb : b = a
  · subst hb; rw [dupd_same] at e; cases e; exact r
  · rw [dupd_ne hb] at e
    exact (Stp.write (d := d) x h).ro (upd_ne hb) (x b u e), tabs_upd x.tab (x a d0 h).noT⟩
theorem Sim.lst (x : Sim K S H) {a : Addr} {xs : List D} (h : S a = some (.lst xs)) : ∃ vs, H a = some (.lst vs) ∧ RvL K H xs vs := x a _ h
theorem RvL.upd {a : Addr} {o : HO} {d d0 : DO} {ds : List D} {vs : List V} (x : Sim K S H) (h : S a = some d0) (r : RvL K H ds vs) : RvL K (L2.upd H a o) ds vs := (Stp.write (d := d0) x h).rvl r
end
abbrev Loc := List (Option D)
abbrev DK := D → DS → Prop
abbrev DE := Loc → DS → DK → Prop
abbrev DT := Loc → DS → (Bool → DS → Prop) → Prop
abbrev DA := Loc → DS → (List D → DS → Prop) → Prop
structure DEnds where
  nx : Loc → DS → Prop
  rt : DK
  bk : Loc → DS → Prop
  ct : Loc → DS → Prop
abbrev DSt := DEnds → Loc → DS → Prop
abbrev DR2 := D → D → DS → DK → Prop
abbrev DR1 := D → DS → DK → Prop
abbrev DRs := List D → DS → DK → Prop
abbrev DF := List D → DS → DK → Prop
def Rst (K : FW) (H : Hp) (δ : Loc) (σ : L2.St) : Prop := δ.length = σ.length ∧ ∀ (i : Nat) (d : D), δ[i]? = some (some d) → ∃ v, σ[i]? = some (some v) ∧ Rv K H d v
theorem Rst.stp {K : FW} {S S' : DS} {H H' : Hp} {δ : Loc} {σ : L2.St} (r : Rst K H δ σ) (a : Stp S H S' H') : Rst K H' δ σ := ⟨r.1, fun i d e => let ⟨v, h1, h2⟩ := r.2 i d e; ⟨v, h1, a.rv h2⟩⟩
theorem Rst.prs {K : FW} {H H' : Hp} {δ : Loc} {σ : L2.St} (r : Rst K H δ σ) (a : Prs H H') : Rst K H' δ σ := ⟨r.1, fun i d e => let ⟨v, h1, h2⟩ := r.2 i d e; ⟨v, h1, a.rv h2⟩⟩
theorem Rst.set {K : FW} {H : Hp} {δ : Loc} {σ : L2.St} {i : Nat} {d : D} {v : V} (r : Rst K H δ σ) (q : Rv K H d v) : Rst K H (δ.set i (some d)) (σ.set i (some v)) := by
  refine ⟨by rw [List.length_set, List.length_set]; exact r.1, fun j e h => ?_⟩
  by_cases hj : i = j
  · subst hj
    by_cases hl : i < δ.length
    · rw [List.getElem?_set_self hl] at h
      simp only [Option.some.injEq] at h
      subst h
      exact ⟨v, List.getElem?_set_self (by rw [← r.1]; exact hl), q⟩
    · rw [List.getElem?_eq_none (by simpa using hl)] at h; cases h
  · rw [List.getElem?_set_ne hj] at h
    obtain ⟨w, h1, h2⟩ := r.2 j e h
    exact ⟨w, by rw [List.getElem?_set_ne hj]; exact h1, h2⟩
def liftE (K : FW) (t : DE) : TE := fun σ H Q => ∃ δ S Q0, Rst K H δ σ ∧ Sim K S H ∧ t δ S Q0 ∧ ∀ d S' v H', Q0 d S' → Rv K H' d v → Sim K S' H' → Stp S H S' H' → Q v H'
def liftT (K : FW) (t : DT) : TT := fun σ H Q => ∃ δ S Q0, Rst K H δ σ ∧ Sim K S H ∧ t δ S Q0 ∧ ∀ b S' H', Q0 b S' → Sim K S' H' → Stp S H S' H' → Q b H'
def liftA (K : FW) (t : DA) : TA := fun σ H Q => ∃ δ S Q0, Rst K H δ σ ∧ Sim K S H ∧ t δ S Q0 ∧ ∀ ds S' vs H', Q0 ds S' → RvL K H' ds vs → Sim K S' H' → Stp S H S' H' → Q vs H'
def liftO (K : FW) (r : DR2) : R2 := fun x y H Q => ∃ dx dy S Q0, Rv K H dx x ∧ Rv K H dy y ∧ Sim K S H ∧ r dx dy S Q0 ∧ ∀ d S' v H', Q0 d S' → Rv K H' d v → Sim K S' H' → Stp S H S' H' → Q v H'
def liftU (K : FW) (r : DR1) : V → Hp → VK → Prop := fun x H Q => ∃ dx S Q0, Rv K H dx x ∧ Sim K S H ∧ r dx S Q0 ∧ ∀ d S' v H', Q0 d S' → Rv K H' d v → Sim K S' H' → Stp S H S' H' → Q v H'
def liftC (K : FW) (r : DRs) : List V → Hp → VK → Prop := fun xs H Q => ∃ ds S Q0, RvL K H ds xs ∧ Sim K S H ∧ r ds S Q0 ∧ ∀ d S' v H', Q0 d S' → Rv K H' d v → Sim K S' H' → Stp S H S' H' → Q v H'
def liftF (K : FW) (np : Nat) (c : DF) : Sp := fun vs H Q _ => vs.length = np ∧ liftC K c vs H Q
structure Cov (K : FW) (S : DS) (H : Hp) (D0 : DEnds) (E : L2.Ends) : Prop where
  nx : ∀ δ S' σ H', D0.nx δ S' → Rst K H' δ σ → Sim K S' H' → Stp S H S' H' → E.nx σ H'
  rt : ∀ d S' v H', D0.rt d S' → Rv K H' d v → Sim K S' H' → Stp S H S' H' → E.rt v H'
  bk : ∀ δ S' σ H', D0.bk δ S' → Rst K H' δ σ → Sim K S' H' → Stp S H S' H' → E.bk σ H'
  ct : ∀ δ S' σ H', D0.ct δ S' → Rst K H' δ σ → Sim K S' H' → Stp S H S' H' → E.ct σ H'
theorem Cov.stp {K : FW} {S S1 : DS} {H H1 : Hp} {D0 : DEnds} {E : L2.Ends} (c : Cov K S H D0 E) (a : Stp S H S1 H1) : Cov K S1 H1 D0 E :=
  ⟨fun δ S' σ H' h r x b => c.nx δ S' σ H' h r x (a.trans b), fun d S' v H' h r x b => c.rt d S' v H' h r x (a.trans b),
   fun δ S' σ H' h r x b => c.bk δ S' σ H' h r x (a.trans b), fun δ S' σ H' h r x b => c.ct δ S' σ H' h r x (a.trans b)⟩
def liftS (K : FW) (t : DSt) : TS := fun E σ H => ∃ δ S D0, Rst K H δ σ ∧ Sim K S H ∧ t D0 δ S ∧ Cov K S H D0 E
section
variable {X : Cx} {tbl : Tbl} {e : Expr} {es : List Expr} {st : Stmt} {sts : List Stmt} {pos : Pos}
theorem PE.imp {t t' : TE} (p : PE X e t) (h : ∀ σ H Q, t' σ H Q → t σ H Q) : PE X e t' := ⟨fun pins s σ H Q I hw => p.run pins s σ H Q I (h _ _ _ hw)⟩
theorem PT.imp {t t' : TT} (p : PT X e t) (h : ∀ σ H Q, t' σ H Q → t σ H Q) : PT X e t' := ⟨fun pins s σ H Q I hw => p.run pins s σ H Q I (h _ _ _ hw)⟩
theorem PW.imp {t t' : TT} (p : PW X e t) (h : ∀ σ H Q, t' σ H Q → t σ H Q) : PW X e t' := ⟨fun wh pins s σ H Q I hw => p.run wh pins s σ H Q I (h _ _ _ hw)⟩
theorem PA.imp {t t' : TA} (p : PA X es t) (h : ∀ σ H Q, t' σ H Q → t σ H Q) : PA X es t' := ⟨fun po pins s σ H Q I hw => p.run po pins s σ H Q I (h _ _ _ hw)⟩
theorem PS.imp {t t' : TS} (p : PS X st t) (h : ∀ E σ H, t' E σ H → t E σ H) : PS X st t' := ⟨fun pins s σ H E I hw => p.run pins s σ H E I (h _ _ _ hw)⟩
theorem PSs.imp {t t' : TS} (p : PSs X sts t) (h : ∀ E σ H, t' E σ H → t E σ H) : PSs X sts t' := ⟨fun pins s σ H E I hw => p.run pins s σ H E I (h _ _ _ hw)⟩
theorem PI.imp {tg : Expr} {t t' : TI} (p : PI X tg e t) (h : ∀ σ H R, t' σ H R → t σ H R) : PI X tg e t' := ⟨fun pins s σ H R I hw => p.run pins s σ H R I (h _ _ _ hw)⟩
def dVar (i : Nat) : DE := fun δ S Q => ∃ d, δ[i]? = some (some d) ∧ Q d S
def dC (d : D) : DE := fun _ S Q => Q d S
def dNil : DA := fun _ S Q => Q [] S
def dCons (a : DE) (r : DA) : DA := fun δ S Q => a δ S fun x S1 => r δ S1 fun xs S2 => Q (x :: xs) S2
def dTup (a : DA) : DE := fun δ S Q => a δ S fun xs S1 => xs.length ≤ 16777216 ∧ Q (.tup xs) S1
def dLst (a : DA) : DE := fun δ S Q => a δ S fun xs S1 => xs.length ≤ 16777216 ∧ ∀ p, S1 p = none → Q (.ref p) (dupd S1 p (.lst xs))
theorem qv (i : Nat) {x : Str} (hN : X.N[i]? = some x := by rfl) (hv : Vis X.env.scope x := by first | exact Or.inl rfl | exact Or.inr (Or.inl rfl) | exact Or.inr (Or.inr rfl)) (hd : (x == ("__debug__" : Str)) = false := by decide)
    (hcd : (x == ("__classdict__" : Str)) = false := by decide) : PE X (.Name x pos) (liftE (xfw X tbl) (dVar i)) :=
  PE.imp (pv i hN hv hd hcd) fun σ H Q ⟨δ, S, Q0, hr, hs, ⟨d, e, h⟩, hq⟩ => by
    obtain ⟨v, h1, h2⟩ := hr.2 i d e
    exact ⟨v, h1, hq d S v H h h2 hs (.refl _ _)⟩
theorem qe_const {d : D} {v : V} {e : Expr} (p : PE X e (tC v)) (hr : ∀ H, Rv (xfw X tbl) H d v) : PE X e (liftE (xfw X tbl) (dC d)) :=
  PE.imp p fun σ H Q ⟨δ, S, Q0, _, hs, h, hq⟩ => hq d S v H h (hr H) hs (.refl _ _)
theorem qi {i : Int} {j} : PE X (.Constant (.int i) j pos) (liftE (xfw X tbl) (dC (.int i))) := qe_const pe_int fun _ => .int _
theorem qb {b : Bool} {j} : PE X (.Constant (.bool b) j pos) (liftE (xfw X tbl) (dC (.bl b))) := qe_const pe_bl fun _ => .bl _
theorem qn {j} : PE X (.Constant .none j pos) (liftE (xfw X tbl) (dC .non)) := qe_const pe_non fun _ => .non
theorem qs {x : Str} {j} : PE X (.Constant (.str x) j pos) (liftE (xfw X tbl) (dC (.str x))) := qe_const pe_str fun _ => .str _
theorem qa_nil : PA X [] (liftA (xfw X tbl) dNil) := PA.imp pa_nil fun σ H Q ⟨δ, S, Q0, _, hs, h, hq⟩ => hq [] S [] H h .nil hs (.refl _ _)
theorem qa_cons {a : DE} {r : DA} (ha : PE X e (liftE (xfw X tbl) a)) (hr : PA X es (liftA (xfw X tbl) r)) (hs : starEach (e :: es) X.env = (false, eval e X.env) :: starEach es X.env := by rfl) : PA X (e :: es) (liftA (xfw X tbl) (dCons a r)) :=
  PA.imp (pa_cons ha hr hs) fun σ H Q ⟨δ, S, Q0, hr, hs, h, hq⟩ =>
    ⟨δ, S, _, hr, hs, h, fun d S1 v H1 h1 r1 s1 a1 => ⟨δ, S1, _, hr.stp a1, s1, h1, fun ds S2 vs H2 h2 r2 s2 a2 => hq _ _ _ _ h2 (.cons (a2.rv r1) r2) s2 (a1.trans a2)⟩⟩
theorem szl : sizeLine = 16777216 := by decide
theorem qe_tup {a : DA} {k} (ha : PA X es (liftA (xfw X tbl) a)) : PE X (.Tuple es k pos) (liftE (xfw X tbl) (dTup a)) :=
  PE.imp (pe_tup ha) fun σ H Q ⟨δ, S, Q0, hr, hs, h, hq⟩ =>
    ⟨δ, S, _, hr, hs, h, fun ds S1 vs H1 ⟨z, h1⟩ r1 s1 a1 => ⟨by rw [← r1.length, szl]; exact z, fun p hp =>
      hq _ _ _ _ h1 (.tup (.inl (.inl upd_same)) ((Stp.laid (S := S1) hp).rvl r1)) (s1.laid hp) (a1.trans (Stp.laid hp))⟩⟩
theorem qe_lst {a : DA} (ha : PA X es (liftA (xfw X tbl) a)) : PE X (.List es pos) (liftE (xfw X tbl) (dLst a)) :=
  PE.imp (pe_lst ha) fun σ H Q ⟨δ, S, Q0, hr, hs, h, hq⟩ =>
    ⟨δ, S, _, hr, hs, h, fun ds S1 vs H1 ⟨z, h1⟩ r1 s1 a1 => ⟨by rw [← r1.length, szl]; exact z, fun p hp =>
      hq _ _ _ _ (h1 p (s1.fresh hp)) (.ref p) (s1.new hp ⟨vs, upd_same, (Stp.laid (S := S1) hp).rvl r1⟩) (a1.trans (Stp.new hp))⟩⟩
def dOp (r : DR2) (a b : DE) : DE := fun δ S Q => a δ S fun x S1 => b δ S1 fun y S2 => r x y S2 Q
def dUn (r : DR1) (a : DE) : DE := fun δ S Q => a δ S fun x S1 => r x S1 Q
theorem lift_op {r : DR2} {ta tb : DE} : ∀ σ H Q, liftE (xfw X tbl) (dOp r ta tb) σ H Q → tOp (liftO (xfw X tbl) r) (liftE (xfw X tbl) ta) (liftE (xfw X tbl) tb) σ H Q :=
  fun σ H Q ⟨δ, S, Q0, hr, hs, h, hq⟩ => ⟨δ, S, _, hr, hs, h, fun x S1 v H1 h1 r1 s1 a1 => ⟨δ, S1, _, hr.stp a1, s1, h1, fun y S2 u H2 h2 r2 s2 a2 =>
    ⟨x, y, S2, _, a2.rv r1, r2, s2, h2, fun d S' v H' q r s a => hq d S' v H' q r s ((a1.trans a2).trans a)⟩⟩⟩
variable {a b c : Expr} {ta tb tc : DE}
theorem qe_op {op : Operator} {r : DR2} (ho : OpR X (binaryOp op) (liftO (xfw X tbl) r)) (ha : PE X a (liftE (xfw X tbl) ta)) (hb : PE X b (liftE (xfw X tbl) tb)) : PE X (.BinOp a op b pos) (liftE (xfw X tbl) (dOp r ta tb)) :=
  PE.imp (pe_op ho ha hb) lift_op
theorem qe_un {op : UnaryOp} {r : DR1} (ho : UnR X (unaryOp op) (liftU (xfw X tbl) r)) (ha : PE X a (liftE (xfw X tbl) ta)) : PE X (.UnaryOp op a pos) (liftE (xfw X tbl) (dUn r ta)) :=
  PE.imp (pe_un ho ha) fun σ H Q ⟨δ, S, Q0, hr, hs, h, hq⟩ => ⟨δ, S, _, hr, hs, h, fun x S1 v H1 h1 r1 s1 a1 =>
    ⟨x, S1, _, r1, s1, h1, fun d S' v H' q r s a => hq d S' v H' q r s (a1.trans a)⟩⟩
theorem qe_cmp {op : CmpOp} {r : DR2} (ho : OpR X (compareOp op) (liftO (xfw X tbl) r)) (ha : PE X a (liftE (xfw X tbl) ta)) (hb : PE X b (liftE (xfw X tbl) tb)) (hm : behindInMarks op b = false) : PE X (.Compare a [op] [b] pos) (liftE (xfw X tbl) (dOp r ta tb)) :=
  PE.imp (pe_cmpR ho ha hb hm) lift_op
/-- a comparison as a test -/
def dTb (t : DE) : DT := fun δ S Q => t δ S fun x S1 => match x with
  | .bl k => Q k S1
  | _ => False
theorem qt_cmp {op : CmpOp} {r : DR2} (ho : OpR X (compareOp op) (liftO (xfw X tbl) r)) (ha : PE X a (liftE (xfw X tbl) ta)) (hb : PE X b (liftE (xfw X tbl) tb)) (hm : behindInMarks op b = false) : PT X (.Compare a [op] [b] pos) (liftT (xfw X tbl) (dTb (dOp r ta tb))) :=
  PT.imp (pt_cmpR ho ha hb hm) fun σ H Q ⟨δ, S, Q0, hr, hs, h, hq⟩ => lift_op σ H _ ⟨δ, S, _, hr, hs, h, fun d S' v H' q r s a => by
    cases d with
    | bl k => cases r; exact ⟨k, rfl, hq k S' H' q s a⟩
    | _ => exact q.elim⟩
/-- any expression whose value is a bool, as a test -/
theorem qt_val {t : DE} (h : PE X e (liftE (xfw X tbl) t)) (he : ∀ whole, isTrue e X.env whole = (do let v ← whole; standAt e.pos; holding [v] (truthy v)) := by intro _; rfl) : PT X e (liftT (xfw X tbl) (dTb t)) :=
  PT.imp (pt_val h he) fun σ H Q ⟨δ, S, Q0, hr, hs, h, hq⟩ => ⟨δ, S, _, hr, hs, h, fun d S' v H' q r s a => by
    cases d with
    | bl k => cases r; exact ⟨k, rfl, hq k S' H' q s a⟩
    | _ => exact q.elim⟩
/-- a < b < c -/
def dChain (r r' : DR2) (a b c : DE) : DE := fun δ S Q => a δ S fun x S1 => b δ S1 fun y S2 => r x y S2 fun z S3 => match z with
  | .bl k => if k = true then c δ S3 fun w S4 => r' y w S4 Q else Q (.bl false) S3
  | _ => False
theorem lift_chain {r r' : DR2} : ∀ σ H Q, liftE (xfw X tbl) (dChain r r' ta tb tc) σ H Q → tChain (liftO (xfw X tbl) r) (liftO (xfw X tbl) r') (liftE (xfw X tbl) ta) (liftE (xfw X tbl) tb) (liftE (xfw X tbl) tc) σ H Q :=
  fun σ H Q ⟨δ, S, Q0, hr, hs, h, hq⟩ => ⟨δ, S, _, hr, hs, h, fun x S1 v H1 h1 r1 s1 a1 => ⟨δ, S1, _, hr.stp a1, s1, h1, fun y S2 u H2 h2 r2 s2 a2 =>
    ⟨x, y, S2, _, a2.rv r1, r2, s2, h2, fun d S3 v3 H3 q3 r3 s3 a3 => by
      cases d with
      | bl k =>
        cases r3
        refine ⟨k, rfl, ?_⟩
        cases k with
        | true =>
          simp only [if_true] at q3 ⊢
          exact ⟨δ, S3, _, hr.stp ((a1.trans a2).trans a3), s3, q3, fun w S4 v4 H4 h4 r4 s4 a4 => ⟨y, w, S4, _, (a3.trans a4).rv r2, r4, s4, h4, fun d S' v H' q r s a => hq d S' v H' q r s ((((a1.trans a2).trans a3).trans a4).trans a)⟩⟩
        | false =>
          simp only [Bool.false_eq_true, if_false] at q3 ⊢
          exact hq _ _ _ _ q3 (.bl false) s3 ((a1.trans a2).trans a3)
      | _ => exact q3.elim⟩⟩⟩
def dAnd (t u : DT) : DT := fun δ S Q => t δ S fun c S1 => if c = true then u δ S1 Q else Q false S1
def dOr (t u : DT) : DT := fun δ S Q => t δ S fun c S1 => if c = true then Q true S1 else u δ S1 Q
def dNot (t : DT) : DT := fun δ S Q => t δ S fun c S1 => Q (!c) S1
variable {t u : DT} {rest : List Expr}
theorem qw_and1 (ha : PT X a (liftT (xfw X tbl) t)) : PW X (.BoolOp .And [a] pos) (liftT (xfw X tbl) t) := pw_and1 ha
theorem qw_or1 (ha : PT X a (liftT (xfw X tbl) t)) : PW X (.BoolOp .Or [a] pos) (liftT (xfw X tbl) t) := pw_or1 ha
theorem qw_and (ha : PT X a (liftT (xfw X tbl) t)) (hb : PW X (.BoolOp .And (b :: rest) pos) (liftT (xfw X tbl) u)) : PW X (.BoolOp .And (a :: b :: rest) pos) (liftT (xfw X tbl) (dAnd t u)) :=
  PW.imp (pw_and ha hb) fun σ H Q ⟨δ, S, Q0, hr, hs, h, hq⟩ => ⟨δ, S, _, hr, hs, h, fun k S1 H1 h1 s1 a1 => by
    cases k with
    | true => rw [if_pos rfl] at h1 ⊢; exact ⟨δ, S1, _, hr.stp a1, s1, h1, fun k S2 H2 h2 s2 a2 => hq k S2 H2 h2 s2 (a1.trans a2)⟩
    | false => rw [if_neg Bool.false_ne_true] at h1 ⊢; exact hq _ _ _ h1 s1 a1⟩
theorem qw_or (ha : PT X a (liftT (xfw X tbl) t)) (hb : PW X (.BoolOp .Or (b :: rest) pos) (liftT (xfw X tbl) u)) : PW X (.BoolOp .Or (a :: b :: rest) pos) (liftT (xfw X tbl) (dOr t u)) :=
  PW.imp (pw_or ha hb) fun σ H Q ⟨δ, S, Q0, hr, hs, h, hq⟩ => ⟨δ, S, _, hr, hs, h, fun k S1 H1 h1 s1 a1 => by
    cases k with
    | false => rw [if_neg Bool.false_ne_true] at h1 ⊢; exact ⟨δ, S1, _, hr.stp a1, s1, h1, fun k S2 H2 h2 s2 a2 => hq k S2 H2 h2 s2 (a1.trans a2)⟩
    | true => rw [if_pos rfl] at h1 ⊢; exact hq _ _ _ h1 s1 a1⟩
theorem qt_w (h : PW X e (liftT (xfw X tbl) t)) : PT X e (liftT (xfw X tbl) t) := h.pt
theorem qt_not (ha : PT X a (liftT (xfw X tbl) t)) : PT X (.UnaryOp .Not a pos) (liftT (xfw X tbl) (dNot t)) :=
  PT.imp (pt_not ha) fun σ H Q ⟨δ, S, Q0, hr, hs, h, hq⟩ => ⟨δ, S, _, hr, hs, h, fun k S1 H1 h1 s1 a1 => hq _ _ _ h1 s1 a1⟩
/-- and, or, not as values (of bools) -/
def dAndV (a b : DE) : DE := fun δ S Q => a δ S fun x S1 => match x with
  | .bl c => if c = true then b δ S1 Q else Q (.bl false) S1
  | _ => False
def dOrV (a b : DE) : DE := fun δ S Q => a δ S fun x S1 => match x with
  | .bl c => if c = true then Q (.bl true) S1 else b δ S1 Q
  | _ => False
def dNotV (a : DE) : DE := fun δ S Q => a δ S fun x S1 => match x with
  | .bl c => Q (.bl (!c)) S1
  | _ => False
theorem qe_one {op} {t : DE} (h : PE X a (liftE (xfw X tbl) t)) : PE X (.BoolOp op [a] pos) (liftE (xfw X tbl) t) := pe_one h
theorem qe_and (ha : PE X a (liftE (xfw X tbl) ta)) (hb : PE X (.BoolOp .And (b :: rest) pos) (liftE (xfw X tbl) tb)) : PE X (.BoolOp .And (a :: b :: rest) pos) (liftE (xfw X tbl) (dAndV ta tb)) :=
  PE.imp (pe_and ha hb) fun σ H Q ⟨δ, S, Q0, hr, hs, h, hq⟩ => ⟨δ, S, _, hr, hs, h, fun k S1 v H1 h1 r1 s1 a1 => by
    cases k with
    | bl k =>
      cases r1
      refine ⟨k, rfl, ?_⟩
      cases k with
      | true => simp only [if_true] at h1 ⊢; exact ⟨δ, S1, _, hr.stp a1, s1, h1, fun k S2 v H2 h2 r2 s2 a2 => hq k S2 v H2 h2 r2 s2 (a1.trans a2)⟩
      | false => rw [if_neg Bool.false_ne_true]; simp only [Bool.false_eq_true, if_false] at h1; exact hq _ _ _ _ h1 (.bl _) s1 a1
    | _ => exact h1.elim⟩
theorem qe_or (ha : PE X a (liftE (xfw X tbl) ta)) (hb : PE X (.BoolOp .Or (b :: rest) pos) (liftE (xfw X tbl) tb)) : PE X (.BoolOp .Or (a :: b :: rest) pos) (liftE (xfw X tbl) (dOrV ta tb)) :=
  PE.imp (pe_or ha hb) fun σ H Q ⟨δ, S, Q0, hr, hs, h, hq⟩ => ⟨δ, S, _, hr, hs, h, fun k S1 v H1 h1 r1 s1 a1 => by
    cases k with
    | bl k =>
      cases r1
      refine ⟨k, rfl, ?_⟩
      cases k with
      | false => rw [if_neg Bool.false_ne_true]; simp only [Bool.false_eq_true, if_false] at h1; exact ⟨δ, S1, _, hr.stp a1, s1, h1, fun k S2 v H2 h2 r2 s2 a2 => hq k S2 v H2 h2 r2 s2 (a1.trans a2)⟩
      | true => simp only [if_true] at h1 ⊢; exact hq _ _ _ _ h1 (.bl _) s1 a1
    | _ => exact h1.elim⟩
theorem qe_not (ha : PE X a (liftE (xfw X tbl) ta)) : PE X (.UnaryOp .Not a pos) (liftE (xfw X tbl) (dNotV ta)) :=
  PE.imp (pe_not ha) fun σ H Q ⟨δ, S, Q0, hr, hs, h, hq⟩ => ⟨δ, S, _, hr, hs, h, fun k S1 v H1 h1 r1 s1 a1 => by
    cases k with
    | bl k => cases r1; exact ⟨k, rfl, hq _ _ _ _ h1 (.bl _) s1 a1⟩
    | _ => exact h1.elim⟩
def dIfE (t : DT) (a b : DE) : DE := fun δ S Q => t δ S fun c S1 => if c = true then a δ S1 Q else b δ S1 Q
theorem qe_if (hc : PT X c (liftT (xfw X tbl) t)) (ha : PE X a (liftE (xfw X tbl) ta)) (hb : PE X b (liftE (xfw X tbl) tb)) : PE X (.IfExp c a b pos) (liftE (xfw X tbl) (dIfE t ta tb)) :=
  PE.imp (pe_ifExp hc ha hb) fun σ H Q ⟨δ, S, Q0, hr, hs, h, hq⟩ => ⟨δ, S, _, hr, hs, h, fun k S1 H1 h1 s1 a1 => by
    cases k with
    | true => rw [if_pos rfl] at h1 ⊢; exact ⟨δ, S1, _, hr.stp a1, s1, h1, fun k S2 v H2 h2 r2 s2 a2 => hq k S2 v H2 h2 r2 s2 (a1.trans a2)⟩
    | false => rw [if_neg Bool.false_ne_true] at h1 ⊢; exact ⟨δ, S1, _, hr.stp a1, s1, h1, fun k S2 v H2 h2 r2 s2 a2 => hq k S2 v H2 h2 r2 s2 (a1.trans a2)⟩⟩
end
section
variable {X : Cx} {tbl : Tbl} {e : Expr} {st : Stmt} {sts : List Stmt} {pos : Pos} {t u : DSt} {te : DE}
def dNext : DSt := fun D δ S => D.nx δ S
def dSeq (t u : DSt) : DSt := fun D δ S => t { D with nx := fun δ S => u D δ S } δ S
def dBreak : DSt := fun D δ S => D.bk δ S
def dCont : DSt := fun D δ S => D.ct δ S
def dDrop (te : DE) : DSt := fun D δ S => te δ S fun _ S1 => D.nx δ S1
def dRet (te : DE) : DSt := fun D δ S => te δ S D.rt
def dRetN : DSt := fun D _ S => D.rt .non S
def dIf (c : DT) (t u : DSt) : DSt := fun D δ S => c δ S fun b S1 => if b = true then t D δ S1 else u D δ S1
def dNever : DSt := fun _ _ _ => False
theorem qss_nil : PSs X [] (liftS (xfw X tbl) dNext) := PSs.imp pss_nil fun E σ H ⟨δ, S, D0, hr, hs, h, cv⟩ => cv.nx δ S σ H h hr hs (.refl _ _)
theorem qss_cons (h1 : PS X st (liftS (xfw X tbl) t)) (h2 : PSs X sts (liftS (xfw X tbl) u)) : PSs X (st :: sts) (liftS (xfw X tbl) (dSeq t u)) :=
  PSs.imp (pss_cons h1 h2) fun E σ H ⟨δ, S, D0, hr, hs, h, cv⟩ => ⟨δ, S, _, hr, hs, h, ⟨fun δ' S' σ' H' h r s a => ⟨δ', S', D0, r, s, h, cv.stp a⟩, cv.rt, cv.bk, cv.ct⟩⟩
theorem qss_one (h1 : PS X st (liftS (xfw X tbl) t)) : PSs X [st] (liftS (xfw X tbl) t) := pss_one h1
theorem qs_pass : PS X (.Pass pos) (liftS (xfw X tbl) dNext) := PS.imp ps_pass fun E σ H ⟨δ, S, D0, hr, hs, h, cv⟩ => cv.nx δ S σ H h hr hs (.refl _ _)
theorem qs_break : PS X (.Break pos) (liftS (xfw X tbl) dBreak) := PS.imp ps_break fun E σ H ⟨δ, S, D0, hr, hs, h, cv⟩ => cv.bk δ S σ H h hr hs (.refl _ _)
theorem qs_cont : PS X (.Continue pos) (liftS (xfw X tbl) dCont) := PS.imp ps_continue fun E σ H ⟨δ, S, D0, hr, hs, h, cv⟩ => cv.ct δ S σ H h hr hs (.refl _ _)
theorem qs_expr (he : PE X e (liftE (xfw X tbl) te)) (hs : swapsWith e none pos.line X.env = pure false := by rfl) : PS X (.Expr e pos) (liftS (xfw X tbl) (dDrop te)) :=
  PS.imp (ps_expr he hs) fun E σ H ⟨δ, S, D0, hr, hs, h, cv⟩ => ⟨δ, S, _, hr, hs, h, fun d S' v H' q r s a => cv.nx δ S' σ H' q (hr.stp a) s a⟩
theorem qs_ret (he : PE X e (liftE (xfw X tbl) te)) : PS X (.Return (some e) pos) (liftS (xfw X tbl) (dRet te)) :=
  PS.imp (ps_ret he) fun E σ H ⟨δ, S, D0, hr, hs, h, cv⟩ => ⟨δ, S, _, hr, hs, h, fun d S' v H' q r s a => cv.rt d S' v H' q r s a⟩
theorem qs_retN : PS X (.Return none pos) (liftS (xfw X tbl) dRetN) :=
  PS.imp ps_retN fun E σ H ⟨δ, S, D0, hr, hs, h, cv⟩ => cv.rt _ _ _ _ h .non hs (.refl _ _)
theorem qs_if {c : Expr} {a b : List Stmt} {tc : DT} (hc : PT X c (liftT (xfw X tbl) tc)) (ha : PSs X a (liftS (xfw X tbl) t)) (hb : PSs X b (liftS (xfw X tbl) u)) : PS X (.If c a b pos) (liftS (xfw X tbl) (dIf tc t u)) :=
  PS.imp (ps_if hc ha hb) fun E σ H ⟨δ, S, D0, hr, hs, h, cv⟩ => ⟨δ, S, _, hr, hs, h, fun k S1 H1 h1 s1 a1 => by
    cases k with
    | true => rw [if_pos rfl] at h1 ⊢; exact ⟨δ, S1, D0, hr.stp a1, s1, h1, cv.stp a1⟩
    | false => rw [if_neg Bool.false_ne_true] at h1 ⊢; exact ⟨δ, S1, D0, hr.stp a1, s1, h1, cv.stp a1⟩⟩
theorem qs_never : PS X st (liftS (xfw X tbl) dNever) := PS.imp ps_never fun E σ H ⟨δ, S, D0, _, _, h, _⟩ => h.elim
abbrev DG := D → Loc → DS → (Loc → DS → Prop) → Prop
abbrev DGs := List D → Loc → DS → (Loc → DS → Prop) → Prop
/-- sl: the slots that it may store -/
def liftG (K : FW) (sl : List Nat) (g : DG) : TG := fun v σ H Q => ∃ d δ S Q0, Rv K H d v ∧ Rst K H δ σ ∧ Sim K S H ∧ g d δ S Q0 ∧
  ∀ δ' S' σ' H', Q0 δ' S' → Rst K H' δ' σ' → σ'.length = σ.length → (∀ i, i ∉ sl → σ'[i]? = σ[i]?) → Sim K S' H' → Stp S H S' H' → Q σ' H'
def liftGs (K : FW) (sl : List Nat) (g : DGs) : TGs := fun vs σ H Q => ∃ ds δ S Q0, RvL K H ds vs ∧ Rst K H δ σ ∧ Sim K S H ∧ g ds δ S Q0 ∧
  ∀ δ' S' σ' H', Q0 δ' S' → Rst K H' δ' σ' → σ'.length = σ.length → (∀ i, i ∉ sl → σ'[i]? = σ[i]?) → Sim K S' H' → Stp S H S' H' → Q σ' H'
theorem PG.imp {tg : Expr} {g g' : TG} (p : PG X tg g) (h : ∀ v σ H Q, g' v σ H Q → g v σ H Q) : PG X tg g' := ⟨fun pins s σ H v u Q I r hw => p.run pins s σ H v u Q I r (h _ _ _ _ hw)⟩
theorem PGs.imp {tg : List Expr} {g g' : TGs} (p : PGs X tg g) (h : ∀ v σ H Q, g' v σ H Q → g v σ H Q) : PGs X tg g' := ⟨fun pins s σ H v u Q I r hw => p.run pins s σ H v u Q I r (h _ _ _ _ hw)⟩
def dgName (i : Nat) : DG := fun d δ S Q => Q (δ.set i (some d)) S
def dgNil : DGs := fun ds δ S Q => ds = [] ∧ Q δ S
def dgCons (t : DG) (u : DGs) : DGs := fun ds δ S Q => match ds with
  | d :: r => t d δ S fun δ' S' => u r δ' S' Q
  | [] => False
def dgTup0 (n : Nat) (t : DGs) : DG := fun d δ S Q => match d with
  | .tup xs => xs.length = n ∧ t xs δ S Q
  | _ => False
theorem qg_name {i : Nat} {x : Str} (hN : X.N.Nodup) (hi : X.N[i]? = some x) (hx : L2.Loc X.env.scope x) (hf : X.fn x = true ∨ X.env.scope.names.lookup x = some .local := by first | exact .inl rfl | exact .inr rfl | assumption) : PG X (.Name x pos) (liftG (xfw X tbl) [i] (dgName i)) :=
  PG.imp (pg_name hN hi hx hf) fun v σ H Q ⟨d, δ, S, Q0, rv, rst, sim, h, hq⟩ => hq _ S _ H h (rst.set rv) (List.length_set ..) (fun j hj => List.getElem?_set_ne (fun z => hj (by rw [z]; exact List.mem_singleton.mpr rfl))) sim (.refl _ _)
theorem qgs_nil : PGs X [] (liftGs (xfw X tbl) [] dgNil) :=
  PGs.imp pgs_nil fun vs σ H Q ⟨ds, δ, S, Q0, rv, rst, sim, ⟨e, h⟩, hq⟩ => by
    subst e
    cases rv
    exact ⟨rfl, hq _ S _ H h rst rfl (fun _ _ => rfl) sim (.refl _ _)⟩
theorem qgs_cons {e : Expr} {es : List Expr} {g : DG} {u : DGs} {sl sm : List Nat} (h1 : PG X e (liftG (xfw X tbl) sl g)) (h2 : PGs X es (liftGs (xfw X tbl) sm u))
    (hs : (assignEach (e :: es) X.env).map (·.2) = assign e X.env :: (assignEach es X.env).map (·.2) := by rfl) : PGs X (e :: es) (liftGs (xfw X tbl) (sl ++ sm) (dgCons g u)) :=
  PGs.imp (pgs_cons h1 h2 hs) fun vs σ H Q ⟨ds, δ, S, Q0, rv, rst, sim, h, hq⟩ => by
    cases ds with
    | nil => exact h.elim
    | cons d r =>
      cases rv with
      | cons rd rr =>
        refine ⟨_, _, rfl, d, δ, S, _, rd, rst, sim, h, fun δ1 S1 σ1 H1 q1 r1 l1 n1 s1 a1 => ⟨r, δ1, S1, _, a1.rvl rr, r1, s1, q1, fun δ2 S2 σ2 H2 q2 r2 l2 n2 s2 a2 => ?_⟩⟩
        exact hq δ2 S2 σ2 H2 q2 r2 (l2.trans l1) (fun i hi => (n2 i fun z => hi (List.mem_append_right _ z)).trans (n1 i fun z => hi (List.mem_append_left _ z))) s2 (a1.trans a2)
theorem qg_tup0 {es : List Expr} {k : Nat} {g : DGs} {n : Nat} {sl : List Nat} (hc : X.calm = true) (h : PGs X es (liftGs (xfw X tbl) sl g))
    (hn : (assignEach es X.env).length = n := by rfl) (hst : (assignEach es X.env).findIdx? (·.1) = none := by rfl) : PG X (.Tuple es k pos) (liftG (xfw X tbl) sl (dgTup0 n g)) :=
  PG.imp (pg_tup hc h hn hst) fun v σ H Q ⟨d, δ, S, Q0, rv, rst, sim, h, hq⟩ => by
    cases d with
    | tup xs =>
      cases rv with
      | tup hs rl => exact ⟨_, _, rfl, hs, by rw [← rl.length]; exact h.1, xs, δ, S, Q0, rl, rst, sim, h.2, hq⟩
    | _ => exact h.elim
def dAsg (te : DE) (g : DG) : DSt := fun D δ S => te δ S fun x S1 => g x δ S1 D.nx
theorem lift_asg {g : DG} {sl : List Nat} : ∀ E σ H, liftS (xfw X tbl) (dAsg te g) E σ H → tAsg (liftE (xfw X tbl) te) (liftG (xfw X tbl) sl g) E σ H :=
  fun E σ H ⟨δ, S, D0, hr, hs, h, cv⟩ => ⟨δ, S, _, hr, hs, h, fun d S1 v H1 h1 r1 s1 a1 => ⟨d, δ, S1, _, r1, hr.stp a1, s1, h1, fun δ' S' σ' H' q r _ _ s a => cv.nx δ' S' σ' H' q r s (a1.trans a)⟩⟩
theorem qs_asg {tg e : Expr} {g : DG} {sl : List Nat} (he : PE X e (liftE (xfw X tbl) te)) (hg : PG X tg (liftG (xfw X tbl) sl g)) (hs : swapsWithSole [tg] e pos.line X.env = pure false := by rfl) (hw : swappedStores [tg] e X.env = pure none := by rfl)
    (h1 : (assignEach [tg] X.env).map (·.2) = [assign tg X.env] := by rfl) : PS X (.Assign [tg] e pos) (liftS (xfw X tbl) (dAsg te g)) := PS.imp (ps_asg he hg hs hw h1) lift_asg
theorem qs_set {i : Nat} {x : Str} {e : Expr} {pos' : Pos} (hN : X.N.Nodup) (hi : X.N[i]? = some x) (hx : L2.Loc X.env.scope x) (he : PE X e (liftE (xfw X tbl) te)) (hs : swapsWith e (some (.Name x pos')) pos.line X.env = pure false := by rfl)
    (hf : X.fn x = true ∨ X.env.scope.names.lookup x = some .local := by first | exact .inl rfl | exact .inr rfl | assumption) : PS X (.Assign [.Name x pos'] e pos) (liftS (xfw X tbl) (dAsg te (dgName i))) :=
  PS.imp (ps_set hN hi hx he hs hf) fun E σ H ⟨δ, S, D0, hr, hs, h, cv⟩ => ⟨δ, S, _, hr, hs, h, fun d S1 v H1 h1 r1 s1 a1 => cv.nx _ S1 _ H1 h1 ((hr.stp a1).set r1) s1 a1⟩
def dAug (i : Nat) (te : DE) (r : DR2) : DSt := fun D δ S => ∃ x, δ[i]? = some (some x) ∧ te δ S fun y S1 => r x y S1 fun z S2 => D.nx (δ.set i (some z)) S2
theorem qs_aug {i : Nat} {x : Str} {e : Expr} {op : Operator} {r : DR2} {pos' : Pos} (hN : X.N.Nodup) (hi : X.N[i]? = some x) (hx : L2.Loc X.env.scope x) (he : PE X e (liftE (xfw X tbl) te)) (ho : OpR X (inplaceOp op) (liftO (xfw X tbl) r))
    (hf : X.fn x = true ∨ X.env.scope.names.lookup x = some .local := by first | exact .inl rfl | exact .inr rfl | assumption) : PS X (.AugAssign (.Name x pos') op e pos) (liftS (xfw X tbl) (dAug i te r)) :=
  PS.imp (ps_aug (ti := liftO (xfw X tbl) r) hN hi hx he ho hf) fun E σ H ⟨δ, S, D0, hr, hs, ⟨d, e, h⟩, cv⟩ => by
    obtain ⟨v, h1, h2⟩ := hr.2 i d e
    exact ⟨v, h1, δ, S, _, hr, hs, h, fun y S1 u H1 q1 r1 s1 a1 => ⟨d, y, S1, _, a1.rv h2, r1, s1, q1, fun z S2 w H2 q2 r2 s2 a2 => cv.nx _ S2 _ H2 q2 ((hr.stp (a1.trans a2)).set r2) s2 (a1.trans a2)⟩⟩
/-- o[i] = v, by values -/
abbrev DSet := D → D → D → DS → (DS → Prop) → Prop
def liftSet (K : FW) (r : DSet) : TSet := fun o i v H Q => ∃ od i_d vd S Q0, Rv K H od o ∧ Rv K H i_d i ∧ Rv K H vd v ∧ Sim K S H ∧ r od i_d vd S Q0 ∧ ∀ S' H', Q0 S' → Sim K S' H' → Stp S H S' H' → Q H'
def dgSub (to ti : DE) (r : DSet) : DG := fun v δ S Q => to δ S fun o S1 => ti δ S1 fun i S2 => r o i v S2 fun S3 => Q δ S3
theorem qg_sub {o i : Expr} {to ti : DE} {r : DSet} (ho : PE X o (liftE (xfw X tbl) to)) (hi : PE X i (liftE (xfw X tbl) ti)) (hs : PSet X (liftSet (xfw X tbl) r))
    (ha : ∀ v, assign (.Subscript o i pos) X.env v = (do
      let ov ← holding [v] (eval o X.env)
      let iv ← holding [v, ov] (eval i X.env)
      standAt pos
      holding [v, ov, iv] (setItem ov iv v)
      release [v, ov, iv] []) := by intro _; rfl) : PG X (.Subscript o i pos) (liftG (xfw X tbl) [] (dgSub to ti r)) :=
  PG.imp (pg_sub ho hi hs ha) fun v σ H Q ⟨d, δ, S, Q0, rv, rst, sim, h, hq⟩ => ⟨δ, S, _, rst, sim, h, fun x S1 vx H1 h1 r1 s1 a1 => ⟨δ, S1, _, rst.stp a1, s1, h1, fun y S2 vy H2 h2 r2 s2 a2 =>
    ⟨x, y, d, S2, _, a2.rv r1, r2, (a1.trans a2).rv rv, s2, h2, fun S3 H3 q3 s3 a3 => hq _ S3 _ H3 q3 (rst.stp ((a1.trans a2).trans a3)) rfl (fun _ _ => rfl) s3 ((a1.trans a2).trans a3)⟩⟩⟩
/-- o[i] op= e -/
def dAugS (to ti te : DE) (rg rp : DR2) (rs : DSet) : DSt := fun D δ S => to δ S fun o S1 => ti δ S1 fun i S2 => rg o i S2 fun x S3 => te δ S3 fun y S4 => rp x y S4 fun z S5 => rs o i z S5 fun S6 => D.nx δ S6
theorem qs_augS {o i e : Expr} {to ti : DE} {rg rp : DR2} {rs : DSet} {op : Operator} {tpos : Pos} (ho : PE X o (liftE (xfw X tbl) to)) (hi : PE X i (liftE (xfw X tbl) ti)) (hg : PGet X (liftO (xfw X tbl) rg)) (he : PE X e (liftE (xfw X tbl) te)) (hp : OpR X (inplaceOp op) (liftO (xfw X tbl) rp)) (hs : PSet X (liftSet (xfw X tbl) rs))
    (ha : ∀ ov iv new, augStore i ov iv new = (do holding [new, ov, iv] (setItem ov iv new); release [new, ov, iv] []; pure .next) := by intros; rfl) : PS X (.AugAssign (.Subscript o i tpos) op e pos) (liftS (xfw X tbl) (dAugS to ti te rg rp rs)) :=
  PS.imp (ps_augS ho hi hg he hp hs ha) fun E σ H ⟨δ, S, D0, hr, hs, h, cv⟩ => ⟨δ, S, _, hr, hs, h, fun x1 S1 v1 H1 h1 r1 s1 a1 => ⟨δ, S1, _, hr.stp a1, s1, h1, fun x2 S2 v2 H2 h2 r2 s2 a2 =>
    ⟨x1, x2, S2, _, a2.rv r1, r2, s2, h2, fun x3 S3 v3 H3 h3 r3 s3 a3 => ⟨δ, S3, _, hr.stp ((a1.trans a2).trans a3), s3, h3, fun x4 S4 v4 H4 h4 r4 s4 a4 =>
      ⟨x3, x4, S4, _, a4.rv r3, r4, s4, h4, fun x5 S5 v5 H5 h5 r5 s5 a5 => ⟨x1, x2, x5, S5, _, (a2.trans ((a3.trans a4).trans a5)).rv r1, ((a3.trans a4).trans a5).rv r2, r5, s5, h5, fun S6 H6 h6 s6 a6 =>
        cv.nx δ S6 σ H6 h6 (hr.stp (((a1.trans a2).trans ((a3.trans a4).trans a5)).trans a6)) s6 (((a1.trans a2).trans ((a3.trans a4).trans a5)).trans a6)⟩⟩⟩⟩⟩⟩
def dWhileN (c : DT) (tb : DSt) : Nat → DSt
  | 0 => fun _ _ _ => False
  | n + 1 => fun D δ S => c δ S fun b S1 => if b = true then tb { nx := fun δ S => dWhileN c tb n D δ S, rt := D.rt, bk := D.nx, ct := fun δ S => dWhileN c tb n D δ S } δ S1 else D.nx δ S1
def dWhile (c : DT) (tb : DSt) : DSt := fun D δ S => ∃ n, dWhileN c tb n D δ S
theorem qs_while {c : Expr} {body : List Stmt} {tc : DT} {tb : DSt} (hp : PassesOwn (model X.prog X.w) X.A X.env X.xe) (hc : PT X c (liftT (xfw X tbl) tc)) (hb : PSs X body (liftS (xfw X tbl) tb)) : PS X (.While c body [] pos) (liftS (xfw X tbl) (dWhile tc tb)) :=
  PS.imp (ps_while hp hc hb) fun E σ H ⟨δ, S, D0, hr, hs, ⟨n, h⟩, cv⟩ => by
    refine ⟨fun m σ' H' => ∃ δ' S', Stp S H S' H' ∧ Rst (xfw X tbl) H' δ' σ' ∧ Sim (xfw X tbl) S' H' ∧ dWhileN tc tb m D0 δ' S', ⟨n, δ, S, .refl _ _, hr, hs, h⟩, ?_⟩
    rintro m σ1 H1 ⟨δ1, S1, a1, r1, s1, h1⟩
    cases m with
    | zero => exact h1.elim
    | succ m =>
      refine ⟨δ1, S1, _, r1, s1, h1, fun b S2 H2 q2 s2 a2 => ?_⟩
      cases b with
      | true =>
        simp only [if_true] at q2 ⊢
        refine ⟨fun σ' H' => ∃ δ' S', Stp S H S' H' ∧ Rst (xfw X tbl) H' δ' σ' ∧ Sim (xfw X tbl) S' H' ∧ dWhileN tc tb m D0 δ' S', fun σ' H' w => ⟨m, Nat.lt_succ_self m, w⟩, ?_⟩
        exact ⟨δ1, S2, _, r1.stp a2, s2, q2, ⟨fun δ' S' σ' H' h r s a => ⟨δ', S', (a1.trans a2).trans a, r, s, h⟩, (cv.stp (a1.trans a2)).rt, (cv.stp (a1.trans a2)).nx, fun δ' S' σ' H' h r s a => ⟨δ', S', (a1.trans a2).trans a, r, s, h⟩⟩⟩
      | false =>
        simp only [Bool.false_eq_true, if_false] at q2 ⊢
        exact cv.nx δ1 S2 σ1 H2 q2 (r1.stp a2) s2 (a1.trans a2)
end
abbrev DI := Loc → DS → (List D → (DS → Prop) → DS → Prop) → Prop
def JOk (K : FW) (H0 : Hp) (xs : List D) (stay : DS → Prop) (J : It) : Prop :=
  ∀ i S H, Prs H0 H → Sim K S H → stay S → (xs.length ≤ i → J.stop i H) ∧ ∀ d, xs[i]? = some d → J.go i H ∧ ∀ x H', J.yld i H x H' → Rv K H' d x ∧ Sim K S H' ∧ Stp S H S H'
def liftI (K : FW) (di : DI) : TI := fun σ H R => ∃ δ S Q0, Rst K H δ σ ∧ Sim K S H ∧ di δ S Q0 ∧ ∀ xs stay S' H' J, Q0 xs stay S' → Sim K S' H' → Stp S H S' H' → JOk K H' xs stay J → R J H'
def forT (stay : DS → Prop) (g : DG) (tb : DSt) (E : DEnds) : List D → Loc → DS → Prop
  | [], δ, S => stay S ∧ E.nx δ S
  | x :: r, δ, S => stay S ∧ g x δ S fun δ1 S1 => tb { nx := fun δ S => forT stay g tb E r δ S, rt := E.rt, bk := E.nx, ct := fun δ S => forT stay g tb E r δ S } δ1 S1
def dFor (di : DI) (g : DG) (tb : DSt) : DSt := fun D δ S => di δ S fun xs stay S1 => forT stay g tb D xs δ S1
section
variable {X : Cx} {tbl : Tbl} {tg iter : Expr} {pos : Pos}
theorem drop_get {α : Type} {xs : List α} {i : Nat} {x : α} {r : List α} (h : xs.drop i = x :: r) : xs[i]? = some x ∧ r = xs.drop (i + 1) ∧ i < xs.length := by
  have hi : i < xs.length := by
    by_cases q : i < xs.length
    · exact q
    · rw [List.drop_eq_nil_of_le (by omega)] at h; cases h
  rw [List.drop_eq_getElem_cons hi] at h
  injection h with h1 h2
  exact ⟨by rw [List.getElem?_eq_getElem hi, h1], h2.symm, hi⟩
theorem qs_for {body : List Stmt} {di : DI} {g : DG} {tb : DSt} {sl : List Nat} (hp : PassesOwn (model X.prog X.w) X.A X.env X.xe) (hc : X.calm = true) (hi : PI X tg iter (liftI (xfw X tbl) di)) (hg : PG X tg (liftG (xfw X tbl) sl g)) (hb : PSs X body (liftS (xfw X tbl) tb))
    (hs : ∀ x, foldedSetIterable iter X.env x = pure x := by intro _; rfl) : PS X (.For tg iter body [] pos) (liftS (xfw X tbl) (dFor di g tb)) :=
  PS.imp (ps_for hp hc hi hg hb hs) fun E σ H ⟨δ, S, D0, hr, hs, h, cv⟩ => by
    refine ⟨δ, S, _, hr, hs, h, fun xs stay S1 H1 J q1 s1 a1 jok => ?_⟩
    refine ⟨fun i m σ' H' => m + i = xs.length ∧ ∃ δ' S', Stp S1 H1 S' H' ∧ Rst (xfw X tbl) H' δ' σ' ∧ Sim (xfw X tbl) S' H' ∧ forT stay g tb D0 (xs.drop i) δ' S', ⟨xs.length, by omega, δ, S1, .refl _ _, hr.stp a1, s1, by simpa using q1⟩, ?_⟩
    rintro i m σ2 H2 ⟨em, δ2, S2, a2, r2, s2, h2⟩
    cases hx : xs.drop i with
    | nil =>
      rw [hx] at h2
      have hl : xs.length ≤ i := List.drop_eq_nil_iff.mp hx
      exact .inl ⟨(jok i S2 H2 a2.prs s2 h2.1).1 hl, cv.nx δ2 S2 σ2 H2 h2.2 r2 s2 (a1.trans a2)⟩
    | cons x r =>
      rw [hx] at h2
      obtain ⟨hg1, hr1, hl⟩ := drop_get hx
      obtain ⟨hgo, hy⟩ := (jok i S2 H2 a2.prs s2 h2.1).2 x hg1
      refine .inr ⟨hgo, fun σ' H' => ∃ δ' S', Stp S1 H1 S' H' ∧ Rst (xfw X tbl) H' δ' σ' ∧ Sim (xfw X tbl) S' H' ∧ forT stay g tb D0 r δ' S', fun σ' H' ⟨δ', S', a', r', s', h'⟩ => ⟨m - 1, by omega, by omega, δ', S', a', r', s', by rw [← hr1]; exact h'⟩, fun x' H' y => ?_⟩
      obtain ⟨rx, sx, ax⟩ := hy x' H' y
      refine ⟨x, δ2, S2, _, rx, r2.stp ax, sx, h2.2, fun δ3 S3 σ3 H3 q3 r3 _ _ s3 a3 => ⟨δ3, S3, _, r3, s3, q3, ?_⟩⟩
      have ac := (a2.trans ax).trans a3
      exact ⟨fun δ' S' σ' H' h r s a => ⟨δ', S', ac.trans a, r, s, h⟩, (cv.stp (a1.trans ac)).rt, (cv.stp (a1.trans ac)).nx, fun δ' S' σ' H' h r s a => ⟨δ', S', ac.trans a, r, s, h⟩⟩
def dwipe (δ : Loc) : List Nat → Loc
  | [] => δ
  | v :: vs => (dwipe δ vs).set v none
theorem dwipe_some {δ : Loc} {i : Nat} {d : D} : ∀ {vs : List Nat}, (dwipe δ vs)[i]? = some (some d) → δ[i]? = some (some d) ∧ i ∉ vs
  | [], h => ⟨h, by simp⟩
  | v :: vs, h => by
    unfold dwipe at h
    by_cases hi : v = i
    · subst hi
      by_cases hv : v < (dwipe δ vs).length
      · rw [List.getElem?_set_self hv] at h; cases h
      · rw [List.getElem?_eq_none (by simpa using hv)] at h; cases h
    · rw [List.getElem?_set_ne hi] at h
      obtain ⟨h1, h2⟩ := dwipe_some h
      exact ⟨h1, by simp only [List.mem_cons, not_or]; exact ⟨fun e => hi e.symm, h2⟩⟩
theorem dwipe_length (δ : Loc) : ∀ vs : List Nat, (dwipe δ vs).length = δ.length
  | [] => rfl
  | v :: vs => by unfold dwipe; rw [List.length_set, dwipe_length δ vs]
theorem wipe_in {σ : L2.St} {i : Nat} : ∀ {vs : List Nat}, i ∈ vs → i < σ.length → (wipe σ vs)[i]? = some none
  | [], h, _ => by cases h
  | v :: vs, h, hl => by
    unfold wipe
    by_cases hi : v = i
    · subst hi
      exact List.getElem?_set_self (by rw [wipe_length]; exact hl)
    · rw [List.getElem?_set_ne hi]
      exact wipe_in (by rcases List.mem_cons.mp h with z | z; exact absurd z.symm hi; exact z) hl
theorem Rst.wipe {K : FW} {H : Hp} {δ : Loc} {σ : L2.St} {vs : List Nat} (r : Rst K H δ σ) : Rst K H (dwipe δ vs) (L2.wipe σ vs) := by
  refine ⟨by rw [dwipe_length, wipe_length]; exact r.1, fun i d h => ?_⟩
  obtain ⟨h1, h2⟩ := dwipe_some h
  obtain ⟨v, h3, h4⟩ := r.2 i d h1
  exact ⟨v, by rw [wipe_out h2]; exact h3, h4⟩
theorem wipe_same {σ τ : L2.St} {sl vs : List Nat} (hl : τ.length = σ.length) (h : ∀ i, i ∉ sl → τ[i]? = (wipe σ vs)[i]?) (hs : ∀ i ∈ sl, i ∈ vs) : wipe τ vs = wipe σ vs := by
  apply List.ext_getElem?
  intro i
  by_cases hi : i ∈ vs
  · by_cases hlt : i < σ.length
    · rw [wipe_in hi (by omega), wipe_in hi hlt]
    · rw [List.getElem?_eq_none (by rw [wipe_length]; omega), List.getElem?_eq_none (by rw [wipe_length]; omega)]
  · rw [wipe_out hi, h i fun z => hi (hs i z)]
def lcT (stay : DS → Prop) (g : DG) (tt : DT) (te : DE) (δ : Loc) (K : List D → DS → Prop) : List D → List D → DS → Prop
  | [], acc, S => stay S ∧ K acc S
  | x :: r, acc, S => stay S ∧ g x δ S fun δ2 S2 => tt δ2 S2 fun b S3 => if b = true then te δ2 S3 fun y S4 => acc.length < 16777216 ∧ lcT stay g tt te δ K r (acc ++ [y]) S4 else lcT stay g tt te δ K r acc S3
def dLc (di : DI) (g : DG) (tt : DT) (te : DE) (vs : List Nat) : DE := fun δ S Q => di δ S fun xs stay S1 => lcT stay g tt te (dwipe δ vs) (fun ys S2 => ∀ p, S2 p = none → Q (.ref p) (dupd S2 p (.lst ys))) xs [] S1
theorem Stp.updD {S0 S : DS} {H0 H : Hp} {p : Addr} {o : HO} (a : Stp S0 H0 S H) (h : H0 p = none) : Stp S0 H0 S (L2.upd H p o) :=
  ⟨fun b xs e => by rw [upd_ne (ne_of_none e h)]; exact a.tup b xs e, fun b x u e => by rw [upd_ne (ne_of_none e h)]; exact a.frz b x u e,
   fun b x n t e => by rw [upd_ne (ne_of_none e h)]; exact a.keep b x n t e, a.hid, fun b e => upd_live (a.live b e)⟩
theorem Stp.newD {S0 S : DS} {H0 H : Hp} {p : Addr} {d : DO} (a : Stp S0 H0 S H) (h : H0 p = none) : Stp S0 H0 (dupd S p d) H :=
  ⟨a.tup, a.frz, a.keep, fun b e n => by rw [dupd_ne (fun z => e (by rw [z]; exact h))]; exact a.hid b e n, a.live⟩
theorem Rv.updL {K : FW} {H : Hp} {p : Addr} {ws us : List V} (h : H p = some (.lst ws)) {d : D} {v : V} (r : Rv K H d v) : Rv K (L2.upd H p (.lst us)) d v := by
  refine Rv.mono (fun a vs q => ?_) (fun a vs q => ?_) d v r
  · rcases q with (q | ⟨o, q⟩) | q
    · exact .inl (.inl (by rw [upd_ne (fun z => by subst z; rw [h] at q; cases q)]; exact q))
    · exact .inl (.inr ⟨o, by rw [upd_ne (fun z => by subst z; rw [h] at q; cases q)]; exact q⟩)
    · exact .inr q
  · rcases q with ⟨o, q⟩ | q
    · exact .inl ⟨o, by rw [upd_ne (fun z => by subst z; rw [h] at q; cases q)]; exact q⟩
    · exact .inr q
theorem RvL.updL {K : FW} {H : Hp} {p : Addr} {ws us : List V} (h : H p = some (.lst ws)) : ∀ {ds : List D} {vs : List V}, RvL K H ds vs → RvL K (L2.upd H p (.lst us)) ds vs
  | [], _, r => by cases r; exact .nil
  | d :: ds, _, r => by
    cases r with
    | cons q rr => exact .cons (q.updL h) (RvL.updL h rr)
theorem REnt.updL {K : FW} {H : Hp} {p : Addr} {ws us : List V} (h : H p = some (.lst ws)) : ∀ {kvs : List (D × D)} {es : List DictEntry}, REnt K H kvs es → REnt K (L2.upd H p (.lst us)) kvs es
  | _, _, .nil => .nil
  | _, _, .cons a b c d e f r => .cons a b (c.updL h) d (e.updL h) f (REnt.updL h r)
theorem Sim.updL {K : FW} {S : DS} {H : Hp} {p : Addr} {ws us : List V} (x : Sim K S H) (h : H p = some (.lst ws)) (n : S p = none) : Sim K S (L2.upd H p (.lst us)) := by
  refine ⟨fun a o e => ?_, tabs_upd x.tab (by rw [h]; exact ⟨fun _ z => (nomatch z), fun _ _ z => (nomatch z)⟩)⟩
  have ha : a ≠ p := fun z => by subst z; rw [n] at e; cases e
  cases o with
  | lst xs => obtain ⟨vs, e, r⟩ := x a _ e; exact ⟨vs, (upd_ne ha).trans e, r.updL h⟩
  | ins C fs => obtain ⟨dx, vs, e, z, r⟩ := x a _ e; exact ⟨dx, vs, (upd_ne ha).trans e, z, r.updL h⟩
  | dct st kvs => obtain ⟨e, r, l⟩ := x a _ e; exact ⟨(upd_ne ha).trans e, REnt.updL h r, l⟩
  | dset _ => exact (x a _ e).elim
theorem lift_lc {di : DI} {g : DG} {tt : DT} {te : DE} {sl vs : List Nat} (hsl : ∀ i ∈ sl, i ∈ vs) : ∀ σ H Q, liftE (xfw X tbl) (dLc di g tt te vs) σ H Q → tLc (liftI (xfw X tbl) di) (liftG (xfw X tbl) sl g) (liftT (xfw X tbl) tt) (liftE (xfw X tbl) te) vs σ H Q :=
  fun σ H Q ⟨δ, S, Q0, hr, hs, h, hq⟩ => by
    refine ⟨δ, S, _, hr, hs, h, fun xs stay S1 H1 J q1 s1 a1 jok p hp => ?_⟩
    have hp1 : S1 p = none := s1.fresh hp
    let Kd : List D → DS → Prop := fun ys S2 => ∀ p, S2 p = none → Q0 (.ref p) (dupd S2 p (.lst ys))
    refine ⟨fun i m H' => m + i = xs.length ∧ ∃ acc ws S', Stp S1 H1 S' H' ∧ Sim (xfw X tbl) S' H' ∧ S' p = none ∧ H' p = some (.lst ws) ∧ RvL (xfw X tbl) H' acc ws ∧ lcT stay g tt te (dwipe δ vs) Kd (xs.drop i) acc S',
      ⟨xs.length, by omega, [], [], S1, (Stp.refl _ _).updD hp, s1.laid hp, hp1, upd_same, .nil, by simpa using q1⟩, ?_⟩
    rintro i m H2 ⟨em, acc, ws, S2, a2, s2, n2, e2, r2, h2⟩
    cases hx : xs.drop i with
    | nil =>
      rw [hx] at h2
      have hl : xs.length ≤ i := List.drop_eq_nil_iff.mp hx
      refine .inl ⟨(jok i S2 H2 a2.prs s2 h2.1).1 hl, hq _ _ _ _ (h2.2 p n2) (.ref p) ⟨fun a u e => ?_, s2.tab⟩ ((a1.trans a2).newD ?_)⟩
      · by_cases ha : a = p
        · subst ha; rw [dupd_same] at e; cases e; exact ⟨ws, e2, r2⟩
        · rw [dupd_ne ha] at e; exact s2 a u e
      · cases q : H p with
        | none => rfl
        | some o => exact absurd hp (a1.live p (by rw [q]; simp))
    | cons x r =>
      rw [hx] at h2
      obtain ⟨hg1, hr1, hl⟩ := drop_get hx
      obtain ⟨hgo, hy⟩ := (jok i S2 H2 a2.prs s2 h2.1).2 x hg1
      refine .inr ⟨hgo, fun H' => ∃ acc ws S', Stp S1 H1 S' H' ∧ Sim (xfw X tbl) S' H' ∧ S' p = none ∧ H' p = some (.lst ws) ∧ RvL (xfw X tbl) H' acc ws ∧ lcT stay g tt te (dwipe δ vs) Kd r acc S',
        fun H' ⟨acc, ws, S', h1, h2, h3, h4, h5, h6⟩ => ⟨m - 1, by omega, by omega, acc, ws, S', h1, h2, h3, h4, h5, by rw [← hr1]; exact h6⟩, fun x' H' y => ?_⟩
      obtain ⟨rx, sx, ax⟩ := hy x' H' y
      have hrw : Rst (xfw X tbl) H1 (dwipe δ vs) (L2.wipe σ vs) := (hr.stp a1).wipe
      refine ⟨x, _, S2, _, rx, hrw.stp (a2.trans ax), sx, h2.2, fun δ3 S3 σ3 H3 q3 r3 l3 n3 s3 a3 => ⟨wipe_same (by rw [l3, wipe_length]) n3 hsl, δ3, S3, _, r3, s3, q3, fun b S4 H4 q4 s4 a4 => ?_⟩⟩
      have b4 := (ax.trans a3).trans a4
      have n4 : S4 p = none := b4.hid p (by rw [e2]; simp) n2
      have e4 : H4 p = some (.lst ws) := b4.keep p _ n2 (fun _ z => nomatch z) e2
      cases b with
      | false =>
        simp only [Bool.false_eq_true, if_false] at q4 ⊢
        exact ⟨acc, ws, S4, a2.trans b4, s4, n4, e4, b4.rvl r2, q4⟩
      | true =>
        simp only [if_true] at q4 ⊢
        refine ⟨δ3, S4, _, r3.stp a4, s4, q4, fun y S5 v H5 ⟨z5, q5⟩ r5 s5 a5 => ?_⟩
        have n5 : S5 p = none := a5.hid p (by rw [e4]; simp) n4
        have e5 : H5 p = some (.lst ws) := a5.keep p _ n4 (fun _ z => nomatch z) e4
        have r2' := (b4.trans a5).rvl r2
        refine ⟨ws, e5, by rw [← r2.length, szl]; exact z5, acc ++ [y], ws ++ [v], S5, (a2.trans (b4.trans a5)).updD hp, s5.updL e5 n5, n5, upd_same, (r2'.append (.cons r5 .nil)).updL e5, q5⟩
end
section
variable {X : Cx} {tbl : Tbl} {pos : Pos}
def liftTs (K : FW) (t : DT) : TT := liftT K t
def dYes : DT := fun _ S Q => Q true S
theorem PTs.imp {ifs : List Expr} {t t' : TT} (p : PTs X ifs t) (h : ∀ σ H Q, t' σ H Q → t σ H Q) : PTs X ifs t' := ⟨fun pins s σ H Q I hw => p.run pins s σ H Q I (h _ _ _ hw)⟩
theorem qts_nil : PTs X [] (liftT (xfw X tbl) dYes) := PTs.imp pts_nil fun σ H Q ⟨δ, S, Q0, hr, hs, h, hq⟩ => hq _ _ _ h hs (.refl _ _)
theorem qts_one {c : Expr} {t : DT} (h : PT X c (liftT (xfw X tbl) t)) : PTs X [c] (liftT (xfw X tbl) t) := pts_one h
theorem qe_lc {elt tg iter : Expr} {ifs : List Expr} {scope : Scope} (own : List (Str × Nat)) {di : DI} {g : DG} {tt : DT} {te : DE} {sl : List Nat} (hc : X.calm = true) (hN : X.N.Nodup) (hi : PI X tg iter (liftI (xfw X tbl) di)) (ok : blkC X.N X.env.scope scope own = true)
    (hsl : ∀ i ∈ sl, i ∈ own.map (·.2))
    (hg : ∀ (s : Shared) (H : Hp) (C : Addr) (cl : List (Str × Addr)) (fp : List Addr), PG (X.blk s H scope (compEnvC scope cl C X.env) fp) tg (liftG (xfw X tbl) sl g))
    (ht : ∀ (s : Shared) (H : Hp) (C : Addr) (cl : List (Str × Addr)) (fp : List Addr), PTs (X.blk s H scope (compEnvC scope cl C X.env) fp) ifs (liftT (xfw X tbl) tt))
    (he : ∀ (s : Shared) (H : Hp) (C : Addr) (cl : List (Str × Addr)) (fp : List Addr), PE (X.blk s H scope (compEnvC scope cl C X.env) fp) elt (liftE (xfw X tbl) te)) (hs : ∀ x, foldedSetIterable iter X.env x = pure x := by intro _; rfl) :
    PE X (.ListComp elt [⟨tg, iter, ifs, 0⟩] scope pos) (liftE (xfw X tbl) (dLc di g tt te (own.map (·.2)))) := PE.imp (pe_lc hc hN hi (blkOk_by ok) hg ht he hs) (lift_lc hsl)
theorem qs_setLc {i : Nat} {y : Str} {py spos : Pos} {elt tg iter : Expr} {ifs : List Expr} {scope : Scope} (own : List (Str × Nat)) {di : DI} {g : DG} {tt : DT} {te : DE} {sl : List Nat} (hc : X.calm = true) (hN : X.N.Nodup) (hy : X.N[i]? = some y) (hyl : X.env.scope.names.lookup y = some .local)
    (hsw : swapsWith (.ListComp elt [⟨tg, iter, ifs, 0⟩] scope pos) (some (.Name y py)) spos.line X.env = pure true) (hi : PI X tg iter (liftI (xfw X tbl) di)) (ok : blkC X.N X.env.scope scope own = true)
    (hsl : ∀ i ∈ sl, i ∈ own.map (·.2))
    (hg : ∀ (s : Shared) (H : Hp) (C : Addr) (cl : List (Str × Addr)) (fp : List Addr), PG (X.blk s H scope (compEnvC scope cl C X.env) fp) tg (liftG (xfw X tbl) sl g))
    (ht : ∀ (s : Shared) (H : Hp) (C : Addr) (cl : List (Str × Addr)) (fp : List Addr), PTs (X.blk s H scope (compEnvC scope cl C X.env) fp) ifs (liftT (xfw X tbl) tt))
    (he : ∀ (s : Shared) (H : Hp) (C : Addr) (cl : List (Str × Addr)) (fp : List Addr), PE (X.blk s H scope (compEnvC scope cl C X.env) fp) elt (liftE (xfw X tbl) te)) (hs : ∀ x, foldedSetIterable iter X.env x = pure x := by intro _; rfl) :
    PS X (.Assign [.Name y py] (.ListComp elt [⟨tg, iter, ifs, 0⟩] scope pos) spos) (liftS (xfw X tbl) (dAsg (dLc di g tt te (own.map (·.2))) (dgName i))) :=
  PS.imp (ps_setLc hc hN hy hyl hsw hi (blkOk_by ok) hg ht he hs) fun E σ H ⟨δ, S, D0, hr, hsim, h, cv⟩ =>
    lift_lc hsl σ H _ ⟨δ, S, _, hr, hsim, h, fun d S1 v H1 h1 r1 s1 a1 => cv.nx _ S1 _ H1 h1 ((hr.stp a1).set r1) s1 a1⟩
/-- two clauses -/
def lcT2 (stay : DS → Prop) (g : DG) (tt : DT) (di1 : DI) (g1 : DG) (tt1 : DT) (te : DE) (δ : Loc) (vs1 : List Nat) (K : List D → DS → Prop) : List D → List D → DS → Prop
  | [], acc, S => stay S ∧ K acc S
  | x :: r, acc, S => stay S ∧ g x δ S fun δ2 S2 => tt δ2 S2 fun b S3 => if b = true then di1 δ2 S3 fun ys stay1 S4 => lcT stay1 g1 tt1 te (dwipe δ2 vs1) (fun acc S => lcT2 stay g tt di1 g1 tt1 te δ vs1 K r acc S) ys acc S4
      else lcT2 stay g tt di1 g1 tt1 te δ vs1 K r acc S3
def dLc2 (di : DI) (g : DG) (tt : DT) (di1 : DI) (g1 : DG) (tt1 : DT) (te : DE) (vs vs1 : List Nat) : DE := fun δ S Q => di δ S fun xs stay S1 => lcT2 stay g tt di1 g1 tt1 te (dwipe δ vs) vs1 (fun ys S2 => ∀ p, S2 p = none → Q (.ref p) (dupd S2 p (.lst ys))) xs [] S1
theorem lift_lc2 {di di1 : DI} {g g1 : DG} {tt tt1 : DT} {te : DE} {sl sl1 vs vs1 : List Nat} (hsl : ∀ i ∈ sl, i ∈ vs) (hsl1 : ∀ i ∈ sl1, i ∈ vs1) : ∀ σ H Q, liftE (xfw X tbl) (dLc2 di g tt di1 g1 tt1 te vs vs1) σ H Q →
    tLc2 (liftI (xfw X tbl) di) (liftG (xfw X tbl) sl g) (liftT (xfw X tbl) tt) (liftI (xfw X tbl) di1) (liftG (xfw X tbl) sl1 g1) (liftT (xfw X tbl) tt1) (liftE (xfw X tbl) te) vs vs1 σ H Q :=
  fun σ H Q ⟨δ, S, Q0, hr, hs, h, hq⟩ => by
    refine ⟨δ, S, _, hr, hs, h, fun xs stay S1 H1 J q1 s1 a1 jok p hp => ?_⟩
    have hp1 : S1 p = none := s1.fresh hp
    let Kd : List D → DS → Prop := fun ys S2 => ∀ p, S2 p = none → Q0 (.ref p) (dupd S2 p (.lst ys))
    refine ⟨fun i m H' => m + i = xs.length ∧ ∃ acc ws S', Stp S1 H1 S' H' ∧ Sim (xfw X tbl) S' H' ∧ S' p = none ∧ H' p = some (.lst ws) ∧ RvL (xfw X tbl) H' acc ws ∧ lcT2 stay g tt di1 g1 tt1 te (dwipe δ vs) vs1 Kd (xs.drop i) acc S',
      ⟨xs.length, by omega, [], [], S1, (Stp.refl _ _).updD hp, s1.laid hp, hp1, upd_same, .nil, by simpa using q1⟩, ?_⟩
    rintro i m H2 ⟨em, acc, ws, S2, a2, s2, n2, e2, r2, h2⟩
    cases hx : xs.drop i with
    | nil =>
      rw [hx] at h2
      have hl : xs.length ≤ i := List.drop_eq_nil_iff.mp hx
      refine .inl ⟨(jok i S2 H2 a2.prs s2 h2.1).1 hl, hq _ _ _ _ (h2.2 p n2) (.ref p) ⟨fun a u e => ?_, s2.tab⟩ ((a1.trans a2).newD ?_)⟩
      · by_cases ha : a = p
        · subst ha; rw [dupd_same] at e; cases e; exact ⟨ws, e2, r2⟩
        · rw [dupd_ne ha] at e; exact s2 a u e
      · cases q : H p with
        | none => rfl
        | some o => exact absurd hp (a1.live p (by rw [q]; simp))
    | cons x r =>
      rw [hx] at h2
      obtain ⟨hg1, hr1, hl⟩ := drop_get hx
      obtain ⟨hgo, hy⟩ := (jok i S2 H2 a2.prs s2 h2.1).2 x hg1
      let Nx : Hp → Prop := fun H' => ∃ acc ws S', Stp S1 H1 S' H' ∧ Sim (xfw X tbl) S' H' ∧ S' p = none ∧ H' p = some (.lst ws) ∧ RvL (xfw X tbl) H' acc ws ∧ lcT2 stay g tt di1 g1 tt1 te (dwipe δ vs) vs1 Kd r acc S'
      refine .inr ⟨hgo, Nx, fun H' ⟨acc, ws, S', h1, h2, h3, h4, h5, h6⟩ => ⟨m - 1, by omega, by omega, acc, ws, S', h1, h2, h3, h4, h5, by rw [← hr1]; exact h6⟩, fun x' H' y => ?_⟩
      obtain ⟨rx, sx, ax⟩ := hy x' H' y
      have hrw : Rst (xfw X tbl) H1 (dwipe δ vs) (L2.wipe σ vs) := (hr.stp a1).wipe
      refine ⟨x, _, S2, _, rx, hrw.stp (a2.trans ax), sx, h2.2, fun δ3 S3 σ3 H3 q3 r3 l3 n3 s3 a3 => ⟨wipe_same (by rw [l3, wipe_length]) n3 hsl, δ3, S3, _, r3, s3, q3, fun b S4 H4 q4 s4 a4 => ?_⟩⟩
      have b4 := (ax.trans a3).trans a4
      have n4 : S4 p = none := b4.hid p (by rw [e2]; simp) n2
      have e4 : H4 p = some (.lst ws) := b4.keep p _ n2 (fun _ z => nomatch z) e2
      cases b with
      | false =>
        simp only [Bool.false_eq_true, if_false] at q4 ⊢
        exact ⟨acc, ws, S4, a2.trans b4, s4, n4, e4, b4.rvl r2, q4⟩
      | true =>
        simp only [if_true] at q4 ⊢
        refine ⟨δ3, S4, _, r3.stp a4, s4, q4, fun ys stay1 S5 H5 J1 q5 s5 a5 jok1 => ?_⟩
        have b5 := b4.trans a5
        have n5 : S5 p = none := a5.hid p (by rw [e4]; simp) n4
        have e5 : H5 p = some (.lst ws) := a5.keep p _ n4 (fun _ z => nomatch z) e4
        let Kj : List D → DS → Prop := fun acc S => lcT2 stay g tt di1 g1 tt1 te (dwipe δ vs) vs1 Kd r acc S
        refine ⟨fun j k H' => k + j = ys.length ∧ ∃ acc ws S', Stp S1 H1 S' H' ∧ Prs H5 H' ∧ Sim (xfw X tbl) S' H' ∧ S' p = none ∧ H' p = some (.lst ws) ∧ RvL (xfw X tbl) H' acc ws ∧ lcT stay1 g1 tt1 te (dwipe δ3 vs1) Kj (ys.drop j) acc S',
          ⟨ys.length, by omega, acc, ws, S5, a2.trans b5, .refl _, s5, n5, e5, b5.rvl r2, by simpa using q5⟩, ?_⟩
        rintro j k H6 ⟨ek, acc6, ws6, S6, a6, c6, s6, n6, e6, r6, h6⟩
        cases hy : ys.drop j with
        | nil =>
          rw [hy] at h6
          have hl : ys.length ≤ j := List.drop_eq_nil_iff.mp hy
          exact .inl ⟨(jok1 j S6 H6 c6 s6 h6.1).1 hl, acc6, ws6, S6, a6, s6, n6, e6, r6, h6.2⟩
        | cons y ry =>
          rw [hy] at h6
          obtain ⟨hg1, hr1, hl⟩ := drop_get hy
          obtain ⟨hgo, hyy⟩ := (jok1 j S6 H6 c6 s6 h6.1).2 y hg1
          refine .inr ⟨hgo, fun H' => ∃ acc ws S', Stp S1 H1 S' H' ∧ Prs H5 H' ∧ Sim (xfw X tbl) S' H' ∧ S' p = none ∧ H' p = some (.lst ws) ∧ RvL (xfw X tbl) H' acc ws ∧ lcT stay1 g1 tt1 te (dwipe δ3 vs1) Kj ry acc S',
            fun H' ⟨acc, ws, S', h1, h2, h3, h4, h5, h6, h7⟩ => ⟨k - 1, by omega, by omega, acc, ws, S', h1, h2, h3, h4, h5, h6, by rw [← hr1]; exact h7⟩, fun x7 H7 y7 => ?_⟩
          obtain ⟨rx7, s7, a7⟩ := hyy x7 H7 y7
          have hrw1 : Rst (xfw X tbl) H7 (dwipe δ3 vs1) (L2.wipe σ3 vs1) := (((r3.stp (a4.trans a5)).prs c6).stp a7).wipe
          refine ⟨y, _, S6, _, rx7, hrw1, s7, h6.2, fun δ8 S8 σ8 H8 q8 r8 l8 m8 s8 a8 => ⟨wipe_same (by rw [l8, wipe_length]) m8 hsl1, δ8, S8, _, r8, s8, q8, fun b S9 H9 q9 s9 a9 => ?_⟩⟩
          have b9 := (a7.trans a8).trans a9
          have n9 : S9 p = none := b9.hid p (by rw [e6]; simp) n6
          have e9 : H9 p = some (.lst ws6) := b9.keep p _ n6 (fun _ z => nomatch z) e6
          cases b with
          | false =>
            simp only [Bool.false_eq_true, if_false] at q9 ⊢
            exact ⟨acc6, ws6, S9, a6.trans b9, c6.trans b9.prs, s9, n9, e9, b9.rvl r6, q9⟩
          | true =>
            simp only [if_true] at q9 ⊢
            refine ⟨δ8, S9, _, r8.stp a9, s9, q9, fun z S10 v H10 ⟨z10, q10⟩ r10 s10 a10 => ?_⟩
            have n10 : S10 p = none := a10.hid p (by rw [e9]; simp) n9
            have e10 : H10 p = some (.lst ws6) := a10.keep p _ n9 (fun _ z => nomatch z) e9
            have r6' := (b9.trans a10).rvl r6
            exact ⟨ws6, e10, by rw [← r6.length, szl]; exact z10, acc6 ++ [z], ws6 ++ [v], S10, (a6.trans (b9.trans a10)).updD hp, (c6.trans (b9.trans a10).prs).trans (Prs.updL e10), s10.updL e10 n10, n10, upd_same, (r6'.append (.cons r10 .nil)).updL e10, q10⟩
theorem qe_lc2 {elt tg iter tg1 iter1 : Expr} {ifs ifs1 : List Expr} {scope : Scope} (own : List (Str × Nat)) (vs1 : List Nat) {di di1 : DI} {g g1 : DG} {tt tt1 : DT} {te : DE} {sl sl1 : List Nat} (hc : X.calm = true) (hN : X.N.Nodup) (hi : PI X tg iter (liftI (xfw X tbl) di)) (ok : blkC X.N X.env.scope scope own = true)
    (hv : ∀ i ∈ vs1, i ∈ own.map (·.2)) (hsl : ∀ i ∈ sl, i ∈ own.map (·.2)) (hsl1 : ∀ i ∈ sl1, i ∈ vs1)
    (hg : ∀ (s : Shared) (H : Hp) (C : Addr) (cl : List (Str × Addr)) (fp : List Addr), PG (X.blk s H scope (compEnvC scope cl C X.env) fp) tg (liftG (xfw X tbl) sl g))
    (ht : ∀ (s : Shared) (H : Hp) (C : Addr) (cl : List (Str × Addr)) (fp : List Addr), PTs (X.blk s H scope (compEnvC scope cl C X.env) fp) ifs (liftT (xfw X tbl) tt))
    (hi1 : ∀ (s : Shared) (H : Hp) (C : Addr) (cl : List (Str × Addr)) (fp : List Addr), PI (X.blk s H scope (compEnvC scope cl C X.env) fp) tg1 iter1 (liftI (xfw X tbl) di1))
    (hg1 : ∀ (s : Shared) (H : Hp) (C : Addr) (cl : List (Str × Addr)) (fp : List Addr), PG (X.blk s H scope (compEnvC scope cl C X.env) fp) tg1 (liftG (xfw X tbl) sl1 g1))
    (ht1 : ∀ (s : Shared) (H : Hp) (C : Addr) (cl : List (Str × Addr)) (fp : List Addr), PTs (X.blk s H scope (compEnvC scope cl C X.env) fp) ifs1 (liftT (xfw X tbl) tt1))
    (he : ∀ (s : Shared) (H : Hp) (C : Addr) (cl : List (Str × Addr)) (fp : List Addr), PE (X.blk s H scope (compEnvC scope cl C X.env) fp) elt (liftE (xfw X tbl) te)) (hs : ∀ x, foldedSetIterable iter X.env x = pure x := by intro _; rfl) (hs1 : ∀ env x, foldedSetIterable iter1 env x = pure x := by intro _ _; rfl) :
    PE X (.ListComp elt [⟨tg, iter, ifs, 0⟩, ⟨tg1, iter1, ifs1, 0⟩] scope pos) (liftE (xfw X tbl) (dLc2 di g tt di1 g1 tt1 te (own.map (·.2)) vs1)) := PE.imp (pe_lc2 hc hN hi (blkOk_by ok) hv hg ht hi1 hg1 ht1 he hs hs1) (lift_lc2 hsl hsl1)
theorem qs_setLc2 {i : Nat} {y : Str} {py spos : Pos} {elt tg iter tg1 iter1 : Expr} {ifs ifs1 : List Expr} {scope : Scope} (own : List (Str × Nat)) (vs1 : List Nat) {di di1 : DI} {g g1 : DG} {tt tt1 : DT} {te : DE} {sl sl1 : List Nat} (hc : X.calm = true) (hN : X.N.Nodup) (hy : X.N[i]? = some y) (hyl : X.env.scope.names.lookup y = some .local)
    (hsw : swapsWith (.ListComp elt [⟨tg, iter, ifs, 0⟩, ⟨tg1, iter1, ifs1, 0⟩] scope pos) (some (.Name y py)) spos.line X.env = pure true) (hi : PI X tg iter (liftI (xfw X tbl) di)) (ok : blkC X.N X.env.scope scope own = true)
    (hv : ∀ i ∈ vs1, i ∈ own.map (·.2)) (hsl : ∀ i ∈ sl, i ∈ own.map (·.2)) (hsl1 : ∀ i ∈ sl1, i ∈ vs1)
    (hg : ∀ (s : Shared) (H : Hp) (C : Addr) (cl : List (Str × Addr)) (fp : List Addr), PG (X.blk s H scope (compEnvC scope cl C X.env) fp) tg (liftG (xfw X tbl) sl g))
    (ht : ∀ (s : Shared) (H : Hp) (C : Addr) (cl : List (Str × Addr)) (fp : List Addr), PTs (X.blk s H scope (compEnvC scope cl C X.env) fp) ifs (liftT (xfw X tbl) tt))
    (hi1 : ∀ (s : Shared) (H : Hp) (C : Addr) (cl : List (Str × Addr)) (fp : List Addr), PI (X.blk s H scope (compEnvC scope cl C X.env) fp) tg1 iter1 (liftI (xfw X tbl) di1))
    (hg1 : ∀ (s : Shared) (H : Hp) (C : Addr) (cl : List (Str × Addr)) (fp : List Addr), PG (X.blk s H scope (compEnvC scope cl C X.env) fp) tg1 (liftG (xfw X tbl) sl1 g1))
    (ht1 : ∀ (s : Shared) (H : Hp) (C : Addr) (cl : List (Str × Addr)) (fp : List Addr), PTs (X.blk s H scope (compEnvC scope cl C X.env) fp) ifs1 (liftT (xfw X tbl) tt1))
    (he : ∀ (s : Shared) (H : Hp) (C : Addr) (cl : List (Str × Addr)) (fp : List Addr), PE (X.blk s H scope (compEnvC scope cl C X.env) fp) elt (liftE (xfw X tbl) te)) (hs : ∀ x, foldedSetIterable iter X.env x = pure x := by intro _; rfl) (hs1 : ∀ env x, foldedSetIterable iter1 env x = pure x := by intro _ _; rfl) :
    PS X (.Assign [.Name y py] (.ListComp elt [⟨tg, iter, ifs, 0⟩, ⟨tg1, iter1, ifs1, 0⟩] scope pos) spos) (liftS (xfw X tbl) (dAsg (dLc2 di g tt di1 g1 tt1 te (own.map (·.2)) vs1) (dgName i))) :=
  PS.imp (ps_setLc2 hc hN hy hyl hsw hi (blkOk_by ok) hv hg ht hi1 hg1 ht1 he hs hs1) fun E σ H ⟨δ, S, D0, hr, hsim, h, cv⟩ =>
    lift_lc2 hsl hsl1 σ H _ ⟨δ, S, _, hr, hsim, h, fun d S1 v H1 h1 r1 s1 a1 => cv.nx _ S1 _ H1 h1 ((hr.stp a1).set r1) s1 a1⟩
end
section
variable {X : Cx} {tbl : Tbl} {x : Str} {p pos : Pos} {e : Expr} {es : List Expr} {t : DA} {id T : String}
def dCall (c : DF) (t : DA) : DE := fun δ S Q => t δ S fun ds S1 => c ds S1 Q
theorem lift_args {t : DA} {r : DRs} : ∀ σ H Q, liftE (xfw X tbl) (dCall r t) σ H Q → liftA (xfw X tbl) t σ H fun vs H1 => liftC (xfw X tbl) r vs H1 Q :=
  fun σ H Q ⟨δ, S, Q0, hr, hs, h, hq⟩ => ⟨δ, S, _, hr, hs, h, fun ds S1 vs H1 h1 r1 s1 a1 => ⟨ds, S1, _, r1, s1, h1, fun d S' v H' q r s a => hq d S' v H' q r s (a1.trans a)⟩⟩
theorem lift_call {t : DA} {c : DF} {np : Nat} (hn : ∀ ds S Q, c ds S Q → ds.length = np) : ∀ σ H Q, liftE (xfw X tbl) (dCall c t) σ H Q → tCall (liftF (xfw X tbl) np c) [] E0 (liftA (xfw X tbl) t) σ H Q :=
  fun σ H Q ⟨δ, S, Q0, hr, hs, h, hq⟩ => ⟨δ, S, _, hr, hs, h, fun ds S1 vs H1 h1 r1 s1 a1 => by
    show liftF (xfw X tbl) np c (vs ++ []) H1 Q E0
    rw [List.append_nil]
    exact ⟨by rw [← r1.length]; exact hn _ _ _ h1, ds, S1, _, r1, s1, h1, fun d S' v H' q r s a => hq d S' v H' q r s (a1.trans a)⟩⟩
variable {k np : Nat} {f : Addr} {fd : FuncData} {ps : List Str} {c : DF}
theorem qe_call (hn : ∀ ds S Q, c ds S Q → ds.length = np) (F : FnOk X.prog X.w X.K X.mg X.base CX0 k f fd ps (liftF (xfw X tbl) np c)) (hr : Room k X.A) (hg : Gl X x) (hm : X.mg x = some (.ref f)) (hk : PySem.W.keepIn X.K (.ref f) = true) (hb : Binds X.K fd ps [])
    (ha : PA X (e :: es) (liftA (xfw X tbl) t)) (hdb : (x == ("__debug__" : Str)) = false := by decide) (he : starEach (e :: es) X.env = (false, eval e X.env) :: starEach es X.env := by rfl) (hpl : (backTo pos (starEach es X.env)).any (·.1) = false := by rfl) :
    PE X (.Call (.Name x p) (e :: es) [] pos) (liftE (xfw X tbl) (dCall c t)) := PE.imp (pe_call F hr hg hm hk hb .nil pass0 ha hdb he hpl) (lift_call hn)
theorem qe_callB {r : DRs} (hc : CallR X (.builtin id) (liftC (xfw X tbl) r)) (hg : Gl X x) (hm : X.mg x = none) (hv : bootBuiltins x = some (.builtin id)) (ha : PA X (e :: es) (liftA (xfw X tbl) t)) (hn : x ≠ "__name__" := by decide) (hdb : (x == ("__debug__" : Str)) = false := by decide)
    (he : starEach (e :: es) X.env = (false, eval e X.env) :: starEach es X.env := by rfl) (hpl : (backTo pos (starEach es X.env)).any (·.1) = false := by rfl) :
    PE X (.Call (.Name x p) (e :: es) [] pos) (liftE (xfw X tbl) (dCall r t)) := PE.imp (pe_callB hc hg hm hv ha hn hdb he hpl) lift_args
theorem qe_callTy {r : DRs} (hc : CallR X (.type T) (liftC (xfw X tbl) r)) (hg : Gl X x) (hm : X.mg x = none) (hv : bootBuiltins x = some (.type T)) (ha : PA X (e :: es) (liftA (xfw X tbl) t)) (hn : x ≠ "__name__" := by decide) (hdb : (x == ("__debug__" : Str)) = false := by decide)
    (he : starEach (e :: es) X.env = (false, eval e X.env) :: starEach es X.env := by rfl) (hpl : (backTo pos (starEach es X.env)).any (·.1) = false := by rfl) :
    PE X (.Call (.Name x p) (e :: es) [] pos) (liftE (xfw X tbl) (dCall r t)) := PE.imp (pe_callTy hc hg hm hv ha hn hdb he hpl) lift_args
end
end DL
namespace DL
open PySem PySem.Spec PyProof.Rows L2 LamX
mutual
def D.py : D → PyData
  | .non => .none | .bl b => .bool b | .int i => .int i | .str x => .str x | .tup xs => .tuple (D.pyL xs) | .fl xs => .list (D.pyL xs) | .ref _ => .dict [] | .ty _ => .dict []
def D.pyL : List D → List PyData
  | [] => []
  | x :: xs => D.py x :: D.pyL xs
end
mutual
/-- no mutable thing within -/
def D.plain : D → Bool
  | .non => true | .bl _ => true | .int _ => true | .str _ => true | .tup xs => D.plainL xs | .fl xs => D.plainL xs | .ref _ => false | .ty _ => false
def D.plainL : List D → Bool
  | [] => true
  | x :: xs => D.plain x && D.plainL xs
end
mutual
def D.dep : D → Nat
  | .non => 0 | .bl _ => 0 | .int _ => 0 | .str _ => 0 | .tup xs => D.depL xs + 1 | .fl xs => D.depL xs + 1 | .ref _ => 0 | .ty _ => 0
def D.depL : List D → Nat
  | [] => 0
  | x :: xs => max (D.dep x) (D.depL xs)
end
theorem D.pyL_map : ∀ xs : List D, D.pyL xs = xs.map D.py
  | [] => rfl
  | x :: xs => by rw [D.pyL, D.pyL_map xs, List.map_cons]
mutual
theorem D.plain_py : ∀ d : D, d.plain = true → d.py.plain = true
  | .non, _ => by rw [D.py, PyData.plain]
  | .bl _, _ => by rw [D.py, PyData.plain]
  | .int _, _ => by rw [D.py, PyData.plain]
  | .str _, _ => by rw [D.py, PyData.plain]
  | .tup xs, h => by rw [D.py, PyData.plain]; exact D.plainL_py xs (by rw [D.plain] at h; exact h)
  | .fl xs, h => by rw [D.py, PyData.plain]; exact D.plainL_py xs (by rw [D.plain] at h; exact h)
  | .ref _, h => by rw [D.plain] at h; cases h
  | .ty _, h => by rw [D.plain] at h; cases h
theorem D.plainL_py : ∀ ds : List D, D.plainL ds = true → PyData.plainAll (D.pyL ds) = true
  | [], _ => by rw [D.pyL, PyData.plainAll]
  | x :: xs, h => by
    rw [D.plainL, Bool.and_eq_true] at h
    rw [D.pyL, PyData.plainAll, D.plain_py x h.1, D.plainL_py xs h.2]
    rfl
end
mutual
theorem D.dep_py : ∀ d : D, d.plain = true → d.py.depth = d.dep
  | .non, _ => by rw [D.py, PyData.depth, D.dep]
  | .bl _, _ => by rw [D.py, PyData.depth, D.dep]
  | .int _, _ => by rw [D.py, PyData.depth, D.dep]
  | .str _, _ => by rw [D.py, PyData.depth, D.dep]
  | .tup xs, h => by rw [D.py, PyData.depth, D.dep, D.depL_py xs (by rw [D.plain] at h; exact h)]
  | .fl xs, h => by rw [D.py, PyData.depth, D.dep, D.depL_py xs (by rw [D.plain] at h; exact h)]
  | .ref _, h => by rw [D.plain] at h; cases h
  | .ty _, h => by rw [D.plain] at h; cases h
theorem D.depL_py : ∀ ds : List D, D.plainL ds = true → PyData.depthAll (D.pyL ds) = D.depL ds
  | [], _ => by rw [D.pyL, PyData.depthAll, D.depL]
  | x :: xs, h => by
    rw [D.plainL, Bool.and_eq_true] at h
    rw [D.pyL, PyData.depthAll, D.depL, D.dep_py x h.1, D.depL_py xs h.2]
end
def D.eqv (a b : D) : Bool := PyData.eqv a.py b.py
/-- a mutable list gives way to what stands in it, n deep -/
def D.rd (S : DS) : Nat → D → D
  | 0, d => d
  | n + 1, .ref a => match S a with
    | some (.lst xs) => .fl (xs.map (D.rd S n))
    | _ => .ref a
  | n + 1, .tup xs => .tup (xs.map (D.rd S n))
  | n + 1, .fl xs => .fl (xs.map (D.rd S n))
  | _ + 1, .non => .non
  | _ + 1, .bl b => .bl b
  | _ + 1, .int i => .int i
  | _ + 1, .str x => .str x
  | _ + 1, .ty n => .ty n
section
variable {K : FW} {H : Hp} {S : DS}
theorem D.plainL_mem : ∀ {xs : List D}, D.plainL xs = true → ∀ x ∈ xs, x.plain = true
  | [], _, x, h => by cases h
  | y :: ys, h, x, hx => by
    rw [D.plainL, Bool.and_eq_true] at h
    rcases List.mem_cons.mp hx with e | hx
    · rw [e]; exact h.1
    · exact D.plainL_mem h.2 x hx
theorem D.plainL_of : ∀ {xs : List D}, (∀ x ∈ xs, x.plain = true) → D.plainL xs = true
  | [], _ => by rw [D.plainL]
  | y :: ys, h => by rw [D.plainL, h y List.mem_cons_self, D.plainL_of fun x hx => h x (List.mem_cons_of_mem _ hx)]; rfl
theorem D.depL_le {n : Nat} : ∀ {xs : List D}, (∀ x ∈ xs, x.dep ≤ n) → D.depL xs ≤ n
  | [], _ => by rw [D.depL]; exact Nat.zero_le _
  | y :: ys, h => by rw [D.depL]; exact Nat.max_le.mpr ⟨h y List.mem_cons_self, D.depL_le fun x hx => h x (List.mem_cons_of_mem _ hx)⟩
theorem D.depL_mem : ∀ {xs : List D} {x : D}, x ∈ xs → x.dep ≤ D.depL xs
  | y :: ys, x, hx => by
    rw [D.depL]
    rcases List.mem_cons.mp hx with e | hx
    · rw [e]; exact Nat.le_max_left _ _
    · exact Nat.le_trans (D.depL_mem hx) (Nat.le_max_right _ _)
theorem FqL.dp {a : Addr} {vs : List V} (h : FqL K H a vs) {ds : List PyData} (r : DpAll K H vs ds) : Dp K H (.ref a) (.list ds) := .lst h.sq r
mutual
/-- what a value is, as the hand layer's data -/
theorem Rv.dp : ∀ (d : D) (v : V), d.plain = true → Rv K H d v → Dp K H v d.py
  | .non, _, _, r => by cases r; rw [D.py]; exact .non
  | .bl _, _, _, r => by cases r; rw [D.py]; exact .bl _
  | .int _, _, _, r => by cases r; rw [D.py]; exact .int _
  | .str _, _, _, r => by cases r; rw [D.py]; exact .str _
  | .tup ds, _, h, r => by
    cases r with
    | tup q rr => rw [D.py]; exact .tup q (RvL.dp ds _ (by rw [D.plain] at h; exact h) rr)
  | .fl ds, _, h, r => by
    cases r with
    | fl q rr => rw [D.py]; exact q.dp (RvL.dp ds _ (by rw [D.plain] at h; exact h) rr)
  | .ref _, _, h, _ => by rw [D.plain] at h; cases h
  | .ty _, _, h, _ => by rw [D.plain] at h; cases h
theorem RvL.dp : ∀ (ds : List D) (vs : List V), D.plainL ds = true → RvL K H ds vs → DpAll K H vs (D.pyL ds)
  | [], _, _, r => by cases r; rw [D.pyL]; exact .nil
  | d :: ds, _, h, r => by
    rw [D.plainL, Bool.and_eq_true] at h
    cases r with
    | cons q rr => rw [D.pyL]; exact .cons (Rv.dp d _ h.1 q) (RvL.dp ds _ h.2 rr)
end
/-- the same with the lists of the store read -/
theorem Rv.dp_rd (s : Sim K S H) : ∀ (n : Nat) (d : D) (v : V), (d.rd S n).plain = true → Rv K H d v → Dp K H v (d.rd S n).py
  | 0, d, v, h, r => Rv.dp d v h r
  | n + 1, .non, _, h, r => Rv.dp _ _ h r
  | n + 1, .bl _, _, h, r => Rv.dp _ _ h r
  | n + 1, .int _, _, h, r => Rv.dp _ _ h r
  | n + 1, .str _, _, h, r => Rv.dp _ _ h r
  | n + 1, .ty _, _, h, r => by rw [D.rd, D.plain] at h; cases h
  | n + 1, .tup ds, _, h, r => by
    cases r with
    | tup q rr =>
      rw [D.rd, D.plain] at h
      rw [D.rd, D.py]
      refine .tup q ?_
      have all : ∀ (ds : List D) (vs : List V), D.plainL (ds.map (D.rd S n)) = true → RvL K H ds vs → DpAll K H vs (D.pyL (ds.map (D.rd S n))) := by
        intro ds
        induction ds with
        | nil => intro vs h r; cases r; exact .nil
        | cons d ds ih =>
          intro vs h r
          rw [List.map_cons, D.plainL, Bool.and_eq_true] at h
          cases r with
          | cons q rr => rw [List.map_cons, D.pyL]; exact .cons (Rv.dp_rd s n d _ h.1 q) (ih _ h.2 rr)
      exact all ds _ h rr
  | n + 1, .fl ds, _, h, r => by
    cases r with
    | fl q rr =>
      rw [D.rd, D.plain] at h
      rw [D.rd, D.py]
      refine q.dp ?_
      have all : ∀ (ds : List D) (vs : List V), D.plainL (ds.map (D.rd S n)) = true → RvL K H ds vs → DpAll K H vs (D.pyL (ds.map (D.rd S n))) := by
        intro ds
        induction ds with
        | nil => intro vs h r; cases r; exact .nil
        | cons d ds ih =>
          intro vs h r
          rw [List.map_cons, D.plainL, Bool.and_eq_true] at h
          cases r with
          | cons q rr => rw [List.map_cons, D.pyL]; exact .cons (Rv.dp_rd s n d _ h.1 q) (ih _ h.2 rr)
      exact all ds _ h rr
  | n + 1, .ref a, _, h, r => by
    cases r with
    | ref a =>
      cases e : S a with
      | none => rw [D.rd] at h; simp only [e] at h; rw [D.plain] at h; cases h
      | some o =>
        cases o with
        | lst xs =>
          obtain ⟨vs, hv, rr⟩ := s.lst e
          rw [D.rd] at h ⊢
          simp only [e] at h ⊢
          rw [D.plain] at h
          rw [D.py]
          refine .lst (.of hv) ?_
          have all : ∀ (ds : List D) (vs : List V), D.plainL (ds.map (D.rd S n)) = true → RvL K H ds vs → DpAll K H vs (D.pyL (ds.map (D.rd S n))) := by
            intro ds
            induction ds with
            | nil => intro vs h r; cases r; exact .nil
            | cons d ds ih =>
              intro vs h r
              rw [List.map_cons, D.plainL, Bool.and_eq_true] at h
              cases r with
              | cons q rr => rw [List.map_cons, D.pyL]; exact .cons (Rv.dp_rd s n d _ h.1 q) (ih _ h.2 rr)
          exact all xs _ h rr
        | ins _ _ => rw [D.rd] at h; simp only [e] at h; rw [D.plain] at h; cases h
        | dct _ _ => rw [D.rd] at h; simp only [e] at h; rw [D.plain] at h; cases h
        | dset _ => rw [D.rd] at h; simp only [e] at h; rw [D.plain] at h; cases h
mutual
theorem D.rd_plain : ∀ (d : D) (n : Nat), d.plain = true → d.rd S n = d
  | _, 0, _ => rfl
  | .non, n + 1, _ => rfl
  | .bl _, n + 1, _ => rfl
  | .int _, n + 1, _ => rfl
  | .str _, n + 1, _ => rfl
  | .tup ds, n + 1, h => by rw [D.rd, D.rdL_plain ds n (by rw [D.plain] at h; exact h)]
  | .fl ds, n + 1, h => by rw [D.rd, D.rdL_plain ds n (by rw [D.plain] at h; exact h)]
  | .ref _, _ + 1, h => by rw [D.plain] at h; cases h
  | .ty _, _ + 1, h => by rw [D.plain] at h; cases h
theorem D.rdL_plain : ∀ (ds : List D) (n : Nat), D.plainL ds = true → ds.map (D.rd S n) = ds
  | [], _, _ => rfl
  | d :: ds, n, h => by
    rw [D.plainL, Bool.and_eq_true] at h
    rw [List.map_cons, D.rd_plain d n h.1, D.rdL_plain ds n h.2]
end
end
def lstOf (S : DS) : D → Option (List D)
  | .ref a => match S a with
    | some (.lst xs) => some xs
    | _ => none
  | .fl xs => some xs
  | _ => none
def seqOf (S : DS) : D → Option (List D)
  | .tup xs => some xs
  | .ref a => match S a with
    | some (.lst xs) => some xs
    | _ => none
  | .fl xs => some xs
  | _ => none
section
variable {K : FW} {H : Hp} {S : DS} {d : D} {v : V} {xs : List D}
theorem lst_of (s : Sim K S H) (r : Rv K H d v) (h : lstOf S d = some xs) : ∃ a vs, v = .ref a ∧ SqL K H a vs ∧ RvL K H xs vs := by
  cases d with
  | ref a =>
    cases r
    rw [lstOf] at h
    split at h
    · rename_i e
      cases h
      obtain ⟨vs, hv, rr⟩ := s.lst e
      exact ⟨a, vs, rfl, .of hv, rr⟩
    · cases h
  | fl ys =>
    cases h
    cases r with
    | fl q rr => exact ⟨_, _, rfl, q.sq, rr⟩
  | _ => cases h
theorem seq_of (s : Sim K S H) (r : Rv K H d v) (h : seqOf S d = some xs) : ∃ a vs, v = .ref a ∧ (SqL K H a vs ∨ SqT K H a vs) ∧ RvL K H xs vs := by
  cases d with
  | ref a =>
    cases r
    rw [seqOf] at h
    split at h
    · rename_i e
      cases h
      obtain ⟨vs, hv, rr⟩ := s.lst e
      exact ⟨a, vs, rfl, .inl (.of hv), rr⟩
    · cases h
  | fl ys =>
    cases h
    cases r with
    | fl q rr => exact ⟨_, _, rfl, .inl q.sq, rr⟩
  | tup ys =>
    cases h
    cases r with
    | tup q rr => exact ⟨_, _, rfl, .inr q, rr⟩
  | _ => cases h
end
def oAdd : DR2 := fun x y S Q => match x, y with
  | .int i, .int j => Q (.int (i + j)) S
  | .int i, .bl k => Q (.int (i + b2i k)) S
  | .str a, .str b => a.length + b.length ≤ 16777216 ∧ Q (.str (a ++ b)) S
  | .tup a, .tup b => a.length + b.length ≤ 16777216 ∧ Q (.tup (a ++ b)) S
  | .ref a, .ref b => match S a, S b with
    | some (.lst xs), some (.lst ys) => xs.length + ys.length ≤ 16777216 ∧ ∀ p, S p = none → Q (.ref p) (dupd S p (.lst (xs ++ ys)))
    | _, _ => False
  | _, _ => False
def oSub : DR2 := fun x y S Q => match x, y with
  | .int i, .int j => Q (.int (i - j)) S
  | _, _ => False
def oMul : DR2 := fun x y S Q => match x, y with
  | .int i, .int j => i.natAbs.log2 + j.natAbs.log2 < 1000000 ∧ Q (.int (i * j)) S
  | .ref a, .int k => match S a with
    | some (.lst xs) => (-(2 ^ 63) ≤ k ∧ k < 2 ^ 63 ∧ xs.length * k.toNat ≤ 16777216) ∧ ∀ p, S p = none → Q (.ref p) (dupd S p (.lst (List.replicate k.toNat xs).flatten))
    | _ => False
  | .tup xs, .int k => (xs ≠ [] ∧ 1 ≤ k ∧ k ≤ 1000 ∧ xs.length ≤ 1000) ∧ Q (.tup (List.replicate k.toNat xs).flatten) S
  | _, _ => False
def oFdv : DR2 := fun x y S Q => match x, y with
  | .int i, .int j => (0 < j ∧ j.natAbs.log2 < 9000) ∧ Q (.int (i / j)) S
  | _, _ => False
def oMod : DR2 := fun x y S Q => match x, y with
  | .int i, .int j => 0 < j ∧ Q (.int (i % j)) S
  | _, _ => False
def oPow : DR2 := fun x y S Q => match x, y with
  | .int i, .int j => (0 ≤ j ∧ j ≤ 1000000 ∧ i.natAbs < 2 ^ 64) ∧ Q (.int (i ^ j.toNat)) S
  | _, _ => False
def oShl : DR2 := fun x y S Q => match x, y with
  | .int i, .int j => (0 ≤ j ∧ j ≤ 1000000 ∧ i.natAbs < 2 ^ 64) ∧ Q (.int (i * 2 ^ j.toNat)) S
  | _, _ => False
def oShr : DR2 := fun x y S Q => match x, y with
  | .int i, .int j => 0 ≤ j ∧ Q (.int (i / 2 ^ j.toNat)) S
  | _, _ => False
def oBit (f : Int → Int → Int) : DR2 := fun x y S Q => match x, y with
  | .int i, .int j => Q (.int (f i j)) S
  | _, _ => False
def uNeg : DR1 := fun x S Q => match x with
  | .int i => Q (.int (-i)) S
  | _ => False
def oEq (neg : Bool) : DR2 := fun x y S Q => ((x.rd S 4).plain = true ∧ (y.rd S 4).plain = true ∧ ((x.rd S 4).dep ≤ 50 ∨ (y.rd S 4).dep ≤ 50)) ∧ Q (.bl (neg ^^ D.eqv (x.rd S 4) (y.rd S 4))) S
/-- what is the same whatever the operator (<, <=, ..) -/
inductive COp where | lt | le | gt | ge
def COp.int : COp → Int → Int → Bool
  | .lt, i, j => decide (i < j) | .le, i, j => decide (i ≤ j) | .gt, i, j => decide (j < i) | .ge, i, j => decide (j ≤ i)
def COp.dat : COp → PyData → PyData → Bool
  | .lt, a, b => PySem.W.dataLt a b | .le, a, b => !PySem.W.dataLt b a | .gt, a, b => PySem.W.dataLt b a | .ge, a, b => !PySem.W.dataLt a b
def COp.op : COp → CmpOp
  | .lt => .Lt | .le => .LtE | .gt => .Gt | .ge => .GtE
def oCmp (o : COp) : DR2 := fun x y S Q => match x, y with
  | .int i, .int j => Q (.bl (o.int i j)) S
  | x, y => (x.plain = true ∧ y.plain = true ∧ PySem.W.alike x.py y.py = true ∧ x.py ≠ .none ∧ x.dep ≤ 50) ∧ Q (.bl (o.dat x.py y.py)) S
def oIs (neg : Bool) : DR2 := fun x y S Q => match y with
  | .bl b => match x with
    | .bl c => Q (.bl (neg ^^ decide (c = b))) S
    | _ => False
  | .non => Q (.bl (match x with | .non => !neg | _ => neg)) S
  | _ => False
def oIn0 (neg : Bool) : DR2 := fun x y S Q => match seqOf S y with
  | some xs => ((x.rd S 3).plain = true ∧ D.plainL (xs.map (D.rd S 3)) = true ∧ (x.rd S 3).dep ≤ 50) ∧ Q (.bl (neg ^^ (xs.map (D.rd S 3)).any fun e => D.eqv e (x.rd S 3))) S
  | none => False
section
variable {X : Cx} {tbl : Tbl}
theorem dl_op {f : Value → Value → Sem Value} {r : DR2}
    (h : ∀ (pins : List (Addr × Obj)) (s : Shared) (σ : L2.St) (H : Hp) (x y : D) (xv yv : V) (v u : Value) (S : DS) (Q : VK) (Q0 : DK), Inv X pins σ H s → RelV xv v → RelV yv u → Rv (xfw X tbl) H x xv → Rv (xfw X tbl) H y yv → Sim (xfw X tbl) S H → r x y S Q0 →
      (∀ d S' v H', Q0 d S' → Rv (xfw X tbl) H' d v → Sim (xfw X tbl) S' H' → Stp S H S' H' → Q v H') → wpAny (model X.prog X.w) X.A (f v u) (EP X pins σ Q) X.xe s) : OpR X f (liftO (xfw X tbl) r) := by
  rintro pins s σ H xv yv v u Q I rx ry ⟨x, y, S, Q0, hx, hy, hs, hr, hq⟩
  exact h pins s σ H x y xv yv v u S Q Q0 I rx ry hx hy hs hr hq
theorem dop_add : OpR X (binaryOp .Add) (liftO (xfw X tbl) oAdd) := dl_op fun pins s σ H x y xv yv v u S Q Q0 I rx ry hx hy hs hr hq => by
  cases x with
  | int i =>
    cases hx
    cases y with
    | int j => cases hy; exact op_add pins s σ H _ _ v u Q I rx ry ⟨i, j, rfl, rfl, hq _ _ _ _ hr (.int _) hs (.refl _ _)⟩
    | bl k => cases hy; exact op_add_ib pins s σ H _ _ v u Q I rx ry ⟨i, k, rfl, rfl, hq _ _ _ _ hr (.int _) hs (.refl _ _)⟩
    | _ => exact hr.elim
  | str a =>
    cases hx
    cases y with
    | str b => cases hy; exact op_add_str pins s σ H _ _ v u Q I rx ry ⟨a, b, rfl, rfl, by rw [szl]; exact hr.1, hq _ _ _ _ hr.2 (.str _) hs (.refl _ _)⟩
    | _ => exact hr.elim
  | tup a =>
    cases y with
    | tup b =>
      cases hx with
      | @tup p vs _ q1 r1 =>
        cases hy with
        | @tup q ws _ q2 r2 =>
          refine op_catA pins s σ H _ _ v u Q I rx ry ⟨p, q, vs, ws, rfl, rfl, q1, q2, by rw [szl, ← r1.length, ← r2.length]; exact hr.1, fun e => ?_, fun e1 e2 => ?_, fun e1 e2 p hp => ?_⟩
          · subst e; cases r1; exact hq _ _ _ _ hr.2 (.tup q2 r2) hs (.refl _ _)
          · subst e2; cases r2
            have hr2 : Q0 (.tup (a ++ [])) S := hr.2
            rw [List.append_nil] at hr2
            exact hq _ _ _ _ hr2 (.tup q1 r1) hs (.refl _ _)
          · exact hq _ _ _ _ hr.2 (.tup (.inl (.inl upd_same)) ((Stp.laid (S := S) hp).rvl (r1.append r2))) (hs.laid hp) (Stp.laid hp)
    | _ => exact hr.elim
  | ref a =>
    cases hx
    cases y with
    | ref b =>
      cases hy
      have hr' : (match S a, S b with
        | some (.lst xs), some (.lst ys) => xs.length + ys.length ≤ 16777216 ∧ ∀ p, S p = none → Q0 (.ref p) (dupd S p (.lst (xs ++ ys)))
        | _, _ => False) := hr
      split at hr'
      · rename_i xs ys ea eb
        obtain ⟨vs, h1, r1⟩ := hs.lst ea
        obtain ⟨ws, h2, r2⟩ := hs.lst eb
        exact op_cat pins s σ H _ _ v u Q I rx ry ⟨a, b, vs, ws, rfl, rfl, h1, h2, by rw [szl, ← r1.length, ← r2.length]; exact hr'.1, fun p hp =>
          hq _ _ _ _ (hr'.2 p (hs.fresh hp)) (.ref p) (hs.new hp ⟨_, upd_same, (Stp.laid (S := S) hp).rvl (r1.append r2)⟩) (Stp.new hp)⟩
      · exact hr'.elim
    | _ => exact hr.elim
  | _ => exact hr.elim
theorem dop_sub : OpR X (binaryOp .Sub) (liftO (xfw X tbl) oSub) := dl_op fun pins s σ H x y xv yv v u S Q Q0 I rx ry hx hy hs hr hq => by
  cases x with
  | int i =>
    cases hx
    cases y with
    | int j => cases hy; exact op_sub pins s σ H _ _ v u Q I rx ry ⟨i, j, rfl, rfl, hq _ _ _ _ hr (.int _) hs (.refl _ _)⟩
    | _ => exact hr.elim
  | _ => exact hr.elim
theorem flatten_rep {K : FW} {H : Hp} {ds : List D} {vs : List V} (r : RvL K H ds vs) : ∀ n, RvL K H (List.replicate n ds).flatten (List.replicate n vs).flatten
  | 0 => .nil
  | n + 1 => by rw [List.replicate_succ, List.replicate_succ, List.flatten_cons, List.flatten_cons]; exact r.append (flatten_rep r n)
theorem tuple_mul1 (l : Addr) (items : Array Value) (n : Nat) (dd : Option Addr) (sl : Array (Option Value)) (u : Tok) :
    Meets (Builtin.«tuple.__mul__» ⟨[.ref l, .int 1 u], []⟩) (fun _ R s => s.heap.get? l = some { cls := .type "tuple", dict := dd, data := .seq items n, slots := sl } ∧
      R (.ok (.ret (Value.ref l))) s) :=
  .of_wp fun prog w A R s h => by
    obtain ⟨hp, g, d, tk, os⟩ := s
    obtain ⟨hl, h⟩ := h
    have f1 := PySem.AutoSeq1.idx_int
    have c0 : (decide ((1:Int) < -(2 ^ 63)) || decide ((1:Int) ≥ 2 ^ 63)) = false := by decide
    wp_walk using wpAny_loadPart' hl
    exact ⟨_, rfl, h⟩
def rRepT1 (K : FW) : R2 := fun x y H Q => ∃ l xs, x = .ref l ∧ y = .int 1 ∧ SqT K H l xs ∧ Q (.ref l) H
theorem op_repT1 : OpR X (binaryOp .Mult) (rRepT1 (xfw X tbl)) := by
  intro pins s σ H x y v u Q I rx ry h
  obtain ⟨l, xs, rfl, rfl, hT, q⟩ := h
  cases rx
  obtain ⟨t, rfl⟩ := ry
  obtain ⟨its, r, ⟨⟨cls, dd, data, sl⟩, ho, hc, n, hd⟩, hs⟩ := I.tuple hT
  simp only at hc hd
  subst hc hd
  refine wpAny_binaryOp_repeat_ref (T := "tuple") (U := "int") (by decide) ⟨_, ho, rfl⟩ (fun s' => typeIs_int s' 1 t) noFill_tuple_mul F.fills_int_mul F.slot_int_rmul repeat_tuple F.slot_int_index.lookup
    (call_meets F.slot_int_rmul (typeIs_int s 1 t) F.entry_int_rmul (F.args_int_rmul_2 _ _) (int_rmul_tuple 1 t l its.toArray n dd sl)
      ⟨ho, rfl, ⟨_, ho, rfl⟩, call_meets F.slot_tuple_mul ⟨_, ho, rfl⟩ F.entry_tuple_mul (F.args_tuple_mul_2 _ _) (tuple_mul1 l its.toArray n dd sl t) ⟨ho, ?_⟩⟩)
  exact ⟨.ref l, _, I, rfl, q⟩
theorem dop_mul : OpR X (binaryOp .Mult) (liftO (xfw X tbl) oMul) := dl_op fun pins s σ H x y xv yv v u S Q Q0 I rx ry hx hy hs hr hq => by
  cases x with
  | int i =>
    cases hx
    cases y with
    | int j => cases hy; exact op_mulW pins s σ H _ _ v u Q I rx ry ⟨i, j, rfl, rfl, hr.1, hq _ _ _ _ hr.2 (.int _) hs (.refl _ _)⟩
    | _ => exact hr.elim
  | ref a =>
    cases hx
    cases y with
    | int k =>
      cases hy
      have hr' : (match S a with
        | some (.lst xs) => (-(2 ^ 63) ≤ k ∧ k < 2 ^ 63 ∧ xs.length * k.toNat ≤ 16777216) ∧ ∀ p, S p = none → Q0 (.ref p) (dupd S p (.lst (List.replicate k.toNat xs).flatten))
        | _ => False) := hr
      split at hr'
      · rename_i xs ea
        obtain ⟨vs, h1, r1⟩ := hs.lst ea
        exact op_rep pins s σ H _ _ v u Q I rx ry ⟨a, k, vs, rfl, rfl, h1, hr'.1.1, hr'.1.2.1, by rw [szl, ← r1.length]; exact hr'.1.2.2, fun p hp =>
          hq _ _ _ _ (hr'.2 p (hs.fresh hp)) (.ref p) (hs.new hp ⟨_, upd_same, (Stp.laid (S := S) hp).rvl (flatten_rep r1 _)⟩) (Stp.new hp)⟩
      · exact hr'.elim
    | _ => exact hr.elim
  | tup a =>
    cases y with
    | int k =>
      cases hy
      cases hx with
      | @tup p vs _ q1 r1 =>
        by_cases h1 : k = 1
        · subst h1
          have hr2 : Q0 (.tup (List.replicate 1 a).flatten) S := hr.2
          rw [show (List.replicate 1 a).flatten = a by simp] at hr2
          exact op_repT1 pins s σ H _ _ v u Q I rx ry ⟨p, vs, rfl, rfl, q1, hq _ _ _ _ hr2 (.tup q1 r1) hs (.refl _ _)⟩
        · obtain ⟨⟨c1, c2, c3, c4⟩, hr2⟩ := hr
          have hl := r1.length
          refine op_repT pins s σ H _ _ v u Q I rx ry ⟨p, k, vs, rfl, rfl, q1, fun e => ?_, by omega, c3, by omega, fun p hp => ?_⟩
          · subst e; cases r1; exact c1 rfl
          · exact hq _ _ _ _ hr2 (.tup (.inl (.inl upd_same)) ((Stp.laid (S := S) hp).rvl (flatten_rep r1 _))) (hs.laid hp) (Stp.laid hp)
    | _ => exact hr.elim
  | _ => exact hr.elim
theorem dop_int2 {f : Value → Value → Sem Value} {C : Int → Int → Prop} {g : Int → Int → Int} {r : DR2} (ho : OpR X f (rI C fun i j => .int (g i j)))
    (hr : ∀ x y S Q, r x y S Q → ∃ i j, x = .int i ∧ y = .int j ∧ C i j ∧ Q (.int (g i j)) S) : OpR X f (liftO (xfw X tbl) r) := dl_op fun pins s σ H x y xv yv v u S Q Q0 I rx ry hx hy hs h hq => by
  obtain ⟨i, j, rfl, rfl, c, q⟩ := hr x y S Q0 h
  cases hx
  cases hy
  exact ho pins s σ H _ _ v u Q I rx ry ⟨i, j, rfl, rfl, c, hq _ _ _ _ q (.int _) hs (.refl _ _)⟩
theorem dop_fdv : OpR X (binaryOp .FloorDiv) (liftO (xfw X tbl) oFdv) := dop_int2 op_fdivW fun x y S Q h => by
  cases x with
  | int i =>
    cases y with
    | int j => exact ⟨i, j, rfl, rfl, h.1, h.2⟩
    | _ => exact h.elim
  | _ => exact h.elim
theorem dop_mod : OpR X (binaryOp .Mod) (liftO (xfw X tbl) oMod) := dop_int2 op_mod fun x y S Q h => by
  cases x with
  | int i =>
    cases y with
    | int j => exact ⟨i, j, rfl, rfl, h.1, h.2⟩
    | _ => exact h.elim
  | _ => exact h.elim
theorem dop_pow : OpR X (binaryOp .Pow) (liftO (xfw X tbl) oPow) := dop_int2 op_pow fun x y S Q h => by
  cases x with
  | int i =>
    cases y with
    | int j => exact ⟨i, j, rfl, rfl, h.1, h.2⟩
    | _ => exact h.elim
  | _ => exact h.elim
theorem dop_shl : OpR X (binaryOp .LShift) (liftO (xfw X tbl) oShl) := dop_int2 op_shl fun x y S Q h => by
  cases x with
  | int i =>
    cases y with
    | int j => exact ⟨i, j, rfl, rfl, h.1, h.2⟩
    | _ => exact h.elim
  | _ => exact h.elim
theorem dop_shr : OpR X (binaryOp .RShift) (liftO (xfw X tbl) oShr) := dop_int2 op_shr fun x y S Q h => by
  cases x with
  | int i =>
    cases y with
    | int j => exact ⟨i, j, rfl, rfl, h.1, h.2⟩
    | _ => exact h.elim
  | _ => exact h.elim
theorem dop_int20 {f : Value → Value → Sem Value} {g : Int → Int → Int} {r : DR2} (ho : OpR X f (rI0 fun i j => .int (g i j)))
    (hr : ∀ x y S Q, r x y S Q → ∃ i j, x = .int i ∧ y = .int j ∧ Q (.int (g i j)) S) : OpR X f (liftO (xfw X tbl) r) := dl_op fun pins s σ H x y xv yv v u S Q Q0 I rx ry hx hy hs h hq => by
  obtain ⟨i, j, rfl, rfl, q⟩ := hr x y S Q0 h
  cases hx
  cases hy
  exact ho pins s σ H _ _ v u Q I rx ry ⟨i, j, rfl, rfl, hq _ _ _ _ q (.int _) hs (.refl _ _)⟩
theorem oBit_get {f : Int → Int → Int} (x y : D) (S : DS) (Q : DK) (h : oBit f x y S Q) : ∃ i j, x = .int i ∧ y = .int j ∧ Q (.int (f i j)) S := by
  cases x with
  | int i =>
    cases y with
    | int j => exact ⟨i, j, rfl, rfl, h⟩
    | _ => exact h.elim
  | _ => exact h.elim
theorem dop_and : OpR X (binaryOp .BitAnd) (liftO (xfw X tbl) (oBit Builtin.bitAnd)) := dop_int20 op_and oBit_get
theorem dop_or : OpR X (binaryOp .BitOr) (liftO (xfw X tbl) (oBit Builtin.bitOr)) := dop_int20 op_or oBit_get
theorem dop_xor : OpR X (binaryOp .BitXor) (liftO (xfw X tbl) (oBit Builtin.bitXor)) := dop_int20 op_xor oBit_get
theorem dip_add : OpR X (inplaceOp .Add) (liftO (xfw X tbl) (oBit (· + ·))) := dop_int20 iop_add oBit_get
theorem dip_sub : OpR X (inplaceOp .Sub) (liftO (xfw X tbl) (oBit (· - ·))) := dop_int20 iop_sub oBit_get
theorem dip_and : OpR X (inplaceOp .BitAnd) (liftO (xfw X tbl) (oBit Builtin.bitAnd)) := dop_int20 iop_and oBit_get
theorem dip_or : OpR X (inplaceOp .BitOr) (liftO (xfw X tbl) (oBit Builtin.bitOr)) := dop_int20 iop_or oBit_get
theorem dun_neg : UnR X (unaryOp .USub) (liftU (xfw X tbl) uNeg) := by
  rintro pins s σ H xv v Q I rx ⟨x, S, Q0, hx, hs, hr, hq⟩
  cases x with
  | int i => cases hx; exact un_neg pins s σ H _ v Q I rx ⟨i, rfl, hq _ _ _ _ hr (.int _) hs (.refl _ _)⟩
  | _ => exact hr.elim
theorem Rv.reads {pins : List (Addr × Obj)} {σ : L2.St} {H : Hp} {s : Shared} {S : DS} {d : D} {v : V} {u : Value} (I : Inv X pins σ H s) (hs : Sim (xfw X tbl) S H) (n : Nat) (hp : (d.rd S n).plain = true) (r : Rv (xfw X tbl) H d v) (ru : RelV v u) : ∃ as, Reads s.heap u (d.rd S n).py as :=
  Dp.reads I _ _ _ (Rv.dp_rd hs n d v hp r) ru
theorem dop_eq (hu : X.A.units + 100 < cLine) : OpR X (compareOp .Eq) (liftO (xfw X tbl) (oEq false)) := dl_op fun pins s σ H x y xv yv v u S Q Q0 I rx ry hx hy hs hr hq => by
  obtain ⟨⟨hp1, hp2, hd⟩, hr⟩ := hr
  obtain ⟨as, q1⟩ := Rv.reads I hs 4 hp1 hx rx
  obtain ⟨bs, q2⟩ := Rv.reads I hs 4 hp2 hy ry
  refine PySem.SeqAt.eq_plain q1 q2 (D.plain_py _ hp1) (D.plain_py _ hp2) ?_ ⟨.bl _, H, I, rfl, hq _ _ _ _ hr (by rw [Bool.false_xor]; exact .bl _) hs (.refl _ _)⟩
  rw [D.dep_py _ hp1, D.dep_py _ hp2]
  omega
theorem dop_ne (hu : X.A.units + 100 < cLine) : OpR X (compareOp .NotEq) (liftO (xfw X tbl) (oEq true)) := dl_op fun pins s σ H x y xv yv v u S Q Q0 I rx ry hx hy hs hr hq => by
  obtain ⟨⟨hp1, hp2, hd⟩, hr⟩ := hr
  obtain ⟨as, q1⟩ := Rv.reads I hs 4 hp1 hx rx
  obtain ⟨bs, q2⟩ := Rv.reads I hs 4 hp2 hy ry
  refine PySem.SeqAt.ne_plain q1 q2 (D.plain_py _ hp1) (D.plain_py _ hp2) ?_ ⟨.bl _, H, I, rfl, hq _ _ _ _ hr (by rw [Bool.true_xor]; exact .bl _) hs (.refl _ _)⟩
  rw [D.dep_py _ hp1, D.dep_py _ hp2]
  omega
theorem dop_cmp (hu : X.A.units + 100 < cLine) (o : COp) : OpR X (compareOp o.op) (liftO (xfw X tbl) (oCmp o)) := dl_op fun pins s σ H x y xv yv v u S Q Q0 I rx ry hx hy hs hr hq => by
  have gen : (x.plain = true ∧ y.plain = true ∧ PySem.W.alike x.py y.py = true ∧ x.py ≠ .none ∧ x.dep ≤ 50) ∧ Q0 (.bl (o.dat x.py y.py)) S → wpAny (model X.prog X.w) X.A (compareOp o.op v u) (EP X pins σ Q) X.xe s := by
    rintro ⟨⟨hp1, hp2, ha, hn, hd⟩, hr⟩
    obtain ⟨as, q1⟩ := Dp.reads I _ _ _ (Rv.dp x xv hp1 hx) rx
    obtain ⟨bs, q2⟩ := Dp.reads I _ _ _ (Rv.dp y yv hp2 hy) ry
    have hdep : X.A.units + min x.py.depth y.py.depth < cLine := by rw [D.dep_py _ hp1]; omega
    have fin : EP X pins σ Q (.bool (o.dat x.py y.py)) s := ⟨.bl _, H, I, rfl, hq _ _ _ _ hr (.bl _) hs (.refl _ _)⟩
    cases o with
    | lt => exact PySem.W.lt_data q1 q2 ha hn hdep fin
    | le => exact PySem.W.le_data q1 q2 ha hn hdep fin
    | gt => exact PySem.W.gt_data q1 q2 ha hn hdep fin
    | ge => exact PySem.W.ge_data q1 q2 ha hn hdep fin
  cases x with
  | int i =>
    cases y with
    | int j =>
      cases hx
      cases hy
      have fin := hq _ _ _ _ hr (.bl _) hs (.refl _ _)
      cases o with
      | lt => exact op_lt pins s σ H _ _ v u Q I rx ry ⟨i, j, rfl, rfl, fin⟩
      | le => exact op_le pins s σ H _ _ v u Q I rx ry ⟨i, j, rfl, rfl, fin⟩
      | gt => exact op_gt pins s σ H _ _ v u Q I rx ry ⟨i, j, rfl, rfl, fin⟩
      | ge => exact op_ge pins s σ H _ _ v u Q I rx ry ⟨i, j, rfl, rfl, fin⟩
    | _ => exact gen hr
  | _ => exact gen hr
theorem dop_is : OpR X (compareOp .Is) (liftO (xfw X tbl) (oIs false)) := dl_op fun pins s σ H x y xv yv v u S Q Q0 I rx ry hx hy hs hr hq => by
  cases y with
  | non =>
    cases hy
    refine op_isN pins s σ H _ _ v u Q I rx ry ⟨rfl, ?_⟩
    cases hx <;> exact hq _ _ _ _ hr (.bl _) hs (.refl _ _)
  | bl b =>
    cases x with
    | bl c =>
      cases hx
      cases hy
      refine op_isBl pins s σ H _ _ v u Q I rx ry ⟨c, b, rfl, rfl, hq _ _ _ _ hr (by rw [Bool.false_xor]; exact .bl _) hs (.refl _ _)⟩
    | _ => exact hr.elim
  | _ => exact hr.elim
theorem dop_isnot : OpR X (compareOp .IsNot) (liftO (xfw X tbl) (oIs true)) := dl_op fun pins s σ H x y xv yv v u S Q Q0 I rx ry hx hy hs hr hq => by
  cases y with
  | non =>
    cases hy
    refine op_notN pins s σ H _ _ v u Q I rx ry ⟨rfl, ?_⟩
    cases hx <;> exact hq _ _ _ _ hr (.bl _) hs (.refl _ _)
  | bl b =>
    cases x with
    | bl c =>
      cases hx
      cases hy
      refine op_notBl pins s σ H _ _ v u Q I rx ry ⟨c, b, rfl, rfl, hq _ _ _ _ hr (by rw [Bool.true_xor]; exact .bl _) hs (.refl _ _)⟩
    | _ => exact hr.elim
  | _ => exact hr.elim
theorem any_py (d : D) : ∀ xs : List D, ((D.pyL xs).any fun y => PyData.eqv y d.py) = xs.any fun e => D.eqv e d
  | [] => rfl
  | x :: xs => by rw [D.pyL, List.any_cons, List.any_cons, any_py d xs]; rfl
theorem rd_seq {K : FW} {H : Hp} {S : DS} {y : D} {yv : V} {xs : List D} (hs : Sim K S H) (hy : Rv K H y yv) (e : seqOf S y = some xs) (hp : D.plainL (xs.map (D.rd S 3)) = true) :
    Dp K H yv (.list (D.pyL (xs.map (D.rd S 3)))) ∨ Dp K H yv (.tuple (D.pyL (xs.map (D.rd S 3)))) := by
  cases y with
  | tup zs =>
    cases e
    have := Rv.dp_rd hs 4 (.tup xs) yv (by rw [D.rd, D.plain]; exact hp) hy
    rw [D.rd, D.py] at this
    exact .inr this
  | fl zs =>
    cases e
    have := Rv.dp_rd hs 4 (.fl xs) yv (by rw [D.rd, D.plain]; exact hp) hy
    rw [D.rd, D.py] at this
    exact .inl this
  | ref a =>
    rw [seqOf] at e
    split at e
    · rename_i ea
      cases e
      have e4 : D.rd S 4 (.ref a) = .fl (xs.map (D.rd S 3)) := by rw [D.rd, ea]
      have := Rv.dp_rd hs 4 (.ref a) yv (by rw [e4, D.plain]; exact hp) hy
      rw [e4, D.py] at this
      exact .inl this
    · cases e
  | _ => cases e
theorem dop_in0 (hu : X.A.units + 100 < cLine) : OpR X (compareOp .In) (liftO (xfw X tbl) (oIn0 false)) := dl_op fun pins s σ H x y xv yv v u S Q Q0 I rx ry hx hy hs hr hq => by
  rw [oIn0] at hr
  split at hr
  · rename_i xs e
    obtain ⟨⟨hp1, hp2, hd⟩, hr⟩ := hr
    obtain ⟨as, q1⟩ := Rv.reads I hs 3 hp1 hx rx
    have fin : EP X pins σ Q (.bool ((D.pyL (xs.map (D.rd S 3))).any fun e => PyData.eqv e (x.rd S 3).py)) s := ⟨.bl _, H, I, rfl, hq _ _ _ _ hr (by rw [Bool.false_xor, any_py]; exact .bl _) hs (.refl _ _)⟩
    have hdep : X.A.units + 1 + min (PyData.depthAll (D.pyL (xs.map (D.rd S 3)))) (x.rd S 3).py.depth < cLine := by rw [D.dep_py _ hp1]; omega
    rcases rd_seq hs hy e hp2 with q | q
    · obtain ⟨bs, q2⟩ := Dp.reads I _ _ _ q ry
      exact PySem.SeqAt.in_list_data q2 q1 (D.plainL_py _ hp2) (D.plain_py _ hp1) hdep fin
    · obtain ⟨bs, q2⟩ := Dp.reads I _ _ _ q ry
      exact PySem.SeqAt.in_tuple_data q2 q1 (D.plainL_py _ hp2) (D.plain_py _ hp1) hdep fin
  · exact hr.elim
theorem dop_notin0 (hu : X.A.units + 100 < cLine) : OpR X (compareOp .NotIn) (liftO (xfw X tbl) (oIn0 true)) := dl_op fun pins s σ H x y xv yv v u S Q Q0 I rx ry hx hy hs hr hq => by
  rw [oIn0] at hr
  split at hr
  · rename_i xs e
    obtain ⟨⟨hp1, hp2, hd⟩, hr⟩ := hr
    obtain ⟨as, q1⟩ := Rv.reads I hs 3 hp1 hx rx
    have fin : EP X pins σ Q (.bool (!(D.pyL (xs.map (D.rd S 3))).any fun e => PyData.eqv e (x.rd S 3).py)) s := ⟨.bl _, H, I, rfl, hq _ _ _ _ hr (by rw [Bool.true_xor, any_py]; exact .bl _) hs (.refl _ _)⟩
    have hdep : X.A.units + 1 + min (PyData.depthAll (D.pyL (xs.map (D.rd S 3)))) (x.rd S 3).py.depth < cLine := by rw [D.dep_py _ hp1]; omega
    rcases rd_seq hs hy e hp2 with q | q
    · obtain ⟨bs, q2⟩ := Dp.reads I _ _ _ q ry
      exact PySem.SeqAt.notIn_list_data q2 q1 (D.plainL_py _ hp2) (D.plain_py _ hp1) hdep fin
    · obtain ⟨bs, q2⟩ := Dp.reads I _ _ _ q ry
      exact PySem.SeqAt.notIn_tuple_data q2 q1 (D.plainL_py _ hp2) (D.plain_py _ hp1) hdep fin
  · exact hr.elim
end
def oIx0 : DR2 := fun x y S Q => match y with
  | .int i => match x with
    | .str z => z.length ≤ 16777216 ∧ match atI z.cps.toList i with
      | some c => Q (.str ⟨#[c]⟩) S
      | none => False
    | x => match seqOf S x with
      | some xs => match atI xs i with
        | some d => Q d S
        | none => False
      | none => False
  | _ => False
theorem RvL.atI {K : FW} {H : Hp} {ds : List D} {vs : List V} {i : Int} {d : D} (r : RvL K H ds vs) (h : L2.atI ds i = some d) : ∃ v, L2.atI vs i = some v ∧ Rv K H d v := by
  unfold L2.atI at h ⊢
  rw [← r.length]
  cases e : ixN ds.length i with
  | none => rw [e] at h; cases h
  | some j =>
    rw [e] at h
    exact r.get h
section
variable {X : Cx} {tbl : Tbl} {e a b : Expr} {te ta tb : DE} {pos p2 : Pos}
theorem dix0 : IxR X (liftO (xfw X tbl) oIx0) := by
  rintro value slice pins s σ H xv yv v u Q I rx ry ⟨x, y, S, Q0, hx, hy, hs, hr, hq⟩ hsub
  cases y with
  | int i =>
    cases hy
    have seq : ∀ xs d, seqOf S x = some xs → L2.atI xs i = some d → Q0 d S → wpAny (model X.prog X.w) X.A (subscriptTail value slice v u) (EP X pins σ Q) X.xe s := fun xs d e1 e2 q => by
      obtain ⟨p, vs, rfl, hv, r⟩ := seq_of hs hx e1
      obtain ⟨w, h1, h2⟩ := r.atI e2
      rcases hv with hv | hv
      · exact ix_list value slice pins s σ H _ _ v u Q I rx ry ⟨p, vs, i, w, rfl, rfl, hv, h1, hq d S w H q h2 hs (.refl _ _)⟩ hsub
      · exact ix_tup value slice pins s σ H _ _ v u Q I rx ry ⟨p, vs, i, w, rfl, rfl, hv, h1, hq d S w H q h2 hs (.refl _ _)⟩ hsub
    have gen : (match seqOf S x with
      | some xs => match L2.atI xs i with
        | some d => Q0 d S
        | none => False
      | none => False) → wpAny (model X.prog X.w) X.A (subscriptTail value slice v u) (EP X pins σ Q) X.xe s := fun h => by
      split at h
      · rename_i xs e1
        split at h
        · rename_i d e2
          exact seq xs d e1 e2 h
        · exact h.elim
      · exact h.elim
    cases x with
    | str z =>
      cases hx
      have hr' : z.length ≤ 16777216 ∧ (match L2.atI z.cps.toList i with
        | some c => Q0 (.str ⟨#[c]⟩) S
        | none => False) := hr
      obtain ⟨hz, hr'⟩ := hr'
      split at hr'
      · rename_i c e1
        exact ix_str value slice pins s σ H _ _ v u Q I rx ry ⟨z, i, c, rfl, rfl, by rw [szl]; exact hz, e1, hq _ S _ H hr' (.str _) hs (.refl _ _)⟩ hsub
      · exact hr'.elim
    | _ => exact gen hr
  | _ => exact hr.elim
theorem qe_ix0 (ha : PE X a (liftE (xfw X tbl) ta)) (hb : PE X b (liftE (xfw X tbl) tb)) (hs : PlainIx b) : PE X (.Subscript a b pos) (liftE (xfw X tbl) (dOp oIx0 ta tb)) := PE.imp (pe_ix dix0 ha hb hs) lift_op
abbrev DO' := Loc → DS → (Option Int → DS → Prop) → Prop
def liftP (K : FW) (t : DO') : TO := fun σ H Q => ∃ δ S Q0, Rst K H δ σ ∧ Sim K S H ∧ t δ S Q0 ∧ ∀ o S' H', Q0 o S' → Sim K S' H' → Stp S H S' H' → Q o H'
def dNoPart : DO' := fun _ S Q => Q none S
def dPart (t : DE) : DO' := fun δ S Q => t δ S fun x S1 => match x with
  | .int i => Q (some i) S1
  | _ => False
theorem PO.imp {e : Option Expr} {t t' : TO} (p : PO X e t) (h : ∀ σ H Q, t' σ H Q → t σ H Q) : PO X e t' := ⟨fun pins s σ H Q I hw => p.run pins s σ H Q I (h _ _ _ hw)⟩
theorem qo_none : PO X none (liftP (xfw X tbl) dNoPart) := PO.imp po_none fun σ H Q ⟨δ, S, Q0, hr, hs, h, hq⟩ => hq _ _ _ h hs (.refl _ _)
theorem qo_some (h : PE X e (liftE (xfw X tbl) te)) : PO X (some e) (liftP (xfw X tbl) (dPart te)) := PO.imp (po_some h) fun σ H Q ⟨δ, S, Q0, hr, hs, h, hq⟩ => ⟨δ, S, _, hr, hs, h, fun x S1 v H1 q r s1 a1 => by
  cases x with
  | int i => cases r; exact ⟨i, rfl, hq _ _ _ q s1 a1⟩
  | _ => exact q.elim⟩
def dcut {α : Type} (xs : List α) (lo hi : Option Int) : List α := (xs.drop (HT.sIx xs.length 0 lo)).take (HT.sIx xs.length xs.length hi - HT.sIx xs.length 0 lo)
theorem RvL.cut {K : FW} {H : Hp} {ds : List D} {vs : List V} {lo hi : Option Int} (r : RvL K H ds vs) : RvL K H (dcut ds lo hi) (cutV vs lo hi) := by
  unfold dcut cutV
  rw [← r.length]
  exact (r.drop _).take _
def oSl (x : D) (lo hi : Option Int) (S : DS) (Q : DK) : Prop := match x with
  | .tup xs => Q (.tup (dcut xs lo hi)) S
  | .str z => z.length ≤ 16777216 ∧ Q (.str (cutS z lo hi)) S
  | x => match lstOf S x with
    | some xs => ∀ p, S p = none → Q (.ref p) (dupd S p (.lst (dcut xs lo hi)))
    | none => False
def liftSl (K : FW) : V → Option Int → Option Int → Hp → VK → Prop := fun x lo hi H Q => ∃ d S Q0, Rv K H d x ∧ Sim K S H ∧ oSl d lo hi S Q0 ∧ ∀ d S' v H', Q0 d S' → Rv K H' d v → Sim K S' H' → Stp S H S' H' → Q v H'
theorem cut_whole {α : Type} {xs : List α} {lo hi : Option Int} (h : HT.sIx xs.length 0 lo = 0 ∧ HT.sIx xs.length xs.length hi = xs.length) : dcut xs lo hi = xs := by
  unfold dcut
  rw [h.1, h.2]
  simp
theorem dsl : SlR X (liftSl (xfw X tbl)) := by
  rintro pins s σ H xv v vl vu lo hi sl Q I rx hsl pl pu ⟨d, S, Q0, hd, hs, hr, hq⟩
  have lst : ∀ xs, lstOf S d = some xs → (∀ p, S p = none → Q0 (.ref p) (dupd S p (.lst (dcut xs lo hi)))) →
      ∃ T id, typeLookup (.type T) "__getitem__" = pure (some (.builtin id)) ∧ s.TypeIs v T ∧ wpAny (model X.prog X.w) X.A (getItem v (.ref sl)) (EP X pins σ Q) X.xe s := fun xs e h => by
    obtain ⟨a, vs, rfl, hv, r⟩ := lst_of hs hd e
    exact sl_list pins s σ H _ v vl vu lo hi sl Q I rx hsl pl pu ⟨a, vs, rfl, hv, fun p hp => hq _ _ _ _ (h p (hs.fresh hp)) (.ref p) (hs.new hp ⟨_, upd_same, (Stp.laid (S := S) hp).rvl r.cut⟩) (Stp.new hp)⟩
  cases d with
  | tup xs =>
    cases hd with
    | @tup a vs _ q r =>
      refine sl_tupA pins s σ H _ v vl vu lo hi sl Q I rx hsl pl pu ⟨a, vs, rfl, q, fun w => ?_, fun w p hp => ?_⟩
      · rw [← r.length] at w
        have hr' : Q0 (.tup (dcut xs lo hi)) S := hr
        rw [cut_whole w] at hr'
        exact hq _ _ _ _ hr' (.tup q r) hs (.refl _ _)
      · exact hq _ _ _ _ hr (.tup (.inl (.inl upd_same)) ((Stp.laid (S := S) hp).rvl r.cut)) (hs.laid hp) (Stp.laid hp)
  | str z =>
    cases hd
    exact sl_str pins s σ H _ v vl vu lo hi sl Q I rx hsl pl pu ⟨z, rfl, by rw [szl]; exact hr.1, hq _ _ _ _ hr.2 (.str _) hs (.refl _ _)⟩
  | ref a =>
    have hr' : (match lstOf S (.ref a) with
      | some xs => ∀ p, S p = none → Q0 (.ref p) (dupd S p (.lst (dcut xs lo hi)))
      | none => False) := hr
    split at hr'
    · rename_i xs e; exact lst xs e hr'
    · exact hr'.elim
  | fl xs => exact lst xs rfl hr
  | _ => exact hr.elim
def dSl (te : DE) (lo hi : DO') : DE := fun δ S Q => te δ S fun x S1 => lo δ S1 fun l S2 => hi δ S2 fun u S3 => oSl x l u S3 Q
theorem qe_slice {lo hi : Option Expr} {tl th : DO'} (he : PE X e (liftE (xfw X tbl) te)) (hl : PO X lo (liftP (xfw X tbl) tl)) (hu : PO X hi (liftP (xfw X tbl) th)) : PE X (.Subscript e (.Slice lo hi none p2) pos) (liftE (xfw X tbl) (dSl te tl th)) :=
  PE.imp (pe_slice dsl he hl hu) fun σ H Q ⟨δ, S, Q0, hr, hs, h, hq⟩ => ⟨δ, S, _, hr, hs, h, fun x S1 v H1 h1 r1 s1 a1 => ⟨δ, S1, _, hr.stp a1, s1, h1, fun l S2 H2 h2 s2 a2 => ⟨δ, S2, _, hr.stp (a1.trans a2), s2, h2, fun u S3 H3 h3 s3 a3 =>
    ⟨x, S3, _, (a2.trans a3).rv r1, s3, h3, fun d S' v H' q r s a => hq d S' v H' q r s (((a1.trans a2).trans a3).trans a)⟩⟩⟩⟩
/-- xs[i] = v -/
def sIx0 : DSet := fun o i v S Q => match o, i with
  | .ref a, .int k => match S a with
    | some (.lst xs) => match ixN xs.length k with
      | some j => Q (dupd S a (.lst (xs.set j v)))
      | none => False
    | _ => False
  | _, _ => False
theorem dset_ix0 : PSet X (liftSet (xfw X tbl) sIx0) := by
  rintro pins s σ H o i v ov iv u Q I ro ri rv ⟨od, id, vd, S, Q0, ho, hi, hv, hs, hr, hq⟩
  cases od with
  | ref a =>
    cases ho
    cases id with
    | int k =>
      cases hi
      have hr' : (match S a with
        | some (.lst xs) => match ixN xs.length k with
          | some j => Q0 (dupd S a (.lst (xs.set j vd)))
          | none => False
        | _ => False) := hr
      split at hr'
      · rename_i xs ea
        split at hr'
        · rename_i j ej
          obtain ⟨vs, h1, r⟩ := hs.lst ea
          refine set_list pins s σ H _ _ v ov iv u Q I ro ri rv ⟨a, vs, k, j, rfl, rfl, h1, by rw [← r.length]; exact ej, hq _ _ hr' (hs.write ea ⟨_, upd_same, ?_⟩) (Stp.write hs ea)⟩
          exact RvL.updL h1 (r.set hv j)
        · exact hr'.elim
      · exact hr'.elim
    | _ => exact hr.elim
  | _ => exact hr.elim
end
def lenOf (S : DS) : D → Option Nat
  | .str z => if z.length ≤ 16777216 then some z.length else none
  | d => (seqOf S d).map (·.length)
def bLen0 : DRs := fun ds S Q => match ds with
  | [d] => match lenOf S d with
    | some n => Q (.int n) S
    | none => False
  | _ => False
def bInt : DRs := fun ds S Q => match ds with
  | [.int i] => Q (.int i) S
  | [.bl k] => Q (.int (if k then 1 else 0)) S
  | _ => False
def bAbs : DRs := fun ds S Q => match ds with
  | [.int i] => Q (.int (if i < 0 then -i else i)) S
  | _ => False
def bMax2 : DRs := fun ds S Q => match ds with
  | [.int i, .int j] => Q (.int (if j > i then j else i)) S
  | _ => False
def bMin2 : DRs := fun ds S Q => match ds with
  | [.int i, .int j] => Q (.int (if j < i then j else i)) S
  | _ => False
def bList0 : DRs := fun ds S Q => match ds with
  | [d] => match seqOf S d with
    | some xs => ∀ p, S p = none → Q (.ref p) (dupd S p (.lst xs))
    | none => False
  | _ => False
def bTuple : DRs := fun ds S Q => match ds with
  | [d] => match seqOf S d with
    | some xs => Q (.tup xs) S
    | none => False
  | _ => False
def tyName (S : DS) : D → Option String
  | .non => some "NoneType" | .bl _ => some "bool" | .int _ => some "int" | .str _ => some "str" | .tup _ => some "tuple" | .fl _ => some "list" | .ty _ => none
  | .ref a => match S a with
    | some (.lst _) => some "list"
    | _ => none
def isi (t T : String) : Bool := t == T || (t == "bool" && T == "int")
def knownTy (t : String) : Bool := t == "bool" || t == "int" || t == "str" || t == "tuple" || t == "list"
def bIsi : DRs := fun ds S Q => match ds with
  | [x, .ty T] => match tyName S x with
    | some t => knownTy T = true ∧ Q (.bl (isi t T)) S
    | none => False
  | [x, .tup [.ty T, .ty U]] => match tyName S x with
    | some t => (knownTy T = true ∧ knownTy U = true) ∧ Q (.bl (isi t T || isi t U)) S
    | none => False
  | _ => False
def dle (a b : D) : Bool := PySem.W.dataLe false D.py a b
def bSorted : DRs := fun ds S Q => match ds with
  | [d] => match lstOf S d with
    | some xs => ((∀ x ∈ xs, x.plain = true ∧ x.dep ≤ 50) ∧ PySem.W.AllAlike (xs.map D.py) ∧ PySem.W.Sortable (xs.map D.py)) ∧ ∀ p, S p = none → Q (.ref p) (dupd S p (.lst (xs.mergeSort dle)))
    | none => False
  | _ => False
def bSum : DRs := fun ds S Q => match ds with
  | [d] => match lstOf S d with
    | some xs => ∃ ns : List Int, xs = ns.map D.int ∧ Q (.int ns.sum) S
    | none => False
  | _ => False
def bAny : DRs := fun ds S Q => match ds with
  | [d] => match lstOf S d with
    | some xs => ∃ bs : List Bool, xs = bs.map D.bl ∧ Q (.bl (bs.any id)) S
    | none => False
  | _ => False
def bAll : DRs := fun ds S Q => match ds with
  | [d] => match lstOf S d with
    | some xs => ∃ bs : List Bool, xs = bs.map D.bl ∧ Q (.bl (bs.all id)) S
    | none => False
  | _ => False
section
variable {X : Cx} {tbl : Tbl}
theorem dl_call {f : Value} {r : DRs}
    (h : ∀ (pins : List (Addr × Obj)) (s : Shared) (σ : L2.St) (H : Hp) (ds : List D) (xs : List V) (us : List Value) (S : DS) (Q : VK) (Q0 : DK), Inv X pins σ H s → Vals xs us → RvL (xfw X tbl) H ds xs → Sim (xfw X tbl) S H → r ds S Q0 →
      (∀ d S' v H', Q0 d S' → Rv (xfw X tbl) H' d v → Sim (xfw X tbl) S' H' → Stp S H S' H' → Q v H') → wpAny (model X.prog X.w) X.A (call f us) (EP X pins σ Q) X.xe s) : CallR X f (liftC (xfw X tbl) r) := by
  rintro pins s σ H xs us Q I rx ⟨ds, S, Q0, hx, hs, hr, hq⟩
  exact h pins s σ H ds xs us S Q Q0 I rx hx hs hr hq
theorem RvL.one {K : FW} {H : Hp} {d : D} {vs : List V} (r : RvL K H [d] vs) : ∃ v, vs = [v] ∧ Rv K H d v := by
  cases r with
  | cons q rr => cases rr; exact ⟨_, rfl, q⟩
theorem RvL.two {K : FW} {H : Hp} {d e : D} {vs : List V} (r : RvL K H [d, e] vs) : ∃ v w, vs = [v, w] ∧ Rv K H d v ∧ Rv K H e w := by
  cases r with
  | cons q rr =>
    obtain ⟨w, rfl, q2⟩ := rr.one
    exact ⟨_, w, rfl, q, q2⟩
theorem dcall_len0 : CallR X (.builtin "len") (liftC (xfw X tbl) bLen0) := dl_call fun pins s σ H ds xs us S Q Q0 I ru rv hs hr hq => by
  match ds, hr, rv with
  | [d], hr, rv =>
    obtain ⟨v, rfl, rd⟩ := rv.one
    have hr' : (match lenOf S d with
      | some n => Q0 (.int n) S
      | none => False) := hr
    split at hr'
    · rename_i n e
      have seq : (seqOf S d).map (·.length) = some n → wpAny (model X.prog X.w) X.A (call (.builtin "len") us) (EP X pins σ Q) X.xe s := fun e => by
        obtain ⟨zs, e1, e2⟩ := Option.map_eq_some_iff.mp e
        obtain ⟨a, ws, rfl, hv, r⟩ := seq_of hs rd e1
        refine call_len_seq pins s σ H _ us Q I ru ⟨a, ws, rfl, hv, hq _ _ _ _ hr' ?_ hs (.refl _ _)⟩
        rw [← e2, r.length]; exact .int _
      cases d with
      | str z =>
        cases rd
        rw [lenOf] at e
        split at e
        · rename_i hz
          cases e
          exact call_len_str pins s σ H _ us Q I ru ⟨z, rfl, by rw [szl]; exact hz, hq _ _ _ _ hr' (.int _) hs (.refl _ _)⟩
        · cases e
      | tup _ => exact seq e
      | fl _ => exact seq e
      | ref _ => exact seq e
      | _ => cases e
    · exact hr'.elim
theorem dcall_int : CallR X (.type "int") (liftC (xfw X tbl) bInt) := dl_call fun pins s σ H ds xs us S Q Q0 I ru rv hs hr hq => by
  match ds, hr, rv with
  | [.int i], hr, rv =>
    obtain ⟨v, rfl, rd⟩ := rv.one
    cases rd
    exact call_int1 pins s σ H _ us Q I ru (.inl ⟨i, rfl, hq _ _ _ _ hr (.int _) hs (.refl _ _)⟩)
  | [.bl k], hr, rv =>
    obtain ⟨v, rfl, rd⟩ := rv.one
    cases rd
    exact call_int1 pins s σ H _ us Q I ru (.inr ⟨k, rfl, hq _ _ _ _ hr (.int _) hs (.refl _ _)⟩)
theorem dcall_abs : CallR X (.builtin "abs") (liftC (xfw X tbl) bAbs) := dl_call fun pins s σ H ds xs us S Q Q0 I ru rv hs hr hq => by
  match ds, hr, rv with
  | [.int i], hr, rv =>
    obtain ⟨v, rfl, rd⟩ := rv.one
    cases rd
    exact call_abs pins s σ H _ us Q I ru ⟨i, rfl, hq _ _ _ _ hr (.int _) hs (.refl _ _)⟩
theorem dcall_max2 (hc : X.calm = true) : CallR X (.builtin "max") (liftC (xfw X tbl) bMax2) := dl_call fun pins s σ H ds xs us S Q Q0 I ru rv hs hr hq => by
  match ds, hr, rv with
  | [.int i, .int j], hr, rv =>
    obtain ⟨v, w, rfl, rd, re⟩ := rv.two
    cases rd
    cases re
    exact call_max2 hc pins s σ H _ us Q I ru ⟨i, j, rfl, hq _ _ _ _ hr (.int _) hs (.refl _ _)⟩
theorem dcall_min2 (hc : X.calm = true) : CallR X (.builtin "min") (liftC (xfw X tbl) bMin2) := dl_call fun pins s σ H ds xs us S Q Q0 I ru rv hs hr hq => by
  match ds, hr, rv with
  | [.int i, .int j], hr, rv =>
    obtain ⟨v, w, rfl, rd, re⟩ := rv.two
    cases rd
    cases re
    exact call_min2 hc pins s σ H _ us Q I ru ⟨i, j, rfl, hq _ _ _ _ hr (.int _) hs (.refl _ _)⟩
theorem dcall_list0 : CallR X (.type "list") (liftC (xfw X tbl) bList0) := dl_call fun pins s σ H ds xs us S Q Q0 I ru rv hs hr hq => by
  match ds, hr, rv with
  | [d], hr, rv =>
    obtain ⟨v, rfl, rd⟩ := rv.one
    have hr' : (match seqOf S d with
      | some xs => ∀ p, S p = none → Q0 (.ref p) (dupd S p (.lst xs))
      | none => False) := hr
    split at hr'
    · rename_i zs e
      obtain ⟨a, ws, rfl, hv, r⟩ := seq_of hs rd e
      exact call_list_of pins s σ H _ us Q I ru ⟨a, ws, rfl, hv, fun p hp => hq _ _ _ _ (hr' p (hs.fresh hp)) (.ref p) (hs.new hp ⟨_, upd_same, (Stp.laid (S := S) hp).rvl r⟩) (Stp.new hp)⟩
    · exact hr'.elim
theorem dcall_tuple : CallR X (.type "tuple") (liftC (xfw X tbl) bTuple) := dl_call fun pins s σ H ds xs us S Q Q0 I ru rv hs hr hq => by
  match ds, hr, rv with
  | [d], hr, rv =>
    obtain ⟨v, rfl, rd⟩ := rv.one
    have hr' : (match seqOf S d with
      | some xs => Q0 (.tup xs) S
      | none => False) := hr
    split at hr'
    · rename_i zs e
      obtain ⟨a, ws, rfl, hv, r⟩ := seq_of hs rd e
      refine call_tuple_of pins s σ H _ us Q I ru ⟨a, ws, rfl, ?_⟩
      rcases hv with hv | hv
      · exact .inl ⟨hv, fun p hp => hq _ _ _ _ hr' (.tup (.inl (.inl upd_same)) ((Stp.laid (S := S) hp).rvl r)) (hs.laid hp) (Stp.laid hp)⟩
      · exact .inr ⟨hv, hq _ _ _ _ hr' (.tup hv r) hs (.refl _ _)⟩
    · exact hr'.elim
theorem tyx_of {K : FW} {H : Hp} {S : DS} {d : D} {v : V} {t : String} (hs : Sim K S H) (r : Rv K H d v) (h : tyName S d = some t) : TyX K H v (.type t) := by
  cases d with
  | non => cases r; cases h; exact .base .non
  | bl b => cases r; cases h; exact .base (.bl _)
  | int b => cases r; cases h; exact .base (.int _)
  | str b => cases r; cases h; exact .base (.str _)
  | tup xs =>
    cases h
    cases r with
    | tup q rr =>
      rcases q with (q | ⟨o, q⟩) | ⟨o, its, n, q, c, _⟩
      · exact .base (.tup q)
      · exact .fTuple q
      · exact .kTuple q c
  | fl xs =>
    cases h
    cases r with
    | fl q rr =>
      rcases q with ⟨o, q⟩ | ⟨o, its, n, q, c, _⟩
      · exact .base (.frz q)
      · exact .kList q c
  | ref a =>
    cases r
    rw [tyName] at h
    split at h
    · rename_i e
      cases h
      obtain ⟨vs, hv, _⟩ := hs.lst e
      exact .base (.lst hv)
    · cases h
  | ty _ => cases h
theorem kit_isi {K : PySem.W.Frag} {S : DS} {d : D} {t T : String} (h : tyName S d = some t) (k : knownTy T = true) : PySem.W.kitOne K (.type t) (.type T) = some (isi t T) := by
  have ht : t = "NoneType" ∨ t = "bool" ∨ t = "int" ∨ t = "str" ∨ t = "tuple" ∨ t = "list" := by
    cases d <;> simp [tyName] at h
    all_goals first | (subst h; simp) | skip
    · split at h
      · cases h; simp
      · cases h
  have hT : T = "bool" ∨ T = "int" ∨ T = "str" ∨ T = "tuple" ∨ T = "list" := by
    unfold knownTy at k
    simp only [Bool.or_eq_true, beq_iff_eq] at k
    rcases k with (((k | k) | k) | k) | k <;> simp [k]
  rcases ht with rfl | rfl | rfl | rfl | rfl | rfl <;> rcases hT with rfl | rfl | rfl | rfl | rfl <;> exact kit_ty (by decide +kernel)
theorem dcall_isi : CallR X (.builtin "isinstance") (liftC (xfw X tbl) bIsi) := dl_call fun pins s σ H ds xs us S Q Q0 I ru rv hs hr hq => by
  match ds, hr, rv with
  | [x, .ty T], hr, rv =>
    obtain ⟨v, w, rfl, rd, re⟩ := rv.two
    cases re
    have hr' : (match tyName S x with
      | some t => knownTy T = true ∧ Q0 (.bl (isi t T)) S
      | none => False) := hr
    split at hr'
    · rename_i t e
      exact call_isi pins s σ H _ us Q I ru ⟨v, _, _, _, _, rfl, .ty T, tyx_of hs rd e, kit_isi e hr'.1, hq _ _ _ _ hr'.2 (.bl _) hs (.refl _ _)⟩
    · exact hr'.elim
  | [x, .tup [.ty T, .ty U]], hr, rv =>
    obtain ⟨v, w, rfl, rd, re⟩ := rv.two
    have hr' : (match tyName S x with
      | some t => (knownTy T = true ∧ knownTy U = true) ∧ Q0 (.bl (isi t T || isi t U)) S
      | none => False) := hr
    split at hr'
    · rename_i t e
      have hk : PySem.W.kitAny X.K (.type t) [.type T, .type U] = some (isi t T || isi t U) := by
        refine kitAny_cons (kit_isi e hr'.1.1) (fun h1 => ?_) (fun h1 => by rw [h1]; rfl)
        rw [h1, Bool.false_or]
        exact kitAny_cons (kit_isi e hr'.1.2) (fun h2 => by rw [h2]; exact kitAny_nil) (fun h2 => h2)
      cases re with
      | @tup tp cs _ q rr =>
        obtain ⟨c1, c2, rfl, k1, k2⟩ := rr.two
        cases k1
        cases k2
        have fin := hq _ _ _ _ hr'.2 (.bl _) hs (.refl _ _)
        obtain ⟨u1, u2, rfl, r1, r2⟩ := vals2 ru
        cases (show u2 = Value.ref tp from r2)
        obtain ⟨P, Z, p, hx⟩ := kit_of I r1 (tyx_of hs rd e)
        obtain ⟨its, rv3, ⟨o, h1, h2, n, h3⟩, _⟩ := I.tuple q
        have e3 : its = [.type T, .type U] := by
          cases rv3 with
          | cons a b =>
            cases b with
            | cons c d => cases d; cases a; cases c; rfl
        subst e3
        obtain ⟨oc, od, dt, sl⟩ := o
        simp only at h2 h3
        subst h2 h3
        exact PySem.W.kia_tup Z I.kIn p h1 hk hx fun tk => ⟨.bl _, H, I.tok tk, .refl _, fin⟩
    · exact hr'.elim
theorem EachIs.rvl {K : FW} {H : Hp} : ∀ {us : List Value} {ds : List D}, PySem.W.EachIs (fun u d => ∃ v, RelV v u ∧ Rv K H d v) us ds → ∃ vs, Vals vs us ∧ RvL K H ds vs
  | _, _, .nil => ⟨[], .nil, .nil⟩
  | _, _, .cons ⟨v, h1, h2⟩ t => by
    obtain ⟨vs, h3, h4⟩ := EachIs.rvl t
    exact ⟨v :: vs, .cons h1 h3, .cons h2 h4⟩
theorem RvL.each {K : FW} {H : Hp} : ∀ {us : List Value} {vs : List V} {ds : List D}, Vals vs us → RvL K H ds vs → PySem.W.EachIs (fun u d => ∃ v, RelV v u ∧ Rv K H d v) us ds
  | _, _, [], r, h => by cases h; cases r; exact .nil
  | _, _, d :: ds, r, h => by
    cases h with
    | cons a b =>
      cases r with
      | cons c e => exact .cons ⟨_, c, a⟩ (RvL.each e b)
theorem each_reads {pins : List (Addr × Obj)} {σ : L2.St} {H : Hp} {s : Shared} (I : Inv X pins σ H s) : ∀ {us : List Value} {vs : List V} {ds : List D}, (∀ x ∈ ds, x.plain = true ∧ x.dep ≤ 50) → Vals vs us → RvL (xfw X tbl) H ds vs →
    PySem.W.EachIs (fun u d => ∃ as, Reads s.heap u d.py as) us ds
  | _, _, [], _, r, h => by cases h; cases r; exact .nil
  | _, _, d :: ds, hp, r, h => by
    cases h with
    | cons a b =>
      cases r with
      | cons c e => exact .cons (Dp.reads I _ _ _ (Rv.dp d _ (hp d List.mem_cons_self).1 a) c) (each_reads I (fun x hx => hp x (List.mem_cons_of_mem _ hx)) e b)
theorem dcall_sorted (hu : X.A.units + 100 < cLine) : CallR X (.builtin "sorted") (liftC (xfw X tbl) bSorted) := dl_call fun pins s σ H ds xs us S Q Q0 I ru rv hs hr hq => by
  match ds, hr, rv with
  | [d], hr, rv =>
    obtain ⟨v, rfl, rd⟩ := rv.one
    have hr' : (match lstOf S d with
      | some xs => ((∀ x ∈ xs, x.plain = true ∧ x.dep ≤ 50) ∧ PySem.W.AllAlike (xs.map D.py) ∧ PySem.W.Sortable (xs.map D.py)) ∧ ∀ p, S p = none → Q0 (.ref p) (dupd S p (.lst (xs.mergeSort dle)))
      | none => False) := hr
    split at hr'
    · rename_i zs e
      obtain ⟨⟨h1, h2, h3⟩, hr'⟩ := hr'
      obtain ⟨a, ws, rfl, hv, r⟩ := lst_of hs rd e
      obtain ⟨its, r1, hl, hz⟩ := I.list hv
      rw [Vals.ref1 ru]
      refine PySem.W.sorted_data (enc := D.py) (R := fun u d => ∃ v, RelV v u ∧ Rv (xfw X tbl) H d v) hl.isList (RvL.each r1 r) (each_reads I h1 r1 r) h2 h3 (by rw [r.length]; exact hz)
        (fun b hb => by rw [D.dep_py _ (h1 b hb).1]; have := (h1 b hb).2; omega) fun out hl2 he => ?_
      obtain ⟨vs2, k1, k2⟩ := EachIs.rvl he
      obtain ⟨ep, he'⟩ := PyProof.Rows.sortedAll_at s.heap its out.toArray
      have hfr : H (s.heap.objs.size + 1) = none := I.hok.fresh (Nat.le_succ _)
      have hlen : vs2.length ≤ sizeLine := by
        rw [← k2.length, List.length_mergeSort, r.length]; exact hz
      refine ⟨.ref _, upd H (s.heap.objs.size + 1) (.lst vs2), I.laid (t' := s.toks) (fun _ _ => PyProof.Rows.sortedAll_old) (Nat.le_succ _) ⟨hlen, out, ep, k1, he'⟩, rfl, ?_⟩
      exact hq _ _ _ _ (hr' _ (hs.fresh hfr)) (.ref _) (hs.new hfr ⟨vs2, upd_same, (Stp.laid (S := S) hfr).rvl k2⟩) (Stp.new hfr)
    · exact hr'.elim
theorem rvl_ints {K : FW} {H : Hp} : ∀ {ns : List Int} {vs : List V}, RvL K H (ns.map D.int) vs → vs = ns.map V.int
  | [], _, r => by cases r; rfl
  | n :: ns, _, r => by
    cases r with
    | cons a b => cases a; rw [rvl_ints b]; rfl
theorem rvl_bls {K : FW} {H : Hp} : ∀ {ns : List Bool} {vs : List V}, RvL K H (ns.map D.bl) vs → vs = ns.map V.bl
  | [], _, r => by cases r; rfl
  | n :: ns, _, r => by
    cases r with
    | cons a b => cases a; rw [rvl_bls b]; rfl
theorem dcall_sum (hc : X.calm = true) : CallR X (.builtin "sum") (liftC (xfw X tbl) bSum) := dl_call fun pins s σ H ds xs us S Q Q0 I ru rv hs hr hq => by
  match ds, hr, rv with
  | [d], hr, rv =>
    obtain ⟨v, rfl, rd⟩ := rv.one
    have hr' : (match lstOf S d with
      | some xs => ∃ ns : List Int, xs = ns.map D.int ∧ Q0 (.int ns.sum) S
      | none => False) := hr
    split at hr'
    · rename_i zs e
      obtain ⟨ns, rfl, q⟩ := hr'
      obtain ⟨a, ws, rfl, hv, r⟩ := lst_of hs rd e
      exact cr_sum hc pins s σ H _ us Q I ru ⟨a, ns, rfl, by rw [← rvl_ints r]; exact hv, hq _ _ _ _ q (.int _) hs (.refl _ _)⟩
    · exact hr'.elim
theorem dcall_any (hc : X.calm = true) : CallR X (.builtin "any") (liftC (xfw X tbl) bAny) := dl_call fun pins s σ H ds xs us S Q Q0 I ru rv hs hr hq => by
  match ds, hr, rv with
  | [d], hr, rv =>
    obtain ⟨v, rfl, rd⟩ := rv.one
    have hr' : (match lstOf S d with
      | some xs => ∃ bs : List Bool, xs = bs.map D.bl ∧ Q0 (.bl (bs.any id)) S
      | none => False) := hr
    split at hr'
    · rename_i zs e
      obtain ⟨ns, rfl, q⟩ := hr'
      obtain ⟨a, ws, rfl, hv, r⟩ := lst_of hs rd e
      exact cr_any hc pins s σ H _ us Q I ru ⟨a, ns, rfl, by rw [← rvl_bls r]; exact hv, hq _ _ _ _ q (.bl _) hs (.refl _ _)⟩
    · exact hr'.elim
theorem dcall_all (hc : X.calm = true) : CallR X (.builtin "all") (liftC (xfw X tbl) bAll) := dl_call fun pins s σ H ds xs us S Q Q0 I ru rv hs hr hq => by
  match ds, hr, rv with
  | [d], hr, rv =>
    obtain ⟨v, rfl, rd⟩ := rv.one
    have hr' : (match lstOf S d with
      | some xs => ∃ bs : List Bool, xs = bs.map D.bl ∧ Q0 (.bl (bs.all id)) S
      | none => False) := hr
    split at hr'
    · rename_i zs e
      obtain ⟨ns, rfl, q⟩ := hr'
      obtain ⟨a, ws, rfl, hv, r⟩ := lst_of hs rd e
      exact cr_all hc pins s σ H _ us Q I ru ⟨a, ns, rfl, by rw [← rvl_bls r]; exact hv, hq _ _ _ _ q (.bl _) hs (.refl _ _)⟩
    · exact hr'.elim
abbrev DM := D → List D → DS → DK → Prop
def liftM (K : FW) (r : DM) : V → List V → Hp → VK → Prop := fun x xs H Q => ∃ dx ds S Q0, Rv K H dx x ∧ RvL K H ds xs ∧ Sim K S H ∧ r dx ds S Q0 ∧ ∀ d S' v H', Q0 d S' → Rv K H' d v → Sim K S' H' → Stp S H S' H' → Q v H'
def dBM (ok : DS → D → Prop) (r : DM) (to : DE) (t : DA) : DE := fun δ S Q => to δ S fun x S1 => ok S1 x ∧ t δ S1 fun xs S2 => r x xs S2 Q
def okLst : DS → D → Prop := fun S d => (lstOf S d).isSome = true
def okStr : DS → D → Prop := fun _ d => match d with
  | .str _ => True
  | _ => False
def OkTy (K : FW) (T : String) (ok : DS → D → Prop) : Prop := ∀ S H d v, Sim K S H → Rv K H d v → ok S d → tyV K T v H
theorem okLst_ty {K : FW} : OkTy K "list" okLst := fun S H d v hs r h => by
  obtain ⟨xs, e⟩ := Option.isSome_iff_exists.mp h
  obtain ⟨a, vs, rfl, hv, _⟩ := lst_of hs r e
  exact .inl ⟨rfl, vs, hv⟩
theorem okStr_ty {K : FW} : OkTy K "str" okStr := fun S H d v hs r h => by
  cases d with
  | str _ => cases r; exact (rfl : ("str" : String) = "str")
  | _ => exact h.elim
variable {o e : Expr} {es : List Expr} {to : DE} {t : DA} {name : Str} {apos cpos : Pos} {T id : String} {r : DM} {ok : DS → D → Prop}
theorem qe_bm0 (pa : PlainAttrs T) (slot : Slot T name id) (hty : typeOf (.builtin id) = pure (.type "method_descriptor")) (ht : OkTy (xfw X tbl) T ok) (hm : MtR X id (liftM (xfw X tbl) r)) (ho : PE X o (liftE (xfw X tbl) to))
    (hbase : attributeBase o name X.env (eval o X.env) = eval o X.env := by rfl) (hline : (apos.endLine == cpos.line) = true := by rfl) : PE X (.Call (.Attribute o name apos) [] [] cpos) (liftE (xfw X tbl) (dBM ok r to dNil)) :=
  PE.imp (pe_bm0 pa slot hty hm ho hbase hline) fun σ H Q ⟨δ, S, Q0, hr, hs, h, hq⟩ => ⟨δ, S, _, hr, hs, h, fun x S1 v H1 ⟨k, h1⟩ r1 s1 a1 => ⟨ht S1 H1 x v s1 r1 k, x, [], S1, _, r1, .nil, s1, h1, fun d S' v H' q r s a => hq d S' v H' q r s (a1.trans a)⟩⟩
theorem qe_bm (pa : PlainAttrs T) (slot : Slot T name id) (hty : typeOf (.builtin id) = pure (.type "method_descriptor")) (ht : OkTy (xfw X tbl) T ok) (hm : MtR X id (liftM (xfw X tbl) r)) (ho : PE X o (liftE (xfw X tbl) to)) (ha : PA X (e :: es) (liftA (xfw X tbl) t))
    (hbase : attributeBase o name X.env (eval o X.env) = eval o X.env := by rfl)
    (hfew : ((backTo cpos (starEach (e :: es) X.env)).all (fun x => !x.1) && (backToKw cpos (keywordEach [] X.env)).all (fun x => x.1.isSome)
      && decide ((e :: es).length + ([] : List Keyword).length + (if ([] : List Keyword).isEmpty then 0 else 1) < 30)) = true := by rfl)
    (hline : (apos.endLine == cpos.line) = true := by rfl) (hs : starEach (e :: es) X.env = (false, eval e X.env) :: starEach es X.env := by rfl) (hplain : (backTo cpos (starEach es X.env)).any (·.1) = false := by rfl) :
    PE X (.Call (.Attribute o name apos) (e :: es) [] cpos) (liftE (xfw X tbl) (dBM ok r to t)) :=
  PE.imp (pe_bm pa slot hty hm ho ha hbase hfew hline hs hplain) fun σ H Q ⟨δ, S, Q0, hr, hs, h, hq⟩ => ⟨δ, S, _, hr, hs, h, fun x S1 v H1 ⟨k, h1⟩ r1 s1 a1 => ⟨ht S1 H1 x v s1 r1 k, δ, S1, _, hr.stp a1, s1, h1, fun xs S2 vs H2 h2 r2 s2 a2 =>
    ⟨x, xs, S2, _, a2.rv r1, r2, s2, h2, fun d S' v H' q r s a => hq d S' v H' q r s ((a1.trans a2).trans a)⟩⟩⟩
theorem dl_m {id : String}
    (h : ∀ (pins : List (Addr × Obj)) (s : Shared) (σ : L2.St) (H : Hp) (d : D) (ds : List D) (x : V) (xs : List V) (v : Value) (us : List Value) (S : DS) (Q : VK) (Q0 : DK), Inv X pins σ H s → RelV x v → Vals xs us → Rv (xfw X tbl) H d x → RvL (xfw X tbl) H ds xs → Sim (xfw X tbl) S H → r d ds S Q0 →
      (∀ d S' v H', Q0 d S' → Rv (xfw X tbl) H' d v → Sim (xfw X tbl) S' H' → Stp S H S' H' → Q v H') → wpAny (model X.prog X.w) X.A (call (.builtin id) (v :: us)) (EP X pins σ Q) X.xe s) : MtR X id (liftM (xfw X tbl) r) := by
  rintro pins s σ H x xs v us Q I rx rs ⟨d, ds, S, Q0, hd, hx, hs, hr, hq⟩
  exact h pins s σ H d ds x xs v us S Q Q0 I rx rs hd hx hs hr hq
/-- a method that changes a list: f tells what it gives back and the list behind -/
def mLst (f : List D → List D → Option (D × List D)) : DM := fun d ds S Q => match d with
  | .ref a => match S a with
    | some (.lst xs) => match f xs ds with
      | some (r, ys) => ys.length ≤ 16777216 ∧ Q r (dupd S a (.lst ys))
      | none => False
    | _ => False
  | _ => False
theorem mLst_get {f : List D → List D → Option (D × List D)} {d : D} {ds : List D} {S : DS} {Q : DK} (h : mLst f d ds S Q) : ∃ a xs r ys, d = .ref a ∧ S a = some (.lst xs) ∧ f xs ds = some (r, ys) ∧ ys.length ≤ 16777216 ∧ Q r (dupd S a (.lst ys)) := by
  cases d with
  | ref a =>
    have h' : (match S a with
      | some (.lst xs) => match f xs ds with
        | some (r, ys) => ys.length ≤ 16777216 ∧ Q r (dupd S a (.lst ys))
        | none => False
      | _ => False) := h
    split at h'
    · rename_i xs ea
      split at h'
      · rename_i r ys ef
        exact ⟨a, xs, r, ys, rfl, ea, ef, h'.1, h'.2⟩
      · exact h'.elim
    · exact h'.elim
  | _ => exact h.elim
def fAppend : List D → List D → Option (D × List D) := fun xs ds => match ds with
  | [y] => some (.non, xs ++ [y])
  | _ => none
def fPop : List D → List D → Option (D × List D) := fun xs ds => match ds with
  | [] => match xs[xs.length - 1]? with
    | some y => some (y, xs.dropLast)
    | none => none
  | _ => none
def fPopAt : List D → List D → Option (D × List D) := fun xs ds => match ds with
  | [.int i] => match ixN xs.length i with
    | some k => match xs[k]? with
      | some y => some (y, xs.eraseIdx k)
      | none => none
    | none => none
  | _ => none
def fReverse : List D → List D → Option (D × List D) := fun xs ds => match ds with
  | [] => some (.non, xs.reverse)
  | _ => none
theorem dmt_append : MtR X "list.append" (liftM (xfw X tbl) (mLst fAppend)) := dl_m fun pins s σ H d ds x xs v us S Q Q0 I rx ru rd rds hs hr hq => by
  obtain ⟨a, zs, r, ys, rfl, ea, ef, hl, q⟩ := mLst_get hr
  match ds, ef, rds with
  | [y], ef, rds =>
    cases ef
    cases rd
    obtain ⟨w, rfl, rw'⟩ := rds.one
    obtain ⟨vs, h1, r1⟩ := hs.lst ea
    refine mt_append pins s σ H _ _ v us Q I rx ru ⟨a, vs, w, rfl, rfl, h1, by rw [szl, ← r1.length]; rw [List.length_append, List.length_singleton] at hl; omega, hq _ _ _ _ q .non (hs.write ea ⟨_, upd_same, ?_⟩) (Stp.write hs ea)⟩
    exact (r1.append (.cons rw' .nil)).updL h1
theorem dmt_pop : MtR X "list.pop" (liftM (xfw X tbl) (mLst fPop)) := dl_m fun pins s σ H d ds x xs v us S Q Q0 I rx ru rd rds hs hr hq => by
  obtain ⟨a, zs, r, ys, rfl, ea, ef, hl, q⟩ := mLst_get hr
  match ds, ef, rds with
  | [], ef, rds =>
    cases rds
    cases rd
    obtain ⟨vs, h1, r1⟩ := hs.lst ea
    have ef' : (match zs[zs.length - 1]? with
      | some y => some (y, zs.dropLast)
      | none => none) = some (r, ys) := ef
    split at ef'
    · rename_i y ey
      cases ef'
      obtain ⟨w, hw, rw'⟩ := r1.get ey
      refine mt_pop pins s σ H _ _ v us Q I rx ru ⟨a, vs, w, rfl, rfl, h1, by rw [← r1.length]; exact hw, hq _ _ _ _ q (rw'.updL h1) (hs.write ea ⟨_, upd_same, ?_⟩) (Stp.write hs ea)⟩
      exact r1.dropLast.updL h1
    · cases ef'
theorem dmt_popAt : MtR X "list.pop" (liftM (xfw X tbl) (mLst fPopAt)) := dl_m fun pins s σ H d ds x xs v us S Q Q0 I rx ru rd rds hs hr hq => by
  obtain ⟨a, zs, r, ys, rfl, ea, ef, hl, q⟩ := mLst_get hr
  match ds, ef, rds with
  | [.int i], ef, rds =>
    obtain ⟨w0, rfl, rw0⟩ := rds.one
    cases rw0
    cases rd
    obtain ⟨vs, h1, r1⟩ := hs.lst ea
    have ef' : (match ixN zs.length i with
      | some k => match zs[k]? with
        | some y => some (y, zs.eraseIdx k)
        | none => none
      | none => none) = some (r, ys) := ef
    split at ef'
    · rename_i k ek
      split at ef'
      · rename_i y ey
        cases ef'
        obtain ⟨w, hw, rw'⟩ := r1.get ey
        obtain ⟨g1, g2, g3, g4⟩ := ixN_seq ek
        obtain ⟨hz, _⟩ := I.hok a _ h1
        rw [szl, ← r1.length] at hz
        refine mt_popAt pins s σ H _ _ v us Q I rx ru ⟨a, vs, i, k, w, rfl, rfl, h1, by omega, by omega, by rw [← r1.length]; exact g1, hw, hq _ _ _ _ q (rw'.updL h1) (hs.write ea ⟨_, upd_same, ?_⟩) (Stp.write hs ea)⟩
        exact (r1.erase k).updL h1
      · cases ef'
    · cases ef'
theorem dmt_reverse : MtR X "list.reverse" (liftM (xfw X tbl) (mLst fReverse)) := dl_m fun pins s σ H d ds x xs v us S Q Q0 I rx ru rd rds hs hr hq => by
  obtain ⟨a, zs, r, ys, rfl, ea, ef, hl, q⟩ := mLst_get hr
  match ds, ef, rds with
  | [], ef, rds =>
    cases ef
    cases rds
    cases rd
    obtain ⟨vs, h1, r1⟩ := hs.lst ea
    exact mt_reverse pins s σ H _ _ v us Q I rx ru ⟨a, vs, rfl, rfl, h1, hq _ _ _ _ q .non (hs.write ea ⟨_, upd_same, r1.reverse.updL h1⟩) (Stp.write hs ea)⟩
/-- xs.extend(ys), ys a list -/
def mExtend : DM := fun d ds S Q => match d, ds with
  | .ref a, [.ref b] => match S a, S b with
    | some (.lst xs), some (.lst ys) => xs.length + ys.length ≤ 16777216 ∧ Q .non (dupd S a (.lst (xs ++ ys)))
    | _, _ => False
  | _, _ => False
theorem dmt_extend : MtR X "list.extend" (liftM (xfw X tbl) mExtend) := dl_m fun pins s σ H d ds x xs v us S Q Q0 I rx ru rd rds hs hr hq => by
  match d, ds, hr, rd, rds with
  | .ref a, [.ref b], hr, rd, rds =>
    obtain ⟨w0, rfl, rw0⟩ := rds.one
    cases rw0
    cases rd
    have hr' : (match S a, S b with
      | some (.lst xs), some (.lst ys) => xs.length + ys.length ≤ 16777216 ∧ Q0 .non (dupd S a (.lst (xs ++ ys)))
      | _, _ => False) := hr
    split at hr'
    · rename_i zs ys ea eb
      obtain ⟨vs, h1, r1⟩ := hs.lst ea
      obtain ⟨ws, h2, r2⟩ := hs.lst eb
      exact mt_extend pins s σ H _ _ v us Q I rx ru ⟨a, b, vs, ws, rfl, rfl, h1, h2, by rw [szl, ← r1.length, ← r2.length]; exact hr'.1, hq _ _ _ _ hr'.2 .non (hs.write ea ⟨_, upd_same, (r1.append r2).updL h1⟩) (Stp.write hs ea)⟩
    · exact hr'.elim
/-- sep.join(xs) -/
def mJoin : DM := fun d ds S Q => match d, ds with
  | .str a, [y] => match seqOf S y with
    | some xs => ∃ ys : List Str, xs = ys.map D.str ∧ (ys.map (·.length)).sum + ys.length * a.length ≤ 16777216 ∧ Q (.str (Txt.join a ys)) S
    | none => False
  | _, _ => False
theorem rvl_strs {K : FW} {H : Hp} : ∀ {ns : List Str} {vs : List V}, RvL K H (ns.map D.str) vs → vs = ns.map V.str
  | [], _, r => by cases r; rfl
  | n :: ns, _, r => by
    cases r with
    | cons a b => cases a; rw [rvl_strs b]; rfl
theorem dmt_join : MtR X "str.join" (liftM (xfw X tbl) mJoin) := dl_m fun pins s σ H d ds x xs v us S Q Q0 I rx ru rd rds hs hr hq => by
  match d, ds, hr, rd, rds with
  | .str a, [y], hr, rd, rds =>
    obtain ⟨w0, rfl, rw0⟩ := rds.one
    cases rd
    have hr' : (match seqOf S y with
      | some xs => ∃ ys : List Str, xs = ys.map D.str ∧ (ys.map (·.length)).sum + ys.length * a.length ≤ 16777216 ∧ Q0 (.str (Txt.join a ys)) S
      | none => False) := hr
    split at hr'
    · rename_i zs e
      obtain ⟨ys, rfl, hz, q⟩ := hr'
      obtain ⟨p, ws, rfl, hv, r⟩ := seq_of hs rw0 e
      have e2 := rvl_strs r
      subst e2
      exact mt_join pins s σ H _ _ v us Q I rx ru ⟨a, p, ys, rfl, rfl, hv, hz, hq _ _ _ _ q (.str _) hs (.refl _ _)⟩
    · exact hr'.elim
end
end DL
namespace DL
open PySem PySem.Spec PyProof.Rows L2 LamX
def dIter0 (te : DE) : DI := fun δ S Q => te δ S fun x S1 => match x with
  | .str z => Q (z.cps.toList.map fun c => D.str ⟨#[c]⟩) (fun _ => True) S1
  | x => match seqOf S1 x with
    | some xs => Q xs (fun S' => seqOf S' x = some xs) S1
    | none => False
section
variable {X : Cx} {tbl : Tbl} {tg : Expr}
/-- a value is walked: from its iterator's making -/
def IterR (X : Cx) (tg : Expr) (r : V → Hp → (It → Hp → Prop) → Prop) : Prop :=
  ∀ (pins : List (Addr × Obj)) (s : Shared) (σ : L2.St) (H : Hp) (x : V) (v : Value) (R : It → Hp → Prop), Inv X pins σ H s → RelV x v → r x H R → wpAny (model X.prog X.w) X.A (pyIter v) (PIE X pins σ tg R) X.xe s
theorem pi_of {l : Expr} {tl : TE} {r : V → Hp → (It → Hp → Prop) → Prop} (hl : PE X l tl) (hr : IterR X tg r) : PI X tg l (fun σ H R => tl σ H fun x H1 => r x H1 R) :=
  ⟨fun pins s σ H R I h => thn (hl.run pins s σ H _ I h) fun v s1 ⟨x, H1, I1, r1, q1⟩ => hr pins s1 σ H1 x v R I1 r1 q1⟩
theorem ir_list : IterR X tg (fun x H R => ∃ a, x = .ref a ∧ (∃ xs, SqL X.K H a xs) ∧ R (Itl X.K a) H) := by
  rintro pins s1 σ H1 x v R I1 r1 ⟨a, e, ⟨xs, hq⟩, q⟩
  subst e
  cases r1
  obtain ⟨its, rv, p, hz⟩ := I1.list hq
  refine wpAny_pyIter_list p.isList ?_
  refine ⟨s1.heap.objs.size, [s1.heap.objs.size], _, _, H1, rfl, I1.kept (t' := s1.toks) fun b o e => Heap.get?_push_of_some _ e, turn_list a _, ⟨_, Heap.get?_push_size _ rfl, rfl, rfl⟩, fun b hb => ?_, q⟩
  have e : b = s1.heap.objs.size := by simpa using hb
  subst e
  exact I1.fpOk (Nat.le_refl _) (I1.hok.fresh (Nat.le_refl _))
theorem ir_tup : IterR X tg (fun x H R => ∃ a, x = .ref a ∧ (∃ xs, SqT X.K H a xs) ∧ R (Itt X.K a) H) := by
  rintro pins s1 σ H1 x v R I1 r1 ⟨a, e, ⟨xs, hq⟩, q⟩
  subst e
  cases r1
  obtain ⟨its, rv, p, hz⟩ := I1.tuple hq
  refine wpAny_pyIter_tuple (show s1.heap.IsTuple a its.toArray from p) ?_
  refine ⟨s1.heap.objs.size, [s1.heap.objs.size], _, _, H1, rfl, I1.kept (t' := s1.toks) fun b o e => Heap.get?_push_of_some _ e, turn_tuple a _, ⟨_, Heap.get?_push_size _ rfl, rfl, rfl⟩, fun b hb => ?_, q⟩
  have e : b = s1.heap.objs.size := by simpa using hb
  subst e
  exact I1.fpOk (Nat.le_refl _) (I1.hok.fresh (Nat.le_refl _))
theorem ir_str : IterR X tg (fun v H R => ∃ x, v = .str x ∧ R (Its x) H) := by
  rintro pins s1 σ H1 y v R I1 r1 ⟨x, ex, q⟩
  subst ex
  obtain ⟨t, rfl⟩ := r1
  cases ha : x.cps.all (· < 128)
  · exact wpAny_pyIter_wide ha (pi_one (tk := s1.toks) I1 _ (turn_str _ x t "str_iterator" (.inr rfl)) ⟨_, Heap.get?_push_size _ rfl, rfl, rfl⟩ q)
  · exact wpAny_pyIter_ascii ha (pi_one (tk := s1.toks) I1 _ (turn_str _ x t "str_ascii_iterator" (.inl rfl)) ⟨_, Heap.get?_push_size _ rfl, rfl, rfl⟩ q)
theorem jok_list {K : FW} {H0 : Hp} {a : Addr} {xs : List D} {stay : DS → Prop} (h : ∀ S H, Prs H0 H → Sim K S H → stay S → ∃ vs, SqL K H a vs ∧ RvL K H xs vs) : JOk K H0 xs stay (Itl K a) := by
  intro i S H p hs st
  obtain ⟨vs, h1, r⟩ := h S H p hs st
  refine ⟨fun hi => ⟨vs, h1, by rw [← r.length]; exact hi⟩, fun d hd => ?_⟩
  obtain ⟨v, h2, h3⟩ := r.get hd
  refine ⟨⟨vs, v, h1, h2⟩, fun x H' ⟨e, y⟩ => ?_⟩
  subst e
  have := y vs h1
  rw [h2] at this
  cases this
  exact ⟨h3, hs, .refl _ _⟩
theorem jok_tup {K : FW} {H0 : Hp} {a : Addr} {xs : List D} {vs : List V} {stay : DS → Prop} (h1 : SqT K H0 a vs) (r : RvL K H0 xs vs) (inj : ∀ H, Prs H0 H → ∀ ws, SqT K H a ws → ws = vs) : JOk K H0 xs stay (Itt K a) := by
  intro i S H p hs st
  refine ⟨fun hi => ⟨vs, p.sqT h1, by rw [← r.length]; exact hi⟩, fun d hd => ?_⟩
  obtain ⟨v, h2, h3⟩ := r.get hd
  refine ⟨⟨vs, v, p.sqT h1, h2⟩, fun x H' ⟨e, y⟩ => ?_⟩
  subst e
  have := y vs (p.sqT h1)
  rw [h2] at this
  cases this
  exact ⟨p.rv h3, hs, .refl _ _⟩
theorem jok_tup' {K : FW} {H0 : Hp} {a : Addr} {xs : List D} {vs : List V} {stay : DS → Prop} (h1 : SqT K H0 a vs) (r : RvL K H0 xs vs) : JOk K H0 xs stay (Itt K a) := by
  intro i S H p hs st
  refine ⟨fun hi => ⟨vs, p.sqT h1, by rw [← r.length]; exact hi⟩, fun d hd => ?_⟩
  obtain ⟨v, h2, h3⟩ := r.get hd
  refine ⟨⟨vs, v, p.sqT h1, h2⟩, fun x H' ⟨e, y⟩ => ?_⟩
  subst e
  have := y vs (p.sqT h1)
  rw [h2] at this
  cases this
  exact ⟨p.rv h3, hs, .refl _ _⟩
theorem jok_str {K : FW} {H0 : Hp} {z : Str} {stay : DS → Prop} : JOk K H0 (z.cps.toList.map fun c => D.str ⟨#[c]⟩) stay (Its z) := by
  intro i S H p hs st
  refine ⟨fun hi => by rw [List.length_map, Array.length_toList] at hi; exact hi, fun d hd => ?_⟩
  rw [List.getElem?_map] at hd
  obtain ⟨c, h1, h2⟩ := Option.map_eq_some_iff.mp hd
  subst h2
  rw [Array.getElem?_toList] at h1
  refine ⟨(Array.getElem?_eq_some_iff.mp h1).1, fun x H' ⟨e, c2, e2, e3⟩ => ?_⟩
  subst e e3
  rw [h1] at e2
  cases e2
  exact ⟨.str _, hs, .refl _ _⟩
/-- the store's own list, a frozen one -/
theorem stay_list {K : FW} {H0 : Hp} {a : Addr} {d : D} {xs : List D} (hr : Rv K H0 d (.ref a)) (nt : ∀ ys, d ≠ .tup ys) : ∀ S H, Prs H0 H → Sim K S H → seqOf S d = some xs → ∃ vs, SqL K H a vs ∧ RvL K H xs vs := by
  intro S H p hs e
  cases d with
  | ref b =>
    cases hr
    obtain ⟨c, vs, e1, hv, r⟩ := seq_of hs (.ref a) e
    cases e1
    rcases hv with hv | hv
    · exact ⟨vs, hv, r⟩
    · rw [seqOf] at e
      split at e
      · rename_i ea
        cases e
        obtain ⟨ws, h1, r1⟩ := hs.lst ea
        exact ⟨ws, .of h1, r1⟩
      · cases e
  | fl ys =>
    cases e
    cases hr with
    | fl q rr => exact ⟨_, (p.fqL q).sq, p.rvl rr⟩
  | tup ys => exact absurd rfl (nt ys)
  | _ => cases hr
theorem qi_seq0 {l : Expr} {te : DE} (hl : PE X l (liftE (xfw X tbl) te)) : PI X tg l (liftI (xfw X tbl) (dIter0 te)) := by
  refine PI.imp (pi_of (r := fun x H R => (∃ a, x = .ref a ∧ (∃ xs, SqL X.K H a xs) ∧ R (Itl X.K a) H) ∨ (∃ a, x = .ref a ∧ (∃ xs, SqT X.K H a xs) ∧ R (Itt X.K a) H) ∨ (∃ z, x = .str z ∧ R (Its z) H)) hl ?_) ?_
  · intro pins s σ H x v R I rx h
    rcases h with h | h | h
    · exact ir_list pins s σ H x v R I rx h
    · exact ir_tup pins s σ H x v R I rx h
    · exact ir_str pins s σ H x v R I rx h
  · rintro σ H R ⟨δ, S, Q0, hr, hs, h, hq⟩
    refine ⟨δ, S, _, hr, hs, h, fun d S1 v H1 h1 r1 s1 a1 => ?_⟩
    have gen : (match seqOf S1 d with
      | some xs => Q0 xs (fun S' => seqOf S' d = some xs) S1
      | none => False) → (∃ a, v = .ref a ∧ (∃ xs, SqL X.K H1 a xs) ∧ R (Itl X.K a) H1) ∨ (∃ a, v = .ref a ∧ (∃ xs, SqT X.K H1 a xs) ∧ R (Itt X.K a) H1) ∨ (∃ z, v = .str z ∧ R (Its z) H1) := fun h => by
      split at h
      · rename_i xs e
        cases d with
        | tup ys =>
          cases e
          cases r1 with
          | tup q rr => exact .inr (.inl ⟨_, rfl, ⟨_, q⟩, hq _ _ _ _ _ h s1 a1 (jok_tup' q rr)⟩)
        | fl ys =>
          cases e
          cases r1 with
          | fl q rr => exact .inl ⟨_, rfl, ⟨_, q.sq⟩, hq _ _ _ _ _ h s1 a1 (jok_list (stay_list (.fl q rr) fun _ z => nomatch z))⟩
        | ref b =>
          cases r1
          obtain ⟨c, vs, e1, hv, rr⟩ := seq_of s1 (.ref b) e
          cases e1
          obtain ⟨ws, k1, k2⟩ := stay_list (.ref b) (fun _ z => nomatch z) S1 H1 (.refl _) s1 e
          exact .inl ⟨_, rfl, ⟨_, k1⟩, hq _ _ _ _ _ h s1 a1 (jok_list (stay_list (.ref b) fun _ z => nomatch z))⟩
        | _ => cases e
      · exact h.elim
    cases d with
    | str z => cases r1; exact .inr (.inr ⟨z, rfl, hq _ _ _ _ _ h1 s1 a1 jok_str⟩)
    | _ => exact gen h1
/-- range -/
def rngL (lo : Int) (n : Nat) : List D := (List.range n).map fun i => D.int (lo + (i : Nat))
def dRng1 (t : DA) : DI := fun δ S Q => t δ S fun ds S1 => match ds with
  | [.int j] => (-(2 ^ 62) ≤ j ∧ j < 2 ^ 62) ∧ Q (rngL 0 j.toNat) (fun _ => True) S1
  | _ => False
def dRng2 (t : DA) : DI := fun δ S Q => t δ S fun ds S1 => match ds with
  | [.int i, .int j] => (-(2 ^ 62) ≤ i ∧ i < 2 ^ 62 ∧ -(2 ^ 62) ≤ j ∧ j < 2 ^ 62) ∧ Q (rngL i (j - i).toNat) (fun _ => True) S1
  | _ => False
theorem jok_rng {K : FW} {H0 : Hp} {lo : Int} {n : Nat} {stay : DS → Prop} : JOk K H0 (rngL lo n) stay (Itr lo n) := by
  intro i S H p hs st
  refine ⟨fun hi => by rw [rngL, List.length_map, List.length_range] at hi; exact hi, fun d hd => ?_⟩
  rw [rngL, List.getElem?_map] at hd
  obtain ⟨c, h1, h2⟩ := Option.map_eq_some_iff.mp hd
  subst h2
  obtain ⟨h3, h4⟩ := List.getElem?_eq_some_iff.mp h1
  rw [List.length_range] at h3
  rw [List.getElem_range] at h4
  subst h4
  refine ⟨h3, fun x H' ⟨e, e3⟩ => ?_⟩
  subst e e3
  exact ⟨.int _, hs, .refl _ _⟩
theorem qi_range1 {a : Expr} {t : DA} {p pos : Pos} (hg : Gl X "range") (hm : X.mg "range" = none) (ha : PA X [a] (liftA (xfw X tbl) t)) (hs : starEach [a] X.env = [(false, eval a X.env)] := by rfl) : PI X tg (.Call (.Name "range" p) [a] [] pos) (liftI (xfw X tbl) (dRng1 t)) :=
  PI.imp (pi_range1 hg hm ha hs) fun σ H R ⟨δ, S, Q0, hr, hs, h, hq⟩ => ⟨δ, S, _, hr, hs, h, fun ds S1 vs H1 h1 r1 s1 a1 => by
    match ds, h1, r1 with
    | [.int j], h1, r1 =>
      obtain ⟨v, rfl, rd⟩ := r1.one
      cases rd
      exact ⟨j, rfl, h1.1.1, h1.1.2, hq _ _ _ _ _ h1.2 s1 a1 jok_rng⟩⟩
theorem qi_range2 {a b : Expr} {t : DA} {p pos : Pos} (hg : Gl X "range") (hm : X.mg "range" = none) (ha : PA X [a, b] (liftA (xfw X tbl) t)) (hs : starEach [a, b] X.env = [(false, eval a X.env), (false, eval b X.env)] := by rfl) (hs2 : starEach [b] X.env = [(false, eval b X.env)] := by rfl) :
    PI X tg (.Call (.Name "range" p) [a, b] [] pos) (liftI (xfw X tbl) (dRng2 t)) :=
  PI.imp (pi_range2 hg hm ha hs hs2) fun σ H R ⟨δ, S, Q0, hr, hs, h, hq⟩ => ⟨δ, S, _, hr, hs, h, fun ds S1 vs H1 h1 r1 s1 a1 => by
    match ds, h1, r1 with
    | [.int i, .int j], h1, r1 =>
      obtain ⟨v, w, rfl, rd, re⟩ := r1.two
      cases rd
      cases re
      exact ⟨i, j, rfl, h1.1, hq _ _ _ _ _ h1.2 s1 a1 jok_rng⟩⟩
/-- reversed(x) of a list or a tuple -/
def dRev (te : DE) : DI := fun δ S Q => te δ S fun x S1 => match seqOf S1 x with
  | some xs => Q xs.reverse (fun S' => seqOf S' x = some xs) S1
  | none => False
theorem rev_get {α : Type} {xs : List α} {i : Nat} {x : α} (h : xs.reverse[i]? = some x) : i < xs.length ∧ xs[xs.length - 1 - i]? = some x := by
  have hi : i < xs.length := by
    have := (List.getElem?_eq_some_iff.mp h).1
    rwa [List.length_reverse] at this
  rw [List.getElem?_reverse hi] at h
  exact ⟨hi, h⟩
theorem jok_rev {K : FW} {H0 : Hp} {a : Addr} {xs : List D} {n : Nat} {stay : DS → Prop} (hn : n = xs.length) (h : ∀ S H, Prs H0 H → Sim K S H → stay S → ∃ vs, SqL K H a vs ∧ RvL K H xs vs) : JOk K H0 xs.reverse stay (Itv K a n) := by
  subst hn
  intro i S H p hs st
  obtain ⟨vs, h1, r⟩ := h S H p hs st
  refine ⟨fun hi => by rw [List.length_reverse] at hi; exact hi, fun d hd => ?_⟩
  obtain ⟨hi, hd⟩ := rev_get hd
  obtain ⟨v, h2, h3⟩ := r.get hd
  refine ⟨⟨hi, vs, v, h1, h2⟩, fun x H' ⟨e, y⟩ => ?_⟩
  subst e
  have := y vs h1
  rw [h2] at this
  cases this
  exact ⟨h3, hs, .refl _ _⟩
theorem jok_revT {K : FW} {H0 : Hp} {a : Addr} {xs : List D} {vs : List V} {n : Nat} {stay : DS → Prop} (hn : n = xs.length) (h1 : SqT K H0 a vs) (r : RvL K H0 xs vs) : JOk K H0 xs.reverse stay (RT.ItvT K a n) := by
  subst hn
  intro i S H p hs st
  refine ⟨fun hi => by rw [List.length_reverse] at hi; exact hi, fun d hd => ?_⟩
  obtain ⟨hi, hd⟩ := rev_get hd
  obtain ⟨v, h2, h3⟩ := r.get hd
  refine ⟨⟨hi, vs, v, p.sqT h1, h2⟩, fun x H' ⟨e, y⟩ => ?_⟩
  subst e
  have := y vs (p.sqT h1)
  rw [h2] at this
  cases this
  exact ⟨p.rv h3, hs, .refl _ _⟩
theorem qi_rev {e : Expr} {te : DE} {p pos : Pos} (hg : Gl X "reversed") (hm : X.mg "reversed" = none) (he : PE X e (liftE (xfw X tbl) te)) (hs : starEach [e] X.env = (false, eval e X.env) :: starEach [] X.env := by rfl) : PI X tg (.Call (.Name "reversed" p) [e] [] pos) (liftI (xfw X tbl) (dRev te)) :=
  PI.imp (RT.pi_revA hg hm he hs) fun σ H R ⟨δ, S, Q0, hr, hs, h, hq⟩ => ⟨δ, S, _, hr, hs, h, fun d S1 v H1 h1 r1 s1 a1 => by
    have h1' : (match seqOf S1 d with
      | some xs => Q0 xs.reverse (fun S' => seqOf S' d = some xs) S1
      | none => False) := h1
    split at h1'
    · rename_i xs e
      cases d with
      | tup ys =>
        cases e
        cases r1 with
        | tup q rr => exact ⟨_, _, rfl, .inr ⟨q, hq _ _ _ _ _ h1' s1 a1 (jok_revT rr.length.symm q rr)⟩⟩
      | fl ys =>
        cases e
        cases r1 with
        | fl q rr => exact ⟨_, _, rfl, .inl ⟨q.sq, hq _ _ _ _ _ h1' s1 a1 (jok_rev rr.length.symm (stay_list (.fl q rr) fun _ z => nomatch z))⟩⟩
      | ref b =>
        cases r1
        obtain ⟨ws, k1, k2⟩ := stay_list (.ref b) (fun _ z => nomatch z) S1 H1 (.refl _) s1 e
        exact ⟨_, ws, rfl, .inl ⟨k1, hq _ _ _ _ _ h1' s1 a1 (jok_rev k2.length.symm (stay_list (.ref b) fun _ z => nomatch z))⟩⟩
      | _ => cases e
    · exact h1'.elim⟩
/-- enumerate(x) of a list -/
def numL (xs : List D) : List D := (List.range xs.length).map fun i => D.tup [.int (i : Nat), (xs[i]?).getD .non]
def dEnum0 (t : DA) : DI := fun δ S Q => t δ S fun ds S1 => match ds with
  | [x] => match lstOf S1 x with
    | some xs => Q (numL xs) (fun S' => lstOf S' x = some xs) S1
    | none => False
  | _ => False
theorem numL_get {xs : List D} {i : Nat} {d : D} (h : (numL xs)[i]? = some d) : ∃ x, xs[i]? = some x ∧ d = .tup [.int (i : Nat), x] := by
  rw [numL, List.getElem?_map] at h
  obtain ⟨c, h1, h2⟩ := Option.map_eq_some_iff.mp h
  obtain ⟨h3, h4⟩ := List.getElem?_eq_some_iff.mp h1
  rw [List.length_range] at h3
  rw [List.getElem_range] at h4
  subst h4
  rw [List.getElem?_eq_getElem h3] at h2
  exact ⟨_, List.getElem?_eq_getElem h3, h2.symm⟩
theorem jok_enum {K : FW} {H0 : Hp} {a : Addr} {xs : List D} {stay : DS → Prop} (h : ∀ S H, Prs H0 H → Sim K S H → stay S → ∃ vs, SqL K H a vs ∧ RvL K H xs vs) : JOk K H0 (numL xs) stay (Ite K a) := by
  intro i S H p hs st
  obtain ⟨vs, h1, r⟩ := h S H p hs st
  refine ⟨fun hi => ⟨vs, h1, by rw [← r.length]; rw [numL, List.length_map, List.length_range] at hi; exact hi⟩, fun d hd => ?_⟩
  obtain ⟨x, hx, rfl⟩ := numL_get hd
  obtain ⟨v, h2, h3⟩ := r.get hx
  refine ⟨⟨vs, v, h1, h2⟩, fun x' H' ⟨T, y, e1, e2, e3, e4⟩ => ?_⟩
  have := e4 vs h1
  rw [h2] at this
  cases this
  subst e1 e3
  exact ⟨.tup (.inl (.inl upd_same)) (.cons (.int _) (.cons ((Stp.laid (S := S) e2).rv h3) .nil)), hs.laid e2, Stp.laid e2⟩
theorem lst_seq {S : DS} {d : D} {xs : List D} (h : lstOf S d = some xs) : seqOf S d = some xs ∧ ∀ ys, d ≠ .tup ys := by
  cases d with
  | ref a => exact ⟨h, fun _ z => nomatch z⟩
  | fl a => exact ⟨h, fun _ z => nomatch z⟩
  | _ => cases h
theorem stay_lst {K : FW} {H0 : Hp} {a : Addr} {d : D} {xs : List D} (hr : Rv K H0 d (.ref a)) : ∀ S H, Prs H0 H → Sim K S H → lstOf S d = some xs → ∃ vs, SqL K H a vs ∧ RvL K H xs vs :=
  fun S H p hs e => stay_list hr (lst_seq e).2 S H p hs (lst_seq e).1
theorem qi_enum0 {e : Expr} {t : DA} {p pos tpos : Pos} {elts : List Expr} {kk : Nat} (hg : Gl X "enumerate") (hm : X.mg "enumerate" = none) (ha : PA X [e] (liftA (xfw X tbl) t)) (hs : starEach [e] X.env = [(false, eval e X.env)] := by rfl) :
    PI X (.Tuple elts kk tpos) (.Call (.Name "enumerate" p) [e] [] pos) (liftI (xfw X tbl) (dEnum0 t)) :=
  PI.imp (pi_enum hg hm ha hs) fun σ H R ⟨δ, S, Q0, hr, hs, h, hq⟩ => ⟨δ, S, _, hr, hs, h, fun ds S1 vs H1 h1 r1 s1 a1 => by
    match ds, h1, r1 with
    | [x], h1, r1 =>
      obtain ⟨v, rfl, rd⟩ := r1.one
      have h1' : (match lstOf S1 x with
        | some xs => Q0 (numL xs) (fun S' => lstOf S' x = some xs) S1
        | none => False) := h1
      split at h1'
      · rename_i xs e
        obtain ⟨a, ws, rfl, hv, rr⟩ := lst_of s1 rd e
        exact ⟨a, ws, rfl, hv, hq _ _ _ _ _ h1' s1 a1 (jok_enum (stay_lst rd))⟩
      · exact h1'.elim⟩
end
structure FnD where
  np : Nat
  nl : Nat
  body : (Nat → DF) → DSt
def runF (f : FnD) (c : Nat → DF) : DF := fun ds S Q => ds.length = f.np ∧ f.body c { nx := fun _ S' => Q .non S', rt := Q, bk := fun _ _ => False, ct := fun _ _ => False } (ds.map some ++ List.replicate (f.nl - f.np) none) S
def sem (fs : Nat → FnD) : Nat → Nat → DF
  | 0, _ => fun _ _ _ => False
  | n + 1, i => runF (fs i) (sem fs n)
theorem sem_len {fs : Nat → FnD} {n i : Nat} (ds : List D) (S : DS) (Q : DK) (h : sem fs n i ds S Q) : ds.length = (fs i).np := by
  cases n with
  | zero => exact h.elim
  | succ n => exact h.1
section
variable {P : Program} {w : World} {K : PySem.W.Frag} {mg : Str → Option Value} {base : Heap}
theorem FnOk.zero {f : Addr} {fd : FuncData} {ps : List Str} {fs : Nat → FnD} {i : Nat} {tbl : Tbl} (hn : ps.length = (fs i).np) : FnOk P w K mg base CX0 (4 * 0) f fd ps (liftF ⟨K, w, tbl⟩ (fs i).np (sem fs 0 i)) :=
  ⟨fun vs H Q E h => by rw [h.1, hn], fun A outer s H args us vs Q E hr e0 hb hv hsp => by obtain ⟨_, _, _, _, _, _, h, _⟩ := hsp; exact h.elim⟩
theorem rst_start {K : FW} {H : Hp} {N : List Str} {ds : List D} {vs : List V} (r : RvL K H ds vs) {m : Nat} (hm : m = N.length - vs.length) : Rst K H (ds.map some ++ List.replicate m none) (L2.start N vs) := by
  subst hm
  unfold L2.start
  refine ⟨by simp [r.length], fun i d h => ?_⟩
  by_cases hi : i < ds.length
  · rw [List.getElem?_append_left (by simpa using hi), List.getElem?_map] at h
    obtain ⟨x, h1, h2⟩ := Option.map_eq_some_iff.mp h
    cases h2
    obtain ⟨v, h3, h4⟩ := r.get h1
    have hv : i < vs.length := by rw [← r.length]; exact hi
    exact ⟨v, by rw [List.getElem?_append_left (by simpa using hv), List.getElem?_map, h3]; rfl, h4⟩
  · rw [List.getElem?_append_right (by simpa using hi), List.getElem?_replicate] at h
    split at h <;> cases h
/-- one def: its body's walk at every context -/
theorem fn_ok {x qual : Str} {st : Stmt} {f : Addr} {fd : FuncData} {N ps : List Str} {n : Nat} {fs : Nat → FnD} {i : Nat} {tbl : Tbl} (F : Fun K x qual st f fd) (Sc : FnScope N ps (defScope st)) (hn : ps.length = (fs i).np) (hl : N.length = (fs i).nl)
    (hbody : ∀ (cdv : Value) (A : Around) (outer : List Env) (s : Shared) (H : Hp) (E : XK), Room (4 * n + 3) (A.deeper (envOfC qual (defScope st) s.heap.objs.size f cdv)) →
      PSs (cxOf CX0 P w K mg base N qual (defScope st) f cdv A outer s H E).nox (defBody st) (liftS ⟨K, w, tbl⟩ ((fs i).body (sem fs n)))) :
    FnOk P w K mg base CX0 (4 * (n + 1)) f fd ps (liftF ⟨K, w, tbl⟩ (fs i).np (sem fs (n + 1) i)) := by
  refine F.ok (k := 4 * n + 3) Sc (fun vs H Q E h => by rw [h.1, hn]) (fun cdv A outer s H vs Q E hr h => ?_)
  obtain ⟨hlen, ds, S, Q0, rv, hs, hc, hq⟩ := h
  refine ⟨_, hbody cdv A outer s H E hr, ?_⟩
  refine ⟨_, S, _, rst_start rv (m := (fs i).nl - (fs i).np) (by rw [hl, hlen]), hs, hc.2, ⟨fun δ S' σ H' h r x a => hq _ _ _ _ h .non x a, fun d S' v H' h r x a => hq _ _ _ _ h r x a, fun _ _ _ _ h => h.elim, fun _ _ _ _ h => h.elim⟩⟩
end
end DL
namespace DL
open PySem PySem.Spec PyProof.Rows L2 LamX
section
variable {X : Cx} {tbl : Tbl} {a b c : Expr} {ta tb tc : DE} {pos : Pos}
theorem qe_chain {op op' : CmpOp} {r r' : DR2} (ho : OpR X (compareOp op) (liftO (xfw X tbl) r)) (ho' : OpR X (compareOp op') (liftO (xfw X tbl) r')) (ha : PE X a (liftE (xfw X tbl) ta)) (hb : PE X b (liftE (xfw X tbl) tb)) (hc : PE X c (liftE (xfw X tbl) tc))
    (hm : lastMarks [op, op'] [b, c] = false := by with_unfolding_all rfl) : PE X (.Compare a [op, op'] [b, c] pos) (liftE (xfw X tbl) (dChain r r' ta tb tc)) := PE.imp (pe_chain ho ho' ha hb hc hm) lift_chain
theorem qt_chain {op op' : CmpOp} {r r' : DR2} (ho : OpR X (compareOp op) (liftO (xfw X tbl) r)) (ho' : OpR X (compareOp op') (liftO (xfw X tbl) r')) (ha : PE X a (liftE (xfw X tbl) ta)) (hb : PE X b (liftE (xfw X tbl) tb)) (hc : PE X c (liftE (xfw X tbl) tc))
    (hm : lastMarks [op, op'] [b, c] = false := by with_unfolding_all rfl) : PT X (.Compare a [op, op'] [b, c] pos) (liftT (xfw X tbl) (dTb (dChain r r' ta tb tc))) :=
  PT.imp (pt_chain ho ho' ha hb hc hm) fun σ H Q ⟨δ, S, Q0, hr, hs, h, hq⟩ => lift_chain σ H _ ⟨δ, S, _, hr, hs, h, fun d S' v H' q r s a => by
    cases d with
    | bl k => cases r; exact ⟨k, rfl, hq k S' H' q s a⟩
    | _ => exact q.elim⟩
def dPar (i j : Nat) (t : DA) : DSt := fun D δ S => t δ S fun ds S1 => match ds with
  | [d, e] => D.nx ((δ.set i (some d)).set j (some e)) S1
  | _ => False
theorem qs_par {i j : Nat} {x y : Str} {a b : Expr} {t : DA} {px py pt : Pos} {kt k2 pt2} (hc : X.calm = true) (hN : X.N.Nodup) (hi : X.N[i]? = some x) (hj : X.N[j]? = some y) (hij : i ≠ j)
    (hx : X.env.scope.names.lookup x = some .local) (hy : X.env.scope.names.lookup y = some .local) (ha : PA X [a, b] (liftA (xfw X tbl) t))
    (hw : swappedStores [.Tuple [.Name x px, .Name y py] kt pt] (.Tuple [a, b] k2 pt2) X.env = pure (some [x, y]))
    (hs : swapsWithSole [.Tuple [.Name x px, .Name y py] kt pt] (.Tuple [a, b] k2 pt2) pos.line X.env = pure false := by rfl) :
    PS X (.Assign [.Tuple [.Name x px, .Name y py] kt pt] (.Tuple [a, b] k2 pt2) pos) (liftS (xfw X tbl) (dPar i j t)) :=
  PS.imp (ps_par hc hN hi hj hij hx hy ha hw hs) fun E σ H ⟨δ, S, D0, hr, hsim, h, cv⟩ => ⟨δ, S, _, hr, hsim, h, fun ds S1 vs H1 h1 r1 s1 a1 => by
    match ds, h1, r1 with
    | [d, e], h1, r1 =>
      obtain ⟨v, w, rfl, rd, re⟩ := r1.two
      exact ⟨v, w, rfl, cv.nx _ S1 _ H1 h1 (((hr.stp a1).set rd).set re) s1 a1⟩⟩
/-- a constant of the module -/
def GlobD (K : PySem.W.Frag) (mg : Str → Option Value) (x : Str) (d : D) : Prop := ∃ u v, mg x = some u ∧ RelV v u ∧ ∀ w tbl H, Rv ⟨K, w, tbl⟩ H d v
theorem qe_glob {x : Str} {d : D} (g : GlobD X.K X.mg x d) (hg : Gl X x) (hd : (x == ("__debug__" : Str)) = false := by decide) : PE X (.Name x pos) (liftE (xfw X tbl) (dC d)) := by
  obtain ⟨u, v, h1, h2, h3⟩ := g
  exact qe_const (pe_glob hg h1 h2 hd) (h3 _ _)
theorem qe_ty {x : Str} {n : String} (hg : Gl X x) (hm : X.mg x = none) (hv : bootBuiltins x = some (.type n)) (hn : x ≠ "__name__" := by decide) (hd : (x == ("__debug__" : Str)) = false := by decide) : PE X (.Name x pos) (liftE (xfw X tbl) (dC (.ty n))) :=
  qe_const (pe_bltn (v := .ty n) hg hm hv rfl hn hd) fun _ => .ty n
theorem hu100 {k : Nat} {A : Around} (h : Room k A) : A.units + 100 < cLine := by have := h.un; omega
theorem okb {N : List Str} {sc scope : Scope} {own : List (Str × Nat)} (h : blkC N sc scope own = true) : blkC N sc scope own = true := h
end
section
/-- a call's room -/
theorem rm4 {n : Nat} {A : Around} (h : Room (4 * n + 3) A) : Room (4 * n) A := h.mono (by omega)
/-- .. from within a built-in that was called -/
theorem rm4i {n : Nat} {A : Around} (h : Room (4 * n + 3) A) : Room (4 * n + 2) A.in1 ∧ Room (4 * n + 1) A.in1.in1 := ⟨Room.in1 h, (show Room (4 * n + 1 + 1) A.in1 from Room.in1 h).in1⟩
end
end DL
namespace DL
open PySem PySem.Spec PyProof.Rows L2 LamX
section
variable {prog : Program} {w : World} {A : Around} {E : Value → Shared → Prop} {s : Shared}
theorem places_rev (n : Nat) : Builtin.Slice.slicePlaces ((n : Int) - 1) (-1) (-1) = n := by
  unfold Builtin.Slice.slicePlaces
  rw [if_neg (by decide)]
  by_cases h : (n : Int) - 1 > -1
  · rw [if_pos h, show -(-1 : Int) = 1 by decide, Int.ediv_one]; omega
  · rw [if_neg h]; omega
theorem sliceApplied_rev {sl : Addr} {vs : Value} {n : Nat} {Q : Int × Int × Nat → Shared → Prop} (hs : s.heap.IsSliceOf sl .none .none vs) (ps : IsPart vs (some (-1)))
    (h : Q ((n : Int) - 1, -1, n) s) : wpAny (model prog w) A (Builtin.Slice.sliceApplied (.ref sl) (pure (n : Int))) Q E s := by
  obtain ⟨os, hos, hcs, hds⟩ := id hs
  unfold Builtin.Slice.sliceApplied Builtin.Slice.sliceFields
  refine wpAny_bind (wpAny_bind (wpAny_field hos hds (x := .none) rfl (wpAny_bind (wpAny_field hos hds (x := .none) rfl (wpAny_bind (wpAny_field hos hds (x := vs) rfl (wpAny_pure ?_)))))))
  refine wpAny_bind (HT.slicePart_ ps ?_)
  show wpAny _ _ (if ((-1 : Int) == 0) = true then _ else _) _ _ s
  rw [if_neg (by decide)]
  refine wpAny_bind (slicePart_none (wpAny_bind (slicePart_none (wpAny_bind (wpAny_pure ?_)))))
  show wpAny _ _ (pure ((n : Int) - 1, (-1 : Int), Builtin.Slice.slicePlaces ((n : Int) - 1) (-1) (-1))) _ _ s
  rw [places_rev]
  exact wpAny_pure h
theorem pick_rev (xs : Array Value) : ((List.range xs.size).filterMap fun (m : Nat) => xs[((xs.size : Int) - 1 + (m : Int) * -1).toNat]?).toArray = xs.toList.reverse.toArray := by
  congr 1
  apply List.ext_getElem?
  intro i
  have e : ∀ m ∈ List.range xs.size, xs[((xs.size : Int) - 1 + (m : Int) * -1).toNat]? = some (xs.getD (xs.size - 1 - m) .none) := by
    intro m hm
    rw [List.mem_range] at hm
    rw [show ((xs.size : Int) - 1 + (m : Int) * -1).toNat = xs.size - 1 - m by omega]
    rw [Array.getElem?_eq_getElem (by omega)]
    simp [Array.getD, show xs.size - 1 - m < xs.size by omega]
  have e2 : (List.range xs.size).filterMap (fun (m : Nat) => xs[((xs.size : Int) - 1 + (m : Int) * -1).toNat]?) = (List.range xs.size).map fun m => xs.getD (xs.size - 1 - m) .none := by
    rw [← List.filterMap_eq_map]
    generalize List.range xs.size = l at e
    induction l with
    | nil => rfl
    | cons a r ih => simp only [List.filterMap_cons, e a (List.mem_cons_self ..), ih fun m hm => e m (List.mem_cons_of_mem _ hm), Function.comp]
  rw [e2, List.getElem?_map]
  by_cases h : i < xs.size
  · rw [List.getElem?_range h, List.getElem?_reverse (by rw [Array.length_toList]; exact h), Array.length_toList, Array.getElem?_toList, Array.getElem?_eq_getElem (by omega)]
    simp [Array.getD, show xs.size - 1 - i < xs.size by omega]
  · rw [List.getElem?_eq_none (by rw [List.length_range]; omega), List.getElem?_eq_none (by rw [List.length_reverse, Array.length_toList]; omega)]; rfl
theorem getItem_tuple_rev {t sl : Addr} {items : Array Value} {vs : Value} {Q : Value → Shared → Prop} (ht : IsTup s.heap t items) (hs : s.heap.IsSliceOf sl .none .none vs) (ps : IsPart vs (some (-1)))
    (h : Q (.ref s.heap.objs.size) { s with heap := s.heap.push { cls := .type "tuple", data := .seq items.toList.reverse.toArray } })
    (hsz : items.size ≤ sizeLine) : wpAny (model prog w) A (getItem (.ref t) (.ref sl)) Q E s := by
  have htake : sizeOk (.seq items.toList.reverse.toArray) := by
    show items.toList.reverse.toArray.size ≤ sizeLine
    rw [List.size_toArray, List.length_reverse, Array.length_toList]
    omega
  obtain ⟨os, hos, hcs, hds⟩ := id hs
  have hTs : s.TypeIs (.ref sl) "slice" := ⟨os, hos, hcs⟩
  unfold getItem
  try with_reducible refine wpAny_holding ?_
  first | refine wpAny_bind (wpAny_pure ?_) | skip
  refine wpAny_bind (wpAny_sequenceKey ht.typeIs (by decide) ?_)
  refine wpAny_bind (wpAny_callSpecial?_slot (name := Str.ofString "__getitem__") ht.typeIs PyProof.Rows.slot_tuple_getitem
    (wpAny_call_entry PyProof.Rows.slot_tuple_getitem ht.typeIs entry_tuple_getitem ?_ (args_tuple_getitem _ _)))
  show wpAny _ _ (Builtin.Tuple.tupleItemsOf (.ref t) >>= _) _ _ s
  refine wpAny_bind (tupleItemsOf_ ht ?_)
  refine wpAny_bind (wpAny_typeOf hTs ?_)
  rw [if_pos (by decide)]
  refine wpAny_bind (sliceApplied_rev (n := items.size) hs ps ?_)
  have hno : ¬ (((((items.size : Nat) : Int) - 1) == 0 && (-1 : Int) == 1 && items.size == items.size) = true) := by
    rw [show ((-1 : Int) == 1) = false by decide, Bool.and_false, Bool.false_and]; exact Bool.false_ne_true
  show wpAny _ _ (if ((((items.size : Nat) : Int) - 1) == 0 && (-1 : Int) == 1 && items.size == items.size) = true then _ else _) _ _ s
  rw [if_neg hno, pick_rev]
  first
    | exact wpAny_bind (m := Builtin.Tuple.tupleExact _) (wpAny_newObj_type (wpAny_pure ⟨_, rfl, wpAny_pure h⟩) htake)
    | exact wpAny_bind (m := Builtin.Tuple.tupleExact _) (wpAny_newObj_type (wpAny_bind (wpAny_pure (wpAny_pure ⟨_, rfl, wpAny_pure h⟩))) htake)
    | exact wpAny_bind (wpAny_bind (m := Builtin.Tuple.tupleExact _) (wpAny_newObj_type (wpAny_pure (wpAny_pure ⟨_, rfl, wpAny_pure h⟩)) htake))
    | exact wpAny_bind (wpAny_bind (m := Builtin.Tuple.tupleExact _) (wpAny_newObj_type (wpAny_pure ⟨_, rfl, wpAny_pure h⟩) htake))
end
section
variable {X : Cx} {tbl : Tbl} {e : Expr} {te : DE}
/-- x[::-1] of a list or a tuple -/
def dRvS (te : DE) : DE := fun δ S Q => te δ S fun x S1 => match x with
  | .tup xs => Q (.tup xs.reverse) S1
  | x => match lstOf S1 x with
    | some xs => ∀ p, S1 p = none → Q (.ref p) (dupd S1 p (.lst xs.reverse))
    | none => False
def tRevA (K : FW) (te : TE) : TE := fun σ H Q => te σ H fun x H1 => ∃ a xs, x = .ref a ∧ ((SqL K H1 a xs ∧ ∀ p, H1 p = none → Q (.ref p) (upd H1 p (.lst xs.reverse))) ∨ (SqT K H1 a xs ∧ ∀ p, H1 p = none → Q (.ref p) (upd H1 p (.tup xs.reverse))))
theorem pe_revA {te : TE} {k : Nat} {p1 p2 p3 pos : Pos} (he : PE X e te) : PE X (.Subscript e (.Slice none none (some (.UnaryOp .USub (.Constant (.int 1) k p1) p2)) p3) pos) (tRevA (xfw X tbl) te) := by
  refine ⟨fun pins s σ H Q I h => ?_⟩
  refine Subscript_ (thn (he.run pins s σ H _ I h) fun v s1 ⟨x, H1, I1, r1, q1⟩ => ?_)
  obtain ⟨a, xs, ex, hx⟩ := q1
  subst ex
  cases r1
  have hst : PO X (some (.UnaryOp .USub (.Constant (.int 1) k p1) p2)) (tPart (tUn (rU fun i => .int (-i)) (tC (.int 1)))) := po_some (pe_un un_neg pe_int)
  refine wpAny_Slice (thn (po_none.run pins s1 σ H1 (fun o H2 => o = none ∧ H2 = H1) I1 ⟨rfl, rfl⟩) fun vl s2 ⟨l, H2, I2, pl, el, e2⟩ => ?_)
  subst el e2
  refine thn (po_none.run pins s2 σ H2 (fun o H3 => o = none ∧ H3 = H2) I2 ⟨rfl, rfl⟩) fun vu s3 ⟨u, H3, I3, pu, eu, e3⟩ => ?_
  subst eu e3
  refine thn (hst.run pins s3 σ H3 (fun o H4 => o = some (-1) ∧ H4 = H3) I3 ⟨1, rfl, -1, rfl, rfl, rfl⟩) fun vs s4 ⟨o, H4, I4, ps, eo, e4⟩ => ?_
  subst eo e4
  have I5 : Inv X pins σ H4 { s4 with heap := s4.heap.push { cls := .type "slice", data := .fields #[vl, vu, vs] } } := I4.kept (t' := s4.toks) fun b ob q => Heap.get?_push_of_some _ q
  rcases hx with ⟨hx, q⟩ | ⟨hx, q⟩
  · obtain ⟨its, r, ht, hz⟩ := I5.list hx
    have hlen := r.length
    show wpAny (model X.prog X.w) X.A (subscriptTail e (.Slice none none (some (.UnaryOp .USub (.Constant (.int 1) k p1) p2)) p3) (.ref a) (.ref s4.heap.objs.size)) (EP X pins σ Q) X.xe { s4 with heap := s4.heap.push { cls := .type "slice", data := .fields #[vl, vu, vs] } }
    refine tail_any (ops := [.ref a, .ref s4.heap.objs.size]) ht.isList.typeIs (PySem.slot_list_getitem.lookup) ?_ (by with_unfolding_all rfl)
    refine wpAny_getItem_list_slice ht.isList (Heap.IsSliceOf.new _ vl vu vs) pl pu ps (by decide) ?_ (by rw [List.size_toArray]; omega)
    rw [PySem.W.krv_pick]
    refine ⟨.ref _, _, I5.laid (t' := s4.toks) (o := .lst xs.reverse) (fun b ob q => Heap.get?_push_of_some _ q) (Nat.le_refl _) ?_, rfl, q _ (I5.hok.fresh (Nat.le_refl _))⟩
    exact ⟨by rw [List.length_reverse]; exact hz, _, 0, r.reverse, Heap.get?_push_size _ rfl⟩
  · obtain ⟨its, r, ht, hz⟩ := I5.tuple hx
    have hlen := r.length
    show wpAny (model X.prog X.w) X.A (subscriptTail e (.Slice none none (some (.UnaryOp .USub (.Constant (.int 1) k p1) p2)) p3) (.ref a) (.ref s4.heap.objs.size)) (EP X pins σ Q) X.xe { s4 with heap := s4.heap.push { cls := .type "slice", data := .fields #[vl, vu, vs] } }
    refine tail_any (ops := [.ref a, .ref s4.heap.objs.size]) ht.typeIs (PyProof.Rows.slot_tuple_getitem.lookup) ?_ (by with_unfolding_all rfl)
    cases pl
    cases pu
    refine getItem_tuple_rev ht (Heap.IsSliceOf.new _ .none .none vs) ps ?_ (by rw [List.size_toArray]; omega)
    refine ⟨.ref _, _, I5.laid (t' := s4.toks) (o := .tup xs.reverse) (fun b ob q => Heap.get?_push_of_some _ q) (Nat.le_refl _) ?_, rfl, q _ (I5.hok.fresh (Nat.le_refl _))⟩
    exact ⟨by rw [List.length_reverse]; exact hz, _, r.reverse, IsTup.new _ _⟩
theorem qe_revS {k : Nat} {p1 p2 p3 pos : Pos} (he : PE X e (liftE (xfw X tbl) te)) : PE X (.Subscript e (.Slice none none (some (.UnaryOp .USub (.Constant (.int 1) k p1) p2)) p3) pos) (liftE (xfw X tbl) (dRvS te)) :=
  PE.imp (pe_revA he) fun σ H Q ⟨δ, S, Q0, hr, hs, h, hq⟩ => ⟨δ, S, _, hr, hs, h, fun x S1 v H1 h1 r1 s1 a1 => by
    have lst : ∀ xs, lstOf S1 x = some xs → (∀ p, S1 p = none → Q0 (.ref p) (dupd S1 p (.lst xs.reverse))) → ∃ a ys, v = .ref a ∧ ((SqL X.K H1 a ys ∧ ∀ p, H1 p = none → Q (.ref p) (upd H1 p (.lst ys.reverse))) ∨ (SqT X.K H1 a ys ∧ ∀ p, H1 p = none → Q (.ref p) (upd H1 p (.tup ys.reverse)))) := fun xs e h => by
      obtain ⟨a, vs, rfl, hv, r⟩ := lst_of s1 r1 e
      exact ⟨a, vs, rfl, .inl ⟨hv, fun p hp => hq _ _ _ _ (h p (s1.fresh hp)) (.ref p) (s1.new hp ⟨_, upd_same, (Stp.laid (S := S1) hp).rvl r.reverse⟩) (a1.trans (Stp.new hp))⟩⟩
    cases x with
    | tup xs =>
      cases r1 with
      | @tup a vs _ q r => exact ⟨a, vs, rfl, .inr ⟨q, fun p hp => hq _ _ _ _ h1 (.tup (.inl (.inl upd_same)) ((Stp.laid (S := S1) hp).rvl r.reverse)) (s1.laid hp) (a1.trans (Stp.laid hp))⟩⟩
    | ref a =>
      have h1' : (match lstOf S1 (.ref a) with
        | some xs => ∀ p, S1 p = none → Q0 (.ref p) (dupd S1 p (.lst xs.reverse))
        | none => False) := h1
      split at h1'
      · rename_i xs e; exact lst xs e h1'
      · exact h1'.elim
    | fl xs => exact lst xs rfl h1
    | _ => exact h1.elim⟩
end
def isMax (ns : List Int) (m : Int) : Prop := m ∈ ns ∧ ∀ y ∈ ns, y ≤ m
def isMin (ns : List Int) (m : Int) : Prop := m ∈ ns ∧ ∀ y ∈ ns, m ≤ y
def bMax1 : DRs := fun ds S Q => match ds with
  | [d] => match lstOf S d with
    | some xs => ∃ ns : List Int, xs = ns.map D.int ∧ ns ≠ [] ∧ ∀ m, isMax ns m → Q (.int m) S
    | none => False
  | _ => False
def bMin1 : DRs := fun ds S Q => match ds with
  | [d] => match lstOf S d with
    | some xs => ∃ ns : List Int, xs = ns.map D.int ∧ ns ≠ [] ∧ ∀ m, isMin ns m → Q (.int m) S
    | none => False
  | _ => False
section
variable {X : Cx} {tbl : Tbl}
theorem dcall_max1 (hc : X.calm = true) : CallR X (.builtin "max") (liftC (xfw X tbl) bMax1) := dl_call fun pins s σ H ds xs us S Q Q0 I ru rv hs hr hq => by
  match ds, hr, rv with
  | [d], hr, rv =>
    obtain ⟨v, rfl, rd⟩ := rv.one
    have hr' : (match lstOf S d with
      | some xs => ∃ ns : List Int, xs = ns.map D.int ∧ ns ≠ [] ∧ ∀ m, isMax ns m → Q0 (.int m) S
      | none => False) := hr
    split at hr'
    · rename_i zs e
      obtain ⟨ns, rfl, hn, q⟩ := hr'
      obtain ⟨a, ws, rfl, hv, r⟩ := lst_of hs rd e
      exact cr_max hc pins s σ H _ us Q I ru ⟨a, ns, rfl, by rw [← rvl_ints r]; exact hv, List.length_pos_iff.mpr hn, fun m h1 h2 => hq _ _ _ _ (q m ⟨h1, h2⟩) (.int _) hs (.refl _ _)⟩
    · exact hr'.elim
theorem dcall_min1 (hc : X.calm = true) : CallR X (.builtin "min") (liftC (xfw X tbl) bMin1) := dl_call fun pins s σ H ds xs us S Q Q0 I ru rv hs hr hq => by
  match ds, hr, rv with
  | [d], hr, rv =>
    obtain ⟨v, rfl, rd⟩ := rv.one
    have hr' : (match lstOf S d with
      | some xs => ∃ ns : List Int, xs = ns.map D.int ∧ ns ≠ [] ∧ ∀ m, isMin ns m → Q0 (.int m) S
      | none => False) := hr
    split at hr'
    · rename_i zs e
      obtain ⟨ns, rfl, hn, q⟩ := hr'
      obtain ⟨a, ws, rfl, hv, r⟩ := lst_of hs rd e
      exact cr_min hc pins s σ H _ us Q I ru ⟨a, ns, rfl, by rw [← rvl_ints r]; exact hv, List.length_pos_iff.mpr hn, fun m h1 h2 => hq _ _ _ _ (q m ⟨h1, h2⟩) (.int _) hs (.refl _ _)⟩
    · exact hr'.elim
def fInsert : List D → List D → Option (D × List D) := fun xs ds => match ds with
  | [.int i, y] => if 0 ≤ i ∧ i < 2 ^ 63 then some (.non, xs.take i.toNat ++ [y] ++ xs.drop i.toNat) else none
  | _ => none
theorem dmt_insert : MtR X "list.insert" (liftM (xfw X tbl) (mLst fInsert)) := dl_m fun pins s σ H d ds x xs v us S Q Q0 I rx ru rd rds hs hr hq => by
  obtain ⟨a, zs, r, ys, rfl, ea, ef, hl, q⟩ := mLst_get hr
  match ds, ef, rds with
  | [.int i, y], ef, rds =>
    have ef' : (if 0 ≤ i ∧ i < 2 ^ 63 then some (D.non, zs.take i.toNat ++ [y] ++ zs.drop i.toNat) else none) = some (r, ys) := ef
    split at ef'
    · rename_i hi
      cases ef'
      cases rd
      obtain ⟨w1, w2, rfl, r1, r2⟩ := rds.two
      cases r1
      obtain ⟨vs, h1, rr⟩ := hs.lst ea
      have hlen : zs.length < sizeLine := by
        rw [szl]
        simp only [List.length_append, List.length_take, List.length_drop, List.length_singleton] at hl
        omega
      refine mt_insert pins s σ H _ _ v us Q I rx ru ⟨a, vs, i, w2, rfl, rfl, h1, by rw [← rr.length]; exact hlen, hi.1, hi.2, hq _ _ _ _ q .non (hs.write ea ⟨_, upd_same, ?_⟩) (Stp.write hs ea)⟩
      exact (((rr.take _).append (.cons r2 .nil)).append (rr.drop _)).updL h1
    · cases ef'
abbrev DRg := Loc → DS → (Int → Int → DS → Prop) → Prop
def dRg1 (ta : DE) : DRg := fun δ S Q => ta δ S fun x S1 => match x with
  | .int j => Q 0 j S1
  | _ => False
def dRg2 (ta tb : DE) : DRg := fun δ S Q => ta δ S fun x S1 => tb δ S1 fun y S2 => match x, y with
  | .int i, .int j => Q i j S2
  | _, _ => False
def liftRg (K : FW) (t : DRg) : L2.St → Hp → (Int → Int → Hp → Prop) → Prop := fun σ H Q => ∃ δ S Q0, Rst K H δ σ ∧ Sim K S H ∧ t δ S Q0 ∧ ∀ i j S' H', Q0 i j S' → Sim K S' H' → Stp S H S' H' → Q i j H'
theorem PRg.imp {e : Expr} {t t' : L2.St → Hp → (Int → Int → Hp → Prop) → Prop} (p : PRg X e t) (h : ∀ σ H Q, t' σ H Q → t σ H Q) : PRg X e t' := fun pins s σ H Q I hw => p pins s σ H Q I (h _ _ _ hw)
theorem qr_1 {a : Expr} {ta : DE} {p pos : Pos} (hg : Gl X "range") (hm : X.mg "range" = none) (ha : PE X a (liftE (xfw X tbl) ta)) (na : starEach [a] X.env = (false, eval a X.env) :: starEach [] X.env := by rfl) : PRg X (.Call (.Name "range" p) [a] [] pos) (liftRg (xfw X tbl) (dRg1 ta)) :=
  PRg.imp (prg_1 hg hm ha na) fun σ H Q ⟨δ, S, Q0, hr, hs, h, hq⟩ => ⟨δ, S, _, hr, hs, h, fun d S1 v H1 q r s1 a1 => by
    cases d with
    | int j => cases r; exact ⟨j, rfl, hq _ _ _ _ q s1 a1⟩
    | _ => exact q.elim⟩
theorem qr_2 {a b : Expr} {ta tb : DE} {p pos : Pos} (hg : Gl X "range") (hm : X.mg "range" = none) (ha : PE X a (liftE (xfw X tbl) ta)) (hb : PE X b (liftE (xfw X tbl) tb)) (na : starEach [a, b] X.env = (false, eval a X.env) :: starEach [b] X.env := by rfl)
    (nb : starEach [b] X.env = (false, eval b X.env) :: starEach [] X.env := by rfl) (hp : (backTo pos (starEach [b] X.env)).any (·.1) = false := by rfl) : PRg X (.Call (.Name "range" p) [a, b] [] pos) (liftRg (xfw X tbl) (dRg2 ta tb)) :=
  PRg.imp (prg_2 hg hm ha hb na nb hp) fun σ H Q ⟨δ, S, Q0, hr, hs, h, hq⟩ => ⟨δ, S, _, hr, hs, h, fun d S1 v H1 q r s1 a1 => ⟨δ, S1, _, hr.stp a1, s1, q, fun e S2 u H2 q2 r2 s2 a2 => by
    cases d with
    | int i =>
      cases r
      cases e with
      | int j => cases r2; exact ⟨i, j, rfl, rfl, hq _ _ _ _ q2 s2 (a1.trans a2)⟩
      | _ => exact q2.elim
    | _ => cases e <;> exact q2.elim⟩⟩
theorem rvl_rg {K : FW} {H : Hp} {a b : Int} : RvL K H (rngL a (b - a).toNat) (rgV a b) := by
  unfold rngL rgV
  generalize List.range (b - a).toNat = l
  induction l with
  | nil => exact .nil
  | cons x r ih => exact .cons (.int _) ih
def dLstRg (t : DRg) : DE := fun δ S Q => t δ S fun a b S1 => RgOk a b ∧ ∀ p, S1 p = none → Q (.ref p) (dupd S1 p (.lst (rngL a (b - a).toNat)))
def dTupRg (t : DRg) : DE := fun δ S Q => t δ S fun a b S1 => RgOk a b ∧ Q (.tup (rngL a (b - a).toNat)) S1
theorem qe_listRg {e : Expr} {t : DRg} {p pos : Pos} (hc : X.calm = true) (hg : Gl X "list") (hm : X.mg "list" = none) (he : PRg X e (liftRg (xfw X tbl) t)) (na : starEach [e] X.env = (false, eval e X.env) :: starEach [] X.env := by rfl) : PE X (.Call (.Name "list" p) [e] [] pos) (liftE (xfw X tbl) (dLstRg t)) :=
  PE.imp (pe_listRg hc hg hm he na) fun σ H Q ⟨δ, S, Q0, hr, hs, h, hq⟩ => ⟨δ, S, _, hr, hs, h, fun a b S1 H1 q s1 a1 => ⟨q.1, fun p hp => hq _ _ _ _ (q.2 p (s1.fresh hp)) (.ref p) (s1.new hp ⟨_, upd_same, rvl_rg⟩) (a1.trans (Stp.new hp))⟩⟩
theorem qe_tupRg {e : Expr} {t : DRg} {p pos : Pos} (hc : X.calm = true) (hg : Gl X "tuple") (hm : X.mg "tuple" = none) (he : PRg X e (liftRg (xfw X tbl) t)) (na : starEach [e] X.env = (false, eval e X.env) :: starEach [] X.env := by rfl) : PE X (.Call (.Name "tuple" p) [e] [] pos) (liftE (xfw X tbl) (dTupRg t)) :=
  PE.imp (pe_tupRg hc hg hm he na) fun σ H Q ⟨δ, S, Q0, hr, hs, h, hq⟩ => ⟨δ, S, _, hr, hs, h, fun a b S1 H1 q s1 a1 => ⟨q.1, fun p hp => hq _ _ _ _ q.2 (.tup (.inl (.inl upd_same)) rvl_rg) (s1.laid hp) (a1.trans (Stp.laid hp))⟩⟩
/-- ints with a step -/
def rngC (lo c : Int) (n : Nat) : List D := (List.range n).map fun i => D.int (lo + (i : Nat) * c)
theorem jok_rngC {K : FW} {H0 : Hp} {lo c : Int} {n : Nat} {stay : DS → Prop} : JOk K H0 (rngC lo c n) stay (Itc lo c n) := by
  intro i S H p hs st
  refine ⟨fun hi => by rw [rngC, List.length_map, List.length_range] at hi; exact hi, fun d hd => ?_⟩
  rw [rngC, List.getElem?_map] at hd
  obtain ⟨z, h1, h2⟩ := Option.map_eq_some_iff.mp hd
  subst h2
  obtain ⟨h3, h4⟩ := List.getElem?_eq_some_iff.mp h1
  rw [List.length_range] at h3
  rw [List.getElem_range] at h4
  subst h4
  refine ⟨h3, fun x H' ⟨e, e3⟩ => ?_⟩
  subst e e3
  exact ⟨.int _, hs, .refl _ _⟩
def dRevR (t : DRg) : DI := fun δ S Q => t δ S fun a b S1 => (-(2 ^ 62) ≤ a ∧ a < 2 ^ 62 ∧ -(2 ^ 62) ≤ b ∧ b < 2 ^ 62) ∧ Q (rngC (a + (((b - a).toNat : Nat) : Int) - 1) (-1) (b - a).toNat) (fun _ => True) S1
theorem qi_revR {tg e : Expr} {t : DRg} {p pos : Pos} (hg : Gl X "reversed") (hm : X.mg "reversed" = none) (he : PRg X e (liftRg (xfw X tbl) t)) (hs : starEach [e] X.env = (false, eval e X.env) :: starEach [] X.env := by rfl) : PI X tg (.Call (.Name "reversed" p) [e] [] pos) (liftI (xfw X tbl) (dRevR t)) :=
  PI.imp (pi_revR hg hm he hs) fun σ H R ⟨δ, S, Q0, hr, hs, h, hq⟩ => ⟨δ, S, _, hr, hs, h, fun a b S1 H1 q s1 a1 => ⟨q.1.1, q.1.2.1, q.1.2.2.1, q.1.2.2.2, hq _ _ _ _ _ q.2 s1 a1 jok_rngC⟩⟩
def dRng3 (t : DA) : DI := fun δ S Q => t δ S fun ds S1 => match ds with
  | [.int i, .int j, .int c] => ∃ n, RgC i j c n ∧ Q (rngC i c n) (fun _ => True) S1
  | _ => False
theorem RvL.three {K : FW} {H : Hp} {d e f : D} {vs : List V} (r : RvL K H [d, e, f] vs) : ∃ v w x, vs = [v, w, x] ∧ Rv K H d v ∧ Rv K H e w ∧ Rv K H f x := by
  cases r with
  | cons q rr =>
    obtain ⟨v, w, rfl, r1, r2⟩ := rr.two
    exact ⟨_, v, w, rfl, q, r1, r2⟩
theorem qi_range3 {tg a b c : Expr} {t : DA} {p pos : Pos} (hg : Gl X "range") (hm : X.mg "range" = none) (ha : PA X [a, b, c] (liftA (xfw X tbl) t))
    (hs : starEach [a, b, c] X.env = (false, eval a X.env) :: starEach [b, c] X.env := by rfl) (hpl : (backTo pos (starEach [b, c] X.env)).any (·.1) = false := by rfl) : PI X tg (.Call (.Name "range" p) [a, b, c] [] pos) (liftI (xfw X tbl) (dRng3 t)) :=
  PI.imp (pi_range3 hg hm ha hs hpl) fun σ H R ⟨δ, S, Q0, hr, hs, h, hq⟩ => ⟨δ, S, _, hr, hs, h, fun ds S1 vs H1 h1 r1 s1 a1 => by
    match ds, h1, r1 with
    | [.int i, .int j, .int c], h1, r1 =>
      obtain ⟨v, w, x, rfl, rd, re, rf⟩ := r1.three
      cases rd
      cases re
      cases rf
      obtain ⟨n, hn, q⟩ := h1
      exact ⟨i, j, c, n, rfl, hn, hq _ _ _ _ _ q s1 a1 jok_rngC⟩⟩
/-- zip of two lists, of two tuples -/
def dZip (t : DA) : DI := fun δ S Q => t δ S fun ds S1 => match ds with
  | [.tup xs, .tup ys] => Q ((List.zip xs ys).map fun p => D.tup [p.1, p.2]) (fun _ => True) S1
  | [x, y] => match lstOf S1 x, lstOf S1 y with
    | some xs, some ys => Q ((List.zip xs ys).map fun p => D.tup [p.1, p.2]) (fun S' => lstOf S' x = some xs ∧ lstOf S' y = some ys) S1
    | _, _ => False
  | _ => False
theorem zip_get {xs ys : List D} {i : Nat} {d : D} (h : ((List.zip xs ys).map fun p => D.tup [p.1, p.2])[i]? = some d) : ∃ x y, xs[i]? = some x ∧ ys[i]? = some y ∧ d = .tup [x, y] := by
  rw [List.getElem?_map] at h
  obtain ⟨⟨x, y⟩, h1, h2⟩ := Option.map_eq_some_iff.mp h
  rw [List.getElem?_zip_eq_some] at h1
  exact ⟨x, y, h1.1, h1.2, h2.symm⟩
theorem jok_zip {K : FW} {H0 : Hp} {a b : Addr} {xs ys : List D} {stay : DS → Prop} (h : ∀ S H, Prs H0 H → Sim K S H → stay S → (∃ vs, SqL K H a vs ∧ RvL K H xs vs) ∧ ∃ vs, SqL K H b vs ∧ RvL K H ys vs) : JOk K H0 ((List.zip xs ys).map fun p => D.tup [p.1, p.2]) stay (Itz K a b) := by
  intro i S H p hs st
  obtain ⟨⟨vs, h1, r⟩, ⟨ws, h2, r2⟩⟩ := h S H p hs st
  refine ⟨fun hi => ⟨vs, ws, h1, h2, ?_⟩, fun d hd => ?_⟩
  · rw [List.length_map, List.length_zip] at hi
    rw [← r.length, ← r2.length]
    omega
  · obtain ⟨x, y, hx, hy, rfl⟩ := zip_get hd
    obtain ⟨v, k1, k2⟩ := r.get hx
    obtain ⟨u, k3, k4⟩ := r2.get hy
    refine ⟨⟨vs, ws, v, u, h1, h2, k1, k3⟩, fun x' H' ⟨T, v', u', e1, e2, e3, e4, e5⟩ => ?_⟩
    have q1 := e4 vs h1
    rw [k1] at q1
    cases q1
    have q2 := e5 ws h2
    rw [k3] at q2
    cases q2
    subst e1 e3
    exact ⟨.tup (.inl (.inl upd_same)) (.cons ((Stp.laid (S := S) e2).rv k2) (.cons ((Stp.laid (S := S) e2).rv k4) .nil)), hs.laid e2, Stp.laid e2⟩
theorem jok_zipT {K : FW} {H0 : Hp} {a b : Addr} {xs ys : List D} {vs ws : List V} {stay : DS → Prop} (h1 : SqT K H0 a vs) (r : RvL K H0 xs vs) (h2 : SqT K H0 b ws) (r2 : RvL K H0 ys ws) : JOk K H0 ((List.zip xs ys).map fun p => D.tup [p.1, p.2]) stay (RZ.ItzT K a b) := by
  intro i S H p hs st
  refine ⟨fun hi => ⟨vs, ws, p.sqT h1, p.sqT h2, ?_⟩, fun d hd => ?_⟩
  · rw [List.length_map, List.length_zip] at hi
    rw [← r.length, ← r2.length]
    omega
  · obtain ⟨x, y, hx, hy, rfl⟩ := zip_get hd
    obtain ⟨v, k1, k2⟩ := r.get hx
    obtain ⟨u, k3, k4⟩ := r2.get hy
    refine ⟨⟨vs, ws, v, u, p.sqT h1, p.sqT h2, k1, k3⟩, fun x' H' ⟨T, v', u', e1, e2, e3, e4, e5⟩ => ?_⟩
    have q1 := e4 vs (p.sqT h1)
    rw [k1] at q1
    cases q1
    have q2 := e5 ws (p.sqT h2)
    rw [k3] at q2
    cases q2
    subst e1 e3
    exact ⟨.tup (.inl (.inl upd_same)) (.cons ((Stp.laid (S := S) e2).rv (p.rv k2)) (.cons ((Stp.laid (S := S) e2).rv (p.rv k4)) .nil)), hs.laid e2, Stp.laid e2⟩
theorem qi_zip {e e2 : Expr} {t : DA} {p pos tpos : Pos} {elts : List Expr} {kk : Nat} (hg : Gl X "zip") (hm : X.mg "zip" = none) (ha : PA X [e, e2] (liftA (xfw X tbl) t))
    (hs : starEach [e, e2] X.env = (false, eval e X.env) :: starEach [e2] X.env := by rfl) (hpl : (backTo pos (starEach [e2] X.env)).any (·.1) = false := by rfl) :
    PI X (.Tuple elts kk tpos) (.Call (.Name "zip" p) [e, e2] [] pos) (liftI (xfw X tbl) (dZip t)) :=
  PI.imp (RZ.pi_zipA hg hm ha hs hpl) fun σ H R ⟨δ, S, Q0, hr, hs, h, hq⟩ => ⟨δ, S, _, hr, hs, h, fun ds S1 vs H1 h1 r1 s1 a1 => by
    have lists : ∀ x y, ds = [x, y] → (match lstOf S1 x, lstOf S1 y with
        | some xs, some ys => Q0 ((List.zip xs ys).map fun p => D.tup [p.1, p.2]) (fun S' => lstOf S' x = some xs ∧ lstOf S' y = some ys) S1
        | _, _ => False) → ∃ a b xs ys, vs = [.ref a, .ref b] ∧ ((SqL X.K H1 a xs ∧ SqL X.K H1 b ys ∧ R (Itz X.K a b) H1) ∨ (SqT X.K H1 a xs ∧ SqT X.K H1 b ys ∧ R (RZ.ItzT X.K a b) H1)) := by
      rintro x y rfl h1'
      obtain ⟨v, w, rfl, rd, re⟩ := r1.two
      split at h1'
      · rename_i xs ys e1 e2
        obtain ⟨a, zs, rfl, hv, rr⟩ := lst_of s1 rd e1
        obtain ⟨b, us, rfl, hv2, rr2⟩ := lst_of s1 re e2
        exact ⟨a, b, zs, us, rfl, .inl ⟨hv, hv2, hq _ _ _ _ _ h1' s1 a1 (jok_zip fun S H p hs st => ⟨stay_lst rd S H p hs st.1, stay_lst re S H p hs st.2⟩)⟩⟩
      · exact h1'.elim
    match ds, h1, r1, lists with
    | [.tup xs, .tup ys], h1, r1, _ =>
      obtain ⟨v, w, rfl, rd, re⟩ := r1.two
      cases rd with
      | @tup a us _ q rr =>
        cases re with
        | @tup b ws _ q2 rr2 => exact ⟨a, b, us, ws, rfl, .inr ⟨q, q2, hq _ _ _ _ _ h1 s1 a1 (jok_zipT q rr q2 rr2)⟩⟩
    | [.ref x, y], h1, r1, lists => exact lists _ _ rfl h1
    | [.fl x, y], h1, r1, lists => exact lists _ _ rfl h1
    | [.tup xs, .ref y], h1, r1, lists => exact lists _ _ rfl h1
    | [.tup xs, .fl y], h1, r1, lists => exact lists _ _ rfl h1
    | [.tup xs, .non], h1, r1, lists => exact lists _ _ rfl h1
    | [.tup xs, .bl _], h1, r1, lists => exact lists _ _ rfl h1
    | [.tup xs, .int _], h1, r1, lists => exact lists _ _ rfl h1
    | [.tup xs, .str _], h1, r1, lists => exact lists _ _ rfl h1
    | [.tup xs, .ty _], h1, r1, lists => exact lists _ _ rfl h1
    | [.non, y], h1, r1, lists => exact lists _ _ rfl h1
    | [.bl _, y], h1, r1, lists => exact lists _ _ rfl h1
    | [.int _, y], h1, r1, lists => exact lists _ _ rfl h1
    | [.str _, y], h1, r1, lists => exact lists _ _ rfl h1
    | [.ty _, y], h1, r1, lists => exact lists _ _ rfl h1⟩
end
end DL
namespace DL
open PySem PySem.Spec PyProof.Rows L2 LamX
def dget (kvs : List (D × D)) (k : D) : Option D := (kvs.find? fun p => decide (nk p.1 = nk k)).map (·.2)
def dput (kvs : List (D × D)) (k v : D) : List (D × D) :=
  if (kvs.any fun p => decide (nk p.1 = nk k)) = true then kvs.map (fun p => if nk p.1 = nk k then (p.1, v) else p) else kvs ++ [(k, v)]
def ddel (kvs : List (D × D)) (k : D) : List (D × D) := kvs.filter fun p => decide (nk p.1 ≠ nk k)
def isLf : D → Bool
  | .int _ => true | .str _ => true | _ => false
def isTk : D → Bool
  | .tup xs => (nk (.tup xs)).isSome && decide ((D.tup xs).dep ≤ 8)
  | _ => false
/-- the dict's keys are of one kind, k is of this kind -/
def kOk (kvs : List (D × D)) (k : D) : Prop := (isLf k = true ∧ ∀ p ∈ kvs, isLf p.1 = true) ∨ (isTk k = true ∧ ∀ p ∈ kvs, isTk p.1 = true)
def dctOf (S : DS) : D → Option (List (D × D))
  | .ref a => match S a with
    | some (.dct _ kvs) => some kvs
    | _ => none
  | _ => none
theorem dctOf_get {S : DS} {d : D} {kvs : List (D × D)} (h : dctOf S d = some kvs) : ∃ a st, d = .ref a ∧ S a = some (.dct st kvs) := by
  cases d with
  | ref a =>
    rw [dctOf] at h
    split at h
    · rename_i st kvs' e
      cases h
      exact ⟨a, st, rfl, e⟩
    · cases h
  | _ => cases h
theorem length_dput (kvs : List (D × D)) (k v : D) : (dput kvs k v).length ≤ kvs.length + 1 := by
  unfold dput
  split
  · rw [List.length_map]; omega
  · rw [List.length_append]; exact Nat.le_refl _
theorem dput_keys (kvs : List (D × D)) (k v : D) : (dput kvs k v).map (·.1) = kvs.map (·.1) ∨ (dput kvs k v).map (·.1) = kvs.map (·.1) ++ [k] ∧ nk k ∉ kvs.map fun p => nk p.1 := by
  unfold dput
  split
  · left
    rw [List.map_map]
    refine List.map_congr_left fun p _ => ?_
    simp only [Function.comp]
    split <;> rfl
  · rename_i h
    right
    refine ⟨by rw [List.map_append]; rfl, fun q => h ?_⟩
    obtain ⟨p, hp, e⟩ := List.mem_map.mp q
    exact List.any_eq_true.mpr ⟨p, hp, decide_eq_true e⟩
theorem dput_nodup {kvs : List (D × D)} {k v : D} (h : (kvs.map fun p => nk p.1).Nodup) : ((dput kvs k v).map fun p => nk p.1).Nodup := by
  have e : ∀ l : List (D × D), (l.map fun p => nk p.1) = (l.map (·.1)).map nk := fun l => by rw [List.map_map]; rfl
  rcases dput_keys kvs k v with q | ⟨q, n⟩
  · rw [e, q, ← e]; exact h
  · rw [e, q, List.map_append, ← e]
    refine List.nodup_append.mpr ⟨h, by simp, fun a ha b hb z => ?_⟩
    rw [List.map_cons, List.map_nil, List.mem_singleton] at hb
    subst hb z
    exact n ha
theorem dput_all {P : D → Prop} {kvs : List (D × D)} {k v : D} (hk : P k) (h : ∀ p ∈ kvs, P p.1) : ∀ p ∈ dput kvs k v, P p.1 := by
  intro p hp
  have hm : p.1 ∈ (dput kvs k v).map (·.1) := List.mem_map_of_mem hp
  rcases dput_keys kvs k v with q | ⟨q, _⟩
  · rw [q] at hm; obtain ⟨p', hp', e⟩ := List.mem_map.mp hm; rw [← e]; exact h p' hp'
  · rw [q] at hm
    rcases List.mem_append.mp hm with z | z
    · obtain ⟨p', hp', e⟩ := List.mem_map.mp z; rw [← e]; exact h p' hp'
    · rw [List.mem_singleton.mp z]; exact hk
mutual
theorem nk_dep : ∀ (d : D) (q : NestedKey), nk d = some q → q.depth = d.dep
  | .non, q, h => by rw [nk] at h; cases h; rw [NestedKey.depth, D.dep]
  | .int _, q, h => by rw [nk] at h; cases h; rw [NestedKey.depth, D.dep]
  | .str _, q, h => by rw [nk] at h; cases h; rw [NestedKey.depth, D.dep]
  | .bl _, q, h => by rw [nk] at h; cases h
  | .ref _, q, h => by rw [nk] at h; cases h
  | .ty _, q, h => by rw [nk] at h; cases h
  | .fl _, q, h => by rw [nk] at h; cases h
  | .tup xs, q, h => by
    rw [nk] at h
    split at h
    · rename_i ks e
      cases h
      rw [NestedKey.depth, D.dep, nks_dep xs ks e]
    · cases h
theorem nks_dep : ∀ (ds : List D) (ks : List NestedKey), nks ds = some ks → NestedKey.depthAll ks = D.depL ds
  | [], ks, h => by rw [nks] at h; cases h; rw [NestedKey.depthAll, D.depL]
  | d :: ds, ks, h => by
    rw [nks] at h
    split at h
    · rename_i k e
      split at h
      · rename_i ks' e'
        cases h
        rw [NestedKey.depthAll, D.depL, nk_dep d k e, nks_dep ds ks' e']
      · cases h
    · cases h
end
mutual
theorem nk_inj : ∀ (a b : D) (q : NestedKey), nk a = some q → nk b = some q → a = b
  | .non, b, q, h, h' => by
    rw [nk] at h; cases h
    cases b with
    | non => rfl
    | tup xs => rw [nk] at h'; split at h' <;> cases h'
    | _ => rw [nk] at h'; cases h'
  | .int i, b, q, h, h' => by
    rw [nk] at h; cases h
    cases b with
    | int j => rw [nk] at h'; cases h'; rfl
    | tup xs => rw [nk] at h'; split at h' <;> cases h'
    | _ => rw [nk] at h'; cases h'
  | .str i, b, q, h, h' => by
    rw [nk] at h; cases h
    cases b with
    | str j => rw [nk] at h'; cases h'; rfl
    | tup xs => rw [nk] at h'; split at h' <;> cases h'
    | _ => rw [nk] at h'; cases h'
  | .bl _, b, q, h, h' => by rw [nk] at h; cases h
  | .ref _, b, q, h, h' => by rw [nk] at h; cases h
  | .ty _, b, q, h, h' => by rw [nk] at h; cases h
  | .fl _, b, q, h, h' => by rw [nk] at h; cases h
  | .tup xs, b, q, h, h' => by
    rw [nk] at h
    split at h
    · rename_i ks e
      cases h
      cases b with
      | tup ys =>
        rw [nk] at h'
        split at h'
        · rename_i ks' e'
          cases h'
          rw [nks_inj xs ys ks e e']
        · cases h'
      | _ => rw [nk] at h'; cases h'
    · cases h
theorem nks_inj : ∀ (xs ys : List D) (ks : List NestedKey), nks xs = some ks → nks ys = some ks → xs = ys
  | [], ys, ks, h, h' => by
    rw [nks] at h; cases h
    cases ys with
    | nil => rfl
    | cons y ys =>
      rw [nks] at h'
      split at h'
      · split at h' <;> cases h'
      · cases h'
  | x :: xs, ys, ks, h, h' => by
    rw [nks] at h
    split at h
    · rename_i k e
      split at h
      · rename_i ks1 e1
        cases h
        cases ys with
        | nil => rw [nks] at h'; cases h'
        | cons y ys =>
          rw [nks] at h'
          split at h'
          · rename_i k2 e2
            split at h'
            · rename_i ks3 e3
              cases h'
              rw [nk_inj x y k e e2, nks_inj xs ys ks1 e1 e3]
            · cases h'
          · cases h'
      · cases h
    · cases h
end
def kd : D → Key
  | .int i => .inl i | .str x => .inr x | _ => .inl 0
theorem lf_val {K : FW} {H : Hp} {k : D} {u : V} (h : isLf k = true) (r : Rv K H k u) : u = kV (kd k) := by
  cases k with
  | int i => cases r; rfl
  | str x => cases r; rfl
  | _ => cases h
theorem lf_key {K : FW} {H : Hp} {k : D} (h : isLf k = true) : Rv K H k (kV (kd k)) := by
  cases k with
  | int i => exact .int i
  | str x => exact .str x
  | _ => cases h
theorem lf_nk {a b : D} (h : isLf a = true) (h' : isLf b = true) : nk a = nk b ↔ kd a = kd b := by
  cases a with
  | int i =>
    cases b with
    | int j => rw [nk, nk, kd, kd]; simp
    | str y => rw [nk, nk, kd, kd]; simp
    | _ => cases h'
  | str x =>
    cases b with
    | int j => rw [nk, nk, kd, kd]; simp
    | str y => rw [nk, nk, kd, kd]; simp
    | _ => cases h'
  | _ => cases h
theorem lf_some {k : D} (w : World) (h : isLf k = true) : ∃ q, nk k = some q ∧ q.hash w = keyH w (kd k) := by
  cases k with
  | int i => exact ⟨_, by rw [nk], by rw [NestedKey.hash, kd]; rfl⟩
  | str i => exact ⟨_, by rw [nk], by rw [NestedKey.hash, kd]; rfl⟩
  | _ => cases h
section
variable {K : FW} {H : Hp} {P : Program}
abbrev LP (K : FW) (H : Hp) : List (D × D) → List (Key × Value) → Prop := Paired fun p q => isLf p.1 = true ∧ kd p.1 = q.1 ∧ ∃ v, Rv K H p.2 v ∧ RelV v q.2
theorem rent_lp : ∀ {kvs : List (D × D)} {es : List DictEntry}, REnt K H kvs es → (∀ p ∈ kvs, isLf p.1 = true) →
    ∃ vs : List (Key × Value), LP K H kvs vs ∧ Pairs (mixKind P K.w) es vs ∧ ∀ e ∈ es, ∃ k, keyIs k e.key = true ∧ e.hash = keyH K.w k
  | _, _, .nil, _ => ⟨[], .nil, .nil, fun e he => nomatch he⟩
  | _, _, .cons (k := k) (e := e) a b c d f g r, h => by
    obtain ⟨vs, h1, h2, h3⟩ := rent_lp r fun p hp => h p (List.mem_cons_of_mem _ hp)
    have hk := h _ List.mem_cons_self
    dsimp only at hk
    obtain ⟨q', e1, e2⟩ := lf_some K.w hk
    rw [a] at e1
    cases e1
    have hu := lf_val hk c
    have his : keyIs (kd k) e.key = true := by rw [hu] at d; exact kV_is (P := P) (w := K.w) d
    refine ⟨(kd k, e.val) :: vs, .cons ⟨hk, rfl, _, f, g⟩ h1, .cons his rfl h2, fun e' he => ?_⟩
    rcases List.mem_cons.mp he with z | z
    · subst z; exact ⟨kd k, his, b.trans e2⟩
    · exact h3 e' z
theorem lp_rent : ∀ {kvs : List (D × D)} {es : List DictEntry} {vs : List (Key × Value)}, LP K H kvs vs → Pairs (mixKind P K.w) es vs → (∀ e ∈ es, ∃ k, keyIs k e.key = true ∧ e.hash = keyH K.w k) → REnt K H kvs es
  | _, es, _, .nil, p, _ => by cases p; exact .nil
  | _, es, _, .cons (a := a) (b := b) h t, p, q => by
    cases p with
    | @cons e _ es _ his hv r =>
      obtain ⟨h1, h2, v, h3, h4⟩ := h
      obtain ⟨q', e1, e2⟩ := lf_some K.w h1
      obtain ⟨k', i1, i2⟩ := q e List.mem_cons_self
      have : k' = b.1 := (mixKind P K.w).inj e.key k' b.1 i1 his
      subst this
      obtain ⟨k, d⟩ := a
      dsimp only at h1 h2 h3 h4 e1 e2 hv
      exact .cons e1 (i2.trans (by rw [e2, h2])) (lf_key h1) (by rw [h2]; exact relV_key his) h3 (by rw [hv]; exact h4) (lp_rent t r fun e' he => q e' (List.mem_cons_of_mem _ he))
theorem dget_lp : ∀ {kvs : List (D × D)} {vs : List (Key × Value)} {k : D}, LP K H kvs vs → isLf k = true → match dget kvs k with
    | some d => ∃ u v, valueAt vs (kd k) = some u ∧ Rv K H d v ∧ RelV v u
    | none => valueAt vs (kd k) = none
  | _, _, k, .nil, _ => rfl
  | _, _, k, .cons (a := a) (b := b) (l₁ := l) (l₂ := m) h t, hk => by
    obtain ⟨h1, h2, v, h3, h4⟩ := h
    have ih := dget_lp t hk
    by_cases c : nk a.1 = nk k
    · have e : dget (a :: l) k = some a.2 := by unfold dget; rw [List.find?_cons_of_pos (by simp [c])]; rfl
      rw [e]
      have c' : b.1 = kd k := h2.symm.trans ((lf_nk h1 hk).mp c)
      exact ⟨b.2, v, by simp [valueAt, List.find?_cons, c'], h3, h4⟩
    · have e : dget (a :: l) k = dget l k := by unfold dget; rw [List.find?_cons_of_neg (by simp [c])]
      have c' : ¬ b.1 = kd k := fun z => c ((lf_nk h1 hk).mpr (h2.trans z))
      have e' : valueAt (b :: m) (kd k) = valueAt m (kd k) := by simp [valueAt, List.find?_cons, c']
      rw [e, e']; exact ih
theorem any_lp : ∀ {kvs : List (D × D)} {vs : List (Key × Value)} {k : D}, LP K H kvs vs → isLf k = true → (kvs.any fun p => decide (nk p.1 = nk k)) = vs.any fun q => decide (q.1 = kd k)
  | _, _, k, .nil, _ => rfl
  | _, _, k, .cons (a := a) (b := b) h t, hk => by
    obtain ⟨h1, h2, _⟩ := h
    rw [List.any_cons, List.any_cons, any_lp t hk]
    congr 1
    rw [← h2]
    exact decide_eq_decide.mpr (lf_nk h1 hk)
theorem map_lp {d : D} {v : V} {u : Value} (rd : Rv K H d v) (ru : RelV v u) : ∀ {kvs : List (D × D)} {vs : List (Key × Value)} {k : D}, LP K H kvs vs → isLf k = true → LP K H (kvs.map fun p => if nk p.1 = nk k then (p.1, d) else p) (vs.map fun q => if q.1 = kd k then (q.1, u) else q)
  | _, _, k, .nil, _ => .nil
  | _, _, k, .cons (a := a) (b := b) h t, hk => by
    rw [List.map_cons, List.map_cons]
    refine .cons ?_ (map_lp rd ru t hk)
    obtain ⟨h1, h2, h3⟩ := h
    by_cases c : nk a.1 = nk k
    · rw [if_pos c, if_pos (h2.symm.trans ((lf_nk h1 hk).mp c))]; exact ⟨h1, h2, v, rd, ru⟩
    · rw [if_neg c, if_neg fun z => c ((lf_nk h1 hk).mpr (h2.trans z))]; exact ⟨h1, h2, h3⟩
theorem dput_lp {d : D} {v : V} {u : Value} (rd : Rv K H d v) (ru : RelV v u) {kvs : List (D × D)} {vs : List (Key × Value)} {k : D} (h : LP K H kvs vs) (hk : isLf k = true) : LP K H (dput kvs k d) (stored vs (kd k) u) := by
  unfold dput stored
  rw [any_lp h hk]
  split
  · exact map_lp rd ru h hk
  · exact Paired.snoc h ⟨hk, rfl, v, rd, ru⟩
theorem tk_some {k : D} (h : isTk k = true) : ∃ xs q, k = .tup xs ∧ nk k = some q ∧ q.depth ≤ 8 := by
  cases k with
  | tup xs =>
    rw [isTk, Bool.and_eq_true, decide_eq_true_eq] at h
    obtain ⟨q, e⟩ := Option.isSome_iff_exists.mp h.1
    exact ⟨xs, q, rfl, e, by rw [nk_dep _ q e]; exact h.2⟩
  | _ => cases h
theorem tk_val {k : D} {u : V} (h : isTk k = true) (r : Rv K H k u) : ∃ b, u = .ref b := by
  obtain ⟨xs, q, rfl, _⟩ := tk_some h
  cases r with
  | tup _ _ => exact ⟨_, rfl⟩
abbrev XT := NestedKey × Addr × Value
abbrev TP (K : FW) (H : Hp) : List (D × D) → List XT → Prop := Paired fun p x => isTk p.1 = true ∧ nk p.1 = some x.1 ∧ Rv K H p.1 (.ref x.2.1) ∧ ∃ v, Rv K H p.2 v ∧ RelV v x.2.2
theorem rent_tp : ∀ {kvs : List (D × D)} {es : List DictEntry}, REnt K H kvs es → (∀ p ∈ kvs, isTk p.1 = true) → ∃ xs : List XT, TP K H kvs xs ∧ es = xs.map (entryOfKey (nestedKind P K.w))
  | _, _, .nil, _ => ⟨[], .nil, rfl⟩
  | _, _, .cons (k := k) (e := e) (q := q) a b c d f g r, h => by
    obtain ⟨xs, h1, h2⟩ := rent_tp r fun p hp => h p (List.mem_cons_of_mem _ hp)
    have hk := h _ List.mem_cons_self
    dsimp only at hk
    obtain ⟨ad, rfl⟩ := tk_val hk c
    have ek : e.key = .ref ad := d
    refine ⟨(q, ad, e.val) :: xs, .cons ⟨hk, a, c, _, f, g⟩ h1, ?_⟩
    rw [List.map_cons, ← h2]
    congr 1
    obtain ⟨eh, ekk, ev⟩ := e
    dsimp only at ek b
    subst ek b
    rfl
theorem tp_rent : ∀ {kvs : List (D × D)} {xs : List XT}, TP K H kvs xs → REnt K H kvs (xs.map (entryOfKey (nestedKind P K.w)))
  | _, _, .nil => .nil
  | _, _, .cons (a := a) (b := b) h t => by
    obtain ⟨h0, h1, h2, v, h3, h4⟩ := h
    exact .cons (e := entryOfKey (nestedKind P K.w) b) h1 rfl h2 rfl h3 h4 (tp_rent t)
theorem dget_tp : ∀ {kvs : List (D × D)} {xs : List XT} {k : D} {q : NestedKey}, TP K H kvs xs → nk k = some q → match dget kvs k with
    | some d => ∃ p v, atKey xs q = some p ∧ Rv K H d v ∧ RelV v p.2
    | none => atKey xs q = none
  | _, _, k, q, .nil, _ => rfl
  | _, _, k, q, .cons (a := a) (b := b) (l₁ := l) (l₂ := m) h t, hk => by
    obtain ⟨h0, h1, h2, v, h3, h4⟩ := h
    have ih := dget_tp t hk
    by_cases c : nk a.1 = nk k
    · have e : dget (a :: l) k = some a.2 := by unfold dget; rw [List.find?_cons_of_pos (by simp [c])]; rfl
      rw [e]
      have c' : b.1 = q := by rw [h1, hk] at c; exact Option.some.inj c
      exact ⟨b.2, v, by simp [atKey, List.find?_cons, c'], h3, h4⟩
    · have e : dget (a :: l) k = dget l k := by unfold dget; rw [List.find?_cons_of_neg (by simp [c])]
      have c' : ¬ b.1 = q := fun z => c (by rw [h1, hk, z])
      have e' : atKey (b :: m) q = atKey m q := by simp [atKey, List.find?_cons, c']
      rw [e, e']; exact ih
theorem any_tp : ∀ {kvs : List (D × D)} {xs : List XT} {k : D} {q : NestedKey}, TP K H kvs xs → nk k = some q → (kvs.any fun p => decide (nk p.1 = nk k)) = (atKey xs q).isSome
  | _, _, k, q, .nil, _ => rfl
  | _, _, k, q, .cons (a := a) (b := b) (l₂ := m) h t, hk => by
    obtain ⟨h0, h1, _⟩ := h
    rw [List.any_cons, any_tp t hk]
    by_cases c : b.1 = q
    · have e' : atKey (b :: m) q = some b.2 := by simp [atKey, List.find?_cons, c]
      rw [e', h1, hk, c]; simp
    · have e' : atKey (b :: m) q = atKey m q := by simp [atKey, List.find?_cons, c]
      rw [e', h1, hk, decide_eq_false (fun z => c (Option.some.inj z))]; simp
theorem map_tp {d : D} {v : V} {u : Value} (rd : Rv K H d v) (ru : RelV v u) : ∀ {kvs : List (D × D)} {xs : List XT} {k : D} {q : NestedKey}, TP K H kvs xs → nk k = some q → TP K H (kvs.map fun p => if nk p.1 = nk k then (p.1, d) else p) (xs.map (putAt q u))
  | _, _, k, q, .nil, _ => .nil
  | _, _, k, q, .cons (a := a) (b := b) h t, hk => by
    rw [List.map_cons, List.map_cons]
    refine .cons ?_ (map_tp rd ru t hk)
    obtain ⟨h0, h1, h2, h3⟩ := h
    unfold putAt
    by_cases c : nk a.1 = nk k
    · rw [if_pos c, if_pos (show b.1 = q by rw [h1, hk] at c; exact Option.some.inj c)]; exact ⟨h0, h1, h2, v, rd, ru⟩
    · rw [if_neg c, if_neg fun z => c (by rw [h1, hk, z])]; exact ⟨h0, h1, h2, h3⟩
theorem dput_tp {d : D} {v : V} {u : Value} {b : Addr} (rd : Rv K H d v) (ru : RelV v u) {kvs : List (D × D)} {xs : List XT} {k : D} {q : NestedKey} (h : TP K H kvs xs) (hk : isTk k = true) (hq : nk k = some q) (hb : Rv K H k (.ref b)) : TP K H (dput kvs k d) (storedH xs q b u) := by
  unfold dput storedH
  rw [any_tp h hq]
  split
  · exact map_tp rd ru h hq
  · exact Paired.snoc h ⟨hk, hq, hb, v, rd, ru⟩
end
section
variable {X : Cx} {tbl : Tbl} {pins : List (Addr × Obj)} {σ : L2.St} {H : Hp} {s : Shared} {S : DS} {a : Addr} {st : DStm} {kvs : List (D × D)} {A : Around} {E : Value → Shared → Prop}
mutual
theorem nk_is (I : Inv X pins σ H s) : ∀ (d : D) (q : NestedKey) (v : V) (u : Value), nk d = some q → Rv (xfw X tbl) H d v → RelV v u → NestedIs s.heap q u
  | .non, q, v, u, e, r, ru => by rw [nk] at e; cases e; cases r; cases (show u = Value.none from ru); exact .none
  | .int _, q, v, u, e, r, ru => by rw [nk] at e; cases e; cases r; obtain ⟨t, rfl⟩ := ru; exact .int _ t
  | .str _, q, v, u, e, r, ru => by rw [nk] at e; cases e; cases r; obtain ⟨t, rfl⟩ := ru; exact .text _ t
  | .bl _, q, v, u, e, r, ru => by rw [nk] at e; cases e
  | .ref _, q, v, u, e, r, ru => by rw [nk] at e; cases e
  | .ty _, q, v, u, e, r, ru => by rw [nk] at e; cases e
  | .fl _, q, v, u, e, r, ru => by rw [nk] at e; cases e
  | .tup xs, q, v, u, e, r, ru => by
    rw [nk] at e
    split at e
    · rename_i ks ek
      cases e
      cases r with
      | @tup p vs _ hq rr =>
        cases (show u = Value.ref p from ru)
        obtain ⟨its, rv, ⟨o, ho, hc, n, hd⟩, _⟩ := I.tuple hq
        exact .tup ho hc hd (by simpa using nks_is I xs ks vs its ek rr rv)
    · cases e
theorem nks_is (I : Inv X pins σ H s) : ∀ (ds : List D) (ks : List NestedKey) (vs : List V) (us : List Value), nks ds = some ks → RvL (xfw X tbl) H ds vs → Vals vs us → NestedAll s.heap ks us
  | [], ks, vs, us, e, r, ru => by rw [nks] at e; cases e; cases r; cases ru; exact .nil
  | d :: ds, ks, vs, us, e, r, ru => by
    rw [nks] at e
    split at e
    · rename_i k e1
      split at e
      · rename_i ks' e2
        cases e
        cases r with
        | cons q rr =>
          cases ru with
          | cons h t => exact .cons (nk_is I d k _ _ e1 q h) (nks_is I ds ks' _ _ e2 rr t)
      · cases e
    · cases e
end
theorem tk_is (I : Inv X pins σ H s) {k : D} {b : Addr} (h : isTk k = true) (r : Rv (xfw X tbl) H k (.ref b)) : ∃ q, nk k = some q ∧ (nestedKind X.prog X.w).is s.heap q b := by
  obtain ⟨xs, q, rfl, e, hd⟩ := tk_some h
  exact ⟨q, e, nk_is I _ q _ _ e r rfl, hd⟩
theorem dct_at (I : Inv X pins σ H s) (hs : Sim (xfw X tbl) S H) (e : S a = some (.dct st kvs)) :
    (a == sysModules) = false ∧ s.heap.DictRaw a st.es st.ep ∧ REnt (xfw X tbl) H kvs st.es.toList ∧ kvs.length ≤ sizeLine ∧ (kvs.map fun p => nk p.1).Nodup ∧ H a = some (rawO a st) := by
  obtain ⟨h1, h2, h3, h4⟩ := hs a _ e
  obtain ⟨⟨hd, raw⟩, _⟩ := (show ObjOk X.prog X.w H s.heap a (rawO a st) from I.hok a _ h1)
  exact ⟨hd, raw, h2, h3, h4, h1⟩
theorem rent_len {K : FW} : ∀ {kvs : List (D × D)} {es : List DictEntry}, REnt K H kvs es → kvs.length = es.length
  | _, _, .nil => rfl
  | _, _, .cons _ _ _ _ _ _ r => by rw [List.length_cons, List.length_cons, rent_len r]
theorem lp_keys {K : FW} : ∀ {kvs : List (D × D)} {vs : List (Key × Value)}, LP K H kvs vs → (kvs.map fun p => nk p.1).Nodup → (vs.map (·.1)).Nodup
  | _, _, .nil, _ => List.nodup_nil
  | _, _, .cons (a := a) (b := b) (l₁ := l) (l₂ := m) h t, hn => by
    rw [List.map_cons, List.nodup_cons] at hn ⊢
    refine ⟨fun hm => hn.1 ?_, lp_keys t hn.2⟩
    obtain ⟨h1, h2, _⟩ := h
    obtain ⟨y, hy, ey⟩ := List.mem_map.mp hm
    have key : ∀ {l : List (D × D)} {m : List (Key × Value)}, LP K H l m → ∀ y ∈ m, ∃ p ∈ l, isLf p.1 = true ∧ kd p.1 = y.1 := by
      intro l m q
      induction q with
      | nil => intro y hy; exact nomatch hy
      | cons hq t ih =>
        intro y hy
        rcases List.mem_cons.mp hy with e | hy
        · subst e; exact ⟨_, List.mem_cons_self, hq.1, hq.2.1⟩
        · obtain ⟨p, hp, r⟩ := ih y hy; exact ⟨p, List.mem_cons_of_mem _ hp, r⟩
    obtain ⟨p, hp, hp1, hp2⟩ := key t y hy
    exact List.mem_map.mpr ⟨p, hp, (lf_nk hp1 h1).mpr (by rw [hp2, h2]; exact ey)⟩
theorem tp_keys {K : FW} : ∀ {kvs : List (D × D)} {xs : List XT}, TP K H kvs xs → (kvs.map fun p => nk p.1) = xs.map fun x => some x.1
  | _, _, .nil => rfl
  | _, _, .cons h t => by rw [List.map_cons, List.map_cons, h.2.1, tp_keys t]
theorem tp_is (I : Inv X pins σ H s) : ∀ {kvs : List (D × D)} {xs : List XT}, TP (xfw X tbl) H kvs xs → ∀ x ∈ xs, (nestedKind X.prog X.w).is s.heap x.1 x.2.1
  | _, _, .nil, x, hx => nomatch hx
  | _, _, .cons h t, x, hx => by
    rcases List.mem_cons.mp hx with e | hx
    · subst e
      obtain ⟨q, e1, e2⟩ := tk_is I h.1 h.2.2.1
      rw [h.2.1] at e1
      cases e1
      exact e2
    · exact tp_is I t x hx
/-- the dict with leaf keys as the library's -/
theorem dct_lf (I : Inv X pins σ H s) (hs : Sim (xfw X tbl) S H) (e : S a = some (.dct st kvs)) (hk : ∀ p ∈ kvs, isLf p.1 = true) : ∃ vs, LP (xfw X tbl) H kvs vs ∧ s.heap.DictOf (mixKind X.prog X.w) a vs := by
  obtain ⟨hd, ⟨o, ho, hc, hdt⟩, re, hl, hn, _⟩ := dct_at I hs e
  obtain ⟨vs, h1, h2, h3⟩ := rent_lp (P := X.prog) re hk
  exact ⟨vs, h1, o, st.es, st.ep, ho, hc, hdt, fun e' he => h3 e' (Array.mem_toList_iff.mpr he), h2, lp_keys h1 hn⟩
theorem dct_tp (I : Inv X pins σ H s) (hs : Sim (xfw X tbl) S H) (e : S a = some (.dct st kvs)) (hk : ∀ p ∈ kvs, isTk p.1 = true) : ∃ xs, TP (xfw X tbl) H kvs xs ∧ s.heap.DictOfH (nestedKind X.prog X.w) a xs := by
  obtain ⟨hd, ⟨o, ho, hc, hdt⟩, re, hl, hn, _⟩ := dct_at I hs e
  obtain ⟨xs, h1, h2⟩ := rent_tp (P := X.prog) re hk
  refine ⟨xs, h1, o, st.es, st.ep, ho, hc, hdt, h2, tp_is I h1, ?_⟩
  rw [tp_keys h1] at hn
  have : (xs.map fun x => some x.1) = (xs.map (·.1)).map some := by rw [List.map_map]; rfl
  rw [this] at hn
  exact List.Pairwise.of_map some (fun a b h z => h (by rw [z])) hn
/-- the dict has another content -/
theorem dct_write {h' : Heap} {t' : Nat} {kvs' : List (D × D)} {st' : DStm} (I : Inv X pins σ H s) (hs : Sim (xfw X tbl) S H) (e : S a = some (.dct st kvs)) (sb : Heap.SameBut a s.heap h') (raw : h'.DictRaw a st'.es st'.ep)
    (re : REnt (xfw X tbl) H kvs' st'.es.toList) (hl : kvs'.length ≤ sizeLine) (hn : (kvs'.map fun p => nk p.1).Nodup) :
    Inv X pins σ (upd H a (rawO a st')) { s with heap := h', toks := t' } ∧ Sim (xfw X tbl) (dupd S a (.dct st' kvs')) (upd H a (rawO a st')) ∧ Stp S H (dupd S a (.dct st' kvs')) (upd H a (rawO a st')) := by
  obtain ⟨hd, _, _, _, _, hH⟩ := dct_at I hs e
  have w : Stp S H (dupd S a (.dct st' kvs')) (upd H a (rawO a st')) := Stp.write hs e
  refine ⟨?_, hs.write e ⟨upd_same, re.mono (fun _ _ => w.sqT) (fun _ _ => w.fqL), hl, hn⟩, w⟩
  have he : ∃ q, h'.get? a = some q := let ⟨q, hq, _⟩ := raw; ⟨q, hq⟩
  refine d_write I (by rw [hH]; exact True.intro) sb he ⟨⟨hd, raw⟩, he, fun h1 h2 ⟨z, r⟩ k => ⟨z, r.at k⟩⟩
theorem kroom {A : Around} (hu : A.units + 100 < cLine) (P : Program) (w : World) : (nestedKind P w).room A.in1 := by
  show A.in1.units + 8 < cLine
  rw [Around.in1_units]; omega
/-- d[k] -/
theorem dd_get {y : V} {u : Value} {k d : D} (I : Inv X pins σ H s) (hs : Sim (xfw X tbl) S H) (e : S a = some (.dct st kvs)) (hk : kOk kvs k) (rk : Rv (xfw X tbl) H k y) (ry : RelV y u) (hg : dget kvs k = some d) :
    ∃ v w', Rv (xfw X tbl) H d v ∧ RelV v w' ∧ ∀ (A : Around) (E : Value → Shared → Prop) (Q : Value → Shared → Prop), A.units + 100 < cLine → (∀ s', Inv X pins σ H s' → Q w' s') → wpAny (model X.prog X.w) A (getItem (.ref a) u) Q E s := by
  rcases hk with ⟨h1, h2⟩ | ⟨h1, h2⟩
  · obtain ⟨vs, lp, dd⟩ := dct_lf I hs e h2
    have q := dget_lp lp h1
    rw [hg] at q
    obtain ⟨w', v, hw, rv, rw'⟩ := q
    have := lf_val h1 rk
    subst this
    exact ⟨v, w', rv, rw', fun A E Q hu h => wpAny_getItem_of (kV_is ry) dd.mapOf hw (h _ (I.tok _))⟩
  · obtain ⟨xs, tp, dd⟩ := dct_tp I hs e h2
    obtain ⟨b, rfl⟩ := tk_val h1 rk
    cases (show u = Value.ref b from ry)
    obtain ⟨q, eq, his⟩ := tk_is I h1 rk
    have z := dget_tp tp eq
    rw [hg] at z
    obtain ⟨p, v, hp, rv, rw'⟩ := z
    exact ⟨v, p.2, rv, rw', fun A E Q hu h => wpAny_getItem_heap (kroom hu _ _) his dd hp (h _ (I.tok _))⟩
theorem dd_in {y : V} {u : Value} {k : D} {Q : Value → Shared → Prop} (hu : A.units + 100 < cLine) (I : Inv X pins σ H s) (hs : Sim (xfw X tbl) S H) (e : S a = some (.dct st kvs)) (hk : kOk kvs k) (rk : Rv (xfw X tbl) H k y) (ry : RelV y u)
    (h : ∀ s', Inv X pins σ H s' → Q (.bool (dget kvs k).isSome) s') : wpAny (model X.prog X.w) A (compareOp .In u (.ref a)) Q E s := by
  have hd := (dct_at I hs e).1
  rcases hk with ⟨h1, h2⟩ | ⟨h1, h2⟩
  · obtain ⟨vs, lp, dd⟩ := dct_lf I hs e h2
    have q := dget_lp lp h1
    have := lf_val h1 rk
    subst this
    refine wpAny_in_of (kV_is ry) hd dd.mapOf ?_
    have : (valueAt vs (kd k)).isSome = (dget kvs k).isSome := by
      cases z : dget kvs k with
      | none => rw [z] at q; rw [q]; rfl
      | some d => rw [z] at q; obtain ⟨w', v, hw, _⟩ := q; rw [hw]; rfl
    rw [this]
    exact h _ (I.tok _)
  · obtain ⟨xs, tp, dd⟩ := dct_tp I hs e h2
    obtain ⟨b, rfl⟩ := tk_val h1 rk
    cases (show u = Value.ref b from ry)
    obtain ⟨q, eq, his⟩ := tk_is I h1 rk
    have z := any_tp tp eq
    refine wpAny_in_heap (kroom hu _ _) his hd dd ?_
    have : (atKey xs q).isSome = (dget kvs k).isSome := by
      have z := dget_tp tp eq
      cases y : dget kvs k with
      | none => rw [y] at z; rw [z]; rfl
      | some d => rw [y] at z; obtain ⟨p, v, hp, _⟩ := z; rw [hp]; rfl
    rw [this]
    exact h _ (I.tok _)
theorem dd_notIn {y : V} {u : Value} {k : D} {Q : Value → Shared → Prop} (hu : A.units + 100 < cLine) (I : Inv X pins σ H s) (hs : Sim (xfw X tbl) S H) (e : S a = some (.dct st kvs)) (hk : kOk kvs k) (rk : Rv (xfw X tbl) H k y) (ry : RelV y u)
    (h : ∀ s', Inv X pins σ H s' → Q (.bool (!(dget kvs k).isSome)) s') : wpAny (model X.prog X.w) A (compareOp .NotIn u (.ref a)) Q E s := by
  have hd := (dct_at I hs e).1
  rcases hk with ⟨h1, h2⟩ | ⟨h1, h2⟩
  · obtain ⟨vs, lp, dd⟩ := dct_lf I hs e h2
    have q := dget_lp lp h1
    have := lf_val h1 rk
    subst this
    refine wpAny_notIn_of (kV_is ry) hd dd.mapOf ?_
    have : (valueAt vs (kd k)).isSome = (dget kvs k).isSome := by
      cases z : dget kvs k with
      | none => rw [z] at q; rw [q]; rfl
      | some d => rw [z] at q; obtain ⟨w', v, hw, _⟩ := q; rw [hw]; rfl
    rw [this]
    exact h _ (I.tok _)
  · obtain ⟨xs, tp, dd⟩ := dct_tp I hs e h2
    obtain ⟨b, rfl⟩ := tk_val h1 rk
    cases (show u = Value.ref b from ry)
    obtain ⟨q, eq, his⟩ := tk_is I h1 rk
    refine wpAny_notIn_heap (kroom hu _ _) his hd dd ?_
    have : (atKey xs q).isSome = (dget kvs k).isSome := by
      have z := dget_tp tp eq
      cases y : dget kvs k with
      | none => rw [y] at z; rw [z]; rfl
      | some d => rw [y] at z; obtain ⟨p, v, hp, _⟩ := z; rw [hp]; rfl
    rw [this]
    exact h _ (I.tok _)
/-- d[k] = v -/
theorem dd_set {y v : V} {u r : Value} {k d : D} {Q : Unit → Shared → Prop} (hu : A.units + 100 < cLine) (I : Inv X pins σ H s) (hs : Sim (xfw X tbl) S H) (e : S a = some (.dct st kvs)) (hk : kOk kvs k) (rk : Rv (xfw X tbl) H k y) (ry : RelV y u) (rd : Rv (xfw X tbl) H d v) (rv : RelV v r)
    (hl : kvs.length < sizeLine) (h : ∀ st' s', Inv X pins σ (upd H a (rawO a st')) s' → Sim (xfw X tbl) (dupd S a (.dct st' (dput kvs k d))) (upd H a (rawO a st')) → Stp S H (dupd S a (.dct st' (dput kvs k d))) (upd H a (rawO a st')) → Q () s') :
    wpAny (model X.prog X.w) A (setItem (.ref a) u r) Q E s := by
  obtain ⟨_, _, re, _, hn, _⟩ := dct_at I hs e
  have hl' : (dput kvs k d).length ≤ sizeLine := by have := length_dput kvs k d; omega
  rcases hk with ⟨h1, h2⟩ | ⟨h1, h2⟩
  · obtain ⟨vs, lp, dd⟩ := dct_lf I hs e h2
    have hz : vs.length ≤ sizeLine := by rw [← Paired.length lp]; omega
    have := lf_val h1 rk
    subst this
    refine wpAny_setItem_pairs (hsz := hz) (kV_is ry) dd fun h' dd' sb => ?_
    obtain ⟨o, es, ep, ho, hc, hdt, ko, pr, _⟩ := dd'
    obtain ⟨i1, i2, i3⟩ := dct_write (t' := s.toks + 1) (st' := ⟨es, ep⟩) I hs e sb ⟨o, ho, hc, hdt⟩ (lp_rent (dput_lp rd rv lp h1) pr fun e' he => ko e' (Array.mem_toList_iff.mp he)) hl' (dput_nodup hn)
    exact h ⟨es, ep⟩ _ i1 i2 i3
  · obtain ⟨xs, tp, dd⟩ := dct_tp I hs e h2
    have hz : xs.length ≤ sizeLine := by rw [← Paired.length tp]; omega
    obtain ⟨b, rfl⟩ := tk_val h1 rk
    cases (show u = Value.ref b from ry)
    obtain ⟨q, eq, his⟩ := tk_is I h1 rk
    refine wpAny_setItem_heap (hsz := hz) (kroom hu _ _) his dd fun h' dd' sb => ?_
    obtain ⟨o, es, ep, ho, hc, hdt, hes, _, _⟩ := dd'
    have re' := tp_rent (P := X.prog) (dput_tp rd rv tp h1 eq rk)
    obtain ⟨i1, i2, i3⟩ := dct_write (t' := s.toks + (nestedKind X.prog X.w).draws q) (st' := ⟨es, ep⟩) I hs e sb ⟨o, ho, hc, hdt⟩ (by show REnt _ _ _ es.toList; rw [hes]; exact re') hl' (dput_nodup hn)
    exact h ⟨es, ep⟩ _ i1 i2 i3
/-- d.get(k), d.get(k, x) -/
theorem dd_get1 {y : V} {u : Value} {k : D} {Q : Value → Shared → Prop} (hu : A.units + 100 < cLine) (I : Inv X pins σ H s) (hs : Sim (xfw X tbl) S H) (e : S a = some (.dct st kvs)) (hk : kOk kvs k) (rk : Rv (xfw X tbl) H k y) (ry : RelV y u)
    (h : ∀ v w' s', Inv X pins σ H s' → Rv (xfw X tbl) H ((dget kvs k).getD .non) v → RelV v w' → Q w' s') : wpAny (model X.prog X.w) A (call (.builtin "dict.get") [.ref a, u]) Q E s := by
  have hd := (dct_at I hs e).1
  rcases hk with ⟨h1, h2⟩ | ⟨h1, h2⟩
  · obtain ⟨vs, lp, dd⟩ := dct_lf I hs e h2
    have q := dget_lp lp h1
    have := lf_val h1 rk
    subst this
    refine call_meetsIn PySem.F.slot_dict_get dd.typeIs PySem.F.entry_dict_get (PySem.F.args_dict_get_2 _ _) (meets_dict_get (mixKind X.prog X.w) a (kV_is ry) hd) ⟨_, dd.mapOf, ?_⟩
    cases z : dget kvs k with
    | none => rw [z] at q h; rw [q]; exact h .non .none _ (I.tok _) .non rfl
    | some d => rw [z] at q h; obtain ⟨w', v, hw, rv, rw'⟩ := q; rw [hw]; exact h v w' _ (I.tok _) rv rw'
  · obtain ⟨xs, tp, dd⟩ := dct_tp I hs e h2
    obtain ⟨b, rfl⟩ := tk_val h1 rk
    cases (show u = Value.ref b from ry)
    obtain ⟨q, eq, his⟩ := tk_is I h1 rk
    have z := dget_tp tp eq
    refine call_meetsIn PySem.F.slot_dict_get dd.typeIs PySem.F.entry_dict_get (PySem.F.args_dict_get_2 _ _) (meetsH_dict_get (nestedKind X.prog X.w) a b hd) ⟨kroom hu _ _, q, xs, his, dd, ?_⟩
    cases c : dget kvs k with
    | none => rw [c] at z h; rw [z]; exact h .non .none _ (I.tok _) .non rfl
    | some d => rw [c] at z h; obtain ⟨p, v, hp, rv, rw'⟩ := z; rw [hp]; exact h v p.2 _ (I.tok _) rv rw'
theorem dd_get2 {y v2 : V} {u r : Value} {k d2 : D} {Q : Value → Shared → Prop} (hu : A.units + 100 < cLine) (I : Inv X pins σ H s) (hs : Sim (xfw X tbl) S H) (e : S a = some (.dct st kvs)) (hk : kOk kvs k) (rk : Rv (xfw X tbl) H k y) (ry : RelV y u) (rd : Rv (xfw X tbl) H d2 v2) (rr : RelV v2 r)
    (h : ∀ v w' s', Inv X pins σ H s' → Rv (xfw X tbl) H ((dget kvs k).getD d2) v → RelV v w' → Q w' s') : wpAny (model X.prog X.w) A (call (.builtin "dict.get") [.ref a, u, r]) Q E s := by
  have hd := (dct_at I hs e).1
  rcases hk with ⟨h1, h2⟩ | ⟨h1, h2⟩
  · obtain ⟨vs, lp, dd⟩ := dct_lf I hs e h2
    have q := dget_lp lp h1
    have := lf_val h1 rk
    subst this
    refine call_meetsIn PySem.F.slot_dict_get dd.typeIs PySem.F.entry_dict_get (PySem.F.args_dict_get_3 _ _ _) (meets_dict_get_default (mixKind X.prog X.w) a (kV_is ry) hd r) ⟨_, dd.mapOf, ?_⟩
    cases z : dget kvs k with
    | none => rw [z] at q h; rw [q]; exact h v2 r _ (I.tok _) rd rr
    | some d => rw [z] at q h; obtain ⟨w', v, hw, rv, rw'⟩ := q; rw [hw]; exact h v w' _ (I.tok _) rv rw'
  · obtain ⟨xs, tp, dd⟩ := dct_tp I hs e h2
    obtain ⟨b, rfl⟩ := tk_val h1 rk
    cases (show u = Value.ref b from ry)
    obtain ⟨q, eq, his⟩ := tk_is I h1 rk
    have z := dget_tp tp eq
    refine call_meetsIn PySem.F.slot_dict_get dd.typeIs PySem.F.entry_dict_get (PySem.F.args_dict_get_3 _ _ _) (meetsH_dict_get_default (nestedKind X.prog X.w) a b hd r) ⟨kroom hu _ _, q, xs, his, dd, ?_⟩
    cases c : dget kvs k with
    | none => rw [c] at z h; rw [z]; exact h v2 r _ (I.tok _) rd rr
    | some d => rw [c] at z h; obtain ⟨p, v, hp, rv, rw'⟩ := z; rw [hp]; exact h v p.2 _ (I.tok _) rv rw'
theorem rent_keys {K : FW} : ∀ {kvs : List (D × D)} {es : List DictEntry}, REnt K H kvs es → ∃ vs, RvL K H (kvs.map (·.1)) vs ∧ Vals vs (es.map (·.key))
  | _, _, .nil => ⟨[], .nil, .nil⟩
  | _, _, .cons a b c d f g r => let ⟨vs, h1, h2⟩ := rent_keys r; ⟨_ :: vs, .cons c h1, .cons d h2⟩
theorem rent_vals {K : FW} : ∀ {kvs : List (D × D)} {es : List DictEntry}, REnt K H kvs es → ∃ vs, RvL K H (kvs.map (·.2)) vs ∧ Vals vs (es.map (·.val))
  | _, _, .nil => ⟨[], .nil, .nil⟩
  | _, _, .cons a b c d f g r => let ⟨vs, h1, h2⟩ := rent_vals r; ⟨_ :: vs, .cons f h1, .cons g h2⟩
theorem items_map {α : Type} {es : Array α} {f : α → Value} {acc : Array Value} (h : ItemsOf (fun i v => ∃ hi : i < es.size, v = f es[i]) acc es.size) : acc.toList = es.toList.map f := by
  obtain ⟨h1, h2⟩ := h
  refine List.ext_getElem? fun i => ?_
  rw [Array.getElem?_toList, List.getElem?_map, Array.getElem?_toList]
  by_cases hi : i < es.size
  · have ha : i < acc.size := by omega
    obtain ⟨z, e⟩ := h2 i acc[i] (Array.getElem?_eq_getElem ha)
    rw [Array.getElem?_eq_getElem ha, Array.getElem?_eq_getElem hi, e]; rfl
  · rw [Array.getElem?_eq_none (by omega), Array.getElem?_eq_none (by omega)]; rfl
end
def adr : D → Addr
  | .ref a => a
  | _ => 0
def oIx : DR2 := fun x y S Q => match dctOf S x with
  | some kvs => kOk kvs y ∧ ∃ d, dget kvs y = some d ∧ Q d S
  | none => oIx0 x y S Q
/-- the value that o[i] op= e reads -/
def oIxA : DR2 := fun x y S Q => match dctOf S x with
  | some kvs => kOk kvs y ∧ ∃ d, dget kvs y = some d ∧ Q d S
  | none => match lstOf S x with
    | some xs => match y with
      | .int i => 0 ≤ i ∧ match L2.atI xs i with
        | some d => Q d S
        | none => False
      | _ => False
    | none => False
def sIx : DSet := fun o i v S Q => match dctOf S o with
  | some kvs => (kOk kvs i ∧ kvs.length < 16777216) ∧ ∀ st, Q (dupd S (adr o) (.dct st (dput kvs i v)))
  | none => sIx0 o i v S Q
def oIn (neg : Bool) : DR2 := fun x y S Q => match dctOf S y with
  | some kvs => kOk kvs x ∧ Q (.bl (neg ^^ (dget kvs x).isSome)) S
  | none => oIn0 neg x y S Q
def bLen : DRs := fun ds S Q => match ds with
  | [d] => match dctOf S d with
    | some kvs => Q (.int kvs.length) S
    | none => bLen0 [d] S Q
  | _ => False
def bList : DRs := fun ds S Q => match ds with
  | [d] => match dctOf S d with
    | some kvs => ∀ p, S p = none → Q (.ref p) (dupd S p (.lst (kvs.map (·.1))))
    | none => bList0 [d] S Q
  | _ => False
def dIter (te : DE) : DI := fun δ S Q => te δ S fun x S1 => match x with
  | .str z => Q (z.cps.toList.map fun c => D.str ⟨#[c]⟩) (fun _ => True) S1
  | x => match dctOf S1 x with
    | some kvs => Q (kvs.map (·.1)) (fun S' => S' (adr x) = S1 (adr x)) S1
    | none => match seqOf S1 x with
      | some xs => Q xs (fun S' => seqOf S' x = some xs) S1
      | none => False
def okDct : DS → D → Prop := fun S d => (dctOf S d).isSome = true
def mGet : DM := fun d ds S Q => match dctOf S d with
  | some kvs => match ds with
    | [k] => kOk kvs k ∧ Q ((dget kvs k).getD .non) S
    | [k, x] => kOk kvs k ∧ Q ((dget kvs k).getD x) S
    | _ => False
  | none => False
def dDct0 : DE := fun _ S Q => ∀ p st, S p = none → Q (.ref p) (dupd S p (.dct st []))
section
variable {X : Cx} {tbl : Tbl} {e o a b : Expr} {es : List Expr} {te to ta tb : DE} {t : DA} {pos apos cpos : Pos} {name : Str} {id : String} {r : DM} {tg : Expr}
theorem dix (hu : X.A.units + 100 < cLine) : IxR X (liftO (xfw X tbl) oIx) := by
  rintro value slice pins s σ H xv yv v u Q I rx ry ⟨x, y, S, Q0, hx, hy, hs, hr, hq⟩ hsub
  cases hc : dctOf S x with
  | none =>
    have hr' : oIx0 x y S Q0 := by unfold oIx at hr; rw [hc] at hr; exact hr
    exact dix0 value slice pins s σ H xv yv v u Q I rx ry ⟨x, y, S, Q0, hx, hy, hs, hr', hq⟩ hsub
  | some kvs =>
    unfold oIx at hr
    rw [hc] at hr
    obtain ⟨hk, d, hg, q⟩ := hr
    obtain ⟨a, st, rfl, e⟩ := dctOf_get hc
    cases hx
    cases (show v = Value.ref a from rx)
    obtain ⟨v', w', rv, rw', run⟩ := dd_get I hs e hk hy ry hg
    obtain ⟨_, raw, _⟩ := dct_at I hs e
    exact subscriptTail_builtinR (x := w') raw.typeIs PySem.F.slot_dict_getitem.lookup (run X.A _ _ hu fun s' I' => ⟨rfl, v', H, I', rw', hq _ _ _ _ q rv hs (.refl _ _)⟩) hsub
theorem qe_ix (hu : X.A.units + 100 < cLine) (ha : PE X a (liftE (xfw X tbl) ta)) (hb : PE X b (liftE (xfw X tbl) tb)) (hs : PlainIx b) : PE X (.Subscript a b pos) (liftE (xfw X tbl) (dOp oIx ta tb)) := PE.imp (pe_ix (dix hu) ha hb hs) lift_op
theorem dget_ix (hu : X.A.units + 100 < cLine) : PGet X (liftO (xfw X tbl) oIxA) := by
  rintro pins s σ H xv yv v u Q I rx ry ⟨x, y, S, Q0, hx, hy, hs, hr, hq⟩
  unfold oIxA at hr
  split at hr
  · rename_i kvs hc
    obtain ⟨hk, d, hg, q⟩ := hr
    obtain ⟨a, st, rfl, e⟩ := dctOf_get hc
    cases hx
    cases (show v = Value.ref a from rx)
    obtain ⟨v', w', rv, rw', run⟩ := dd_get I hs e hk hy ry hg
    exact run X.A _ _ hu fun s' I' => ⟨v', H, I', rw', hq _ _ _ _ q rv hs (.refl _ _)⟩
  · split at hr
    · rename_i xs e1
      split at hr
      · rename_i i
        obtain ⟨h0, hr⟩ := hr
        split at hr
        · rename_i d e2
          cases hy
          obtain ⟨t, rfl⟩ := ry
          obtain ⟨p, vs, rfl, hv, r⟩ := lst_of hs hx e1
          cases (show v = Value.ref p from rx)
          obtain ⟨z, g1, g2⟩ := r.atI e2
          obtain ⟨its, r2, pl, hz⟩ := I.list hv
          obtain ⟨j, h1, h2, h3, h4, h5⟩ := atI_get g1
          obtain ⟨w, ew, rw'⟩ := r2.get h2
          have hn := line63
          have hj : i.toNat = j := by
            rw [seqIndex_of h0 h5] at h1
            exact Option.some.inj h1
          exact wpAny_getItem_list pl.isList h0 (by omega) (by rw [hj]; simpa using ew) ⟨z, H, I, rw', hq d S z H hr g2 hs (.refl _ _)⟩
        · exact hr.elim
      · exact hr.elim
    · exact hr.elim
theorem dset_ix (hu : X.A.units + 100 < cLine) : PSet X (liftSet (xfw X tbl) sIx) := by
  rintro pins s σ H o i v ov iv u Q I ro ri rv ⟨od, idd, vd, S, Q0, ho, hi, hv, hs, hr, hq⟩
  unfold sIx at hr
  split at hr
  · rename_i kvs hc
    obtain ⟨⟨hk, hl⟩, q⟩ := hr
    obtain ⟨a, st, rfl, e⟩ := dctOf_get hc
    cases ho
    cases (show ov = Value.ref a from ro)
    exact dd_set hu I hs e hk hi ri hv rv (by rw [szl]; exact hl) fun st' s' I' sm w => ⟨_, I', hq _ _ (q st') sm w⟩
  · exact dset_ix0 pins s σ H o i v ov iv u Q I ro ri rv ⟨od, idd, vd, S, Q0, ho, hi, hv, hs, hr, hq⟩
theorem dop_in (hu : X.A.units + 100 < cLine) : OpR X (compareOp .In) (liftO (xfw X tbl) (oIn false)) := by
  rintro pins s σ H xv yv v u Q I rx ry ⟨x, y, S, Q0, hx, hy, hs, hr, hq⟩
  unfold oIn at hr
  split at hr
  · rename_i kvs hc
    obtain ⟨hk, q⟩ := hr
    obtain ⟨a, st, rfl, e⟩ := dctOf_get hc
    cases hy
    cases (show u = Value.ref a from ry)
    exact dd_in hu I hs e hk hx rx fun s' I' => ⟨.bl _, H, I', rfl, hq _ _ _ _ q (by rw [Bool.false_xor]; exact .bl _) hs (.refl _ _)⟩
  · exact dop_in0 hu pins s σ H xv yv v u Q I rx ry ⟨x, y, S, Q0, hx, hy, hs, hr, hq⟩
theorem dop_notin (hu : X.A.units + 100 < cLine) : OpR X (compareOp .NotIn) (liftO (xfw X tbl) (oIn true)) := by
  rintro pins s σ H xv yv v u Q I rx ry ⟨x, y, S, Q0, hx, hy, hs, hr, hq⟩
  unfold oIn at hr
  split at hr
  · rename_i kvs hc
    obtain ⟨hk, q⟩ := hr
    obtain ⟨a, st, rfl, e⟩ := dctOf_get hc
    cases hy
    cases (show u = Value.ref a from ry)
    exact dd_notIn hu I hs e hk hx rx fun s' I' => ⟨.bl _, H, I', rfl, hq _ _ _ _ q (by rw [Bool.true_xor]; exact .bl _) hs (.refl _ _)⟩
  · exact dop_notin0 hu pins s σ H xv yv v u Q I rx ry ⟨x, y, S, Q0, hx, hy, hs, hr, hq⟩
theorem dcall_len : CallR X (.builtin "len") (liftC (xfw X tbl) bLen) := by
  rintro pins s σ H xs us Q I rx ⟨ds, S, Q0, hx, hs, hr, hq⟩
  match ds, hr, hx with
  | [d], hr, hx =>
    unfold bLen at hr
    dsimp only at hr
    split at hr
    · rename_i kvs hc
      obtain ⟨v, rfl, rd⟩ := hx.one
      obtain ⟨a, st, rfl, e⟩ := dctOf_get hc
      cases rd
      obtain ⟨hd, raw, re, hl, _⟩ := dct_at I hs e
      cases rx with
      | cons h1 h2 =>
        cases h2
        cases (show _ = Value.ref a from h1)
        have hlen : kvs.length = st.es.size := by have := rent_len re; simpa using this
        refine call_len_slot (n := st.es.size) raw.typeIs PySem.F.slot_dict_len (fun Q' hq' => call_len_raw hd raw hq') (by rw [szl] at hl; omega) (by rw [szl] at hl; omega) ?_
        exact ⟨.int st.es.size, H, I.tok _, ⟨_, rfl⟩, hq _ _ _ _ hr (by rw [hlen]; exact .int _) hs (.refl _ _)⟩
    · exact dcall_len0 pins s σ H xs us Q I rx ⟨_, S, Q0, hx, hs, hr, hq⟩
theorem dcall_list (hcm : X.calm = true) : CallR X (.type "list") (liftC (xfw X tbl) bList) := by
  rintro pins s σ H xs us Q I rx ⟨ds, S, Q0, hx, hs, hr, hq⟩
  match ds, hr, hx with
  | [d], hr, hx =>
    unfold bList at hr
    dsimp only at hr
    split at hr
    · rename_i kvs hc
      obtain ⟨v, rfl, rd⟩ := hx.one
      obtain ⟨a, st, rfl, e⟩ := dctOf_get hc
      cases rd
      obtain ⟨hd, raw, re, hl, _⟩ := dct_at I hs e
      cases rx with
      | cons h1 h2 =>
        cases h2
        cases (show _ = Value.ref a from h1)
        have hlen : kvs.length = st.es.size := by have := rent_len re; simpa using this
        obtain ⟨vs, r1, r2⟩ := rent_keys re
        refine PySem.W.kdl_call (KdlSrc.rawDict hd) (I.ok.hd hcm) raw (by omega) fun h' tk acc c hk hS hit => ?_
        have hf : H s.heap.objs.size = none := I.hok.fresh (Nat.le_refl _)
        have hv : Vals vs acc.toList := by rw [items_map hit]; exact r2
        have hvl : vs.length = kvs.length := by rw [← r1.length, List.length_map]
        have I' := I.laid (a := s.heap.objs.size) (o := .lst vs) (t' := tk) hk (Nat.le_refl _) ⟨by omega, acc.toList, c, hv, by simpa using hS⟩
        exact ⟨.ref _, _, I', rfl, hq _ _ _ _ (hr _ (hs.fresh hf)) (.ref _) (hs.new hf ⟨vs, upd_same, (Stp.laid (S := S) hf).rvl r1⟩) (Stp.new hf)⟩
    · exact dcall_list0 pins s σ H xs us Q I rx ⟨_, S, Q0, hx, hs, hr, hq⟩
theorem qe_dct0 : PE X (.Dict [] [] pos) (liftE (xfw X tbl) dDct0) := ⟨fun pins s σ H Q I ⟨δ, S, Q0, hr, hs, h, hq⟩ => by
  have hf : H s.heap.objs.size = none := I.hok.fresh (Nat.le_refl _)
  have ne : (s.heap.objs.size == sysModules) = false := beq_eq_false_iff_ne.mpr (Ne.symm (Nat.ne_of_lt I.big))
  have raw : (s.heap.push { cls := .type "dict", data := .dict #[] }).DictRaw s.heap.objs.size #[] 0 := ⟨_, Heap.get?_push_size _ rfl, ⟨rfl, rfl, rfl⟩, rfl⟩
  have I' := I.laid (a := s.heap.objs.size) (o := rawO s.heap.objs.size ⟨#[], 0⟩) (t' := s.toks) (h' := s.heap.push { cls := .type "dict", data := .dict #[] }) (fun _ _ q => Heap.get?_push_of_some _ q) (Nat.le_refl _)
    ⟨⟨ne, raw⟩, let ⟨o, ho, _⟩ := raw; ⟨o, ho⟩, fun h1 h2 ⟨z, r⟩ k => ⟨z, r.at k⟩⟩
  exact wpAny_Dict_empty ⟨.ref s.heap.objs.size, _, I', rfl, hq _ _ _ _ (h _ ⟨#[], 0⟩ (hs.fresh hf)) (.ref _) (hs.new hf ⟨upd_same, .nil, Nat.zero_le _, List.nodup_nil⟩) (Stp.new hf)⟩⟩
/-- a method of a dict -/
theorem qe_dm (slot : Slot "dict" name id) (hty : typeOf (.builtin id) = pure (.type "method_descriptor")) (hm : MtR X id (liftM (xfw X tbl) r)) (ho : PE X o (liftE (xfw X tbl) to)) (ha : PA X (e :: es) (liftA (xfw X tbl) t))
    (hbase : attributeBase o name X.env (eval o X.env) = eval o X.env := by rfl)
    (hfew : ((backTo cpos (starEach (e :: es) X.env)).all (fun x => !x.1) && (backToKw cpos (keywordEach [] X.env)).all (fun x => x.1.isSome) && decide ((e :: es).length + ([] : List Keyword).length + (if ([] : List Keyword).isEmpty then 0 else 1) < 30)) = true := by rfl)
    (hline : (apos.endLine == cpos.line) = true := by rfl) (hse : starEach (e :: es) X.env = (false, eval e X.env) :: starEach es X.env := by rfl) (hplain : (backTo cpos (starEach es X.env)).any (·.1) = false := by rfl) :
    PE X (.Call (.Attribute o name apos) (e :: es) [] cpos) (liftE (xfw X tbl) (dBM okDct r to t)) := ⟨fun pins s σ H Q I ⟨δ, S, Q0, hr, hs, h, hq⟩ => by
  refine wpAny_Call_method_late hbase hfew hline rfl (thn (ho.run pins s σ H (fun v H1 => ∃ x S1, Rv (xfw X tbl) H1 x v ∧ Sim (xfw X tbl) S1 H1 ∧ Stp S H S1 H1 ∧ okDct S1 x ∧ t δ S1 fun xs S2 => r x xs S2 Q0) I ⟨δ, S, _, hr, hs, h, fun x S1 v H1 ⟨k, h1⟩ r1 s1 a1 => ⟨x, S1, r1, s1, a1, k, h1⟩⟩) fun v s1 ⟨xv, H1, I1, r1, x, S1, rx, sm1, a1, k, h1⟩ => ?_)
  obtain ⟨kvs, hc⟩ := Option.isSome_iff_exists.mp k
  obtain ⟨a, st, rfl, e1⟩ := dctOf_get hc
  cases rx
  cases (show v = Value.ref a from r1)
  obtain ⟨hd, raw, _⟩ := dct_at I1 sm1 e1
  refine ⟨"dict", id, PySem.F.plainAttrs_dict, slot, hty, raw.typeIs, fun b hb => ?_, ?_⟩
  · cases hb
    obtain ⟨ob, hob, hx, _⟩ := raw
    exact ⟨ob, hob, hx.2.1⟩
  · have hA := ha.run cpos pins s1 σ H1 (fun vs H2 => ∃ xs S2, RvL (xfw X tbl) H2 xs vs ∧ Sim (xfw X tbl) S2 H2 ∧ Stp S1 H1 S2 H2 ∧ r (.ref a) xs S2 Q0) I1 ⟨δ, S1, _, hr.stp a1, sm1, h1, fun xs S2 vs H2 h2 r2 s2 a2 => ⟨xs, S2, r2, s2, a2, h2⟩⟩
    rw [hse] at hA ⊢
    refine Calls.callWith_builtin (by show (false || (backTo cpos (starEach es X.env)).any (·.1)) = false; rw [hplain]; rfl) (Calls.evalArgs_plain ?_)
    exact thn hA fun us s2 ⟨vs, H2, I2, r2, xs, S2, rr, sm2, a2, q2⟩ => hm pins s2 σ H2 (.ref a) vs (.ref a) us Q I2 rfl r2 ⟨.ref a, xs, S2, Q0, .ref a, rr, sm2, q2, fun d S' v H' q rv sm aa => hq d S' v H' q rv sm ((a1.trans a2).trans aa)⟩⟩
theorem dmt_get (hu : X.A.units + 100 < cLine) : MtR X "dict.get" (liftM (xfw X tbl) mGet) := dl_m fun pins s σ H d ds x xs v us S Q Q0 I rx rs hd hx hs hr hq => by
  unfold mGet at hr
  split at hr
  · rename_i kvs hc
    obtain ⟨a, st, rfl, e⟩ := dctOf_get hc
    cases hd
    cases (show v = Value.ref a from rx)
    split at hr
    · rename_i k
      obtain ⟨hk, q⟩ := hr
      obtain ⟨kv, rfl, rk⟩ := hx.one
      cases rs with
      | cons h1 h2 =>
        cases h2
        exact dd_get1 hu I hs e hk rk h1 fun v w' s' I' rv rw' => ⟨v, H, I', rw', hq _ _ _ _ q rv hs (.refl _ _)⟩
    · rename_i k x
      obtain ⟨hk, q⟩ := hr
      obtain ⟨kv, xv, rfl, rk, rx2⟩ := hx.two
      cases rs with
      | cons h1 h2 =>
        cases h2 with
        | cons h2 h3 =>
          cases h3
          exact dd_get2 hu I hs e hk rk h1 rx2 h2 fun v w' s' I' rv rw' => ⟨v, H, I', rw', hq _ _ _ _ q rv hs (.refl _ _)⟩
    · exact hr.elim
  · exact hr.elim
end
def Itd (a : Addr) (st : DStm) : It :=
  ⟨fun i H => H a = some (rawO a st) ∧ ∃ hi : i < st.es.size, ∃ u, RelV u st.es[i].key, fun i H x H' => H' = H ∧ ∃ hi : i < st.es.size, RelV x st.es[i].key, fun i H => H a = some (rawO a st) ∧ st.es.size ≤ i⟩
theorem raw_at {X : Cx} {pins : List (Addr × Obj)} {σ : L2.St} {H : Hp} {s : Shared} {a : Addr} {st : DStm} (I : Inv X pins σ H s) (h : H a = some (rawO a st)) : (a == sysModules) = false ∧ s.heap.DictRaw a st.es st.ep :=
  (show ObjOk X.prog X.w H s.heap a (rawO a st) from I.hok a _ h).1
theorem rent_at {K : FW} {H : Hp} : ∀ {kvs : List (D × D)} {es : List DictEntry} {i : Nat} {p : D × D}, REnt K H kvs es → kvs[i]? = some p → ∃ e u v, es[i]? = some e ∧ Rv K H p.1 u ∧ RelV u e.key ∧ Rv K H p.2 v ∧ RelV v e.val
  | _, _, i, p, .nil, h => by simp at h
  | _, _, 0, p, .cons a b c d f g r, h => by
    simp only [List.getElem?_cons_zero, Option.some.injEq] at h
    subst h
    exact ⟨_, _, _, rfl, c, d, f, g⟩
  | _, _, i + 1, p, .cons a b c d f g r, h => by
    simp only [List.getElem?_cons_succ] at h ⊢
    exact rent_at r h
theorem turn_raw {P : Program} {w : World} {K : PySem.W.Frag} {tg : Expr} {a : Addr} {st : DStm} (it : Addr) : Turn P w K tg (Itd a st) [it] it (fun i h => h.IsKeyIter it a i st.es.size st.ep) where
  mem := List.mem_singleton.mpr rfl
  obj := fun i h hst b hb => by
    obtain rfl := List.mem_singleton.mp hb
    obtain ⟨oi, e, c, dd⟩ := hst
    exact ⟨oi, e, fun v z => by rw [dd] at z; cases z⟩
  keep := fun i h h' hst k => hst.at fun oi e => k it (List.mem_singleton.mpr rfl) oi e
  item := by
    rintro X rfl rfl rfl hc i pins s σ H E I hf hst ⟨hd, hi, u, ru⟩
    obtain ⟨f0, f1, f2, f3, f4, f5⟩ := hf it (List.mem_singleton.mpr rfl)
    obtain ⟨ns, raw⟩ := raw_at I hd
    refine wpAny_pyNext_keys_item_raw hst raw hi fun h' st' sb => ?_
    have I1 : Inv X pins σ H { s with heap := h' } := I.turned (t' := s.toks) (fun b ob hb e => (sb.2 b hb).trans e) f0 f1 f3 f4 f5
    obtain ⟨oi, e, c, dd⟩ := id st'
    exact ⟨_, rfl, go_of (s := { s with heap := h' }) e c dd (by decide) ⟨u, H, I1, ru, ⟨rfl, hi, ru⟩, st', fun b hb => (hf b hb).1⟩⟩
  done := by
    rintro X rfl rfl rfl hc i pins s σ H E I hf hst ⟨hd, hi⟩
    obtain ⟨f0, f1, f2, f3, f4, f5⟩ := hf it (List.mem_singleton.mpr rfl)
    obtain ⟨ns, raw⟩ := raw_at I hd
    exact wpAny_pyNext_keys_end_raw (I.ok.hd hc) hst raw hi fun h' eb => ⟨rfl, I.turned (t' := s.toks) (fun b ob hb e => eb b ob hb e) f0 f1 f3 f4 f5⟩
  self := fun A i s Q E hst h => wpAny_pyIter_keyiter hst h
theorem jok_raw {K : FW} {H0 : Hp} {a : Addr} {st : DStm} {kvs : List (D × D)} {stay : DS → Prop} (h : ∀ S, stay S → S a = some (.dct st kvs)) : JOk K H0 (kvs.map (·.1)) stay (Itd a st) := by
  intro i S H p hs hst
  obtain ⟨e, re, _⟩ := hs a _ (h S hst)
  have hlen : kvs.length = st.es.size := by have := rent_len re; simpa using this
  refine ⟨fun hi => ⟨e, by rw [← hlen]; simpa using hi⟩, fun d hd => ?_⟩
  rw [List.getElem?_map] at hd
  obtain ⟨q, hq, rfl⟩ := Option.map_eq_some_iff.mp hd
  obtain ⟨en, u, v, h1, h2, h3, _⟩ := rent_at re hq
  rw [Array.getElem?_toList] at h1
  obtain ⟨hi, h1⟩ := Array.getElem?_eq_some_iff.mp h1
  refine ⟨⟨e, hi, u, by rw [h1]; exact h3⟩, fun x H' ⟨eH, hi', rx⟩ => ?_⟩
  subst eH
  rw [h1] at rx
  rw [rx.inj h3]
  exact ⟨h2, hs, .refl _ _⟩
theorem ir_raw {X : Cx} {tg : Expr} : IterR X tg (fun x H R => ∃ a st, x = .ref a ∧ H a = some (rawO a st) ∧ R (Itd a st) H) := by
  rintro pins s1 σ H1 x v R I1 r1 ⟨a, st, rfl, e, q⟩
  cases (show v = Value.ref a from r1)
  obtain ⟨ns, raw⟩ := raw_at I1 e
  exact wpAny_pyIter_dict_raw ns raw (pi_one (tk := s1.toks) I1 _ (turn_raw _) ⟨_, Heap.get?_push_size _ rfl, rfl, rfl⟩ q)
theorem qi_seq {X : Cx} {tbl : Tbl} {tg l : Expr} {te : DE} (hl : PE X l (liftE (xfw X tbl) te)) : PI X tg l (liftI (xfw X tbl) (dIter te)) := by
  refine PI.imp (pi_of (r := fun x H R => (∃ a st, x = .ref a ∧ H a = some (rawO a st) ∧ R (Itd a st) H) ∨ (∃ a, x = .ref a ∧ (∃ xs, SqL X.K H a xs) ∧ R (Itl X.K a) H) ∨ (∃ a, x = .ref a ∧ (∃ xs, SqT X.K H a xs) ∧ R (Itt X.K a) H) ∨ (∃ z, x = .str z ∧ R (Its z) H)) hl ?_) ?_
  · intro pins s σ H x v R I rx h
    rcases h with h | h | h | h
    · exact ir_raw pins s σ H x v R I rx h
    · exact ir_list pins s σ H x v R I rx h
    · exact ir_tup pins s σ H x v R I rx h
    · exact ir_str pins s σ H x v R I rx h
  · rintro σ H R ⟨δ, S, Q0, hr, hs, h, hq⟩
    refine ⟨δ, S, _, hr, hs, h, fun d S1 v H1 h1 r1 s1 a1 => ?_⟩
    have dct : ∀ kvs, dctOf S1 d = some kvs → Q0 (kvs.map (·.1)) (fun S' => S' (adr d) = S1 (adr d)) S1 → (∃ a st, v = .ref a ∧ H1 a = some (rawO a st) ∧ R (Itd a st) H1) := fun kvs hc h => by
      obtain ⟨a, st, rfl, e⟩ := dctOf_get hc
      cases r1
      exact ⟨a, st, rfl, (s1 a _ e).1, hq _ _ _ _ _ h s1 a1 (jok_raw fun S' z => by rw [show S' a = S1 a from z]; exact e)⟩
    have seq : dctOf S1 d = none → (match seqOf S1 d with
      | some xs => Q0 xs (fun S' => seqOf S' d = some xs) S1
      | none => False) → (∃ a, v = .ref a ∧ (∃ xs, SqL X.K H1 a xs) ∧ R (Itl X.K a) H1) ∨ (∃ a, v = .ref a ∧ (∃ xs, SqT X.K H1 a xs) ∧ R (Itt X.K a) H1) := fun hc h => by
      split at h
      · rename_i xs e
        cases d with
        | tup ys =>
          cases e
          cases r1 with
          | tup q rr => exact .inr ⟨_, rfl, ⟨_, q⟩, hq _ _ _ _ _ h s1 a1 (jok_tup' q rr)⟩
        | fl ys =>
          cases e
          cases r1 with
          | fl q rr => exact .inl ⟨_, rfl, ⟨_, q.sq⟩, hq _ _ _ _ _ h s1 a1 (jok_list (stay_list (.fl q rr) fun _ z => nomatch z))⟩
        | ref b =>
          cases r1
          obtain ⟨c, vs, e1, hv, rr⟩ := seq_of s1 (.ref b) e
          cases e1
          obtain ⟨ws, k1, k2⟩ := stay_list (.ref b) (fun _ z => nomatch z) S1 H1 (.refl _) s1 e
          exact .inl ⟨_, rfl, ⟨_, k1⟩, hq _ _ _ _ _ h s1 a1 (jok_list (stay_list (.ref b) fun _ z => nomatch z))⟩
        | _ => cases e
      · exact h.elim
    have gen : (match dctOf S1 d with
      | some kvs => Q0 (kvs.map (·.1)) (fun S' => S' (adr d) = S1 (adr d)) S1
      | none => match seqOf S1 d with
        | some xs => Q0 xs (fun S' => seqOf S' d = some xs) S1
        | none => False) → (∃ a st, v = .ref a ∧ H1 a = some (rawO a st) ∧ R (Itd a st) H1) ∨ (∃ a, v = .ref a ∧ (∃ xs, SqL X.K H1 a xs) ∧ R (Itl X.K a) H1) ∨ (∃ a, v = .ref a ∧ (∃ xs, SqT X.K H1 a xs) ∧ R (Itt X.K a) H1) ∨ (∃ z, v = .str z ∧ R (Its z) H1) := fun h => by
      cases hc : dctOf S1 d with
      | some kvs => rw [hc] at h; exact .inl (dct kvs hc h)
      | none =>
        rw [hc] at h
        rcases seq hc h with z | z
        · exact .inr (.inl z)
        · exact .inr (.inr (.inl z))
    cases d with
    | str z => cases r1; exact .inr (.inr (.inr ⟨z, rfl, hq _ _ _ _ _ h1 s1 a1 jok_str⟩))
    | _ => exact gen h1
section
variable {K : FW} {S S0 : DS} {H H0 : Hp} {p : Addr} {o0 o : HO}
theorem Rv.updX (h : H p = some o0) (n1 : ∀ xs, o0 ≠ .tup xs) (n2 : ∀ x u, o0 ≠ .frz x u) {d : D} {v : V} (r : Rv K H d v) : Rv K (L2.upd H p o) d v := by
  refine Rv.mono (fun a vs q => ?_) (fun a vs q => ?_) d v r
  · rcases q with (q | ⟨x, q⟩) | q
    · exact .inl (.inl (by rw [upd_ne (fun z => by subst z; rw [h] at q; exact n1 _ (Option.some.inj q))]; exact q))
    · exact .inl (.inr ⟨x, by rw [upd_ne (fun z => by subst z; rw [h] at q; exact n2 _ _ (Option.some.inj q))]; exact q⟩)
    · exact .inr q
  · rcases q with ⟨x, q⟩ | q
    · exact .inl ⟨x, by rw [upd_ne (fun z => by subst z; rw [h] at q; exact n2 _ _ (Option.some.inj q))]; exact q⟩
    · exact .inr q
theorem RvL.updX (h : H p = some o0) (n1 : ∀ xs, o0 ≠ .tup xs) (n2 : ∀ x u, o0 ≠ .frz x u) : ∀ {ds : List D} {vs : List V}, RvL K H ds vs → RvL K (L2.upd H p o) ds vs
  | [], _, r => by cases r; exact .nil
  | d :: ds, _, r => by
    cases r with
    | cons q rr => exact .cons (q.updX h n1 n2) (RvL.updX h n1 n2 rr)
theorem REnt.updX (h : H p = some o0) (n1 : ∀ xs, o0 ≠ .tup xs) (n2 : ∀ x u, o0 ≠ .frz x u) : ∀ {kvs : List (D × D)} {es : List DictEntry}, REnt K H kvs es → REnt K (L2.upd H p o) kvs es
  | _, _, .nil => .nil
  | _, _, .cons a b c d e f r => .cons a b (c.updX h n1 n2) d (e.updX h n1 n2) f (REnt.updX h n1 n2 r)
theorem Sim.updX (x : Sim K S H) (h : H p = some o0) (n1 : ∀ xs, o0 ≠ .tup xs) (n2 : ∀ x u, o0 ≠ .frz x u) (n3 : NoT (H p)) (n : S p = none) : Sim K S (L2.upd H p o) := by
  refine ⟨fun a u e => ?_, tabs_upd x.tab n3⟩
  have ha : a ≠ p := fun z => by subst z; rw [n] at e; cases e
  cases u with
  | lst xs => obtain ⟨vs, e, r⟩ := x a _ e; exact ⟨vs, (upd_ne ha).trans e, r.updX h n1 n2⟩
  | ins C fs => obtain ⟨dx, vs, e, z, r⟩ := x a _ e; exact ⟨dx, vs, (upd_ne ha).trans e, z, r.updX h n1 n2⟩
  | dct st kvs => obtain ⟨e, r, l⟩ := x a _ e; exact ⟨(upd_ne ha).trans e, REnt.updX h n1 n2 r, l⟩
  | dset _ => exact (x a _ e).elim
theorem Prs.updX (h : H p = some o0) (n1 : ∀ xs, o0 ≠ .tup xs) (n2 : ∀ x u, o0 ≠ .frz x u) : Prs H (L2.upd H p o) :=
  ⟨fun b xs e => by rw [upd_ne (fun z => by subst z; rw [h] at e; exact n1 _ (Option.some.inj e))]; exact e, fun b x u e => by rw [upd_ne (fun z => by subst z; rw [h] at e; exact n2 _ _ (Option.some.inj e))]; exact e⟩
/-- the store learns of it -/
theorem Sim.learn (x : Sim K S H) {d : DO} (r : Ro K H d p) : Sim K (dupd S p d) H := by
  refine ⟨fun a u e => ?_, x.tab⟩
  by_cases ha : a = p
  · subst ha; rw [dupd_same] at e; cases e; exact r
  · rw [dupd_ne ha] at e; exact x a u e
theorem raw_nt {a : Addr} {st : DStm} : ∀ xs, rawO a st ≠ .tup xs := fun _ q => nomatch q
theorem raw_nf {a : Addr} {st : DStm} : ∀ x u, rawO a st ≠ .frz x u := fun _ _ q => nomatch q
end
section
variable {X : Cx} {tbl : Tbl} {pins : List (Addr × Obj)} {σ : L2.St} {H : Hp} {s : Shared} {S : DS} {a : Addr} {st : DStm} {kvs : List (D × D)} {A : Around} {E : Value → Shared → Prop}
/-- what stands at a raw dict that the store need not know: its pairs -/
structure RawD (X : Cx) (tbl : Tbl) (H : Hp) (a : Addr) (kvs : List (D × D)) : Prop where
  ex : ∃ st : DStm, H a = some (rawO a st) ∧ REnt (xfw X tbl) H kvs st.es.toList
  len : kvs.length ≤ sizeLine
  nd : (kvs.map fun p => nk p.1).Nodup
/-- the same as if the store knew it -/
theorem RawD.ro (r : RawD X tbl H a kvs) : ∃ st, Ro (xfw X tbl) H (.dct st kvs) a := let ⟨st, h, e⟩ := r.ex; ⟨st, h, e, r.len, r.nd⟩
theorem RawD.of {st : DStm} (r : Ro (xfw X tbl) H (.dct st kvs) a) : RawD X tbl H a kvs := ⟨⟨st, r.1, r.2.1⟩, r.2.2.1, r.2.2.2⟩
theorem raw_laid (I : Inv X pins σ H s) : Inv X pins σ (upd H s.heap.objs.size (rawO s.heap.objs.size ⟨#[], 0⟩)) { s with heap := s.heap.push { cls := .type "dict", data := .dict #[] } } := by
  have ne : (s.heap.objs.size == sysModules) = false := beq_eq_false_iff_ne.mpr (Ne.symm (Nat.ne_of_lt I.big))
  have raw : (s.heap.push { cls := .type "dict", data := .dict #[] }).DictRaw s.heap.objs.size #[] 0 := ⟨_, Heap.get?_push_size _ rfl, ⟨rfl, rfl, rfl⟩, rfl⟩
  exact I.laid (t' := s.toks) (fun _ _ q => Heap.get?_push_of_some _ q) (Nat.le_refl _) ⟨⟨ne, raw⟩, let ⟨o, ho, _⟩ := raw; ⟨o, ho⟩, fun h1 h2 ⟨z, r⟩ k => ⟨z, r.at k⟩⟩
theorem raw_fresh (I : Inv X pins σ H s) : RawD X tbl (upd H s.heap.objs.size (rawO s.heap.objs.size ⟨#[], 0⟩)) s.heap.objs.size [] := ⟨⟨_, upd_same, .nil⟩, Nat.zero_le _, List.nodup_nil⟩
theorem dput_nil {k v : D} : dput [] k v = [(k, v)] := rfl
/-- {k: v}; lf: the key is an int or a text -/
def dDct1 (lf : Bool) (tk tv : DE) : DE := fun δ S Q => tk δ S fun x S1 => tv δ S1 fun y S2 => (if lf = true then isLf x = true else isTk x = true) ∧ ∀ p st, S2 p = none → Q (.ref p) (dupd S2 p (.dct st [(x, y)]))
theorem kOk_nil {lf : Bool} {k : D} (h : if lf = true then isLf k = true else isTk k = true) : kOk [] k := by
  cases lf with
  | true => exact .inl ⟨h, fun p hp => nomatch hp⟩
  | false => exact .inr ⟨h, fun p hp => nomatch hp⟩
theorem qe_dct1 {k v : Expr} {tk tv : DE} {pos : Pos} (lf : Bool) (hu : X.A.units + 100 < cLine) (hk : PE X k (liftE (xfw X tbl) tk)) (hv : PE X v (liftE (xfw X tbl) tv)) : PE X (.Dict [some k] [v] pos) (liftE (xfw X tbl) (dDct1 lf tk tv)) := ⟨fun pins s σ H Q I ⟨δ, S, Q0, hr, hs, h, hq⟩ => by
  have hf : H s.heap.objs.size = none := I.hok.fresh (Nat.le_refl _)
  have hS := hs.fresh hf
  have I1 := raw_laid I
  -- the pair
  have pairs : wpAny (model X.prog X.w) X.A (evalPairs (pairTrees [some k] [v] X.env pos)) (fun ws s3 => ∃ u w x y S3 H3 xv yv, ws = [(u, w)] ∧ Inv X pins σ H3 s3 ∧ Rv (xfw X tbl) H3 x xv ∧ RelV xv u ∧ Rv (xfw X tbl) H3 y yv ∧ RelV yv w ∧ Sim (xfw X tbl) S3 H3 ∧
      Stp S (upd H s.heap.objs.size (rawO s.heap.objs.size ⟨#[], 0⟩)) S3 H3 ∧ (if lf = true then isLf x = true else isTk x = true) ∧ ∀ p st, S3 p = none → Q0 (.ref p) (dupd S3 p (.dct st [(x, y)]))) X.xe
      { s with heap := s.heap.push { cls := .type "dict", data := .dict #[] } } := by
    refine pairTrees_cons_walk (thn (hk.run pins _ σ _ (fun xv H2 => ∃ x S2, Rv (xfw X tbl) H2 x xv ∧ Sim (xfw X tbl) S2 H2 ∧ Stp S (upd H s.heap.objs.size (rawO s.heap.objs.size ⟨#[], 0⟩)) S2 H2 ∧ tv δ S2 fun y S2 => (if lf = true then isLf x = true else isTk x = true) ∧ ∀ p st, S2 p = none → Q0 (.ref p) (dupd S2 p (.dct st [(x, y)]))) I1
      ⟨δ, S, _, hr.stp (Stp.laid (S := S) hf), hs.laid hf, h, fun d S' v H' q r sm aa => ⟨d, S', r, sm, aa, q⟩⟩) fun u s2 ⟨xv, H2, I2, ru, x, S2, rx, sm2, a2, h2⟩ => ?_)
    refine thn (hv.run pins _ σ _ (fun yv H3 => ∃ y S3, Rv (xfw X tbl) H3 y yv ∧ Sim (xfw X tbl) S3 H3 ∧ Stp S2 H2 S3 H3 ∧ (if lf = true then isLf x = true else isTk x = true) ∧ ∀ p st, S3 p = none → Q0 (.ref p) (dupd S3 p (.dct st [(x, y)]))) I2
      ⟨δ, S2, _, (hr.stp (Stp.laid (S := S) hf)).stp a2, sm2, h2, fun d S' v H' q r sm aa => ⟨d, S', r, sm, aa, q⟩⟩) fun w s3 ⟨yv, H3, I3, rw', y, S3, ry, sm3, a3, hl, h3⟩ => ?_
    exact pairTrees_nil_walk ⟨u, w, x, y, S3, H3, xv, yv, rfl, I3, a3.rv rx, ru, ry, rw', sm3, a2.trans a3, hl, h3⟩
  -- the end: the dict is known
  have fin : ∀ (s3 : Shared) (H3 : Hp) (S3 : DS) (x y : D) (h' : Heap) (tk : Nat) (es : Array DictEntry) (ep : Nat), Inv X pins σ H3 s3 → Sim (xfw X tbl) S3 H3 → Stp S (upd H s.heap.objs.size (rawO s.heap.objs.size ⟨#[], 0⟩)) S3 H3 →
      REnt (xfw X tbl) H3 [(x, y)] es.toList → Heap.SameBut s.heap.objs.size s3.heap h' → h'.DictRaw s.heap.objs.size es ep → (∀ p st, S3 p = none → Q0 (.ref p) (dupd S3 p (.dct st [(x, y)]))) →
      EP X pins σ Q (.ref s.heap.objs.size) { s3 with heap := h', toks := tk } := fun s3 H3 S3 x y h' tk es ep I3 sm3 a3 re sb raw q => by
    have n3 : S3 s.heap.objs.size = none := a3.hid _ (by rw [upd_same]; exact fun z => nomatch z) hS
    have e3 : H3 s.heap.objs.size = some (rawO s.heap.objs.size ⟨#[], 0⟩) := a3.keep _ _ hS (fun _ z => nomatch z) upd_same
    have he : ∃ q, h'.get? s.heap.objs.size = some q := let ⟨q, hq, _⟩ := raw; ⟨q, hq⟩
    have ns := (raw_at I3 e3).1
    have I4 : Inv X pins σ (upd H3 s.heap.objs.size (rawO s.heap.objs.size ⟨es, ep⟩)) { s3 with heap := h', toks := tk } := d_write I3 (by rw [e3]; exact True.intro) sb he ⟨⟨ns, raw⟩, he, fun h1 h2 ⟨z, r⟩ k => ⟨z, r.at k⟩⟩
    have nd : (([(x, y)] : List (D × D)).map fun p => nk p.1).Nodup := by simp
    have a4 : Stp S H S3 H3 := (Stp.laid hf).trans a3
    exact ⟨.ref s.heap.objs.size, _, I4, rfl, hq _ _ _ _ (q _ ⟨es, ep⟩ n3) (.ref _) ((sm3.updX e3 raw_nt raw_nf (by rw [e3]; exact ⟨fun _ z => (nomatch z), fun _ _ z => rawO_ne (Option.some.inj z)⟩) n3).learn ⟨upd_same, re.updX e3 raw_nt raw_nf, by rw [szl]; exact (by decide : 1 ≤ 16777216), nd⟩) ((a4.updD hf).newD hf)⟩
  cases lf with
  | true =>
    refine wpAny_Dict_walk (knd := mixKind X.prog X.w) rfl rfl (fun z => nomatch z) (by decide : 1 ≤ 15) (thn pairs fun ws s3 ⟨u, w, x, y, S3, H3, xv, yv, ew, I3, rx, ru, ry, rw', sm3, a3, hl, q⟩ => ?_)
    subst ew
    have hl : isLf x = true := hl
    have e3 : H3 s.heap.objs.size = some (rawO s.heap.objs.size ⟨#[], 0⟩) := a3.keep _ _ hS (fun _ z => nomatch z) upd_same
    obtain ⟨ns, ⟨o, ho, hc, hd⟩⟩ := raw_at I3 e3
    have lp : LP (xfw X tbl) H3 [(x, y)] [(kd x, w)] := .cons ⟨hl, rfl, yv, ry, rw'⟩ .nil
    have := lf_val hl rx
    subst this
    refine ⟨[(kd x, w)], ⟨kV_is ru, rfl, True.intro⟩, ⟨o, #[], 0, ho, hc, hd, fun e he => absurd he (by simp), .nil, List.nodup_nil⟩, fun h' dd' sb => ?_⟩
    obtain ⟨o', es, ep, ho', hc', hdt, ko, pr, _⟩ := dd'
    exact fin s3 H3 S3 x y h' _ es ep I3 sm3 a3 (lp_rent lp pr fun e' he => ko e' (Array.mem_toList_iff.mp he)) sb ⟨o', ho', hc', hdt⟩ q
  | false =>
    rw [arm_eval_Dict, zip_pairTrees [some k] [v] X.env pos rfl rfl, dictDisplay_pairs (pairTrees [some k] [v] X.env pos) (List.cons_ne_nil _ _) (by show 1 < 17; decide)]
    refine wpAny_bind (wpAny_standAt (wpAny_bind (wpAny_subDictH (knd := nestedKind X.prog X.w) (show X.A.units + 8 < cLine by omega) (show 1 ≤ 15 by decide) (thn pairs fun ws s3 ⟨u, w, x, y, S3, H3, xv, yv, ew, I3, rx, ru, ry, rw', sm3, a3, hl, q⟩ => ?_))))
    subst ew
    have hl : isTk x = true := by simpa using hl
    have e3 : H3 s.heap.objs.size = some (rawO s.heap.objs.size ⟨#[], 0⟩) := a3.keep _ _ hS (fun _ z => nomatch z) upd_same
    obtain ⟨ns, ⟨o, ho, hc, hd⟩⟩ := raw_at I3 e3
    obtain ⟨b, rfl⟩ := tk_val hl rx
    cases (show u = Value.ref b from ru)
    obtain ⟨qk, eq, his⟩ := tk_is I3 hl rx
    have tp : TP (xfw X tbl) H3 [(x, y)] [(qk, b, w)] := .cons ⟨hl, eq, rx, yv, ry, rw'⟩ .nil
    refine ⟨[(qk, b, w)], ⟨rfl, rfl, his, True.intro⟩, ⟨o, #[], 0, ho, hc, hd, rfl, fun e he => (nomatch he), List.nodup_nil⟩, fun h' tk dd' sb => wpAny_pure ?_⟩
    obtain ⟨o', es, ep, ho', hc', hdt, hes, _, _⟩ := dd'
    have hes' : es.toList = [(qk, b, w)].map (entryOfKey (nestedKind X.prog X.w)) := hes
    exact fin s3 H3 S3 x y h' tk es ep I3 sm3 a3 (by rw [hes']; exact tp_rent (P := X.prog) tp) sb ⟨o', ho', hc', hdt⟩ q⟩
end
end DL
namespace DL
open PySem PySem.Spec PyProof.Rows L2 LamX
theorem meets_enum_tup (t : Addr) (items : Array Value) :
    Meets (Builtin.«enumerate.__new__» ⟨[.type "enumerate", .ref t], []⟩) (fun _ R s => s.heap.IsTuple t items ∧
      R (.ok (.ret (.ref (s.heap.objs.size + 1)))) { s with heap := (s.heap.push { cls := .type "tuple_iterator", data := .fields #[.ref t, .int 0 0] }).push { cls := .type "enumerate", data := .fields #[.none, .bool false, .ref s.heap.objs.size, rawInt 0, .none, .none] } }) :=
  .of_wp fun prog w A R s h => by
    obtain ⟨hp, g, d, tk, os⟩ := s
    obtain ⟨h1, h⟩ := h
    have hz : (hp.push { cls := .type "tuple_iterator", data := .fields #[.ref t, .int 0 0] }).objs.size = hp.objs.size + 1 := Heap.size_push ..
    have sube := sub_enumerate
    have q1 : ∀ {A' : Around} {E : Value → Shared → Prop} {Q : Value → Shared → Prop}, Q (.ref hp.objs.size) ⟨hp.push { cls := .type "tuple_iterator", data := .fields #[.ref t, .int 0 0] }, g, d, tk, os⟩ → wpAny (model prog w) A' (pyIter (.ref t)) Q E ⟨hp, g, d, tk, os⟩ :=
      fun q => wpAny_pyIter_tuple h1 q
    wp_walk using q1
    refine wpAny_stack_any fun stk => wpAny_pure ?_
    split
    · rename_i cc _ _ _ _ _
      cases (cc == Value.type "enumerate")
      · wp_walk using q1
        exact ⟨_, rfl, by rw [hz]; exact h⟩
      · wp_walk using q1
        exact ⟨_, rfl, by rw [hz]; exact h⟩
    · wp_walk using q1
      exact ⟨_, rfl, by rw [hz]; exact h⟩
theorem call_enum_tup {prog : Program} {w : World} {A : Around} {E : Value → Shared → Prop} {s : Shared} {t : Addr} {items : Array Value} {Q : Value → Shared → Prop} (h1 : s.heap.IsTuple t items)
    (h : ∀ h', IsEnum h' (s.heap.objs.size + 1) s.heap.objs.size 0 .none → h'.IsTupleIter s.heap.objs.size t 0 → (∀ b o, s.heap.get? b = some o → h'.get? b = some o) → Q (.ref (s.heap.objs.size + 1)) { s with heap := h' }) :
    wpAny (model prog w) A (call (.type "enumerate") [.ref t]) Q E s := by
  refine callType_new F.called_enumerate (by decide) (F.typeCall_enumerate_1 _) (F.newCall_enumerate_1 _) (fun obj => F.args_object_init_2 obj _) F.entry_enumerate_new (meets_enum_tup t items) ⟨h1, ?_⟩
  have hz : (s.heap.push { cls := .type "tuple_iterator", data := .fields #[.ref t, .int 0 0] }).objs.size = s.heap.objs.size + 1 := Heap.size_push ..
  have he : IsEnum ((s.heap.push { cls := .type "tuple_iterator", data := .fields #[.ref t, .int 0 0] }).push { cls := .type "enumerate", data := .fields #[.none, .bool false, .ref s.heap.objs.size, rawInt 0, .none, .none] }) (s.heap.objs.size + 1) s.heap.objs.size 0 .none := by
    have z := Heap.get?_push_size (s.heap.push { cls := .type "tuple_iterator", data := .fields #[.ref t, .int 0 0] }) (o := { cls := .type "enumerate", data := .fields #[.none, .bool false, .ref s.heap.objs.size, rawInt 0, .none, .none] }) rfl
    rw [hz] at z
    exact z
  exact ⟨⟨_, he, rfl⟩, h _ he ⟨_, Heap.get?_push_of_some _ (Heap.get?_push_size _ rfl), rfl, rfl⟩ fun b o x => Heap.get?_push_of_some _ (Heap.get?_push_of_some _ x)⟩
theorem enum_end_tup {prog : Program} {w : World} {A : Around} {E : Value → Shared → Prop} {s : Shared} {e it t : Addr} {i : Nat} {items : Array Value} {k : Int} {old : Value} {Q : Option Value → Shared → Prop} (hh : A.handled = none) (he : IsEnum s.heap e it k old) (hit : s.heap.IsTupleIter it t i)
    (ht : s.heap.IsTuple t items) (hi : items.size ≤ i) (hQ : ∀ h', Heap.ExtBut it s.heap h' → Q none { s with heap := h' }) : wpAny (model prog w) A (pyNext (.ref e)) Q E s := by
  have ty : s.TypeIs (.ref e) "enumerate" := ⟨_, he, rfl⟩
  unfold pyNext
  refine wpAny_bind (wpAny_attempt (wpAny_callSpecial?_slot (name := Str.ofString "__next__") ty F.slot_enumerate_next (wpAny_call_entry F.slot_enumerate_next ty F.entry_enumerate_next ?_ (F.args_enumerate_next_1 _))))
  show wpAny _ _ (field (.ref e) 2 >>= _) _ _ _
  refine wpAny_bind (wpAny_field he rfl (x := .ref it) rfl (wpAny_bind (wpAny_nextOf_tuple_end (show A.in1.handled = none from hh) hit ht (Array.getElem?_eq_none hi) fun h' x eb ⟨o, ho, hc⟩ => ?_)))
  exact wpAny_bind (wpAny_isInstance (T := "StopIteration") (b := true) ⟨o, ho, hc⟩ isSubtype_stop (wpAny_pure (hQ _ eb)))
/-- the items of the tuple at a with their numbers, in new pairs -/
def IteT (K : PySem.W.Frag) (a : Addr) : It :=
  ⟨fun i H => ∃ (xs : List V) (x : V), SqT K H a xs ∧ xs[i]? = some x, fun i H v H' => ∃ T x, v = .ref T ∧ H T = none ∧ H' = upd H T (.tup [.int (i : Nat), x]) ∧ ∀ xs, SqT K H a xs → xs[i]? = some x,
   fun i H => ∃ xs : List V, SqT K H a xs ∧ xs.length ≤ i⟩
theorem turn_enumT {P : Program} {w : World} {K : PySem.W.Frag} {elts : List Expr} {kk : Nat} {tpos : Pos} (a e it : Addr) :
    Turn P w K (.Tuple elts kk tpos) (IteT K a) [e, it] e (fun i h => (∃ old, IsEnum h e it ((i : Nat) : Int) old) ∧ h.IsTupleIter it a i ∧ e ≠ it ∧ a ≠ it ∧ a ≠ e) where
  mem := List.mem_cons_self
  obj := fun i h hst b hb => by
    obtain ⟨⟨old, he⟩, ⟨o, ho, hc, hd⟩, _⟩ := hst
    rcases List.mem_cons.mp hb with z | z
    · rw [z]; exact ⟨_, he, fun v q => nomatch q⟩
    · rw [List.mem_singleton.mp z]; exact ⟨o, ho, fun v q => by rw [hd] at q; cases q⟩
  keep := fun i h h' hst k => let ⟨⟨old, he⟩, hi, hne⟩ := hst; ⟨⟨old, k e List.mem_cons_self _ he⟩, hi.at fun o q => k it (List.mem_cons_of_mem _ (List.mem_singleton.mpr rfl)) o q, hne⟩
  item := by
    rintro X rfl rfl rfl hc i pins s σ H E I hf ⟨⟨old, he⟩, hit, hne, ha1, ha2⟩ ⟨xs, x, hq, hx⟩
    obtain ⟨its, rv, p, hz⟩ := I.tuple hq
    obtain ⟨u, hu, ru⟩ := rv.get hx
    have hel : e < s.heap.objs.size := Heap.lt_size he
    have hil : it < s.heap.objs.size := by obtain ⟨_, q, _⟩ := hit; exact Heap.lt_size q
    have hil' : i < its.toArray.size := by
      have := (List.getElem?_eq_some_iff.mp hu).1
      simpa using this
    have D := Draws.tuple (prog := X.prog) (w := X.w) (A := X.A.in1) (I.ok.hd hc) it a ha1 its.toArray
    refine wpAny_pyNext_enum_itemD D he ⟨hit, p⟩ hil' hne (by simp [hne, Ne.symm ha2]) fun y h' tk hy ho hst' hT hsz hk => ?_
    have : y = u := by
      rw [List.getElem?_toArray, hu] at hy
      exact (Option.some.inj hy).symm
    subst this
    refine ⟨_, rfl, wpAny_letOwnedTupleGo_enum (s := { s with heap := h', toks := tk + 1 }) ho fun h'' he' sb => ?_⟩
    have hT2 : h''.get? s.heap.objs.size = some { cls := .type "tuple", data := .seq #[.int i tk, y] } := (sb.2 _ (Nat.ne_of_gt hel)).trans hT
    have new : ObjOk X.prog X.w (upd H s.heap.objs.size (.tup [.int (i : Nat), x])) h'' s.heap.objs.size (.tup [.int (i : Nat), x]) :=
      ⟨by show 2 ≤ sizeLine; decide, [.int i tk, y], .cons ⟨_, rfl⟩ (.cons ru .nil), ⟨_, hT2, rfl, _, rfl⟩⟩
    have I1 : Inv X pins σ (upd H s.heap.objs.size (.tup [.int (i : Nat), x])) { s with heap := h'', toks := tk + 1 } :=
      I.turnedNew (ch := [e, it]) (fun b ob hb q => (sb.2 b (fun z => hb (by rw [z]; exact List.mem_cons_self))).trans (hk b ob (fun z => hb (by rw [z]; exact List.mem_cons_self)) (fun z => hb (by rw [z]; exact List.mem_cons_of_mem _ (List.mem_singleton.mpr rfl))) q)) hf (Nat.le_refl _) new
    refine ⟨.ref s.heap.objs.size, _, I1, rfl, ⟨_, x, rfl, I.hok.fresh (Nat.le_refl _), rfl, fun ys hy => by rw [I.tuple_inj hy hq]; exact hx⟩, ⟨⟨y, ?_⟩, hst'.1.at fun o q => (sb.2 it (Ne.symm hne)).trans q, hne, ha1, ha2⟩, fun b hb => ?_⟩
    · rw [show ((i + 1 : Nat) : Int) = (i : Int) + 1 by omega]; exact he'
    · have hb' : b < s.heap.objs.size := by
        rcases List.mem_cons.mp hb with z | z
        · rw [z]; exact hel
        · rw [List.mem_singleton.mp z]; exact hil
      rw [upd_ne (Nat.ne_of_lt hb')]
      exact (hf b hb).1
  done := by
    rintro X rfl rfl rfl hc i pins s σ H E I hf ⟨⟨old, he⟩, hit, hne, ha1, ha2⟩ ⟨xs, hq, hx⟩
    obtain ⟨its, rv, p, hz⟩ := I.tuple hq
    obtain ⟨f0, f1, f2, f3, f4, f5⟩ := hf it (List.mem_cons_of_mem _ (List.mem_singleton.mpr rfl))
    exact enum_end_tup (I.ok.hd hc) he hit p (by have := rv.length; simp; omega) fun h' eb => ⟨rfl, I.turned (t' := s.toks) (fun b o hb q => eb b o hb q) f0 f1 f3 f4 f5⟩
  self := fun A i s Q E hst h => let ⟨⟨_, he⟩, _⟩ := hst; wpAny_pyIter_enum he h
theorem ir_enumT {X : Cx} {e : Expr} {ta : TA} {p pos tpos : Pos} {elts : List Expr} {kk : Nat} (hg : Gl X "enumerate") (hm : X.mg "enumerate" = none) (ha : PA X [e] ta) (hs : starEach [e] X.env = [(false, eval e X.env)] := by rfl) :
    PI X (.Tuple elts kk tpos) (.Call (.Name "enumerate" p) [e] [] pos) (fun σ H R => ta σ H fun vs H1 => (∃ a xs, vs = [.ref a] ∧ SqL X.K H1 a xs ∧ R (Ite X.K a) H1) ∨ ∃ a xs, vs = [.ref a] ∧ SqT X.K H1 a xs ∧ R (IteT X.K a) H1) := by
  refine ⟨fun pins s σ H R I h => ?_⟩
  refine Call_ (ld_blt I hg hm boot_enumerate (PyProof.Rows.callWith_type1 (thn (ha.run pos pins s σ H _ I h) fun us s1 ⟨vs, H1, I1, r1, q1⟩ => ?_) hs rfl))
  rcases q1 with ⟨a, xs, rfl, hq, q⟩ | ⟨a, xs, rfl, hq, q⟩
  · cases r1 with
    | cons r rr =>
      cases rr
      cases r
      obtain ⟨its, rv, p', hz⟩ := I1.list hq
      refine call_enumerate_list p'.isList fun h' he hit hsz hk => wpAny_pyIter_enum he ?_
      refine ⟨s1.heap.objs.size + 1, [s1.heap.objs.size + 1, s1.heap.objs.size], _, _, H1, rfl, I1.kept (t' := s1.toks) hk, turn_enum a (s1.heap.objs.size + 1) s1.heap.objs.size, ⟨⟨.none, he⟩, hit, Nat.succ_ne_self _⟩, fun b hb => ?_, q⟩
      have hle : s1.heap.objs.size ≤ b := by
        rcases List.mem_cons.mp hb with z | z
        · rw [z]; exact Nat.le_add_right _ _
        · rw [List.mem_singleton.mp z]; exact Nat.le_refl _
      exact I1.fpOk hle (I1.hok.fresh hle)
  · cases r1 with
    | cons r rr =>
      cases rr
      cases r
      obtain ⟨its, rv, p', hz⟩ := I1.tuple hq
      have hlt : a < s1.heap.objs.size := let ⟨_, e1, _⟩ := p'; Heap.lt_size e1
      refine call_enum_tup (show s1.heap.IsTuple a its.toArray from p') fun h' he hit hk => wpAny_pyIter_enum he ?_
      refine ⟨s1.heap.objs.size + 1, [s1.heap.objs.size + 1, s1.heap.objs.size], _, _, H1, rfl, I1.kept (t' := s1.toks) hk, turn_enumT a (s1.heap.objs.size + 1) s1.heap.objs.size, ⟨⟨.none, he⟩, hit, Nat.succ_ne_self _, Nat.ne_of_lt hlt, Nat.ne_of_lt (Nat.lt_succ_of_lt hlt)⟩, fun b hb => ?_, q⟩
      have hle : s1.heap.objs.size ≤ b := by
        rcases List.mem_cons.mp hb with z | z
        · rw [z]; exact Nat.le_add_right _ _
        · rw [List.mem_singleton.mp z]; exact Nat.le_refl _
      exact I1.fpOk hle (I1.hok.fresh hle)
theorem jok_enumT {K : FW} {H0 : Hp} {a : Addr} {xs : List D} {vs : List V} {stay : DS → Prop} (h1 : SqT K H0 a vs) (r : RvL K H0 xs vs) : JOk K H0 (numL xs) stay (IteT K a) := by
  intro i S H p hs st
  refine ⟨fun hi => ⟨vs, p.sqT h1, by rw [← r.length]; rw [numL, List.length_map, List.length_range] at hi; exact hi⟩, fun d hd => ?_⟩
  obtain ⟨x, hx, rfl⟩ := numL_get hd
  obtain ⟨v, h2, h3⟩ := r.get hx
  refine ⟨⟨vs, v, p.sqT h1, h2⟩, fun x' H' ⟨T, y, e1, e2, e3, e4⟩ => ?_⟩
  have := e4 vs (p.sqT h1)
  rw [h2] at this
  cases this
  subst e1 e3
  exact ⟨.tup (.inl (.inl upd_same)) (.cons (.int _) (.cons ((Stp.laid (S := S) e2).rv (p.rv h3)) .nil)), hs.laid e2, Stp.laid e2⟩
def dEnum (t : DA) : DI := fun δ S Q => t δ S fun ds S1 => match ds with
  | [.tup xs] => Q (numL xs) (fun _ => True) S1
  | [x] => match lstOf S1 x with
    | some xs => Q (numL xs) (fun S' => lstOf S' x = some xs) S1
    | none => False
  | _ => False
theorem qi_enum {X : Cx} {tbl : Tbl} {e : Expr} {t : DA} {p pos tpos : Pos} {elts : List Expr} {kk : Nat} (hg : Gl X "enumerate") (hm : X.mg "enumerate" = none) (ha : PA X [e] (liftA (xfw X tbl) t)) (hs : starEach [e] X.env = [(false, eval e X.env)] := by rfl) :
    PI X (.Tuple elts kk tpos) (.Call (.Name "enumerate" p) [e] [] pos) (liftI (xfw X tbl) (dEnum t)) :=
  PI.imp (ir_enumT hg hm ha hs) fun σ H R ⟨δ, S, Q0, hr, hs, h, hq⟩ => ⟨δ, S, _, hr, hs, h, fun ds S1 vs H1 h1 r1 s1 a1 => by
    have gen : ∀ x, ds = [x] → (match lstOf S1 x with
        | some xs => Q0 (numL xs) (fun S' => lstOf S' x = some xs) S1
        | none => False) → (∃ a xs, vs = [.ref a] ∧ SqL X.K H1 a xs ∧ R (Ite X.K a) H1) ∨ ∃ a xs, vs = [.ref a] ∧ SqT X.K H1 a xs ∧ R (IteT X.K a) H1 := fun x ex h => by
      subst ex
      obtain ⟨v, rfl, rd⟩ := r1.one
      split at h
      · rename_i xs e
        obtain ⟨a, ws, rfl, hv, rr⟩ := lst_of s1 rd e
        exact .inl ⟨a, ws, rfl, hv, hq _ _ _ _ _ h s1 a1 (jok_enum (stay_lst rd))⟩
      · exact h.elim
    match ds, h1, r1, gen with
    | [.tup xs], h1, r1, _ =>
      obtain ⟨v, rfl, rd⟩ := r1.one
      cases rd with
      | tup q rr => exact .inr ⟨_, _, rfl, q, hq _ _ _ _ _ h1 s1 a1 (jok_enumT q rr)⟩
    | [.non], h1, r1, gen => exact gen _ rfl h1
    | [.bl _], h1, r1, gen => exact gen _ rfl h1
    | [.int _], h1, r1, gen => exact gen _ rfl h1
    | [.str _], h1, r1, gen => exact gen _ rfl h1
    | [.ref _], h1, r1, gen => exact gen _ rfl h1
    | [.ty _], h1, r1, gen => exact gen _ rfl h1
    | [.fl _], h1, r1, gen => exact gen _ rfl h1⟩
def dgTup (n : Nat) (t : DGs) : DG := fun d δ S Q => match d with
  | .tup xs => xs.length = n ∧ t xs δ S Q
  | d => match lstOf S d with
    | some xs => xs.length = n ∧ t xs δ S Q
    | none => False
theorem qg_tup {X : Cx} {tbl : Tbl} {pos : Pos} {es : List Expr} {k : Nat} {g : DGs} {n : Nat} {sl : List Nat} (hc : X.calm = true) (h : PGs X es (liftGs (xfw X tbl) sl g))
    (hn : (assignEach es X.env).length = n := by rfl) (hst : (assignEach es X.env).findIdx? (·.1) = none := by rfl) : PG X (.Tuple es k pos) (liftG (xfw X tbl) sl (dgTup n g)) :=
  ⟨fun pins s σ H v u Q I r ⟨d, δ, S, Q0, rv, rst, sim, hw, hq⟩ => by
    have lst : (match lstOf S d with
        | some xs => xs.length = n ∧ g xs δ S Q0
        | none => False) → wpAny (model X.prog X.w) X.A (assign (.Tuple es k pos) X.env u) (fun _ s' => ∃ σ' H', Inv X pins σ' H' s' ∧ Q σ' H') X.xe s := fun hw => by
      split at hw
      · rename_i xs e
        obtain ⟨a, vs, rfl, hv, rr⟩ := lst_of sim rv e
        exact (pg_unl hc h hn hst).run pins s σ H _ u Q I r ⟨a, vs, rfl, hv, by rw [← rr.length]; exact hw.1, xs, δ, S, Q0, rr, rst, sim, hw.2, hq⟩
      · exact hw.elim
    cases d with
    | tup xs => exact (qg_tup0 hc h hn hst).run pins s σ H v u Q I r ⟨.tup xs, δ, S, Q0, rv, rst, sim, hw, hq⟩
    | _ => exact lst hw⟩
end DL
namespace DL
open PySem PySem.Spec PyProof.Rows L2 LamX
def ddInt (ns : List Int) : List Int := ns.foldl step_dedup []
def dLenSetI (te : DE) : DE := fun δ S Q => te δ S fun x S1 => ∃ p, ∃ ns : List Int, x = .ref p ∧ S1 p = some (.lst (ns.map D.int)) ∧ ns.length < 4000 ∧ Q (.int (ddInt ns).length) S1
theorem firstMet_all (ns : List Int) : firstMet (fun i => ns.getD i 0) ns.length = ddInt ns := by
  unfold firstMet ddInt
  congr 1
  apply List.ext_getElem (by simp)
  intro i h1 h2
  simp [List.getD_eq_getElem?_getD, List.getElem?_eq_getElem h2]
theorem step_nodup {σ : List Int} {v : Int} (h : σ.Nodup) : (step_dedup σ v).Nodup := by
  unfold step_dedup
  split
  · exact h
  · rename_i g
    rw [List.nodup_append]
    refine ⟨h, by simp, fun a ha b hb => ?_⟩
    simp only [List.mem_singleton] at hb
    subst hb
    intro e
    subst e
    exact g (List.any_eq_true.mpr ⟨a, ha, by simp⟩)
theorem dd_go : ∀ (ns acc : List Int), acc.Nodup → (ns.foldl step_dedup acc).length ≤ acc.length + ns.length ∧ ((ns.foldl step_dedup acc).length = acc.length + ns.length ↔ (acc ++ ns).Nodup)
  | [], acc, h => by simp [h]
  | n :: ns, acc, h => by
    have ih := dd_go ns (step_dedup acc n) (step_nodup h)
    have hl := step_length acc n
    simp only [List.foldl_cons, List.length_cons]
    by_cases c : acc.any (· == n) = true
    · rw [if_pos c] at hl
      have hm : n ∈ acc := by
        obtain ⟨x, hx, e⟩ := List.any_eq_true.mp c
        rw [← beq_iff_eq.mp e]; exact hx
      refine ⟨by omega, ⟨fun e => by omega, fun e => ?_⟩⟩
      rw [List.nodup_append] at e
      exact absurd rfl (e.2.2 n hm n (by simp))
    · rw [if_neg c] at hl
      have es : step_dedup acc n = acc ++ [n] := by unfold step_dedup; rw [if_neg c]
      refine ⟨by omega, ?_⟩
      have := ih.2
      rw [es, List.append_assoc, List.singleton_append] at this
      rw [← this, es]
      simp only [List.length_append, List.length_singleton]
      omega
theorem ddInt_iff (ns : List Int) : (ddInt ns).length = ns.length ↔ ns.Nodup := by
  have := (dd_go ns [] List.nodup_nil).2
  simpa [ddInt] using this
theorem i_lenSet {te : DE} (h : te δ S fun x S1 => ∃ p, ∃ ns : List Int, x = .ref p ∧ S1 p = some (.lst (ns.map D.int)) ∧ ns.length < 4000 ∧ Q (.int (ddInt ns).length) S1) : dLenSetI te δ S Q := h
section
variable {X : Cx} {tbl : Tbl}
theorem qe_lenSet {a : Expr} {ta : DE} {p p2 q pos : Pos} (hc : X.calm = true) (hm : X.mg "len" = none) (hm2 : X.mg "set" = none) (hg : Gl X "len" := by rfl) (hg2 : Gl X "set" := by rfl) (ha : PE X a (liftE (xfw X tbl) ta))
    (na : starEach [a] X.env = (false, eval a X.env) :: starEach [] X.env := by rfl) : PE X (.Call (.Name "len" p) [.Call (.Name "set" p2) [a] [] q] [] pos) (liftE (xfw X tbl) (dLenSetI ta)) := by
  refine ⟨fun pins s σ H Q I ⟨δ, S, Q0, hr, hs, h, hq⟩ => ?_⟩
  refine Call_ (ld_blt I hg hm PySem.boot_len ?_)
  refine PyProof.Rows.callWith_builtin1 (PyProof.Rows.args_cons ?_ rfl) rfl rfl
  refine Call_ (ld_blt I hg2 hm2 PyProof.Rows.boot_set ?_)
  refine PyProof.Rows.callWith_type1 (PyProof.Rows.args_cons (thn (ha.run pins s σ H (fun v H1 => ∃ x S1, Rv (xfw X tbl) H1 x v ∧ Sim (xfw X tbl) S1 H1 ∧ Stp S H S1 H1 ∧ ∃ p, ∃ ns : List Int, x = .ref p ∧ S1 p = some (.lst (ns.map D.int)) ∧ ns.length < 4000 ∧ Q0 (.int (ddInt ns).length) S1) I ⟨δ, S, _, hr, hs, h, fun x S1 v H1 h1 r1 s1 a1 => ⟨x, S1, r1, s1, a1, h1⟩⟩) fun v s1 ⟨xv, H1, I1, r1, x, S1, rx, sm1, a1, l, ns, ex, hl, hb, q1⟩ => PyProof.Rows.args_nil ?_) na) na rfl
  subst ex
  cases rx
  cases (show v = Value.ref l from r1)
  obtain ⟨vs, hv, rl⟩ := sm1 _ _ hl
  have hvs : vs = ns.map V.int := rvl_ints rl
  subst hvs
  obtain ⟨its, r, pl, hz⟩ := I1.list (.inl (.of hv))
  have hl : its.toArray.size = ns.length := by rw [List.size_toArray, ← r.length, List.length_map]
  refine call_set_list (I1.ok.hd hc) pl.isList (ns := ns) (by simpa using r.ints) (by unfold scanBound; omega) fun h' tk hS hk => ?_
  rw [hl, firstMet_all] at hS
  refine PyProof.Rows.args_nil ?_
  obtain ⟨o, es, ep, t, ho, hex, hd, _, _, _, hf, hn⟩ := hS
  have I2 : Inv X pins σ H1 { s1 with heap := h', toks := tk } := I1.kept fun b o e => hk b o (Heap.lt_size e) e
  have hle : (ddInt ns).length ≤ ns.length := by have := (dd_go ns [] List.nodup_nil).1; simpa [ddInt] using this
  refine call_len_set ho hex hd hf (by rw [hn]; omega) ⟨.int (ddInt ns).length, H1, I2.tok _, ⟨_, by rw [hn]⟩, hq _ _ _ _ q1 (.int _) sm1 a1⟩
end
def truD : D → Option Bool
  | .non => some false
  | .bl b => some b
  | .int i => some (i != 0)
  | _ => none
def dOrT (a b : DE) : DE := fun δ S Q => a δ S fun x S1 => match truD x with
  | some true => Q x S1
  | some false => b δ S1 Q
  | none => False
def orT (x : D) (S : DS) (bq : Prop) (Q : DK) : Prop := match truD x with
  | some true => Q x S
  | some false => bq
  | none => False
section
variable {X : Cx} {tbl : Tbl} {a b : Expr} {ta tb : DE} {rest : List Expr} {pos : Pos}
theorem qe_orT (ha : PE X a (liftE (xfw X tbl) ta)) (hb : PE X (.BoolOp .Or (b :: rest) pos) (liftE (xfw X tbl) tb)) : PE X (.BoolOp .Or (a :: b :: rest) pos) (liftE (xfw X tbl) (dOrT ta tb)) :=
  PE.imp (pe_orT ha hb) fun σ H Q ⟨δ, S, Q0, hr, hs, h, hq⟩ => ⟨δ, S, _, hr, hs, h, fun k S1 v H1 h1 r1 s1 a1 => by
    have yes : truD k = some true → Q0 k S1 → Q v H1 := fun _ h1 => hq _ _ _ _ h1 r1 s1 a1
    have no : (match truD k with | some true => Q0 k S1 | some false => tb δ S1 Q0 | none => False) → truD k = some false → liftE (xfw X tbl) tb σ H1 Q := fun h1 e => by
      rw [e] at h1
      exact ⟨δ, S1, _, hr.stp a1, s1, h1, fun k S2 v H2 h2 r2 s2 a2 => hq k S2 v H2 h2 r2 s2 (a1.trans a2)⟩
    cases k with
    | non => cases r1; exact ⟨false, rfl, by rw [if_neg Bool.false_ne_true]; exact no h1 rfl⟩
    | bl c =>
      cases r1
      refine ⟨c, rfl, ?_⟩
      cases c with
      | true => rw [if_pos rfl]; exact yes rfl h1
      | false => rw [if_neg Bool.false_ne_true]; exact no h1 rfl
    | int i =>
      cases r1
      refine ⟨i != 0, rfl, ?_⟩
      cases hc : (i != 0) with
      | true =>
        rw [if_pos rfl]
        have e : truD (.int i) = some true := by show some (i != 0) = _; rw [hc]
        have h1 : (match truD (.int i) with | some true => Q0 (.int i) S1 | some false => tb δ S1 Q0 | none => False) := h1
        rw [e] at h1
        exact yes e h1
      | false =>
        rw [if_neg Bool.false_ne_true]
        have e : truD (.int i) = some false := by show some (i != 0) = _; rw [hc]
        exact no h1 e
    | _ => exact h1.elim⟩
end
section
variable {a b : DE} {δ : Loc} {S : DS} {Q : DK}
theorem i_orT (h : a δ S fun x S1 => orT x S1 (b δ S1 Q) Q) : dOrT a b δ S Q := h
theorem orT_non {bq : Prop} (h : bq) : orT .non S bq Q := h
theorem orT_int {i : Int} {bq : Prop} (h0 : i = 0 → bq) (h1 : i ≠ 0 → Q (.int i) S) : orT (.int i) S bq Q := by
  by_cases h : i = 0
  · subst h; exact h0 rfl
  · have e : truD (.int i) = some true := by show some (i != 0) = _; simp [h]
    unfold orT
    rw [e]; exact h1 h
end
end DL
namespace DL
open PySem PySem.Spec PyProof.Rows L2 LamX
section
variable {X : Cx} {tbl : Tbl} {pins : List (Addr × Obj)} {σ : L2.St} {H : Hp} {s : Shared} {S : DS} {a : Addr} {st : DStm} {kvs : List (D × D)} {A : Around} {E : Value → Shared → Prop}
theorem dd_dictSet {y v : V} {u r : Value} {k d : D} {Q : Unit → Shared → Prop} (hu : A.units + 100 < cLine) (I : Inv X pins σ H s) (hs : Sim (xfw X tbl) S H) (n : S a = none) (ea : H a = some (rawO a st)) (re : REnt (xfw X tbl) H kvs st.es.toList) (hn : (kvs.map fun p => nk p.1).Nodup)
    (hk : kOk kvs k) (rk : Rv (xfw X tbl) H k y) (ry : RelV y u) (rd : Rv (xfw X tbl) H d v) (rv : RelV v r) (hl : kvs.length < sizeLine)
    (h : ∀ st' s', Inv X pins σ (upd H a (rawO a st')) s' → REnt (xfw X tbl) (upd H a (rawO a st')) (dput kvs k d) st'.es.toList → ((dput kvs k d).map fun p => nk p.1).Nodup → Sim (xfw X tbl) S (upd H a (rawO a st')) → Q () s') :
    wpAny (model X.prog X.w) A (dictSet a u r) Q E s := by
  have hs1 : Sim (xfw X tbl) (dupd S a (.dct st kvs)) H := hs.learn ⟨ea, re, Nat.le_of_lt hl, hn⟩
  have e : dupd S a (.dct st kvs) a = some (.dct st kvs) := dupd_same
  have hl' : (dput kvs k d).length ≤ sizeLine := by have := length_dput kvs k d; omega
  have fin : ∀ st' s', Inv X pins σ (upd H a (rawO a st')) s' → Sim (xfw X tbl) (dupd (dupd S a (.dct st kvs)) a (.dct st' (dput kvs k d))) (upd H a (rawO a st')) → Q () s' := fun st' s' i1 i2 => by
    obtain ⟨_, q1, _, q2⟩ := i2 a _ dupd_same
    refine h st' s' i1 q1 q2 ⟨fun b o eb => i2 b o ?_, i2.tab⟩
    have hb : b ≠ a := fun z => by subst z; rw [n] at eb; cases eb
    rw [dupd_ne hb, dupd_ne hb]; exact eb
  rcases hk with ⟨h1, h2⟩ | ⟨h1, h2⟩
  · obtain ⟨vs, lp, dd⟩ := dct_lf I hs1 e h2
    have hz : vs.length ≤ sizeLine := by rw [← Paired.length lp]; omega
    have := lf_val h1 rk
    subst this
    refine wpAny_dictSet_pairs (hsz := hz) (kV_is ry) dd fun h' dd' sb => ?_
    obtain ⟨o, es, ep, ho, hc, hdt, ko, pr, _⟩ := dd'
    obtain ⟨i1, i2, _⟩ := dct_write (t' := s.toks + 1) (st' := ⟨es, ep⟩) I hs1 e sb ⟨o, ho, hc, hdt⟩ (lp_rent (dput_lp rd rv lp h1) pr fun e' he => ko e' (Array.mem_toList_iff.mp he)) hl' (dput_nodup hn)
    exact fin ⟨es, ep⟩ _ i1 i2
  · obtain ⟨xs, tp, dd⟩ := dct_tp I hs1 e h2
    have hz : xs.length ≤ sizeLine := by rw [← Paired.length tp]; omega
    obtain ⟨b, rfl⟩ := tk_val h1 rk
    cases (show u = Value.ref b from ry)
    obtain ⟨q, eq, his⟩ := tk_is I h1 rk
    refine wpAny_dictSet_heap (hsz := hz) (show A.units + 8 < cLine by omega) his dd fun h' dd' sb => ?_
    obtain ⟨o, es, ep, ho, hc, hdt, hes, _, _⟩ := dd'
    have re' := tp_rent (P := X.prog) (dput_tp rd rv tp h1 eq rk)
    obtain ⟨i1, i2, _⟩ := dct_write (t' := s.toks + (nestedKind X.prog X.w).draws q) (st' := ⟨es, ep⟩) I hs1 e sb ⟨o, ho, hc, hdt⟩ (by show REnt _ _ _ es.toList; rw [hes]; exact re') hl' (dput_nodup hn)
    exact fin ⟨es, ep⟩ _ i1 i2
end
/-- what a write to the new dict has to bring about, whatever the block it is done in -/
def Wrt (K : FW) (p : Addr) (y z : V) (H : Hp) (Nx : Hp → Prop) : Prop := ∃ (S : DS) (st : DStm) (kvs : List (D × D)) (k d : D), Sim K S H ∧ S p = none ∧ H p = some (rawO p st) ∧ REnt K H kvs st.es.toList ∧ (kvs.map fun q => nk q.1).Nodup ∧ kOk kvs k ∧ Rv K H k y ∧ Rv K H d z ∧ kvs.length < sizeLine ∧
  ∀ st', REnt K (upd H p (rawO p st')) (dput kvs k d) st'.es.toList → ((dput kvs k d).map fun q => nk q.1).Nodup → Sim K S (upd H p (rawO p st')) → Nx (upd H p (rawO p st'))
def tDcW (K : FW) (wi : TI) (g : TG) (tt : TT) (tk tv : TE) (vs : List Nat) : TE := fun σ H Q => wi σ H fun J H1 => ∀ p, H1 p = none → ∃ W : Nat → Nat → Hp → Prop, (∃ m, W 0 m (upd H1 p (rawO p ⟨#[], 0⟩))) ∧ ∀ i m H, W i m H →
  (J.stop i H ∧ Q (.ref p) H) ∨ (J.go i H ∧ ∃ Nx : Hp → Prop, (∀ H', Nx H' → ∃ m', m' < m ∧ W (i + 1) m' H') ∧ ∀ x H', J.yld i H x H' → g x (wipe σ vs) H' fun σ2 H2 => wipe σ2 vs = wipe σ vs ∧ tt σ2 H2 fun b H3 =>
    if b = true then tk σ2 H3 fun y H4 => tv σ2 H4 fun z H5 => Wrt K p y z H5 Nx else Nx H3)
section
variable {X : Cx} {tbl : Tbl} {kx vx tg iter : Expr} {ifs : List Expr} {scope : Scope} {own : List (Str × Nat)} {pos : Pos} {wi : TI} {g : TG} {tt : TT} {tk tv : TE}
/-- the comprehension, each turn writing through `Wrt`; what is done with the dict stands in hR -/
theorem dcW_core {pins : List (Addr × Obj)} {s : Shared} {σ : L2.St} {H : Hp} {Q : VK} {pos' : Pos} {use : Option (Value → Sem Unit)} {Qf : Value → Shared → Prop} (I : Inv X pins σ H s) (hu : X.A.units + 100 < cLine) (hc : X.calm = true) (hN : X.N.Nodup) (hi : PI X tg iter wi) (ok : BlkOk X.N X.env.scope scope own)
    (hg : ∀ (s : Shared) (H : Hp) (C : Addr) (cl : List (Str × Addr)) (fp : List Addr), PG (X.blk s H scope (compEnvC scope cl C X.env) fp) tg g) (ht : ∀ (s : Shared) (H : Hp) (C : Addr) (cl : List (Str × Addr)) (fp : List Addr), PTs (X.blk s H scope (compEnvC scope cl C X.env) fp) ifs tt)
    (hk : ∀ (s : Shared) (H : Hp) (C : Addr) (cl : List (Str × Addr)) (fp : List Addr), PE (X.blk s H scope (compEnvC scope cl C X.env) fp) kx tk)
    (hv : ∀ (s : Shared) (H : Hp) (C : Addr) (cl : List (Str × Addr)) (fp : List Addr), PE (X.blk s H scope (compEnvC scope cl C X.env) fp) vx tv) (hs : ∀ x, foldedSetIterable iter X.env x = pure x)
    (h : tDcW (xfw X tbl) wi g tt tk tv (own.map (·.2)) σ H Q)
    (hR : ∀ p C s' m H', Inv X pins σ H' s' → Q (.ref p) H' → s'.heap.Ns C m → FpOk X pins H' C → compPost (model X.prog X.w) X.A X.xe use Qf (.ref p) C (.ok .next) s') :
    wpAny (model X.prog X.w) X.A (comprehension (.DictComp kx vx [⟨tg, iter, ifs, 0⟩] scope pos) scope X.env pos' newDict false (eval iter X.env) use) Qf X.xe s := by
  have cells : ∀ y ∈ scope.names, y.2 = .free → ∃ c, X.env.cells.lookup y.1 = some c := fun y hy e =>
    (ok.free y hy e).elim (fun k => I.ok.has _ (.inl k)) fun k => I.ok.has _ (.inr k)
  refine wpAny_comprehension_free (use := use) rfl hs (closure_ok cells) ok.kind (fun y hy e => by rw [ok.uniq y hy, e]) (thn (hi.run pins s σ H _ I h) fun xv s1 hx => thn hx fun itv s2 h2 => ?_)
  obtain ⟨it, fp, tn, J, H2, rfl, I2, T, t2, f2, q⟩ := h2
  refine wpAny_newObj_type (newEnv_comp ?_)
  -- the dict that is laid
  have I3 := raw_laid I2
  obtain ⟨W, ⟨m0, w0⟩, turn⟩ := q s2.heap.objs.size (I2.hok.fresh (Nat.le_refl _))
  generalize hp : s2.heap.objs.size = p at I3 w0 turn ⊢
  generalize hH3 : upd H2 p (rawO p ⟨#[], 0⟩) = H3 at I3 w0
  generalize hs3 : ({ s2 with heap := s2.heap.push { cls := .type "dict", data := .dict #[] } } : Shared) = s3 at I3
  have hp3 : s3.heap = s2.heap.push { cls := .type "dict", data := .dict #[] } := by rw [← hs3]
  have old : ∀ b ∈ fp, b < s2.heap.objs.size := fun b hb => let ⟨o, e, _⟩ := T.obj _ _ t2 b hb; Heap.lt_size e
  have f3 : ∀ b ∈ fp, FpOk X pins H3 b ∧ b < s3.heap.objs.size := fun b hb => by
    refine ⟨⟨?_, (f2 b hb).2⟩, by rw [hp3, Heap.size_push]; exact Nat.lt_succ_of_lt (old b hb)⟩
    rw [← hH3, upd_ne (by rw [← hp]; exact Nat.ne_of_lt (old b hb))]
    exact (f2 b hb).1
  have t3 : tn 0 s3.heap := T.keep _ _ _ t2 fun b _ o e => by rw [hp3]; exact Heap.get?_push_of_some _ e
  have I4 := block_start I3 ok hN f3
  -- the block
  let C := s3.heap.objs.size
  let cl := cellsFrom (C + 1) scope.names (cloFrom X.env.cells scope.names [])
  let ce := compEnvC scope cl C X.env
  let Y := X.blk s3 H3 scope ce fp
  generalize hs4 : ({ s3 with heap := pushCells (s3.heap.push { cls := .type "dict", data := .dict #[] }) scope.names } : Shared) = s4 at I4
  have t4 : tn 0 s4.heap := T.keep _ _ _ t3 fun b _ o e => by rw [← hs4]; exact pushCells_keeps _ _ _ _ (Heap.get?_push_of_some _ e)
  have own' : ∀ {σ' : L2.St} {H' : Hp} {s' : Shared}, Inv Y [] σ' H' s' → (∀ b ∈ fp, H' b = none) → ∀ b ∈ fp, FpOk Y [] H' b := fun I' hn b hb =>
    ⟨hn b hb, (I'.ok.exf b hb).1, I'.ok.exfs b hb, .inl hb, fun x c e => (I'.ok.exf b hb).2 x c e, fun q hq => absurd (show q ∈ ([] : List (Addr × Obj)) ++ [] from hq) (by simp)⟩
  have loop : codeAny (model X.prog X.w) X.A (.compLoop (.DictComp kx vx [⟨tg, iter, ifs, 0⟩] scope pos) 0 (.ref it) (.ref p) ce) (compPost (model X.prog X.w) X.A X.xe use Qf (.ref p) C) s4 := by
    refine compLoop_anyD (fun n s' => ∃ i H', Inv Y [] (wipe σ (own.map (·.2))) H' s' ∧ tn i s'.heap ∧ (∀ b ∈ fp, H' b = none) ∧ W i n H') ?_ m0 ⟨0, H3, I4, t4, fun b hb => (f3 b hb).1.1, w0⟩
    rintro n s5 ⟨i, H5, I5, t5, n5, w5⟩
    rcases turn i n H5 w5 with ⟨stop, qq⟩ | ⟨go, Nx, hNx, step⟩
    · refine thnF (T.done Y rfl rfl rfl hc i [] s5 _ H5 (fun _ _ => False) I5 (own' I5 n5) t5 stop) fun r s6 ⟨hr, I6⟩ => ?_
      subst hr
      have I7 : Inv X pins σ H5 s6 := I3.call' (ch := fp) I6.os I6.base I6.hok I6.bare fun b hb => ⟨(f3 b hb).1.2.2.2.1, (f3 b hb).1.2.1, (f3 b hb).1.2.2.2.2.1, (f3 b hb).1.2.2.2.2.2⟩
      obtain ⟨m, hn, _⟩ := I6.loc
      exact hR p C s6 m H5 I7 qq hn (I3.fpOk (Nat.le_refl _) (show H5 C = none from I6.free))
    · refine thnF (T.item Y rfl rfl rfl hc i [] s5 _ H5 (fun _ _ => False) I5 (own' I5 n5) t5 go) fun r s6 ⟨u, hr, h6⟩ => ?_
      subst hr
      refine thnF h6 fun _ s7 ⟨x, H7, I7, r7, y7, t7, n7⟩ => ?_
      have I7' := I7.pinned (own' I7 n7) (T.obj _ _ t7)
      refine thnF ((hg s3 H3 C cl fp).run _ s7 _ H7 x u _ I7' r7 (step x H7 y7)) fun _ s8 ⟨σ8, H8, I8, hw8, q8⟩ => ?_
      refine thnF ((ht s3 H3 C cl fp).run _ s8 σ8 H8 _ I8 q8) fun b s9 ⟨H9, I9, q9⟩ => ?_
      have fin : ∀ {s' : Shared} {H' : Hp}, Inv Y ([] ++ pinsAt fp s7.heap) σ8 H' s' → Nx H' → ∃ m, m < n ∧ ∃ i H', Inv Y [] (wipe σ (own.map (·.2))) H' s' ∧ tn i s'.heap ∧ (∀ b ∈ fp, H' b = none) ∧ W i m H' := fun {s' H'} I' nx => by
        obtain ⟨m', hm, w'⟩ := hNx H' nx
        have pin : ∀ b ∈ fp, ∀ o, s7.heap.get? b = some o → s'.heap.get? b = some o ∧ H' b = none := fun b hb o e =>
          let z := I'.pin (b, o) (List.mem_append_right _ (List.mem_append_right _ (mem_pinsAt hb e)))
          ⟨z.1, z.2.1⟩
        refine ⟨m', hm, i + 1, H', (I'.unpinned (pins := [])).weak (by rw [← hw8, wipe_length]) (fun j v e => (wipe_some (by rw [hw8]; exact e)).1), T.keep _ _ _ t7 fun b hb o e => (pin b hb o e).1, fun b hb => ?_, w'⟩
        obtain ⟨o, e, _⟩ := T.obj _ _ t7 b hb
        exact (pin b hb o e).2
      cases b with
      | false =>
        simp only [Bool.false_eq_true, if_false] at q9 ⊢
        exact fin I9 q9
      | true =>
        simp only [if_true] at q9 ⊢
        refine thnF ((hk s3 H3 C cl fp).run _ s9 σ8 H9 _ I9 q9) fun z s10 ⟨yk, H10, I10, r10, q10⟩ => ?_
        refine thnF ((hv s3 H3 C cl fp).run _ s10 σ8 H10 _ I10 q10) fun z2 s11 ⟨yv, H11, I11, r11, S, st, kvs, k, d, sm, np, ep, re, hn, hk', rk, rd, hl, nx⟩ => ?_
        exact dd_dictSet (X := Y) hu I11 sm np ep re hn hk' rk r10 rd r11 hl fun st' s12 I12 re' hn' sm' => fin I12 (nx st' re' hn' sm')
  exact codeAny_compStart_dict loop (T.self X.A 0 _ _ _ t4 loop)
/-- as a value -/
theorem pe_dcW (hu : X.A.units + 100 < cLine) (hc : X.calm = true) (hN : X.N.Nodup) (hi : PI X tg iter wi) (ok : BlkOk X.N X.env.scope scope own)
    (hg : ∀ (s : Shared) (H : Hp) (C : Addr) (cl : List (Str × Addr)) (fp : List Addr), PG (X.blk s H scope (compEnvC scope cl C X.env) fp) tg g) (ht : ∀ (s : Shared) (H : Hp) (C : Addr) (cl : List (Str × Addr)) (fp : List Addr), PTs (X.blk s H scope (compEnvC scope cl C X.env) fp) ifs tt)
    (hk : ∀ (s : Shared) (H : Hp) (C : Addr) (cl : List (Str × Addr)) (fp : List Addr), PE (X.blk s H scope (compEnvC scope cl C X.env) fp) kx tk)
    (hv : ∀ (s : Shared) (H : Hp) (C : Addr) (cl : List (Str × Addr)) (fp : List Addr), PE (X.blk s H scope (compEnvC scope cl C X.env) fp) vx tv) (hs : ∀ x, foldedSetIterable iter X.env x = pure x := by intro _; rfl) :
    PE X (.DictComp kx vx [⟨tg, iter, ifs, 0⟩] scope pos) (tDcW (xfw X tbl) wi g tt tk tv (own.map (·.2))) := ⟨fun pins s σ H Q I h => by
  rw [arm_eval_DictComp]
  refine dcW_core I hu hc hN hi ok hg ht hk hv hs h fun p C s' m H' I' q hn f => ⟨m, hn, fun h'' sb => ?_⟩
  obtain ⟨a0, a1, a2, a3, a4, a5⟩ := f
  exact ⟨.ref p, H', I'.turned (t' := s'.toks) (fun b o hb e => (sb.2 b hb).trans e) a0 a1 a3 a4 a5, rfl, q⟩⟩
/-- bound to a name of the def -/
theorem ps_setDcW {i : Nat} {y : Str} {py spos : Pos} (hy : X.N[i]? = some y) (hyl : X.env.scope.names.lookup y = some .local) (hsw : swapsWith (.DictComp kx vx [⟨tg, iter, ifs, 0⟩] scope pos) (some (.Name y py)) spos.line X.env = pure true) (hu : X.A.units + 100 < cLine) (hc : X.calm = true) (hN : X.N.Nodup) (hi : PI X tg iter wi) (ok : BlkOk X.N X.env.scope scope own)
    (hg : ∀ (s : Shared) (H : Hp) (C : Addr) (cl : List (Str × Addr)) (fp : List Addr), PG (X.blk s H scope (compEnvC scope cl C X.env) fp) tg g) (ht : ∀ (s : Shared) (H : Hp) (C : Addr) (cl : List (Str × Addr)) (fp : List Addr), PTs (X.blk s H scope (compEnvC scope cl C X.env) fp) ifs tt)
    (hk : ∀ (s : Shared) (H : Hp) (C : Addr) (cl : List (Str × Addr)) (fp : List Addr), PE (X.blk s H scope (compEnvC scope cl C X.env) fp) kx tk)
    (hv : ∀ (s : Shared) (H : Hp) (C : Addr) (cl : List (Str × Addr)) (fp : List Addr), PE (X.blk s H scope (compEnvC scope cl C X.env) fp) vx tv) (hs : ∀ x, foldedSetIterable iter X.env x = pure x := by intro _; rfl) :
    PS X (.Assign [.Name y py] (.DictComp kx vx [⟨tg, iter, ifs, 0⟩] scope pos) spos) (tAsg (tDcW (xfw X tbl) wi g tt tk tv (own.map (·.2))) (gName i)) := ⟨fun pins s σ H D I h => by
  rw [exec_Assign_Name_used _ _ _ _ hsw]
  refine wpAny_bind (wpAny_standAt (wpAny_bind ?_))
  show wpAny _ X.A (do let _ ← comprehension (.DictComp kx vx [⟨tg, iter, ifs, 0⟩] scope pos) scope X.env (firstIterPos [⟨tg, iter, ifs, 0⟩] pos) newDict false (eval iter X.env) (some (assign (.Name y py) X.env))) _ _ s
  have h : tDcW (xfw X tbl) wi g tt tk tv (own.map (·.2)) σ H (fun x H1 => gName i x σ H1 D.nx) := h
  refine wpAny_bind (thn (dcW_core (Qf := fun _ s' => SP X pins D .next s') I hu hc hN hi ok hg ht hk hv hs h fun p C s' m H' I' q hn f => ?_) fun _ s' hq => wpAny_pure (wpAny_pure hq))
  show wpAny _ _ (assign (.Name y py) X.env (.ref p)) _ _ _
  refine wpAny_assign_Name (store_ok2 (v := V.ref p) I' hN hy (.inl hyl) rfl (fun s2 I2 ⟨a, sb, ha⟩ => ?_) (.inr hyl))
  obtain ⟨a0, a1, a2, a3, a4, a5⟩ := f
  refine ⟨m, hn.sameBut sb (ha.elim (fun z => by rw [z]; exact a1) fun z e => a4 y a z e.symm), fun h3 sb3 => ?_⟩
  exact ⟨_, H', I2.turned (t' := s2.toks) (fun b o hb e => (sb3.2 b hb).trans e) a0 a1 a3 a4 a5, q⟩⟩
end
theorem rent_stp {K : FW} {S S' : DS} {H H' : Hp} (a : Stp S H S' H') : ∀ {kvs : List (D × D)} {es : List DictEntry}, REnt K H kvs es → REnt K H' kvs es
  | _, _, .nil => .nil
  | _, _, .cons u v c d e f r => .cons u v (a.rv c) d (a.rv e) f (rent_stp a r)
def dcT (stay : DS → Prop) (g : DG) (tt : DT) (tk tv : DE) (δ : Loc) (K : List (D × D) → DS → Prop) : List D → List (D × D) → DS → Prop
  | [], kvs, S => stay S ∧ K kvs S
  | x :: r, kvs, S => stay S ∧ g x δ S fun δ2 S2 => tt δ2 S2 fun b S3 => if b = true then tk δ2 S3 fun k S4 => tv δ2 S4 fun d S5 => (kOk kvs k ∧ kvs.length < 16777216) ∧ dcT stay g tt tk tv δ K r (dput kvs k d) S5 else dcT stay g tt tk tv δ K r kvs S3
def newDc (kvs : List (D × D)) (S : DS) (Q : DK) : Prop := ∀ p st, S p = none → Q (.ref p) (dupd S p (.dct st kvs))
def dDc (di : DI) (g : DG) (tt : DT) (tk tv : DE) (vs : List Nat) : DE := fun δ S Q => di δ S fun xs stay S1 => dcT stay g tt tk tv (dwipe δ vs) (fun kvs S2 => newDc kvs S2 Q) xs [] S1
section
variable {X : Cx} {tbl : Tbl}
theorem lift_dc {di : DI} {g : DG} {tt : DT} {tk tv : DE} {sl vs : List Nat} (hsl : ∀ i ∈ sl, i ∈ vs) : ∀ σ H Q, liftE (xfw X tbl) (dDc di g tt tk tv vs) σ H Q → tDcW (xfw X tbl) (liftI (xfw X tbl) di) (liftG (xfw X tbl) sl g) (liftT (xfw X tbl) tt) (liftE (xfw X tbl) tk) (liftE (xfw X tbl) tv) vs σ H Q :=
  fun σ H Q ⟨δ, S, Q0, hr, hs, h, hq⟩ => by
    refine ⟨δ, S, _, hr, hs, h, fun xs stay S1 H1 J q1 s1 a1 jok p hp => ?_⟩
    have hp1 : S1 p = none := s1.fresh hp
    let Kd : List (D × D) → DS → Prop := fun kvs S2 => newDc kvs S2 Q0
    refine ⟨fun i m H' => m + i = xs.length ∧ ∃ kvs st S', Stp S1 H1 S' H' ∧ Sim (xfw X tbl) S' H' ∧ S' p = none ∧ H' p = some (rawO p st) ∧ REnt (xfw X tbl) H' kvs st.es.toList ∧ (kvs.map fun q => nk q.1).Nodup ∧ kvs.length ≤ sizeLine ∧ dcT stay g tt tk tv (dwipe δ vs) Kd (xs.drop i) kvs S',
      ⟨xs.length, by omega, [], ⟨#[], 0⟩, S1, (Stp.refl _ _).updD hp, s1.laid hp, hp1, upd_same, .nil, List.nodup_nil, Nat.zero_le _, by simpa using q1⟩, ?_⟩
    rintro i m H2 ⟨em, kvs, st, S2, a2, s2, n2, e2, r2, nd2, l2, h2⟩
    cases hx : xs.drop i with
    | nil =>
      rw [hx] at h2
      have hl : xs.length ≤ i := List.drop_eq_nil_iff.mp hx
      refine .inl ⟨(jok i S2 H2 a2.prs s2 h2.1).1 hl, hq _ _ _ _ (h2.2 p st n2) (.ref p) (s2.learn ⟨e2, r2, l2, nd2⟩) ((a1.trans a2).newD ?_)⟩
      cases q : H p with
      | none => rfl
      | some o => exact absurd hp (a1.live p (by rw [q]; simp))
    | cons x r =>
      rw [hx] at h2
      obtain ⟨hg1, hr1, hl⟩ := drop_get hx
      obtain ⟨hgo, hy⟩ := (jok i S2 H2 a2.prs s2 h2.1).2 x hg1
      refine .inr ⟨hgo, fun H' => ∃ kvs st S', Stp S1 H1 S' H' ∧ Sim (xfw X tbl) S' H' ∧ S' p = none ∧ H' p = some (rawO p st) ∧ REnt (xfw X tbl) H' kvs st.es.toList ∧ (kvs.map fun q => nk q.1).Nodup ∧ kvs.length ≤ sizeLine ∧ dcT stay g tt tk tv (dwipe δ vs) Kd r kvs S',
        fun H' ⟨kvs, st, S', h1, h2, h3, h4, h5, h6, h7, h8⟩ => ⟨m - 1, by omega, by omega, kvs, st, S', h1, h2, h3, h4, h5, h6, h7, by rw [← hr1]; exact h8⟩, fun x' H' y => ?_⟩
      obtain ⟨rx, sx, ax⟩ := hy x' H' y
      have hrw : Rst (xfw X tbl) H1 (dwipe δ vs) (L2.wipe σ vs) := (hr.stp a1).wipe
      refine ⟨x, _, S2, _, rx, hrw.stp (a2.trans ax), sx, h2.2, fun δ3 S3 σ3 H3 q3 r3 l3 n3 s3 a3 => ⟨wipe_same (by rw [l3, wipe_length]) n3 hsl, δ3, S3, _, r3, s3, q3, fun b S4 H4 q4 s4 a4 => ?_⟩⟩
      have b4 := (ax.trans a3).trans a4
      have n4 : S4 p = none := b4.hid p (by rw [e2]; exact fun z => nomatch z) n2
      have e4 : H4 p = some (rawO p st) := b4.keep p _ n2 (fun _ z => nomatch z) e2
      cases b with
      | false =>
        simp only [Bool.false_eq_true, if_false] at q4 ⊢
        exact ⟨kvs, st, S4, a2.trans b4, s4, n4, e4, rent_stp b4 r2, nd2, l2, q4⟩
      | true =>
        simp only [if_true] at q4 ⊢
        refine ⟨δ3, S4, _, r3.stp a4, s4, q4, fun k S5 yk H5 q5 r5 s5 a5 => ?_⟩
        refine ⟨δ3, S5, _, (r3.stp a4).stp a5, s5, q5, fun d S6 yd H6 ⟨⟨hk, z6⟩, q6⟩ r6 s6 a6 => ?_⟩
        have b6 := (b4.trans a5).trans a6
        have n6 : S6 p = none := (a5.trans a6).hid p (by rw [e4]; exact fun z => nomatch z) n4
        have e6 : H6 p = some (rawO p st) := (a5.trans a6).keep p _ n4 (fun _ z => nomatch z) e4
        exact ⟨S6, st, kvs, k, d, s6, n6, e6, rent_stp b6 r2, nd2, hk, a6.rv r5, r6, by rw [szl]; exact z6, fun st' re' nd' sm' => ⟨dput kvs k d, st', S6, (a2.trans b6).updD hp, sm', n6, upd_same, re', nd', by have := length_dput kvs k d; rw [szl]; omega, q6⟩⟩
theorem qs_setDc {i : Nat} {y : Str} {py spos : Pos} {kx vx tg iter : Expr} {ifs : List Expr} {scope : Scope} {pos : Pos} (own : List (Str × Nat)) {di : DI} {g : DG} {tt : DT} {tk tv : DE} {sl : List Nat} (hu : X.A.units + 100 < cLine) (hc : X.calm = true) (hN : X.N.Nodup) (hy : X.N[i]? = some y) (hyl : X.env.scope.names.lookup y = some .local)
    (hsw : swapsWith (.DictComp kx vx [⟨tg, iter, ifs, 0⟩] scope pos) (some (.Name y py)) spos.line X.env = pure true) (hi : PI X tg iter (liftI (xfw X tbl) di)) (ok : blkC X.N X.env.scope scope own = true)
    (hsl : ∀ i ∈ sl, i ∈ own.map (·.2))
    (hg : ∀ (s : Shared) (H : Hp) (C : Addr) (cl : List (Str × Addr)) (fp : List Addr), PG (X.blk s H scope (compEnvC scope cl C X.env) fp) tg (liftG (xfw X tbl) sl g))
    (ht : ∀ (s : Shared) (H : Hp) (C : Addr) (cl : List (Str × Addr)) (fp : List Addr), PTs (X.blk s H scope (compEnvC scope cl C X.env) fp) ifs (liftT (xfw X tbl) tt))
    (hk : ∀ (s : Shared) (H : Hp) (C : Addr) (cl : List (Str × Addr)) (fp : List Addr), PE (X.blk s H scope (compEnvC scope cl C X.env) fp) kx (liftE (xfw X tbl) tk))
    (hv : ∀ (s : Shared) (H : Hp) (C : Addr) (cl : List (Str × Addr)) (fp : List Addr), PE (X.blk s H scope (compEnvC scope cl C X.env) fp) vx (liftE (xfw X tbl) tv)) (hs : ∀ x, foldedSetIterable iter X.env x = pure x := by intro _; rfl) :
    PS X (.Assign [.Name y py] (.DictComp kx vx [⟨tg, iter, ifs, 0⟩] scope pos) spos) (liftS (xfw X tbl) (dAsg (dDc di g tt tk tv (own.map (·.2))) (dgName i))) :=
  PS.imp (ps_setDcW hy hyl hsw hu hc hN hi (blkOk_by ok) hg ht hk hv hs) fun E σ H ⟨δ, S, D0, hr, hsim, h, cv⟩ =>
    lift_dc hsl σ H _ ⟨δ, S, _, hr, hsim, h, fun d S1 v H1 h1 r1 s1 a1 => cv.nx _ S1 _ H1 h1 ((hr.stp a1).set r1) s1 a1⟩
theorem swD_true {kx vx : Expr} {gs : List Comprehension} {scope : Scope} {pos py : Pos} {y : Str} {l : Nat} {env : Env} (hk : env.scope.kind = .function) (hy : env.scope.names.lookup y = some .local) (hl : (py.line == pos.line) = true)
    (ha : (scope.names.any fun (n, k) => n == y && (k == .local || k == .cell)) = false) : swapsWith (.DictComp kx vx gs scope pos) (some (.Name y py)) l env = pure true := by
  have ky : env.kindOf y = some .local := hy
  have hb : env.blockKind = .function := by unfold Env.blockKind; rw [hk]; rfl
  unfold swapsWith
  simp only [hb, ky, ha, Expr.pos, hl]
  rfl
theorem qe_dc {kx vx tg iter : Expr} {ifs : List Expr} {scope : Scope} {pos : Pos} (own : List (Str × Nat)) {di : DI} {g : DG} {tt : DT} {tk tv : DE} {sl : List Nat} (hu : X.A.units + 100 < cLine) (hc : X.calm = true) (hN : X.N.Nodup) (hi : PI X tg iter (liftI (xfw X tbl) di)) (ok : blkC X.N X.env.scope scope own = true)
    (hsl : ∀ i ∈ sl, i ∈ own.map (·.2))
    (hg : ∀ (s : Shared) (H : Hp) (C : Addr) (cl : List (Str × Addr)) (fp : List Addr), PG (X.blk s H scope (compEnvC scope cl C X.env) fp) tg (liftG (xfw X tbl) sl g))
    (ht : ∀ (s : Shared) (H : Hp) (C : Addr) (cl : List (Str × Addr)) (fp : List Addr), PTs (X.blk s H scope (compEnvC scope cl C X.env) fp) ifs (liftT (xfw X tbl) tt))
    (hk : ∀ (s : Shared) (H : Hp) (C : Addr) (cl : List (Str × Addr)) (fp : List Addr), PE (X.blk s H scope (compEnvC scope cl C X.env) fp) kx (liftE (xfw X tbl) tk))
    (hv : ∀ (s : Shared) (H : Hp) (C : Addr) (cl : List (Str × Addr)) (fp : List Addr), PE (X.blk s H scope (compEnvC scope cl C X.env) fp) vx (liftE (xfw X tbl) tv)) (hs : ∀ x, foldedSetIterable iter X.env x = pure x := by intro _; rfl) :
    PE X (.DictComp kx vx [⟨tg, iter, ifs, 0⟩] scope pos) (liftE (xfw X tbl) (dDc di g tt tk tv (own.map (·.2)))) := PE.imp (pe_dcW hu hc hN hi (blkOk_by ok) hg ht hk hv hs) (lift_dc hsl)
end
end DL
namespace DL
open PySem PySem.Spec PyProof.Rows L2 LamX NdefX
/-- from one reading to the next: what J says of the heap stays -/
def Lasts (K : FW) (J : Hp → Prop) : Prop := ∀ S H S' H', Sim K S H → Stp S H S' H' → J H → J H'
structure KeyFn (X : Cx) (A : Around) (tbl : Tbl) (σ : L2.St) (q : Addr) (pf : List (Addr × Obj)) (J : Hp → Prop) (c : DF) : Prop where
  lasts : Lasts (xfw X tbl) J
  run : ∀ (pins : List (Addr × Obj)) (H : Hp) (s : Shared) (v : V) (u : Value) (d : D) (S : DS) (Q : DK) (E : Value → Shared → Prop), (∀ p ∈ pf, p ∈ pins) → Inv X pins σ H s → J H → RelV v u → Rv (xfw X tbl) H d v → Sim (xfw X tbl) S H → c [d] S Q →
    wpAny (model X.prog X.w) A (call (.ref q) [u]) (fun u' s' => ∃ d' S' v' H', Inv X pins σ H' s' ∧ RelV v' u' ∧ Rv (xfw X tbl) H' d' v' ∧ Sim (xfw X tbl) S' H' ∧ Stp S H S' H' ∧ Q d' S') E s
section
variable {X : Cx} {A : Around} {tbl : Tbl} {σ : L2.St} {k : Nat} {f : Addr} {fd : FuncData} {x : Str} {c : DF}
theorem env0_at {s : Shared} {H : Hp} {pins : List (Addr × Obj)} (I : Inv X pins σ H s) (hA : A.frames = some X.stack) : Env0 X.prog X.w X.K X.mg X.base A X.stack s H :=
  ⟨hA, I.ok.mod, I.bs, Nat.le_trans I.ok.bsz I.sz, I.stack, I.stkFree, I.hok, I.bare⟩
/-- a def of the module as the key -/
theorem keyfn_def (F : FnOk X.prog X.w X.K X.mg X.base CX0 k f fd [x] (liftF (xfw X tbl) 1 c)) (hr : Room k A) (hA : A.frames = some X.stack) (hb : Binds X.K fd [x] []) : KeyFn X A tbl σ f [] (fun _ => True) c := by
  refine ⟨fun _ _ _ _ _ _ _ => True.intro, fun pins H s v u d S Q E _ I _ ru rv hs h => ?_⟩
  refine wpAny_call (codeAny_mono (F.run A X.stack s H ⟨[u], []⟩ ([u] ++ []) [v] (fun v' H' => ∃ d' S', Rv (xfw X tbl) H' d' v' ∧ Sim (xfw X tbl) S' H' ∧ Stp S H S' H' ∧ Q d' S') E0 hr (env0_at I hA) (hb s [u] I.kIn rfl) (.cons ru .nil)
    ⟨rfl, [d], S, _, .cons rv .nil, hs, h, fun d' S' v' H' q r s a => ⟨d', S', r, s, a, q⟩⟩) fun r s' hq => ?_)
  cases r with
  | error e => exact (show False from hq).elim
  | ok fl =>
    cases fl with
    | ret u =>
      obtain ⟨v', H', I', rv', d', S', r1, r2, r3, r4⟩ := I.after hq
      exact ⟨d', S', v', H', I', rv', r1, r2, r3, r4⟩
    | next => exact False.elim hq
    | brk => exact False.elim hq
    | cont => exact False.elim hq
end
section
variable {X : Cx} {tbl : Tbl} {pins : List (Addr × Obj)} {σ : L2.St} {H : Hp} {s : Shared}
theorem _root_.L2.Inv.pinAdd {b : Addr} {o : Obj} (I : Inv X pins σ H s) (hb : s.heap.get? b = some o) (hn : H b = none) (hL : b ≠ X.env.locals) (hF : b ∉ X.fs) (hd : ∀ v, o.data ≠ .cell v) : Inv X ((b, o) :: pins) σ H s :=
  I.pins_of fun p hp => by
    rcases List.mem_cons.mp hp with rfl | hp
    · exact ⟨hb, hn, hL, hF, hd⟩
    · exact I.pin p (List.mem_append_right _ hp)
theorem _root_.L2.Inv.pinDrop {p : Addr × Obj} (I : Inv X (p :: pins) σ H s) : Inv X pins σ H s := I.pins_of fun q hq => I.pin q (List.mem_append_right _ (List.mem_cons_of_mem _ hq))
theorem _root_.L2.Inv.cellNe {b : Addr} {o : Obj} (I : Inv X pins σ H s) (hb : s.heap.get? b = some o) (hd : ∀ v, o.data ≠ .cell v) : ∀ x c, X.env.cells.lookup x = some c → c ≠ b := fun x c e z => by
  subst z
  obtain ⟨v, o', ho, hd'⟩ := I.cell x c e
  rw [hb] at ho; cases ho
  exact hd _ hd'
/-- a pinned thing is written -/
theorem _root_.L2.Inv.repin {b : Addr} {o o' : Obj} {h' : Heap} {t' : Nat} (I : Inv X ((b, o) :: pins) σ H s) (hs : Heap.SameBut b s.heap h') (ho : h'.get? b = some o') (hd : ∀ v, o'.data ≠ .cell v) (hk : X.s_0.heap.objs.size ≤ b) (nk : ∀ p ∈ X.pn ++ pins, p.1 ≠ b) :
    Inv X ((b, o') :: pins) σ H { s with heap := h', toks := t' } := by
  obtain ⟨e1, e2, e3, e4, e5⟩ := I.pin (b, o) (List.mem_append_right _ (.head _))
  have I1 : Inv X pins σ H { s with heap := h', toks := t' } := I.pinDrop.turned (fun c u hc e => (hs.2 c hc).trans e) e2 e3 (.inr hk) (I.cellNe e1 e5) nk
  exact I1.pinAdd ho e2 e3 e4 hd
/-- two pinned things are written, the second one is known from now on -/
theorem _root_.L2.Inv.adopt {b a : Addr} {o o2 : Obj} {h' : Heap} {t' : Nat} {vs : List V} {us : List Value} {n : Nat} (I : Inv X ((b, o) :: (a, o2) :: pins) σ H s) (hs : ∀ c u, c ≠ b → c ≠ a → s.heap.get? c = some u → h'.get? c = some u) (ho : h'.get? a = some (seqObj "list" us.toArray n))
    (rv : Vals vs us) (hz : vs.length ≤ sizeLine) (hb : X.s_0.heap.objs.size ≤ b) (ha : X.s_0.heap.objs.size ≤ a) (nb : ∀ p ∈ X.pn ++ pins, p.1 ≠ b) (na : ∀ p ∈ X.pn ++ pins, p.1 ≠ a) : Inv X pins σ (upd H a (.lst vs)) { s with heap := h', toks := t' } := by
  obtain ⟨b1, b2, b3, b4, b5⟩ := I.pin (b, o) (List.mem_append_right _ (.head _))
  obtain ⟨a1, a2, a3, a4, a5⟩ := I.pin (a, o2) (List.mem_append_right _ (.tail _ (.head _)))
  dsimp only at a1 a2 a3 a4 b1 b2 b3 b4
  have neb : ∀ c u, H c = some u → c ≠ b := fun c u e => ne_of_none e b2
  have nea : ∀ c u, H c = some u → c ≠ a := fun c u e => ne_of_none e a2
  have I0 : Inv X pins σ H s := I.pinDrop.pinDrop
  have nch : ∀ c, c ∉ [b, a] → c ≠ b ∧ c ≠ a := fun c hc => ⟨fun z => hc (by simp [z]), fun z => hc (by simp [z])⟩
  refine I0.step (g' := s.gens) (d' := s.drawn) (ch := [b, a]) (fun c hc => ?_) (fun c u _ _ hc e _ => hs c u (nch c hc).1 (nch c hc).2 e) (fun c u _ _ hc e _ => ⟨u.slots, hs c u (nch c hc).1 (nch c hc).2 e⟩)
    (fun c u hc _ e => (upd_ne (nch c hc).2).trans e) (fun c u hc e => ⟨u, hs c u (nch c hc).1 (nch c hc).2 e⟩) (fun c xs e => (upd_ne (nea _ _ e)).trans e) (fun c u w e => (upd_ne (nea _ _ e)).trans e) (fun c ps e => ⟨#[], by rw [upd_ne (nea _ _ e), e]; simp⟩) (fun m hm => ?_) (fun c u e => ?_) I.bare
  · simp only [List.mem_cons, List.not_mem_nil, or_false] at hc
    rcases hc with rfl | rfl
    · exact ⟨.inr hb, b3, I.cellNe b1 b5, nb⟩
    · exact ⟨.inr ha, a3, I.cellNe a1 a5, na⟩
  · obtain ⟨oo, es, ep, e, r⟩ := hm
    exact ⟨oo, es, ep, hs _ oo (Ne.symm b3) (Ne.symm a3) e, r⟩
  · by_cases hc : c = a
    · subst hc
      rw [upd_same] at e; cases e
      exact ⟨hz, us, n, rv, ho⟩
    · rw [upd_ne hc] at e
      refine (I0.hok c u e).stay (fun d v hd q => hs d v ?_ ?_ q) (fun d q => (upd_ne (nea _ _ q)).trans q) fun d xs q => (upd_ne (nea _ _ q)).trans q
      · rcases hd with z | z
        · rw [z]; exact neb c u e
        · exact neb d _ z
      · rcases hd with z | z
        · rw [z]; exact hc
        · exact nea d _ z
end
/-- the keys, one after the other -/
def sortKs (c : DF) (K : List D → DS → Prop) : List D → List D → DS → Prop
  | [], ks, S => K ks S
  | y :: ys, ks, S => c [y] S fun k S1 => sortKs c K ys (ks ++ [k]) S1
/-- the things in the order of their keys -/
def sortedK (xs ks : List D) : List D := ((xs.zip ks).mergeSort fun a b => dle a.2 b.2).map (·.1)
/-- keys that can be compared -/
def KeysOk (ks : List D) : Prop := (∀ k ∈ ks, k.plain = true ∧ k.dep ≤ 50) ∧ PySem.W.AllAlike (ks.map D.py) ∧ PySem.W.Sortable (ks.map D.py)
def rdL (S : DS) (ks : List D) : List D := ks.map (D.rd S 4)
section
variable {X : Cx} {tbl : Tbl} {pins : List (Addr × Obj)} {σ : L2.St} {H : Hp} {s : Shared}
theorem keys_reads {S : DS} (I : Inv X pins σ H s) (hs : Sim (xfw X tbl) S H) : ∀ {ks : List D} {vs : List V} {us : List Value}, (∀ k ∈ ks, (k.rd S 4).plain = true) → Vals vs us → RvL (xfw X tbl) H ks vs → PySem.W.EachIs (fun u d => ∃ as, Reads s.heap u d as) us ((rdL S ks).map D.py)
  | [], _, _, _, r, h => by cases h; cases r; exact .nil
  | k :: ks, _, _, hp, r, h => by
    cases h with
    | cons a b =>
      cases r with
      | cons c e => exact .cons (Rv.reads I hs 4 (hp k List.mem_cons_self) a c) (keys_reads I hs (fun x hx => hp x (List.mem_cons_of_mem _ hx)) e b)
theorem each_zip {α : Type} {R : α → D → Prop} : ∀ {us : List α} {xs ks : List D}, PySem.W.EachIs R us xs → xs.length = ks.length → PySem.W.EachIs (fun u (p : D × D) => R u p.1) us (xs.zip ks)
  | _, _, ks, .nil, _ => by rw [List.zip_nil_left]; exact .nil
  | _, _, [], .cons _ _, h => by simp at h
  | _, _, k :: ks, .cons a b, h => by rw [List.zip_cons_cons]; exact .cons a (each_zip b (by simpa using h))
theorem each_fst {α : Type} {R : α → D → Prop} : ∀ {us : List α} {ps : List (D × D)}, PySem.W.EachIs (fun u (p : D × D) => R u p.1) us ps → PySem.W.EachIs R us (ps.map (·.1))
  | _, _, .nil => .nil
  | _, _, .cons a b => .cons a (each_fst b)
theorem zip_snd {β : Type} (f : D → β) : ∀ {xs ks : List D}, xs.length = ks.length → (xs.zip ks).map (fun p => f p.2) = ks.map f
  | [], [], _ => rfl
  | [], _ :: _, h => by simp at h
  | _ :: _, [], h => by simp at h
  | x :: xs, k :: ks, h => by rw [List.zip_cons_cons, List.map_cons, List.map_cons, zip_snd f (by simpa using h)]
theorem sortK_core {l q : Addr} {vs : List V} {xs : List D} {pf : List (Addr × Obj)} {J : Hp → Prop} {c : DF} {S : DS} {KK : List D → DS → Prop} {Qv : Value → Shared → Prop} {E : Value → Shared → Prop}
    (I : Inv X (pf ++ pins) σ H s) (hJ : J H) (hs : Sim (xfw X tbl) S H) (hq : KeyFn X X.A.in1.in1 tbl σ q pf J c) (hl : SqL X.K H l vs) (rx : RvL (xfw X tbl) H xs vs) (hu : X.A.units + 100 < cLine)
    (hk : sortKs c KK xs [] S) (hKK : ∀ ks S, KK ks S → KeysOk (rdL S ks))
    (done : ∀ ks S' H' s' p us, KK ks S' → Inv X (pf ++ pins) σ (upd H' p (.lst us)) s' → H' p = none → Sim (xfw X tbl) S' H' → Stp S H S' H' → H p = none → RvL (xfw X tbl) H' (sortedK xs (rdL S' ks)) us → Qv (.ref p) s') :
    wpAny (model X.prog X.w) X.A (call (.builtin "sorted") [.ref l] [(Str.ofString "key", .ref q)]) Qv E s := by
  obtain ⟨its, rv, hil, hz⟩ := I.list hl
  have hlen : its.length = xs.length := by rw [← rv.length, rx.length]
  have hzi : its.length ≤ sizeLine := by rw [hlen, rx.length]; exact hz
  refine PySem.W.sorted_of_sort hil.isList hzi (PyProof.Rows.ksk_s1 _ _) (fun _ => PyProof.Rows.ksk_l1 _ _) fun E' => ?_
  rw [PyProof.Rows.ksk_t1]
  have ha : s.heap.objs.size ≤ s.heap.objs.size + 1 := Nat.le_succ _
  have ho := PySem.W.copyHeap_at s.heap its
  obtain ⟨e1, ho1⟩ : ∃ e1, ((PySem.W.copyHeap s.heap its).update (s.heap.objs.size + 1) (Obj.mapSeq fun _ => (#[] : Array Value))).get? (s.heap.objs.size + 1) = some (seqObj "list" #[] e1) := ⟨_, get?_update_seq ho fun _ => #[]⟩
  have hlt := Heap.lt_size ho
  have hkS : (((PySem.W.copyHeap s.heap its).update (s.heap.objs.size + 1) (Obj.mapSeq fun _ => (#[] : Array Value))).push (seqObj "tuple" its.toArray 0)).objs.size = (PySem.W.copyHeap s.heap its).objs.size + 1 := by rw [size_push', Heap.size_update]
  unfold ksk_tree
  refine wpAny_bind (listItems_at ho rfl ?_)
  refine wpAny_bind (listUpdate_at ho rfl ?_ (by rw [List.size_toArray]; exact hzi) (Nat.zero_le _))
  refine wpAny_bind (seqEpoch_at ho1 rfl ?_)
  refine wpAny_bind (wpAny_newTuple ?_ (by show its.length ≤ _; exact hzi))
  refine wpAny_bind (wpAny_newList ?_ (Nat.zero_le _))
  refine wpAny_holding ?_
  generalize hkSd : (((PySem.W.copyHeap s.heap its).update (s.heap.objs.size + 1) (Obj.mapSeq fun _ => (#[] : Array Value))).push (seqObj "tuple" its.toArray 0)).objs.size = kS at *
  obtain ⟨h2, hh2⟩ : ∃ h2, h2 = (((PySem.W.copyHeap s.heap its).update (s.heap.objs.size + 1) (Obj.mapSeq fun _ => (#[] : Array Value))).push (seqObj "tuple" its.toArray 0)).push (seqObj "list" #[] 0) := ⟨_, rfl⟩
  have old : ∀ b u, s.heap.get? b = some u → h2.get? b = some u := fun b u e => by
    rw [hh2]
    refine Heap.get?_push_of_some _ (Heap.get?_push_of_some _ ?_)
    rw [Heap.get?_update_ne _ _ _ _ (Nat.ne_of_lt (Nat.lt_succ_of_lt (Heap.lt_size e)))]
    exact PySem.W.copyHeap_old e
  have nk : h2.get? kS = some (seqObj "list" #[] 0) := by rw [hh2, ← hkSd]; exact Heap.get?_push_size _ rfl
  have na : h2.get? (s.heap.objs.size + 1) = some (seqObj "list" #[] e1) := by rw [hh2]; exact Heap.get?_push_of_some _ (Heap.get?_push_of_some _ ho1)
  have hka : s.heap.objs.size + 1 < kS := by rw [hkS]; exact Nat.lt_succ_of_lt hlt
  generalize hA : s.heap.objs.size + 1 = a at *
  have hsa : s.heap.objs.size ≤ a := by omega
  have hsk : s.heap.objs.size ≤ kS := by omega
  have ltL := I.lt
  have I2 : Inv X (pf ++ pins) σ H { s with heap := h2 } := I.kept (t' := s.toks) old
  have npin : ∀ b, s.heap.objs.size ≤ b → ∀ p ∈ X.pn ++ (pf ++ pins), p.1 ≠ b := fun b hb p hp z => by
    exact Nat.lt_irrefl _ (Nat.lt_of_lt_of_le (z ▸ Heap.lt_size (I.pin p hp).1) hb)
  have I3 : Inv X ((a, seqObj "list" #[] e1) :: (pf ++ pins)) σ H { s with heap := h2 } := I2.pinAdd na (I.hok.fresh hsa) (Nat.ne_of_gt (Nat.lt_of_lt_of_le ltL hsa)) (I.nofs hsa) (fun _ z => by cases z)
  have I4 : Inv X ((kS, seqObj "list" #[] 0) :: (a, seqObj "list" #[] e1) :: (pf ++ pins)) σ H { s with heap := h2 } := I3.pinAdd nk (I.hok.fresh hsk) (Nat.ne_of_gt (Nat.lt_of_lt_of_le ltL hsk)) (I.nofs hsk) (fun _ z => by cases z)
  have hs0 : X.s_0.heap.objs.size ≤ a := Nat.le_trans I.sz hsa
  have hs1 : X.s_0.heap.objs.size ≤ kS := Nat.le_trans I.sz hsk
  have nkp : ∀ p ∈ X.pn ++ ((a, seqObj "list" (#[] : Array Value) e1) :: (pf ++ pins)), p.1 ≠ kS := fun p hp => by
    rcases List.mem_append.mp hp with hp | hp
    · exact npin kS hsk p (List.mem_append_left _ hp)
    · rcases List.mem_cons.mp hp with rfl | hp
      · show a ≠ kS; omega
      · exact npin kS hsk p (List.mem_append_right _ hp)
  rw [← hh2]
  unfold ksk_rest
  refine wpAny_bind (wpAny_rule ?_)
  first
    | rw [List.forIn_toArray]
    | (rw [← Array.forIn_toList]; simp only [List.toList_toArray])
    | rw [← Array.forIn_toList]
  refine wpAny_bind (ksk_fold (fun i s' => ∃ H' S' kA e ks kvs, Inv X ((kS, seqObj "list" kA e) :: (a, seqObj "list" #[] e1) :: (pf ++ pins)) σ H' s' ∧ J H' ∧ Sim (xfw X tbl) S' H' ∧ Stp S H S' H' ∧ Vals kvs kA.toList ∧ RvL (xfw X tbl) H' ks kvs ∧ ks.length = i ∧ sortKs c KK (xs.drop i) ks S') its 0 _
    ⟨H, S, #[], 0, [], [], I4, hJ, hs, .refl _ _, .nil, .nil, rfl, by rw [List.drop_zero]; exact hk⟩ ?step ?done)
  case step =>
    rintro j u s' hu' ⟨H', S', kA, e, ks, kvs, I', J', hs', st', kv, rk, hkl, hk'⟩
    simp only [Nat.zero_add] at hkl hk' ⊢
    have hj : j < its.length := (List.getElem?_eq_some_iff.mp hu').1
    have hjx : j < xs.length := by omega
    have hzk : kA.size ≤ its.length := by
      have h1 : kvs.length = kA.toList.length := kv.length
      have h2 : ks.length = kvs.length := rk.length
      have h3 : kA.toList.length = kA.size := Array.length_toList ..
      omega
    obtain ⟨v, hv, hvd⟩ : ∃ v, vs[j]? = some v ∧ Rv (xfw X tbl) H xs[j] v := rx.get (List.getElem?_eq_getElem hjx)
    obtain ⟨u2, hu2, rvu⟩ := rv.get hv
    rw [hu'] at hu2
    obtain rfl := Option.some.inj hu2
    rw [List.drop_eq_getElem_cons hjx] at hk'
    refine wpAny_bind (wpAny_attempt (wpAny_mono (hq.run _ H' s' v u xs[j] S' _ (fun _ _ => False) (fun p hp => List.mem_cons_of_mem _ (List.mem_cons_of_mem _ (List.mem_append_left _ hp))) I' J' rvu (st'.rv hvd) hs' hk') (fun u' s'' hh => ?_) fun _ _ hF => hF.elim))
    obtain ⟨d', S'', v', H'', I'', rv', rd', hs'', st'', hk''⟩ := hh
    try dsimp only
    have nk2 : s''.heap.get? kS = some (seqObj "list" kA e) := (I''.pin _ (List.mem_append_right _ (.head _))).1
    have s1 := Heap.SameBut.update s''.heap kS (Obj.mapSeq (·.push u'))
    obtain ⟨c2, hc2⟩ : ∃ c2, (s''.heap.update kS (Obj.mapSeq (·.push u'))).get? kS = some (seqObj "list" (kA.push u') c2) := ⟨_, get?_update_seq nk2 (·.push u')⟩
    have ea : (kA.push u').toList = kA.toList ++ [u'] := by simp
    refine wpAny_bind (listUpdate_at nk2 rfl ?_ (Nat.le_trans hzk hzi) (Nat.le_trans (Nat.le_of_eq (Array.size_push ..)) (Nat.succ_le_succ (Nat.le_trans hzk hzi))))
    refine wpAny_pure ⟨rfl, H'', S'', kA.push u', c2, ks ++ [d'], kvs ++ [v'], I''.repin (t' := s''.toks) s1 hc2 (fun _ z => by cases z) hs1 nkp, hq.lasts _ _ _ _ hs' st'' J', hs'', st'.trans st'', ?_, ?_, ?_, hk''⟩
    · rw [ea]; exact kv.append (.cons rv' .nil)
    · exact (st''.rvl rk).append (.cons rd' .nil)
    · rw [List.length_append, hkl]; rfl
  case done =>
    rintro s' ⟨H', S', kA, e, ks, kvs, I', J', hs', st', kv, rk, hkl, hk'⟩
    rw [Nat.zero_add] at hkl hk'
    rw [List.drop_of_length_le (by omega)] at hk'
    have hk'' : KK ks S' := hk'
    obtain ⟨k1, k2, k3⟩ := hKK ks S' hk''
    have nk' : s'.heap.get? kS = some (seqObj "list" kA e) := (I'.pin _ (List.mem_append_right _ (.head _))).1
    have na' : s'.heap.get? a = some (seqObj "list" #[] e1) := (I'.pin _ (List.mem_append_right _ (.tail _ (.head _)))).1
    have hrl : xs.length = (rdL S' ks).length := by unfold rdL; rw [List.length_map, hkl, hlen]
    have hsz : kA.size = its.length := by
      have h1 : kvs.length = kA.toList.length := kv.length
      have h2 : ks.length = kvs.length := rk.length
      have h3 : kA.toList.length = kA.size := Array.length_toList ..
      omega
    have hread := keys_reads I' hs' (fun k hk => (k1 _ (List.mem_map.mpr ⟨k, hk, rfl⟩)).1) kv rk
    refine wpAny_bind (listItems_at nk' rfl ?_)
    refine PySem.W.keyH_end (h₁ := PySem.W.hideAll s'.heap [kS]) (κ := PySem.W.dataKind s'.heap ((rdL S' ks).map D.py)) (fun b u hb e => PySem.W.of_hideAll _ e) (PySem.W.hideAll_none _ (List.mem_singleton.mpr rfl)) nk' na' (Nat.ne_of_gt hka)
      (PySem.W.SortsAt.data (s := s') hread k2 k3 fun d hd => ?_) hsz hzi fun h3 tk3 c3 kp3 n3 => ⟨rfl, ?_⟩
    · obtain ⟨x, hx, rfl⟩ := List.mem_map.mp hd
      rw [D.dep_py _ (k1 x hx).1]
      have := (k1 x hx).2
      show X.A.units + 2 + _ < _
      omega
    · have hko : PySem.W.KeyedOut false (((xs.zip (rdL S' ks))).map fun p => p.2.py) its (PySem.W.sortVals (PySem.W.dataKind s'.heap ((rdL S' ks).map D.py)) false kA.toList its) := by
        rw [zip_snd D.py hrl]
        exact ⟨s'.heap, kA.toList, k2, rfl, hread⟩
      have heach := PySem.W.keyedOut_each (fun p : D × D => p.2.py) hko (each_zip (R := fun u d => ∃ v, RelV v u ∧ Rv (xfw X tbl) H' d v) (RvL.each rv (st'.rvl rx)) hrl)
      obtain ⟨ws, w1, w2⟩ := EachIs.rvl (each_fst heach)
      have hnH : H' a = none := (I'.pin _ (List.mem_append_right _ (.tail _ (.head _)))).2.1
      have hws : ws.length ≤ sizeLine := by
        rw [← w2.length, List.length_map, List.length_mergeSort, List.length_zip]; omega
      have I5 := I'.adopt (h' := h3) (t' := tk3) (fun c u hc1 hc2 e => kp3 c u hc2 (PySem.W.hideAll_get _ e (fun z => hc1 (List.mem_singleton.mp z)))) n3 w1 hws hs1 hs0 (fun p hp => npin kS hsk p hp) (fun p hp => npin a hsa p hp)
      exact done ks S' H' _ a ws hk'' I5 hnH hs' st' (I.hok.fresh hsa) w2
end
section
variable {X : Cx} {tbl : Tbl} {pins : List (Addr × Obj)} {σ : L2.St} {H : Hp} {s : Shared} {S : DS}
abbrev lamQ (X : Cx) : Str := X.env.qual ++ "<lambda>"
/-- its table, among those that are known -/
structure LamT (X : Cx) (tbl : Tbl) (c P : Addr) : Prop where
  at_ : TabB X.base X.mg c P
  mem : (P, lamQ X) ∈ tbl
  one : ∀ p ∈ tbl, p.1 = P → p.2 = lamQ X
theorem sim_grow {K : FW} {P c : Addr} {qn : Str} {ps : Array Value} {pos : Pos} (x : Sim K S H) (hP : H P = some (.tbl ps)) (hc : H c = none) (tok : TriplesOk ps.toList) (mem : (P, qn) ∈ K.tb) (one : ∀ p ∈ K.tb, p.1 = P → p.2 = qn) :
    Sim K S (upd (upd H P (.tbl (ps ++ #[rawInt pos.line, rawInt pos.col, .ref c]))) c (CodeO c qn)) ∧ Stp S H S (upd (upd H P (.tbl (ps ++ #[rawInt pos.line, rawInt pos.col, .ref c]))) c (CodeO c qn)) := by
  have nPc : P ≠ c := ne_of_none hP hc
  have same : ∀ b o, H b = some o → (∀ qs, o ≠ .tbl qs) → upd (upd H P (.tbl (ps ++ #[rawInt pos.line, rawInt pos.col, .ref c]))) c (CodeO c qn) b = some o := fun b o e n => by
    have h1 : b ≠ c := ne_of_none e hc
    have h2 : b ≠ P := fun z => by subst z; rw [hP] at e; exact n ps (Option.some.inj e).symm
    rw [upd_ne h1, upd_ne h2]; exact e
  have stp : Stp S H S (upd (upd H P (.tbl (ps ++ #[rawInt pos.line, rawInt pos.col, .ref c]))) c (CodeO c qn)) :=
    ⟨fun b xs e => same b _ e (fun _ z => nomatch z), fun b o u e => same b _ e (fun _ z => nomatch z), fun b o _ n e => same b o e n, fun _ _ n => n, fun b e => upd_live (upd_live e)⟩
  refine ⟨⟨fun a o e => ?_, fun p hp => ?_⟩, stp⟩
  · have r := x a o e
    obtain ⟨z, ez, _⟩ := r.some
    exact stp.ro ((same a z ez fun qs w => r.noT.1 qs (by rw [ez, w])).trans ez.symm) r
  · obtain ⟨qs, h1, h2, h3⟩ := x.tab p hp
    have code : ∀ {d : Addr}, H d = some (CodeO d p.2) → upd (upd H P (.tbl (ps ++ #[rawInt pos.line, rawInt pos.col, .ref c]))) c (CodeO c qn) d = some (CodeO d p.2) := fun e => same _ _ e codeO_ne
    by_cases hp1 : p.1 = P
    · rw [hp1, hP] at h1
      have e1 : qs = ps := by injection h1 with h1; injection h1 with h1; exact h1.symm
      subst e1
      refine ⟨_, by rw [hp1, upd_ne nPc, upd_same], ?_, fun ppos cv hcv => ?_⟩
      · rw [Array.toList_append]; exact TriplesOk_snoc _ _ _ _ tok
      · rw [Array.toList_append] at hcv
        rcases among_app _ tok hcv with z | z
        · obtain ⟨d, e1, e2⟩ := h3 ppos cv z
          exact ⟨d, e1, code e2⟩
        · exact ⟨c, z, by rw [one p hp hp1]; exact upd_same⟩
    · refine ⟨qs, ?_, h2, fun ppos cv hcv => ?_⟩
      · rw [upd_ne (ne_of_none h1 hc), upd_ne hp1]; exact h1
      · obtain ⟨d, e1, e2⟩ := h3 ppos cv hcv
        exact ⟨d, e1, code e2⟩
/-- the lambda's function object is new, its code object known -/
theorem lam_mk {c P : Addr} {params : Arguments} {body : Expr} {scope : Scope} {pos : Pos} {E : Value → Shared → Prop} {Q : Value → Shared → Prop} (I : Inv X pins σ H s) (hs : Sim (xfw X tbl) S H) (L : LamT X tbl c P) (hcode : X.env.code = .ref c) (hdef : defaultsOf params X.env = ([], []))
    (hfree : ∀ y ∈ scope.names, y.2 = .free → ∃ c, X.env.cells.lookup y.1 = some c)
    (h : ∀ (f c' : Addr) (pm ctv : Value) (H1 : Hp) (s' : Shared), Inv X pins σ H1 s' → Sim (xfw X tbl) S H1 → Stp S H S H1 → H1 c' = some (CodeO c' (lamQ X)) → H1 f = none → f ∉ X.fs → f ≠ X.env.locals →
      s'.heap.get? f = some (PySem.W.kla_obj "<lambda>" (lamQ X) params body scope (cloFrom X.env.cells scope.names []) pm c' ctv) → Q (.ref f) s') :
    wpAny (model X.prog X.w) X.A (eval (.Lambda params body scope pos) X.env) Q E s := by
  obtain ⟨ps, hP, tok, hall⟩ := hs.tab _ L.mem
  have hPo := I.hok P _ hP
  have bP := L.at_.bm.keeps I.bk
  have nf : ∀ a, s.heap.objs.size ≤ a → H a = none ∧ a ∉ X.fs ∧ a ≠ X.env.locals := fun a ha => ⟨I.hok.fresh ha, I.nofs ha, Nat.ne_of_gt (Nat.lt_of_lt_of_le I.lt ha)⟩
  refine PySem.W.kla_eval hdef ?_
  cases hc : codeAmong pos ps.toList with
  | some cv =>
    obtain ⟨d, rfl, hd⟩ := hall pos cv hc
    refine PySem.W.kla_makeFunctionHit (P := P) (closure_ok hfree) I.ok.glob (I.mod.glob.keeps I.bk) hcode (L.at_.code.keeps I.bk) hPo tok hc bP fun ctv h' tk old hsz => ?_
    have I1 := I.kept (t' := tk) (h' := h'.push (PySem.W.kla_obj "<lambda>" (lamQ X) params body scope (cloFrom X.env.cells scope.names []) ((X.mg "__name__").getD .none) d ctv)) fun b o e => Heap.get?_push_of_some _ (old b o e)
    obtain ⟨n1, n2, n3⟩ := nf _ hsz
    exact h _ d _ ctv H _ I1 hs (.refl _ _) hd n1 n2 n3 (Heap.get?_push_size _ rfl)
  | none =>
    refine PySem.W.kla_makeFunction (P := P) (closure_ok hfree) I.ok.glob (I.mod.glob.keeps I.bk) hcode (L.at_.code.keeps I.bk) hPo tok hc L.at_.gP bP fun d ctv h' tk old hge hlt rec tb' => ?_
    obtain ⟨d2, od, ws, tq, e2, g1, g2, g3⟩ := rec
    cases e2
    obtain ⟨m1, m2⟩ := sim_grow (pos := pos) hs hP (I.hok.fresh hge) tok L.mem L.one
    have hsz : s.heap.objs.size ≤ h'.objs.size := Nat.le_of_lt (Nat.lt_of_le_of_lt hge hlt)
    have I1 := inv_table (t' := tk) (more := #[rawInt pos.line, rawInt pos.col, .ref d]) (h' := h'.push (PySem.W.kla_obj "<lambda>" (lamQ X) params body scope (cloFrom X.env.cells scope.names []) ((X.mg "__name__").getD .none) d ctv)) I hP
      (fun b o nb e => Heap.get?_push_of_some _ (old b o nb e)) (Heap.get?_push_of_some _ tb') hge ⟨od, ws, tq, Heap.get?_push_of_some _ g1, g2, g3⟩
    obtain ⟨n1, n2, n3⟩ := nf _ hsz
    refine h _ d _ ctv _ _ I1 m1 m2 upd_same ?_ n2 n3 (Heap.get?_push_size _ rfl)
    rw [upd_ne (Nat.ne_of_gt hlt), upd_ne (Nat.ne_of_gt (Nat.lt_of_lt_of_le (Heap.lt_size hPo) hsz))]
    exact n1
end
/-- the arounds in which built-ins call -/
def InB (X : Cx) (A : Around) : Prop := A = X.A.in1 ∨ A = X.A.in1.in1
theorem InB.frames {X : Cx} {A : Around} (ok : X.Ok) (h : InB X A) : A.frames = some X.stack := by
  rcases h with rfl | rfl <;> exact ok.frames
theorem InB.room {X : Cx} {A : Around} {n : Nat} (hr : Room (4 * n + 3) X.A) (h : InB X A) : Room (4 * n + 1) A := by
  rcases h with rfl | rfl
  · exact (rm4i hr).1.mono (by omega)
  · exact (rm4i hr).2
structure KeyEx (X : Cx) (tbl : Tbl) (e : Expr) (cc : Loc → DF) : Prop where
  run : ∀ (pins : List (Addr × Obj)) (s : Shared) (σ : L2.St) (H : Hp) (δ : Loc) (S : DS) (Q : Value → Shared → Prop), Inv X pins σ H s → Rst (xfw X tbl) H δ σ → Sim (xfw X tbl) S H →
    (∀ (q : Addr) (s' : Shared) (H1 : Hp) (pf : List (Addr × Obj)) (J : Hp → Prop), Inv X (pf ++ pins) σ H1 s' → Sim (xfw X tbl) S H1 → Stp S H S H1 → (∀ A, InB X A → KeyFn X A tbl σ q pf J (cc δ)) → J H1 → Q (.ref q) s') →
    wpAny (model X.prog X.w) X.A (eval e X.env) Q X.xe s
section
variable {X : Cx} {tbl : Tbl} {n : Nat} {f : Addr} {fd : FuncData} {x y : Str} {c : DF} {pos : Pos}
theorem key_def (F : FnOk X.prog X.w X.K X.mg X.base CX0 (4 * n) f fd [y] (liftF (xfw X tbl) 1 c)) (hr : Room (4 * n + 3) X.A) (hg : Gl X x) (hm : X.mg x = some (.ref f)) (hb : Binds X.K fd [y] []) (hd : (x == ("__debug__" : Str)) = false := by decide) :
    KeyEx X tbl (.Name x pos) (fun _ => c) := by
  refine ⟨fun pins s σ H δ S Q I hR hs h => ?_⟩
  refine wpAny_mono ((pe_glob (pos := pos) (v := .ref f) hg hm rfl hd).run pins s σ H (fun v H' => v = .ref f ∧ H' = H) I ⟨rfl, rfl⟩) (fun u s' hq => ?_) fun _ _ e => e
  obtain ⟨v, H', I', ru, rfl, rfl⟩ := hq
  obtain rfl : u = Value.ref f := ru
  exact h f s' _ [] (fun _ => True) I' hs (.refl _ _) (fun A hA => keyfn_def F ((InB.room hr hA).mono (by omega)) (hA.frames I.ok) hb) True.intro
def slotD (δ : Loc) (j : Nat) : Option D := match δ[j]? with
  | some o => o
  | none => none
def startD (nl : Nat) (ds : List D) (wd : List (Option D)) : Loc := ds.map some ++ (wd ++ List.replicate (nl - ds.length - wd.length) none)
/-- a lambda's reading: its names are the parameter, what it captures (at js), its own -/
def lamK (nl : Nat) (js : List Nat) (t : DE) : Loc → DF := fun δ ds S Q => ds.length = 1 ∧ t (startD nl ds (js.map (slotD δ))) S Q
theorem rst_startD {K : FW} {H : Hp} {δ : Loc} {σ : L2.St} {N : List Str} {js : List Nat} {d : D} {v : V} (r : Rst K H δ σ) (rv : Rv K H d v) : Rst K H (startD N.length [d] (js.map (slotD δ))) (startF N [v] (js.map (slotAt σ))) := by
  unfold startD startF
  refine ⟨by simp, fun i e h => ?_⟩
  rw [List.map_cons, List.map_nil, List.singleton_append] at h
  show ∃ v', ([v].map some ++ _)[i]? = _ ∧ _
  rw [List.map_cons, List.map_nil, List.singleton_append]
  cases i with
  | zero =>
    rw [List.getElem?_cons_zero] at h ⊢
    obtain rfl := Option.some.inj (Option.some.inj h)
    exact ⟨v, rfl, rv⟩
  | succ i =>
    rw [List.getElem?_cons_succ] at h ⊢
    by_cases hi : i < js.length
    · rw [List.getElem?_append_left (by rw [List.length_map]; exact hi), List.getElem?_map, List.getElem?_eq_getElem hi] at h
      have h1 : slotD δ js[i] = some e := Option.some.inj h
      have h2 : δ[js[i]]? = some (some e) := by
        unfold slotD at h1
        split at h1
        · rename_i o ho; rw [ho, h1]
        · cases h1
      obtain ⟨w, w1, w2⟩ := r.2 _ _ h2
      exact ⟨w, by rw [List.getElem?_append_left (by rw [List.length_map]; exact hi), List.getElem?_map, List.getElem?_eq_getElem hi]; exact congrArg some (slotAt_of w1), w2⟩
    · rw [List.getElem?_append_right (by rw [List.length_map]; omega), List.getElem?_replicate] at h
      split at h <;> cases h
theorem key_lam {N fr : List Str} {js : List Nat} {cA P : Addr} {params : Arguments} {body : Expr} {scope : Scope} {t : DE} (L : LamT X tbl cA P) (hcode : X.env.code = .ref cA) (hr : Room (4 * n + 3) X.A) (S : NScope N [y] fr scope)
    (hdef : defaultsOf params X.env = ([], [])) (hdB : ndefB X.env.scope scope fr = true) (hjs : js.map (fun j => X.N[j]?) = fr.map some)
    (hbind : ∀ (q : Str) (cl : List (Str × Addr)) (pm cv ctv u : Value), bindArgs (PySem.W.kla_fn "<lambda>" q params body scope cl pm cv ctv) ⟨[u], []⟩ = pure [(y, u)])
    (hbody : ∀ (qn : Str) (cl : List (Str × Addr)) (c' f : Addr) (A : Around) (s : Shared) (H : Hp) (E : XK), Room (4 * n) (A.deeper (envF ⟨"<lambda>", qn, params, [], scope, cl, c'⟩ f s.heap.objs.size)) →
      PE (ncx CX0 X.prog X.w X.K X.mg X.base N ⟨"<lambda>", qn, params, [], scope, cl, c'⟩ f A X.stack s H E).nox body (liftE (xfw X tbl) t)) :
    KeyEx X tbl (.Lambda params body scope pos) (lamK N.length js t) := by
  refine ⟨fun pins s σ H δ S0 Q I hR hs h => ?_⟩
  have hfree := ndef_free hdB
  have hfr2 : ∀ y ∈ scope.names, y.2 = .free → ∃ c, X.env.cells.lookup y.1 = some c := fun y hy e => (hfree y hy e).elim (fun z => I.ok.has _ (.inl z)) fun z => I.ok.has _ (.inr z)
  refine lam_mk I hs L hcode hdef hfr2 fun f c' pm ctv H1 s1 I1 hs1 st1 hc' hf1 hf2 hf3 hfo => ?_
  have I2 : Inv X ([(f, PySem.W.kla_obj "<lambda>" (lamQ X) params body scope (cloFrom X.env.cells scope.names []) pm c' ctv)] ++ pins) σ H1 s1 := I1.pinAdd hfo hf1 hf3 hf2 (fun _ z => by cases z)
  refine h f s1 H1 _ (fun H2 => H2 c' = some (CodeO c' (lamQ X)) ∧ Rst (xfw X tbl) H2 δ σ) I2 hs1 st1 (fun A hA => ⟨fun S2 H2 S3 H3 hs2 st2 ⟨j1, j2⟩ => ⟨?_, j2.stp st2⟩, ?_⟩) ⟨hc', hR.stp st1⟩
  · refine st2.keep c' _ ?_ codeO_ne j1
    cases q : S2 c' with
    | none => rfl
    | some o => exact absurd j1 ((hs2 c' o q).noT.2 _ _)
  · intro pins2 H2 s2 v u d S2 Q2 E2 hp I3 ⟨j1, j2⟩ ru rv hs2 hq
    obtain ⟨_, hq⟩ := hq
    have ho := (I3.pin _ (List.mem_append_right _ (hp _ (.head _)))).1
    have hrA := InB.room hr hA
    let F : NF := ⟨"<lambda>", lamQ X, params, [], scope, cloFrom X.env.cells scope.names [], c'⟩
    have rc : codeAny (model X.prog X.w) A (.call (.ref f) ⟨[u], []⟩) (CR CX0 X.stack X.prog X.w H2 s2 (fun v' H' => ∃ d' S', Rv (xfw X tbl) H' d' v' ∧ Sim (xfw X tbl) S' H' ∧ Stp S2 H2 S' H' ∧ Q2 d' S') E0) s2 := by
      refine PySem.W.kla_callFunE hrA.depth ho rfl S.co S.gen rfl (codeO_at I3.hok j1) ?_
      rw [hbind]
      refine wpAny_pure (wpAny_newFunctionEnv S.nocell (fun z hz => by rw [List.mem_singleton.mp hz]; exact S.par _ (List.mem_singleton.mpr rfl)) (fun h₁ hns hsb => ⟨I3.nolimit.fresh _ hsb, ?_⟩) S.kind)
      show codeAny _ _ (.expr body (envF F f s2.heap.objs.size)) _ _
      have kp : ∀ b o, s2.heap.get? b = some o → h₁.get? b = some o := fun b o e => hsb.extBut b o (Nat.ne_of_lt (Heap.lt_size e)) (Heap.get?_push_of_some _ e)
      have caps : Caps X F.cl fr js := Caps.made I3.ok hfree (ndef_fr hdB) hjs
      have J : Inv (ncx CX0 X.prog X.w X.K X.mg X.base N F f A X.stack s2 H2 E0) [] (startF N [v] (js.map (slotAt σ))) H2 { s2 with heap := h₁, toks := s2.toks + ([(y, u)] : List (Str × Value)).length } :=
        inv_startN (ps := [y]) (us := [u]) S hrA.hd (env0_at I3 (hA.frames I3.ok)) rfl (.cons ru .nil) (cells_of I3 caps) hns kp
      refine PySem.W.kla_codeExpr (wpAny_mono ((hbody _ _ _ f A s2 H2 E0 (hrA.deeper _)).nox.run [] _ _ H2 (fun v' H' => ∃ d' S', Rv (xfw X tbl) H' d' v' ∧ Sim (xfw X tbl) S' H' ∧ Stp S2 H2 S' H' ∧ Q2 d' S') J
        ⟨_, S2, _, rst_startD j2 rv, hs2, hq, fun d' S' v' H' q r s a => ⟨d', S', r, s, a, q⟩⟩) (fun v' s' hv => ?_) fun e s' hv => hv)
      obtain ⟨w', H', J', rv', q⟩ := hv
      exact ⟨w', H', J'.os, J'.bare, J'.base, J'.hok, rv', q⟩
    refine wpAny_call (codeAny_mono rc fun r s' hv => ?_)
    cases r with
    | error e => exact (show False from hv).elim
    | ok fl =>
      cases fl with
      | ret u =>
        obtain ⟨v', H', I', rv', d', S', r1, r2, r3, r4⟩ := I3.after hv
        exact ⟨d', S', v', H', I', rv', r1, r2, r3, r4⟩
      | next => exact False.elim hv
      | brk => exact False.elim hv
      | cont => exact False.elim hv
end
def sortKV (c : DF) (x : D) (S : DS) (Q : DK) : Prop := match lstOf S x with
  | some xs => sortKs c (fun ks S2 => KeysOk (rdL S2 ks) ∧ ∀ p, S2 p = none → Q (.ref p) (dupd S2 p (.lst (sortedK xs (rdL S2 ks))))) xs [] S
  | none => False
def dSortK (cc : Loc → DF) (te : DE) : DE := fun δ S Q => te δ S fun x S1 => sortKV (cc δ) x S1 Q
def one1 (r : D → DS → Prop) (ds : List D) (S : DS) : Prop := match ds with
  | [x] => r x S
  | _ => False
section
variable {X : Cx} {tbl : Tbl} {e ek : Expr} {te : DE} {cc : Loc → DF} {pos p kpos : Pos}
theorem qe_sortK (hu : X.A.units + 100 < cLine) (hk : KeyEx X tbl ek cc) (hg : Gl X "sorted") (hm : X.mg "sorted" = none) (ha : PE X e (liftE (xfw X tbl) te))
    (he : backTo pos (starEach [e] X.env) = (false, eval e X.env) :: backTo pos (starEach [] X.env) := by rfl) (hpl : (backTo pos (starEach [e] X.env)).any (·.1) = false := by rfl) (hse : starEach [e] X.env = (false, eval e X.env) :: starEach [] X.env := by rfl) :
    PE X (.Call (.Name "sorted" p) [e] [⟨some "key", ek, kpos⟩] pos) (liftE (xfw X tbl) (dSortK cc te)) := by
  refine ⟨fun pins s σ H Q I ⟨δ, S, Q0, hr, hs, h, hq⟩ => ?_⟩
  refine wpAny_Call_Name_kw (ld_blt I hg hm rfl ?_)
  have pa : PA X [e] (liftA (xfw X tbl) (dCons te dNil)) := qa_cons ha qa_nil hse
  refine PyProof.Rows.callWith_kw (thn (pa.run pos pins s σ H (fun vs H1 => ∃ x S1 v, vs = [v] ∧ Rv (xfw X tbl) H1 x v ∧ Sim (xfw X tbl) S1 H1 ∧ Stp S H S1 H1 ∧ sortKV (cc δ) x S1 Q0) I
    ⟨δ, S, one1 fun x S1 => sortKV (cc δ) x S1 Q0, hr, hs, h, ?_⟩) fun us s1 ⟨vs, H1, I1, r1, x, S1, v, ev, rx, hs1, st1, q1⟩ => ?_) he hpl (by rfl) (by rfl)
  · intro ds S' vs H' q rv hs' st'
    match ds, q, rv with
    | [x], q, rv =>
      obtain ⟨v, rfl, rd⟩ := rv.one
      exact ⟨x, S', v, rfl, rd, hs', st', q⟩
  · subst ev
    unfold sortKV at q1
    split at q1
    · rename_i xs hx
      show wpAny _ _ (evalAll ((do let v ← eval ek X.env; standAt pos; pure v) :: [])) _ _ s1
      refine wpAny_evalAll_cons (wpAny_bind (hk.run pins s1 σ H1 δ S1 _ I1 (hr.stp st1) hs1 fun q s2 H2 pf J I2 hs2 st2 hK hJ => wpAny_bind (wpAny_standAt (wpAny_pure (wpAny_evalAll_nil ?_)))))
      obtain ⟨l, ws, rfl, hl, rxs⟩ := lst_of hs2 (st2.rv rx) hx
      rw [Vals.ref1 r1]
      show wpAny _ _ (call (.builtin "sorted") [.ref l] [(Str.ofString "key", .ref q)]) _ _ s2
      refine sortK_core I2 hJ hs2 (hK _ (.inr rfl)) hl rxs hu q1 (fun ks S3 z => z.1) fun ks S3 H3 s3 p us hkk I3 hp hs3 st3 hpH rus => ?_
      have I4 : Inv X pins σ (upd H3 p (.lst us)) s3 := I3.pins_of fun q hq => I3.pin q (List.mem_append_right _ (List.mem_append_right _ hq))
      have hp3 : S3 p = none := by
        cases z : S3 p with
        | none => rfl
        | some o => obtain ⟨w, ew, _⟩ := (hs3 p o z).some; rw [hp] at ew; cases ew
      refine ⟨.ref p, _, I4, rfl, hq _ _ _ _ (hkk.2 p hp3) (.ref p) (hs3.new hp ⟨us, upd_same, (Stp.laid (S := S3) hp).rvl rus⟩) ((st1.trans (st2.trans st3)).trans (Stp.new hp))⟩
    · exact q1.elim
end
def dmerge (kvs more : List (D × D)) : List (D × D) := more.foldl (fun acc p => dput acc p.1 p.2) kvs
def mUpdate : DM := fun x ds S Q => match x, ds with
  | .ref a, [.ref b] => match S a, S b with
    | some (.dct _ kvs), some (.dct _ more) => (a ≠ b ∧ kvs ≠ [] ∧ (∀ p ∈ kvs, isTk p.1 = true) ∧ (∀ p ∈ more, isTk p.1 = true) ∧ kvs.length + more.length ≤ 16777216) ∧ ∀ st', Q .non (dupd S a (.dct st' (dmerge kvs more)))
    | _, _ => False
  | _, _ => False
theorem dmerge_len : ∀ (more kvs : List (D × D)), (dmerge kvs more).length ≤ kvs.length + more.length
  | [], kvs => Nat.le_refl _
  | p :: more, kvs => by
    have h1 := dmerge_len more (dput kvs p.1 p.2)
    have h2 := length_dput kvs p.1 p.2
    show (dmerge (dput kvs p.1 p.2) more).length ≤ _
    rw [List.length_cons]; omega
theorem dmerge_nodup : ∀ (more kvs : List (D × D)), (kvs.map fun p => nk p.1).Nodup → ((dmerge kvs more).map fun p => nk p.1).Nodup
  | [], _, h => h
  | p :: more, kvs, h => dmerge_nodup more _ (dput_nodup h)
theorem dmerge_tp {K : FW} {H : Hp} : ∀ {more : List (D × D)} {ys : List XT} {kvs : List (D × D)} {xs : List XT}, TP K H kvs xs → TP K H more ys → TP K H (dmerge kvs more) (storedAllH xs ys)
  | _, _, kvs, xs, h, .nil => h
  | _, _, kvs, xs, h, .cons (a := a) (b := b) ⟨h0, h1, h2, v, h3, h4⟩ t => dmerge_tp (kvs := dput kvs a.1 a.2) (xs := storedH xs b.1 b.2.1 b.2.2) (dput_tp h3 h4 h h0 h1 h2) t
section
variable {X : Cx} {tbl : Tbl}
theorem dmt_update (hu : X.A.units + 100 < cLine) : MtR X "dict.update" (liftM (xfw X tbl) mUpdate) := dl_m fun pins s σ H d ds x xs v us S Q Q0 I rx rs hd hx hs hr hq => by
  match d, ds, hd, hx, hr with
  | .ref a, [.ref b], hd, hx, hr =>
    cases hd
    cases (show v = Value.ref a from rx)
    obtain ⟨yv, rfl, ry⟩ := hx.one
    cases ry
    have hr' : (match S a, S b with
      | some (.dct _ kvs), some (.dct _ more) => (a ≠ b ∧ kvs ≠ [] ∧ (∀ p ∈ kvs, isTk p.1 = true) ∧ (∀ p ∈ more, isTk p.1 = true) ∧ kvs.length + more.length ≤ 16777216) ∧ ∀ st', Q0 .non (dupd S a (.dct st' (dmerge kvs more)))
      | _, _ => False) := hr
    rw [Vals.ref1 rs]
    split at hr'
    · rename_i st kvs st2 more e1 e2
      obtain ⟨⟨h1, h2, h3, h4, h5⟩, h6⟩ := hr'
      obtain ⟨xs, tx, dx⟩ := dct_tp I hs e1 h3
      obtain ⟨ys, ty, dy⟩ := dct_tp I hs e2 h4
      have hxl := Paired.length tx
      have hyl := Paired.length ty
      refine PySem.call_update_dictH (kroom hu _ _) h1 (dct_at I hs e2).1 dx dy (.inl fun z => h2 ?_) (by rw [← hxl, ← hyl, szl]; exact h5) fun h' d1 d2 sb => ?_
      · subst z; exact List.eq_nil_of_length_eq_zero hxl
      · obtain ⟨o, es, ep, ho, hc, hdt, hes, _, _⟩ := d1
        have re' := tp_rent (P := X.prog) (dmerge_tp tx ty)
        obtain ⟨_, _, _, _, hn, _⟩ := dct_at I hs e1
        obtain ⟨i1, i2, i3⟩ := dct_write (t' := s.toks) (st' := ⟨es, ep⟩) I hs e1 sb ⟨o, ho, hc, hdt⟩ (by show REnt _ _ _ es.toList; rw [hes]; exact re') (by have := dmerge_len more kvs; rw [szl]; omega) (dmerge_nodup more kvs hn)
        exact ⟨.non, _, i1, rfl, hq _ _ _ _ (h6 ⟨es, ep⟩) .non i2 i3⟩
    · exact hr'.elim
end
end DL
namespace DL
open PySem PySem.Spec PyProof.Rows L2 LamX NdefX
abbrev LT := List (Str × Addr × Addr)
/-- the tables of the defs that make lambdas: name, code object, table -/
def tblOf (tt : LT) : Tbl := tt.map fun t => (t.2.2, (t.1 ++ ".<locals>.") ++ "<lambda>")
theorem lamT_of {X : Cx} {tt : LT} {x : Str} {c P : Addr} (hB : ∀ t ∈ tt, TabB X.base X.mg t.2.1 t.2.2) (hx : (x, c, P) ∈ tt) (hn : (tt.map fun t => t.2.2).Nodup) (hq : X.env.qual = x ++ ".<locals>.") : LamT X (tblOf tt) c P := by
  refine ⟨hB _ hx, ?_, fun p hp e => ?_⟩
  · unfold lamQ; rw [hq]; exact List.mem_map.mpr ⟨_, hx, rfl⟩
  · obtain ⟨t, ht, rfl⟩ := List.mem_map.mp hp
    have : t = (x, c, P) := by
      obtain ⟨i, hi⟩ := List.mem_iff_getElem?.mp ht
      obtain ⟨j, hj⟩ := List.mem_iff_getElem?.mp hx
      have h1 : (tt.map fun t => t.2.2)[i]? = some P := by rw [List.getElem?_map, hi]; exact congrArg some e
      have h2 : (tt.map fun t => t.2.2)[j]? = some P := by rw [List.getElem?_map, hj]; rfl
      have : i = j := (List.getElem?_inj (List.getElem?_eq_some_iff.mp h1).1 hn).mp (h1.trans h2.symm)
      subst this
      rw [hi] at hj; exact Option.some.inj hj
    subst this
    unfold lamQ; rw [hq]
/-- the code object that a def has -/
theorem tab_cd {K : PySem.W.Frag} {x : Str} {f c P : Addr} {oc : Value} {od : Option Addr} {fd : FuncData} {sl : Array (Option Value)} (a : PySem.W.nsIn K mainGlobals x = some (some (.ref f))) (l : K.lookup f = some ⟨oc, od, .func fd, sl⟩) (t : PySem.W.tabIn K x = some (c, P)) : fd.code = .ref c := by
  unfold PySem.W.tabIn at t
  simp only [a, l] at t
  split at t
  · rename_i c2 h2
    split at t
    · split at t
      · cases t; exact h2
      · cases t
    · cases t
  · cases t
theorem tab_mk {K : PySem.W.Frag} {x : Str} {f c P : Addr} {oc x1 : Value} {od x2 : Option Addr} {fd : FuncData} {sl x3 : Array (Option Value)} {vs : Array Value} (a : PySem.W.nsIn K mainGlobals x = some (some (.ref f))) (l : K.lookup f = some ⟨oc, od, .func fd, sl⟩) (hc : fd.code = .ref c)
    (lc : K.lookup c = some ⟨x1, x2, .fields vs, x3⟩) (v : vs[11]? = some (.ref P)) : PySem.W.tabIn K x = some (c, P) := by
  unfold PySem.W.tabIn
  simp only [a, l, hc, lc, v]
/-- a def whose code object is known -/
structure FunC (K : PySem.W.Frag) (x qual : Str) (st : Stmt) (f : Addr) (fd : FuncData) (c : Addr) : Prop where
  ex : ∃ (oc : Value) (od : Option Addr) (kV doc pm : Value) (an : Option Addr) (ct : Value) (osl : Array (Option Value)),
    fd = PySem.W.fnOf x qual (defArgs st) (defBody st) (defScope st) .none kV doc pm an (.ref c) ct ∧ K.lookup f = some ⟨oc, od, .func fd, osl⟩ ∧ PySem.W.codeIn K (.ref c) qual = true
theorem FunC.of {K : PySem.W.Frag} {x qual : Str} {st : Stmt} {f : Addr} {fd : FuncData} {c P : Addr} (F : Fun K x qual st f fd) (a : PySem.W.nsIn K mainGlobals x = some (some (.ref f))) (t : PySem.W.tabIn K x = some (c, P)) : FunC K x qual st f fd c := by
  obtain ⟨oc, od, kV, doc, pm, an, cdv, ct, osl, rfl, lk, hcd⟩ := F.ex
  have h : cdv = .ref c := tab_cd a lk t
  subst h
  exact ⟨oc, od, kV, doc, pm, an, ct, osl, rfl, lk, hcd⟩
section
variable {P : Program} {w : World} {K : PySem.W.Frag} {mg : Str → Option Value} {base : Heap}
theorem fn_okC {x qual : Str} {st : Stmt} {f c : Addr} {fd : FuncData} {N ps : List Str} {n : Nat} {fs : Nat → FnD} {i : Nat} {tbl : Tbl} (F : FunC K x qual st f fd c) (Sc : FnScope N ps (defScope st)) (hn : ps.length = (fs i).np) (hl : N.length = (fs i).nl)
    (hbody : ∀ (A : Around) (outer : List Env) (s : Shared) (H : Hp) (E : XK), Room (4 * n + 3) (A.deeper (envOfC qual (defScope st) s.heap.objs.size f (.ref c))) →
      PSs (cxOf CX0 P w K mg base N qual (defScope st) f (.ref c) A outer s H E).nox (defBody st) (liftS ⟨K, w, tbl⟩ ((fs i).body (sem fs n)))) :
    FnOk P w K mg base CX0 (4 * (n + 1)) f fd ps (liftF ⟨K, w, tbl⟩ (fs i).np (sem fs (n + 1) i)) := by
  obtain ⟨oc, od, kV, doc, pm, an, ct, osl, rfl, lk, hcd⟩ := F.ex
  refine fn_of (k := 4 * n + 3) lk hcd Sc (fun vs H Q E h => by rw [h.1, hn]) (fun A outer s H vs Q E hr h => ?_)
  obtain ⟨hlen, ds, S, Q0, rv, hs, hc, hq⟩ := h
  refine ⟨_, (hbody A outer s H E hr).nox, ?_⟩
  refine ⟨_, S, _, rst_start rv (m := (fs i).nl - (fs i).np) (by rw [hl, hlen]), hs, hc.2, ⟨fun δ S' σ H' h r x a => hq _ _ _ _ h .non x a, fun d S' v H' h r x a => hq _ _ _ _ h r x a, fun _ _ _ _ h => h.elim, fun _ _ _ _ h => h.elim⟩⟩
/-- a list that is handed in can be taken for one that nobody writes -/
def spFz (K : PySem.W.Frag) (sp : Sp) : Sp := fun vs H Q E => ∃ a xs, vs = [.ref a] ∧ SqL K H a xs ∧ ∀ H', FqL K H' a xs → (∀ b, b ≠ a → H' b = H b) → (H a = none → H' a = none) → sp [.ref a] H' Q E
theorem _root_.L2.FnOk.freeze {k : Nat} {f : Addr} {fd : FuncData} {x : Str} {sp : Sp} (F : FnOk P w K mg base CX0 k f fd [x] sp) : FnOk P w K mg base CX0 k f fd [x] (spFz K sp) := by
  refine ⟨fun vs H Q E ⟨a, xs, e, _⟩ => by rw [e]; rfl, fun A outer s H args us vs Q E hr e0 hb rv ⟨a, xs, e, hl, h⟩ => ?_⟩
  subst e
  rcases hl with (hl | ⟨o, hl⟩) | hl
  · have hob := e0.hok a _ hl
    obtain ⟨hz, its, n, r, ho⟩ := hob
    let H' := upd H a (.frz { cls := .type "list", data := .seq its.toArray n } (.lst xs))
    have same : ∀ b, b ≠ a → H' b = H b := fun b hb => upd_ne hb
    have hno : ∀ b, H b = none → H' b = none := fun b hb => (same b (fun z => by subst z; rw [hl] at hb; cases hb)).trans hb
    have nea : ∀ b u, H b = some u → (∀ ys, u ≠ .lst ys) → b ≠ a := fun b u e n z => by subst z; rw [hl] at e; exact n _ (Option.some.inj e).symm
    have ok' : HOk P w H' s.heap := fun b u e => by
      by_cases hba : b = a
      · subst hba
        have e2 : H' b = some (.frz _ (.lst xs)) := upd_same
        rw [e2] at e; cases e
        exact ⟨ho, hz, its, n, r, ho⟩
      · rw [same b hba] at e
        exact (e0.hok b u e).stay (fun d v _ q => q) (fun d q => (same d (nea d _ q (fun _ z => nomatch z))).trans q) fun d ys q => (same d (nea d _ q (fun _ z => nomatch z))).trans q
    have e1 : Env0 P w K mg base A outer s H' := ⟨e0.frames, e0.mod, fun b o e => ⟨(e0.bs b o e).1, hno b (e0.bs b o e).2⟩, e0.bsz, e0.funs, fun b hb => hno b (e0.frf b hb), ok', e0.bare⟩
    refine codeAny_mono (F.run A outer s H' args us [.ref a] Q E hr e1 hb rv (h H' (.inl ⟨_, upd_same⟩) same (fun z => by rw [hl] at z; cases z))) fun rr s' hq => ?_
    cases rr with
    | error e => exact (show False from hq).elim
    | ok fl =>
      cases fl with
      | next => exact False.elim hq
      | brk => exact False.elim hq
      | cont => exact False.elim hq
      | ret u =>
        obtain ⟨v, H2, os, bare, un, hok, r', q⟩ := hq
        refine ⟨v, H2, os, bare, ⟨fun b o e n hb hx => un.keep b o e (hno b n) hb hx, fun b o e n hb hx => un.slot b o e (hno b n) hb hx, fun b o e n hx => un.free b o e (hno b n) hx, un.there, fun b ys e => un.tups b ys ((same b (nea b _ e (fun _ z => nomatch z))).trans e), fun b o u e => un.frzs b o u ((same b (nea b _ e (fun _ z => nomatch z))).trans e), fun b ps e => un.tbls b ps ((same b (nea b _ e (fun _ z => nomatch z))).trans e)⟩, hok, r', q⟩
  · exact F.run A outer s H args us [.ref a] Q E hr e0 hb rv (h H (.inl ⟨o, hl⟩) (fun _ _ => rfl) id)
  · exact F.run A outer s H args us [.ref a] Q E hr e0 hb rv (h H (.inr hl) (fun _ _ => rfl) id)
end
theorem law_sp {K : FW} {c : DF} {np : Nat} (hnp : np = 1) {H : Hp} {a : Addr} {ns : List Int} (ht : ∀ p ∈ K.tb, H p.1 = some (.tbl #[])) (nt : ∀ p ∈ K.tb, K.K.lookup p.1 = none) (hS : SqL K H a (ns.map V.int)) {E : XK}
    (h : c [.fl (ns.map D.int)] (fun _ => none) fun d _ => d = .bl true) : spFz K (liftF K np c) [.ref a] H (fun v _ => v = .bl true) E := by
  refine ⟨a, _, rfl, hS, fun H' hF same _ => ⟨hnp.symm, [.fl (ns.map D.int)], fun _ => none, _, .cons (.fl hF (RvL.ints ns)) .nil, ⟨fun _ _ e => (nomatch e), fun p hp => .nil ?_⟩, h, fun d S' v H' e r _ _ => ?_⟩⟩
  · have hne : p.1 ≠ a := fun z => by
      rcases hS with (hS | ⟨o, hS⟩) | ⟨o, _, _, hS, _⟩
      · rw [← z, ht p hp] at hS; cases hS
      · rw [← z, ht p hp] at hS; cases hS
      · rw [← z, nt p hp] at hS; cases hS
    rw [same _ hne]; exact ht p hp
  · subst e; cases r; rfl
theorem walk_end {l : PySem.W.OpenLaw} {k : Nat} {q : Program} {loose : List Str} {XP : (Str → Option Value) → Heap → Prop} {YP : World → Heap → Prop} {d : DefRec} {K : Params → PySem.W.Frag} {fs : Nat → FnD} {i : Nat} (names : List Str)
    (hn : l.most = some 63) (hdf : d.params.defaults = []) (hr : Room (4 * k) callerA) (hnp : (fs i).np = 1)
    (hY : ∀ (w : World) (h : Heap), YP w h → (K w.params).In h)
    (hrec : names.all (fun x => ((recsOf q).find? fun e => e.name == x).isSome) = true)
    (F : ∀ (w : World) (mg : Str → Option Value) (fa : Addr) (h : Heap), (K w.params).In h → h.Ns mainGlobals mg → mg d.name = some (.ref fa) →
      ∃ (fd : FuncData) (tt : LT), (∀ t ∈ tt, t.1 ∈ names ∧ PySem.W.tabIn (K w.params) t.1 = some t.2 ∧ (K w.params).lookup t.2.2 = none) ∧ (∀ (s : Shared) (u : Value), BindsTo s fd ⟨[u], []⟩ [("script", u)]) ∧
        ∀ base : Heap, (K w.params).In base → base.Ns mainGlobals mg → (∀ t ∈ tt, TabB base mg t.2.1 t.2.2) → FnOk l.prog w (K w.params) mg base CX0 (4 * k) fa fd ["script"] (liftF ⟨K w.params, w, tblOf tt⟩ (fs i).np (sem fs k i)))
    (law : ∀ ns : List Int, ns.length ≤ 63 → sem fs k i [.fl (ns.map D.int)] (fun _ => none) fun d _ => d = .bl true) :
    PySem.W.WalkO q loose XP YP l.row.toRowW d [] (fun f vs => PySem.call f vs) := by
  refine Att.attach_callB hn hdf fun w s₀ s₁ mg mb fa o pm cd doc a vs ns G Y ho hd hcd hmg hobj hints hlen hbits hg => ?_
  have KX := hY w _ Y
  obtain ⟨fd, tt, hT, hb, hF⟩ := F w mg fa _ KX G.T.g hmg
  have tabs : ∀ t ∈ tt, PySem.W.CodeHd s₁.heap t.2.1 t.2.2 ∧ s₁.heap.get? t.2.2 = some { cls := .none, data := .fields #[] } := fun t ht => by
    obtain ⟨h1, h2, _⟩ := hT t ht
    obtain ⟨r, hr⟩ := Option.isSome_iff_exists.mp (List.all_eq_true.mp hrec t.1 h1)
    exact PySem.W.tab_of G.T KX hr h2
  have mem : ∀ p ∈ tt.map (·.2), ∃ t ∈ tt, t.2 = p := fun p hp => by obtain ⟨t, ht, e⟩ := List.mem_map.mp hp; exact ⟨t, ht, e⟩
  refine law_callTs (CX := CX0) (cs := tt.map (·.2)) KX G.T.g G.T.b G.T.builtins G.T.nolimit hg (fun p hp => ?_) (fun p hp => ?_) (fun p hp => ?_) G.T.bmain hobj hints (Nat.le_trans hlen (by decide)) hr
    (fun base hK hN hTB => (hF base hK hN fun t ht => hTB t.2 (List.mem_map.mpr ⟨t, ht, rfl⟩)).freeze) hb (fun H hH hS => ?_) (fun _ _ _ z => z)
  · obtain ⟨t, ht, rfl⟩ := mem p hp; exact (tabs t ht).2
  · obtain ⟨t, ht, rfl⟩ := mem p hp; exact (hT t ht).2.2
  · obtain ⟨t, ht, rfl⟩ := mem p hp; exact (tabs t ht).1
  · refine law_sp (K := ⟨K w.params, w, tblOf tt⟩) hnp (fun p hp => ?_) (fun p hp => ?_) hS (law ns hlen)
    · obtain ⟨t, ht, rfl⟩ := List.mem_map.mp hp; exact hH t.2 (List.mem_map.mpr ⟨t, ht, rfl⟩)
    · obtain ⟨t, ht, rfl⟩ := List.mem_map.mp hp; exact (hT t ht).2.2
end DL
namespace DL
open PySem PySem.Spec PyProof.Rows L2 LamX NdefX
def CmpOk (a b : D) : Prop := a.plain = true ∧ b.plain = true ∧ PySem.W.alike a.py b.py = true ∧ a.py ≠ .none ∧ a.dep ≤ 50
def dlt (a b : D) : Bool := PySem.W.dataLt a.py b.py
def minKs (c : DF) (x : D) (xs : List D) (Q : DK) : List D → D → D → DS → Prop
  | [], b, _, S => lstOf S x = some xs ∧ Q b S
  | y :: ys, b, kb, S => lstOf S x = some xs ∧ c [y] S fun k S1 => CmpOk (k.rd S1 4) (kb.rd S1 4) ∧ (if dlt (k.rd S1 4) (kb.rd S1 4) = true then minKs c x xs Q ys y k S1 else minKs c x xs Q ys b kb S1)
def minKV (c : DF) (x : D) (S : DS) (Q : DK) : Prop := match lstOf S x with
  | some (y :: ys) => c [y] S fun k S1 => minKs c x (y :: ys) Q ys y k S1
  | _ => False
section
variable {X : Cx} {tbl : Tbl} {pins : List (Addr × Obj)} {σ : L2.St} {q it a l : Addr} {pf : List (Addr × Obj)} {J : Hp → Prop} {c : DF} {x : D} {xs : List D} {Q0 : DK} {S0 : DS} {H0 : Hp}
theorem _root_.L2.Inv.pinSwap {p1 p2 : Addr × Obj} {σ : L2.St} {H : Hp} {s : Shared} (I : Inv X (p1 :: p2 :: pins) σ H s) : Inv X (p2 :: p1 :: pins) σ H s := I.pins_of fun p hp => by
  rcases List.mem_cons.mp hp with rfl | hp
  · exact I.pin _ (List.mem_append_right _ (.tail _ (.head _)))
  · rcases List.mem_cons.mp hp with rfl | hp
    · exact I.pin _ (List.mem_append_right _ (.head _))
    · exact I.pin _ (List.mem_append_right _ (.tail _ (.tail _ hp)))
theorem itObj {h : Heap} {o : Obj} {i : Nat} (hi : h.IsListIter it l i) (ho : h.get? it = some o) : o.cls = .type "list_iterator" ∧ o.data = .fields #[.ref l, .int i 0] := by
  obtain ⟨o', e, r⟩ := hi
  rw [ho] at e; cases e; exact r
theorem minK_loop {R : Result → Shared → Prop} {kw : List (Str × Value)} (hq : KeyFn X X.A.in1 tbl σ q pf J c) (hu : X.A.units + 100 < cLine) (hrx : Rv (xfw X tbl) H0 x (.ref l)) (hax : a ≠ it) (hs0 : X.s_0.heap.objs.size ≤ a) (hi0 : X.s_0.heap.objs.size ≤ it) (hcalm : X.A.handled = none)
    (na : ∀ p ∈ X.pn ++ (pf ++ pins), p.1 ≠ a) (ni : ∀ p ∈ X.pn ++ (pf ++ pins), p.1 ≠ it)
    (hR : ∀ s' u v b H S, Inv X (pf ++ pins) σ H s' → Sim (xfw X tbl) S H → Stp S0 H0 S H → RelV v u → Rv (xfw X tbl) H b v → Q0 b S → R (.ok (.ret u)) s') :
    ∀ (k j : Nat) (s : Shared) (ub uk : Value) (e : Nat) (oi : Obj) (H : Hp) (S : DS) (b kb : D) (vb vk : V), xs.length - (j + 1) = k → j + 1 ≤ xs.length → Inv X ((a, seqObj "list" #[ub, uk] e) :: (it, oi) :: (pf ++ pins)) σ H s → oi.cls = .type "list_iterator" → oi.data = .fields #[.ref l, .int (j + 1 : Nat) 0] → J H → Sim (xfw X tbl) S H → Stp S0 H0 S H → RelV vb ub → Rv (xfw X tbl) H b vb → RelV vk uk → Rv (xfw X tbl) H kb vk →
      minKs c x xs Q0 (xs.drop (j + 1)) b kb S → codeAny (model X.prog X.w) X.A (.builtin "min.loop" ⟨[.ref it, (.ref q), .ref a], kw⟩) R s := by
  have hname : (toString "min" ++ toString ".loop" : String) = "min.loop" := by decide
  intro k
  induction k with
  | zero =>
    intro j s ub uk e oi H S b kb vb vk hk hj I oc od hJ hs st rb rvb rk rvk hm
    have hin : j + 1 = xs.length := by omega
    rw [List.drop_of_length_le (by omega)] at hm
    obtain ⟨hl, hm⟩ := hm
    obtain ⟨l', ws, el, hsq, rws⟩ := lst_of hs (st.rv hrx) hl
    cases el
    obtain ⟨its, rv, hil, hz⟩ := I.list hsq
    have hlen : its.length = xs.length := by rw [← rv.length, rws.length]
    have hS : s.heap.get? a = some (seqObj "list" #[ub, uk] e) := (I.pin _ (List.mem_append_right _ (.head _))).1
    have hT := I.pin (it, oi) (List.mem_append_right _ (.tail _ (.head _)))
    have hA := I.pin (a, seqObj "list" #[ub, uk] e) (List.mem_append_right _ (.head _))
    refine codeAny_builtin F.entry_min_loop ?_
    rw [Around.under_plainId F.plain_min_loop _]
    show wpAny _ X.A.in1 (seqItems? (.ref a) >>= _) _ _ s
    refine wpAny_bind (wpAny_seqItems hS rfl ?_)
    show wpAny _ X.A.in1 (tryCatch (pyNext (.ref it)) _ >>= _) _ _ s
    refine wpAny_bind (wpAny_tryCatch (wpAny_pyNext_list_end hcalm ⟨oi, hT.1, oc, od⟩ hil.isList (by simp; omega) fun h' he => ?_))
    have hS' := he a _ hax hS
    show wpAny _ X.A.in1 (updateSeq a (fun _ => #[]) >>= _) _ _ _
    refine wpAny_bind ?_
    refine wpAny_updateSeq hS' rfl (wpAny_bind (wpAny_letGo (wpAny_pure ?_)))
    have I0 : Inv X (pf ++ pins) σ H s := I.pinDrop.pinDrop
    have I1 : Inv X (pf ++ pins) σ H { s with heap := h' } := I0.turned (t' := s.toks) (fun c u hc e => he c u hc e) hT.2.1 hT.2.2.1 (.inr hi0) (I0.cellNe hT.1 hT.2.2.2.2) ni
    have I2 : Inv X (pf ++ pins) σ H { s with heap := h'.update a (Obj.mapSeq fun _ => #[]) } := I1.turned (t' := s.toks) (fun c u hc e => (Heap.get?_update_other _ _ (Ne.symm hc)).trans e) hA.2.1 hA.2.2.1 (.inr hs0) (I1.cellNe hS' hA.2.2.2.2) na
    exact hR _ ub vb b H S I2 hs st rb rvb hm
  | succ k ih =>
    intro j s ub uk e oi H S b kb vb vk hk hj I oc od hJ hs st rb rvb rk rvk hm
    have hlt : j + 1 < xs.length := by omega
    rw [List.drop_eq_getElem_cons hlt] at hm
    obtain ⟨hl, hm⟩ := hm
    obtain ⟨l', ws, el, hsq, rws⟩ := lst_of hs (st.rv hrx) hl
    cases el
    obtain ⟨its, rv, hil, hz⟩ := I.list hsq
    have hlen : its.length = xs.length := by rw [← rv.length, rws.length]
    have hS : s.heap.get? a = some (seqObj "list" #[ub, uk] e) := (I.pin _ (List.mem_append_right _ (.head _))).1
    have hT := I.pin (it, oi) (List.mem_append_right _ (.tail _ (.head _)))
    obtain ⟨v, hv, hvd⟩ : ∃ v, ws[j + 1]? = some v ∧ Rv (xfw X tbl) H xs[j + 1] v := rws.get (List.getElem?_eq_getElem hlt)
    obtain ⟨u, hu1, rvu⟩ := rv.get hv
    refine codeAny_builtin F.entry_min_loop ?_
    rw [Around.under_plainId F.plain_min_loop _]
    show wpAny _ X.A.in1 (seqItems? (.ref a) >>= _) _ _ s
    refine wpAny_bind (wpAny_seqItems hS rfl ?_)
    show wpAny _ X.A.in1 (tryCatch (pyNext (.ref it)) _ >>= _) _ _ s
    refine wpAny_bind (wpAny_tryCatch (wpAny_pyNext_list_item ⟨oi, hT.1, oc, od⟩ hil.isList (x := u) (by rw [List.getElem?_toArray]; exact hu1) fun h' hit hsb => ?_))
    obtain ⟨oi', ho', oc', od'⟩ := hit
    have I0 : Inv X ((it, oi) :: (a, seqObj "list" #[ub, uk] e) :: (pf ++ pins)) σ H s := I.pinSwap
    have nka : ∀ p ∈ X.pn ++ ((a, seqObj "list" #[ub, uk] e) :: (pf ++ pins)), p.1 ≠ it := fun p hp => by
      rcases List.mem_append.mp hp with hp | hp
      · exact ni p (List.mem_append_left _ hp)
      · rcases List.mem_cons.mp hp with rfl | hp
        · exact hax
        · exact ni p (List.mem_append_right _ hp)
    have I1 : Inv X ((it, oi') :: (a, seqObj "list" #[ub, uk] e) :: (pf ++ pins)) σ H { s with heap := h' } := I0.repin (t' := s.toks) hsb ho' (fun v z => by rw [od'] at z; cases z) hi0 nka
    show wpAny _ X.A.in1 (tryCatch (holding [u] (call (.ref q) [u])) _ >>= _) _ _ _
    refine wpAny_bind (wpAny_tryCatch (wpAny_holding (wpAny_mono (hq.run _ H _ v u xs[j + 1] S _ (fun _ _ => False) (fun p hp => List.mem_cons_of_mem _ (List.mem_cons_of_mem _ (List.mem_append_left _ hp))) I1 hJ rvu hvd hs hm) (fun u' s2 hh => ?_) fun _ _ hF => hF.elim)))
    obtain ⟨d', S2, v', H2, I2, rv', rd', hs2, st2, hcm, hm2⟩ := hh
    have hJ2 := hq.lasts _ _ _ _ hs st2 hJ
    have rvk2 := st2.rv rvk
    obtain ⟨as1, r1⟩ := Rv.reads I2 hs2 4 hcm.1 rd' rv'
    obtain ⟨as2, r2⟩ := Rv.reads I2 hs2 4 hcm.2.1 rvk2 rk
    show wpAny _ X.A.in1 (tryCatch (holding [u, u'] (richCompare .Lt u' uk >>= _)) _ >>= _) _ _ _
    refine wpAny_bind (wpAny_tryCatch (wpAny_holding (wpAny_bind (PySem.W.rcLt_alike _ _ X.A.in1 s2 u' uk _ _ r1 r2 hcm.2.2.1 hcm.2.2.2.1 ?_ X.prog X.w _ _ ?_))))
    · rw [D.dep_py _ hcm.1]
      have h1 := hcm.2.2.2.2
      have h2 := Nat.min_le_left (d'.rd S2 4).dep ((kb.rd S2 4).py).depth
      show X.A.units + 1 + _ < _
      omega
    refine wpAny_bind (wpAny_holding (wpAny_truthy_bool ?_))
    refine wpAny_bind (wpAny_letGo (wpAny_pure ?_))
    have hS2 : s2.heap.get? a = some (seqObj "list" #[ub, uk] e) := (I2.pin _ (List.mem_append_right _ (.tail _ (.head _)))).1
    have hd : PySem.W.dataLt (d'.rd S2 4).py (kb.rd S2 4).py = dlt (d'.rd S2 4) (kb.rd S2 4) := rfl
    rw [hd]
    cases hb : dlt (d'.rd S2 4) (kb.rd S2 4) with
    | true =>
      rw [if_pos hb] at hm2
      simp only [if_true]
      refine wpAny_bind ?_
      refine wpAny_updateSeq hS2 rfl (wpAny_bind (wpAny_letGo ?_))
      rw [hname]
      obtain ⟨e2, he2⟩ : ∃ e2, (s2.heap.update a (Obj.mapSeq fun _ => #[u, u'])).get? a = some (seqObj "list" #[u, u'] e2) := ⟨_, get?_update_seq hS2 fun _ => #[u, u']⟩
      have I3 : Inv X ((a, seqObj "list" #[ub, uk] e) :: (it, oi') :: (pf ++ pins)) σ H2 s2 := I2.pinSwap
      have nki : ∀ p ∈ X.pn ++ ((it, oi') :: (pf ++ pins)), p.1 ≠ a := fun p hp => by
        rcases List.mem_append.mp hp with hp | hp
        · exact na p (List.mem_append_left _ hp)
        · rcases List.mem_cons.mp hp with rfl | hp
          · exact Ne.symm hax
          · exact na p (List.mem_append_right _ hp)
      have I4 := I3.repin (t' := s2.toks) (Heap.SameBut.update s2.heap a (Obj.mapSeq fun _ => #[u, u'])) he2 (fun _ z => by cases z) hs0 nki
      exact wpAny_pure ⟨plainId_quiet F.plain_min_loop _, ih (j + 1) _ u u' e2 oi' H2 S2 _ _ v v' (by omega) (by omega) I4 oc' od' hJ2 hs2 (st.trans st2) rvu (st2.rv hvd) rv' rd' hm2⟩
    | false =>
      rw [if_neg (by rw [hb]; exact Bool.false_ne_true)] at hm2
      simp only [Bool.false_eq_true, if_false]
      refine wpAny_bind (wpAny_letGo ?_)
      rw [hname]
      have I3 : Inv X ((a, seqObj "list" #[ub, uk] e) :: (it, oi') :: (pf ++ pins)) σ H2 s2 := I2.pinSwap
      exact wpAny_pure ⟨plainId_quiet F.plain_min_loop _, ih (j + 1) _ ub uk e oi' H2 S2 _ _ vb vk (by omega) (by omega) I3 oc' od' hJ2 hs2 (st.trans st2) rb (st2.rv rvb) rk rvk2 hm2⟩
theorem minK_core {H : Hp} {s : Shared} {S : DS} {Qv E : Value → Shared → Prop} (I : Inv X (pf ++ pins) σ H s) (hJ : J H) (hs : Sim (xfw X tbl) S H) (hq : KeyFn X X.A.in1 tbl σ q pf J c) (hrx : Rv (xfw X tbl) H x (.ref l)) (hu : X.A.units + 100 < cLine) (hcalm : X.A.handled = none)
    (hm : minKV c x S Q0) (hQ : ∀ s' u v b H' S', Inv X (pf ++ pins) σ H' s' → Sim (xfw X tbl) S' H' → Stp S H S' H' → RelV v u → Rv (xfw X tbl) H' b v → Q0 b S' → Qv u s') :
    wpAny (model X.prog X.w) X.A (call (.builtin "min") [.ref l] [(Str.ofString "key", .ref q)]) Qv E s := by
  have hname : (toString "min" ++ toString ".loop" : String) = "min.loop" := by decide
  unfold minKV at hm
  split at hm
  case h_2 => exact hm.elim
  rename_i y ys hl
  obtain ⟨l', ws, el, hsq, rws⟩ := lst_of hs hrx hl
  cases el
  obtain ⟨its, rv, hil, hz⟩ := I.list hsq
  have hlen : its.length = ys.length + 1 := by rw [← rv.length, ← rws.length]; rfl
  obtain ⟨v, hv, hvd⟩ : ∃ v, ws[0]? = some v ∧ Rv (xfw X tbl) H y v := rws.get rfl
  obtain ⟨u, hu1, rvu⟩ := rv.get hv
  refine PyProof.Rows.kmk_tree F.kind_min F.plain_min F.entry_min (PyProof.Rows.kmk_min_key _ _) ?_
  show wpAny _ X.A.in1 (Builtin.Builtins.bindParams "min" ["key", "default"] 0 ⟨[], [(Str.ofString "key", .ref q)]⟩ >>= _) _ _ s
  refine wpAny_bind (wpAny_of_eq (show Builtin.Builtins.bindParams "min" ["key", "default"] 0 ⟨[], [(Str.ofString "key", .ref q)]⟩ = pure [some (.ref q), none] from rfl) ?_)
  refine wpAny_bind (wpAny_pure ?_)
  refine wpAny_bind (wpAny_pyIter_list hil.isList ?_)
  refine wpAny_bind (wpAny_newObj_type ?_)
  rw [hname]
  generalize hit : s.heap.objs.size = it
  generalize ho : ({ cls := .type "list_iterator", data := .fields #[.ref l, .int 0 0] } : Obj) = oi
  have hsz : (s.heap.push oi).objs.size = it + 1 := by rw [Heap.size_push, hit]
  generalize hh2 : (s.heap.push oi).push (seqObj "list" #[] 0) = h2
  have old : ∀ b u, s.heap.get? b = some u → h2.get? b = some u := fun b u e => by
    rw [← hh2]; exact Heap.get?_push_of_some _ (Heap.get?_push_of_some _ e)
  have n1 : h2.get? it = some oi := by rw [← hh2, ← hit]; exact Heap.get?_push_of_some _ (Heap.get?_push_size _ (by rw [← ho]; rfl))
  have n2 : h2.get? (it + 1) = some (seqObj "list" #[] 0) := by rw [← hh2, ← hsz]; exact Heap.get?_push_size _ rfl
  have ltL := I.lt
  have hsi : s.heap.objs.size ≤ it := by omega
  have hsa : s.heap.objs.size ≤ it + 1 := by omega
  have npin : ∀ b, s.heap.objs.size ≤ b → ∀ p ∈ X.pn ++ (pf ++ pins), p.1 ≠ b := fun b hb p hp z => by
    exact Nat.lt_irrefl _ (Nat.lt_of_lt_of_le (z ▸ Heap.lt_size (I.pin p hp).1) hb)
  have I2 : Inv X (pf ++ pins) σ H { s with heap := h2 } := I.kept (t' := s.toks) old
  have I3 : Inv X ((it, oi) :: (pf ++ pins)) σ H { s with heap := h2 } := I2.pinAdd n1 (I.hok.fresh hsi) (Nat.ne_of_gt (Nat.lt_of_lt_of_le ltL hsi)) (I.nofs hsi) (fun _ z => by rw [← ho] at z; cases z)
  have I4 : Inv X ((it + 1, seqObj "list" #[] 0) :: (it, oi) :: (pf ++ pins)) σ H { s with heap := h2 } := I3.pinAdd n2 (I.hok.fresh hsa) (Nat.ne_of_gt (Nat.lt_of_lt_of_le ltL hsa)) (I.nofs hsa) (fun _ z => by cases z)
  have hs0 : X.s_0.heap.objs.size ≤ it := Nat.le_trans I.sz hsi
  have hs1 : X.s_0.heap.objs.size ≤ it + 1 := Nat.le_trans I.sz hsa
  rw [show ({ heap := s.heap.push oi, gens := s.gens, drawn := s.drawn, toks := s.toks, os := s.os } : Shared).heap.objs.size = it + 1 from hsz]
  refine wpAny_pure ⟨plainId_quiet F.plain_min_loop _, ?_⟩
  refine codeAny_builtin F.entry_min_loop ?_
  rw [Around.under_plainId F.plain_min_loop _]
  show wpAny _ X.A.in1 (seqItems? (.ref (it + 1)) >>= _) _ _ _
  refine wpAny_bind (wpAny_seqItems n2 rfl ?_)
  show wpAny _ X.A.in1 (tryCatch (pyNext (.ref it)) _ >>= _) _ _ _
  have hil2 : h2.IsList l its.toArray := by obtain ⟨o, e, r⟩ := hil.isList; exact ⟨o, old _ _ e, r⟩
  refine wpAny_bind (wpAny_tryCatch (wpAny_pyNext_list_item (s := { s with heap := h2 }) ⟨oi, n1, by rw [← ho], by rw [← ho]; rfl⟩ hil2 (x := u) (by rw [List.getElem?_toArray]; exact hu1) fun h' hit' hsb => ?_))
  obtain ⟨oi', ho', oc', od'⟩ := hit'
  have nka : ∀ p ∈ X.pn ++ ((it + 1, seqObj "list" #[] 0) :: (pf ++ pins)), p.1 ≠ it := fun p hp => by
    rcases List.mem_append.mp hp with hp | hp
    · exact npin it hsi p (List.mem_append_left _ hp)
    · rcases List.mem_cons.mp hp with rfl | hp
      · show it + 1 ≠ it; omega
      · exact npin it hsi p (List.mem_append_right _ hp)
  have I5 : Inv X ((it, oi') :: (it + 1, seqObj "list" #[] 0) :: (pf ++ pins)) σ H { s with heap := h' } := I4.pinSwap.repin (t' := s.toks) hsb ho' (fun v z => by rw [od'] at z; cases z) hs0 nka
  show wpAny _ X.A.in1 (tryCatch (holding [u] (call (.ref q) [u])) _ >>= _) _ _ _
  refine wpAny_bind (wpAny_tryCatch (wpAny_holding (wpAny_mono (hq.run _ H _ v u y S _ (fun _ _ => False) (fun p hp => List.mem_cons_of_mem _ (List.mem_cons_of_mem _ (List.mem_append_left _ hp))) I5 hJ rvu hvd hs hm) (fun u' s2 hh => ?_) fun _ _ hF => hF.elim)))
  obtain ⟨d', S2, v', H2, I6, rv', rd', hs2, st2, hm2⟩ := hh
  have hJ2 := hq.lasts _ _ _ _ hs st2 hJ
  have hS2 : s2.heap.get? (it + 1) = some (seqObj "list" #[] 0) := (I6.pin _ (List.mem_append_right _ (.tail _ (.head _)))).1
  show wpAny _ X.A.in1 (updateSeq (it + 1) (fun _ => #[u, u']) >>= _) _ _ _
  refine wpAny_bind ?_
  refine wpAny_updateSeq hS2 rfl ?_
  rw [hname]
  obtain ⟨e2, he2⟩ : ∃ e2, (s2.heap.update (it + 1) (Obj.mapSeq fun _ => #[u, u'])).get? (it + 1) = some (seqObj "list" #[u, u'] e2) := ⟨_, get?_update_seq hS2 fun _ => #[u, u']⟩
  have nki : ∀ p ∈ X.pn ++ ((it, oi') :: (pf ++ pins)), p.1 ≠ it + 1 := fun p hp => by
    rcases List.mem_append.mp hp with hp | hp
    · exact npin (it + 1) hsa p (List.mem_append_left _ hp)
    · rcases List.mem_cons.mp hp with rfl | hp
      · show it ≠ it + 1; omega
      · exact npin (it + 1) hsa p (List.mem_append_right _ hp)
  have I7 := I6.pinSwap.repin (t' := s2.toks) (Heap.SameBut.update s2.heap (it + 1) (Obj.mapSeq fun _ => #[u, u'])) he2 (fun _ z => by cases z) hs1 nki
  refine wpAny_pure ⟨plainId_quiet F.plain_min_loop _, minK_loop (xs := y :: ys) hq hu hrx (show it + 1 ≠ it by omega) hs1 hs0 hcalm (npin _ hsa) (npin _ hsi) (fun s' u v b H' S' i1 i2 i3 i4 i5 i6 => hQ s' u v b H' S' i1 i2 i3 i4 i5 i6) _ 0 _ u u' e2 oi' H2 S2 y d' v v' rfl (by rw [List.length_cons]; omega) I7 oc' (by rw [od']) hJ2 hs2 st2 rvu (st2.rv hvd) rv' rd' (by rw [Nat.zero_add, List.drop_succ_cons, List.drop_zero]; exact hm2)⟩
end
def dMinK (cc : Loc → DF) (te : DE) : DE := fun δ S Q => te δ S fun x S1 => minKV (cc δ) x S1 Q
theorem minKV_lst {c : DF} {x : D} {S : DS} {Q : DK} (h : minKV c x S Q) : ∃ xs, lstOf S x = some xs := by
  unfold minKV at h
  split at h
  · rename_i y ys e; exact ⟨_, e⟩
  · exact h.elim
section
variable {X : Cx} {tbl : Tbl} {e ek : Expr} {te : DE} {cc : Loc → DF} {pos p kpos : Pos}
theorem qe_minK (hc : X.calm = true) (hu : X.A.units + 100 < cLine) (hk : KeyEx X tbl ek cc) (hg : Gl X "min") (hm : X.mg "min" = none) (ha : PE X e (liftE (xfw X tbl) te))
    (he : backTo pos (starEach [e] X.env) = (false, eval e X.env) :: backTo pos (starEach [] X.env) := by rfl) (hpl : (backTo pos (starEach [e] X.env)).any (·.1) = false := by rfl) (hse : starEach [e] X.env = (false, eval e X.env) :: starEach [] X.env := by rfl) :
    PE X (.Call (.Name "min" p) [e] [⟨some "key", ek, kpos⟩] pos) (liftE (xfw X tbl) (dMinK cc te)) := by
  refine ⟨fun pins s σ H Q I ⟨δ, S, Q0, hr, hs, h, hq⟩ => ?_⟩
  refine wpAny_Call_Name_kw (ld_blt I hg hm rfl ?_)
  have pa : PA X [e] (liftA (xfw X tbl) (dCons te dNil)) := qa_cons ha qa_nil hse
  refine PyProof.Rows.callWith_kw (thn (pa.run pos pins s σ H (fun vs H1 => ∃ x S1 v, vs = [v] ∧ Rv (xfw X tbl) H1 x v ∧ Sim (xfw X tbl) S1 H1 ∧ Stp S H S1 H1 ∧ minKV (cc δ) x S1 Q0) I
    ⟨δ, S, one1 fun x S1 => minKV (cc δ) x S1 Q0, hr, hs, h, ?_⟩) fun us s1 ⟨vs, H1, I1, r1, x, S1, v, ev, rx, hs1, st1, q1⟩ => ?_) he hpl (by rfl) (by rfl)
  · intro ds S' vs H' q rv hs' st'
    match ds, q, rv with
    | [x], q, rv =>
      obtain ⟨v, rfl, rd⟩ := rv.one
      exact ⟨x, S', v, rfl, rd, hs', st', q⟩
  · subst ev
    obtain ⟨xs, hx⟩ := minKV_lst q1
    show wpAny _ _ (evalAll ((do let v ← eval ek X.env; standAt pos; pure v) :: [])) _ _ s1
    refine wpAny_evalAll_cons (wpAny_bind (hk.run pins s1 σ H1 δ S1 _ I1 (hr.stp st1) hs1 fun q s2 H2 pf J I2 hs2 st2 hK hJ => wpAny_bind (wpAny_standAt (wpAny_pure (wpAny_evalAll_nil ?_)))))
    obtain ⟨l, ws, rfl, hl, rxs⟩ := lst_of hs2 (st2.rv rx) hx
    rw [Vals.ref1 r1]
    show wpAny _ _ (call (.builtin "min") [.ref l] [(Str.ofString "key", .ref q)]) _ _ s2
    exact minK_core I2 hJ hs2 (hK _ (.inl rfl)) (st2.rv rx) hu (I2.ok.hd hc) q1 fun s3 u v b H3 S3 I3 hs3 st3 ru rb hb =>
      ⟨v, H3, I3.pins_of fun q hq => I3.pin q (List.mem_append_right _ (List.mem_append_right _ hq)), ru, hq _ _ _ _ hb rb hs3 (st1.trans (st2.trans st3))⟩
end
def minOn (S : DS) (x : D) (xs : List D) : D := xs.foldl (fun b y => if dlt (y.rd S 4) (b.rd S 4) = true then y else b) x
def bMinD : DRs := fun ds S Q => match ds with
  | [d] => match lstOf S d with
    | some (x :: xs) => (∀ a ∈ x :: xs, ∀ b ∈ x :: xs, CmpOk (a.rd S 4) (b.rd S 4)) ∧ Q (minOn S x xs) S
    | _ => False
  | _ => False
section
variable {X : Cx} {tbl : Tbl}
theorem dcall_minD (hc : X.calm = true) (hu : X.A.units + 100 < cLine) : CallR X (.builtin "min") (liftC (xfw X tbl) bMinD) := dl_call fun pins s σ H ds xs us S Q Q0 I ru rv hs hr hq => by
  match ds, hr, rv with
  | [d], hr, rv =>
    obtain ⟨v, rfl, rd⟩ := rv.one
    have hr' : (match lstOf S d with
      | some (x :: xs) => (∀ a ∈ x :: xs, ∀ b ∈ x :: xs, CmpOk (a.rd S 4) (b.rd S 4)) ∧ Q0 (minOn S x xs) S
      | _ => False) := hr
    split at hr'
    · rename_i x zs e
      obtain ⟨hcm, q⟩ := hr'
      obtain ⟨a, ws, rfl, hv, r⟩ := lst_of hs rd e
      rw [Vals.ref1 ru]
      obtain ⟨its, rvs, hil, hz⟩ := I.list hv
      have hlen : its.length = zs.length + 1 := by rw [← rvs.length, ← r.length]; rfl
      have look : ∀ (i : Nat) (u : Value), its.toArray[i]? = some u → ∃ d v, (x :: zs)[i]? = some d ∧ RelV v u ∧ Rv (xfw X tbl) H d v := fun i u hu => by
        rw [List.getElem?_toArray] at hu
        have hi := (List.getElem?_eq_some_iff.mp hu).1
        obtain ⟨dd, hdd⟩ : ∃ dd, (x :: zs)[i]? = some dd := ⟨_, List.getElem?_eq_getElem (by rw [List.length_cons]; omega)⟩
        obtain ⟨v, h1, h2⟩ := r.get hdd
        obtain ⟨u', h3, h4⟩ := rvs.get h1
        rw [hu] at h3; cases h3
        exact ⟨dd, v, hdd, h4, h2⟩
      refine PySem.call_min_walkH (PySem.W.iter_listW (A := X.A.in1) (I.ok.hd hc) hil.isList fun s₂ e2 W st hfp hw hk => ?_)
      refine ⟨_, _, _, _, _, _, _, s.heap, (fun i j => (fun a b : D => dlt (a.rd S 4) (b.rd S 4)) ((x :: zs).getD i .non) ((x :: zs).getD j .non)), rfl, W, st, hfp, by rw [List.size_toArray]; omega, hw, hk, fun i j vi vj s' Q' E' hkp hi hj hq' => ?_, fun v s' hP m => ?_⟩
      · obtain ⟨d1, v1, g1, r1, x1⟩ := look i vi hi
        obtain ⟨d2, v2, g2, r2, x2⟩ := look j vj hj
        have c12 := hcm d1 (List.mem_of_getElem? g1) d2 (List.mem_of_getElem? g2)
        obtain ⟨as1, q1⟩ := Rv.reads I hs 4 c12.1 x1 r1
        obtain ⟨as2, q2⟩ := Rv.reads I hs 4 c12.2.1 x2 r2
        refine PySem.W.rcLt_alike _ _ X.A.in1 s' vi vj _ _ (PySem.W.reads_keeps hkp q1) (PySem.W.reads_keeps hkp q2) c12.2.2.1 c12.2.2.2.1 ?_ X.prog X.w _ _ ?_
        · rw [D.dep_py _ c12.1]
          have h1 := c12.2.2.2.2
          have h2 := Nat.min_le_left (d1.rd S 4).dep ((d2.rd S 4).py).depth
          show X.A.units + 1 + _ < _
          omega
        · have e5 : (x :: zs).getD i .non = d1 := by rw [List.getD_eq_getElem?_getD, g1]; rfl
          have e6 : (x :: zs).getD j .non = d2 := by rw [List.getD_eq_getElem?_getD, g2]; rfl
          dsimp only at hq'
          rw [e5, e6] at hq'
          exact hq'
      · obtain ⟨h', tk, rfl, hk'⟩ := PySem.W.moved_old e2 rfl m
        obtain ⟨dd, vv, g1, g2, g3⟩ := look _ v hP
        have e1 : its.toArray.size - 1 = zs.length := by rw [List.size_toArray]; omega
        have e3 := (PySem.W.argBest_fold (fun a b : D => dlt (a.rd S 4) (b.rd S 4)) D.non x zs zs.length (Nat.le_refl _)).2
        rw [List.take_length] at e3
        rw [e1] at g1
        have e4 : dd = minOn S x zs := by
          rw [List.getD_eq_getElem?_getD, g1] at e3
          exact e3
        rw [e4] at g3
        exact ⟨vv, H, I.kept (t' := tk) hk', g2, hq _ _ _ _ q g3 hs (.refl _ _)⟩
    · exact hr'.elim
end
def ItiR (a : Addr) (st : DStm) : It :=
  ⟨fun i H => H a = some (rawO a st) ∧ ∃ hi : i < st.es.size, ∃ u v, RelV u st.es[i].key ∧ RelV v st.es[i].val,
   fun i H x H' => ∃ T u v, x = .ref T ∧ H T = none ∧ H' = upd H T (.tup [u, v]) ∧ ∃ hi : i < st.es.size, RelV u st.es[i].key ∧ RelV v st.es[i].val, fun i H => H a = some (rawO a st) ∧ st.es.size ≤ i⟩
def ItvR (a : Addr) (st : DStm) : It :=
  ⟨fun i H => H a = some (rawO a st) ∧ ∃ hi : i < st.es.size, ∃ u, RelV u st.es[i].val, fun i H x H' => H' = H ∧ ∃ hi : i < st.es.size, RelV x st.es[i].val, fun i H => H a = some (rawO a st) ∧ st.es.size ≤ i⟩
theorem turn_itemsR {P : Program} {w : World} {K : PySem.W.Frag} {elts : List Expr} {kk : Nat} {tpos : Pos} {a : Addr} {st : DStm} (it : Addr) : Turn P w K (.Tuple elts kk tpos) (ItiR a st) [it] it (fun i h => ∃ ok ov, IsItemIter h it a i st.es.size st.ep ok ov) where
  mem := List.mem_singleton.mpr rfl
  obj := fun i h hst b hb => by
    obtain rfl := List.mem_singleton.mp hb
    obtain ⟨ok, ov, e⟩ := hst
    exact ⟨_, e, fun v z => nomatch z⟩
  keep := fun i h h' hst k => let ⟨ok, ov, e⟩ := hst; ⟨ok, ov, k it (List.mem_singleton.mpr rfl) _ e⟩
  item := by
    rintro X rfl rfl rfl hc i pins s σ H E I hf ⟨ok, ov, he⟩ ⟨hd, hi, u, v, ru, rv⟩
    obtain ⟨ns, raw⟩ := raw_at I hd
    have hlt : it < s.heap.objs.size := Heap.lt_size he
    refine wpAny_pyNext_items_item_raw he raw hi fun h' ho hT hz hk => ?_
    refine ⟨_, rfl, wpAny_letOwnedTupleGo_items (s := { s with heap := h' }) ho fun h'' he' sb => ?_⟩
    have hT2 : h''.get? s.heap.objs.size = some { cls := .type "tuple", data := .seq #[st.es[i].key, st.es[i].val] } := (sb.2 _ (Nat.ne_of_gt hlt)).trans hT
    have new : ObjOk X.prog X.w (upd H s.heap.objs.size (.tup [u, v])) h'' s.heap.objs.size (.tup [u, v]) :=
      ⟨by show 2 ≤ sizeLine; decide, [st.es[i].key, st.es[i].val], .cons ru (.cons rv .nil), ⟨_, hT2, rfl, _, rfl⟩⟩
    have I1 : Inv X pins σ (upd H s.heap.objs.size (.tup [u, v])) { s with heap := h'' } :=
      I.turnedNew (t' := s.toks) (ch := [it]) (fun b ob hb e => (sb.2 b (by simpa using hb)).trans (hk b ob (by simpa using hb) e)) hf (Nat.le_refl _) new
    refine ⟨.ref s.heap.objs.size, _, I1, rfl, ⟨_, u, v, rfl, I.hok.fresh (Nat.le_refl _), rfl, hi, ru, rv⟩, ⟨_, _, he'⟩, fun b hb => ?_⟩
    obtain rfl := List.mem_singleton.mp hb
    rw [upd_ne (Nat.ne_of_lt hlt)]
    exact (hf b (List.mem_singleton.mpr rfl)).1
  done := by
    rintro X rfl rfl rfl hc i pins s σ H E I hf ⟨ok, ov, he⟩ ⟨hd, hi⟩
    obtain ⟨f0, f1, f2, f3, f4, f5⟩ := hf it (List.mem_singleton.mpr rfl)
    obtain ⟨ns, raw⟩ := raw_at I hd
    exact wpAny_pyNext_items_end_raw (I.ok.hd hc) he raw hi fun h' eb => ⟨rfl, I.turned (t' := s.toks) (fun b ob hb e => eb b ob hb e) f0 f1 f3 f4 f5⟩
  self := fun A i s Q E hst h => let ⟨_, _, e⟩ := hst; PySem.W.kcp_self e h
theorem turn_valsR {P : Program} {w : World} {K : PySem.W.Frag} {tg : Expr} {a : Addr} {st : DStm} (it : Addr) : Turn P w K tg (ItvR a st) [it] it (fun i h => h.IsValIter it a i st.es.size st.ep) where
  mem := List.mem_singleton.mpr rfl
  obj := fun i h hst b hb => by
    obtain rfl := List.mem_singleton.mp hb
    obtain ⟨oi, e, c, dd⟩ := hst
    exact ⟨oi, e, fun v z => by rw [dd] at z; cases z⟩
  keep := fun i h h' hst k => hst.at fun oi e => k it (List.mem_singleton.mpr rfl) oi e
  item := by
    rintro X rfl rfl rfl hc i pins s σ H E I hf hst ⟨hd, hi, u, ru⟩
    obtain ⟨f0, f1, f2, f3, f4, f5⟩ := hf it (List.mem_singleton.mpr rfl)
    obtain ⟨ns, raw⟩ := raw_at I hd
    refine wpAny_pyNext_values_item_raw hst raw hi fun h' st' sb => ?_
    have I1 : Inv X pins σ H { s with heap := h' } := I.turned (t' := s.toks) (fun b ob hb e => (sb.2 b hb).trans e) f0 f1 f3 f4 f5
    obtain ⟨oi, e, c, dd⟩ := id st'
    exact ⟨_, rfl, go_of (s := { s with heap := h' }) e c dd (by decide) ⟨u, H, I1, ru, ⟨rfl, hi, ru⟩, st', fun b hb => (hf b hb).1⟩⟩
  done := by
    rintro X rfl rfl rfl hc i pins s σ H E I hf hst ⟨hd, hi⟩
    obtain ⟨f0, f1, f2, f3, f4, f5⟩ := hf it (List.mem_singleton.mpr rfl)
    obtain ⟨ns, raw⟩ := raw_at I hd
    exact wpAny_pyNext_values_end_raw (I.ok.hd hc) hst raw hi fun h' eb => ⟨rfl, I.turned (t' := s.toks) (fun b ob hb e => eb b ob hb e) f0 f1 f3 f4 f5⟩
  self := fun A i s Q E hst h => wpAny_pyIter_valiter hst h
theorem jok_itemsR {K : FW} {H0 : Hp} {a : Addr} {st : DStm} {kvs : List (D × D)} {stay : DS → Prop} (h : ∀ S, stay S → S a = some (.dct st kvs)) : JOk K H0 (kvs.map fun p => D.tup [p.1, p.2]) stay (ItiR a st) := by
  intro i S H p hs hst
  obtain ⟨e, re, _⟩ := hs a _ (h S hst)
  have hlen : kvs.length = st.es.size := by have := rent_len re; simpa using this
  refine ⟨fun hi => ⟨e, by rw [← hlen]; simpa using hi⟩, fun d hd => ?_⟩
  rw [List.getElem?_map] at hd
  obtain ⟨q, hq, rfl⟩ := Option.map_eq_some_iff.mp hd
  obtain ⟨en, u, v, h1, h2, h3, h4, h5⟩ := rent_at re hq
  rw [Array.getElem?_toList] at h1
  obtain ⟨hi, h1⟩ := Array.getElem?_eq_some_iff.mp h1
  refine ⟨⟨e, hi, u, v, by rw [h1]; exact h3, by rw [h1]; exact h5⟩, fun x H' ⟨T, u', v', ex, hT, eH, hi', r1, r2⟩ => ?_⟩
  subst ex eH
  rw [h1] at r1 r2
  rw [r1.inj h3, r2.inj h5]
  exact ⟨.tup (.inl (.inl upd_same)) (.cons ((Stp.laid (S := S) hT).rv h2) (.cons ((Stp.laid (S := S) hT).rv h4) .nil)), hs.laid hT, Stp.laid hT⟩
theorem jok_valsR {K : FW} {H0 : Hp} {a : Addr} {st : DStm} {kvs : List (D × D)} {stay : DS → Prop} (h : ∀ S, stay S → S a = some (.dct st kvs)) : JOk K H0 (kvs.map (·.2)) stay (ItvR a st) := by
  intro i S H p hs hst
  obtain ⟨e, re, _⟩ := hs a _ (h S hst)
  have hlen : kvs.length = st.es.size := by have := rent_len re; simpa using this
  refine ⟨fun hi => ⟨e, by rw [← hlen]; simpa using hi⟩, fun d hd => ?_⟩
  rw [List.getElem?_map] at hd
  obtain ⟨q, hq, rfl⟩ := Option.map_eq_some_iff.mp hd
  obtain ⟨en, u, v, h1, h2, h3, h4, h5⟩ := rent_at re hq
  rw [Array.getElem?_toList] at h1
  obtain ⟨hi, h1⟩ := Array.getElem?_eq_some_iff.mp h1
  refine ⟨⟨e, hi, v, by rw [h1]; exact h5⟩, fun x H' ⟨eH, hi', rx⟩ => ?_⟩
  subst eH
  rw [h1] at rx
  rw [rx.inj h5]
  exact ⟨h4, hs, .refl _ _⟩
theorem ir_itemsR {X : Cx} {elts : List Expr} {kk : Nat} {tpos apos cpos : Pos} {e : Expr} {td : TE} (he : PE X e td) (hbase : attributeBase e "items" X.env (eval e X.env) = eval e X.env := by rfl) (hline : (apos.endLine == cpos.line) = true := by rfl) :
    PI X (.Tuple elts kk tpos) (.Call (.Attribute e "items" apos) [] [] cpos) (fun σ H R => td σ H fun x H1 => ∃ a st, x = .ref a ∧ H1 a = some (rawO a st) ∧ R (ItiR a st) H1) := by
  refine ⟨fun pins s σ H R I h => ?_⟩
  refine wpAny_Call_method (T := "dict") (id := "dict.items") hbase rfl hline F.plainAttrs_dict F.slot_dict_items F.type_dict_items (thn (he.run pins s σ H _ I h) fun u s1 ⟨x, H1, I1, rx, d, st, ex, hd, q⟩ => ?_)
  subst ex
  obtain rfl : u = Value.ref d := rx
  obtain ⟨ns, raw⟩ := raw_at I1 hd
  refine ⟨raw.typeIs, fun b hb => by cases hb; obtain ⟨o, ho, hc, hdt⟩ := raw; exact ⟨o, ho, hc.2.1⟩, ?_⟩
  have I2 : Inv X pins σ H1 { s1 with heap := s1.heap.push { cls := .type "dict_items", data := .fields #[.ref d] } } := I1.kept (t' := s1.toks) fun b ob q => Heap.get?_push_of_some _ q
  have fin : wpAny (model X.prog X.w) X.A (pyIter (.ref s1.heap.objs.size)) (PIE X pins σ (.Tuple elts kk tpos) R) X.xe { s1 with heap := s1.heap.push { cls := .type "dict_items", data := .fields #[.ref d] } } :=
    wpAny_pyIter_items_raw (d := d) ⟨_, Heap.get?_push_size _ rfl, rfl, rfl⟩ (by obtain ⟨o, ho, r⟩ := raw; exact ⟨o, Heap.get?_push_of_some _ ho, r⟩) (pi_one (tk := s1.toks) I2 _ (turn_itemsR _) ⟨.none, .none, Heap.get?_push_size _ rfl⟩ q)
  show wpAny _ _ (callWith cpos (.builtin "dict.items") [.ref d] [] []) _ X.xe s1
  exact method_meetsIn F.slot_dict_items F.entry_dict_items rfl (PySem.evalArgs_none ⟨rfl, raw.typeIs, F.args_dict_items_1 _, _, meets_dict_items_raw d ns, ⟨_, _, raw⟩, fin⟩)
theorem ir_valsR {X : Cx} {tg : Expr} {apos cpos : Pos} {e : Expr} {td : TE} (he : PE X e td) (hbase : attributeBase e "values" X.env (eval e X.env) = eval e X.env := by rfl) (hline : (apos.endLine == cpos.line) = true := by rfl) :
    PI X tg (.Call (.Attribute e "values" apos) [] [] cpos) (fun σ H R => td σ H fun x H1 => ∃ a st, x = .ref a ∧ H1 a = some (rawO a st) ∧ R (ItvR a st) H1) := by
  refine ⟨fun pins s σ H R I h => ?_⟩
  refine wpAny_Call_method (T := "dict") (id := "dict.values") hbase rfl hline F.plainAttrs_dict F.slot_dict_values F.type_dict_values (thn (he.run pins s σ H _ I h) fun u s1 ⟨x, H1, I1, rx, d, st, ex, hd, q⟩ => ?_)
  subst ex
  obtain rfl : u = Value.ref d := rx
  obtain ⟨ns, raw⟩ := raw_at I1 hd
  refine ⟨raw.typeIs, fun b hb => by cases hb; obtain ⟨o, ho, hc, hdt⟩ := raw; exact ⟨o, ho, hc.2.1⟩, ?_⟩
  have I2 : Inv X pins σ H1 { s1 with heap := s1.heap.push { cls := .type "dict_values", data := .fields #[.ref d] } } := I1.kept (t' := s1.toks) fun b ob q => Heap.get?_push_of_some _ q
  have fin : wpAny (model X.prog X.w) X.A (pyIter (.ref s1.heap.objs.size)) (PIE X pins σ tg R) X.xe { s1 with heap := s1.heap.push { cls := .type "dict_values", data := .fields #[.ref d] } } :=
    wpAny_pyIter_values_raw (d := d) ⟨_, Heap.get?_push_size _ rfl, rfl, rfl⟩ (by obtain ⟨o, ho, r⟩ := raw; exact ⟨o, Heap.get?_push_of_some _ ho, r⟩) (pi_one (tk := s1.toks) I2 _ (turn_valsR _) ⟨_, Heap.get?_push_size _ rfl, rfl, rfl⟩ q)
  show wpAny _ _ (callWith cpos (.builtin "dict.values") [.ref d] [] []) _ X.xe s1
  exact method_meetsIn F.slot_dict_values F.entry_dict_values rfl (PySem.evalArgs_none ⟨rfl, raw.typeIs, F.args_dict_values_1 _, _, meets_dict_values_raw d ns, ⟨_, _, raw⟩, fin⟩)
def dItems (te : DE) : DI := fun δ S Q => te δ S fun d S1 => match dctOf S1 d with
  | some kvs => Q (kvs.map fun p => D.tup [p.1, p.2]) (fun S' => S' (adr d) = S1 (adr d)) S1
  | none => False
def dVals (te : DE) : DI := fun δ S Q => te δ S fun d S1 => match dctOf S1 d with
  | some kvs => Q (kvs.map (·.2)) (fun S' => S' (adr d) = S1 (adr d)) S1
  | none => False
theorem qi_items {X : Cx} {tbl : Tbl} {elts : List Expr} {kk : Nat} {tpos apos cpos : Pos} {e : Expr} {te : DE} (he : PE X e (liftE (xfw X tbl) te)) (hbase : attributeBase e "items" X.env (eval e X.env) = eval e X.env := by rfl) (hline : (apos.endLine == cpos.line) = true := by rfl) :
    PI X (.Tuple elts kk tpos) (.Call (.Attribute e "items" apos) [] [] cpos) (liftI (xfw X tbl) (dItems te)) :=
  PI.imp (ir_itemsR he hbase hline) fun σ H R ⟨δ, S, Q0, hr, hs, h, hq⟩ => ⟨δ, S, _, hr, hs, h, fun d S1 v H1 h1 r1 s1 a1 => by
    split at h1
    · rename_i kvs hc
      obtain ⟨a, st, rfl, e⟩ := dctOf_get hc
      cases r1
      exact ⟨a, st, rfl, (s1 a _ e).1, hq _ _ _ _ _ h1 s1 a1 (jok_itemsR fun S' z => by rw [show S' a = S1 a from z]; exact e)⟩
    · exact h1.elim⟩
theorem qi_vals {X : Cx} {tbl : Tbl} {tg : Expr} {apos cpos : Pos} {e : Expr} {te : DE} (he : PE X e (liftE (xfw X tbl) te)) (hbase : attributeBase e "values" X.env (eval e X.env) = eval e X.env := by rfl) (hline : (apos.endLine == cpos.line) = true := by rfl) :
    PI X tg (.Call (.Attribute e "values" apos) [] [] cpos) (liftI (xfw X tbl) (dVals te)) :=
  PI.imp (ir_valsR he hbase hline) fun σ H R ⟨δ, S, Q0, hr, hs, h, hq⟩ => ⟨δ, S, _, hr, hs, h, fun d S1 v H1 h1 r1 s1 a1 => by
    split at h1
    · rename_i kvs hc
      obtain ⟨a, st, rfl, e⟩ := dctOf_get hc
      cases r1
      exact ⟨a, st, rfl, (s1 a _ e).1, hq _ _ _ _ _ h1 s1 a1 (jok_valsR fun S' z => by rw [show S' a = S1 a from z]; exact e)⟩
    · exact h1.elim⟩
end DL
namespace DL
open PySem L2
def Ext (S S' : DS) : Prop := ∀ a o, S a = some o → S' a = some o
def But (d : Addr) (S S' : DS) : Prop := ∀ a o, a ≠ d → S a = some o → S' a = some o
theorem Ext.refl (S : DS) : Ext S S := fun _ _ h => h
theorem Ext.trans {S S1 S2 : DS} (a : Ext S S1) (b : Ext S1 S2) : Ext S S2 := fun c o h => b c o (a c o h)
theorem Ext.get {S S' : DS} {b : Addr} {o : DO} (e : Ext S S') (h : S b = some o) : S' b = some o := e b o h
theorem But.get {S S' : DS} {a b : Addr} {o : DO} (e : But a S S') (n : b ≠ a) (h : S b = some o) : S' b = some o := e b o n h
theorem Ext.back {S S' : DS} {a : Addr} (e : Ext S S') (h : S' a = none) : S a = none := by
  cases q : S a with
  | none => rfl
  | some o => rw [e a o q] at h; cases h
theorem But.back {S S' : DS} {d a : Addr} (e : But d S S') (n : a ≠ d) (h : S' a = none) : S a = none := by
  cases q : S a with
  | none => rfl
  | some o => rw [e a o n q] at h; cases h
theorem Ext.but {S S1 S2 : DS} {a : Addr} (e : Ext S S1) (b : But a S1 S2) (h : S a = none) : Ext S S2 := fun c o q => b c o (dne q h) (e c o q)
theorem But.ext {S S1 S2 : DS} {d : Addr} (e : But d S S1) (b : Ext S1 S2) : But d S S2 := fun c o n q => b c o (e c o n q)
theorem But.trans {S S1 S2 : DS} {d : Addr} (e : But d S S1) (b : But d S1 S2) : But d S S2 := fun c o n q => b c o n (e c o n q)
theorem But.but {S S1 S2 : DS} {d a : Addr} (e : But d S S1) (b : But a S1 S2) (h : S a = none) : But d S S2 := fun c o n q => b c o (dne q h) (e c o n q)
theorem Ext.toBut {S S1 : DS} {d : Addr} (e : Ext S S1) : But d S S1 := fun c o _ q => e c o q
theorem ext_new {S : DS} {p : Addr} {o : DO} (h : S p = none) : Ext S (dupd S p o) := fun a u q => by rw [dupd_ne (dne q h)]; exact q
theorem but_upd {S : DS} {p : Addr} {o : DO} : But p S (dupd S p o) := fun a u n q => by rw [dupd_ne n]; exact q
def asB (x : D) (S : DS) (Q : Bool → DS → Prop) : Prop := match x with
  | .bl k => Q k S
  | _ => False
def asP (x : D) (S : DS) (Q : Option Int → DS → Prop) : Prop := match x with
  | .int i => Q (some i) S
  | _ => False
section
variable {nx bk ct : Loc → DS → Prop} {rt : DK} {δ δ' : Loc} {S S1 : DS} {Q : DK} {QB : Bool → DS → Prop} {QA : List D → DS → Prop} {QL : Loc → DS → Prop} {QO : Option Int → DS → Prop} {E : DEnds} {i j n : Nat} {d x y : D} {a b c : DE} {r r' : DR2} {r1 : DR1} {t u : DT} {as : DA} {st su : DSt} {g : DG} {gs : DGs} {xs ys : List D} {f : DF} {QI : List D → (DS → Prop) → DS → Prop} {tb : DSt} {stay : DS → Prop}
theorem i_var (e : δ[i]? = some (some d)) (h : Q d S) : dVar i δ S Q := ⟨d, e, h⟩
theorem i_c (h : Q d S) : dC d δ S Q := h
theorem i_nil (h : QA [] S) : dNil δ S QA := h
theorem i_cons (h : a δ S fun x S1 => as δ S1 fun xs S2 => QA (x :: xs) S2) : dCons a as δ S QA := h
theorem i_tup (h : as δ S fun xs S1 => xs.length ≤ 16777216 ∧ Q (.tup xs) S1) : dTup as δ S Q := h
def newL (xs : List D) (S : DS) (Q : DK) : Prop := ∀ p, S p = none → Q (.ref p) (dupd S p (.lst xs))
theorem i_newL (h : ∀ p S1, S p = none → S1 p = some (.lst xs) → Ext S S1 → Q (.ref p) S1) : newL xs S Q := fun p hp => h p _ hp dupd_same (ext_new hp)
theorem i_len {P : Prop} (e : Nat.ble xs.length 16777216 = true) (h : P) : xs.length ≤ 16777216 ∧ P := ⟨Nat.le_of_ble_eq_true e, h⟩
theorem i_lst (h : as δ S fun xs S1 => xs.length ≤ 16777216 ∧ newL xs S1 Q) : dLst as δ S Q := h
theorem i_op (h : a δ S fun x S1 => b δ S1 fun y S2 => r x y S2 Q) : dOp r a b δ S Q := h
theorem i_un (h : a δ S fun x S1 => r1 x S1 Q) : dUn r1 a δ S Q := h
theorem i_tb (h : a δ S fun x S1 => asB x S1 QB) : dTb a δ S QB := h
theorem i_asB {k : Bool} (h : QB k S) : asB (.bl k) S QB := h
theorem i_chain (h : a δ S fun x S1 => b δ S1 fun y S2 => r x y S2 fun z S3 => asB z S3 fun k S4 => if k = true then c δ S4 fun w S5 => r' y w S5 Q else Q (.bl false) S4) : dChain r r' a b c δ S Q := h
theorem i_and (h : t δ S fun c S1 => if c = true then u δ S1 QB else QB false S1) : dAnd t u δ S QB := h
theorem i_or (h : t δ S fun c S1 => if c = true then QB true S1 else u δ S1 QB) : dOr t u δ S QB := h
theorem i_not (h : t δ S fun c S1 => QB (!c) S1) : dNot t δ S QB := h
theorem i_andV (h : a δ S fun x S1 => asB x S1 fun c S2 => if c = true then b δ S2 Q else Q (.bl false) S2) : dAndV a b δ S Q := h
theorem i_orV (h : a δ S fun x S1 => asB x S1 fun c S2 => if c = true then Q (.bl true) S2 else b δ S2 Q) : dOrV a b δ S Q := h
theorem i_notV (h : a δ S fun x S1 => asB x S1 fun c S2 => Q (.bl (!c)) S2) : dNotV a δ S Q := h
theorem i_ifE (h : t δ S fun c S1 => if c = true then a δ S1 Q else b δ S1 Q) : dIfE t a b δ S Q := h
theorem i_call (h : as δ S fun ds S1 => f ds S1 Q) : dCall f as δ S Q := h
theorem i_bm {ok : DS → D → Prop} {m : DM} (h : a δ S fun x S1 => ok S1 x ∧ as δ S1 fun xs S2 => m x xs S2 Q) : dBM ok m a as δ S Q := h
theorem i_noPart (h : QO none S) : dNoPart δ S QO := h
theorem i_part (h : a δ S fun x S1 => asP x S1 QO) : dPart a δ S QO := h
theorem i_asP {k : Int} (h : QO (some k) S) : asP (.int k) S QO := h
theorem i_sl {lo hi : DO'} (h : a δ S fun x S1 => lo δ S1 fun l S2 => hi δ S2 fun u S3 => oSl x l u S3 Q) : dSl a lo hi δ S Q := h
theorem i_yes (h : QB true S) : dYes δ S QB := h
theorem i_seq (h : st ⟨fun δ S => su ⟨nx, rt, bk, ct⟩ δ S, rt, bk, ct⟩ δ S) : dSeq st su ⟨nx, rt, bk, ct⟩ δ S := h
theorem i_next (h : nx δ S) : dNext ⟨nx, rt, bk, ct⟩ δ S := h
theorem i_break (h : bk δ S) : dBreak ⟨nx, rt, bk, ct⟩ δ S := h
theorem i_cont (h : ct δ S) : dCont ⟨nx, rt, bk, ct⟩ δ S := h
theorem i_drop (h : a δ S fun _ S1 => nx δ S1) : dDrop a ⟨nx, rt, bk, ct⟩ δ S := h
theorem i_ret (h : a δ S rt) : dRet a ⟨nx, rt, bk, ct⟩ δ S := h
theorem i_retN (h : rt .non S) : dRetN ⟨nx, rt, bk, ct⟩ δ S := h
theorem i_if (h : t δ S fun b S1 => if b = true then st E δ S1 else su E δ S1) : dIf t st su E δ S := h
theorem i_asg (h : a δ S fun x S1 => g x δ S1 nx) : dAsg a g ⟨nx, rt, bk, ct⟩ δ S := h
theorem i_gname (e : δ.set i (some d) = δ') (h : QL δ' S) : dgName i d δ S QL := by subst e; exact h
theorem i_gtupL {p : Addr} (e0 : S p = some (.lst xs)) (e : xs.length = n) (h : gs xs δ S QL) : dgTup n gs (.ref p) δ S QL := by
  have z : lstOf S (.ref p) = some xs := by
    unfold lstOf
    dsimp only
    rw [e0]
  show (match lstOf S (.ref p) with
    | some xs => xs.length = n ∧ gs xs δ S QL
    | none => False)
  rw [z]
  exact ⟨e, h⟩
theorem i_gtup (e : xs.length = n) (h : gs xs δ S QL) : dgTup n gs (.tup xs) δ S QL := ⟨e, h⟩
theorem i_gcons (h : g d δ S fun δ' S' => gs xs δ' S' QL) : dgCons g gs (d :: xs) δ S QL := h
theorem i_gnil (h : QL δ S) : dgNil [] δ S QL := ⟨rfl, h⟩
theorem i_gsub {sr : DSet} (h : a δ S fun o S1 => b δ S1 fun i S2 => sr o i d S2 fun S3 => QL δ S3) : dgSub a b sr d δ S QL := h
def par2 (i j : Nat) (nx : Loc → DS → Prop) (δ : Loc) (ds : List D) (S : DS) : Prop := match ds with
  | [d, e] => nx ((δ.set i (some d)).set j (some e)) S
  | _ => False
theorem i_par (h : as δ S fun ds S1 => par2 i j nx δ ds S1) : dPar i j as ⟨nx, rt, bk, ct⟩ δ S := h
theorem i_par2 (e : (δ.set i (some x)).set j (some y) = δ') (h : nx δ' S) : par2 i j nx δ [x, y] S := by subst e; exact h
theorem i_aug (e : δ[i]? = some (some d)) (h : a δ S fun y S1 => r d y S1 fun z S2 => dgName i z δ S2 nx) : dAug i a r ⟨nx, rt, bk, ct⟩ δ S := ⟨d, e, h⟩
theorem i_augS {rg rp : DR2} {rs : DSet} (h : a δ S fun o S1 => b δ S1 fun i S2 => rg o i S2 fun x S3 => c δ S3 fun y S4 => rp x y S4 fun z S5 => rs o i z S5 fun S6 => nx δ S6) : dAugS a b c rg rp rs ⟨nx, rt, bk, ct⟩ δ S := h
theorem i_for {di : DI} (h : di δ S fun xs stay S1 => forT stay g tb E xs δ S1) : dFor di g tb E δ S := h
theorem i_lc {di : DI} {vs : List Nat} (e : dwipe δ vs = δ') (h : di δ S fun xs stay S1 => lcT stay g t a δ' (fun ys S2 => newL ys S2 Q) xs [] S1) : dLc di g t a vs δ S Q := by subst e; exact h
theorem i_lc2 {di di1 : DI} {g1 : DG} {t1 : DT} {vs vs1 : List Nat} (e : dwipe δ vs = δ') (h : di δ S fun xs stay S1 => lcT2 stay g t di1 g1 t1 a δ' vs1 (fun ys S2 => newL ys S2 Q) xs [] S1) : dLc2 di g t di1 g1 t1 a vs vs1 δ S Q := by subst e; exact h
theorem i_run {F : FnD} {cs : Nat → DF} (e : xs.length = F.np) (el : xs.map some ++ List.replicate (F.nl - F.np) none = δ) (h : F.body cs { nx := fun _ S' => Q .non S', rt := Q, bk := fun _ _ => False, ct := fun _ _ => False } δ S) : runF F cs xs S Q := by subst el; exact ⟨e, h⟩
theorem i_iterT (h : QI xs (fun S' => seqOf S' (.tup xs) = some xs) S) : dIter (dC (.tup xs)) δ S QI := h
def iterV (x : D) (S : DS) (Q : List D → (DS → Prop) → DS → Prop) : Prop := match x with
  | .str z => Q (z.cps.toList.map fun c => D.str ⟨#[c]⟩) (fun _ => True) S
  | x => match dctOf S x with
    | some kvs => Q (kvs.map (·.1)) (fun S' => S' (adr x) = S (adr x)) S
    | none => match seqOf S x with
      | some xs => Q xs (fun S' => seqOf S' x = some xs) S
      | none => False
theorem dct_lst {p : Addr} (e : S p = some (.lst xs)) : dctOf S (.ref p) = none := by
  show (match S p with
    | some (.dct _ kvs) => some kvs
    | _ => none) = none
  rw [e]
theorem dct_ref {p : Addr} {st : DStm} {kvs : List (D × D)} (e : S p = some (.dct st kvs)) : dctOf S (.ref p) = some kvs := by
  show (match S p with
    | some (.dct _ kvs) => some kvs
    | _ => none) = some kvs
  rw [e]
theorem i_iter (h : a δ S fun x S1 => iterV x S1 QI) : dIter a δ S QI := h
theorem i_iterV_tup (h : QI xs (fun S' => seqOf S' (.tup xs) = some xs) S) : iterV (.tup xs) S QI := h
theorem i_iterV_fl (h : QI xs (fun S' => seqOf S' (.fl xs) = some xs) S) : iterV (.fl xs) S QI := h
theorem seq_ref {p : Addr} (e : S p = some (.lst xs)) : seqOf S (.ref p) = some xs := by
  show (match S p with
    | some (.lst xs) => some xs
    | _ => none) = some xs
  rw [e]
theorem lst_ref {p : Addr} (e : S p = some (.lst xs)) : lstOf S (.ref p) = some xs := by
  show (match S p with
    | some (.lst xs) => some xs
    | _ => none) = some xs
  rw [e]
theorem i_iterV_ref {p : Addr} (e : S p = some (.lst xs)) (h : QI xs (fun S' => seqOf S' (.ref p) = some xs) S) : iterV (.ref p) S QI := by
  show (match dctOf S (.ref p) with
    | some kvs => QI (kvs.map (·.1)) (fun S' => S' (adr (.ref p)) = S (adr (.ref p))) S
    | none => match seqOf S (.ref p) with
      | some xs => QI xs (fun S' => seqOf S' (.ref p) = some xs) S
      | none => False)
  rw [dct_lst e, seq_ref e]
  exact h
theorem i_iterV_dct {p : Addr} {st : DStm} {kvs : List (D × D)} (e : S p = some (.dct st kvs)) (h : QI (kvs.map (·.1)) (fun S' => S' p = some (.dct st kvs)) S) : iterV (.ref p) S QI := by
  show (match dctOf S (.ref p) with
    | some kvs => QI (kvs.map (·.1)) (fun S' => S' p = S p) S
    | none => match seqOf S (.ref p) with
      | some xs => QI xs (fun S' => seqOf S' (.ref p) = some xs) S
      | none => False)
  rw [dct_ref e, e]
  exact h
theorem oIx_lst {p : Addr} (e : S p = some (.lst xs)) (h : oIx0 (.ref p) y S Q) : oIx (.ref p) y S Q := by unfold oIx; rw [dct_lst e]; exact h
theorem oIn_lst {p : Addr} {neg : Bool} (e : S p = some (.lst xs)) (h : oIn0 neg x (.ref p) S Q) : oIn neg x (.ref p) S Q := by unfold oIn; rw [dct_lst e]; exact h
theorem sIx_lst {p : Addr} {QS : DS → Prop} {i v : D} (e : S p = some (.lst xs)) (h : sIx0 (.ref p) i v S QS) : sIx (.ref p) i v S QS := by unfold sIx; rw [dct_lst e]; exact h
theorem bLen_lst {p : Addr} (e : S p = some (.lst xs)) (h : bLen0 [.ref p] S Q) : bLen [.ref p] S Q := by unfold bLen; dsimp only; rw [dct_lst e]; exact h
theorem bList_lst {p : Addr} (e : S p = some (.lst xs)) (h : bList0 [.ref p] S Q) : bList [.ref p] S Q := by unfold bList; dsimp only; rw [dct_lst e]; exact h
/-- a new dict, a dict with another content -/
def newT (S : DS) (Q : DK) : Prop := ∀ p st, S p = none → Q (.ref p) (dupd S p (.dct st []))
theorem i_newT (h : ∀ p st S1, S p = none → S1 p = some (.dct st []) → Ext S S1 → Q (.ref p) S1) : newT S Q := fun p st hp => h p st _ hp dupd_same (ext_new hp)
theorem i_dct0 (h : newT S Q) : dDct0 δ S Q := h
def putD (p : Addr) (kvs : List (D × D)) (S : DS) (Q : DS → Prop) : Prop := ∀ st, Q (dupd S p (.dct st kvs))
theorem i_putD {p : Addr} {kvs : List (D × D)} {QS : DS → Prop} (h : ∀ st S1, S1 p = some (.dct st kvs) → But p S S1 → QS S1) : putD p kvs S QS := fun st => h st _ dupd_same but_upd
theorem o_ixD {p : Addr} {st : DStm} {kvs : List (D × D)} {v : D} (e : S p = some (.dct st kvs)) (hk : kOk kvs y) (hg : dget kvs y = some v) (h : Q v S) : oIx (.ref p) y S Q := by unfold oIx; rw [dct_ref e]; exact ⟨hk, v, hg, h⟩
theorem o_ixAD {p : Addr} {st : DStm} {kvs : List (D × D)} {v : D} (e : S p = some (.dct st kvs)) (hk : kOk kvs y) (hg : dget kvs y = some v) (h : Q v S) : oIxA (.ref p) y S Q := by unfold oIxA; rw [dct_ref e]; exact ⟨hk, v, hg, h⟩
theorem s_ixD {p : Addr} {st : DStm} {kvs : List (D × D)} {QS : DS → Prop} {v : D} (e : S p = some (.dct st kvs)) (hk : kOk kvs y) (hl : kvs.length < 16777216) (h : putD p (dput kvs y v) S QS) : sIx (.ref p) y v S QS := by unfold sIx; rw [dct_ref e]; exact ⟨⟨hk, hl⟩, h⟩
theorem o_inD {p : Addr} {st : DStm} {kvs : List (D × D)} {neg : Bool} (e : S p = some (.dct st kvs)) (hk : kOk kvs x) (h : Q (.bl (neg ^^ (dget kvs x).isSome)) S) : oIn neg x (.ref p) S Q := by unfold oIn; rw [dct_ref e]; exact ⟨hk, h⟩
theorem c_lenD {p : Addr} {st : DStm} {kvs : List (D × D)} (e : S p = some (.dct st kvs)) (h : Q (.int kvs.length) S) : bLen [.ref p] S Q := by unfold bLen; dsimp only; rw [dct_ref e]; exact h
theorem c_listD {p : Addr} {st : DStm} {kvs : List (D × D)} (e : S p = some (.dct st kvs)) (h : newL (kvs.map (·.1)) S Q) : bList [.ref p] S Q := by unfold bList; dsimp only; rw [dct_ref e]; exact h
theorem ok_D {p : Addr} {st : DStm} {kvs : List (D × D)} {PP : Prop} (e : S p = some (.dct st kvs)) (h : PP) : okDct S (.ref p) ∧ PP := ⟨by unfold okDct; rw [dct_ref e]; rfl, h⟩
theorem m_get1 {p : Addr} {st : DStm} {kvs : List (D × D)} (e : S p = some (.dct st kvs)) (hk : kOk kvs y) (h : Q ((dget kvs y).getD .non) S) : mGet (.ref p) [y] S Q := by unfold mGet; rw [dct_ref e]; exact ⟨hk, h⟩
theorem m_get2 {p : Addr} {st : DStm} {kvs : List (D × D)} (e : S p = some (.dct st kvs)) (hk : kOk kvs y) (h : Q ((dget kvs y).getD x) S) : mGet (.ref p) [y, x] S Q := by unfold mGet; rw [dct_ref e]; exact ⟨hk, h⟩
def rng1V (ds : List D) (S : DS) (Q : List D → (DS → Prop) → DS → Prop) : Prop := match ds with
  | [.int j] => (-(2 ^ 62) ≤ j ∧ j < 2 ^ 62) ∧ Q (rngL 0 j.toNat) (fun _ => True) S
  | _ => False
def rng2V (ds : List D) (S : DS) (Q : List D → (DS → Prop) → DS → Prop) : Prop := match ds with
  | [.int i, .int j] => (-(2 ^ 62) ≤ i ∧ i < 2 ^ 62 ∧ -(2 ^ 62) ≤ j ∧ j < 2 ^ 62) ∧ Q (rngL i (j - i).toNat) (fun _ => True) S
  | _ => False
theorem i_rng1 (h : as δ S fun ds S1 => rng1V ds S1 QI) : dRng1 as δ S QI := h
theorem i_rng1V {k : Int} (hb : -(2 ^ 62) ≤ k ∧ k < 2 ^ 62) (h : QI (rngL 0 k.toNat) (fun _ => True) S) : rng1V [.int k] S QI := ⟨hb, h⟩
theorem i_rng2 (h : as δ S fun ds S1 => rng2V ds S1 QI) : dRng2 as δ S QI := h
theorem i_rng2V {k l : Int} (hb : -(2 ^ 62) ≤ k ∧ k < 2 ^ 62 ∧ -(2 ^ 62) ≤ l ∧ l < 2 ^ 62) (h : QI (rngL k (l - k).toNat) (fun _ => True) S) : rng2V [.int k, .int l] S QI := ⟨hb, h⟩
def revV (x : D) (S : DS) (Q : List D → (DS → Prop) → DS → Prop) : Prop := match seqOf S x with
  | some xs => Q xs.reverse (fun S' => seqOf S' x = some xs) S
  | none => False
theorem i_rev (h : a δ S fun x S1 => revV x S1 QI) : dRev a δ S QI := h
theorem i_revV (e : seqOf S x = some xs) (h : QI xs.reverse (fun S' => seqOf S' x = some xs) S) : revV x S QI := by unfold revV; rw [e]; exact h
def enumV (ds : List D) (S : DS) (Q : List D → (DS → Prop) → DS → Prop) : Prop := match ds with
  | [.tup xs] => Q (numL xs) (fun _ => True) S
  | [x] => match lstOf S x with
    | some xs => Q (numL xs) (fun S' => lstOf S' x = some xs) S
    | none => False
  | _ => False
theorem i_enum (h : as δ S fun ds S1 => enumV ds S1 QI) : dEnum as δ S QI := h
theorem i_enumT (h : QI (numL xs) (fun _ => True) S) : enumV [.tup xs] S QI := h
theorem i_enumV (e : lstOf S x = some xs) (h : QI (numL xs) (fun S' => lstOf S' x = some xs) S) : enumV [x] S QI := by
  have gen : (match lstOf S x with
    | some xs => QI (numL xs) (fun S' => lstOf S' x = some xs) S
    | none => False) := by rw [e]; exact h
  cases x with
  | tup _ => cases e
  | _ => exact gen
variable {k l : Int} {p q : Addr} {z w : Str}
theorem o_addI (h : Q (.int (k + l)) S) : oAdd (.int k) (.int l) S Q := h
theorem o_addS (hl : z.length + w.length ≤ 16777216) (h : Q (.str (z ++ w)) S) : oAdd (.str z) (.str w) S Q := ⟨hl, h⟩
theorem o_addT (hl : xs.length + ys.length ≤ 16777216) (h : Q (.tup (xs ++ ys)) S) : oAdd (.tup xs) (.tup ys) S Q := ⟨hl, h⟩
theorem o_addL (e1 : S p = some (.lst xs)) (e2 : S q = some (.lst ys)) (hl : xs.length + ys.length ≤ 16777216) (h : newL (xs ++ ys) S Q) : oAdd (.ref p) (.ref q) S Q := by
  show (match S p, S q with
    | some (.lst xs), some (.lst ys) => xs.length + ys.length ≤ 16777216 ∧ ∀ p, S p = none → Q (.ref p) (dupd S p (.lst (xs ++ ys)))
    | _, _ => False)
  rw [e1, e2]; exact ⟨hl, h⟩
theorem o_subI (h : Q (.int (k - l)) S) : oSub (.int k) (.int l) S Q := h
theorem o_mulI (hl : k.natAbs.log2 + l.natAbs.log2 < 1000000) (h : Q (.int (k * l)) S) : oMul (.int k) (.int l) S Q := ⟨hl, h⟩
theorem o_mulL (e : S p = some (.lst xs)) (hl : -(2 ^ 63) ≤ k ∧ k < 2 ^ 63 ∧ xs.length * k.toNat ≤ 16777216) (h : newL (List.replicate k.toNat xs).flatten S Q) : oMul (.ref p) (.int k) S Q := by
  show (match S p with
    | some (.lst xs) => (-(2 ^ 63) ≤ k ∧ k < 2 ^ 63 ∧ xs.length * k.toNat ≤ 16777216) ∧ ∀ p, S p = none → Q (.ref p) (dupd S p (.lst (List.replicate k.toNat xs).flatten))
    | _ => False)
  rw [e]; exact ⟨hl, h⟩
theorem o_mulT (h1 : xs ≠ []) (h2 : 1 ≤ k) (h3 : k ≤ 1000) (h4 : xs.length ≤ 1000) (h : Q (.tup (List.replicate k.toNat xs).flatten) S) : oMul (.tup xs) (.int k) S Q := ⟨⟨h1, h2, h3, h4⟩, h⟩
theorem o_fdvI (hl : 0 < l ∧ l.natAbs.log2 < 9000) (h : Q (.int (k / l)) S) : oFdv (.int k) (.int l) S Q := ⟨hl, h⟩
theorem o_modI (hl : 0 < l) (h : Q (.int (k % l)) S) : oMod (.int k) (.int l) S Q := ⟨hl, h⟩
theorem o_powI (hl : 0 ≤ l ∧ l ≤ 1000000 ∧ k.natAbs < 2 ^ 64) (h : Q (.int (k ^ l.toNat)) S) : oPow (.int k) (.int l) S Q := ⟨hl, h⟩
theorem o_shlI (hl : 0 ≤ l ∧ l ≤ 1000000 ∧ k.natAbs < 2 ^ 64) (h : Q (.int (k * 2 ^ l.toNat)) S) : oShl (.int k) (.int l) S Q := ⟨hl, h⟩
theorem o_bitI {f : Int → Int → Int} (h : Q (.int (f k l)) S) : oBit f (.int k) (.int l) S Q := h
theorem o_neg (h : Q (.int (-k)) S) : uNeg (.int k) S Q := h
theorem o_cmpI {o : COp} (h : Q (.bl (o.int k l)) S) : oCmp o (.int k) (.int l) S Q := h
theorem o_ltI (h : Q (.bl (decide (k < l))) S) : oCmp .lt (.int k) (.int l) S Q := h
theorem o_leI (h : Q (.bl (decide (k ≤ l))) S) : oCmp .le (.int k) (.int l) S Q := h
theorem o_gtI (h : Q (.bl (decide (l < k))) S) : oCmp .gt (.int k) (.int l) S Q := h
theorem o_geI (h : Q (.bl (decide (l ≤ k))) S) : oCmp .ge (.int k) (.int l) S Q := h
theorem eqv_int : D.eqv (.int k) (.int l) = decide (k = l) := by unfold D.eqv; rw [D.py, D.py, PyData.eqv]; rw [Bool.eq_iff_iff]; simp
theorem eqv_str : D.eqv (.str z) (.str w) = decide (z = w) := by unfold D.eqv; rw [D.py, D.py, PyData.eqv]; rw [Bool.eq_iff_iff]; simp
theorem eqv_bl {b c : Bool} : D.eqv (.bl b) (.bl c) = (b == c) := by unfold D.eqv; rw [D.py, D.py, PyData.eqv]
theorem plain_int : (D.int k).plain = true := by rw [D.plain]
theorem plain_str : (D.str z).plain = true := by rw [D.plain]
theorem plain_bl {b : Bool} : (D.bl b).plain = true := by rw [D.plain]
theorem plain_non : D.non.plain = true := by rw [D.plain]
/-- == of things without mutable parts -/
theorem o_eqP {neg : Bool} (hx : x.plain = true) (hy : y.plain = true) (hd : x.dep ≤ 50 ∨ y.dep ≤ 50) (h : Q (.bl (neg ^^ D.eqv x y)) S) : oEq neg x y S Q := by
  unfold oEq
  rw [D.rd_plain x 4 hx, D.rd_plain y 4 hy]
  exact ⟨⟨hx, hy, hd⟩, h⟩
theorem rdL_plain {xs : List D} {n : Nat} (h : D.plainL xs = true) : xs.map (D.rd S n) = xs := by
  have : ∀ y ∈ xs, D.rd S n y = y := fun y hy => D.rd_plain y n (D.plainL_mem h y hy)
  exact (List.map_congr_left this).trans (List.map_id' xs)
theorem o_inT {neg : Bool} (hx : x.plain = true) (hxs : D.plainL xs = true) (hd : x.dep ≤ 50) (h : Q (.bl (neg ^^ xs.any fun e => D.eqv e x)) S) : oIn neg x (.tup xs) S Q := by
  show (((x.rd S 3).plain = true ∧ D.plainL (xs.map (D.rd S 3)) = true ∧ (x.rd S 3).dep ≤ 50) ∧ Q (.bl (neg ^^ (xs.map (D.rd S 3)).any fun e => D.eqv e (x.rd S 3))) S)
  rw [D.rd_plain x 3 hx, rdL_plain hxs]
  exact ⟨⟨hx, hxs, hd⟩, h⟩
theorem o_inL {neg : Bool} (e : S p = some (.lst xs)) (hx : x.plain = true) (hxs : D.plainL xs = true) (hd : x.dep ≤ 50) (h : Q (.bl (neg ^^ xs.any fun e => D.eqv e x)) S) : oIn neg x (.ref p) S Q := by
  refine oIn_lst e ?_
  show (match seqOf S (.ref p) with
    | some xs => ((x.rd S 3).plain = true ∧ D.plainL (xs.map (D.rd S 3)) = true ∧ (x.rd S 3).dep ≤ 50) ∧ Q (.bl (neg ^^ (xs.map (D.rd S 3)).any fun e => D.eqv e (x.rd S 3))) S
    | none => False)
  rw [seq_ref e]
  show (((x.rd S 3).plain = true ∧ D.plainL (xs.map (D.rd S 3)) = true ∧ (x.rd S 3).dep ≤ 50) ∧ Q (.bl (neg ^^ (xs.map (D.rd S 3)).any fun e => D.eqv e (x.rd S 3))) S)
  rw [D.rd_plain x 3 hx, rdL_plain hxs]
  exact ⟨⟨hx, hxs, hd⟩, h⟩
theorem plainL_strs : ∀ zs : List Str, D.plainL (zs.map D.str) = true
  | [] => by rw [List.map_nil, D.plainL]
  | z :: zs => by rw [List.map_cons, D.plainL, plainL_strs zs, plain_str]; rfl
theorem plainL_ints : ∀ zs : List Int, D.plainL (zs.map D.int) = true
  | [] => by rw [List.map_nil, D.plainL]
  | z :: zs => by rw [List.map_cons, D.plainL, plainL_ints zs, plain_int]; rfl
theorem any_strs {z : Str} : ∀ zs : List Str, ((zs.map D.str).any fun e => D.eqv e (.str z)) = decide (z ∈ zs)
  | [] => rfl
  | y :: zs => by
    rw [List.map_cons, List.any_cons, any_strs zs, eqv_str, Bool.eq_iff_iff, Bool.or_eq_true, decide_eq_true_iff, decide_eq_true_iff, decide_eq_true_iff, List.mem_cons]
    exact or_congr eq_comm Iff.rfl
theorem any_ints {z : Int} : ∀ zs : List Int, ((zs.map D.int).any fun e => D.eqv e (.int z)) = decide (z ∈ zs)
  | [] => rfl
  | y :: zs => by
    rw [List.map_cons, List.any_cons, any_ints zs, eqv_int, Bool.eq_iff_iff, Bool.or_eq_true, decide_eq_true_iff, decide_eq_true_iff, decide_eq_true_iff, List.mem_cons]
    exact or_congr eq_comm Iff.rfl
theorem dep_str0 {z : Str} : (D.str z).dep ≤ 50 := by rw [D.dep]; decide
theorem dep_int0 {z : Int} : (D.int z).dep ≤ 50 := by rw [D.dep]; decide
theorem o_inS (zs : List Str) (h : Q (.bl (decide (z ∈ zs))) S) : oIn false (.str z) (.tup (zs.map D.str)) S Q := o_inT plain_str (plainL_strs zs) dep_str0 (by rw [Bool.false_xor, any_strs]; exact h)
theorem o_notinS (zs : List Str) (h : Q (.bl (!decide (z ∈ zs))) S) : oIn true (.str z) (.tup (zs.map D.str)) S Q := o_inT plain_str (plainL_strs zs) dep_str0 (by rw [Bool.true_xor, any_strs]; exact h)
theorem o_inI (zs : List Int) (h : Q (.bl (decide (k ∈ zs))) S) : oIn false (.int k) (.tup (zs.map D.int)) S Q := o_inT plain_int (plainL_ints zs) dep_int0 (by rw [Bool.false_xor, any_ints]; exact h)
theorem o_notinI (zs : List Int) (h : Q (.bl (!decide (k ∈ zs))) S) : oIn true (.int k) (.tup (zs.map D.int)) S Q := o_inT plain_int (plainL_ints zs) dep_int0 (by rw [Bool.true_xor, any_ints]; exact h)
theorem o_inIL (zs : List Int) (e : S p = some (.lst (zs.map D.int))) (h : Q (.bl (decide (k ∈ zs))) S) : oIn false (.int k) (.ref p) S Q := o_inL e plain_int (plainL_ints zs) dep_int0 (by rw [Bool.false_xor, any_ints]; exact h)
theorem o_notinIL (zs : List Int) (e : S p = some (.lst (zs.map D.int))) (h : Q (.bl (!decide (k ∈ zs))) S) : oIn true (.int k) (.ref p) S Q := o_inL e plain_int (plainL_ints zs) dep_int0 (by rw [Bool.true_xor, any_ints]; exact h)
theorem plainL_bls : ∀ zs : List Bool, D.plainL (zs.map D.bl) = true
  | [] => by rw [List.map_nil, D.plainL]
  | z :: zs => by rw [List.map_cons, D.plainL, plainL_bls zs, plain_bl]; rfl
theorem any_bls {z : Bool} : ∀ zs : List Bool, ((zs.map D.bl).any fun e => D.eqv e (.bl z)) = decide (z ∈ zs)
  | [] => rfl
  | y :: zs => by
    rw [List.map_cons, List.any_cons, any_bls zs, eqv_bl, Bool.eq_iff_iff, Bool.or_eq_true, beq_iff_eq, decide_eq_true_iff, decide_eq_true_iff, List.mem_cons]
    exact or_congr eq_comm Iff.rfl
theorem o_inBL {z : Bool} {zs : List Bool} (neg : Bool) (e : S p = some (.lst (zs.map D.bl))) (h : Q (.bl (neg ^^ decide (z ∈ zs))) S) : oIn neg (.bl z) (.ref p) S Q := o_inL e plain_bl (plainL_bls zs) (by rw [D.dep]; decide) (by rw [any_bls]; exact h)
theorem dep_int : (D.int k).dep ≤ 50 := by rw [D.dep]; decide
theorem dep_str : (D.str z).dep ≤ 50 := by rw [D.dep]; decide
theorem dep_bl {b : Bool} : (D.bl b).dep ≤ 50 := by rw [D.dep]; decide
theorem dep_non : D.non.dep ≤ 50 := by rw [D.dep]; decide
theorem o_eqI (h : Q (.bl (decide (k = l))) S) : oEq false (.int k) (.int l) S Q := o_eqP plain_int plain_int (.inl dep_int) (by rw [Bool.false_xor, eqv_int]; exact h)
theorem o_neI (h : Q (.bl (!decide (k = l))) S) : oEq true (.int k) (.int l) S Q := o_eqP plain_int plain_int (.inl dep_int) (by rw [Bool.true_xor, eqv_int]; exact h)
theorem o_eqS (h : Q (.bl (decide (z = w))) S) : oEq false (.str z) (.str w) S Q := o_eqP plain_str plain_str (.inl dep_str) (by rw [Bool.false_xor, eqv_str]; exact h)
theorem o_neS (h : Q (.bl (!decide (z = w))) S) : oEq true (.str z) (.str w) S Q := o_eqP plain_str plain_str (.inl dep_str) (by rw [Bool.true_xor, eqv_str]; exact h)
theorem o_eqB {b c : Bool} (h : Q (.bl (b == c)) S) : oEq false (.bl b) (.bl c) S Q := o_eqP plain_bl plain_bl (.inl dep_bl) (by rw [Bool.false_xor, eqv_bl]; exact h)
theorem o_neB {b c : Bool} (h : Q (.bl (!(b == c))) S) : oEq true (.bl b) (.bl c) S Q := o_eqP plain_bl plain_bl (.inl dep_bl) (by rw [Bool.true_xor, eqv_bl]; exact h)
def isNon : D → Bool
  | .non => true
  | _ => false
theorem o_is (h : Q (.bl (isNon x)) S) : oIs false x .non S Q := by
  cases x <;> exact h
theorem o_isnot (h : Q (.bl (!isNon x)) S) : oIs true x .non S Q := by
  cases x <;> exact h
theorem o_isBl {b c : Bool} (h : Q (.bl (decide (b = c))) S) : oIs false (.bl b) (.bl c) S Q := by
  show Q (.bl (false ^^ decide (b = c))) S
  rw [Bool.false_xor]; exact h
theorem o_notBl {b c : Bool} (h : Q (.bl (!decide (b = c))) S) : oIs true (.bl b) (.bl c) S Q := by
  show Q (.bl (true ^^ decide (b = c))) S
  rw [Bool.true_xor]; exact h
/-- an item -/
theorem o_ixT {v : D} (e : atI xs k = some v) (h : Q v S) : oIx (.tup xs) (.int k) S Q := by
  show (match atI xs k with
    | some d => Q d S
    | none => False)
  rw [e]; exact h
theorem o_ixF {v : D} (e : atI xs k = some v) (h : Q v S) : oIx (.fl xs) (.int k) S Q := by
  show (match atI xs k with
    | some d => Q d S
    | none => False)
  rw [e]; exact h
theorem o_ixL {v : D} (e0 : S p = some (.lst xs)) (e : atI xs k = some v) (h : Q v S) : oIx (.ref p) (.int k) S Q := by
  refine oIx_lst e0 ?_
  show (match seqOf S (.ref p) with
    | some xs => match atI xs k with
      | some d => Q d S
      | none => False
    | none => False)
  rw [seq_ref e0]
  show (match atI xs k with
    | some d => Q d S
    | none => False)
  rw [e]; exact h
theorem o_ixS {c : Nat} (hz : z.length ≤ 16777216) (e : atI z.cps.toList k = some c) (h : Q (.str ⟨#[c]⟩) S) : oIx (.str z) (.int k) S Q := by
  refine ⟨hz, ?_⟩
  show (match atI z.cps.toList k with
    | some c => Q (.str ⟨#[c]⟩) S
    | none => False)
  rw [e]; exact h
theorem o_slT {lo hi : Option Int} (h : Q (.tup (dcut xs lo hi)) S) : oSl (.tup xs) lo hi S Q := h
theorem o_slF {lo hi : Option Int} (h : newL (dcut xs lo hi) S Q) : oSl (.fl xs) lo hi S Q := h
theorem o_slL {lo hi : Option Int} (e : S p = some (.lst xs)) (h : newL (dcut xs lo hi) S Q) : oSl (.ref p) lo hi S Q := by
  show (match lstOf S (.ref p) with
    | some xs => ∀ p, S p = none → Q (.ref p) (dupd S p (.lst (dcut xs lo hi)))
    | none => False)
  rw [lst_ref e]; exact h
def putL (p : Addr) (xs : List D) (S : DS) (Q : DS → Prop) : Prop := Q (dupd S p (.lst xs))
theorem i_putL {QS : DS → Prop} (h : ∀ S1, S1 p = some (.lst xs) → But p S S1 → QS S1) : putL p xs S QS := h _ dupd_same but_upd
theorem s_ix {QS : DS → Prop} {v : D} {m : Nat} (e : S p = some (.lst xs)) (ek : ixN xs.length k = some m) (h : putL p (xs.set m v) S QS) : sIx (.ref p) (.int k) v S QS := by
  refine sIx_lst e ?_
  show (match S p with
    | some (.lst xs) => match ixN xs.length k with
      | some j => QS (dupd S p (.lst (xs.set j v)))
      | none => False
    | _ => False)
  rw [e]
  show (match ixN xs.length k with
    | some j => QS (dupd S p (.lst (xs.set j v)))
    | none => False)
  rw [ek]; exact h
theorem c_lenT (h : Q (.int xs.length) S) : bLen [.tup xs] S Q := h
theorem c_lenF (h : Q (.int xs.length) S) : bLen [.fl xs] S Q := h
theorem c_lenL (e : S p = some (.lst xs)) (h : Q (.int xs.length) S) : bLen [.ref p] S Q := by
  refine bLen_lst e ?_
  show (match (seqOf S (.ref p)).map (fun l : List D => l.length) with
    | some n => Q (.int ((n : Nat) : Int)) S
    | none => False)
  rw [seq_ref e]; exact h
theorem c_lenS (hz : z.length ≤ 16777216) (h : Q (.int z.length) S) : bLen [.str z] S Q := by
  show (match lenOf S (.str z) with
    | some n => Q (.int n) S
    | none => False)
  rw [lenOf, if_pos hz]; exact h
theorem c_int (h : Q (.int k) S) : bInt [.int k] S Q := h
theorem c_intB {b : Bool} (h : Q (.int (if b then 1 else 0)) S) : bInt [.bl b] S Q := h
theorem c_abs (h : Q (.int (if k < 0 then -k else k)) S) : bAbs [.int k] S Q := h
theorem c_max2 (h : Q (.int (max k l)) S) : bMax2 [.int k, .int l] S Q := by
  show Q (.int (if l > k then l else k)) S
  rw [show (if l > k then l else k) = max k l by rw [Int.max_def]; split <;> split <;> omega]; exact h
theorem c_min2 (h : Q (.int (min k l)) S) : bMin2 [.int k, .int l] S Q := by
  show Q (.int (if l < k then l else k)) S
  rw [show (if l < k then l else k) = min k l by rw [Int.min_def]; split <;> split <;> omega]; exact h
theorem c_listT (h : newL xs S Q) : bList [.tup xs] S Q := h
theorem c_listF (h : newL xs S Q) : bList [.fl xs] S Q := h
theorem c_listL (e : S p = some (.lst xs)) (h : newL xs S Q) : bList [.ref p] S Q := by
  refine bList_lst e ?_
  show (match seqOf S (.ref p) with
    | some xs => ∀ p, S p = none → Q (.ref p) (dupd S p (.lst xs))
    | none => False)
  rw [seq_ref e]; exact h
theorem c_tupleT (h : Q (.tup xs) S) : bTuple [.tup xs] S Q := h
theorem c_tupleF (h : Q (.tup xs) S) : bTuple [.fl xs] S Q := h
theorem c_tupleL (e : S p = some (.lst xs)) (h : Q (.tup xs) S) : bTuple [.ref p] S Q := by
  show (match seqOf S (.ref p) with
    | some xs => Q (.tup xs) S
    | none => False)
  rw [seq_ref e]; exact h
theorem c_isi {T : String} {s : String} (e : tyName S x = some s) (kT : knownTy T = true) (h : Q (.bl (isi s T)) S) : bIsi [x, .ty T] S Q := by
  show (match tyName S x with
    | some t => knownTy T = true ∧ Q (.bl (isi t T)) S
    | none => False)
  rw [e]; exact ⟨kT, h⟩
theorem c_isi2 {T U : String} {s : String} (e : tyName S x = some s) (kT : knownTy T = true) (kU : knownTy U = true) (h : Q (.bl (isi s T || isi s U)) S) : bIsi [x, .tup [.ty T, .ty U]] S Q := by
  show (match tyName S x with
    | some t => (knownTy T = true ∧ knownTy U = true) ∧ Q (.bl (isi t T || isi t U)) S
    | none => False)
  rw [e]; exact ⟨⟨kT, kU⟩, h⟩
theorem c_sorted (e : lstOf S x = some xs) (h1 : ∀ x ∈ xs, x.plain = true ∧ x.dep ≤ 50) (h2 : PySem.W.AllAlike (xs.map D.py)) (h3 : PySem.W.Sortable (xs.map D.py)) (h : newL (xs.mergeSort dle) S Q) : bSorted [x] S Q := by
  show (match lstOf S x with
    | some xs => ((∀ x ∈ xs, x.plain = true ∧ x.dep ≤ 50) ∧ PySem.W.AllAlike (xs.map D.py) ∧ PySem.W.Sortable (xs.map D.py)) ∧ ∀ p, S p = none → Q (.ref p) (dupd S p (.lst (xs.mergeSort dle)))
    | none => False)
  rw [e]; exact ⟨⟨h1, h2, h3⟩, h⟩
theorem dle_int {i j : Int} : dle (.int i) (.int j) = decide (i ≤ j) := by
  show (!PySem.W.dataLt (D.py (.int j)) (D.py (.int i))) = _
  rw [show D.py (.int i) = .int i by rw [D.py], show D.py (.int j) = .int j by rw [D.py], PySem.W.dataLt_int]
  rw [Bool.eq_iff_iff]; simp
theorem c_sortedI {ns : List Int} (e : lstOf S x = some (ns.map D.int)) (h : newL ((ns.mergeSort fun a b => decide (a ≤ b)).map D.int) S Q) : bSorted [x] S Q := by
  refine c_sorted e ?_ ?_ ?_ ?_
  · intro x hx
    obtain ⟨i, _, rfl⟩ := List.mem_map.mp hx
    exact ⟨plain_int, dep_int⟩
  · intro d hd d' hd'
    rw [List.map_map] at hd hd'
    obtain ⟨i, _, rfl⟩ := List.mem_map.mp hd
    obtain ⟨j, _, rfl⟩ := List.mem_map.mp hd'
    simp [Function.comp, D.py, PySem.W.alike]
  · right
    intro d hd
    rw [List.map_map] at hd
    obtain ⟨i, _, rfl⟩ := List.mem_map.mp hd
    simp [Function.comp, D.py]
  · rw [← List.map_mergeSort (r := fun a b => decide (a ≤ b)) (fun a _ b _ => dle_int.symm)]
    exact h
theorem c_sum {ns : List Int} (e : lstOf S x = some (ns.map D.int)) (h : Q (.int ns.sum) S) : bSum [x] S Q := by
  show (match lstOf S x with
    | some xs => ∃ ns : List Int, xs = ns.map D.int ∧ Q (.int ns.sum) S
    | none => False)
  rw [e]; exact ⟨ns, rfl, h⟩
theorem c_any {bs : List Bool} (e : lstOf S x = some (bs.map D.bl)) (h : Q (.bl (bs.any id)) S) : bAny [x] S Q := by
  show (match lstOf S x with
    | some xs => ∃ bs : List Bool, xs = bs.map D.bl ∧ Q (.bl (bs.any id)) S
    | none => False)
  rw [e]; exact ⟨bs, rfl, h⟩
theorem c_all {bs : List Bool} (e : lstOf S x = some (bs.map D.bl)) (h : Q (.bl (bs.all id)) S) : bAll [x] S Q := by
  show (match lstOf S x with
    | some xs => ∃ bs : List Bool, xs = bs.map D.bl ∧ Q (.bl (bs.all id)) S
    | none => False)
  rw [e]; exact ⟨bs, rfl, h⟩
theorem ok_L {p : Addr} (e : S p = some (.lst xs)) {P : Prop} (h : P) : okLst S (.ref p) ∧ P := ⟨by unfold okLst; rw [lst_ref e]; rfl, h⟩
theorem ok_S {P : Prop} (h : P) : okStr S (.str z) ∧ P := ⟨True.intro, h⟩
theorem m_lst {fm : List D → List D → Option (D × List D)} {v : D} (e : S p = some (.lst xs)) (ef : fm xs ys = some (v, zs)) (hl : zs.length ≤ 16777216) (h : putL p zs S (Q v)) : mLst fm (.ref p) ys S Q := by
  show (match S p with
    | some (.lst xs) => match fm xs ys with
      | some (r, ys) => ys.length ≤ 16777216 ∧ Q r (dupd S p (.lst ys))
      | none => False
    | _ => False)
  rw [e]
  show (match fm xs ys with
    | some (r, ys) => ys.length ≤ 16777216 ∧ Q r (dupd S p (.lst ys))
    | none => False)
  rw [ef]; exact ⟨hl, h⟩
theorem m_append (e : S p = some (.lst xs)) (hl : (xs ++ [x]).length ≤ 16777216) (h : putL p (xs ++ [x]) S (Q .non)) : mLst fAppend (.ref p) [x] S Q := m_lst e rfl hl h
theorem m_pop (e : S p = some (.lst (xs ++ [x]))) (hl : xs.length ≤ 16777216) (h : putL p xs S (Q x)) : mLst fPop (.ref p) [] S Q := by
  refine m_lst e ?_ hl h
  show (match (xs ++ [x])[(xs ++ [x]).length - 1]? with
    | some y => some (y, (xs ++ [x]).dropLast)
    | none => none) = some (x, xs)
  simp
theorem m_reverse (e : S p = some (.lst xs)) (hl : xs.length ≤ 16777216) (h : putL p xs.reverse S (Q .non)) : mLst fReverse (.ref p) [] S Q := m_lst e rfl (by rw [List.length_reverse]; exact hl) h
theorem m_popAt {m : Nat} (e : S p = some (.lst xs)) (ek : ixN xs.length k = some m) (ex : xs[m]? = some x) (hl : xs.length ≤ 16777216) (h : putL p (xs.eraseIdx m) S (Q x)) : mLst fPopAt (.ref p) [.int k] S Q := by
  refine m_lst e ?_ (Nat.le_trans (List.length_eraseIdx_le ..) hl) h
  show (match ixN xs.length k with
    | some k => match xs[k]? with
      | some y => some (y, xs.eraseIdx k)
      | none => none
    | none => none) = some (x, xs.eraseIdx m)
  rw [ek]
  show (match xs[m]? with
    | some y => some (y, xs.eraseIdx m)
    | none => none) = some (x, xs.eraseIdx m)
  rw [ex]
theorem m_extend (e1 : S p = some (.lst xs)) (e2 : S q = some (.lst ys)) (hl : xs.length + ys.length ≤ 16777216) (h : putL p (xs ++ ys) S (Q .non)) : mExtend (.ref p) [.ref q] S Q := by
  show (match S p, S q with
    | some (.lst xs), some (.lst ys) => xs.length + ys.length ≤ 16777216 ∧ Q .non (dupd S p (.lst (xs ++ ys)))
    | _, _ => False)
  rw [e1, e2]; exact ⟨hl, h⟩
theorem m_join {zs : List Str} (e : seqOf S y = some (zs.map D.str)) (hl : (zs.map (·.length)).sum + zs.length * z.length ≤ 16777216) (h : Q (.str (Txt.join z zs)) S) : mJoin (.str z) [y] S Q := by
  show (match seqOf S y with
    | some xs => ∃ ys : List Str, xs = ys.map D.str ∧ (ys.map (·.length)).sum + ys.length * z.length ≤ 16777216 ∧ Q (.str (Txt.join z ys)) S
    | none => False)
  rw [e]; exact ⟨zs, rfl, hl, h⟩
theorem ite_dec {P A B : Prop} [Decidable P] (h1 : P → A) (h2 : ¬ P → B) : if decide P = true then A else B := by
  by_cases h : P
  · rw [if_pos (decide_eq_true h)]; exact h1 h
  · rw [if_neg (by rw [decide_eq_false h]; exact Bool.false_ne_true)]; exact h2 h
theorem ite_ndec {P A B : Prop} [Decidable P] (h1 : ¬ P → A) (h2 : P → B) : if (!decide P) = true then A else B := by
  by_cases h : P
  · rw [decide_eq_true h]; exact (if_neg Bool.false_ne_true).mpr (h2 h)
  · rw [decide_eq_false h]; exact (if_pos rfl).mpr (h1 h)
theorem ite_t {A B : Prop} (h : A) : if true = true then A else B := (if_pos rfl).mpr h
theorem ite_f {A B : Prop} (h : B) : if false = true then A else B := (if_neg Bool.false_ne_true).mpr h
theorem ite_nt {A B : Prop} (h : B) : if (!true) = true then A else B := (if_neg Bool.false_ne_true).mpr h
theorem ite_nf {A B : Prop} (h : A) : if (!false) = true then A else B := (if_pos rfl).mpr h
theorem ite_b {b : Bool} {A B : Prop} (h1 : b = true → A) (h2 : b = false → B) : if b = true then A else B := by
  cases b with
  | true => exact ite_t (h1 rfl)
  | false => exact ite_f (h2 rfl)
/-- a for loop by an invariant over the turns -/
theorem for_inv (P : Nat → Loc → DS → Prop) (h0 : P 0 δ S) (hst : ∀ m δ S, m ≤ xs.length → P m δ S → stay S)
    (turn : ∀ m x δ S (nx' : Loc → DS → Prop), xs[m]? = some x → m < xs.length → P m δ S → (∀ δ S, P (m + 1) δ S → nx' δ S) → g x δ S fun δ1 S1 => tb ⟨nx', rt, nx, nx'⟩ δ1 S1)
    (done : ∀ δ S, P xs.length δ S → nx δ S) : forT stay g tb ⟨nx, rt, bk, ct⟩ xs δ S := by
  have all : ∀ k m δ S, xs.length - m = k → m ≤ xs.length → P m δ S → forT stay g tb ⟨nx, rt, bk, ct⟩ (xs.drop m) δ S := by
    intro k
    induction k with
    | zero =>
      intro m δ S hk hm p
      have : m = xs.length := by omega
      subst this
      rw [List.drop_length]
      exact ⟨hst _ δ S (Nat.le_refl _) p, done δ S p⟩
    | succ k ih =>
      intro m δ S hk hm p
      have hlt : m < xs.length := by omega
      rw [List.drop_eq_getElem_cons hlt]
      exact ⟨hst m δ S hm p, turn m xs[m] δ S _ (List.getElem?_eq_getElem hlt) hlt p fun δ2 S2 h2 => ih (m + 1) δ2 S2 (by omega) (by omega) h2⟩
  have := all _ 0 δ S rfl (Nat.zero_le _) h0
  rwa [List.drop_zero] at this
theorem lc_inv {δ : Loc} {KK : List D → DS → Prop} (P : Nat → List D → DS → Prop) (h0 : P 0 [] S) (hst : ∀ m acc S, m ≤ xs.length → P m acc S → stay S)
    (turn : ∀ m x acc S (nx : List D → DS → Prop), xs[m]? = some x → m < xs.length → P m acc S → (∀ acc S, P (m + 1) acc S → nx acc S) → g x δ S fun δ2 S2 => t δ2 S2 fun b S3 => if b = true then a δ2 S3 fun y S4 => acc.length < 16777216 ∧ nx (acc ++ [y]) S4 else nx acc S3)
    (done : ∀ acc S, P xs.length acc S → KK acc S) : lcT stay g t a δ KK xs [] S := by
  have all : ∀ k m acc S, xs.length - m = k → m ≤ xs.length → P m acc S → lcT stay g t a δ KK (xs.drop m) acc S := by
    intro k
    induction k with
    | zero =>
      intro m acc S hk hm p
      have : m = xs.length := by omega
      subst this
      rw [List.drop_length]
      exact ⟨hst _ acc S (Nat.le_refl _) p, done acc S p⟩
    | succ k ih =>
      intro m acc S hk hm p
      have hlt : m < xs.length := by omega
      rw [List.drop_eq_getElem_cons hlt]
      exact ⟨hst m acc S hm p, turn m xs[m] acc S _ (List.getElem?_eq_getElem hlt) hlt p fun δ2 S2 h2 => ih (m + 1) δ2 S2 (by omega) (by omega) h2⟩
  have := all _ 0 [] S rfl (Nat.zero_le _) h0
  rwa [List.drop_zero] at this
/-- the same from any list so far -/
theorem lc_inv' {δ : Loc} {KK : List D → DS → Prop} {acc0 : List D} (P : Nat → List D → DS → Prop) (h0 : P 0 acc0 S) (hst : ∀ m acc S, m ≤ xs.length → P m acc S → stay S)
    (turn : ∀ m x acc S (nx : List D → DS → Prop), xs[m]? = some x → m < xs.length → P m acc S → (∀ acc S, P (m + 1) acc S → nx acc S) → g x δ S fun δ2 S2 => t δ2 S2 fun b S3 => if b = true then a δ2 S3 fun y S4 => acc.length < 16777216 ∧ nx (acc ++ [y]) S4 else nx acc S3)
    (done : ∀ acc S, P xs.length acc S → KK acc S) : lcT stay g t a δ KK xs acc0 S := by
  have all : ∀ k m acc S, xs.length - m = k → m ≤ xs.length → P m acc S → lcT stay g t a δ KK (xs.drop m) acc S := by
    intro k
    induction k with
    | zero =>
      intro m acc S hk hm p
      have : m = xs.length := by omega
      subst this
      rw [List.drop_length]
      exact ⟨hst _ acc S (Nat.le_refl _) p, done acc S p⟩
    | succ k ih =>
      intro m acc S hk hm p
      have hlt : m < xs.length := by omega
      rw [List.drop_eq_getElem_cons hlt]
      exact ⟨hst m acc S hm p, turn m xs[m] acc S _ (List.getElem?_eq_getElem hlt) hlt p fun δ2 S2 h2 => ih (m + 1) δ2 S2 (by omega) (by omega) h2⟩
  have := all _ 0 acc0 S rfl (Nat.zero_le _) h0
  rwa [List.drop_zero] at this
theorem lc2_inv {δ : Loc} {KK : List D → DS → Prop} {di1 : DI} {g1 : DG} {t1 : DT} {vs1 : List Nat} {acc0 : List D} (P : Nat → List D → DS → Prop) (h0 : P 0 acc0 S) (hst : ∀ m acc S, m ≤ xs.length → P m acc S → stay S)
    (turn : ∀ m x acc S (nx : List D → DS → Prop), xs[m]? = some x → m < xs.length → P m acc S → (∀ acc S, P (m + 1) acc S → nx acc S) →
      g x δ S fun δ2 S2 => t δ2 S2 fun b S3 => if b = true then di1 δ2 S3 fun ys stay1 S4 => lcT stay1 g1 t1 a (dwipe δ2 vs1) nx ys acc S4 else nx acc S3)
    (done : ∀ acc S, P xs.length acc S → KK acc S) : lcT2 stay g t di1 g1 t1 a δ vs1 KK xs acc0 S := by
  have all : ∀ k m acc S, xs.length - m = k → m ≤ xs.length → P m acc S → lcT2 stay g t di1 g1 t1 a δ vs1 KK (xs.drop m) acc S := by
    intro k
    induction k with
    | zero =>
      intro m acc S hk hm p
      have : m = xs.length := by omega
      subst this
      rw [List.drop_length]
      exact ⟨hst _ acc S (Nat.le_refl _) p, done acc S p⟩
    | succ k ih =>
      intro m acc S hk hm p
      have hlt : m < xs.length := by omega
      rw [List.drop_eq_getElem_cons hlt]
      exact ⟨hst m acc S hm p, turn m xs[m] acc S _ (List.getElem?_eq_getElem hlt) hlt p fun acc S h => ih (m + 1) acc S (by omega) (by omega) h⟩
  have := all _ 0 acc0 S rfl (Nat.zero_le _) h0
  rwa [List.drop_zero] at this
theorem while_inv (P : Nat → Loc → DS → Prop) (n : Nat) (h0 : P n δ S)
    (turn : ∀ m δ S (nx' : Loc → DS → Prop), P m δ S → (∀ m' δ S, m' < m → P m' δ S → nx' δ S) → t δ S fun b S1 => if b = true then tb ⟨nx', rt, nx, nx'⟩ δ S1 else nx δ S1) : dWhile t tb ⟨nx, rt, bk, ct⟩ δ S := by
  have all : ∀ k m δ S, m < k → P m δ S → dWhileN t tb k ⟨nx, rt, bk, ct⟩ δ S := by
    intro k
    induction k with
    | zero => intro m δ S h; omega
    | succ k ih =>
      intro m δ S hm p
      exact turn m δ S _ p fun m' δ' S' h' p' => ih m' δ' S' (by omega) p'
  exact ⟨n + 1, all _ n δ S (Nat.lt_succ_self n) h0⟩
end
section
variable {δ : Loc} {S : DS} {Q : DK} {a b : DE} {as : DA} {QR : Int → Int → DS → Prop} {QI : List D → (DS → Prop) → DS → Prop} {t : DRg} {x y : D} {xs ys : List D} {k l c : Int} {p q : Addr}
def rgV1 (x : D) (S : DS) (Q : Int → Int → DS → Prop) : Prop := match x with
  | .int j => Q 0 j S
  | _ => False
def rgV2 (x y : D) (S : DS) (Q : Int → Int → DS → Prop) : Prop := match x, y with
  | .int i, .int j => Q i j S
  | _, _ => False
theorem i_rg1 (h : a δ S fun x S1 => rgV1 x S1 QR) : dRg1 a δ S QR := h
theorem i_rg1V (h : QR 0 k S) : rgV1 (.int k) S QR := h
theorem i_rg2 (h : a δ S fun x S1 => b δ S1 fun y S2 => rgV2 x y S2 QR) : dRg2 a b δ S QR := h
theorem i_rg2V (h : QR k l S) : rgV2 (.int k) (.int l) S QR := h
theorem i_lstRg (h : t δ S fun a b S1 => RgOk a b ∧ newL (rngL a (b - a).toNat) S1 Q) : dLstRg t δ S Q := h
theorem i_tupRg (h : t δ S fun a b S1 => RgOk a b ∧ Q (.tup (rngL a (b - a).toNat)) S1) : dTupRg t δ S Q := h
theorem i_revR (h : t δ S fun a b S1 => (-(2 ^ 62) ≤ a ∧ a < 2 ^ 62 ∧ -(2 ^ 62) ≤ b ∧ b < 2 ^ 62) ∧ QI (rngC (a + (((b - a).toNat : Nat) : Int) - 1) (-1) (b - a).toNat) (fun _ => True) S1) : dRevR t δ S QI := h
def rng3V (ds : List D) (S : DS) (Q : List D → (DS → Prop) → DS → Prop) : Prop := match ds with
  | [.int i, .int j, .int c] => ∃ n, RgC i j c n ∧ Q (rngC i c n) (fun _ => True) S
  | _ => False
theorem i_rng3 (h : as δ S fun ds S1 => rng3V ds S1 QI) : dRng3 as δ S QI := h
theorem i_rng3V {n : Nat} (hn : RgC k l c n) (h : QI (rngC k c n) (fun _ => True) S) : rng3V [.int k, .int l, .int c] S QI := ⟨n, hn, h⟩
def zipV (ds : List D) (S : DS) (Q : List D → (DS → Prop) → DS → Prop) : Prop := match ds with
  | [.tup xs, .tup ys] => Q ((List.zip xs ys).map fun p => D.tup [p.1, p.2]) (fun _ => True) S
  | [x, y] => match lstOf S x, lstOf S y with
    | some xs, some ys => Q ((List.zip xs ys).map fun p => D.tup [p.1, p.2]) (fun S' => lstOf S' x = some xs ∧ lstOf S' y = some ys) S
    | _, _ => False
  | _ => False
theorem i_zip (h : as δ S fun ds S1 => zipV ds S1 QI) : dZip as δ S QI := h
theorem i_zipT (h : QI ((List.zip xs ys).map fun p => D.tup [p.1, p.2]) (fun _ => True) S) : zipV [.tup xs, .tup ys] S QI := h
theorem i_zipL (e1 : S p = some (.lst xs)) (e2 : S q = some (.lst ys)) (h : QI ((List.zip xs ys).map fun p => D.tup [p.1, p.2]) (fun S' => lstOf S' (.ref p) = some xs ∧ lstOf S' (.ref q) = some ys) S) : zipV [.ref p, .ref q] S QI := by
  show (match lstOf S (.ref p), lstOf S (.ref q) with
    | some xs, some ys => QI ((List.zip xs ys).map fun p => D.tup [p.1, p.2]) (fun S' => lstOf S' (.ref p) = some xs ∧ lstOf S' (.ref q) = some ys) S
    | _, _ => False)
  rw [lst_ref e1, lst_ref e2]; exact h
def rvV (x : D) (S : DS) (Q : DK) : Prop := match x with
  | .tup xs => Q (.tup xs.reverse) S
  | x => match lstOf S x with
    | some xs => newL xs.reverse S Q
    | none => False
theorem i_rvS (h : a δ S fun x S1 => rvV x S1 Q) : dRvS a δ S Q := h
theorem i_rvT (h : Q (.tup xs.reverse) S) : rvV (.tup xs) S Q := h
theorem i_rvF (h : newL xs.reverse S Q) : rvV (.fl xs) S Q := h
theorem i_rvL (e : S p = some (.lst xs)) (h : newL xs.reverse S Q) : rvV (.ref p) S Q := by
  show (match lstOf S (.ref p) with
    | some xs => newL xs.reverse S Q
    | none => False)
  rw [lst_ref e]; exact h
theorem c_max1 {ns : List Int} (e : lstOf S x = some (ns.map D.int)) (hn : ns ≠ []) (h : ∀ m, isMax ns m → Q (.int m) S) : bMax1 [x] S Q := by
  show (match lstOf S x with
    | some xs => ∃ ns : List Int, xs = ns.map D.int ∧ ns ≠ [] ∧ ∀ m, isMax ns m → Q (.int m) S
    | none => False)
  rw [e]; exact ⟨ns, rfl, hn, h⟩
theorem c_min1 {ns : List Int} (e : lstOf S x = some (ns.map D.int)) (hn : ns ≠ []) (h : ∀ m, isMin ns m → Q (.int m) S) : bMin1 [x] S Q := by
  show (match lstOf S x with
    | some xs => ∃ ns : List Int, xs = ns.map D.int ∧ ns ≠ [] ∧ ∀ m, isMin ns m → Q (.int m) S
    | none => False)
  rw [e]; exact ⟨ns, rfl, hn, h⟩
theorem m_insert (e : S p = some (.lst xs)) (h0 : 0 ≤ k ∧ k < 2 ^ 63) (hl : xs.length < 16777216) (h : putL p (xs.take k.toNat ++ [x] ++ xs.drop k.toNat) S (Q .non)) : mLst fInsert (.ref p) [.int k, x] S Q := by
  refine m_lst e (if_pos h0) ?_ h
  simp only [List.length_append, List.length_take, List.length_drop, List.length_singleton]
  omega
end
end DL
namespace DL
open PySem L2
mutual
theorem nk_plain : ∀ (d : D) (q : NestedKey), nk d = some q → d.plain = true
  | .non, q, h => by rw [D.plain]
  | .int _, q, h => by rw [D.plain]
  | .str _, q, h => by rw [D.plain]
  | .bl _, q, h => by rw [nk] at h; cases h
  | .ref _, q, h => by rw [nk] at h; cases h
  | .ty _, q, h => by rw [nk] at h; cases h
  | .fl _, q, h => by rw [nk] at h; cases h
  | .tup xs, q, h => by
    rw [nk] at h
    split at h
    · rename_i ks e
      rw [D.plain]; exact nks_plain xs ks e
    · cases h
theorem nks_plain : ∀ (ds : List D) (ks : List NestedKey), nks ds = some ks → D.plainL ds = true
  | [], ks, h => by rw [D.plainL]
  | d :: ds, ks, h => by
    rw [nks] at h
    split at h
    · rename_i k e
      split at h
      · rename_i ks' e'
        rw [D.plainL, nk_plain d k e, nks_plain ds ks' e']; rfl
      · cases h
    · cases h
end
mutual
theorem eqv_nk : ∀ (a b : D) (p q : NestedKey), nk a = some p → nk b = some q → D.eqv a b = NestedKey.beq p q
  | .non, b, p, q, h, h' => by
    rw [nk] at h; cases h
    cases b with
    | non => rw [nk] at h'; cases h'; rfl
    | int _ => rw [nk] at h'; cases h'; rfl
    | str _ => rw [nk] at h'; cases h'; rfl
    | tup xs => rw [nk] at h'; split at h' <;> cases h'; rfl
    | _ => rw [nk] at h'; cases h'
  | .int i, b, p, q, h, h' => by
    rw [nk] at h; cases h
    cases b with
    | non => rw [nk] at h'; cases h'; rfl
    | int j => rw [nk] at h'; cases h'; rw [eqv_int, NestedKey.beq]
    | str _ => rw [nk] at h'; cases h'; rfl
    | tup xs => rw [nk] at h'; split at h' <;> cases h'; rfl
    | _ => rw [nk] at h'; cases h'
  | .str i, b, p, q, h, h' => by
    rw [nk] at h; cases h
    cases b with
    | non => rw [nk] at h'; cases h'; rfl
    | int j => rw [nk] at h'; cases h'; rfl
    | str _ => rw [nk] at h'; cases h'; rw [eqv_str, NestedKey.beq]
    | tup xs => rw [nk] at h'; split at h' <;> cases h'; rfl
    | _ => rw [nk] at h'; cases h'
  | .bl _, b, p, q, h, h' => by rw [nk] at h; cases h
  | .ref _, b, p, q, h, h' => by rw [nk] at h; cases h
  | .ty _, b, p, q, h, h' => by rw [nk] at h; cases h
  | .fl _, b, p, q, h, h' => by rw [nk] at h; cases h
  | .tup xs, b, p, q, h, h' => by
    rw [nk] at h
    split at h
    · rename_i ks e
      cases h
      cases b with
      | non => rw [nk] at h'; cases h'; rfl
      | int j => rw [nk] at h'; cases h'; rfl
      | str _ => rw [nk] at h'; cases h'; rfl
      | tup ys =>
        rw [nk] at h'
        split at h'
        · rename_i ks' e'
          cases h'
          have := eqvs_nk xs ys ks ks' e e'
          unfold D.eqv
          rw [D.py, D.py, PyData.eqv, this, NestedKey.beq]
        · cases h'
      | _ => rw [nk] at h'; cases h'
    · cases h
theorem eqvs_nk : ∀ (xs ys : List D) (ps qs : List NestedKey), nks xs = some ps → nks ys = some qs → PyData.eqvAll (D.pyL xs) (D.pyL ys) = NestedKey.beqAll ps qs
  | [], ys, ps, qs, h, h' => by
    rw [nks] at h; cases h
    cases ys with
    | nil => rw [nks] at h'; cases h'; rfl
    | cons y ys =>
      rw [nks] at h'
      split at h'
      · split at h' <;> cases h'; rfl
      · cases h'
  | x :: xs, ys, ps, qs, h, h' => by
    rw [nks] at h
    split at h
    · rename_i k e
      split at h
      · rename_i ks1 e1
        cases h
        cases ys with
        | nil => rw [nks] at h'; cases h'; rfl
        | cons y ys =>
          rw [nks] at h'
          split at h'
          · rename_i k2 e2
            split at h'
            · rename_i ks3 e3
              cases h'
              have h1 := eqv_nk x y k k2 e e2
              have h2 := eqvs_nk xs ys ks1 ks3 e1 e3
              rw [D.pyL, D.pyL, PyData.eqvAll, NestedKey.beqAll, h2]
              rw [show PyData.eqv x.py y.py = NestedKey.beq k k2 from h1]
            · cases h'
          · cases h'
      · cases h
    · cases h
end
/-- a way to write things down as keys -/
structure Enc {α : Type} (f : α → D) (n : Nat) : Prop where
  pl : ∀ x, ∃ q, nk (f x) = some q
  inj : ∀ x y, f x = f y → x = y
  dep : ∀ x, (f x).dep ≤ n
section
variable {α β : Type} {f : α → D} {g : β → D} {n m : Nat}
theorem Enc.eqv [DecidableEq α] (e : Enc f n) (x y : α) : D.eqv (f x) (f y) = decide (x = y) := by
  obtain ⟨p, hp⟩ := e.pl x
  obtain ⟨q, hq⟩ := e.pl y
  rw [eqv_nk _ _ p q hp hq, ← NestedKey.decide_eq]
  by_cases h : x = y
  · subst h; rw [hp] at hq; cases hq; simp
  · rw [decide_eq_false h, decide_eq_false]
    intro z; subst z
    exact h (e.inj _ _ (nk_inj _ _ p hp hq))
theorem Enc.plain (e : Enc f n) (x : α) : (f x).plain = true := let ⟨q, h⟩ := e.pl x; nk_plain _ q h
theorem Enc.nk (e : Enc f n) (x y : α) : nk (f x) = nk (f y) ↔ x = y := by
  constructor
  · intro h
    obtain ⟨p, hp⟩ := e.pl x
    exact e.inj _ _ (nk_inj _ _ p hp (by rw [← h, hp]))
  · intro h; rw [h]
theorem Enc.mono (e : Enc f n) (h : n ≤ m) : Enc f m := ⟨e.pl, e.inj, fun x => Nat.le_trans (e.dep x) h⟩
theorem enc_int : Enc D.int 0 := ⟨fun x => ⟨_, by rw [DL.nk]⟩, fun x y h => by injection h, fun x => by rw [D.dep]; exact Nat.le_refl 0⟩
theorem enc_nat : Enc (fun i : Nat => D.int (i : Int)) 0 := ⟨fun x => ⟨_, by rw [DL.nk]⟩, fun x y h => by injection h with h; omega, fun x => by rw [D.dep]; exact Nat.le_refl 0⟩
theorem enc_str : Enc D.str 0 := ⟨fun x => ⟨_, by rw [DL.nk]⟩, fun x y h => by injection h, fun x => by rw [D.dep]; exact Nat.le_refl 0⟩
theorem nks_map (e : Enc f n) : ∀ xs : List α, ∃ qs, nks (xs.map f) = some qs
  | [] => ⟨[], by rw [List.map_nil, nks]⟩
  | x :: xs => by
    obtain ⟨q, hq⟩ := e.pl x
    obtain ⟨qs, hqs⟩ := nks_map e xs
    exact ⟨q :: qs, by rw [List.map_cons, nks, hq, hqs]⟩
theorem map_inj_of (h : ∀ x y, f x = f y → x = y) : ∀ xs ys : List α, xs.map f = ys.map f → xs = ys
  | [], [], _ => rfl
  | [], _ :: _, e => by simp at e
  | _ :: _, [], e => by simp at e
  | x :: xs, y :: ys, e => by
    rw [List.map_cons, List.map_cons] at e
    injection e with e1 e2
    rw [h _ _ e1, map_inj_of h xs ys e2]
theorem enc_list (e : Enc f n) : Enc (fun xs : List α => D.tup (xs.map f)) (n + 1) :=
  ⟨fun xs => let ⟨qs, h⟩ := nks_map e xs; ⟨_, by rw [DL.nk, h]⟩, fun xs ys h => by injection h with h; exact map_inj_of e.inj xs ys h,
   fun xs => by rw [D.dep]; exact Nat.succ_le_succ (D.depL_le fun d hd => by obtain ⟨x, _, rfl⟩ := List.mem_map.mp hd; exact e.dep x)⟩
theorem enc_pair (e : Enc f n) (e' : Enc g m) : Enc (fun p : α × β => D.tup [f p.1, g p.2]) (max n m + 1) :=
  ⟨fun p => by
    obtain ⟨q, hq⟩ := e.pl p.1
    obtain ⟨r, hr⟩ := e'.pl p.2
    exact ⟨.tup [q, r], by rw [DL.nk, nks, hq, nks, hr, nks]⟩,
   fun p q h => by injection h with h; injection h with h1 h2; injection h2 with h2 _; exact Prod.ext (e.inj _ _ h1) (e'.inj _ _ h2),
   fun p => by
    rw [D.dep]
    refine Nat.succ_le_succ (D.depL_le fun d hd => ?_)
    rcases List.mem_cons.mp hd with rfl | hd
    · exact Nat.le_trans (e.dep _) (Nat.le_max_left _ _)
    · rw [List.mem_singleton.mp hd]; exact Nat.le_trans (e'.dep _) (Nat.le_max_right _ _)⟩
theorem Enc.comp {γ : Type} {h : γ → α} (e : Enc f n) (hh : ∀ x y, h x = h y → x = y) : Enc (fun x => f (h x)) n := ⟨fun x => e.pl _, fun x y z => hh _ _ (e.inj _ _ z), fun x => e.dep _⟩
/-- tuples as keys -/
structure TEnc (f : α → D) : Prop extends Enc f 8 where
  tup : ∀ x, ∃ xs, f x = .tup xs
theorem TEnc.tk (e : TEnc f) (x : α) : isTk (f x) = true := by
  obtain ⟨xs, h⟩ := e.tup x
  obtain ⟨q, hq⟩ := e.pl x
  have hd := e.dep x
  rw [h] at hq hd ⊢
  rw [isTk, hq, decide_eq_true hd]; rfl
end
def tget {κ ν : Type} [DecidableEq κ] (ts : List (κ × ν)) (k : κ) : Option ν := (ts.find? fun t => decide (t.1 = k)).map (·.2)
def tput {κ ν : Type} [DecidableEq κ] (ts : List (κ × ν)) (k : κ) (v : ν) : List (κ × ν) :=
  if (ts.any fun t => decide (t.1 = k)) = true then ts.map (fun t => if t.1 = k then (t.1, v) else t) else ts ++ [(k, v)]
def tab {κ ν : Type} (ek : κ → D) (ev : ν → D) (ts : List (κ × ν)) : List (D × D) := ts.map fun t => (ek t.1, ev t.2)
section
variable {κ ν : Type} [DecidableEq κ] {ek : κ → D} {ev : ν → D} {n : Nat}
theorem tget_tab (e : Enc ek n) (k : κ) : ∀ ts : List (κ × ν), dget (tab ek ev ts) (ek k) = (tget ts k).map ev
  | [] => rfl
  | t :: ts => by
    have ih := tget_tab e k ts
    unfold dget tab tget at ih ⊢
    rw [List.map_cons]
    by_cases h : t.1 = k
    · rw [List.find?_cons_of_pos (by simp [h]), List.find?_cons_of_pos (by simp [h])]; rfl
    · rw [List.find?_cons_of_neg (by simp [e.nk, h]), List.find?_cons_of_neg (by simp [h])]; exact ih
theorem tany_tab (e : Enc ek n) (k : κ) (ts : List (κ × ν)) : ((tab ek ev ts).any fun p => decide (nk p.1 = nk (ek k))) = ts.any fun t => decide (t.1 = k) := by
  unfold tab
  rw [List.any_map]
  congr 1
  funext t
  simp [Function.comp, e.nk]
theorem tput_tab (e : Enc ek n) (k : κ) (v : ν) (ts : List (κ × ν)) : dput (tab ek ev ts) (ek k) (ev v) = tab ek ev (tput ts k v) := by
  unfold dput tput
  rw [tany_tab e k ts]
  split
  · unfold tab
    rw [List.map_map, List.map_map]
    refine List.map_congr_left fun t _ => ?_
    simp only [Function.comp, e.nk]
    split <;> rfl
  · unfold tab
    rw [List.map_append]; rfl
theorem tget_some {ts : List (κ × ν)} {k : κ} {v : ν} (h : tget ts k = some v) : (k, v) ∈ ts := by
  unfold tget at h
  obtain ⟨t, h1, rfl⟩ := Option.map_eq_some_iff.mp h
  have h2 := List.find?_some h1
  have h3 := List.mem_of_find?_eq_some h1
  rw [decide_eq_true_eq] at h2
  subst h2
  exact h3
theorem tget_none {ts : List (κ × ν)} {k : κ} (h : tget ts k = none) : ∀ t ∈ ts, t.1 ≠ k := by
  unfold tget at h
  rw [Option.map_eq_none_iff, List.find?_eq_none] at h
  intro t ht e
  exact h t ht (decide_eq_true e)
theorem tget_isSome {ts : List (κ × ν)} {k : κ} : (tget ts k).isSome = decide (k ∈ ts.map (·.1)) := by
  rw [Bool.eq_iff_iff, decide_eq_true_iff]
  constructor
  · intro h
    obtain ⟨v, hv⟩ := Option.isSome_iff_exists.mp h
    exact List.mem_map.mpr ⟨_, tget_some hv, rfl⟩
  · intro h
    obtain ⟨t, ht, e⟩ := List.mem_map.mp h
    cases hq : tget ts k with
    | some v => rfl
    | none => exact absurd e (tget_none hq t ht)
theorem tput_new {ts : List (κ × ν)} {k : κ} (v : ν) (h : tget ts k = none) : tput ts k v = ts ++ [(k, v)] := by
  unfold tput
  rw [if_neg]
  intro q
  obtain ⟨t, ht, e⟩ := List.any_eq_true.mp q
  exact tget_none h t ht (of_decide_eq_true e)
theorem tget_put {ts : List (κ × ν)} {k j : κ} {v : ν} : tget (tput ts k v) j = if j = k then some v else tget ts j := by
  induction ts with
  | nil =>
    unfold tput tget
    by_cases h : k = j
    · simp [h]
    · simp [h, Ne.symm h]
  | cons t ts ih =>
    unfold tput tget at ih ⊢
    by_cases h : t.1 = k
    · rw [if_pos (by simp [h]), List.map_cons]
      by_cases hj : t.1 = j
      · have : j = k := hj.symm.trans h
        simp [h, this]
      · have hjk : ¬ j = k := fun z => hj (h.trans z.symm)
        rw [if_neg hjk]
        rw [List.find?_cons_of_neg (by simp [h, Ne.symm hjk]), List.find?_cons_of_neg (by simp [hj])]
        by_cases ha : (ts.any fun t => decide (t.1 = k)) = true
        · rw [if_pos ha, if_neg hjk] at ih; exact ih
        · congr 1
          have : (ts.map fun t => if t.1 = k then (t.1, v) else t) = ts := by
            refine (List.map_congr_left fun t ht => ?_).trans (List.map_id' ts)
            rw [if_neg fun z => ha (List.any_eq_true.mpr ⟨t, ht, decide_eq_true z⟩)]
          rw [this]
    · rw [List.any_cons, decide_eq_false h, Bool.false_or]
      by_cases ha : (ts.any fun t => decide (t.1 = k)) = true
      · rw [if_pos ha] at ih ⊢
        rw [List.map_cons, if_neg h]
        by_cases hj : t.1 = j
        · rw [List.find?_cons_of_pos (by simp [hj]), List.find?_cons_of_pos (by simp [hj]), if_neg (fun z => h (hj.trans z))]
        · rw [List.find?_cons_of_neg (by simp [hj]), List.find?_cons_of_neg (by simp [hj])]; exact ih
      · rw [if_neg ha] at ih ⊢
        rw [List.cons_append]
        by_cases hj : t.1 = j
        · rw [List.find?_cons_of_pos (by simp [hj]), List.find?_cons_of_pos (by simp [hj]), if_neg (fun z => h (hj.trans z))]
        · rw [List.find?_cons_of_neg (by simp [hj]), List.find?_cons_of_neg (by simp [hj])]; exact ih
theorem kOk_tab (e : TEnc ek) (k : κ) (ts : List (κ × ν)) : kOk (tab ek ev ts) (ek k) := .inr ⟨e.tk k, fun p hp => by
  obtain ⟨t, _, rfl⟩ := List.mem_map.mp hp
  exact e.tk t.1⟩
theorem kOk_tabI (e : ∀ k, isLf (ek k) = true) (k : κ) (ts : List (κ × ν)) : kOk (tab ek ev ts) (ek k) := .inl ⟨e k, fun p hp => by
  obtain ⟨t, _, rfl⟩ := List.mem_map.mp hp
  exact e t.1⟩
theorem tab_len (ts : List (κ × ν)) : (tab ek ev ts).length = ts.length := List.length_map ..
theorem tab_keys (ts : List (κ × ν)) : (tab ek ev ts).map (·.1) = (ts.map (·.1)).map ek := by unfold tab; rw [List.map_map, List.map_map]; rfl
variable {S : DS} {Q : DK} {p : Addr} {st : DStm} {ts : List (κ × ν)}
/-- reading a table -/
theorem t_ix {k : κ} {v : ν} (en : Enc ek n) (e : S p = some (.dct st (tab ek ev ts))) (hk : kOk (tab ek ev ts) (ek k)) (hg : tget ts k = some v) (h : Q (ev v) S) : oIx (.ref p) (ek k) S Q :=
  o_ixD e hk (by rw [tget_tab en, hg]; rfl) h
theorem dec_same {p : Prop} {a b : Decidable p} : @decide p a = @decide p b := decide_eq_decide.mpr Iff.rfl
theorem t_in {k : κ} [iD : Decidable (k ∈ ts.map (·.1))] (en : Enc ek n) (e : S p = some (.dct st (tab ek ev ts))) (hk : kOk (tab ek ev ts) (ek k)) (h : Q (.bl (decide (k ∈ ts.map (·.1)))) S) : oIn false (ek k) (.ref p) S Q :=
  o_inD e hk (by rw [tget_tab en, Bool.false_xor, Option.isSome_map, tget_isSome, dec_same (b := iD)]; exact h)
theorem t_notin {k : κ} [iD : Decidable (k ∈ ts.map (·.1))] (en : Enc ek n) (e : S p = some (.dct st (tab ek ev ts))) (hk : kOk (tab ek ev ts) (ek k)) (h : Q (.bl (!decide (k ∈ ts.map (·.1)))) S) : oIn true (ek k) (.ref p) S Q :=
  o_inD e hk (by rw [tget_tab en, Bool.true_xor, Option.isSome_map, tget_isSome, dec_same (b := iD)]; exact h)
theorem t_set {k : κ} {v : ν} {QS : DS → Prop} (en : Enc ek n) (e : S p = some (.dct st (tab ek ev ts))) (hk : kOk (tab ek ev ts) (ek k)) (hl : ts.length < 16777216) (h : putD p (tab ek ev (tput ts k v)) S QS) : sIx (.ref p) (ek k) (ev v) S QS :=
  s_ixD e hk (by rw [tab_len]; exact hl) (by rw [tput_tab en]; exact h)
theorem t_get1 {k : κ} (en : Enc ek n) (e : S p = some (.dct st (tab ek ev ts))) (hk : kOk (tab ek ev ts) (ek k)) (h : Q (((tget ts k).map ev).getD .non) S) : mGet (.ref p) [ek k] S Q := m_get1 e hk (by rw [tget_tab en]; exact h)
theorem t_get2 {k : κ} {x : D} (en : Enc ek n) (e : S p = some (.dct st (tab ek ev ts))) (hk : kOk (tab ek ev ts) (ek k)) (h : Q (((tget ts k).map ev).getD x) S) : mGet (.ref p) [ek k, x] S Q := m_get2 e hk (by rw [tget_tab en]; exact h)
theorem t_iter {QI : List D → (DS → Prop) → DS → Prop} (e : S p = some (.dct st (tab ek ev ts))) (h : QI ((ts.map (·.1)).map ek) (fun S' => S' p = some (.dct st (tab ek ev ts))) S) : iterV (.ref p) S QI := i_iterV_dct e (by rw [tab_keys]; exact h)
theorem t_list (e : S p = some (.dct st (tab ek ev ts))) (h : newL ((ts.map (·.1)).map ek) S Q) : bList [.ref p] S Q := c_listD e (by rw [tab_keys]; exact h)
theorem t_len (e : S p = some (.dct st (tab ek ev ts))) (h : Q (.int ts.length) S) : bLen [.ref p] S Q := c_lenD e (by rw [tab_len]; exact h)
end
section
variable {α : Type} [DecidableEq α] {f : α → D} {n : Nat} {S : DS} {Q : DK} {x y : α} {p : Addr} {xs : List α}
theorem e_eq (e : Enc f n) (hn : n ≤ 50) (h : Q (.bl (decide (x = y))) S) : oEq false (f x) (f y) S Q :=
  o_eqP (e.plain x) (e.plain y) (.inl (Nat.le_trans (e.dep x) hn)) (by rw [Bool.false_xor, e.eqv]; exact h)
theorem e_ne (e : Enc f n) (hn : n ≤ 50) (h : Q (.bl (!decide (x = y))) S) : oEq true (f x) (f y) S Q :=
  o_eqP (e.plain x) (e.plain y) (.inl (Nat.le_trans (e.dep x) hn)) (by rw [Bool.true_xor, e.eqv]; exact h)
theorem any_enc (e : Enc f n) : ∀ xs : List α, ((xs.map f).any fun d => D.eqv d (f x)) = decide (x ∈ xs)
  | [] => rfl
  | y :: ys => by
    rw [List.map_cons, List.any_cons, any_enc e ys, e.eqv, Bool.eq_iff_iff, Bool.or_eq_true, decide_eq_true_iff, decide_eq_true_iff, decide_eq_true_iff, List.mem_cons]
    exact or_congr eq_comm Iff.rfl
theorem plainL_enc (e : Enc f n) (xs : List α) : D.plainL (xs.map f) = true := D.plainL_of fun d hd => by obtain ⟨x, _, rfl⟩ := List.mem_map.mp hd; exact e.plain x
theorem e_inT [iD : Decidable (x ∈ xs)] (e : Enc f n) (hn : n ≤ 50) (h : Q (.bl (decide (x ∈ xs))) S) : oIn false (f x) (.tup (xs.map f)) S Q := o_inT (e.plain x) (plainL_enc e xs) (Nat.le_trans (e.dep x) hn) (by rw [Bool.false_xor, any_enc e, dec_same (b := iD)]; exact h)
theorem e_notinT [iD : Decidable (x ∈ xs)] (e : Enc f n) (hn : n ≤ 50) (h : Q (.bl (!decide (x ∈ xs))) S) : oIn true (f x) (.tup (xs.map f)) S Q := o_inT (e.plain x) (plainL_enc e xs) (Nat.le_trans (e.dep x) hn) (by rw [Bool.true_xor, any_enc e, dec_same (b := iD)]; exact h)
theorem e_inL [iD : Decidable (x ∈ xs)] (e : Enc f n) (hn : n ≤ 50) (e0 : S p = some (.lst (xs.map f))) (h : Q (.bl (decide (x ∈ xs))) S) : oIn false (f x) (.ref p) S Q := o_inL e0 (e.plain x) (plainL_enc e xs) (Nat.le_trans (e.dep x) hn) (by rw [Bool.false_xor, any_enc e, dec_same (b := iD)]; exact h)
theorem e_notinL [iD : Decidable (x ∈ xs)] (e : Enc f n) (hn : n ≤ 50) (e0 : S p = some (.lst (xs.map f))) (h : Q (.bl (!decide (x ∈ xs))) S) : oIn true (f x) (.ref p) S Q := o_inL e0 (e.plain x) (plainL_enc e xs) (Nat.le_trans (e.dep x) hn) (by rw [Bool.true_xor, any_enc e, dec_same (b := iD)]; exact h)
end
section
variable {P A B : Prop} [Decidable P]
theorem ite_yes (p : P) (h : A) : if decide P = true then A else B := by rw [if_pos (decide_eq_true p)]; exact h
theorem ite_no (p : ¬ P) (h : B) : if decide P = true then A else B := by rw [if_neg (by rw [decide_eq_false p]; exact Bool.false_ne_true)]; exact h
theorem ite_nyes (p : P) (h : B) : if (!decide P) = true then A else B := by rw [if_neg (by rw [decide_eq_true p]; exact Bool.false_ne_true)]; exact h
theorem ite_nno (p : ¬ P) (h : A) : if (!decide P) = true then A else B := by rw [if_pos (by rw [decide_eq_false p]; rfl)]; exact h
end
section
variable {S : DS} {Q : DK} {δ : Loc} {x y : D} {tk tv : DE} {lf : Bool}
def newD1 (x y : D) (S : DS) (Q : DK) : Prop := ∀ p st, S p = none → Q (.ref p) (dupd S p (.dct st [(x, y)]))
theorem i_newD1 (h : ∀ p st S1, S p = none → S1 p = some (.dct st [(x, y)]) → Ext S S1 → Q (.ref p) S1) : newD1 x y S Q := fun p st hp => h p st _ hp dupd_same (ext_new hp)
theorem i_dct1 (h : tk δ S fun x S1 => tv δ S1 fun y S2 => (if lf = true then isLf x = true else isTk x = true) ∧ newD1 x y S2 Q) : dDct1 lf tk tv δ S Q := h
end
theorem tget_of_mem {κ ν : Type} [DecidableEq κ] : ∀ {ts : List (κ × ν)} {k : κ} {v : ν}, (ts.map (·.1)).Nodup → (k, v) ∈ ts → tget ts k = some v
  | [], _, _, _, h => nomatch h
  | t :: ts, k, v, hn, h => by
    rw [List.map_cons, List.nodup_cons] at hn
    unfold tget
    rcases List.mem_cons.mp h with e | h
    · subst e; rw [List.find?_cons_of_pos (by simp)]; rfl
    · have : t.1 ≠ k := fun e => hn.1 (List.mem_map.mpr ⟨_, h, e.symm⟩)
      rw [List.find?_cons_of_neg (by simp [this])]
      exact tget_of_mem hn.2 h
theorem cut_from {α : Type} {xs : List α} {j : Nat} {k : Int} (e : k = (j : Int)) : dcut xs (some k) none = xs.drop j := by
  subst e
  unfold dcut
  rw [HT.sIx_none, HT.sIx_nat]
  rcases Nat.lt_or_ge j xs.length with h | h
  · rw [Nat.min_eq_left (Nat.le_of_lt h)]
    exact List.take_of_length_le (by rw [List.length_drop]; exact Nat.le_refl _)
  · rw [Nat.min_eq_right h, List.drop_length, List.drop_of_length_le h, List.take_nil]
theorem filter_first {α : Type} {p : α → Bool} : ∀ {M : List α} {l : Nat} {u : α}, (∀ i v, i < l → M[i]? = some v → p v = false) → M[l]? = some u → p u = true → ∃ m, M.filter p = u :: m
  | [], l, u, _, h, _ => by simp at h
  | a :: M, 0, u, _, h, hp => by
    obtain rfl := Option.some.inj h
    exact ⟨_, List.filter_cons_of_pos hp⟩
  | a :: M, l + 1, u, hn, h, hp => by
    rw [List.filter_cons_of_neg (by rw [hn 0 a (by omega) rfl]; exact Bool.false_ne_true)]
    exact filter_first (fun i v hi hv => hn (i + 1) v (by omega) hv) h hp
theorem flat_first {α β : Type} {g : α → List β} : ∀ {L : List α} {k : Nat} {t : α}, (∀ i v, i < k → L[i]? = some v → g v = []) → L[k]? = some t → ∃ m, L.flatMap g = g t ++ m
  | [], k, t, _, h => by simp at h
  | a :: L, 0, t, _, h => by
    obtain rfl := Option.some.inj h
    exact ⟨_, List.flatMap_cons⟩
  | a :: L, k + 1, t, hn, h => by
    rw [List.flatMap_cons, hn 0 a (by omega) rfl, List.nil_append]
    exact flat_first (fun i v hi hv => hn (i + 1) v (by omega) hv) h
theorem findSome_at {α β : Type} {f : α → Option β} : ∀ {l : List α} {j : Nat} {x : α} {y : β}, (∀ i z, i < j → l[i]? = some z → f z = none) → l[j]? = some x → f x = some y → l.findSome? f = some y
  | [], j, x, y, _, h, _ => by simp at h
  | a :: l, 0, x, y, _, h, hf => by
    obtain rfl := Option.some.inj h
    rw [List.findSome?_cons, hf]
  | a :: l, j + 1, x, y, hn, h, hf => by
    rw [List.findSome?_cons, hn 0 a (by omega) rfl]
    exact findSome_at (fun i z hi hz => hn (i + 1) z (by omega) hz) h hf
theorem findSome_no {α β : Type} {f : α → Option β} {l : List α} (h : ∀ (i : Nat) z, l[i]? = some z → f z = none) : l.findSome? f = none := by
  rw [List.findSome?_eq_none_iff]
  intro z hz
  obtain ⟨i, hi⟩ := List.getElem?_of_mem hz
  exact h i z hi
/-- a cut between two statements -/
theorem i_seqJ {st su : DSt} {δ : DL.Loc} {S : DS} {nx bk ct : DL.Loc → DS → Prop} {rt : DK} (J : DL.Loc → DS → Prop) (h1 : ∀ nx', (∀ δ S, J δ S → nx' δ S) → st ⟨nx', rt, bk, ct⟩ δ S) (h2 : ∀ δ S, J δ S → su ⟨nx, rt, bk, ct⟩ δ S) : dSeq st su ⟨nx, rt, bk, ct⟩ δ S := h1 _ h2
def pLe (x y : Int × Int) : Bool := decide (x.1 < y.1 ∨ (x.1 = y.1 ∧ x.2 ≤ y.2))
theorem lt_pair {a b c d : Int} : PySem.W.dataLt (.tuple [.int a, .int b]) (.tuple [.int c, .int d]) = decide (a < c ∨ (a = c ∧ b < d)) := by
  have h := PySem.W.dataLt_ints [a, b] [c, d]
  have e : PySem.W.rowLt ([a, b].map .int) ([c, d].map .int) = PySem.W.dataLt (.tuple [.int a, .int b]) (.tuple [.int c, .int d]) := by
    unfold PySem.W.rowLt PySem.W.dataLt
    rw [PySem.W.keyToks, PySem.W.keyToks]; rfl
  rw [← e, h, decide_eq_decide, List.cons_lt_cons_iff, List.cons_lt_cons_iff]
  simp
theorem py_pair {a b : Int} : D.py (.tup [.int a, .int b]) = .tuple [.int a, .int b] := by
  rw [D.py, D.pyL, D.pyL, D.pyL, D.py, D.py]
theorem dle_pair {a b c d : Int} : dle (.tup [.int a, .int b]) (.tup [.int c, .int d]) = pLe (a, b) (c, d) := by
  show (!PySem.W.dataLt (D.py (.tup [.int c, .int d])) (D.py (.tup [.int a, .int b]))) = _
  rw [py_pair, py_pair, lt_pair]
  unfold pLe
  rw [Bool.eq_iff_iff, Bool.not_eq_true', decide_eq_false_iff_not, decide_eq_true_iff]
  omega
def pD (x : Int × Int) : D := .tup [.int x.1, .int x.2]
theorem enc_pD : Enc pD 1 := (enc_pair enc_int enc_int).mono (by decide)
theorem pLe_trans (a b c : Int × Int) (h1 : pLe a b = true) (h2 : pLe b c = true) : pLe a c = true := by
  unfold pLe at *
  rw [decide_eq_true_iff] at *
  omega
theorem pLe_total (a b : Int × Int) : (pLe a b || pLe b a) = true := by
  unfold pLe
  rw [Bool.or_eq_true, decide_eq_true_iff, decide_eq_true_iff]
  omega
theorem pLe_anti {a b : Int × Int} (h1 : pLe a b = true) (h2 : pLe b a = true) : a = b := by
  unfold pLe at *
  rw [decide_eq_true_iff] at *
  exact Prod.ext (by omega) (by omega)
/-- what is ascending already is what sorting makes of any other order -/
theorem sort_perm {xs ys : List (Int × Int)} (h : ys.Perm xs) (hs : ys.Pairwise fun a b => pLe a b = true) : xs.mergeSort pLe = ys :=
  List.Perm.eq_of_pairwise (fun a b _ _ h1 h2 => pLe_anti h1 h2) (List.pairwise_mergeSort pLe_trans pLe_total xs) hs ((List.mergeSort_perm xs _).trans h.symm)
section
variable {S : DS} {Q : DK} {x : D}
theorem c_sortedP {ns ms : List (Int × Int)} (e : lstOf S x = some (ns.map pD)) (hp : ms.Perm ns) (hs : ms.Pairwise fun a b => pLe a b = true) (h : newL (ms.map pD) S Q) : bSorted [x] S Q := by
  refine c_sorted e ?_ ?_ ?_ ?_
  · intro x hx
    obtain ⟨i, _, rfl⟩ := List.mem_map.mp hx
    exact ⟨enc_pD.plain i, Nat.le_trans (enc_pD.dep i) (by decide)⟩
  · intro d hd d' hd'
    rw [List.map_map] at hd hd'
    obtain ⟨i, _, rfl⟩ := List.mem_map.mp hd
    obtain ⟨j, _, rfl⟩ := List.mem_map.mp hd'
    show PySem.W.alike (D.py (pD i)) (D.py (pD j)) = true
    unfold pD
    rw [py_pair, py_pair]
    simp [PySem.W.alike, PySem.W.alikeAll]
  · left
    intro d hd
    rw [List.map_map] at hd
    obtain ⟨i, _, rfl⟩ := List.mem_map.mp hd
    exact ⟨_, _, py_pair⟩
  · rw [← List.map_mergeSort (r := pLe) (fun a _ b _ => show pLe a b = dle (pD a) (pD b) from dle_pair.symm), sort_perm hp hs]
    exact h
end
section
variable {δ δ' : Loc} {S : DS} {Q : DK} {g : DG} {t : DT} {tk tv : DE} {stay : DS → Prop} {xs : List D}
theorem i_dc {di : DI} {vs : List Nat} (e : dwipe δ vs = δ') (h : di δ S fun xs stay S1 => dcT stay g t tk tv δ' (fun kvs S2 => newDc kvs S2 Q) xs [] S1) : dDc di g t tk tv vs δ S Q := by subst e; exact h
theorem i_newDc {kvs : List (D × D)} (h : ∀ p st S1, S p = none → S1 p = some (.dct st kvs) → Ext S S1 → Q (.ref p) S1) : newDc kvs S Q := fun p st hp => h p st _ hp dupd_same (ext_new hp)
theorem dc_inv {KK : List (D × D) → DS → Prop} (P : Nat → List (D × D) → DS → Prop) (h0 : P 0 [] S) (hst : ∀ m kvs S, m ≤ xs.length → P m kvs S → stay S)
    (turn : ∀ m x kvs S (nx : List (D × D) → DS → Prop), xs[m]? = some x → m < xs.length → P m kvs S → (∀ kvs S, P (m + 1) kvs S → nx kvs S) → g x δ S fun δ2 S2 => t δ2 S2 fun b S3 => if b = true then tk δ2 S3 fun k S4 => tv δ2 S4 fun d S5 => (kOk kvs k ∧ kvs.length < 16777216) ∧ nx (dput kvs k d) S5 else nx kvs S3)
    (done : ∀ kvs S, P xs.length kvs S → KK kvs S) : dcT stay g t tk tv δ KK xs [] S := by
  have all : ∀ k m kvs S, xs.length - m = k → m ≤ xs.length → P m kvs S → dcT stay g t tk tv δ KK (xs.drop m) kvs S := by
    intro k
    induction k with
    | zero =>
      intro m kvs S hk hm p
      have : m = xs.length := by omega
      subst this
      rw [List.drop_length]
      exact ⟨hst _ _ _ (Nat.le_refl _) p, done _ _ p⟩
    | succ k ih =>
      intro m kvs S hk hm p
      have hlt : m < xs.length := by omega
      rw [List.drop_eq_getElem_cons hlt]
      exact ⟨hst _ _ _ hm p, turn m xs[m] kvs S (fun kvs S => dcT stay g t tk tv δ KK (xs.drop (m + 1)) kvs S) (List.getElem?_eq_getElem hlt) hlt p fun kvs S p' => ih (m + 1) kvs S (by omega) hlt p'⟩
  have := all _ 0 [] S rfl (Nat.zero_le _) h0
  rwa [List.drop_zero] at this
end
section
variable {δ : Loc} {S : DS} {Q : DK} {te : DE} {cc : Loc → DF} {c : DF} {x y : D} {xs : List D}
theorem i_sortK (h : te δ S fun x S1 => sortKV (cc δ) x S1 Q) : dSortK cc te δ S Q := h
theorem i_lamK {nl : Nat} {js : List Nat} {t : DE} (h : t (startD nl [x] (js.map (slotD δ))) S Q) : lamK nl js t δ [x] S Q := ⟨rfl, h⟩
/-- keys that are only looked at -/
theorem sortKs_at {α : Type} {ex kf : α → D} {K : List D → DS → Prop} : ∀ (L : List α) (ks : List D), (∀ y ∈ L, ∀ Q : DK, Q (kf y) S → c [ex y] S Q) → K (ks ++ L.map kf) S → sortKs c K (L.map ex) ks S
  | [], ks, _, h => by rw [List.map_nil, List.append_nil] at h; exact h
  | y :: ys, ks, hc, h => hc y (List.mem_cons_self ..) _ (sortKs_at ys (ks ++ [kf y]) (fun z hz => hc z (List.mem_cons_of_mem _ hz)) (by rw [List.append_assoc]; exact h))
theorem rdL_plain' {ks : List D} (h : D.plainL ks = true) : rdL S ks = ks := rdL_plain h
theorem keysOk_ints (ns : List Int) : KeysOk (ns.map D.int) := by
  refine ⟨fun k hk => ?_, fun d hd d' hd' => ?_, .inr fun d hd => ?_⟩
  · obtain ⟨i, _, rfl⟩ := List.mem_map.mp hk
    exact ⟨plain_int, dep_int⟩
  · rw [List.map_map] at hd hd'
    obtain ⟨i, _, rfl⟩ := List.mem_map.mp hd
    obtain ⟨j, _, rfl⟩ := List.mem_map.mp hd'
    simp [Function.comp, D.py, PySem.W.alike]
  · rw [List.map_map] at hd
    obtain ⟨i, _, rfl⟩ := List.mem_map.mp hd
    simp [Function.comp, D.py]
theorem c_sortKV {α : Type} {L : List α} {ex : α → D} (e : lstOf S x = some (L.map ex)) (kf : α → D) (hc : ∀ y ∈ L, ∀ Q : DK, Q (kf y) S → c [ex y] S Q) (hp : D.plainL (L.map kf) = true) (hk : KeysOk (L.map kf)) (h : newL (sortedK (L.map ex) (L.map kf)) S Q) : sortKV c x S Q := by
  show (match lstOf S x with
    | some xs => sortKs c (fun ks S2 => KeysOk (rdL S2 ks) ∧ ∀ p, S2 p = none → Q (.ref p) (dupd S2 p (.lst (sortedK xs (rdL S2 ks))))) xs [] S
    | none => False)
  rw [e]
  refine sortKs_at (kf := kf) L [] hc ?_
  rw [List.nil_append, rdL_plain' hp]
  exact ⟨hk, h⟩
/-- ascending keys leave the order -/
theorem sortedK_asc {xs : List D} {ns : List Int} (hl : xs.length = ns.length) (h : ns.Pairwise (· ≤ ·)) : sortedK xs (ns.map D.int) = xs := by
  unfold sortedK
  rw [List.mergeSort_of_pairwise]
  · rw [List.map_fst_zip]; rw [List.length_map]; omega
  · have : ∀ (xs : List D) (ns : List Int), ns.Pairwise (· ≤ ·) → (xs.zip (ns.map D.int)).Pairwise fun a b => dle a.2 b.2 = true := by
      intro xs
      induction xs with
      | nil => intro ns _; rw [List.zip_nil_left]; exact .nil
      | cons x xs ih =>
        intro ns hn
        cases ns with
        | nil => rw [List.map_nil, List.zip_nil_right]; exact .nil
        | cons n ns =>
          rw [List.map_cons, List.zip_cons_cons, List.pairwise_cons]
          rw [List.pairwise_cons] at hn
          refine ⟨fun p hp => ?_, ih ns hn.2⟩
          obtain ⟨_, h2⟩ := List.of_mem_zip (a := p.1) (b := p.2) hp
          obtain ⟨m, hm, e⟩ := List.mem_map.mp h2
          rw [← e]
          show dle (.int n) (.int m) = true
          rw [dle_int]; exact decide_eq_true (hn.1 m hm)
    exact this xs ns h
/-- d.update(d2) of tables -/
theorem dmerge_tab {κ ν : Type} [DecidableEq κ] {ek : κ → D} {ev : ν → D} {n : Nat} (en : Enc ek n) : ∀ (more ts : List (κ × ν)), dmerge (tab ek ev ts) (tab ek ev more) = tab ek ev (more.foldl (fun acc p => tput acc p.1 p.2) ts)
  | [], ts => rfl
  | p :: more, ts => by
    show dmerge (dput (tab ek ev ts) (ek p.1) (ev p.2)) (tab ek ev more) = _
    rw [tput_tab en, dmerge_tab en more]
    rfl
theorem m_update {κ ν : Type} [DecidableEq κ] {ek : κ → D} {ev : ν → D} {a b : Addr} {st st2 : DStm} {ts more : List (κ × ν)} (en : TEnc ek) (e1 : S a = some (.dct st (tab ek ev ts))) (e2 : S b = some (.dct st2 (tab ek ev more))) (hab : a ≠ b) (hn : ts ≠ []) (hl : ts.length + more.length ≤ 16777216)
    (h : ∀ st' S1, S1 a = some (.dct st' (tab ek ev (more.foldl (fun acc p => tput acc p.1 p.2) ts))) → But a S S1 → Q .non S1) : mUpdate (.ref a) [.ref b] S Q := by
  show (match S a, S b with
    | some (.dct _ kvs), some (.dct _ more) => (a ≠ b ∧ kvs ≠ [] ∧ (∀ p ∈ kvs, isTk p.1 = true) ∧ (∀ p ∈ more, isTk p.1 = true) ∧ kvs.length + more.length ≤ 16777216) ∧ ∀ st', Q .non (dupd S a (.dct st' (dmerge kvs more)))
    | _, _ => False)
  rw [e1, e2]
  have tk : ∀ ts : List (κ × ν), ∀ p ∈ tab ek ev ts, isTk p.1 = true := fun ts p hp => by
    obtain ⟨t, _, rfl⟩ := List.mem_map.mp hp
    exact en.tk t.1
  refine ⟨⟨hab, fun z => hn (List.eq_nil_of_length_eq_zero (by have := congrArg List.length z; rw [tab_len] at this; exact this)), tk _, tk _, by rw [tab_len, tab_len]; exact hl⟩, fun st' => h st' _ ?_ but_upd⟩
  rw [dmerge_tab en.toEnc]; exact dupd_same
end
section
variable {δ : Loc} {S S' : DS} {Q : DK} {c : DF} {x : D}
/-- what is read through the store stays while the store grows -/
theorem rd_ext (e : Ext S S') : ∀ (n : Nat) (d : D), (d.rd S n).plain = true → d.rd S' n = d.rd S n
  | 0, d, _ => rfl
  | n + 1, .ref a, h => by
    rw [D.rd] at h ⊢
    rw [D.rd]
    cases q : S a with
    | none => rw [q] at h; rw [D.plain] at h; cases h
    | some o =>
      rw [q] at h
      cases o with
      | lst xs =>
        rw [e a _ q]
        dsimp only at h ⊢
        rw [D.plain] at h
        congr 1
        refine List.map_congr_left fun y hy => rd_ext e n y (D.plainL_mem h _ (List.mem_map.mpr ⟨y, hy, rfl⟩))
      | _ => dsimp only at h; rw [D.plain] at h; cases h
  | n + 1, .tup xs, h => by
    rw [D.rd, D.plain] at h
    rw [D.rd, D.rd]
    congr 1
    exact List.map_congr_left fun y hy => rd_ext e n y (D.plainL_mem h _ (List.mem_map.mpr ⟨y, hy, rfl⟩))
  | n + 1, .fl xs, h => by
    rw [D.rd, D.plain] at h
    rw [D.rd, D.rd]
    congr 1
    exact List.map_congr_left fun y hy => rd_ext e n y (D.plainL_mem h _ (List.mem_map.mpr ⟨y, hy, rfl⟩))
  | _ + 1, .non, _ => by rw [D.rd, D.rd]
  | _ + 1, .bl _, _ => by rw [D.rd, D.rd]
  | _ + 1, .int _, _ => by rw [D.rd, D.rd]
  | _ + 1, .str _, _ => by rw [D.rd, D.rd]
  | _ + 1, .ty _, _ => by rw [D.rd, D.rd]
/-- keys that are made, the store growing -/
theorem sortKs_ext {α : Type} {ex kf : α → D} {K : List D → DS → Prop} (hpl : ∀ a, (kf a).plain = true) : ∀ (L L0 : List α) (ks : List D) (S1 : DS), Ext S S1 → rdL S1 ks = L0.map kf →
    (∀ y ∈ L, ∀ S' (Q' : DK), Ext S S' → (∀ k S'', k.rd S'' 4 = kf y → Ext S' S'' → Q' k S'') → c [ex y] S' Q') → (∀ ks S', rdL S' ks = (L0 ++ L).map kf → Ext S S' → K ks S') → sortKs c K (L.map ex) ks S1
  | [], L0, ks, S1, x, hr, _, h => h ks S1 (by rw [List.append_nil]; exact hr) x
  | y :: ys, L0, ks, S1, x, hr, hc, h => hc y (List.mem_cons_self ..) S1 _ x fun k S2 hk x2 => by
    refine sortKs_ext hpl ys (L0 ++ [y]) (ks ++ [k]) S2 (x.trans x2) ?_ (fun z hz => hc z (List.mem_cons_of_mem _ hz)) fun ks S' h1 h2 => h ks S' (by rw [h1, List.append_assoc]; rfl) h2
    unfold rdL at hr ⊢
    rw [List.map_append, List.map_append, ← hr]
    congr 1
    · refine List.map_congr_left fun z hz => rd_ext x2 4 z ?_
      have : z.rd S1 4 ∈ L0.map kf := by rw [← hr]; exact List.mem_map.mpr ⟨z, hz, rfl⟩
      obtain ⟨a, _, e⟩ := List.mem_map.mp this
      rw [← e]; exact hpl a
    · rw [List.map_cons, List.map_nil, List.map_cons, List.map_nil, hk]
theorem c_sortKE {α : Type} {L : List α} {ex : α → D} (e : lstOf S x = some (L.map ex)) (kf : α → D) (hpl : ∀ a, (kf a).plain = true) (hc : ∀ y ∈ L, ∀ S' (Q' : DK), Ext S S' → (∀ k S'', k.rd S'' 4 = kf y → Ext S' S'' → Q' k S'') → c [ex y] S' Q') (hk : KeysOk (L.map kf))
    (h : ∀ S', Ext S S' → newL (sortedK (L.map ex) (L.map kf)) S' Q) : sortKV c x S Q := by
  show (match lstOf S x with
    | some xs => sortKs c (fun ks S2 => KeysOk (rdL S2 ks) ∧ ∀ p, S2 p = none → Q (.ref p) (dupd S2 p (.lst (sortedK xs (rdL S2 ks))))) xs [] S
    | none => False)
  rw [e]
  refine sortKs_ext (kf := kf) hpl L [] [] S (.refl S) rfl hc fun ks S' h1 h2 => ?_
  rw [List.nil_append] at h1
  rw [h1]
  exact ⟨hk, h S' h2⟩
/-- the order on what is meant -/
theorem sortedK_map {α : Type} {ex kf : α → D} (r : α → α → Bool) (L : List α) (h : ∀ a b, r a b = dle (kf a) (kf b)) : sortedK (L.map ex) (L.map kf) = (L.mergeSort r).map ex := by
  unfold sortedK
  rw [List.zip_map', ← List.map_mergeSort (r := r) (f := fun a => (ex a, kf a)) (fun a _ b _ => h a b), List.map_map]
  rfl
end
def itemsV (d : D) (S : DS) (Q : List D → (DS → Prop) → DS → Prop) : Prop := match dctOf S d with
  | some kvs => Q (kvs.map fun p => D.tup [p.1, p.2]) (fun S' => S' (adr d) = S (adr d)) S
  | none => False
def valsV (d : D) (S : DS) (Q : List D → (DS → Prop) → DS → Prop) : Prop := match dctOf S d with
  | some kvs => Q (kvs.map (·.2)) (fun S' => S' (adr d) = S (adr d)) S
  | none => False
def bestOf {α : Type} (kf : α → D) (b : α) (M : List α) : α := M.foldl (fun b y => if dlt (kf y) (kf b) = true then y else b) b
theorem bestOf_mem {α : Type} {kf : α → D} : ∀ (M : List α) (b : α), bestOf kf b M ∈ b :: M
  | [], b => List.mem_cons_self ..
  | y :: M, b => by
    show bestOf kf (if dlt (kf y) (kf b) = true then y else b) M ∈ _
    have h := bestOf_mem (kf := kf) M (if dlt (kf y) (kf b) = true then y else b)
    rcases List.mem_cons.mp h with z | z
    · rw [z]
      split
      · exact List.mem_cons_of_mem _ (List.mem_cons_self ..)
      · exact List.mem_cons_self ..
    · exact List.mem_cons_of_mem _ (List.mem_cons_of_mem _ z)
section
variable {S S' : DS} {QI : List D → (DS → Prop) → DS → Prop} {Q : DK} {c : DF} {x : D} {p : Addr} {te : DE} {δ : Loc} {cc : Loc → DF}
theorem i_items (h : te δ S fun d S1 => itemsV d S1 QI) : dItems te δ S QI := h
theorem i_vals (h : te δ S fun d S1 => valsV d S1 QI) : dVals te δ S QI := h
theorem i_minK (h : te δ S fun x S1 => minKV (cc δ) x S1 Q) : dMinK cc te δ S Q := h
theorem t_items {κ ν : Type} {ek : κ → D} {ev : ν → D} {ts : List (κ × ν)} {st : DStm} (e : S p = some (.dct st (tab ek ev ts))) (h : QI (ts.map fun t => D.tup [ek t.1, ev t.2]) (fun S' => S' p = some (.dct st (tab ek ev ts))) S) : itemsV (.ref p) S QI := by
  unfold itemsV
  rw [dct_ref e]
  show QI ((tab ek ev ts).map fun p => D.tup [p.1, p.2]) (fun S' => S' p = S p) S
  unfold tab
  rw [List.map_map, e]
  exact h
theorem t_vals {κ ν : Type} {ek : κ → D} {ev : ν → D} {ts : List (κ × ν)} {st : DStm} (e : S p = some (.dct st (tab ek ev ts))) (h : QI (ts.map fun t => ev t.2) (fun S' => S' p = some (.dct st (tab ek ev ts))) S) : valsV (.ref p) S QI := by
  unfold valsV
  rw [dct_ref e]
  show QI ((tab ek ev ts).map (·.2)) (fun S' => S' p = S p) S
  unfold tab
  rw [List.map_map, e]
  exact h
theorem minKs_ext {α : Type} {ex kf : α → D} {L : List α} (hx : ∀ S', Ext S S' → lstOf S' x = some (L.map ex)) (hpl : ∀ a, (kf a).plain = true) (hc : ∀ y ∈ L, ∀ S' (Q' : DK), Ext S S' → (∀ k S'', k.rd S'' 4 = kf y → Ext S' S'' → Q' k S'') → c [ex y] S' Q') (hcm : ∀ a ∈ L, ∀ b ∈ L, CmpOk (kf a) (kf b)) :
    ∀ (M : List α) (b : α) (kb : D) (S1 : DS), (∀ y ∈ M, y ∈ L) → b ∈ L → Ext S S1 → kb.rd S1 4 = kf b → (∀ S', Ext S S' → Q (ex (bestOf kf b M)) S') → minKs c x (L.map ex) Q (M.map ex) (ex b) kb S1
  | [], b, kb, S1, _, _, x1, _, h => ⟨hx S1 x1, h S1 x1⟩
  | y :: M, b, kb, S1, hM, hb, x1, hk, h => ⟨hx S1 x1, hc y (hM y (List.mem_cons_self ..)) S1 _ x1 fun k S2 hk2 x2 => by
    have e2 : kb.rd S2 4 = kf b := by rw [rd_ext x2 4 kb (by rw [hk]; exact hpl b), hk]
    rw [hk2, e2]
    refine ⟨hcm y (hM y (List.mem_cons_self ..)) b hb, ?_⟩
    have hM' := fun z hz => hM z (List.mem_cons_of_mem _ hz)
    by_cases q : dlt (kf y) (kf b) = true
    · rw [if_pos q]
      refine minKs_ext hx hpl hc hcm M y k S2 hM' (hM y (List.mem_cons_self ..)) (x1.trans x2) hk2 fun S' x' => ?_
      have := h S' x'
      unfold bestOf at this
      rw [List.foldl_cons, if_pos q] at this
      exact this
    · rw [if_neg q]
      refine minKs_ext hx hpl hc hcm M b kb S2 hM' hb (x1.trans x2) e2 fun S' x' => ?_
      have := h S' x'
      unfold bestOf at this
      rw [List.foldl_cons, if_neg q] at this
      exact this⟩
/-- the first thing with the least key, the keys being made while the store grows -/
theorem c_minKE {α : Type} {ex : α → D} {a : α} {L : List α} (e : S p = some (.lst ((a :: L).map ex))) (kf : α → D) (hpl : ∀ a, (kf a).plain = true) (hc : ∀ y ∈ a :: L, ∀ S' (Q' : DK), Ext S S' → (∀ k S'', k.rd S'' 4 = kf y → Ext S' S'' → Q' k S'') → c [ex y] S' Q')
    (hcm : ∀ x ∈ a :: L, ∀ y ∈ a :: L, CmpOk (kf x) (kf y)) (h : ∀ S', Ext S S' → Q (ex (bestOf kf a L)) S') : minKV c (.ref p) S Q := by
  unfold minKV
  rw [lst_ref e]
  show c [ex a] S fun k S1 => minKs c (.ref p) ((a :: L).map ex) Q (L.map ex) (ex a) k S1
  exact hc a (List.mem_cons_self ..) S _ (.refl S) fun k S1 hk x1 => minKs_ext (fun S' x' => lst_ref (x'.get e)) hpl hc hcm L a k S1 (fun y hy => List.mem_cons_of_mem _ hy) (List.mem_cons_self ..) x1 hk h
theorem minOn_rd {α : Type} {kf : α → D} : ∀ (xs : List D) (L : List α) (d : D) (a : α), d.rd S 4 = kf a → xs.map (D.rd S 4) = L.map kf → (minOn S d xs).rd S 4 = kf (bestOf kf a L)
  | [], [], d, a, h, _ => h
  | [], _ :: _, _, _, _, h => by simp at h
  | _ :: _, [], _, _, _, h => by simp at h
  | x :: xs, y :: L, d, a, h, hl => by
    rw [List.map_cons, List.map_cons] at hl
    injection hl with h1 h2
    show (minOn S (if dlt (x.rd S 4) (d.rd S 4) = true then x else d) xs).rd S 4 = kf (bestOf kf (if dlt (kf y) (kf a) = true then y else a) L)
    rw [h1, h]
    by_cases q : dlt (kf y) (kf a) = true
    · rw [if_pos q, if_pos q]; exact minOn_rd xs L x y h1 h2
    · rw [if_neg q, if_neg q]; exact minOn_rd xs L d a h h2
/-- the least of data that stand in the store -/
theorem c_minD {α : Type} {kf : α → D} {a : α} {L : List α} {xs : List D} (e : lstOf S x = some xs) (hr : xs.map (D.rd S 4) = (a :: L).map kf) (hcm : ∀ x ∈ a :: L, ∀ y ∈ a :: L, CmpOk (kf x) (kf y)) (h : ∀ d, d.rd S 4 = kf (bestOf kf a L) → Q d S) : bMinD [x] S Q := by
  match xs, hr with
  | d :: ds, hr =>
    have hm : ∀ z ∈ d :: ds, ∃ b ∈ a :: L, z.rd S 4 = kf b := fun z hz => by
      have : z.rd S 4 ∈ (a :: L).map kf := by rw [← hr]; exact List.mem_map.mpr ⟨z, hz, rfl⟩
      obtain ⟨b, h1, h2⟩ := List.mem_map.mp this
      exact ⟨b, h1, h2.symm⟩
    rw [List.map_cons, List.map_cons] at hr
    injection hr with h1 h2
    unfold bMinD
    dsimp only
    rw [e]
    refine ⟨fun y hy z hz => ?_, h _ (minOn_rd ds L d a h1 h2)⟩
    obtain ⟨b, hb, e1⟩ := hm y hy
    obtain ⟨b', hb', e2⟩ := hm z hz
    rw [e1, e2]
    exact hcm b hb b' hb'
/-- equal or not, by what stands in the store -/
theorem o_eqR {neg : Bool} {y kx ky : D} (hx : x.rd S 4 = kx) (hy : y.rd S 4 = ky) (px : kx.plain = true) (py : ky.plain = true) (hd : kx.dep ≤ 50 ∨ ky.dep ≤ 50) (h : Q (.bl (neg ^^ D.eqv kx ky)) S) : oEq neg x y S Q := by
  unfold oEq
  rw [hx, hy]
  exact ⟨⟨px, py, hd⟩, h⟩
end
end DL
namespace Gk40
open PySem L2 DL
/- 0: first_state(program): 0 program 1 task -/
def b_0 (c : Nat → DF) : DSt :=
  (dRet (dTup (dCons (dCall bTuple (dCons (dLc (dRng1 (dCons (dCall bLen (dCons (dOp oIx (dVar 0) (dC (.int 1))) dNil)) dNil)) (dgName 1) dYes (dIfE (dTb (dOp (oEq false) (dVar 1) (dC (.int 0)))) (dC (.int 0)) (dC .non)) [1]) dNil)) (dCons (dTup dNil) dNil))))
def f_0 : FnD := ⟨1, 2, b_0⟩
/- 1: value_of(kept, promise): 0 kept 1 promise 2 other 3 value -/
def b_1 (c : Nat → DF) : DSt :=
  (dSeq (dFor (dIter (dVar 0)) (dgTup 2 (dgCons (dgName 2) (dgCons (dgName 3) dgNil))) (dIf (dTb (dOp (oEq false) (dVar 2) (dVar 1))) (dRet (dVar 3)) dNext))
  (dRet (dC .non)))
def f_1 : FnD := ⟨2, 4, b_1⟩
/- 2: next_deed(program, state, task): 0 program 1 state 2 task 3 done -/
def b_2 (c : Nat → DF) : DSt :=
  (dSeq (dAsg (dOp oIx (dOp oIx (dVar 1) (dC (.int 0))) (dVar 2)) (dgName 3))
  (dSeq (dIf (dOr (dTb (dOp (oIs false) (dVar 3) (dC .non))) (dTb (dOp (oEq false) (dVar 3) (dCall bLen (dCons (dOp oIx (dOp oIx (dVar 0) (dC (.int 1))) (dVar 2)) dNil))))) (dRet (dC .non)) dNext)
  (dRet (dOp oIx (dOp oIx (dOp oIx (dVar 0) (dC (.int 1))) (dVar 2)) (dVar 3)))))
def f_2 : FnD := ⟨3, 4, b_2⟩
/- 3: can_be_done(kept, deed): 0 kept 1 deed 2 promise -/
def b_3 (c : Nat → DF) : DSt :=
  (dSeq (dIf (dTb (dOp (oEq false) (dOp oIx (dVar 1) (dC (.int 0))) (dC (.str "wait")))) (dRet (dOp (oIs true) (dCall (c 1) (dCons (dVar 0) (dCons (dOp oIx (dVar 1) (dC (.int 1))) dNil))) (dC .non))) dNext)
  (dSeq (dIf (dTb (dOp (oEq false) (dOp oIx (dVar 1) (dC (.int 0))) (dC (.str "keep")))) (dRet (dCall bAll (dCons (dLc (dIter (dOp oIx (dVar 1) (dC (.int 3)))) (dgName 2) dYes (dOp (oIs true) (dCall (c 1) (dCons (dVar 0) (dCons (dVar 2) dNil))) (dC .non)) [2]) dNil))) dNext)
  (dSeq (dIf (dTb (dOp (oEq false) (dOp oIx (dVar 1) (dC (.int 0))) (dC (.str "race")))) (dRet (dCall bAny (dCons (dLc (dIter (dOp oIx (dVar 1) (dC (.int 2)))) (dgName 2) dYes (dOp (oIs true) (dCall (c 1) (dCons (dVar 0) (dCons (dVar 2) dNil))) (dC .non)) [2]) dNil))) dNext)
  (dRet (dC (.bl true))))))
def f_3 : FnD := ⟨2, 3, b_3⟩
/- 4: ready_tasks(program, state): 0 program 1 state 2 found 3 task 4 deed -/
def b_4 (c : Nat → DF) : DSt :=
  (dSeq (dAsg (dLst dNil) (dgName 2))
  (dSeq (dFor (dRng1 (dCons (dCall bLen (dCons (dOp oIx (dVar 0) (dC (.int 1))) dNil)) dNil)) (dgName 3) (dSeq (dAsg (dCall (c 2) (dCons (dVar 0) (dCons (dVar 1) (dCons (dVar 3) dNil)))) (dgName 4))
    (dIf (dAnd (dTb (dOp (oIs true) (dVar 4) (dC .non))) (dTb (dCall (c 3) (dCons (dOp oIx (dVar 1) (dC (.int 1))) (dCons (dVar 4) dNil))))) (dDrop (dBM okLst (mLst fAppend) (dVar 2) (dCons (dVar 3) dNil))) dNext)))
  (dRet (dCall bTuple (dCons (dVar 2) dNil)))))
def f_4 : FnD := ⟨2, 5, b_4⟩
/- 5: value_kept_by(kept, deed): 0 kept 1 deed 2 promise 3 value -/
def b_5 (c : Nat → DF) : DSt :=
  (dSeq (dIf (dTb (dOp (oEq false) (dOp oIx (dVar 1) (dC (.int 0))) (dC (.str "keep")))) (dRet (dOp oAdd (dOp oIx (dVar 1) (dC (.int 2))) (dCall bSum (dCons (dLc (dIter (dOp oIx (dVar 1) (dC (.int 3)))) (dgName 2) dYes (dCall (c 1) (dCons (dVar 0) (dCons (dVar 2) dNil))) [2]) dNil)))) dNext)
  (dSeq (dFor (dIter (dVar 0)) (dgTup 2 (dgCons (dgName 2) (dgCons (dgName 3) dgNil))) (dIf (dTb (dOp (oIn false) (dVar 2) (dOp oIx (dVar 1) (dC (.int 2))))) (dRet (dVar 3)) dNext))
  (dRet (dC .non))))
def f_5 : FnD := ⟨2, 4, b_5⟩
/- 6: stepped(program, state, task): 0 program 1 state 2 task 3 counts 4 kept 5 deed 6 after -/
def b_6 (c : Nat → DF) : DSt :=
  (dSeq (dAsg (dVar 1) (dgTup 2 (dgCons (dgName 3) (dgCons (dgName 4) dgNil))))
  (dSeq (dAsg (dCall (c 2) (dCons (dVar 0) (dCons (dVar 1) (dCons (dVar 2) dNil)))) (dgName 5))
  (dSeq (dAsg (dCall bList (dCons (dVar 3) dNil)) (dgName 6))
  (dSeq (dAsg (dOp oAdd (dOp oIx (dVar 3) (dVar 2)) (dC (.int 1))) (dgSub (dVar 6) (dVar 2) sIx))
  (dSeq (dIf (dTb (dOp (oEq false) (dOp oIx (dVar 5) (dC (.int 0))) (dC (.str "start")))) (dIf (dTb (dOp (oIs false) (dOp oIx (dVar 3) (dOp oIx (dVar 5) (dC (.int 1)))) (dC .non))) (dAsg (dC (.int 0)) (dgSub (dVar 6) (dOp oIx (dVar 5) (dC (.int 1))) sIx)) dNext) (dIf (dAnd (dTb (dOp (oEq true) (dOp oIx (dVar 5) (dC (.int 0))) (dC (.str "wait")))) (dTb (dOp (oIs false) (dCall (c 1) (dCons (dVar 4) (dCons (dOp oIx (dVar 5) (dC (.int 1))) dNil))) (dC .non)))) (dAsg (dOp oAdd (dVar 4) (dTup (dCons (dTup (dCons (dOp oIx (dVar 5) (dC (.int 1))) (dCons (dCall (c 5) (dCons (dVar 4) (dCons (dVar 5) dNil))) dNil))) dNil))) (dgName 4)) dNext))
  (dRet (dTup (dCons (dCall bTuple (dCons (dVar 6) dNil)) (dCons (dVar 4) dNil)))))))))
def f_6 : FnD := ⟨3, 7, b_6⟩
/- 7: stuck_at(program, state): 0 program 1 state 2 task -/
def b_7 (c : Nat → DF) : DSt :=
  (dRet (dCall bTuple (dCons (dLc (dRng1 (dCons (dCall bLen (dCons (dOp oIx (dVar 0) (dC (.int 1))) dNil)) dNil)) (dgName 2) (dTb (dOp (oIs true) (dCall (c 2) (dCons (dVar 0) (dCons (dVar 1) (dCons (dVar 2) dNil)))) (dC .non))) (dVar 2) [2]) dNil)))
def f_7 : FnD := ⟨2, 3, b_7⟩
/- 8: values_at(program, state): 0 program 1 state 2 promise -/
def b_8 (c : Nat → DF) : DSt :=
  (dRet (dCall bTuple (dCons (dLc (dRng1 (dCons (dOp oIx (dVar 0) (dC (.int 0))) dNil)) (dgName 2) dYes (dCall (c 1) (dCons (dOp oIx (dVar 1) (dC (.int 1))) (dCons (dVar 2) dNil))) [2]) dNil)))
def f_8 : FnD := ⟨2, 3, b_8⟩
/- 9: ending_at(program, state): 0 program 1 state -/
def b_9 (c : Nat → DF) : DSt :=
  (dRet (dTup (dCons (dCall (c 8) (dCons (dVar 0) (dCons (dVar 1) dNil))) (dCons (dCall (c 7) (dCons (dVar 0) (dCons (dVar 1) dNil))) dNil))))
def f_9 : FnD := ⟨2, 2, b_9⟩
/- 10: reached(program): 0 program 1 begin 2 parents 3 waiting 4 at 5 state 6 task 7 after -/
def b_10 (c : Nat → DF) : DSt :=
  (dSeq (dAsg (dCall (c 0) (dCons (dVar 0) dNil)) (dgName 1))
  (dSeq (dAsg (dDct1 false (dVar 1) (dC .non)) (dgName 2))
  (dSeq (dAsg (dLst (dCons (dVar 1) dNil)) (dgName 3))
  (dSeq (dAsg (dC (.int 0)) (dgName 4))
  (dSeq (dWhile (dTb (dOp (oCmp .lt) (dVar 4) (dCall bLen (dCons (dVar 3) dNil)))) (dSeq (dAsg (dOp oIx (dVar 3) (dVar 4)) (dgName 5))
    (dSeq (dAug 4 (dC (.int 1)) (oBit (· + ·)))
    (dFor (dIter (dCall (c 4) (dCons (dVar 0) (dCons (dVar 5) dNil)))) (dgName 6) (dSeq (dAsg (dCall (c 6) (dCons (dVar 0) (dCons (dVar 5) (dCons (dVar 6) dNil)))) (dgName 7))
      (dIf (dTb (dOp (oIn true) (dVar 7) (dVar 2))) (dSeq (dAsg (dTup (dCons (dVar 5) (dCons (dVar 6) dNil))) (dgSub (dVar 2) (dVar 7) sIx))
        (dDrop (dBM okLst (mLst fAppend) (dVar 3) (dCons (dVar 7) dNil)))) dNext))))))
  (dRet (dVar 2)))))))
def f_10 : FnD := ⟨1, 8, b_10⟩
/- 11: way_to(parents, state): 0 parents 1 state 2 moves 3 pair -/
def b_11 (c : Nat → DF) : DSt :=
  (dSeq (dAsg (dLst dNil) (dgName 2))
  (dSeq (dAsg (dOp oIx (dVar 0) (dVar 1)) (dgName 3))
  (dSeq (dWhile (dTb (dOp (oIs true) (dVar 3) (dC .non))) (dSeq (dDrop (dBM okLst (mLst fAppend) (dVar 2) (dCons (dOp oIx (dVar 3) (dC (.int 1))) dNil)))
    (dAsg (dOp oIx (dVar 0) (dOp oIx (dVar 3) (dC (.int 0)))) (dgName 3))))
  (dRet (dCall bTuple (dCons (dRvS (dVar 2)) dNil))))))
def f_11 : FnD := ⟨2, 4, b_11⟩
/- 12: full_states(program, states): 0 program 1 states 2 state -/
def b_12 (c : Nat → DF) : DSt :=
  (dRet (dLc (dIter (dVar 1)) (dgName 2) (dTb (dOp (oEq false) (dCall bLen (dCons (dCall (c 4) (dCons (dVar 0) (dCons (dVar 2) dNil))) dNil)) (dC (.int 0)))) (dVar 2) [2]))
def f_12 : FnD := ⟨2, 3, b_12⟩
/- 13: ending_key(outcome): 0 outcome 1 values 2 stuck 3 value -/
def b_13 (c : Nat → DF) : DSt :=
  (dSeq (dAsg (dVar 0) (dgTup 2 (dgCons (dgName 1) (dgCons (dgName 2) dgNil))))
  (dRet (dTup (dCons (dCall bTuple (dCons (dLc (dIter (dVar 1)) (dgName 3) dYes (dIfE (dTb (dOp (oIs false) (dVar 3) (dC .non))) (dTup (dCons (dC (.int 0)) (dCons (dC (.int 0)) dNil))) (dTup (dCons (dC (.int 1)) (dCons (dVar 3) dNil)))) [3]) dNil)) (dCons (dVar 2) dNil)))))
def f_13 : FnD := ⟨1, 4, b_13⟩
/- 14: first_runs(program): 0 program 1 parents 2 runs 3 state 4 outcome -/
def b_14 (c : Nat → DF) : DSt :=
  (dSeq (dAsg (dCall (c 10) (dCons (dVar 0) dNil)) (dgName 1))
  (dSeq (dAsg dDct0 (dgName 2))
  (dSeq (dFor (dIter (dCall (c 12) (dCons (dVar 0) (dCons (dCall bList (dCons (dVar 1) dNil)) dNil)))) (dgName 3) (dSeq (dAsg (dCall (c 9) (dCons (dVar 0) (dCons (dVar 3) dNil))) (dgName 4))
    (dIf (dTb (dOp (oIn true) (dVar 4) (dVar 2))) (dAsg (dCall (c 11) (dCons (dVar 1) (dCons (dVar 3) dNil))) (dgSub (dVar 2) (dVar 4) sIx)) dNext)))
  (dRet (dVar 2)))))
def f_14 : FnD := ⟨1, 5, b_14⟩
/- 15: first_difference(program, other): 0 program 1 other 2 runs 3 others 4 lone 5 outcome 6 run -/
def b_15 (c : Nat → DF) : DSt :=
  (dSeq (dAsg (dCall (c 14) (dCons (dVar 0) dNil)) (dgName 2))
  (dSeq (dAsg (dCall (c 14) (dCons (dVar 1) dNil)) (dgName 3))
  (dSeq (dAsg (dLc (dItems (dVar 2)) (dgTup 2 (dgCons (dgName 5) (dgCons (dgName 6) dgNil))) (dTb (dOp (oIn true) (dVar 5) (dVar 3))) (dTup (dCons (dVar 5) (dCons (dVar 6) dNil))) [5, 6]) (dgName 4))
  (dSeq (dDrop (dBM okLst mExtend (dVar 4) (dCons (dLc (dItems (dVar 3)) (dgTup 2 (dgCons (dgName 5) (dgCons (dgName 6) dgNil))) (dTb (dOp (oIn true) (dVar 5) (dVar 2))) (dTup (dCons (dVar 5) (dCons (dVar 6) dNil))) [5, 6]) dNil)))
  (dSeq (dIf (dTb (dOp (oEq false) (dCall bLen (dCons (dVar 4) dNil)) (dC (.int 0)))) (dRet (dC .non)) dNext)
  (dRet (dMinK (lamK 1 [] (dCall (c 13) (dCons (dOp oIx (dVar 0) (dC (.int 0))) dNil))) (dVar 4))))))))
def f_15 : FnD := ⟨2, 7, b_15⟩
/- 16: programs_alike(program, other): 0 program 1 other -/
def b_16 (c : Nat → DF) : DSt :=
  (dRet (dOp (oIs false) (dCall (c 15) (dCons (dVar 0) (dCons (dVar 1) dNil))) (dC .non)))
def f_16 : FnD := ⟨2, 2, b_16⟩
/- 17: _law_draws(script, many): 0 script 1 many 2 cells 3 cell 4 left 5 draws 6 k 7 place 8 mixed -/
def b_17 (c : Nat → DF) : DSt :=
  (dSeq (dAsg (dLc (dIter (dSl (dVar 0) dNoPart (dPart (dC (.int 63))))) (dgName 3) dYes (dOp oMod (dCall bInt (dCons (dVar 3) dNil)) (dOp oShl (dC (.int 1)) (dC (.int 7200)))) [3]) (dgName 2))
  (dSeq (dIf (dTb (dOp (oEq false) (dCall bLen (dCons (dVar 2) dNil)) (dC (.int 0)))) (dDrop (dBM okLst (mLst fAppend) (dVar 2) (dCons (dC (.int 0)) dNil))) dNext)
  (dSeq (dAsg (dCall bList (dCons (dVar 2) dNil)) (dgName 4))
  (dSeq (dAsg (dLst dNil) (dgName 5))
  (dSeq (dFor (dRng1 (dCons (dVar 1) dNil)) (dgName 6) (dSeq (dAsg (dOp oMod (dCall bInt (dCons (dVar 6) dNil)) (dCall bLen (dCons (dVar 2) dNil))) (dgName 7))
    (dIf (dAnd (dTb (dOp (oCmp .ge) (dOp oIx (dVar 2) (dVar 7)) (dOp oPow (dC (.int 10)) (dC (.int 18))))) (dTb (dOp (oCmp .gt) (dOp oIx (dVar 4) (dVar 7)) (dC (.int 0))))) (dSeq (dDrop (dBM okLst (mLst fAppend) (dVar 5) (dCons (dOp oMod (dCall bInt (dCons (dOp oIx (dVar 4) (dVar 7)) dNil)) (dC (.int 1000))) dNil)))
      (dAsg (dOp oFdv (dOp oIx (dVar 4) (dVar 7)) (dC (.int 1000))) (dgSub (dVar 4) (dVar 7) sIx))) (dSeq (dAsg (dOp oMod (dCall bInt (dCons (dOp oAdd (dOp oAdd (dOp oMul (dOp oIx (dVar 2) (dVar 7)) (dC (.int 48271))) (dOp oMul (dVar 6) (dC (.int 69621)))) (dC (.int 11))) dNil)) (dC (.int 2147483647))) (dgName 8))
      (dDrop (dBM okLst (mLst fAppend) (dVar 5) (dCons (dOp oMod (dCall bInt (dCons (dOp oAdd (dOp oAdd (dOp oMul (dVar 8) (dVar 8)) (dOp oMul (dC (.int 3)) (dVar 8))) (dVar 6)) dNil)) (dC (.int 1000003))) dNil)))))))
  (dSeq (dDrop (dBM okLst (mLst fReverse) (dVar 5) dNil))
  (dRet (dVar 5))))))))
def f_17 : FnD := ⟨2, 9, b_17⟩
/- 18: _law_take(draws, many): 0 draws 1 many -/
def b_18 (c : Nat → DF) : DSt :=
  (dSeq (dIf (dTb (dOp (oEq false) (dCall bLen (dCons (dVar 0) dNil)) (dC (.int 0)))) (dRet (dC (.int 0))) dNext)
  (dRet (dOp oMod (dCall bInt (dCons (dBM okLst (mLst fPop) (dVar 0) dNil) dNil)) (dVar 1))))
def f_18 : FnD := ⟨2, 2, b_18⟩
/- 19: _law_pick(draws, row): 0 draws 1 row -/
def b_19 (c : Nat → DF) : DSt :=
  (dRet (dOp oIx (dVar 1) (dCall (c 18) (dCons (dVar 0) (dCons (dCall bLen (dCons (dVar 1) dNil)) dNil)))))
def f_19 : FnD := ⟨2, 2, b_19⟩
/- 20: _law_same(actual, due): 0 actual 1 due 2 k -/
def b_20 (c : Nat → DF) : DSt :=
  (dSeq (dIf (dTb (dCall bIsi (dCons (dVar 1) (dCons (dTup (dCons (dC (.ty "tuple")) (dCons (dC (.ty "list")) dNil))) dNil)))) (dSeq (dIf (dOr (dTb (dOp (oEq true) (dCall bIsi (dCons (dVar 0) (dCons (dC (.ty "tuple")) dNil))) (dCall bIsi (dCons (dVar 1) (dCons (dC (.ty "tuple")) dNil))))) (dTb (dOp (oEq true) (dCall bIsi (dCons (dVar 0) (dCons (dC (.ty "list")) dNil))) (dCall bIsi (dCons (dVar 1) (dCons (dC (.ty "list")) dNil)))))) (dRet (dC (.bl false))) dNext)
    (dSeq (dIf (dTb (dOp (oEq true) (dCall bLen (dCons (dVar 0) dNil)) (dCall bLen (dCons (dVar 1) dNil)))) (dRet (dC (.bl false))) dNext)
    (dRet (dOp (oIn true) (dC (.bl false)) (dLc (dRng1 (dCons (dCall bLen (dCons (dVar 1) dNil)) dNil)) (dgName 2) dYes (dCall (c 20) (dCons (dOp oIx (dVar 0) (dVar 2)) (dCons (dOp oIx (dVar 1) (dVar 2)) dNil))) [2]))))) dNext)
  (dSeq (dIf (dOr (dTb (dOp (oEq true) (dCall bIsi (dCons (dVar 0) (dCons (dC (.ty "bool")) dNil))) (dCall bIsi (dCons (dVar 1) (dCons (dC (.ty "bool")) dNil))))) (dTb (dOp (oEq true) (dCall bIsi (dCons (dVar 0) (dCons (dC (.ty "int")) dNil))) (dCall bIsi (dCons (dVar 1) (dCons (dC (.ty "int")) dNil)))))) (dRet (dC (.bl false))) dNext)
  (dSeq (dIf (dOr (dTb (dOp (oEq true) (dCall bIsi (dCons (dVar 0) (dCons (dC (.ty "str")) dNil))) (dCall bIsi (dCons (dVar 1) (dCons (dC (.ty "str")) dNil))))) (dTb (dOp (oEq true) (dOp (oIs false) (dVar 0) (dC .non)) (dOp (oIs false) (dVar 1) (dC .non))))) (dRet (dC (.bl false))) dNext)
  (dRet (dOp (oEq false) (dVar 0) (dVar 1))))))
def f_20 : FnD := ⟨2, 3, b_20⟩
/- 21: _law_shuffled(draws, row): 0 draws 1 row 2 left 3 told 4 k -/
def b_21 (c : Nat → DF) : DSt :=
  (dSeq (dAsg (dCall bList (dCons (dVar 1) dNil)) (dgName 2))
  (dSeq (dAsg (dLst dNil) (dgName 3))
  (dSeq (dFor (dRng1 (dCons (dCall bLen (dCons (dVar 2) dNil)) dNil)) (dgName 4) (dDrop (dBM okLst (mLst fAppend) (dVar 3) (dCons (dBM okLst (mLst fPopAt) (dVar 2) (dCons (dCall (c 18) (dCons (dVar 0) (dCons (dCall bLen (dCons (dVar 2) dNil)) dNil))) dNil)) dNil))))
  (dRet (dVar 3)))))
def f_21 : FnD := ⟨2, 5, b_21⟩
/- 22: _law_some_of(draws, things, many): 0 draws 1 things 2 many 3 found 4 k 5 thing -/
def b_22 (c : Nat → DF) : DSt :=
  (dSeq (dAsg (dLst dNil) (dgName 3))
  (dSeq (dFor (dRng1 (dCons (dOp oAdd (dC (.int 1)) (dCall (c 18) (dCons (dVar 0) (dCons (dVar 2) dNil)))) dNil)) (dgName 4) (dSeq (dAsg (dCall (c 19) (dCons (dVar 0) (dCons (dVar 1) dNil))) (dgName 5))
    (dIf (dTb (dOp (oIn true) (dVar 5) (dVar 3))) (dDrop (dBM okLst (mLst fAppend) (dVar 3) (dCons (dVar 5) dNil))) dNext)))
  (dRet (dCall bSorted (dCons (dVar 3) dNil)))))
def f_22 : FnD := ⟨3, 6, b_22⟩
/- 23: _law_put(row, k, thing): 0 row 1 k 2 thing -/
def b_23 (c : Nat → DF) : DSt :=
  (dRet (dOp oAdd (dOp oAdd (dSl (dVar 0) dNoPart (dPart (dVar 1))) (dTup (dCons (dVar 2) dNil))) (dSl (dVar 0) (dPart (dOp oAdd (dVar 1) (dC (.int 1)))) dNoPart)))
def f_23 : FnD := ⟨3, 3, b_23⟩
/- 24: _law_without(row, k): 0 row 1 k -/
def b_24 (c : Nat → DF) : DSt :=
  (dRet (dOp oAdd (dSl (dVar 0) dNoPart (dPart (dVar 1))) (dSl (dVar 0) (dPart (dOp oAdd (dVar 1) (dC (.int 1)))) dNoPart)))
def f_24 : FnD := ⟨2, 2, b_24⟩
/- 25: _law_number(draws): 0 draws -/
def b_25 (c : Nat → DF) : DSt :=
  (dSeq (dIf (dTb (dOp (oEq false) (dCall (c 18) (dCons (dVar 0) (dCons (dC (.int 9)) dNil))) (dC (.int 0)))) (dRet (dCall (c 19) (dCons (dVar 0) (dCons (dLst (dCons (dOp oAdd (dOp oPow (dC (.int 10)) (dC (.int 9))) (dC (.int 7))) (dCons (dOp oSub (dUn uNeg (dOp oPow (dC (.int 10)) (dC (.int 17)))) (dC (.int 3))) (dCons (dOp oAdd (dOp oPow (dC (.int 10)) (dC (.int 40))) (dC (.int 121))) dNil)))) dNil)))) dNext)
  (dRet (dOp oSub (dCall (c 18) (dCons (dVar 0) (dCons (dC (.int 13)) dNil))) (dC (.int 4)))))
def f_25 : FnD := ⟨1, 1, b_25⟩
/- 26: _law_start_state(program): 0 program 1 t -/
def b_26 (c : Nat → DF) : DSt :=
  (dRet (dTup (dCons (dCall bTuple (dCons (dLc (dRng1 (dCons (dCall bLen (dCons (dOp oIx (dVar 0) (dC (.int 1))) dNil)) dNil)) (dgName 1) dYes (dOp oIx (dLst (dCons (dC .non) (dCons (dC (.int 0)) dNil))) (dCall bInt (dCons (dOp (oEq false) (dVar 1) (dC (.int 0))) dNil))) [1]) dNil)) (dCons (dTup dNil) dNil))))
def f_26 : FnD := ⟨1, 2, b_26⟩
/- 27: _law_worth(kept, p): 0 kept 1 p 2 pair -/
def b_27 (c : Nat → DF) : DSt :=
  (dSeq (dFor (dIter (dVar 0)) (dgName 2) (dIf (dTb (dOp (oEq false) (dOp oIx (dVar 2) (dC (.int 0))) (dVar 1))) (dRet (dOp oIx (dVar 2) (dC (.int 1)))) dNext))
  (dRet (dC .non)))
def f_27 : FnD := ⟨2, 3, b_27⟩
/- 28: _law_can(program, state, t): 0 program 1 state 2 t 3 done 4 deed 5 had 6 pair 7 p -/
def b_28 (c : Nat → DF) : DSt :=
  (dSeq (dAsg (dOp oIx (dOp oIx (dVar 1) (dC (.int 0))) (dVar 2)) (dgName 3))
  (dSeq (dIf (dOr (dTb (dOp (oIs false) (dVar 3) (dC .non))) (dTb (dOp (oCmp .ge) (dVar 3) (dCall bLen (dCons (dOp oIx (dOp oIx (dVar 0) (dC (.int 1))) (dVar 2)) dNil))))) (dRet (dC (.bl false))) dNext)
  (dSeq (dAsg (dOp oIx (dOp oIx (dOp oIx (dVar 0) (dC (.int 1))) (dVar 2)) (dVar 3)) (dgName 4))
  (dSeq (dAsg (dLc (dIter (dOp oIx (dVar 1) (dC (.int 1)))) (dgName 6) dYes (dOp oIx (dVar 6) (dC (.int 0))) [6]) (dgName 5))
  (dSeq (dIf (dTb (dOp (oEq false) (dOp oIx (dVar 4) (dC (.int 0))) (dC (.str "wait")))) (dRet (dOp (oIn false) (dOp oIx (dVar 4) (dC (.int 1))) (dVar 5))) dNext)
  (dSeq (dIf (dTb (dOp (oEq false) (dOp oIx (dVar 4) (dC (.int 0))) (dC (.str "keep")))) (dRet (dOp (oIn true) (dC (.bl false)) (dLc (dIter (dOp oIx (dVar 4) (dC (.int 3)))) (dgName 7) dYes (dOp (oIn false) (dVar 7) (dVar 5)) [7]))) dNext)
  (dSeq (dIf (dTb (dOp (oEq false) (dOp oIx (dVar 4) (dC (.int 0))) (dC (.str "race")))) (dRet (dOp (oIn false) (dC (.bl true)) (dLc (dIter (dOp oIx (dVar 4) (dC (.int 2)))) (dgName 7) dYes (dOp (oIn false) (dVar 7) (dVar 5)) [7]))) dNext)
  (dRet (dC (.bl true))))))))))
def f_28 : FnD := ⟨3, 8, b_28⟩
/- 29: _law_ready(program, state): 0 program 1 state 2 t -/
def b_29 (c : Nat → DF) : DSt :=
  (dRet (dLc (dRng1 (dCons (dCall bLen (dCons (dOp oIx (dVar 0) (dC (.int 1))) dNil)) dNil)) (dgName 2) (dTb (dCall (c 28) (dCons (dVar 0) (dCons (dVar 1) (dCons (dVar 2) dNil))))) (dVar 2) [2]))
def f_29 : FnD := ⟨2, 3, b_29⟩
/- 30: _law_step(program, state, t): 0 program 1 state 2 t 3 counts 4 kept 5 deed 6 told 7 p 8 pair -/
def b_30 (c : Nat → DF) : DSt :=
  (dSeq (dAsg (dVar 1) (dgTup 2 (dgCons (dgName 3) (dgCons (dgName 4) dgNil))))
  (dSeq (dAsg (dOp oIx (dOp oIx (dOp oIx (dVar 0) (dC (.int 1))) (dVar 2)) (dOp oIx (dVar 3) (dVar 2))) (dgName 5))
  (dSeq (dAsg (dCall bList (dCons (dVar 3) dNil)) (dgName 6))
  (dSeq (dAsg (dOp oAdd (dOp oIx (dVar 3) (dVar 2)) (dC (.int 1))) (dgSub (dVar 6) (dVar 2) sIx))
  (dSeq (dIf (dAnd (dTb (dOp (oEq false) (dOp oIx (dVar 5) (dC (.int 0))) (dC (.str "start")))) (dTb (dOp (oIs false) (dOp oIx (dVar 3) (dOp oIx (dVar 5) (dC (.int 1)))) (dC .non)))) (dAsg (dC (.int 0)) (dgSub (dVar 6) (dOp oIx (dVar 5) (dC (.int 1))) sIx)) dNext)
  (dSeq (dIf (dAnd (dTb (dOp (oEq false) (dOp oIx (dVar 5) (dC (.int 0))) (dC (.str "keep")))) (dTb (dOp (oIs false) (dCall (c 27) (dCons (dVar 4) (dCons (dOp oIx (dVar 5) (dC (.int 1))) dNil))) (dC .non)))) (dAsg (dOp oAdd (dVar 4) (dTup (dCons (dTup (dCons (dOp oIx (dVar 5) (dC (.int 1))) (dCons (dOp oAdd (dOp oIx (dVar 5) (dC (.int 2))) (dCall bSum (dCons (dLc (dIter (dOp oIx (dVar 5) (dC (.int 3)))) (dgName 7) dYes (dCall (c 27) (dCons (dVar 4) (dCons (dVar 7) dNil))) [7]) dNil))) dNil))) dNil))) (dgName 4)) dNext)
  (dSeq (dIf (dAnd (dTb (dOp (oEq false) (dOp oIx (dVar 5) (dC (.int 0))) (dC (.str "race")))) (dTb (dOp (oIs false) (dCall (c 27) (dCons (dVar 4) (dCons (dOp oIx (dVar 5) (dC (.int 1))) dNil))) (dC .non)))) (dAsg (dOp oAdd (dVar 4) (dTup (dCons (dTup (dCons (dOp oIx (dVar 5) (dC (.int 1))) (dCons (dOp oIx (dLc (dIter (dVar 4)) (dgName 8) (dTb (dOp (oIn false) (dOp oIx (dVar 8) (dC (.int 0))) (dOp oIx (dVar 5) (dC (.int 2))))) (dOp oIx (dVar 8) (dC (.int 1))) [8]) (dC (.int 0))) dNil))) dNil))) (dgName 4)) dNext)
  (dRet (dTup (dCons (dCall bTuple (dCons (dVar 6) dNil)) (dCons (dVar 4) dNil)))))))))))
def f_30 : FnD := ⟨3, 9, b_30⟩
/- 31: _law_explored(program): 0 program 1 rows 2 seen 3 turn 4 state 5 run 6 t 7 after -/
def b_31 (c : Nat → DF) : DSt :=
  (dSeq (dAsg (dLst (dCons (dLst (dCons (dCall (c 26) (dCons (dVar 0) dNil)) (dCons (dTup dNil) dNil))) dNil)) (dgName 1))
  (dSeq (dAsg (dDct1 false (dOp oIx (dOp oIx (dVar 1) (dC (.int 0))) (dC (.int 0))) (dC (.bl true))) (dgName 2))
  (dSeq (dFor (dRng1 (dCons (dC (.int 6000)) dNil)) (dgName 3) (dSeq (dIf (dTb (dOp (oCmp .ge) (dVar 3) (dCall bLen (dCons (dVar 1) dNil)))) dBreak dNext)
    (dSeq (dAsg (dOp oIx (dVar 1) (dVar 3)) (dgTup 2 (dgCons (dgName 4) (dgCons (dgName 5) dgNil))))
    (dFor (dIter (dCall (c 29) (dCons (dVar 0) (dCons (dVar 4) dNil)))) (dgName 6) (dSeq (dAsg (dCall (c 30) (dCons (dVar 0) (dCons (dVar 4) (dCons (dVar 6) dNil)))) (dgName 7))
      (dIf (dTb (dOp (oIn true) (dVar 7) (dVar 2))) (dSeq (dAsg (dC (.bl true)) (dgSub (dVar 2) (dVar 7) sIx))
        (dDrop (dBM okLst (mLst fAppend) (dVar 1) (dCons (dLst (dCons (dVar 7) (dCons (dOp oAdd (dVar 5) (dTup (dCons (dVar 6) dNil))) dNil))) dNil)))) dNext))))))
  (dRet (dVar 1)))))
def f_31 : FnD := ⟨1, 8, b_31⟩
/- 32: _law_stuck_at(program, state): 0 program 1 state 2 many 3 t -/
def b_32 (c : Nat → DF) : DSt :=
  (dSeq (dAsg (dCall bLen (dCons (dOp oIx (dVar 0) (dC (.int 1))) dNil)) (dgName 2))
  (dRet (dCall bTuple (dCons (dLc (dRng1 (dCons (dVar 2) dNil)) (dgName 3) (dAnd (dTb (dOp (oIs true) (dOp oIx (dOp oIx (dVar 1) (dC (.int 0))) (dVar 3)) (dC .non))) (dTb (dOp (oCmp .lt) (dOp oIx (dOp oIx (dVar 1) (dC (.int 0))) (dVar 3)) (dCall bLen (dCons (dOp oIx (dOp oIx (dVar 0) (dC (.int 1))) (dVar 3)) dNil))))) (dVar 3) [3]) dNil))))
def f_32 : FnD := ⟨2, 4, b_32⟩
/- 33: _law_ending(program, state): 0 program 1 state 2 p -/
def b_33 (c : Nat → DF) : DSt :=
  (dRet (dTup (dCons (dCall bTuple (dCons (dLc (dRng1 (dCons (dOp oIx (dVar 0) (dC (.int 0))) dNil)) (dgName 2) dYes (dCall (c 27) (dCons (dOp oIx (dVar 1) (dC (.int 1))) (dCons (dVar 2) dNil))) [2]) dNil)) (dCons (dCall (c 32) (dCons (dVar 0) (dCons (dVar 1) dNil))) dNil))))
def f_33 : FnD := ⟨2, 3, b_33⟩
/- 34: _law_ending_key(outcome): 0 outcome 1 value -/
def b_34 (c : Nat → DF) : DSt :=
  (dRet (dTup (dCons (dLc (dIter (dOp oIx (dVar 0) (dC (.int 0)))) (dgName 1) dYes (dLst (dCons (dCall bInt (dCons (dOp (oIs true) (dVar 1) (dC .non)) dNil)) (dCons (dOp oIx (dLst (dCons (dVar 1) (dCons (dC (.int 0)) dNil))) (dCall bInt (dCons (dOp (oIs false) (dVar 1) (dC .non)) dNil))) dNil))) [1]) (dCons (dOp oIx (dVar 0) (dC (.int 1))) dNil))))
def f_34 : FnD := ⟨1, 2, b_34⟩
/- 35: _law_endings(program): 0 program 1 rows 2 row 3 outcome 4 other -/
def b_35 (c : Nat → DF) : DSt :=
  (dSeq (dAsg (dLst dNil) (dgName 1))
  (dSeq (dFor (dIter (dCall (c 31) (dCons (dVar 0) dNil))) (dgName 2) (dIf (dTb (dOp (oEq false) (dCall bLen (dCons (dCall (c 29) (dCons (dVar 0) (dCons (dOp oIx (dVar 2) (dC (.int 0))) dNil))) dNil)) (dC (.int 0)))) (dSeq (dAsg (dCall (c 33) (dCons (dVar 0) (dCons (dOp oIx (dVar 2) (dC (.int 0))) dNil))) (dgName 3))
      (dIf (dTb (dOp (oIn true) (dVar 3) (dLc (dIter (dVar 1)) (dgName 4) dYes (dOp oIx (dVar 4) (dC (.int 0))) [4]))) (dDrop (dBM okLst (mLst fAppend) (dVar 1) (dCons (dLst (dCons (dVar 3) (dCons (dOp oIx (dVar 2) (dC (.int 1))) dNil))) dNil))) dNext)) dNext))
  (dRet (dVar 1))))
def f_35 : FnD := ⟨1, 5, b_35⟩
/- 36: _law_set_of(draws, pool, most): 0 draws 1 pool 2 most 3 found 4 k 5 p -/
def b_36 (c : Nat → DF) : DSt :=
  (dSeq (dAsg (dLst dNil) (dgName 3))
  (dSeq (dFor (dRng1 (dCons (dCall (c 18) (dCons (dVar 0) (dCons (dOp oAdd (dVar 2) (dC (.int 1))) dNil))) dNil)) (dgName 4) (dSeq (dAsg (dCall (c 19) (dCons (dVar 0) (dCons (dVar 1) dNil))) (dgName 5))
    (dIf (dTb (dOp (oIn true) (dVar 5) (dVar 3))) (dDrop (dBM okLst (mLst fAppend) (dVar 3) (dCons (dVar 5) dNil))) dNext)))
  (dRet (dCall bTuple (dCons (dCall bSorted (dCons (dVar 3) dNil)) dNil)))))
def f_36 : FnD := ⟨3, 6, b_36⟩
/- 37: _law_deed(draws, pool, others): 0 draws 1 pool 2 others 3 kind -/
def b_37 (c : Nat → DF) : DSt :=
  (dSeq (dAsg (dCall (c 18) (dCons (dVar 0) (dCons (dC (.int 10)) dNil))) (dgName 3))
  (dSeq (dIf (dAnd (dTb (dOp (oEq false) (dVar 3) (dC (.int 0)))) (dTb (dOp (oCmp .gt) (dCall bLen (dCons (dVar 2) dNil)) (dC (.int 0))))) (dRet (dTup (dCons (dC (.str "start")) (dCons (dCall (c 19) (dCons (dVar 0) (dCons (dVar 2) dNil))) dNil)))) dNext)
  (dSeq (dIf (dTb (dOp (oCmp .lt) (dVar 3) (dC (.int 4)))) (dRet (dTup (dCons (dC (.str "wait")) (dCons (dCall (c 19) (dCons (dVar 0) (dCons (dVar 1) dNil))) dNil)))) dNext)
  (dSeq (dIf (dTb (dOp (oCmp .lt) (dVar 3) (dC (.int 6)))) (dRet (dTup (dCons (dC (.str "race")) (dCons (dCall (c 19) (dCons (dVar 0) (dCons (dVar 1) dNil))) (dCons (dCall bTuple (dCons (dCall (c 22) (dCons (dVar 0) (dCons (dVar 1) (dCons (dC (.int 2)) dNil)))) dNil)) dNil))))) dNext)
  (dRet (dTup (dCons (dC (.str "keep")) (dCons (dCall (c 19) (dCons (dVar 0) (dCons (dVar 1) dNil))) (dCons (dCall (c 25) (dCons (dVar 0) dNil)) (dCons (dCall (c 36) (dCons (dVar 0) (dCons (dVar 1) (dCons (dCall (c 18) (dCons (dVar 0) (dCons (dC (.int 3)) dNil))) dNil)))) dNil))))))))))
def f_37 : FnD := ⟨3, 4, b_37⟩
/- 38: _law_program(draws): 0 draws 1 many 2 pool 3 size 4 rest 5 first 6 t 7 extra 8 k 9 left 10 rows 11 others 12 other 13 deeds -/
def b_38 (c : Nat → DF) : DSt :=
  (dSeq (dAsg (dOp oAdd (dC (.int 1)) (dCall (c 18) (dCons (dVar 0) (dCons (dC (.int 8)) dNil)))) (dgName 1))
  (dSeq (dAsg (dCall (c 22) (dCons (dVar 0) (dCons (dLstRg (dRg1 (dVar 1))) (dCons (dC (.int 4)) dNil)))) (dgName 2))
  (dSeq (dAsg (dOp oAdd (dC (.int 1)) (dCall (c 18) (dCons (dVar 0) (dCons (dC (.int 4)) dNil)))) (dgName 3))
  (dSeq (dAsg (dLstRg (dRg2 (dC (.int 1)) (dVar 3))) (dgName 4))
  (dSeq (dAsg (dLst dNil) (dgName 5))
  (dSeq (dFor (dIter (dCall (c 21) (dCons (dVar 0) (dCons (dVar 4) dNil)))) (dgName 6) (dIf (dTb (dOp (oCmp .gt) (dCall (c 18) (dCons (dVar 0) (dCons (dC (.int 8)) dNil))) (dC (.int 0)))) (dDrop (dBM okLst (mLst fAppend) (dVar 5) (dCons (dTup (dCons (dC (.str "start")) (dCons (dVar 6) dNil))) dNil))) dNext))
  (dSeq (dAsg (dCall (c 18) (dCons (dVar 0) (dCons (dC (.int 3)) dNil))) (dgName 7))
  (dSeq (dFor (dRng1 (dCons (dVar 7) dNil)) (dgName 8) (dDrop (dBM okLst (mLst fInsert) (dVar 5) (dCons (dCall (c 18) (dCons (dVar 0) (dCons (dOp oAdd (dCall bLen (dCons (dVar 5) dNil)) (dC (.int 1))) dNil))) (dCons (dCall (c 37) (dCons (dVar 0) (dCons (dVar 2) (dCons (dVar 4) dNil)))) dNil)))))
  (dSeq (dAsg (dOp oSub (dC (.int 5)) (dVar 7)) (dgName 9))
  (dSeq (dAsg (dLst (dCons (dCall bTuple (dCons (dVar 5) dNil)) dNil)) (dgName 10))
  (dSeq (dFor (dIter (dVar 4)) (dgName 6) (dSeq (dAsg (dLc (dIter (dVar 4)) (dgName 12) (dTb (dOp (oEq true) (dVar 12) (dVar 6))) (dVar 12) [12]) (dgName 11))
    (dSeq (dAsg (dCall bMin2 (dCons (dVar 9) (dCons (dCall (c 19) (dCons (dVar 0) (dCons (dLst (dCons (dC (.int 0)) (dCons (dC (.int 1)) (dCons (dC (.int 1)) (dCons (dC (.int 2)) (dCons (dC (.int 2)) (dCons (dC (.int 2)) dNil))))))) dNil))) dNil))) (dgName 13))
    (dSeq (dAsg (dOp oSub (dVar 9) (dVar 13)) (dgName 9))
    (dDrop (dBM okLst (mLst fAppend) (dVar 10) (dCons (dCall bTuple (dCons (dLc (dRng1 (dCons (dVar 13) dNil)) (dgName 8) dYes (dCall (c 37) (dCons (dVar 0) (dCons (dVar 2) (dCons (dVar 11) dNil)))) [8]) dNil)) dNil)))))))
  (dRet (dTup (dCons (dVar 1) (dCons (dCall bTuple (dCons (dVar 10) dNil)) dNil)))))))))))))))
def f_38 : FnD := ⟨1, 14, b_38⟩
/- 39: _law_rival_program(draws): 0 draws 1 many 2 pool 3 size 4 first 5 t 6 rows 7 row -/
def b_39 (c : Nat → DF) : DSt :=
  (dSeq (dAsg (dOp oAdd (dC (.int 2)) (dCall (c 18) (dCons (dVar 0) (dCons (dC (.int 7)) dNil)))) (dgName 1))
  (dSeq (dAsg (dCall (c 22) (dCons (dVar 0) (dCons (dLstRg (dRg1 (dVar 1))) (dCons (dC (.int 3)) dNil)))) (dgName 2))
  (dSeq (dAsg (dOp oAdd (dC (.int 3)) (dCall bInt (dCons (dOp (oEq false) (dCall (c 18) (dCons (dVar 0) (dCons (dC (.int 3)) dNil))) (dC (.int 0))) dNil))) (dgName 3))
  (dSeq (dAsg (dLc (dIter (dCall (c 21) (dCons (dVar 0) (dCons (dLstRg (dRg2 (dC (.int 1)) (dVar 3))) dNil)))) (dgName 5) dYes (dTup (dCons (dC (.str "start")) (dCons (dVar 5) dNil))) [5]) (dgName 4))
  (dSeq (dIf (dTb (dOp (oEq false) (dCall (c 18) (dCons (dVar 0) (dCons (dC (.int 2)) dNil))) (dC (.int 0)))) (dDrop (dBM okLst (mLst fAppend) (dVar 4) (dCons (dTup (dCons (dC (.str "race")) (dCons (dCall (c 19) (dCons (dVar 0) (dCons (dVar 2) dNil))) (dCons (dCall bTuple (dCons (dCall (c 22) (dCons (dVar 0) (dCons (dVar 2) (dCons (dC (.int 2)) dNil)))) dNil)) dNil)))) dNil))) dNext)
  (dSeq (dAsg (dLst (dCons (dCall bTuple (dCons (dVar 4) dNil)) dNil)) (dgName 6))
  (dSeq (dFor (dRng2 (dCons (dC (.int 1)) (dCons (dVar 3) dNil))) (dgName 5) (dSeq (dAsg (dLst (dCons (dTup (dCons (dC (.str "keep")) (dCons (dCall (c 19) (dCons (dVar 0) (dCons (dVar 2) dNil))) (dCons (dCall (c 25) (dCons (dVar 0) dNil)) (dCons (dTup dNil) dNil))))) dNil)) (dgName 7))
    (dSeq (dIf (dAnd (dTb (dOp (oEq false) (dVar 3) (dC (.int 3)))) (dTb (dOp (oEq false) (dCall (c 18) (dCons (dVar 0) (dCons (dC (.int 2)) dNil))) (dC (.int 0))))) (dDrop (dBM okLst (mLst fAppend) (dVar 7) (dCons (dCall (c 37) (dCons (dVar 0) (dCons (dVar 2) (dCons (dLst dNil) dNil)))) dNil))) dNext)
    (dDrop (dBM okLst (mLst fAppend) (dVar 6) (dCons (dCall bTuple (dCons (dVar 7) dNil)) dNil))))))
  (dRet (dTup (dCons (dVar 1) (dCons (dCall bTuple (dCons (dVar 6) dNil)) dNil)))))))))))
def f_39 : FnD := ⟨1, 8, b_39⟩
/- 40: _law_any_program(draws): 0 draws -/
def b_40 (c : Nat → DF) : DSt :=
  (dSeq (dIf (dTb (dOp (oEq false) (dCall (c 18) (dCons (dVar 0) (dCons (dC (.int 3)) dNil))) (dC (.int 0)))) (dRet (dCall (c 39) (dCons (dVar 0) dNil))) dNext)
  (dRet (dCall (c 38) (dCons (dVar 0) dNil))))
def f_40 : FnD := ⟨1, 1, b_40⟩
/- 41: _law_changed_program(draws, program): 0 draws 1 program 2 many 3 rows 4 able 5 t 6 kind 7 k 8 deed 9 j -/
def b_41 (c : Nat → DF) : DSt :=
  (dSeq (dAsg (dVar 1) (dgTup 2 (dgCons (dgName 2) (dgCons (dgName 3) dgNil))))
  (dSeq (dAsg (dLc (dRng1 (dCons (dCall bLen (dCons (dVar 3) dNil)) dNil)) (dgName 5) (dTb (dOp (oCmp .gt) (dCall bLen (dCons (dOp oIx (dVar 3) (dVar 5)) dNil)) (dC (.int 0)))) (dVar 5) [5]) (dgName 4))
  (dSeq (dAsg (dCall (c 18) (dCons (dVar 0) (dCons (dC (.int 5)) dNil))) (dgName 6))
  (dSeq (dIf (dOr (dTb (dOp (oEq false) (dVar 6) (dC (.int 0)))) (dTb (dOp (oEq false) (dCall bLen (dCons (dVar 4) dNil)) (dC (.int 0))))) (dRet (dTup (dCons (dOp oAdd (dVar 2) (dC (.int 1))) (dCons (dVar 3) dNil)))) dNext)
  (dSeq (dAsg (dCall (c 19) (dCons (dVar 0) (dCons (dVar 4) dNil))) (dgName 5))
  (dSeq (dAsg (dCall (c 18) (dCons (dVar 0) (dCons (dCall bLen (dCons (dOp oIx (dVar 3) (dVar 5)) dNil)) dNil))) (dgName 7))
  (dSeq (dAsg (dOp oIx (dOp oIx (dVar 3) (dVar 5)) (dVar 7)) (dgName 8))
  (dSeq (dIf (dTb (dOp (oEq false) (dVar 6) (dC (.int 1)))) (dRet (dTup (dCons (dVar 2) (dCons (dCall (c 23) (dCons (dVar 3) (dCons (dVar 5) (dCons (dCall (c 24) (dCons (dOp oIx (dVar 3) (dVar 5)) (dCons (dVar 7) dNil))) dNil)))) dNil)))) dNext)
  (dSeq (dIf (dAnd (dTb (dOp (oEq false) (dVar 6) (dC (.int 2)))) (dTb (dOp (oCmp .gt) (dCall bLen (dCons (dOp oIx (dVar 3) (dVar 5)) dNil)) (dC (.int 1))))) (dSeq (dAsg (dCall (c 18) (dCons (dVar 0) (dCons (dCall bLen (dCons (dOp oIx (dVar 3) (dVar 5)) dNil)) dNil))) (dgName 9))
    (dRet (dTup (dCons (dVar 2) (dCons (dCall (c 23) (dCons (dVar 3) (dCons (dVar 5) (dCons (dCall (c 23) (dCons (dCall (c 23) (dCons (dOp oIx (dVar 3) (dVar 5)) (dCons (dVar 7) (dCons (dOp oIx (dOp oIx (dVar 3) (dVar 5)) (dVar 9)) dNil)))) (dCons (dVar 9) (dCons (dVar 8) dNil)))) dNil)))) dNil))))) dNext)
  (dSeq (dIf (dAnd (dTb (dOp (oEq false) (dOp oIx (dVar 8) (dC (.int 0))) (dC (.str "keep")))) (dTb (dOp (oEq false) (dVar 6) (dC (.int 3))))) (dRet (dTup (dCons (dVar 2) (dCons (dCall (c 23) (dCons (dVar 3) (dCons (dVar 5) (dCons (dCall (c 23) (dCons (dOp oIx (dVar 3) (dVar 5)) (dCons (dVar 7) (dCons (dTup (dCons (dC (.str "keep")) (dCons (dOp oIx (dVar 8) (dC (.int 1))) (dCons (dOp oAdd (dOp oIx (dVar 8) (dC (.int 2))) (dC (.int 1))) (dCons (dOp oIx (dVar 8) (dC (.int 3))) dNil))))) dNil)))) dNil)))) dNil)))) dNext)
  (dSeq (dIf (dOr (dTb (dOp (oEq false) (dOp oIx (dVar 8) (dC (.int 0))) (dC (.str "start")))) (dTb (dOp (oEq false) (dVar 2) (dC (.int 0))))) (dRet (dVar 1)) dNext)
  (dRet (dTup (dCons (dVar 2) (dCons (dCall (c 23) (dCons (dVar 3) (dCons (dVar 5) (dCons (dCall (c 23) (dCons (dOp oIx (dVar 3) (dVar 5)) (dCons (dVar 7) (dCons (dTup (dCons (dC (.str "wait")) (dCons (dCall (c 18) (dCons (dVar 0) (dCons (dVar 2) dNil))) dNil))) dNil)))) dNil)))) dNil)))))))))))))))
def f_41 : FnD := ⟨2, 10, b_41⟩
/- 42: _law_difference(program, other): 0 program 1 other 2 one 3 two 4 ones 5 row 6 twos 7 first 8 second 9 alone 10 least 11 found -/
def b_42 (c : Nat → DF) : DSt :=
  (dSeq (dAsg (dCall (c 35) (dCons (dVar 0) dNil)) (dgName 2))
  (dSeq (dAsg (dCall (c 35) (dCons (dVar 1) dNil)) (dgName 3))
  (dSeq (dAsg (dLc (dIter (dVar 2)) (dgName 5) dYes (dOp oIx (dVar 5) (dC (.int 0))) [5]) (dgName 4))
  (dSeq (dAsg (dLc (dIter (dVar 3)) (dgName 5) dYes (dOp oIx (dVar 5) (dC (.int 0))) [5]) (dgName 6))
  (dSeq (dAsg (dLc (dIter (dVar 2)) (dgName 5) (dTb (dOp (oIn true) (dOp oIx (dVar 5) (dC (.int 0))) (dVar 6))) (dVar 5) [5]) (dgName 7))
  (dSeq (dAsg (dLc (dIter (dVar 3)) (dgName 5) (dTb (dOp (oIn true) (dOp oIx (dVar 5) (dC (.int 0))) (dVar 4))) (dVar 5) [5]) (dgName 8))
  (dSeq (dAsg (dLc (dIter (dOp oAdd (dVar 7) (dVar 8))) (dgName 5) dYes (dTup (dCons (dCall (c 34) (dCons (dOp oIx (dVar 5) (dC (.int 0))) dNil)) (dCons (dOp oIx (dVar 5) (dC (.int 0))) (dCons (dOp oIx (dVar 5) (dC (.int 1))) dNil)))) [5]) (dgName 9))
  (dSeq (dIf (dTb (dOp (oEq false) (dCall bLen (dCons (dVar 9) dNil)) (dC (.int 0)))) (dRet (dC .non)) dNext)
  (dSeq (dAsg (dCall bMinD (dCons (dLc (dIter (dVar 9)) (dgName 5) dYes (dOp oIx (dVar 5) (dC (.int 0))) [5]) dNil)) (dgName 10))
  (dSeq (dAsg (dOp oIx (dLc (dIter (dVar 9)) (dgName 5) (dTb (dOp (oEq false) (dOp oIx (dVar 5) (dC (.int 0))) (dVar 10))) (dVar 5) [5]) (dC (.int 0))) (dgName 11))
  (dRet (dTup (dCons (dOp oIx (dVar 11) (dC (.int 1))) (dCons (dOp oIx (dVar 11) (dC (.int 2))) dNil))))))))))))))
def f_42 : FnD := ⟨2, 12, b_42⟩
/- 43: law(script): 0 script 1 draws 2 turn 3 program 4 other 5 due -/
def b_43 (c : Nat → DF) : DSt :=
  (dSeq (dAsg (dCall (c 17) (dCons (dVar 0) (dCons (dC (.int 700)) dNil))) (dgName 1))
  (dSeq (dFor (dRng1 (dCons (dC (.int 4)) dNil)) (dgName 2) (dSeq (dAsg (dCall (c 40) (dCons (dVar 1) dNil)) (dgName 3))
    (dSeq (dAsg (dCall (c 41) (dCons (dVar 1) (dCons (dVar 3) dNil))) (dgName 4))
    (dSeq (dIf (dTb (dOp (oEq false) (dCall (c 18) (dCons (dVar 1) (dCons (dC (.int 4)) dNil))) (dC (.int 0)))) (dAsg (dCall (c 40) (dCons (dVar 1) dNil)) (dgName 4)) dNext)
    (dSeq (dAsg (dCall (c 42) (dCons (dVar 3) (dCons (dVar 4) dNil))) (dgName 5))
    (dSeq (dIf (dNot (dTb (dCall (c 20) (dCons (dCall (c 16) (dCons (dVar 3) (dCons (dVar 4) dNil))) (dCons (dOp (oIs false) (dVar 5) (dC .non)) dNil))))) (dRet (dC (.bl false))) dNext)
    (dIf (dNot (dTb (dCall (c 20) (dCons (dCall (c 15) (dCons (dVar 3) (dCons (dVar 4) dNil))) (dCons (dVar 5) dNil))))) (dRet (dC (.bl false))) dNext)))))))
  (dRet (dAndV (dOp (oIs false) (dCall (c 16) (dCons (dVar 3) (dCons (dVar 3) dNil))) (dC (.bl true))) (dOp (oIs false) (dCall (c 15) (dCons (dVar 3) (dCons (dVar 3) dNil))) (dC .non))))))
def f_43 : FnD := ⟨1, 6, b_43⟩
def fs : Nat → FnD
  | 0 => f_0
  | 1 => f_1
  | 2 => f_2
  | 3 => f_3
  | 4 => f_4
  | 5 => f_5
  | 6 => f_6
  | 7 => f_7
  | 8 => f_8
  | 9 => f_9
  | 10 => f_10
  | 11 => f_11
  | 12 => f_12
  | 13 => f_13
  | 14 => f_14
  | 15 => f_15
  | 16 => f_16
  | 17 => f_17
  | 18 => f_18
  | 19 => f_19
  | 20 => f_20
  | 21 => f_21
  | 22 => f_22
  | 23 => f_23
  | 24 => f_24
  | 25 => f_25
  | 26 => f_26
  | 27 => f_27
  | 28 => f_28
  | 29 => f_29
  | 30 => f_30
  | 31 => f_31
  | 32 => f_32
  | 33 => f_33
  | 34 => f_34
  | 35 => f_35
  | 36 => f_36
  | 37 => f_37
  | 38 => f_38
  | 39 => f_39
  | 40 => f_40
  | 41 => f_41
  | 42 => f_42
  | 43 => f_43
  | _ => ⟨0, 0, fun _ => dNever⟩
theorem run_first_state {n : Nat} {a0 : D} {S : DS} {Q : DK} (h : b_0 (sem fs n) { nx := fun _ S' => Q .non S', rt := Q, bk := fun _ _ => False, ct := fun _ _ => False } [some a0, none] S) : sem fs (n + 1) 0 [a0] S Q := ⟨rfl, h⟩
theorem run_value_of {n : Nat} {a0 a1 : D} {S : DS} {Q : DK} (h : b_1 (sem fs n) { nx := fun _ S' => Q .non S', rt := Q, bk := fun _ _ => False, ct := fun _ _ => False } [some a0, some a1, none, none] S) : sem fs (n + 1) 1 [a0, a1] S Q := ⟨rfl, h⟩
theorem run_next_deed {n : Nat} {a0 a1 a2 : D} {S : DS} {Q : DK} (h : b_2 (sem fs n) { nx := fun _ S' => Q .non S', rt := Q, bk := fun _ _ => False, ct := fun _ _ => False } [some a0, some a1, some a2, none] S) : sem fs (n + 1) 2 [a0, a1, a2] S Q := ⟨rfl, h⟩
theorem run_can_be_done {n : Nat} {a0 a1 : D} {S : DS} {Q : DK} (h : b_3 (sem fs n) { nx := fun _ S' => Q .non S', rt := Q, bk := fun _ _ => False, ct := fun _ _ => False } [some a0, some a1, none] S) : sem fs (n + 1) 3 [a0, a1] S Q := ⟨rfl, h⟩
theorem run_ready_tasks {n : Nat} {a0 a1 : D} {S : DS} {Q : DK} (h : b_4 (sem fs n) { nx := fun _ S' => Q .non S', rt := Q, bk := fun _ _ => False, ct := fun _ _ => False } [some a0, some a1, none, none, none] S) : sem fs (n + 1) 4 [a0, a1] S Q := ⟨rfl, h⟩
theorem run_value_kept_by {n : Nat} {a0 a1 : D} {S : DS} {Q : DK} (h : b_5 (sem fs n) { nx := fun _ S' => Q .non S', rt := Q, bk := fun _ _ => False, ct := fun _ _ => False } [some a0, some a1, none, none] S) : sem fs (n + 1) 5 [a0, a1] S Q := ⟨rfl, h⟩
theorem run_stepped {n : Nat} {a0 a1 a2 : D} {S : DS} {Q : DK} (h : b_6 (sem fs n) { nx := fun _ S' => Q .non S', rt := Q, bk := fun _ _ => False, ct := fun _ _ => False } [some a0, some a1, some a2, none, none, none, none] S) : sem fs (n + 1) 6 [a0, a1, a2] S Q := ⟨rfl, h⟩
theorem run_stuck_at {n : Nat} {a0 a1 : D} {S : DS} {Q : DK} (h : b_7 (sem fs n) { nx := fun _ S' => Q .non S', rt := Q, bk := fun _ _ => False, ct := fun _ _ => False } [some a0, some a1, none] S) : sem fs (n + 1) 7 [a0, a1] S Q := ⟨rfl, h⟩
theorem run_values_at {n : Nat} {a0 a1 : D} {S : DS} {Q : DK} (h : b_8 (sem fs n) { nx := fun _ S' => Q .non S', rt := Q, bk := fun _ _ => False, ct := fun _ _ => False } [some a0, some a1, none] S) : sem fs (n + 1) 8 [a0, a1] S Q := ⟨rfl, h⟩
theorem run_ending_at {n : Nat} {a0 a1 : D} {S : DS} {Q : DK} (h : b_9 (sem fs n) { nx := fun _ S' => Q .non S', rt := Q, bk := fun _ _ => False, ct := fun _ _ => False } [some a0, some a1] S) : sem fs (n + 1) 9 [a0, a1] S Q := ⟨rfl, h⟩
theorem run_reached {n : Nat} {a0 : D} {S : DS} {Q : DK} (h : b_10 (sem fs n) { nx := fun _ S' => Q .non S', rt := Q, bk := fun _ _ => False, ct := fun _ _ => False } [some a0, none, none, none, none, none, none, none] S) : sem fs (n + 1) 10 [a0] S Q := ⟨rfl, h⟩
theorem run_way_to {n : Nat} {a0 a1 : D} {S : DS} {Q : DK} (h : b_11 (sem fs n) { nx := fun _ S' => Q .non S', rt := Q, bk := fun _ _ => False, ct := fun _ _ => False } [some a0, some a1, none, none] S) : sem fs (n + 1) 11 [a0, a1] S Q := ⟨rfl, h⟩
theorem run_full_states {n : Nat} {a0 a1 : D} {S : DS} {Q : DK} (h : b_12 (sem fs n) { nx := fun _ S' => Q .non S', rt := Q, bk := fun _ _ => False, ct := fun _ _ => False } [some a0, some a1, none] S) : sem fs (n + 1) 12 [a0, a1] S Q := ⟨rfl, h⟩
theorem run_ending_key {n : Nat} {a0 : D} {S : DS} {Q : DK} (h : b_13 (sem fs n) { nx := fun _ S' => Q .non S', rt := Q, bk := fun _ _ => False, ct := fun _ _ => False } [some a0, none, none, none] S) : sem fs (n + 1) 13 [a0] S Q := ⟨rfl, h⟩
theorem run_first_runs {n : Nat} {a0 : D} {S : DS} {Q : DK} (h : b_14 (sem fs n) { nx := fun _ S' => Q .non S', rt := Q, bk := fun _ _ => False, ct := fun _ _ => False } [some a0, none, none, none, none] S) : sem fs (n + 1) 14 [a0] S Q := ⟨rfl, h⟩
theorem run_first_difference {n : Nat} {a0 a1 : D} {S : DS} {Q : DK} (h : b_15 (sem fs n) { nx := fun _ S' => Q .non S', rt := Q, bk := fun _ _ => False, ct := fun _ _ => False } [some a0, some a1, none, none, none, none, none] S) : sem fs (n + 1) 15 [a0, a1] S Q := ⟨rfl, h⟩
theorem run_programs_alike {n : Nat} {a0 a1 : D} {S : DS} {Q : DK} (h : b_16 (sem fs n) { nx := fun _ S' => Q .non S', rt := Q, bk := fun _ _ => False, ct := fun _ _ => False } [some a0, some a1] S) : sem fs (n + 1) 16 [a0, a1] S Q := ⟨rfl, h⟩
theorem run__law_draws {n : Nat} {a0 a1 : D} {S : DS} {Q : DK} (h : b_17 (sem fs n) { nx := fun _ S' => Q .non S', rt := Q, bk := fun _ _ => False, ct := fun _ _ => False } [some a0, some a1, none, none, none, none, none, none, none] S) : sem fs (n + 1) 17 [a0, a1] S Q := ⟨rfl, h⟩
theorem run__law_take {n : Nat} {a0 a1 : D} {S : DS} {Q : DK} (h : b_18 (sem fs n) { nx := fun _ S' => Q .non S', rt := Q, bk := fun _ _ => False, ct := fun _ _ => False } [some a0, some a1] S) : sem fs (n + 1) 18 [a0, a1] S Q := ⟨rfl, h⟩
theorem run__law_pick {n : Nat} {a0 a1 : D} {S : DS} {Q : DK} (h : b_19 (sem fs n) { nx := fun _ S' => Q .non S', rt := Q, bk := fun _ _ => False, ct := fun _ _ => False } [some a0, some a1] S) : sem fs (n + 1) 19 [a0, a1] S Q := ⟨rfl, h⟩
theorem run__law_same {n : Nat} {a0 a1 : D} {S : DS} {Q : DK} (h : b_20 (sem fs n) { nx := fun _ S' => Q .non S', rt := Q, bk := fun _ _ => False, ct := fun _ _ => False } [some a0, some a1, none] S) : sem fs (n + 1) 20 [a0, a1] S Q := ⟨rfl, h⟩
theorem run__law_shuffled {n : Nat} {a0 a1 : D} {S : DS} {Q : DK} (h : b_21 (sem fs n) { nx := fun _ S' => Q .non S', rt := Q, bk := fun _ _ => False, ct := fun _ _ => False } [some a0, some a1, none, none, none] S) : sem fs (n + 1) 21 [a0, a1] S Q := ⟨rfl, h⟩
theorem run__law_some_of {n : Nat} {a0 a1 a2 : D} {S : DS} {Q : DK} (h : b_22 (sem fs n) { nx := fun _ S' => Q .non S', rt := Q, bk := fun _ _ => False, ct := fun _ _ => False } [some a0, some a1, some a2, none, none, none] S) : sem fs (n + 1) 22 [a0, a1, a2] S Q := ⟨rfl, h⟩
theorem run__law_put {n : Nat} {a0 a1 a2 : D} {S : DS} {Q : DK} (h : b_23 (sem fs n) { nx := fun _ S' => Q .non S', rt := Q, bk := fun _ _ => False, ct := fun _ _ => False } [some a0, some a1, some a2] S) : sem fs (n + 1) 23 [a0, a1, a2] S Q := ⟨rfl, h⟩
theorem run__law_without {n : Nat} {a0 a1 : D} {S : DS} {Q : DK} (h : b_24 (sem fs n) { nx := fun _ S' => Q .non S', rt := Q, bk := fun _ _ => False, ct := fun _ _ => False } [some a0, some a1] S) : sem fs (n + 1) 24 [a0, a1] S Q := ⟨rfl, h⟩
theorem run__law_number {n : Nat} {a0 : D} {S : DS} {Q : DK} (h : b_25 (sem fs n) { nx := fun _ S' => Q .non S', rt := Q, bk := fun _ _ => False, ct := fun _ _ => False } [some a0] S) : sem fs (n + 1) 25 [a0] S Q := ⟨rfl, h⟩
theorem run__law_start_state {n : Nat} {a0 : D} {S : DS} {Q : DK} (h : b_26 (sem fs n) { nx := fun _ S' => Q .non S', rt := Q, bk := fun _ _ => False, ct := fun _ _ => False } [some a0, none] S) : sem fs (n + 1) 26 [a0] S Q := ⟨rfl, h⟩
theorem run__law_worth {n : Nat} {a0 a1 : D} {S : DS} {Q : DK} (h : b_27 (sem fs n) { nx := fun _ S' => Q .non S', rt := Q, bk := fun _ _ => False, ct := fun _ _ => False } [some a0, some a1, none] S) : sem fs (n + 1) 27 [a0, a1] S Q := ⟨rfl, h⟩
theorem run__law_can {n : Nat} {a0 a1 a2 : D} {S : DS} {Q : DK} (h : b_28 (sem fs n) { nx := fun _ S' => Q .non S', rt := Q, bk := fun _ _ => False, ct := fun _ _ => False } [some a0, some a1, some a2, none, none, none, none, none] S) : sem fs (n + 1) 28 [a0, a1, a2] S Q := ⟨rfl, h⟩
theorem run__law_ready {n : Nat} {a0 a1 : D} {S : DS} {Q : DK} (h : b_29 (sem fs n) { nx := fun _ S' => Q .non S', rt := Q, bk := fun _ _ => False, ct := fun _ _ => False } [some a0, some a1, none] S) : sem fs (n + 1) 29 [a0, a1] S Q := ⟨rfl, h⟩
theorem run__law_step {n : Nat} {a0 a1 a2 : D} {S : DS} {Q : DK} (h : b_30 (sem fs n) { nx := fun _ S' => Q .non S', rt := Q, bk := fun _ _ => False, ct := fun _ _ => False } [some a0, some a1, some a2, none, none, none, none, none, none] S) : sem fs (n + 1) 30 [a0, a1, a2] S Q := ⟨rfl, h⟩
theorem run__law_explored {n : Nat} {a0 : D} {S : DS} {Q : DK} (h : b_31 (sem fs n) { nx := fun _ S' => Q .non S', rt := Q, bk := fun _ _ => False, ct := fun _ _ => False } [some a0, none, none, none, none, none, none, none] S) : sem fs (n + 1) 31 [a0] S Q := ⟨rfl, h⟩
theorem run__law_stuck_at {n : Nat} {a0 a1 : D} {S : DS} {Q : DK} (h : b_32 (sem fs n) { nx := fun _ S' => Q .non S', rt := Q, bk := fun _ _ => False, ct := fun _ _ => False } [some a0, some a1, none, none] S) : sem fs (n + 1) 32 [a0, a1] S Q := ⟨rfl, h⟩
theorem run__law_ending {n : Nat} {a0 a1 : D} {S : DS} {Q : DK} (h : b_33 (sem fs n) { nx := fun _ S' => Q .non S', rt := Q, bk := fun _ _ => False, ct := fun _ _ => False } [some a0, some a1, none] S) : sem fs (n + 1) 33 [a0, a1] S Q := ⟨rfl, h⟩
theorem run__law_ending_key {n : Nat} {a0 : D} {S : DS} {Q : DK} (h : b_34 (sem fs n) { nx := fun _ S' => Q .non S', rt := Q, bk := fun _ _ => False, ct := fun _ _ => False } [some a0, none] S) : sem fs (n + 1) 34 [a0] S Q := ⟨rfl, h⟩
theorem run__law_endings {n : Nat} {a0 : D} {S : DS} {Q : DK} (h : b_35 (sem fs n) { nx := fun _ S' => Q .non S', rt := Q, bk := fun _ _ => False, ct := fun _ _ => False } [some a0, none, none, none, none] S) : sem fs (n + 1) 35 [a0] S Q := ⟨rfl, h⟩
theorem run__law_set_of {n : Nat} {a0 a1 a2 : D} {S : DS} {Q : DK} (h : b_36 (sem fs n) { nx := fun _ S' => Q .non S', rt := Q, bk := fun _ _ => False, ct := fun _ _ => False } [some a0, some a1, some a2, none, none, none] S) : sem fs (n + 1) 36 [a0, a1, a2] S Q := ⟨rfl, h⟩
theorem run__law_deed {n : Nat} {a0 a1 a2 : D} {S : DS} {Q : DK} (h : b_37 (sem fs n) { nx := fun _ S' => Q .non S', rt := Q, bk := fun _ _ => False, ct := fun _ _ => False } [some a0, some a1, some a2, none] S) : sem fs (n + 1) 37 [a0, a1, a2] S Q := ⟨rfl, h⟩
theorem run__law_program {n : Nat} {a0 : D} {S : DS} {Q : DK} (h : b_38 (sem fs n) { nx := fun _ S' => Q .non S', rt := Q, bk := fun _ _ => False, ct := fun _ _ => False } [some a0, none, none, none, none, none, none, none, none, none, none, none, none, none] S) : sem fs (n + 1) 38 [a0] S Q := ⟨rfl, h⟩
theorem run__law_rival_program {n : Nat} {a0 : D} {S : DS} {Q : DK} (h : b_39 (sem fs n) { nx := fun _ S' => Q .non S', rt := Q, bk := fun _ _ => False, ct := fun _ _ => False } [some a0, none, none, none, none, none, none, none] S) : sem fs (n + 1) 39 [a0] S Q := ⟨rfl, h⟩
theorem run__law_any_program {n : Nat} {a0 : D} {S : DS} {Q : DK} (h : b_40 (sem fs n) { nx := fun _ S' => Q .non S', rt := Q, bk := fun _ _ => False, ct := fun _ _ => False } [some a0] S) : sem fs (n + 1) 40 [a0] S Q := ⟨rfl, h⟩
theorem run__law_changed_program {n : Nat} {a0 a1 : D} {S : DS} {Q : DK} (h : b_41 (sem fs n) { nx := fun _ S' => Q .non S', rt := Q, bk := fun _ _ => False, ct := fun _ _ => False } [some a0, some a1, none, none, none, none, none, none, none, none] S) : sem fs (n + 1) 41 [a0, a1] S Q := ⟨rfl, h⟩
theorem run__law_difference {n : Nat} {a0 a1 : D} {S : DS} {Q : DK} (h : b_42 (sem fs n) { nx := fun _ S' => Q .non S', rt := Q, bk := fun _ _ => False, ct := fun _ _ => False } [some a0, some a1, none, none, none, none, none, none, none, none, none, none] S) : sem fs (n + 1) 42 [a0, a1] S Q := ⟨rfl, h⟩
theorem run_law {n : Nat} {a0 : D} {S : DS} {Q : DK} (h : b_43 (sem fs n) { nx := fun _ S' => Q .non S', rt := Q, bk := fun _ _ => False, ct := fun _ _ => False } [some a0, none, none, none, none, none] S) : sem fs (n + 1) 43 [a0] S Q := ⟨rfl, h⟩
end Gk40
namespace Gk40
open PySem L2 DL
local macro_rules | `(tactic| walk_at "look") => `(tactic| first | assumption | exact dupd_same | ((with_reducible refine Ext.get (by assumption) ?_); walk_at "look") | ((with_reducible refine But.get (by assumption) ?_ ?_); walk_at "neq"; walk_at "look"))
local macro_rules | `(tactic| walk_at "neq") => `(tactic| first | assumption | (refine Ne.symm ?_; assumption) | (refine dne ?_ (by assumption); walk_at "look"; done) | (refine Ne.symm (dne ?_ (by assumption)); walk_at "look"; done))
local macro_rules | `(tactic| walk_at "fresh") => `(tactic| first | assumption | (refine Ext.back ?_ (by assumption); walk_at "ext"; done) | (refine But.back ?_ ?_ (by assumption); rotate_left; walk_at "neq"; walk_at "but"; done))
local macro_rules | `(tactic| walk_at "ext") => `(tactic| first | assumption | exact Ext.refl _ | ((with_reducible refine Ext.trans ?_ (by assumption)); walk_at "ext"; done) | ((with_reducible refine Ext.but ?_ (by assumption) ?_); rotate_left; walk_at "fresh"; walk_at "ext"; done))
local macro_rules | `(tactic| walk_at "but") => `(tactic| first | assumption | ((with_reducible refine But.ext ?_ (by assumption)); walk_at "but"; done) | ((with_reducible refine But.trans ?_ (by assumption)); walk_at "but"; done) | ((with_reducible refine But.but ?_ (by assumption) ?_); rotate_left; walk_at "fresh"; walk_at "but"; done) | (refine Ext.toBut ?_; walk_at "ext"; done))
local macro_rules | `(tactic| walk_at "d") => `(tactic| first
  | (with_reducible refine i_seq ?_)
  | (with_reducible refine i_asg ?_)
  | ((with_reducible refine' i_var ?e ?_); (case e => rfl))
  | (with_reducible refine i_c ?_)
  | (with_reducible refine i_cons ?_)
  | (with_reducible refine i_nil ?_)
  | ((with_reducible refine i_tup ?_))
  | ((with_reducible refine' i_len ?e ?_); (case e => exact rfl))
  | (with_reducible refine i_lst ?_)
  | (with_reducible refine i_op ?_)
  | (with_reducible refine i_un ?_)
  | (with_reducible refine i_tb ?_)
  | (with_reducible refine i_asB ?_)
  | (with_reducible refine i_call ?_)
  | (with_reducible refine i_bm ?_)
  | (with_reducible refine i_if ?_)
  | (with_reducible refine i_ret ?_)
  | (with_reducible refine i_next ?_)
  | (with_reducible refine i_drop ?_)
  | ((with_reducible refine' i_gname ?e ?_); (case e => (simp only [dwipe, List.set_cons_zero, List.set_cons_succ, List.set_nil]; exact rfl)))
  | ((with_reducible refine i_gtup ?e ?_); (case e => rfl))
  | (with_reducible refine i_gcons ?_)
  | (with_reducible refine i_gnil ?_)
  | (with_reducible refine i_gsub ?_)
  | (with_reducible refine i_and ?_)
  | (with_reducible refine i_or ?_)
  | (with_reducible refine i_not ?_)
  | (with_reducible refine i_andV ?_)
  | (with_reducible refine i_orV ?_)
  | (with_reducible refine i_notV ?_)
  | (with_reducible refine i_ifE ?_)
  | (with_reducible refine i_chain ?_)
  | (with_reducible refine i_sl ?_)
  | (with_reducible refine i_noPart ?_)
  | (with_reducible refine i_part ?_)
  | (with_reducible refine i_asP ?_)
  | (with_reducible refine i_yes ?_)
  | (with_reducible refine i_break ?_)
  | (with_reducible refine i_cont ?_)
  | (with_reducible refine i_retN ?_)
  | (with_reducible refine i_par ?_)
  | ((with_reducible refine' i_par2 ?e ?_); (case e => (simp only [List.set_cons_zero, List.set_cons_succ, List.set_nil]; exact rfl)))
  | ((with_reducible refine' i_aug ?e ?_); (case e => rfl))
  | (with_reducible refine i_augS ?_)
  | (with_reducible refine i_for ?_)
  | ((with_reducible refine' i_lc ?e ?_); (case e => (simp only [dwipe, List.set_cons_zero, List.set_cons_succ, List.set_nil]; exact rfl)))
  | ((with_reducible refine' i_lc2 ?e ?_); (case e => (simp only [dwipe, List.set_cons_zero, List.set_cons_succ, List.set_nil]; exact rfl)))
  | (with_reducible refine i_iter ?_)
  | (with_reducible refine i_iterV_tup ?_)
  | (with_reducible refine i_iterV_fl ?_)
  | ((with_reducible refine' i_iterV_ref ?e ?_); (case e => (walk_at "look"; done)))
  | (with_reducible refine i_rng1 ?_)
  | (with_reducible refine i_rng2 ?_)
  | (with_reducible refine i_rev ?_)
  | (with_reducible refine i_enum ?_)
  | (with_reducible refine i_rg1 ?_)
  | (with_reducible refine i_rg1V ?_)
  | (with_reducible refine i_rg2 ?_)
  | (with_reducible refine i_rg2V ?_)
  | (with_reducible refine i_lstRg ?_)
  | (with_reducible refine i_tupRg ?_)
  | (with_reducible refine i_revR ?_)
  | (with_reducible refine i_rng3 ?_)
  | (with_reducible refine i_zip ?_)
  | (with_reducible refine i_zipT ?_)
  | (with_reducible refine i_rvS ?_)
  | (with_reducible refine i_rvT ?_)
  | (with_reducible refine i_rvF ?_)
  | ((with_reducible refine' i_rvL ?e ?_); (case e => (walk_at "look"; done)))
  | (with_reducible refine o_addI ?_)
  | (with_reducible refine o_subI ?_)
  | (with_reducible refine o_neg ?_)
  | (with_reducible refine o_ltI ?_)
  | (with_reducible refine o_leI ?_)
  | (with_reducible refine o_gtI ?_)
  | (with_reducible refine o_geI ?_)
  | (with_reducible refine o_eqI ?_)
  | (with_reducible refine o_neI ?_)
  | (with_reducible refine o_eqS ?_)
  | (with_reducible refine o_neS ?_)
  | (with_reducible refine o_eqB ?_)
  | (with_reducible refine o_neB ?_)
  | (with_reducible refine o_is ?_)
  | (with_reducible refine o_isnot ?_)
  | (with_reducible refine o_isBl ?_)
  | (with_reducible refine o_notBl ?_)
  | (with_reducible refine o_bitI ?_)
  | (with_reducible refine o_slT ?_)
  | (with_reducible refine o_slF ?_)
  | ((with_reducible refine' o_slL ?e ?_); (case e => (walk_at "look"; done)))
  | (with_reducible refine c_lenT ?_)
  | (with_reducible refine c_lenF ?_)
  | ((with_reducible refine' c_lenL ?e ?_); (case e => (walk_at "look"; done)))
  | (with_reducible refine c_int ?_)
  | (with_reducible refine c_intB ?_)
  | (with_reducible refine c_abs ?_)
  | (with_reducible refine c_max2 ?_)
  | (with_reducible refine c_min2 ?_)
  | (with_reducible refine c_listT ?_)
  | (with_reducible refine c_listF ?_)
  | ((with_reducible refine' c_listL ?e ?_); (case e => (walk_at "look"; done)))
  | (with_reducible refine c_tupleT ?_)
  | (with_reducible refine c_tupleF ?_)
  | ((with_reducible refine' c_tupleL ?e ?_); (case e => (walk_at "look"; done)))
  | ((with_reducible refine' ok_L ?e ?_); (case e => (walk_at "look"; done)))
  | (with_reducible refine ok_S ?_)
  | (with_reducible refine ite_t ?_)
  | (with_reducible refine ite_f ?_)
  | (with_reducible refine ite_nt ?_)
  | (with_reducible refine ite_nf ?_))
local macro_rules | `(tactic| walk_at "e") => `(tactic| first
  | (walk_at "d")
  | (with_reducible refine i_dct0 ?_)
  | (with_reducible refine i_enumT ?_)
  | (with_reducible refine i_orT ?_)
  | ((with_reducible refine' i_dc ?e ?_); (case e => (simp only [dwipe, List.set_cons_zero, List.set_cons_succ, List.set_nil]; exact rfl)))
  | (with_reducible refine i_dct1 ?_)
  | (with_reducible refine i_sortK ?_)
  | (with_reducible refine i_minK ?_)
  | (with_reducible refine i_items ?_)
  | (with_reducible refine i_vals ?_)
  | ((with_reducible refine' i_gtupL ?e0 ?e ?_); (case e0 => (walk_at "look"; done)); (case e => rfl))
  | (walk_at "lit")
  | (walk_at "call"))
local macro_rules | `(tactic| walk_at "lit") => `(tactic| first
  | ((with_reducible refine' ite_yes ?e ?_); (case e => (with_reducible rfl)))
  | ((with_reducible refine' ite_nyes ?e ?_); (case e => (with_reducible rfl)))
  | ((with_reducible refine' ite_no ?e ?_); (case e => (decide +kernel)))
  | ((with_reducible refine' ite_nno ?e ?_); (case e => (decide +kernel)))
  | ((with_reducible refine' o_ixT ?e ?_); (case e => (exact rfl))))
local macro_rules | `(tactic| walk_at "call") => `(tactic| fail "no call")
local macro_rules | `(tactic| walk_at "w") => `(tactic| first
  | (walk_at "e")
  | (with_reducible refine i_newL (fun _ _ _ _ _ => ?_))
  | (with_reducible refine i_putL (fun _ _ _ => ?_))
  | (with_reducible refine i_newT (fun _ _ _ _ _ _ => ?_))
  | (with_reducible refine i_putD (fun _ _ _ _ => ?_)))
local macro_rules | `(tactic| walk_at "s") => `(tactic| ((fail_if_success (with_reducible refine i_seqJ (fun _ _ => True) ?_ ?_)); walk_at "e"))
def Drw (S : DS) (d : Addr) : Prop := ∃ ns : List Int, S d = some (.lst (ns.map D.int)) ∧ ns.length ≤ 1000000
theorem Drw.ext {S S' : DS} {d : Addr} (h : Drw S d) (e : Ext S S') : Drw S' d := let ⟨ns, h1, h2⟩ := h; ⟨ns, e _ _ h1, h2⟩
theorem Drw.but {S S' : DS} {d p : Addr} (h : Drw S d) (e : But p S S') (n : d ≠ p) : Drw S' d := let ⟨ns, h1, h2⟩ := h; ⟨ns, e _ _ n h1, h2⟩
theorem Drw.ne {S : DS} {d p : Addr} (h : Drw S d) (e : S p = none) : d ≠ p := let ⟨ns, h1, h2⟩ := h; dne h1 e
theorem Drw.ne' {S : DS} {d p : Addr} (h : Drw S d) (e : S p = none) : p ≠ d := (h.ne e).symm
theorem But.refl (d : Addr) (S : DS) : But d S S := fun _ _ _ h => h
theorem atI_some {α : Type} {xs : List α} {k : Int} (h0 : 0 ≤ k) (h1 : k < (xs.length : Int)) : ∃ v, L2.atI xs k = some v ∧ v ∈ xs ∧ xs[k.toNat]? = some v := by
  have hk : k.toNat < xs.length := by omega
  have e : k = ((k.toNat : Nat) : Int) := by omega
  have := L2.atI_nat (List.getElem?_eq_getElem hk)
  rw [← e] at this
  exact ⟨xs[k.toNat], this, List.getElem_mem hk, List.getElem?_eq_getElem hk⟩
theorem atI_at {α : Type} {xs : List α} {j : Nat} {k : Int} {v : α} (e : k = (j : Int)) (h : xs[j]? = some v) : L2.atI xs k = some v := by subst e; exact L2.atI_nat h
theorem ixN_at {n j : Nat} {k : Int} (e : k = (j : Int)) (h : j < n) : ixN n k = some j := by
  subst e; unfold ixN; rw [if_pos (by omega), if_pos (by omega)]; simp
theorem rng_at {lo : Int} {n m : Nat} {x : D} (h : (rngL lo n)[m]? = some x) : x = .int (lo + (m : Int)) ∧ m < n := by
  unfold rngL at h
  rw [List.getElem?_map] at h
  by_cases hm : m < n
  · rw [List.getElem?_range hm] at h; exact ⟨(Option.some.inj h).symm, hm⟩
  · rw [List.getElem?_eq_none (by rw [List.length_range]; omega)] at h; cases h
theorem rng_len {lo : Int} {n : Nat} : (rngL lo n).length = n := by unfold rngL; rw [List.length_map, List.length_range]
theorem log2_lt {z : Nat} {k : Nat} (hz : z < 2 ^ k) : z.log2 ≤ k := by
  by_cases h0 : z = 0
  · subst h0; rw [Nat.log2_zero]; exact Nat.zero_le _
  · exact Nat.le_of_lt ((Nat.log2_lt h0).mpr hz)
theorem lt_log {x y : Int} (hx : x.natAbs < 2 ^ 9000) (hy : y.natAbs < 2 ^ 9000) : x.natAbs.log2 + y.natAbs.log2 < 1000000 := by
  have := log2_lt hx
  have := log2_lt hy
  omega
def Pl : Nat → D → Prop
  | 0, _ => False
  | m + 1, d => match d with
    | .non => True
    | .bl _ => True
    | .int _ => True
    | .str _ => True
    | .tup xs => xs.length ≤ 16777216 ∧ ∀ x ∈ xs, Pl m x
    | _ => False
theorem Pl.up {m : Nat} {d : D} (h : Pl m d) : Pl (m + 1) d := by
  induction m generalizing d with
  | zero => exact h.elim
  | succ m ih =>
    cases d with
    | tup xs => exact ⟨h.1, fun x hx => ih (h.2 x hx)⟩
    | non => trivial
    | bl b => trivial
    | int b => trivial
    | str b => trivial
    | _ => exact h.elim
theorem Pl.int {m : Nat} {i : Int} : Pl (m + 1) (.int i) := True.intro
theorem Pl.str {m : Nat} {i : Str} : Pl (m + 1) (.str i) := True.intro
theorem Pl.bl {m : Nat} {i : Bool} : Pl (m + 1) (.bl i) := True.intro
theorem Pl.non {m : Nat} : Pl (m + 1) .non := True.intro
theorem Pl.tup {m : Nat} {xs : List D} (hl : xs.length ≤ 16777216) (h : ∀ x ∈ xs, Pl m x) : Pl (m + 1) (.tup xs) := ⟨hl, h⟩
theorem pow_le {a b : Nat} (h : a ≤ b) : (2 : Nat) ^ a ≤ 2 ^ b := Nat.pow_le_pow_right (by decide) h
/-- a comprehension over what stands in a list: what each item gives -/
theorem lc_fm {α : Type} {xs : List α} {ex : α → D} (f : α → Option D) (J : DS → Prop) {stay : DS → Prop} {g : DG} {t : DT} {a : DE} {δ : DL.Loc} {KK : List D → DS → Prop} {S : DS} (hl : xs.length ≤ 16777216) (h0 : J S) (hst : ∀ S, J S → stay S)
    (turn : ∀ x ∈ xs, ∀ (acc : List D) S (nx : List D → DS → Prop), acc.length < 16777216 → J S → (∀ S', J S' → nx (acc ++ (f x).toList) S') → g (ex x) δ S fun δ2 S2 => t δ2 S2 fun b S3 => if b = true then a δ2 S3 fun y S4 => acc.length < 16777216 ∧ nx (acc ++ [y]) S4 else nx acc S3)
    (done : ∀ S, J S → KK (xs.filterMap f) S) : lcT stay g t a δ KK (xs.map ex) [] S := by
  refine lc_inv (fun m acc S => acc = (xs.take m).filterMap f ∧ J S) ⟨rfl, h0⟩ (fun m acc S _ p => hst S p.2) (fun m x acc S nx hx hm p hnx => ?_) (fun acc S p => ?_)
  · obtain ⟨rfl, hJ⟩ := p
    rw [List.getElem?_map] at hx
    rw [List.length_map] at hm
    cases e : xs[m]? with
    | none => rw [e] at hx; cases hx
    | some z =>
      rw [e] at hx
      obtain rfl := (Option.some.inj hx).symm
      have hlen : ((xs.take m).filterMap f).length ≤ m := Nat.le_trans (List.length_filterMap_le ..) (List.length_take_le ..)
      refine turn z (List.mem_of_getElem? e) _ S nx (by omega) hJ fun S' hJ' => hnx _ S' ⟨?_, hJ'⟩
      rw [List.take_add_one, e, List.filterMap_append]
      cases hf : f z with
      | none => simp [hf]
      | some y => simp [hf]
  · obtain ⟨rfl, hJ⟩ := p
    rw [List.length_map, List.take_length]
    exact done S hJ
theorem lc_map {α : Type} {xs : List α} {ex : α → D} (f : α → D) (J : DS → Prop) {stay : DS → Prop} {g : DG} {t : DT} {a : DE} {δ : DL.Loc} {KK : List D → DS → Prop} {S : DS} (hl : xs.length ≤ 16777216) (h0 : J S) (hst : ∀ S, J S → stay S)
    (turn : ∀ x ∈ xs, ∀ (acc : List D) S (nx : List D → DS → Prop), acc.length < 16777216 → J S → (∀ S', J S' → nx (acc ++ [f x]) S') → g (ex x) δ S fun δ2 S2 => t δ2 S2 fun b S3 => if b = true then a δ2 S3 fun y S4 => acc.length < 16777216 ∧ nx (acc ++ [y]) S4 else nx acc S3)
    (done : ∀ S, J S → KK (xs.map f) S) : lcT stay g t a δ KK (xs.map ex) [] S :=
  lc_fm (fun x => some (f x)) J hl h0 hst (fun x hx acc S nx hacc hJ hnx => turn x hx acc S nx hacc hJ hnx) fun S hJ => by
    rw [show xs.filterMap (fun x => some (f x)) = xs.map f from congrFun List.filterMap_eq_map xs]
    exact done S hJ
theorem rng_map {lo : Int} {n : Nat} : rngL lo n = (List.range n).map fun (i : Nat) => D.int (lo + (i : Int)) := rfl
theorem lst_map_at {α : Type} {xs : List α} {f : α → D} {j : Nat} {k : Int} {x : α} (e : k = (j : Int)) (h : xs[j]? = some x) : L2.atI (xs.map f) k = some (f x) := atI_at e (by rw [List.getElem?_map, h]; rfl)
theorem map_at {α : Type} {xs : List α} {f : α → D} {j : Nat} {y : D} (h : (xs.map f)[j]? = some y) : ∃ x, xs[j]? = some x ∧ y = f x := by
  rw [List.getElem?_map] at h
  cases e : xs[j]? with
  | none => rw [e] at h; cases h
  | some x => rw [e] at h; exact ⟨x, rfl, (Option.some.inj h).symm⟩
theorem take_succ' {α : Type} {xs : List α} {j : Nat} {x : α} (h : xs[j]? = some x) : xs.take (j + 1) = xs.take j ++ [x] := by
  rw [List.take_add_one, h]; rfl
theorem o_addV {k l m : Int} (h : k + l = m) {S : DS} {Q : DK} (hq : Q (.int m) S) : oAdd (.int k) (.int l) S Q := by
  show Q (.int (k + l)) S
  rw [h]; exact hq
theorem take_spec {n : Nat} {S : DS} {d : Addr} {m : Int} {Q : DK} (hd : Drw S d) (hm : 0 < m) (h : ∀ k S', 0 ≤ k → k < m → But d S S' → Drw S' d → Q (.int k) S') : sem fs (n + 1) 18 [.ref d, .int m] S Q := by
  obtain ⟨ns, h1, h2⟩ := hd
  refine run__law_take ?_
  unfold b_18
  repeat walk_at "d"
  refine ite_dec (fun c => ?_) (fun c => ?_)
  · repeat walk_at "d"
    exact h 0 S (Int.le_refl 0) hm (But.refl _ _) ⟨ns, h1, h2⟩
  · rcases List.eq_nil_or_concat ns with e | ⟨ms, v, e⟩
    · subst e; exact absurd rfl c
    · subst e
      rw [List.concat_eq_append, List.map_append] at h1
      rw [List.concat_eq_append, List.length_append] at h2
      repeat walk_at "d"
      refine m_pop h1 (by rw [List.length_map]; omega) (i_putL fun S1 e1 b1 => ?_)
      repeat walk_at "d"
      exact o_modI hm (h _ S1 (Int.emod_nonneg _ (by omega)) (Int.emod_lt_of_pos _ hm) b1 ⟨ms, e1, by omega⟩)
theorem pick_spec {n : Nat} {S : DS} {d r : Addr} {xs : List D} {Q : DK} (hd : Drw S d) (hr : S r = some (.lst xs)) (hn : xs ≠ []) (hne : r ≠ d) (h : ∀ v S', v ∈ xs → But d S S' → Drw S' d → Q v S') : sem fs (n + 2) 19 [.ref d, .ref r] S Q := by
  refine run__law_pick ?_
  unfold b_19
  repeat walk_at "d"
  have hl : 0 < (xs.length : Int) := by
    cases xs with
    | nil => exact absurd rfl hn
    | cons a b => simp only [List.length_cons]; omega
  refine take_spec hd hl fun k S1 h0 h1 b1 d1 => ?_
  obtain ⟨v, e, hv, _⟩ := atI_some h0 h1
  exact o_ixL (b1.get hne hr) e (h v S1 hv b1 d1)
theorem pickT_spec {n : Nat} {S : DS} {d : Addr} {xs : List D} {Q : DK} (hd : Drw S d) (hn : xs ≠ []) (h : ∀ v S', v ∈ xs → But d S S' → Drw S' d → Q v S') : sem fs (n + 2) 19 [.ref d, .tup xs] S Q := by
  refine run__law_pick ?_
  unfold b_19
  repeat walk_at "d"
  have hl : 0 < (xs.length : Int) := by
    cases xs with
    | nil => exact absurd rfl hn
    | cons a b => simp only [List.length_cons]; omega
  refine take_spec hd hl fun k S1 h0 h1 b1 d1 => ?_
  obtain ⟨v, e, hv, _⟩ := atI_some h0 h1
  exact o_ixT e (h v S1 hv b1 d1)
theorem draws_spec {n : Nat} {S : DS} {ns : List Int} {m : Int} {Q : DK} (hm : 0 ≤ m ∧ m ≤ 1000000) (h : ∀ p S', Ext S S' → S p = none → Drw S' p → Q (.ref p) S') : sem fs (n + 1) 17 [.fl (ns.map D.int), .int m] S Q := by
  refine run__law_draws ?_
  unfold b_17
  repeat walk_at "d"
  refine i_newL fun p0 S0 n0 e0 x0 => ?_
  repeat walk_at "d"
  refine lc_inv (fun j acc S1 => (∃ cs : List Int, acc = cs.map D.int ∧ cs.length = j ∧ ∀ c ∈ cs, 0 ≤ c ∧ c < 2 ^ 7200) ∧ Ext S S1 ∧ S1 p0 = some (.lst (dcut (ns.map D.int) none (some 63)))) ⟨⟨[], rfl, rfl, fun c h => by cases h⟩, x0, e0⟩ (fun j acc S1 hj p => seq_ref p.2.2) (fun j x acc S1 nx hx hj p hnx => ?_) (fun acc S1 p => ?_)
  · obtain ⟨⟨cs, rfl, hl, hc⟩, x1, e1⟩ := p
    have hxm := List.mem_of_getElem? hx
    have hxi : ∃ v, x = D.int v := by
      unfold dcut at hxm
      have := List.mem_of_mem_drop (List.mem_of_mem_take hxm)
      obtain ⟨v, _, q⟩ := List.mem_map.mp this
      exact ⟨v, q.symm⟩
    obtain ⟨v, rfl⟩ := hxi
    have hlen : (dcut (ns.map D.int) none (some 63)).length ≤ 63 := by
      unfold dcut
      rw [List.length_take]
      refine Nat.le_trans (Nat.min_le_left _ _) (Nat.le_trans (Nat.sub_le _ _) ?_)
      exact Nat.min_le_left _ _
    repeat walk_at "d"
    refine o_shlI (by decide) ?_
    repeat walk_at "d"
    have hpos : (0 : Int) < 1 * 2 ^ 7200 := by rw [Int.one_mul]; exact Int.pow_pos (by decide)
    refine o_modI hpos ⟨by rw [List.length_map]; omega, hnx _ _ ⟨⟨cs ++ [v % (1 * 2 ^ 7200)], by rw [List.map_append]; rfl, by rw [List.length_append, hl]; rfl, fun c hc' => ?_⟩, x1, e1⟩⟩
    rcases List.mem_append.mp hc' with q | q
    · exact hc c q
    · rw [List.mem_singleton.mp q]
      exact ⟨Int.emod_nonneg _ (by omega), Int.lt_of_lt_of_le (Int.emod_lt_of_pos _ hpos) (Int.le_of_eq (Int.one_mul _))⟩
  · obtain ⟨⟨cs, rfl, hl, hc⟩, x1, e1⟩ := p
    have hlen : (dcut (ns.map D.int) none (some 63)).length ≤ 63 := by
      unfold dcut
      rw [List.length_take]
      refine Nat.le_trans (Nat.min_le_left _ _) (Nat.le_trans (Nat.sub_le _ _) ?_)
      exact Nat.min_le_left _ _
    refine i_newL fun p1 S2 n2 e2 x2 => ?_
    replace x2 := x1.trans x2
    have n1 := Ext.back x1 n2
    clear x1 e1 x0 e0 n0
    have fin : ∀ (cs : List Int) (S2 : DS), cs ≠ [] → cs.length ≤ 64 → (∀ c ∈ cs, 0 ≤ c ∧ c < 2 ^ 7200) → S2 p1 = some (.lst (cs.map D.int)) → Ext S S2 → (dSeq (dAsg (dCall bList (dCons (dVar 2) dNil)) (dgName 4))
  (dSeq (dAsg (dLst dNil) (dgName 5))
  (dSeq (dFor (dRng1 (dCons (dVar 1) dNil)) (dgName 6) (dSeq (dAsg (dOp oMod (dCall bInt (dCons (dVar 6) dNil)) (dCall bLen (dCons (dVar 2) dNil))) (dgName 7))
    (dIf (dAnd (dTb (dOp (oCmp .ge) (dOp oIx (dVar 2) (dVar 7)) (dOp oPow (dC (.int 10)) (dC (.int 18))))) (dTb (dOp (oCmp .gt) (dOp oIx (dVar 4) (dVar 7)) (dC (.int 0))))) (dSeq (dDrop (dBM okLst (mLst fAppend) (dVar 5) (dCons (dOp oMod (dCall bInt (dCons (dOp oIx (dVar 4) (dVar 7)) dNil)) (dC (.int 1000))) dNil)))
      (dAsg (dOp oFdv (dOp oIx (dVar 4) (dVar 7)) (dC (.int 1000))) (dgSub (dVar 4) (dVar 7) sIx))) (dSeq (dAsg (dOp oMod (dCall bInt (dCons (dOp oAdd (dOp oAdd (dOp oMul (dOp oIx (dVar 2) (dVar 7)) (dC (.int 48271))) (dOp oMul (dVar 6) (dC (.int 69621)))) (dC (.int 11))) dNil)) (dC (.int 2147483647))) (dgName 8))
      (dDrop (dBM okLst (mLst fAppend) (dVar 5) (dCons (dOp oMod (dCall bInt (dCons (dOp oAdd (dOp oAdd (dOp oMul (dVar 8) (dVar 8)) (dOp oMul (dC (.int 3)) (dVar 8))) (dVar 6)) dNil)) (dC (.int 1000003))) dNil)))))))
  (dSeq (dDrop (dBM okLst (mLst fReverse) (dVar 5) dNil))
  (dRet (dVar 5)))))) { nx := fun _ S' => Q .non S', rt := Q, bk := fun _ _ => False, ct := fun _ _ => False } [some (.fl (ns.map D.int)), some (.int m), some (.ref p1), none, none, none, none, none, none] S2 := by
      intro cs S2 hne hl hc e2 x2
      have hp1 : 0 < cs.length := List.length_pos_iff.mpr hne
      repeat walk_at "d"
      refine i_newL fun p2 S3 n3 e3 x3 => ?_
      repeat walk_at "d"
      refine i_newL fun p3 S4 n4 e4 x4 => ?_
      repeat walk_at "d"
      refine i_rng1V (by omega) (for_inv (fun j δ S5 => ∃ a b c, ∃ ls ds : List Int, δ = [some (.fl (ns.map D.int)), some (.int m), some (.ref p1), none, some (.ref p2), some (.ref p3), a, b, c] ∧ ls.length = cs.length ∧ ds.length = j ∧ S5 p1 = some (.lst (cs.map D.int)) ∧ S5 p2 = some (.lst (ls.map D.int)) ∧ S5 p3 = some (.lst (ds.map D.int)) ∧ Ext S S5) ?_ ?_ ?_ ?_)
      · refine ⟨none, none, none, cs, [], rfl, rfl, rfl, x4.get (x3.get e2), x4.get e3, e4, x2.trans (x3.trans x4)⟩
      · exact fun _ _ _ _ _ => True.intro
      · rintro j x δ S5 nx hx hj ⟨a, b, c, ls, ds, rfl, h1, h2, e1, e2', e3', x5⟩ hnx
        obtain ⟨rfl, hjm⟩ := rng_at hx
        rw [Int.zero_add]
        have n12 : p1 ≠ p2 := fun e => by rw [← e] at n3; rw [n3] at e2; cases e2
        have n13 : p1 ≠ p3 := fun e => by rw [← e] at n4; rw [x3.get e2] at n4; cases n4
        have n23 : p2 ≠ p3 := fun e => by rw [← e] at n4; rw [e3] at n4; cases n4
        have bk : ∀ (S6 : DS), But p3 S5 S6 → Ext S S6 := fun S6 b6 => x5.but b6 (Ext.back x2 (Ext.back x3 n4))
        repeat walk_at "d"
        refine o_modI (by rw [List.length_map]; omega) ?_
        rw [List.length_map]
        repeat walk_at "d"
        have g0 := Int.emod_nonneg (j : Int) (show ((cs.length : Nat) : Int) ≠ 0 by omega)
        have g1 := Int.emod_lt_of_pos (j : Int) (show 0 < ((cs.length : Nat) : Int) by omega)
        generalize hk : (j : Int) % (cs.length : Int) = k at g0 g1
        have t1 : ∃ v, L2.atI (cs.map D.int) k = some (.int v) ∧ 0 ≤ v ∧ v < 2 ^ 7200 := by
          obtain ⟨v, q1, q2, q3⟩ := atI_some (xs := cs.map D.int) g0 (by rw [List.length_map]; exact g1)
          obtain ⟨w, q4, q5⟩ := List.mem_map.mp q2
          subst q5
          exact ⟨w, q1, hc w q4⟩
        have t2 : ∃ v, L2.atI (ls.map D.int) k = some (.int v) := by
          obtain ⟨v, q1, q2, q3⟩ := atI_some (xs := ls.map D.int) g0 (by rw [List.length_map, h1]; exact g1)
          obtain ⟨w, q4, q5⟩ := List.mem_map.mp q2
          subst q5
          exact ⟨w, q1⟩
        obtain ⟨v, q1, v0, v1⟩ := t1
        obtain ⟨w, q2⟩ := t2
        refine o_ixL e1 q1 ?_
        repeat walk_at "d"
        refine o_powI (by decide) ?_
        repeat walk_at "d"
        have els : (dSeq (dAsg (dOp oMod (dCall bInt (dCons (dOp oAdd (dOp oAdd (dOp oMul (dOp oIx (dVar 2) (dVar 7)) (dC (.int 48271))) (dOp oMul (dVar 6) (dC (.int 69621)))) (dC (.int 11))) dNil)) (dC (.int 2147483647))) (dgName 8))
      (dDrop (dBM okLst (mLst fAppend) (dVar 5) (dCons (dOp oMod (dCall bInt (dCons (dOp oAdd (dOp oAdd (dOp oMul (dVar 8) (dVar 8)) (dOp oMul (dC (.int 3)) (dVar 8))) (dVar 6)) dNil)) (dC (.int 1000003))) dNil)))) ⟨nx, Q, fun δ S => dSeq (dDrop (dBM okLst (mLst fReverse) (dVar 5) dNil))
  (dRet (dVar 5)) ⟨fun _ S' => Q .non S', Q, fun _ _ => False, fun _ _ => False⟩ δ S, nx⟩ [some (.fl (ns.map D.int)), some (.int m), some (.ref p1), none, some (.ref p2), some (.ref p3), some (.int j), some (.int k), c] S5 := by
          repeat walk_at "d"
          refine o_ixL e1 q1 ?_
          repeat walk_at "d"
          have b7200 : (2 : Int) ^ 7200 = ((2 ^ 7200 : Nat) : Int) := by rw [Int.natCast_pow]; rfl
          have hv : v.natAbs < 2 ^ 9000 := Nat.lt_of_lt_of_le (show v.natAbs < 2 ^ 7200 by rw [b7200] at v1; omega) (Nat.pow_le_pow_right (by decide) (by decide))
          have sm : ∀ z : Int, 0 ≤ z → z < 2 ^ 40 → z.natAbs < 2 ^ 9000 := fun z z0 z1 => Nat.lt_of_lt_of_le (show z.natAbs < 2 ^ 40 by omega) (Nat.pow_le_pow_right (by decide) (by decide))
          refine o_mulI (lt_log hv (sm _ (by decide) (by decide))) ?_
          repeat walk_at "d"
          refine o_mulI (lt_log (sm _ (by omega) (by omega)) (sm _ (by decide) (by decide))) ?_
          repeat walk_at "d"
          refine o_modI (by decide) ?_
          repeat walk_at "d"
          generalize hz : (v * 48271 + (j : Int) * 69621 + 11) % 2147483647 = z
          have z0 : 0 ≤ z := by rw [← hz]; exact Int.emod_nonneg _ (by decide)
          have z1 : z < 2147483647 := by rw [← hz]; exact Int.emod_lt_of_pos _ (by decide)
          refine o_mulI (lt_log (sm _ (by omega) (by omega)) (sm _ (by omega) (by omega))) ?_
          repeat walk_at "d"
          refine o_mulI (lt_log (sm _ (by decide) (by decide)) (sm _ (by omega) (by omega))) ?_
          repeat walk_at "d"
          refine o_modI (by decide) ?_
          repeat walk_at "d"
          refine m_append e3' (by rw [List.length_append, List.length_map]; show ds.length + 1 ≤ _; omega) (i_putL fun S6 e6 b6 => ?_)
          refine hnx _ _ ⟨_, _, _, ls, ds ++ [_], rfl, h1, by rw [List.length_append, h2]; rfl, b6.get n13 e1, b6.get n23 e2', by rw [List.map_append]; exact e6, bk _ b6⟩
        refine ite_dec (fun c1 => ?_) (fun c1 => ?_)
        · repeat walk_at "d"
          refine o_ixL e2' q2 ?_
          repeat walk_at "d"
          refine ite_dec (fun c2 => ?_) (fun c2 => ?_)
          · repeat walk_at "d"
            refine o_ixL e2' q2 ?_
            repeat walk_at "d"
            refine o_modI (by decide) ?_
            repeat walk_at "d"
            refine m_append e3' (by rw [List.length_append, List.length_map]; show ds.length + 1 ≤ _; omega) (i_putL fun S6 e6 b6 => ?_)
            repeat walk_at "d"
            refine o_ixL (b6.get n23 e2') q2 ?_
            repeat walk_at "d"
            refine o_fdvI (by decide) ?_
            repeat walk_at "d"
            refine s_ix (m := k.toNat) (b6.get n23 e2') (ixN_at (by omega) (by rw [List.length_map]; omega)) (i_putL fun S7 e7 b7 => ?_)
            refine hnx _ _ ⟨_, _, _, ls.set k.toNat (w / 1000), ds ++ [_], rfl, by rw [List.length_set]; exact h1, by rw [List.length_append, h2]; rfl, b7.get n12 (b6.get n13 e1), by rw [List.map_set]; exact e7, b7.get n23.symm (by rw [List.map_append]; exact e6), (bk _ b6).but b7 (Ext.back x2 n3)⟩
          · exact els
        · exact els
      · rintro δ S5 ⟨a, b, c, ls, ds, rfl, h1, h2, e1, e2', e3', x5⟩
        rw [rng_len] at h2
        repeat walk_at "d"
        refine m_reverse e3' (by rw [List.length_map]; omega) (i_putL fun S6 e6 b6 => ?_)
        repeat walk_at "d"
        exact h p3 S6 (x5.but b6 (Ext.back x2 (Ext.back x3 n4))) (Ext.back x2 (Ext.back x3 n4)) ⟨ds.reverse, by rw [List.map_reverse]; exact e6, by rw [List.length_reverse]; omega⟩
    repeat walk_at "d"
    refine ite_dec (fun c => ?_) (fun c => ?_)
    · have hcs : cs = [] := by
        rw [List.length_map] at c
        exact List.eq_nil_of_length_eq_zero (by omega)
      subst hcs
      repeat walk_at "d"
      refine m_append e2 (by decide) (i_putL fun S3 e3 b3 => ?_)
      exact fin [0] S3 (by simp) (by decide) (fun c hc => by rw [List.mem_singleton.mp hc]; exact ⟨by decide, Int.pow_pos (by decide)⟩) e3 (x2.but b3 n1)
    · refine i_next ?_
      refine fin cs S2 (fun e => by subst e; exact c rfl) (by rw [hl]; omega) hc e2 x2
theorem same_spec {n : Nat} : ∀ {m : Nat} {d : D} {S : DS} {Q : DK}, Pl m d → (∀ S', Ext S S' → Q (.bl true) S') → sem fs (n + m) 20 [d, d] S Q := by
  intro m
  induction m with
  | zero => intro d S Q h; exact h.elim
  | succ m ih =>
    intro d S Q h hq
    refine run__law_same ?_
    unfold b_20
    cases d with
    | tup xs =>
      obtain ⟨hl, hx⟩ := h
      repeat walk_at "d"
      refine c_isi2 (s := "tuple") rfl rfl rfl ?_
      repeat walk_at "d"
      refine ite_b (fun _ => ?_) (fun e => absurd e (by decide))
      repeat walk_at "d"
      refine c_isi (s := "tuple") rfl rfl ?_
      repeat walk_at "d"
      refine c_isi (s := "tuple") rfl rfl ?_
      repeat walk_at "d"
      refine ite_b (fun e => absurd e Bool.false_ne_true) (fun _ => ?_)
      repeat walk_at "d"
      refine c_isi (s := "tuple") rfl rfl ?_
      repeat walk_at "d"
      refine c_isi (s := "tuple") rfl rfl ?_
      repeat walk_at "d"
      refine ite_b (fun e => absurd e Bool.false_ne_true) (fun _ => ?_)
      repeat walk_at "d"
      refine ite_ndec (fun e => absurd rfl e) (fun _ => ?_)
      repeat walk_at "d"
      refine i_rng1V (by omega) (lc_inv (fun j acc S1 => acc = List.replicate j (D.bl true) ∧ Ext S S1) ⟨rfl, Ext.refl S⟩ (fun _ _ _ _ _ => True.intro) ?_ ?_)
      · rintro j x acc S1 nx hx' hj ⟨rfl, e1⟩ hnx
        obtain ⟨rfl, hjm⟩ := rng_at hx'
        rw [Int.toNat_natCast] at hjm
        rw [Int.zero_add]
        obtain ⟨v, q1, q2, _⟩ := atI_some (xs := xs) (k := (j : Int)) (by omega) (by omega)
        repeat walk_at "d"
        refine o_ixT q1 ?_
        repeat walk_at "d"
        refine o_ixT q1 ?_
        repeat walk_at "d"
        refine ih (hx v q2) fun S2 e2 => ⟨by rw [List.length_replicate]; omega, hnx _ _ ⟨by rw [List.replicate_succ'], e1.trans e2⟩⟩
      · rintro acc S1 ⟨rfl, e1⟩
        refine i_newL fun p S2 n2 e2 x2 => ?_
        have hp : D.plainL ((List.replicate (rngL 0 ((xs.length : Nat) : Int).toNat).length (D.bl true)).map (D.rd S2 3)) = true := by
          generalize (rngL 0 ((xs.length : Nat) : Int).toNat).length = z
          induction z with
          | zero => rfl
          | succ z ihz => rw [List.replicate_succ, List.map_cons, D.plainL, ihz]; rfl
        have hv : (((List.replicate (rngL 0 ((xs.length : Nat) : Int).toNat).length (D.bl true)).map (D.rd S2 3)).any fun e => D.eqv e ((D.bl false).rd S2 3)) = false := by
          rw [List.any_eq_false]
          intro e he
          obtain ⟨w, hw, rfl⟩ := List.mem_map.mp he
          rw [(List.mem_replicate.mp hw).2]
          rw [D.rd_plain _ 3 plain_bl, D.rd_plain _ 3 plain_bl, eqv_bl]
          decide
        have hi : oIn true (.bl false) (.ref p) S2 Q := by
          refine oIn_lst e2 ?_
          show (match seqOf S2 (.ref p) with
            | some xs => (((D.bl false).rd S2 3).plain = true ∧ D.plainL (xs.map (D.rd S2 3)) = true ∧ ((D.bl false).rd S2 3).dep ≤ 50) ∧ Q (.bl (true ^^ (xs.map (D.rd S2 3)).any fun e => D.eqv e ((D.bl false).rd S2 3))) S2
            | none => False)
          rw [seq_ref e2]
          refine ⟨⟨by rw [D.rd_plain _ 3 plain_bl]; exact plain_bl, hp, by rw [D.rd_plain _ 3 plain_bl]; exact dep_bl⟩, ?_⟩
          rw [hv]
          exact hq S2 (e1.trans x2)
        exact hi
    | non =>
      repeat walk_at "d"
      refine c_isi2 (s := "NoneType") rfl rfl rfl ?_
      repeat walk_at "d"
      refine ite_b (fun e => absurd e Bool.false_ne_true) (fun _ => ?_)
      repeat walk_at "d"
      refine c_isi (s := "NoneType") rfl rfl ?_
      repeat walk_at "d"
      refine c_isi (s := "NoneType") rfl rfl ?_
      repeat walk_at "d"
      refine ite_b (fun e => absurd e Bool.false_ne_true) (fun _ => ?_)
      repeat walk_at "d"
      refine c_isi (s := "NoneType") rfl rfl ?_
      repeat walk_at "d"
      refine c_isi (s := "NoneType") rfl rfl ?_
      repeat walk_at "d"
      refine ite_b (fun e => absurd e Bool.false_ne_true) (fun _ => ?_)
      repeat walk_at "d"
      refine c_isi (s := "NoneType") rfl rfl ?_
      repeat walk_at "d"
      refine c_isi (s := "NoneType") rfl rfl ?_
      repeat walk_at "d"
      refine ite_b (fun e => absurd e Bool.false_ne_true) (fun _ => ?_)
      repeat walk_at "d"
      refine ite_b (fun e => absurd e Bool.false_ne_true) (fun _ => ?_)
      repeat walk_at "d"
      exact o_eqP plain_non plain_non (.inl dep_non) (hq _ (Ext.refl _))
    | bl b =>
      repeat walk_at "d"
      refine c_isi2 (s := "bool") rfl rfl rfl ?_
      repeat walk_at "d"
      refine ite_b (fun e => absurd e Bool.false_ne_true) (fun _ => ?_)
      repeat walk_at "d"
      refine c_isi (s := "bool") rfl rfl ?_
      repeat walk_at "d"
      refine c_isi (s := "bool") rfl rfl ?_
      repeat walk_at "d"
      refine ite_b (fun e => absurd e Bool.false_ne_true) (fun _ => ?_)
      repeat walk_at "d"
      refine c_isi (s := "bool") rfl rfl ?_
      repeat walk_at "d"
      refine c_isi (s := "bool") rfl rfl ?_
      repeat walk_at "d"
      refine ite_b (fun e => absurd e Bool.false_ne_true) (fun _ => ?_)
      repeat walk_at "d"
      refine c_isi (s := "bool") rfl rfl ?_
      repeat walk_at "d"
      refine c_isi (s := "bool") rfl rfl ?_
      repeat walk_at "d"
      refine ite_b (fun e => absurd e Bool.false_ne_true) (fun _ => ?_)
      repeat walk_at "d"
      refine ite_b (fun e => absurd e Bool.false_ne_true) (fun _ => ?_)
      repeat walk_at "d"
      rw [beq_self_eq_true]
      exact hq _ (Ext.refl _)
    | int i =>
      repeat walk_at "d"
      refine c_isi2 (s := "int") rfl rfl rfl ?_
      repeat walk_at "d"
      refine ite_b (fun e => absurd e Bool.false_ne_true) (fun _ => ?_)
      repeat walk_at "d"
      refine c_isi (s := "int") rfl rfl ?_
      repeat walk_at "d"
      refine c_isi (s := "int") rfl rfl ?_
      repeat walk_at "d"
      refine ite_b (fun e => absurd e Bool.false_ne_true) (fun _ => ?_)
      repeat walk_at "d"
      refine c_isi (s := "int") rfl rfl ?_
      repeat walk_at "d"
      refine c_isi (s := "int") rfl rfl ?_
      repeat walk_at "d"
      refine ite_b (fun e => absurd e Bool.false_ne_true) (fun _ => ?_)
      repeat walk_at "d"
      refine c_isi (s := "int") rfl rfl ?_
      repeat walk_at "d"
      refine c_isi (s := "int") rfl rfl ?_
      repeat walk_at "d"
      refine ite_b (fun e => absurd e Bool.false_ne_true) (fun _ => ?_)
      repeat walk_at "d"
      refine ite_b (fun e => absurd e Bool.false_ne_true) (fun _ => ?_)
      repeat walk_at "d"
      rw [decide_eq_true rfl]
      exact hq _ (Ext.refl _)
    | str z =>
      repeat walk_at "d"
      refine c_isi2 (s := "str") rfl rfl rfl ?_
      repeat walk_at "d"
      refine ite_b (fun e => absurd e Bool.false_ne_true) (fun _ => ?_)
      repeat walk_at "d"
      refine c_isi (s := "str") rfl rfl ?_
      repeat walk_at "d"
      refine c_isi (s := "str") rfl rfl ?_
      repeat walk_at "d"
      refine ite_b (fun e => absurd e Bool.false_ne_true) (fun _ => ?_)
      repeat walk_at "d"
      refine c_isi (s := "str") rfl rfl ?_
      repeat walk_at "d"
      refine c_isi (s := "str") rfl rfl ?_
      repeat walk_at "d"
      refine ite_b (fun e => absurd e Bool.false_ne_true) (fun _ => ?_)
      repeat walk_at "d"
      refine c_isi (s := "str") rfl rfl ?_
      repeat walk_at "d"
      refine c_isi (s := "str") rfl rfl ?_
      repeat walk_at "d"
      refine ite_b (fun e => absurd e Bool.false_ne_true) (fun _ => ?_)
      repeat walk_at "d"
      refine ite_b (fun e => absurd e Bool.false_ne_true) (fun _ => ?_)
      repeat walk_at "d"
      rw [decide_eq_true rfl]
      exact hq _ (Ext.refl _)
    | _ => exact h.elim
theorem tyn_ref {S : DS} {p : Addr} {xs : List D} (e : S p = some (.lst xs)) : tyName S (.ref p) = some "list" := by
  show (match S p with
    | some (.lst _) => some "list"
    | _ => none) = _
  rw [e]
theorem sameL_spec {n m : Nat} {p q : Addr} {xs : List D} {S : DS} {Q : DK} (ep : S p = some (.lst xs)) (eq : S q = some (.lst xs)) (hl : xs.length ≤ 16777216) (hx : ∀ x ∈ xs, Pl m x) (hq : ∀ S', Ext S S' → Q (.bl true) S') : sem fs (n + m + 1) 20 [.ref p, .ref q] S Q := by
  refine run__law_same ?_
  unfold b_20
  repeat walk_at "d"
  refine c_isi2 (tyn_ref eq) rfl rfl ?_
  repeat walk_at "d"
  refine ite_b (fun _ => ?_) (fun e => absurd e (by decide))
  repeat walk_at "d"
  refine c_isi (tyn_ref ep) rfl ?_
  repeat walk_at "d"
  refine c_isi (tyn_ref eq) rfl ?_
  repeat walk_at "d"
  refine ite_b (fun e => absurd e (by decide)) (fun _ => ?_)
  repeat walk_at "d"
  refine c_isi (tyn_ref ep) rfl ?_
  repeat walk_at "d"
  refine c_isi (tyn_ref eq) rfl ?_
  repeat walk_at "d"
  refine ite_b (fun e => absurd e (by decide)) (fun _ => ?_)
  repeat walk_at "d"
  refine ite_ndec (fun e => absurd rfl e) (fun _ => ?_)
  repeat walk_at "d"
  refine i_rng1V (by omega) (lc_inv (fun j acc S1 => acc = List.replicate j (D.bl true) ∧ Ext S S1) ⟨rfl, Ext.refl S⟩ (fun _ _ _ _ _ => True.intro) ?_ ?_)
  · rintro j x acc S1 nx hx' hj ⟨rfl, e1⟩ hnx
    obtain ⟨rfl, hjm⟩ := rng_at hx'
    rw [Int.toNat_natCast] at hjm
    rw [Int.zero_add]
    obtain ⟨v, q1, q2, _⟩ := atI_some (xs := xs) (k := (j : Int)) (by omega) (by omega)
    repeat walk_at "d"
    refine o_ixL (e1.get ep) q1 ?_
    repeat walk_at "d"
    refine o_ixL (e1.get eq) q1 ?_
    repeat walk_at "d"
    refine same_spec (hx v q2) fun S2 e2 => ⟨by rw [List.length_replicate]; omega, hnx _ _ ⟨by rw [List.replicate_succ'], e1.trans e2⟩⟩
  · rintro acc S1 ⟨rfl, e1⟩
    refine i_newL fun r S2 n2 e2 x2 => ?_
    have hp : D.plainL ((List.replicate (rngL 0 ((xs.length : Nat) : Int).toNat).length (D.bl true)).map (D.rd S2 3)) = true := by
      generalize (rngL 0 ((xs.length : Nat) : Int).toNat).length = z
      induction z with
      | zero => rfl
      | succ z ihz => rw [List.replicate_succ, List.map_cons, D.plainL, ihz]; rfl
    have hv : (((List.replicate (rngL 0 ((xs.length : Nat) : Int).toNat).length (D.bl true)).map (D.rd S2 3)).any fun e => D.eqv e ((D.bl false).rd S2 3)) = false := by
      rw [List.any_eq_false]
      intro e he
      obtain ⟨w, hw, rfl⟩ := List.mem_map.mp he
      rw [(List.mem_replicate.mp hw).2]
      rw [D.rd_plain _ 3 plain_bl, D.rd_plain _ 3 plain_bl, eqv_bl]
      decide
    have hi : oIn true (.bl false) (.ref r) S2 Q := by
      refine oIn_lst e2 ?_
      show (match seqOf S2 (.ref r) with
        | some xs => (((D.bl false).rd S2 3).plain = true ∧ D.plainL (xs.map (D.rd S2 3)) = true ∧ ((D.bl false).rd S2 3).dep ≤ 50) ∧ Q (.bl (true ^^ (xs.map (D.rd S2 3)).any fun e => D.eqv e ((D.bl false).rd S2 3))) S2
        | none => False)
      rw [seq_ref e2]
      refine ⟨⟨by rw [D.rd_plain _ 3 plain_bl]; exact plain_bl, hp, by rw [D.rd_plain _ 3 plain_bl]; exact dep_bl⟩, ?_⟩
      rw [hv]
      exact hq S2 (e1.trans x2)
    exact hi
theorem shuffled_spec {n : Nat} {S : DS} {d r : Addr} {xs : List D} {Q : DK} (hd : Drw S d) (hr : S r = some (.lst xs)) (hn : xs.length ≤ 100000) (h : ∀ p ys S', ys.Perm xs → S p = none → S' p = some (.lst ys) → p ≠ d → But d S S' → Drw S' d → Q (.ref p) S') : sem fs (n + 2) 21 [.ref d, .ref r] S Q := by
  refine run__law_shuffled ?_
  unfold b_21
  repeat walk_at "d"
  refine i_newL fun p1 S1 n1 e1 x1 => ?_
  repeat walk_at "d"
  refine i_newL fun p2 S2 n2 e2 x2 => ?_
  have d2 := (hd.ext x1).ext x2
  have n12 : p1 ≠ p2 := fun e => by rw [← e] at n2; rw [n2] at e1; cases e1
  have m1 := hd.ne' n1
  have m2 := (hd.ext x1).ne' n2
  repeat walk_at "d"
  refine i_rng1V (by omega) (for_inv (fun j δ S3 => ∃ k, ∃ ls ds : List D, δ = [some (.ref d), some (.ref r), some (.ref p1), some (.ref p2), k] ∧ ls.length + j = xs.length ∧ (ds ++ ls).Perm xs ∧ S3 p1 = some (.lst ls) ∧ S3 p2 = some (.lst ds) ∧ But d S S3 ∧ Drw S3 d) ⟨none, xs, [], rfl, rfl, List.Perm.refl _, x2.get e1, e2, (x1.trans x2).toBut, d2⟩ (fun _ _ _ _ _ => True.intro) ?_ ?_)
  · rintro j x δ S3 nx hx hj ⟨k, ls, ds, rfl, h1, h2, g1, g2, b3, d3⟩ hnx
    obtain ⟨rfl, hjm⟩ := rng_at hx
    rw [Int.toNat_natCast] at hjm
    have hlen := h2.length_eq
    rw [List.length_append] at hlen
    repeat walk_at "d"
    refine take_spec d3 (by omega) fun v S4 v0 v1 b4 d4 => ?_
    repeat walk_at "d"
    have g1' := b4.get m1 g1
    have g2' := b4.get m2 g2
    repeat walk_at "d"
    have hv : v.toNat < ls.length := by omega
    refine m_popAt (m := v.toNat) g1' (ixN_at (by omega) hv) (List.getElem?_eq_getElem hv) (by omega) (i_putL fun S5 e5 b5 => ?_)
    repeat walk_at "d"
    refine m_append (b5.get n12.symm g2') (by rw [List.length_append]; show ds.length + 1 ≤ _; omega) (i_putL fun S6 e6 b6 => ?_)
    refine hnx _ _ ⟨_, ls.eraseIdx v.toNat, ds ++ [ls[v.toNat]], rfl, by rw [List.length_eraseIdx_of_lt hv]; omega, ?_, b6.get n12 e5, e6, ((b3.trans b4).but b5 n1).but b6 (Ext.back x1 n2), (d4.but b5 m1.symm).but b6 m2.symm⟩
    refine List.Perm.trans ?_ h2
    rw [List.append_assoc]
    refine List.Perm.append_left ds ?_
    show (ls[v.toNat] :: ls.eraseIdx v.toNat).Perm ls
    conv => rhs; rw [← List.take_append_drop v.toNat ls, List.drop_eq_getElem_cons hv]
    rw [List.eraseIdx_eq_take_drop_succ]
    exact List.perm_middle.symm
  · rintro δ S3 ⟨k, ls, ds, rfl, h1, h2, g1, g2, b3, d3⟩
    rw [rng_len] at h1
    rw [Int.toNat_natCast] at h1
    have : ls = [] := List.eq_nil_of_length_eq_zero (by omega)
    subst this
    rw [List.append_nil] at h2
    repeat walk_at "d"
    exact h p2 ds S3 h2 (Ext.back x1 n2) g2 m2 b3 d3
theorem letters {z : Str} {k : Int} (hz : z.length = 26) (h0 : 0 ≤ k) (h1 : k < 26) : ∃ c, L2.atI z.cps.toList k = some c := by
  obtain ⟨v, q, _⟩ := atI_some (xs := z.cps.toList) h0 (by rw [Array.length_toList]; show k < ((z.length : Nat) : Int); omega)
  exact ⟨v, q⟩
theorem number_spec {n : Nat} {S : DS} {d : Addr} {Q : DK} (hd : Drw S d) (h : ∀ v S', But d S S' → Drw S' d → -(10 ^ 50) < v → v < 10 ^ 50 → Q (.int v) S') : sem fs (n + 3) 25 [.ref d] S Q := by
  refine run__law_number ?_
  unfold b_25
  repeat walk_at "d"
  refine take_spec hd (by decide) fun k S1 h0 h1 b1 d1 => ?_
  repeat walk_at "d"
  refine ite_dec (fun c => ?_) (fun c => ?_)
  · repeat walk_at "d"
    refine o_powI (by decide) ?_
    repeat walk_at "d"
    refine o_powI (by decide) ?_
    repeat walk_at "d"
    refine o_powI (by decide) ?_
    repeat walk_at "d"
    refine i_newL fun p S2 n2 e2 x2 => ?_
    repeat walk_at "d"
    refine pick_spec (d1.ext x2) e2 (by simp) (d1.ne' n2) fun v S3 hv b3 d3 => ?_
    simp only [List.mem_cons, List.not_mem_nil, or_false] at hv
    rcases hv with rfl | rfl | rfl <;> exact h _ S3 ((b1.ext x2).trans b3) d3 (by decide) (by decide)
  · repeat walk_at "d"
    refine take_spec d1 (by decide) fun l S2 l0 l1 b2 d2 => ?_
    repeat walk_at "d"
    exact h _ S2 (b1.trans b2) d2 (by omega) (by omega)
theorem tnew {κ ν : Type} [DecidableEq κ] {ts : List (κ × ν)} {k : κ} (h : k ∉ ts.map (·.1)) : tget ts k = none := by
  cases e : tget ts k with
  | none => rfl
  | some v => exact absurd (List.mem_map.mpr ⟨_, tget_some e, rfl⟩) h
theorem fm_if {α β : Type} (c : α → Bool) (f : α → β) : ∀ L : List α, (L.filterMap fun e => if c e = true then some (f e) else none) = (L.filter c).map f
  | [] => rfl
  | e :: L => by
    have ih := fm_if c f L
    cases h : c e with
    | true => rw [List.filterMap_cons, if_pos h, List.filter_cons_of_pos h, List.map_cons, ih]
    | false => rw [List.filterMap_cons, if_neg (by rw [h]; exact Bool.false_ne_true), List.filter_cons_of_neg (by rw [h]; exact Bool.false_ne_true), ih]
inductive Deed where
  | start (t : Nat) | wait (p : Int) | keep (p n : Int) (ps : List Int) | race (p : Int) (ps : List Int)
def intsD (ps : List Int) : D := .tup (ps.map D.int)
def Deed.d : Deed → D
  | .start t => .tup [.str "start", .int (t : Int)]
  | .wait p => .tup [.str "wait", .int p]
  | .keep p n ps => .tup [.str "keep", .int p, .int n, intsD ps]
  | .race p ps => .tup [.str "race", .int p, intsD ps]
structure Prog where
  many : Nat
  rows : List (List Deed)
def rowD (r : List Deed) : D := .tup (r.map Deed.d)
def Prog.d (P : Prog) : D := .tup [.int (P.many : Int), .tup (P.rows.map rowD)]
def Deed.ok (n : Nat) : Deed → Prop
  | .start t => t < n
  | .wait _ => True
  | .keep _ _ ps => ps.length ≤ 1000
  | .race _ ps => ps.length ≤ 1000
structure Prog.ok (P : Prog) : Prop where
  many : P.many ≤ 1000
  n0 : 1 ≤ P.rows.length
  n1 : P.rows.length ≤ 1000
  row : ∀ r ∈ P.rows, r.length ≤ 1000
  deed : ∀ r ∈ P.rows, ∀ e ∈ r, e.ok P.rows.length
def optD : Option Nat → D
  | none => .non
  | some c => .int (c : Int)
def optI : Option Int → D
  | none => .non
  | some c => .int c
abbrev Kept := List (Int × Int)
def pairD (k : Int × Int) : D := .tup [.int k.1, .int k.2]
def keptD (ks : Kept) : D := .tup (ks.map pairD)
structure Stt where
  cs : List (Option Nat)
  kept : Kept
def Stt.d (s : Stt) : D := .tup [.tup (s.cs.map optD), keptD s.kept]
structure Stt.ok (P : Prog) (s : Stt) : Prop where
  len : s.cs.length = P.rows.length
  le : ∀ (t c : Nat) (r : List Deed), s.cs[t]? = some (some c) → P.rows[t]? = some r → c ≤ r.length
  kl : s.kept.length ≤ (s.cs.map fun o => o.getD 0).sum
def worth : Kept → Int → Option Int
  | [], _ => none
  | k :: ks, p => if k.1 = p then some k.2 else worth ks p
def deedAt (P : Prog) (t c : Nat) : Option Deed := (P.rows[t]?).bind fun r => r[c]?
def next (P : Prog) (s : Stt) (t : Nat) : Option Deed := match s.cs[t]? with
  | some (some c) => deedAt P t c
  | _ => none
def has (ks : Kept) (p : Int) : Bool := (worth ks p).isSome
def can (ks : Kept) : Deed → Bool
  | .start _ => true
  | .wait p => has ks p
  | .keep _ _ ps => ps.all (has ks)
  | .race _ ps => ps.any (has ks)
def canT (P : Prog) (s : Stt) (t : Nat) : Bool := match next P s t with
  | some e => can s.kept e
  | none => false
def ready (P : Prog) (s : Stt) : List Nat := (List.range P.rows.length).filter (canT P s)
def vals (ks : Kept) (ps : List Int) : List Int := ps.map fun p => (worth ks p).getD 0
def firstIn (ks : Kept) (ps : List Int) : Int := ((ks.find? fun k => decide (k.1 ∈ ps)).map (·.2)).getD 0
def keptBy (ks : Kept) : Deed → Kept
  | .keep p n ps => if has ks p = true then ks else ks ++ [(p, n + (vals ks ps).sum)]
  | .race p ps => if has ks p = true then ks else ks ++ [(p, firstIn ks ps)]
  | _ => ks
def startBy (cs cs0 : List (Option Nat)) : Deed → List (Option Nat)
  | .start t => if cs0[t]? = some none then cs.set t (some 0) else cs
  | _ => cs
def step (P : Prog) (s : Stt) (t : Nat) : Stt := match s.cs[t]?, next P s t with
  | some (some c), some e => ⟨startBy (s.cs.set t (some (c + 1))) s.cs e, keptBy s.kept e⟩
  | _, _ => s
def start (P : Prog) : Stt := ⟨(List.range P.rows.length).map fun t => if t = 0 then some 0 else none, []⟩
theorem optD_non {o : Option Nat} : isNon (optD o) = o.isNone := by cases o <;> rfl
theorem optI_non {o : Option Int} : isNon (optI o) = o.isNone := by cases o <;> rfl
theorem worth_spec {n : Nat} {ks : Kept} {p : Int} {S : DS} {Q : DK} (h : Q (optI (worth ks p)) S) : sem fs (n + 1) 1 [keptD ks, .int p] S Q := by
  refine run_value_of ?_
  unfold b_1 keptD
  repeat walk_at "d"
  refine for_inv (fun j δ S1 => ∃ o2 o3, δ = [some (.tup (ks.map pairD)), some (.int p), o2, o3] ∧ S1 = S ∧ worth ks p = worth (ks.drop j) p) ⟨none, none, rfl, rfl, rfl⟩ (fun _ _ _ _ _ => rfl) ?_ ?_
  · rintro j x δ S1 nx hx hj ⟨o2, o3, rfl, rfl, hw⟩ hnx
    obtain ⟨k, hk, rfl⟩ := map_at hx
    have hd : ks.drop j = k :: ks.drop (j + 1) := by
      rw [List.length_map] at hj
      rw [List.drop_eq_getElem_cons hj]
      rw [List.getElem?_eq_getElem hj] at hk
      rw [Option.some.inj hk]
    unfold pairD
    repeat walk_at "d"
    rw [hd, worth] at hw
    refine ite_dec (fun c => ?_) (fun c => ?_)
    · repeat walk_at "d"
      rw [if_pos c] at hw
      rw [hw] at h
      exact h
    · repeat walk_at "d"
      rw [if_neg c] at hw
      exact hnx _ _ ⟨_, _, rfl, rfl, hw⟩
  · rintro δ S1 ⟨o2, o3, rfl, rfl, hw⟩
    rw [List.length_map, List.drop_length] at hw
    rw [hw] at h
    repeat walk_at "d"
    exact h
theorem lworth_spec {n : Nat} {ks : Kept} {p : Int} {S : DS} {Q : DK} (h : Q (optI (worth ks p)) S) : sem fs (n + 1) 27 [keptD ks, .int p] S Q := by
  refine run__law_worth ?_
  unfold b_27 keptD
  repeat walk_at "d"
  refine for_inv (fun j δ S1 => ∃ o2, δ = [some (.tup (ks.map pairD)), some (.int p), o2] ∧ S1 = S ∧ worth ks p = worth (ks.drop j) p) ⟨none, rfl, rfl, rfl⟩ (fun _ _ _ _ _ => rfl) ?_ ?_
  · rintro j x δ S1 nx hx hj ⟨o2, rfl, rfl, hw⟩ hnx
    obtain ⟨k, hk, rfl⟩ := map_at hx
    have hd : ks.drop j = k :: ks.drop (j + 1) := by
      rw [List.length_map] at hj
      rw [List.drop_eq_getElem_cons hj]
      rw [List.getElem?_eq_getElem hj] at hk
      rw [Option.some.inj hk]
    repeat walk_at "d"
    refine o_ixT (v := .int k.1) rfl ?_
    repeat walk_at "d"
    rw [hd, worth] at hw
    refine ite_dec (fun c => ?_) (fun c => ?_)
    · repeat walk_at "d"
      refine o_ixT (v := .int k.2) rfl ?_
      rw [if_pos c] at hw
      rw [hw] at h
      exact h
    · repeat walk_at "d"
      rw [if_neg c] at hw
      exact hnx _ _ ⟨_, rfl, rfl, hw⟩
  · rintro δ S1 ⟨o2, rfl, rfl, hw⟩
    rw [List.length_map, List.drop_length] at hw
    rw [hw] at h
    repeat walk_at "d"
    exact h
theorem start_spec {n : Nat} {P : Prog} {S : DS} {Q : DK} (hP : P.ok) (h : ∀ S', Ext S S' → Q (start P).d S') : sem fs (n + 1) 0 [P.d] S Q := by
  refine run_first_state ?_
  unfold b_0
  have h1 := hP.n1
  repeat walk_at "d"
  refine o_ixT (v := .tup (P.rows.map rowD)) rfl ?_
  repeat walk_at "d"
  rw [List.length_map]
  refine i_rng1V (by omega) ?_
  rw [Int.toNat_natCast, rng_map]
  refine lc_map (fun t => optD (if t = 0 then some 0 else none)) (Ext S) (by rw [List.length_range]; omega) (Ext.refl S) (fun _ _ => True.intro) ?_ ?_
  · intro t ht acc S1 nx hacc hJ hnx
    repeat walk_at "d"
    refine ite_dec (fun c => ?_) (fun c => ?_)
    · repeat walk_at "d"
      refine ⟨hacc, ?_⟩
      have := hnx S1 hJ
      rwa [if_pos (show t = 0 by omega)] at this
    · repeat walk_at "d"
      refine ⟨hacc, ?_⟩
      have := hnx S1 hJ
      rwa [if_neg (show ¬ t = 0 by omega)] at this
  · intro S1 hJ
    refine i_newL fun q S2 n2 e2 x2 => ?_
    repeat walk_at "d"
    have := h S2 (hJ.trans x2)
    unfold start Stt.d at this
    rw [List.map_map] at this
    exact this
theorem lstart_spec {n : Nat} {P : Prog} {S : DS} {Q : DK} (hP : P.ok) (h : ∀ S', Ext S S' → Q (start P).d S') : sem fs (n + 1) 26 [P.d] S Q := by
  refine run__law_start_state ?_
  unfold b_26
  have h1 := hP.n1
  repeat walk_at "d"
  refine o_ixT (v := .tup (P.rows.map rowD)) rfl ?_
  repeat walk_at "d"
  rw [List.length_map]
  refine i_rng1V (by omega) ?_
  rw [Int.toNat_natCast, rng_map]
  refine lc_map (fun t => optD (if t = 0 then some 0 else none)) (Ext S) (by rw [List.length_range]; omega) (Ext.refl S) (fun _ _ => True.intro) ?_ ?_
  · intro t ht acc S1 nx hacc hJ hnx
    repeat walk_at "d"
    refine i_newL fun q S2 n2 e2 x2 => ?_
    repeat walk_at "d"
    have := hnx S2 (hJ.trans x2)
    by_cases c : t = 0
    · subst c
      exact o_ixL (v := .int 0) e2 rfl ⟨hacc, this⟩
    · rw [if_neg c] at this
      rw [decide_eq_false (by omega)]
      exact o_ixL (v := .non) e2 rfl ⟨hacc, this⟩
  · intro S1 hJ
    refine i_newL fun q S2 n2 e2 x2 => ?_
    repeat walk_at "d"
    have := h S2 (hJ.trans x2)
    unfold start Stt.d at this
    rw [List.map_map] at this
    exact this
theorem start_ok {P : Prog} (hP : P.ok) : (start P).ok P := by
  refine ⟨by unfold start; rw [List.length_map, List.length_range], fun t c r hc hr => ?_, by unfold start; exact Nat.zero_le _⟩
  unfold start at hc
  dsimp only at hc
  rw [List.getElem?_map] at hc
  cases e : (List.range P.rows.length)[t]? with
  | none => rw [e] at hc; cases hc
  | some z =>
    rw [e] at hc
    have this : (if z = 0 then some 0 else none) = some c := Option.some.inj hc
    split at this
    · have := Option.some.inj this; omega
    · cases this
theorem sum_le : ∀ (cs : List (Option Nat)) (rows : List (List Deed)), cs.length = rows.length → (∀ (t c : Nat) (r : List Deed), cs[t]? = some (some c) → rows[t]? = some r → c ≤ r.length) → (∀ r ∈ rows, r.length ≤ 1000) → (cs.map fun o => o.getD 0).sum ≤ 1000 * rows.length
  | [], rows, _, _, _ => Nat.zero_le _
  | o :: cs, [], h, _, _ => by cases h
  | o :: cs, r :: rows, h, h1, h2 => by
    have ih := sum_le cs rows (Nat.succ.inj h) (fun t c r' hc hr => h1 (t + 1) c r' hc hr) fun r' hr => h2 r' (List.mem_cons_of_mem _ hr)
    have h0 : o.getD 0 ≤ 1000 := by
      cases o with
      | none => exact Nat.zero_le _
      | some c => exact Nat.le_trans (h1 0 c r rfl rfl) (h2 r (List.mem_cons_self ..))
    rw [List.map_cons, List.sum_cons, List.length_cons]
    omega
theorem Stt.ok.kl6 {P : Prog} {s : Stt} (h : s.ok P) (hP : P.ok) : s.kept.length ≤ 1000000 := by
  have := sum_le s.cs P.rows h.len h.le hP.row
  have := hP.n1
  have := h.kl
  omega
theorem sum_set : ∀ (cs : List (Option Nat)) (t : Nat) (o o' : Option Nat), cs[t]? = some o → ((cs.set t o').map fun o => o.getD 0).sum + o.getD 0 = (cs.map fun o => o.getD 0).sum + o'.getD 0
  | [], t, o, o', h => by simp at h
  | x :: cs, 0, o, o', h => by
    obtain rfl := Option.some.inj h
    rw [List.set_cons_zero, List.map_cons, List.map_cons, List.sum_cons, List.sum_cons]
    omega
  | x :: cs, t + 1, o, o', h => by
    have := sum_set cs t o o' h
    rw [List.set_cons_succ, List.map_cons, List.map_cons, List.sum_cons, List.sum_cons]
    omega
theorem cs_at {s : Stt} {t : Nat} {o : Option Nat} (h : s.cs[t]? = some o) : L2.atI (s.cs.map optD) (t : Int) = some (optD o) := lst_map_at rfl h
theorem row_at {P : Prog} {t : Nat} {r : List Deed} (h : P.rows[t]? = some r) : L2.atI (P.rows.map rowD) (t : Int) = some (rowD r) := lst_map_at rfl h
theorem deed_at {r : List Deed} {c : Nat} {e : Deed} (h : r[c]? = some e) : L2.atI (r.map Deed.d) (c : Int) = some e.d := lst_map_at rfl h
/-- what stands at a task -/
theorem at_task {P : Prog} {s : Stt} (hs : s.ok P) {t : Nat} (ht : t < P.rows.length) : ∃ o r, s.cs[t]? = some o ∧ P.rows[t]? = some r ∧ ∀ c, o = some c → c ≤ r.length := by
  refine ⟨s.cs[t]'(by rw [hs.len]; exact ht), P.rows[t], List.getElem?_eq_getElem _, List.getElem?_eq_getElem _, fun c hc => hs.le t c _ ?_ (List.getElem?_eq_getElem ht)⟩
  rw [List.getElem?_eq_getElem (by rw [hs.len]; exact ht), hc]
def deedD : Option Deed → D
  | none => .non
  | some e => e.d
theorem next_of {P : Prog} {s : Stt} {t : Nat} {o : Option Nat} {r : List Deed} (h1 : s.cs[t]? = some o) (h2 : P.rows[t]? = some r) : next P s t = o.bind fun c => r[c]? := by
  unfold next deedAt
  rw [h1, h2]
  cases o <;> rfl
theorem next_spec {n : Nat} {P : Prog} {s : Stt} {t : Nat} {S : DS} {Q : DK} (hs : s.ok P) (ht : t < P.rows.length) (h : Q (deedD (next P s t)) S) : sem fs (n + 1) 2 [P.d, s.d, .int (t : Int)] S Q := by
  refine run_next_deed ?_
  unfold b_2
  obtain ⟨o, r, h1, h2, h3⟩ := at_task hs ht
  rw [next_of h1 h2] at h
  repeat walk_at "d"
  refine o_ixT (v := .tup (s.cs.map optD)) rfl ?_
  repeat walk_at "d"
  refine o_ixT (cs_at h1) ?_
  repeat walk_at "d"
  cases o with
  | none =>
    refine ite_t ?_
    repeat walk_at "d"
    exact h
  | some c =>
    refine ite_f ?_
    repeat walk_at "d"
    refine o_ixT (v := .tup (P.rows.map rowD)) rfl ?_
    repeat walk_at "d"
    refine o_ixT (row_at h2) ?_
    repeat walk_at "d"
    refine c_lenT (xs := r.map Deed.d) ?_
    rw [List.length_map]
    refine o_eqI (k := (c : Int)) ?_
    repeat walk_at "d"
    have h3' := h3 c rfl
    refine ite_dec (fun q => ?_) (fun q => ?_)
    · repeat walk_at "d"
      have : r[c]? = none := List.getElem?_eq_none (by omega)
      rw [Option.bind_some, this] at h
      exact h
    · have hlt : c < r.length := by omega
      repeat walk_at "d"
      refine o_ixT (v := .tup (P.rows.map rowD)) rfl ?_
      repeat walk_at "d"
      refine o_ixT (row_at h2) ?_
      repeat walk_at "d"
      rw [Option.bind_some, List.getElem?_eq_getElem hlt] at h
      exact o_ixT (xs := r.map Deed.d) (k := (c : Int)) (deed_at (List.getElem?_eq_getElem hlt)) h
theorem all_bls : ∀ bs : List Bool, bs.all id = bs.all id := fun _ => rfl
theorem can_spec {n : Nat} {ks : Kept} {e : Deed} {m : Nat} {S : DS} {Q : DK} (he : e.ok m) (h : ∀ S', Ext S S' → Q (.bl (can ks e)) S') : sem fs (n + 2) 3 [keptD ks, e.d] S Q := by
  refine run_can_be_done ?_
  unfold b_3
  cases e with
  | start t =>
    repeat walk_at "d"
    refine o_ixT (v := .str "start") rfl ?_
    repeat walk_at "d"
    refine ite_dec (fun q => absurd q (by decide +kernel)) (fun _ => ?_)
    repeat walk_at "d"
    refine o_ixT (v := .str "start") rfl ?_
    repeat walk_at "d"
    refine ite_dec (fun q => absurd q (by decide +kernel)) (fun _ => ?_)
    repeat walk_at "d"
    refine o_ixT (v := .str "start") rfl ?_
    repeat walk_at "d"
    refine ite_dec (fun q => absurd q (by decide +kernel)) (fun _ => ?_)
    repeat walk_at "d"
    exact h S (Ext.refl S)
  | wait p =>
    repeat walk_at "d"
    refine o_ixT (v := .str "wait") rfl ?_
    repeat walk_at "d"
    refine ite_dec (fun _ => ?_) (fun q => absurd rfl q)
    repeat walk_at "d"
    refine o_ixT (v := .int p) rfl ?_
    repeat walk_at "d"
    refine worth_spec ?_
    repeat walk_at "d"
    rw [optI_non, Option.not_isNone]
    exact h S (Ext.refl S)
  | keep p nn ps =>
    repeat walk_at "d"
    refine o_ixT (v := .str "keep") rfl ?_
    repeat walk_at "d"
    refine ite_dec (fun q => absurd q (by decide +kernel)) (fun _ => ?_)
    repeat walk_at "d"
    refine o_ixT (v := .str "keep") rfl ?_
    repeat walk_at "d"
    refine ite_dec (fun _ => ?_) (fun q => absurd rfl q)
    repeat walk_at "d"
    refine o_ixT (v := .tup (ps.map D.int)) rfl ?_
    repeat walk_at "d"
    refine lc_map (fun p => D.bl (has ks p)) (Ext S) (Nat.le_trans he (by decide)) (Ext.refl S) (fun _ _ => rfl) ?_ ?_
    · intro p' hp acc S1 nx hacc hJ hnx
      repeat walk_at "d"
      refine worth_spec ?_
      repeat walk_at "d"
      rw [optI_non, Option.not_isNone]
      exact ⟨hacc, hnx S1 hJ⟩
    · intro S1 hJ
      refine i_newL fun q S2 n2 e2 x2 => ?_
      repeat walk_at "d"
      refine c_all (bs := ps.map (has ks)) (lst_ref (by rw [List.map_map]; exact e2)) ?_
      have := h S2 (hJ.trans x2)
      unfold can at this
      rwa [List.all_map]
  | race p ps =>
    repeat walk_at "d"
    refine o_ixT (v := .str "race") rfl ?_
    repeat walk_at "d"
    refine ite_dec (fun q => absurd q (by decide +kernel)) (fun _ => ?_)
    repeat walk_at "d"
    refine o_ixT (v := .str "race") rfl ?_
    repeat walk_at "d"
    refine ite_dec (fun q => absurd q (by decide +kernel)) (fun _ => ?_)
    repeat walk_at "d"
    refine o_ixT (v := .str "race") rfl ?_
    repeat walk_at "d"
    refine ite_dec (fun _ => ?_) (fun q => absurd rfl q)
    repeat walk_at "d"
    refine o_ixT (v := .tup (ps.map D.int)) rfl ?_
    repeat walk_at "d"
    refine lc_map (fun p => D.bl (has ks p)) (Ext S) (Nat.le_trans he (by decide)) (Ext.refl S) (fun _ _ => rfl) ?_ ?_
    · intro p' hp acc S1 nx hacc hJ hnx
      repeat walk_at "d"
      refine worth_spec ?_
      repeat walk_at "d"
      rw [optI_non, Option.not_isNone]
      exact ⟨hacc, hnx S1 hJ⟩
    · intro S1 hJ
      refine i_newL fun q S2 n2 e2 x2 => ?_
      repeat walk_at "d"
      refine c_any (bs := ps.map (has ks)) (lst_ref (by rw [List.map_map]; exact e2)) ?_
      have := h S2 (hJ.trans x2)
      unfold can at this
      rwa [List.any_map]
theorem next_ok {P : Prog} (hP : P.ok) {s : Stt} {t : Nat} {e : Deed} (h : next P s t = some e) : e.ok P.rows.length ∧ ∃ c r, s.cs[t]? = some (some c) ∧ P.rows[t]? = some r ∧ r[c]? = some e := by
  unfold next deedAt at h
  split at h
  · rename_i c hc
    cases hr : P.rows[t]? with
    | none => rw [hr] at h; cases h
    | some r =>
      rw [hr] at h
      exact ⟨hP.deed r (List.mem_of_getElem? hr) e (List.mem_of_getElem? h), c, r, hc, rfl, h⟩
  · cases h
def natsD (ts : List Nat) : List D := ts.map fun (t : Nat) => D.int (t : Int)
theorem ready_succ {P : Prog} {s : Stt} {m : Nat} : (List.range (m + 1)).filter (canT P s) = (List.range m).filter (canT P s) ++ (if canT P s m = true then [m] else []) := by
  rw [List.range_succ, List.filter_append]
  congr 1
  cases h : canT P s m <;> simp [h]
theorem ready_spec {n : Nat} {P : Prog} {s : Stt} {S : DS} {Q : DK} (hP : P.ok) (hs : s.ok P) (h : ∀ S', Ext S S' → Q (.tup (natsD (ready P s))) S') : sem fs (n + 3) 4 [P.d, s.d] S Q := by
  refine run_ready_tasks ?_
  unfold b_4
  have h1 := hP.n1
  repeat walk_at "d"
  refine i_newL fun a S1 n1 e1 x1 => ?_
  repeat walk_at "d"
  refine o_ixT (v := .tup (P.rows.map rowD)) rfl ?_
  repeat walk_at "d"
  rw [List.length_map]
  refine i_rng1V (by omega) ?_
  rw [Int.toNat_natCast]
  refine for_inv (fun j δ S2 => ∃ o3 o4, δ = [some P.d, some s.d, some (.ref a), o3, o4] ∧ S2 a = some (.lst (natsD ((List.range j).filter (canT P s)))) ∧ Ext S S2) ⟨none, none, rfl, e1, x1⟩ (fun _ _ _ _ _ => True.intro) ?_ ?_
  · rintro j x δ S2 nx hx hj ⟨o3, o4, rfl, e2, x2⟩ hnx
    obtain ⟨rfl, hjm⟩ := rng_at hx
    rw [Int.zero_add]
    repeat walk_at "d"
    refine next_spec hs hjm ?_
    repeat walk_at "d"
    have hsc : ∀ S3, S3 a = some (.lst (natsD ((List.range j).filter (canT P s)))) → Ext S S3 → canT P s j = false → ∀ o3 o4, nx [some P.d, some s.d, some (.ref a), o3, o4] S3 := fun S3 e3 x3 hc o3 o4 => hnx _ _ ⟨_, _, rfl, by rw [ready_succ, hc]; simpa [natsD] using e3, x3⟩
    cases hn : next P s j with
    | none => exact ite_f (i_next (hsc S2 e2 x2 (by unfold canT; rw [hn]) _ _))
    | some e =>
      have hcan : canT P s j = can s.kept e := by unfold canT; rw [hn]
      obtain ⟨hok, _⟩ := next_ok hP hn
      have hnn : isNon (deedD (some e)) = false := by cases e <;> rfl
      rw [hnn]
      refine ite_nf ?_
      repeat walk_at "d"
      refine o_ixT (v := keptD s.kept) rfl ?_
      repeat walk_at "d"
      refine can_spec hok fun S3 x3 => ?_
      have e3 := x3.get e2
      repeat walk_at "d"
      refine ite_b (fun c => ?_) (fun c => ?_)
      · repeat walk_at "d"
        refine m_append e3 ?_ (i_putL fun S4 e4 b4 => ?_)
        · have hf := List.length_filter_le (canT P s) (List.range j)
          rw [List.length_range] at hf
          rw [List.length_append]
          unfold natsD
          rw [List.length_map]
          show _ + 1 ≤ _
          omega
        refine hnx _ _ ⟨_, _, rfl, ?_, (x2.trans x3).but b4 n1⟩
        rw [ready_succ, hcan, c]
        simpa [natsD] using e4
      · exact i_next (hsc S3 e3 (x2.trans x3) (by rw [hcan, c]) _ _)
  · rintro δ S2 ⟨o3, o4, rfl, e2, x2⟩
    rw [rng_len] at e2
    repeat walk_at "d"
    exact h S2 x2
theorem has_get {ks : Kept} {p : Int} (h : has ks p = true) : ∃ v, worth ks p = some v := Option.isSome_iff_exists.mp h
theorem worth_mem : ∀ {ks : Kept} {p v : Int}, worth ks p = some v → (p, v) ∈ ks
  | [], _, _, h => by cases h
  | k :: ks, p, v, h => by
    unfold worth at h
    split at h
    · rename_i e
      obtain rfl := Option.some.inj h
      subst e
      exact List.mem_cons_self ..
    · exact List.mem_cons_of_mem _ (worth_mem h)
theorem has_iff : ∀ {ks : Kept} {p : Int}, has ks p = true ↔ p ∈ ks.map (·.1)
  | [], p => by simp [has, worth]
  | k :: ks, p => by
    unfold has worth
    by_cases e : k.1 = p
    · rw [if_pos e]; simp [e]
    · rw [if_neg e, List.map_cons, List.mem_cons]
      have := has_iff (ks := ks) (p := p)
      unfold has at this
      rw [this]
      constructor
      · exact fun h => .inr h
      · rintro (h | h)
        · exact absurd h.symm e
        · exact h
theorem has_dec {ks : Kept} {p : Int} : decide (p ∈ ks.map (·.1)) = has ks p := by
  rw [Bool.eq_iff_iff, decide_eq_true_iff]; exact has_iff.symm
theorem keptBy_spec {n : Nat} {ks : Kept} {p nn : Int} {ps : List Int} {m : Nat} {S : DS} {Q : DK} (he : (Deed.keep p nn ps).ok m) (hc : can ks (.keep p nn ps) = true) (h : ∀ S', Ext S S' → Q (.int (nn + (vals ks ps).sum)) S') : sem fs (n + 2) 5 [keptD ks, (Deed.keep p nn ps).d] S Q := by
  refine run_value_kept_by ?_
  unfold b_5
  repeat walk_at "d"
  refine o_ixT (v := .str "keep") rfl ?_
  repeat walk_at "d"
  refine ite_dec (fun _ => ?_) (fun q => absurd rfl q)
  repeat walk_at "d"
  refine o_ixT (v := .int nn) rfl ?_
  repeat walk_at "d"
  refine o_ixT (v := .tup (ps.map D.int)) rfl ?_
  repeat walk_at "d"
  refine lc_map (fun p => D.int ((worth ks p).getD 0)) (Ext S) (Nat.le_trans he (by decide)) (Ext.refl S) (fun _ _ => rfl) ?_ ?_
  · intro p' hp acc S1 nx hacc hJ hnx
    repeat walk_at "d"
    refine worth_spec ?_
    obtain ⟨v, hv⟩ := has_get (List.all_eq_true.mp hc p' hp)
    have := hnx S1 hJ
    rw [hv] at this ⊢
    exact ⟨hacc, this⟩
  · intro S1 hJ
    refine i_newL fun q S2 n2 e2 x2 => ?_
    repeat walk_at "d"
    refine c_sum (ns := vals ks ps) (lst_ref (by unfold vals; rw [List.map_map]; exact e2)) ?_
    repeat walk_at "d"
    exact h S2 (hJ.trans x2)
theorem find_drop {α : Type} {f : α → Bool} {xs : List α} {j : Nat} {x : α} (hx : xs[j]? = some x) (h : xs.find? f = (xs.drop j).find? f) : xs.find? f = if f x = true then some x else (xs.drop (j + 1)).find? f := by
  have hj : j < xs.length := by
    rcases Nat.lt_or_ge j xs.length with q | q
    · exact q
    · rw [List.getElem?_eq_none q] at hx; cases hx
  rw [List.drop_eq_getElem_cons hj] at h
  rw [List.getElem?_eq_getElem hj] at hx
  rw [h, List.find?_cons]
  obtain rfl := Option.some.inj hx
  cases f xs[j] <;> rfl
theorem any_find {ks : Kept} {ps : List Int} (h : ps.any (has ks) = true) : ∃ k, ks.find? (fun k => decide (k.1 ∈ ps)) = some k := by
  obtain ⟨p, hp, hh⟩ := List.any_eq_true.mp h
  obtain ⟨v, hv⟩ := has_get hh
  have := worth_mem hv
  cases e : ks.find? (fun k => decide (k.1 ∈ ps)) with
  | some k => exact ⟨k, rfl⟩
  | none =>
    rw [List.find?_eq_none] at e
    exact absurd (decide_eq_true (show (p, v).1 ∈ ps from hp)) (e _ this)
theorem raceBy_spec {n : Nat} {ks : Kept} {p : Int} {ps : List Int} {S : DS} {Q : DK} (hc : can ks (.race p ps) = true) (h : Q (.int (firstIn ks ps)) S) : sem fs (n + 2) 5 [keptD ks, (Deed.race p ps).d] S Q := by
  refine run_value_kept_by ?_
  unfold b_5
  repeat walk_at "d"
  refine o_ixT (v := .str "race") rfl ?_
  repeat walk_at "d"
  refine ite_dec (fun q => absurd q (by decide +kernel)) (fun _ => ?_)
  obtain ⟨k0, hk0⟩ := any_find hc
  have hfi : firstIn ks ps = k0.2 := by unfold firstIn; rw [hk0]; rfl
  rw [hfi] at h
  unfold keptD
  repeat walk_at "d"
  refine for_inv (fun j δ S1 => ∃ o2 o3, δ = [some (.tup (ks.map pairD)), some (Deed.race p ps).d, o2, o3] ∧ S1 = S ∧ ks.find? (fun k => decide (k.1 ∈ ps)) = (ks.drop j).find? (fun k => decide (k.1 ∈ ps))) ⟨none, none, rfl, rfl, rfl⟩ (fun _ _ _ _ _ => rfl) ?_ ?_
  · rintro j x δ S1 nx hx hj ⟨o2, o3, rfl, rfl, hw⟩ hnx
    obtain ⟨k, hk, rfl⟩ := map_at hx
    have hd := find_drop hk hw
    rw [hk0] at hd
    unfold pairD
    repeat walk_at "d"
    refine o_ixT (v := .tup (ps.map D.int)) rfl ?_
    refine o_inI ps ?_
    repeat walk_at "d"
    refine ite_dec (fun c => ?_) (fun c => ?_)
    · repeat walk_at "d"
      rw [if_pos (decide_eq_true c)] at hd
      rw [Option.some.inj hd] at h
      exact h
    · repeat walk_at "d"
      rw [if_neg (by rw [decide_eq_false c]; exact Bool.false_ne_true)] at hd
      exact hnx _ _ ⟨_, _, rfl, rfl, by rw [hk0]; exact hd⟩
  · rintro δ S1 ⟨o2, o3, rfl, rfl, hw⟩
    rw [List.length_map, List.drop_length, hk0] at hw
    cases hw
theorem set_opt {cs : List (Option Nat)} {t : Nat} {o : Option Nat} : (cs.map optD).set t (optD o) = (cs.set t o).map optD := by rw [List.map_set]
theorem kept_app {ks : Kept} {p v : Int} : ks.map pairD ++ [D.tup [.int p, .int v]] = (ks ++ [(p, v)]).map pairD := by rw [List.map_append]; rfl
theorem step_of {P : Prog} {s : Stt} {t c : Nat} {e : Deed} (h1 : s.cs[t]? = some (some c)) (h2 : next P s t = some e) : step P s t = ⟨startBy (s.cs.set t (some (c + 1))) s.cs e, keptBy s.kept e⟩ := by unfold step; rw [h1, h2]
theorem sb_none {cs cs0 : List (Option Nat)} {t : Nat} (h : cs0[t]? = some none) : startBy cs cs0 (.start t) = cs.set t (some 0) := if_pos h
theorem sb_some {cs cs0 : List (Option Nat)} {t : Nat} (h : ¬ cs0[t]? = some none) : startBy cs cs0 (.start t) = cs := if_neg h
theorem kb_keep1 {ks : Kept} {p n : Int} {ps : List Int} (h : has ks p = true) : keptBy ks (.keep p n ps) = ks := if_pos h
theorem kb_keep0 {ks : Kept} {p n : Int} {ps : List Int} (h : ¬ has ks p = true) : keptBy ks (.keep p n ps) = ks ++ [(p, n + (vals ks ps).sum)] := if_neg h
theorem kb_race1 {ks : Kept} {p : Int} {ps : List Int} (h : has ks p = true) : keptBy ks (.race p ps) = ks := if_pos h
theorem kb_race0 {ks : Kept} {p : Int} {ps : List Int} (h : ¬ has ks p = true) : keptBy ks (.race p ps) = ks ++ [(p, firstIn ks ps)] := if_neg h
theorem hasS {ks : Kept} {p v : Int} (h : worth ks p = some v) : has ks p = true := by unfold has; rw [h]; rfl
theorem hasN {ks : Kept} {p : Int} (h : worth ks p = none) : ¬ has ks p = true := by unfold has; rw [h]; exact Bool.false_ne_true
theorem step_spec {n : Nat} {P : Prog} {s : Stt} {t : Nat} {S : DS} {Q : DK} (hP : P.ok) (hs : s.ok P) (ht : t < P.rows.length) (hr : canT P s t = true) (h : ∀ S', Ext S S' → Q (step P s t).d S') : sem fs (n + 3) 6 [P.d, s.d, .int (t : Int)] S Q := by
  refine run_stepped ?_
  unfold b_6
  cases hn : next P s t with
  | none => unfold canT at hr; rw [hn] at hr; cases hr
  | some e =>
    have hcan : can s.kept e = true := by unfold canT at hr; rw [hn] at hr; exact hr
    obtain ⟨hok, c, r, h1, h2, h3⟩ := next_ok hP hn
    rw [step_of h1 hn] at h
    have htl : t < s.cs.length := by rw [hs.len]; exact ht
    have hlen := hs.len
    have hn1 := hP.n1
    have hsd : s.d = .tup [.tup (s.cs.map optD), keptD s.kept] := rfl
    rw [hsd]
    repeat walk_at "d"
    rw [← hsd]
    refine next_spec hs ht ?_
    rw [hn]
    show dgName 5 e.d _ _ _
    repeat walk_at "d"
    refine i_newL fun a S1 n1 e1 x1 => ?_
    repeat walk_at "d"
    refine o_ixT (cs_at h1) ?_
    show dC (.int 1) _ _ _
    repeat walk_at "d"
    show oAdd (.int (c : Int)) (.int 1) S1 _
    repeat walk_at "d"
    refine s_ix (m := t) e1 (ixN_at rfl (by rw [List.length_map]; exact htl)) (i_putL fun S2 e2 b2 => ?_)
    have e2' : S2 a = some (.lst ((s.cs.set t (some (c + 1))).map optD)) := by rw [← set_opt]; exact e2
    have x2 := x1.but b2 n1
    clear e1 e2
    cases e with
    | start t' =>
      have ht' : t' < P.rows.length := hok
      have ht2 : t' < s.cs.length := by omega
      repeat walk_at "d"
      refine o_ixT (v := .str "start") rfl ?_
      repeat walk_at "d"
      refine ite_dec (fun _ => ?_) (fun q => absurd rfl q)
      repeat walk_at "d"
      refine o_ixT (v := .int (t' : Int)) rfl ?_
      repeat walk_at "d"
      refine o_ixT (cs_at (List.getElem?_eq_getElem ht2)) ?_
      repeat walk_at "d"
      rw [optD_non]
      cases ho : s.cs[t'] with
      | none =>
        refine ite_t ?_
        repeat walk_at "d"
        refine o_ixT (v := .int (t' : Int)) rfl ?_
        repeat walk_at "d"
        refine s_ix (m := t') e2' (ixN_at rfl (by rw [List.length_map, List.length_set]; exact ht2)) (i_putL fun S3 e3 b3 => ?_)
        rw [show (D.int 0) = optD (some 0) from rfl, set_opt] at e3
        repeat walk_at "d"
        have := h S3 (x2.but b3 n1)
        rw [sb_none (by rw [List.getElem?_eq_getElem ht2, ho])] at this
        exact this
      | some c' =>
        refine ite_f ?_
        repeat walk_at "d"
        have := h S2 x2
        rw [sb_some (by rw [List.getElem?_eq_getElem ht2, ho]; exact fun q => nomatch q)] at this
        exact this
    | wait p =>
      repeat walk_at "d"
      refine o_ixT (v := .str "wait") rfl ?_
      repeat walk_at "d"
      refine ite_dec (fun q => absurd q (by decide +kernel)) (fun _ => ?_)
      repeat walk_at "d"
      refine o_ixT (v := .str "wait") rfl ?_
      repeat walk_at "d"
      refine ite_ndec (fun q => absurd rfl q) (fun _ => ?_)
      repeat walk_at "d"
      exact h S2 x2
    | keep p nn ps =>
      repeat walk_at "d"
      refine o_ixT (v := .str "keep") rfl ?_
      repeat walk_at "d"
      refine ite_dec (fun q => absurd q (by decide +kernel)) (fun _ => ?_)
      repeat walk_at "d"
      refine o_ixT (v := .str "keep") rfl ?_
      repeat walk_at "d"
      refine ite_ndec (fun _ => ?_) (fun q => absurd q (by decide +kernel))
      repeat walk_at "d"
      refine o_ixT (v := .int p) rfl ?_
      repeat walk_at "d"
      refine worth_spec ?_
      repeat walk_at "d"
      rw [optI_non]
      cases hw : worth s.kept p with
      | some v =>
        refine ite_f ?_
        repeat walk_at "d"
        have := h S2 x2
        rw [kb_keep1 (hasS hw)] at this
        exact this
      | none =>
        refine ite_t ?_
        repeat walk_at "d"
        refine o_ixT (v := .int p) rfl ?_
        repeat walk_at "d"
        refine keptBy_spec hok hcan fun S3 x3 => ?_
        have e3 := x3.get e2'
        repeat walk_at "d"
        refine o_addT (xs := s.kept.map pairD) (by rw [List.length_map]; have := hs.kl6 hP; show _ + 1 ≤ _; omega) ?_
        rw [kept_app]
        repeat walk_at "d"
        have := h S3 (x2.trans x3)
        rw [kb_keep0 (hasN hw)] at this
        exact this
    | race p ps =>
      repeat walk_at "d"
      refine o_ixT (v := .str "race") rfl ?_
      repeat walk_at "d"
      refine ite_dec (fun q => absurd q (by decide +kernel)) (fun _ => ?_)
      repeat walk_at "d"
      refine o_ixT (v := .str "race") rfl ?_
      repeat walk_at "d"
      refine ite_ndec (fun _ => ?_) (fun q => absurd q (by decide +kernel))
      repeat walk_at "d"
      refine o_ixT (v := .int p) rfl ?_
      repeat walk_at "d"
      refine worth_spec ?_
      repeat walk_at "d"
      rw [optI_non]
      cases hw : worth s.kept p with
      | some v =>
        refine ite_f ?_
        repeat walk_at "d"
        have := h S2 x2
        rw [kb_race1 (hasS hw)] at this
        exact this
      | none =>
        refine ite_t ?_
        repeat walk_at "d"
        refine o_ixT (v := .int p) rfl ?_
        repeat walk_at "d"
        refine raceBy_spec hcan ?_
        repeat walk_at "d"
        refine o_addT (xs := s.kept.map pairD) (by rw [List.length_map]; have := hs.kl6 hP; show _ + 1 ≤ _; omega) ?_
        rw [kept_app]
        repeat walk_at "d"
        have := h S2 x2
        rw [kb_race0 (hasN hw)] at this
        exact this
theorem keptBy_len {ks : Kept} {e : Deed} : (keptBy ks e).length ≤ ks.length + 1 := by
  cases e with
  | start t => exact Nat.le_succ _
  | wait p => exact Nat.le_succ _
  | keep p n ps =>
    by_cases h : has ks p = true
    · rw [kb_keep1 h]; exact Nat.le_succ _
    · rw [kb_keep0 h, List.length_append]; exact Nat.le_refl _
  | race p ps =>
    by_cases h : has ks p = true
    · rw [kb_race1 h]; exact Nat.le_succ _
    · rw [kb_race0 h, List.length_append]; exact Nat.le_refl _
theorem startBy_at {cs cs0 : List (Option Nat)} {e : Deed} {t : Nat} {o : Option Nat} (h : (startBy cs cs0 e)[t]? = some o) : cs[t]? = some o ∨ (o = some 0 ∧ e = .start t ∧ t < cs.length) := by
  cases e with
  | start t' =>
    by_cases hc : cs0[t']? = some none
    · rw [sb_none hc] at h
      by_cases ht : t' = t
      · subst ht
        have hl : t' < cs.length := by
          rcases Nat.lt_or_ge t' cs.length with q | q
          · exact q
          · rw [List.getElem?_eq_none (by rw [List.length_set]; exact q)] at h; cases h
        rw [List.getElem?_set_self hl] at h
        exact .inr ⟨(Option.some.inj h).symm, rfl, hl⟩
      · rw [List.getElem?_set_ne ht] at h; exact .inl h
    · rw [sb_some hc] at h; exact .inl h
  | wait p => exact .inl h
  | keep p n ps => exact .inl h
  | race p ps => exact .inl h
theorem startBy_len {cs cs0 : List (Option Nat)} {e : Deed} : (startBy cs cs0 e).length = cs.length := by
  cases e with
  | start t' =>
    by_cases hc : cs0[t']? = some none
    · rw [sb_none hc, List.length_set]
    · rw [sb_some hc]
  | wait p => rfl
  | keep p n ps => rfl
  | race p ps => rfl
theorem startBy_sum {cs cs0 : List (Option Nat)} {e : Deed} (h : ∀ t : Nat, cs0[t]? = some none → cs[t]? = some none) : (cs.map fun o => o.getD 0).sum ≤ ((startBy cs cs0 e).map fun o => o.getD 0).sum := by
  cases e with
  | start t' =>
    by_cases hc : cs0[t']? = some none
    · rw [sb_none hc]
      have := sum_set cs t' none (some 0) (h t' hc)
      simp only [Option.getD_some, Option.getD_none] at this
      omega
    · rw [sb_some hc]; exact Nat.le_refl _
  | wait p => exact Nat.le_refl _
  | keep p n ps => exact Nat.le_refl _
  | race p ps => exact Nat.le_refl _
theorem step_ok {P : Prog} (hP : P.ok) {s : Stt} (hs : s.ok P) {t : Nat} (hr : canT P s t = true) : (step P s t).ok P := by
  cases hn : next P s t with
  | none => unfold canT at hr; rw [hn] at hr; cases hr
  | some e =>
    obtain ⟨hok, c, r, h1, h2, h3⟩ := next_ok hP hn
    rw [step_of h1 hn]
    have htl : t < s.cs.length := by
      rcases Nat.lt_or_ge t s.cs.length with q | q
      · exact q
      · rw [List.getElem?_eq_none q] at h1; cases h1
    have hcr : c < r.length := by
      rcases Nat.lt_or_ge c r.length with q | q
      · exact q
      · rw [List.getElem?_eq_none q] at h3; cases h3
    refine ⟨by dsimp only; rw [startBy_len, List.length_set]; exact hs.len, fun t' c' r' hc hr' => ?_, ?_⟩
    · rcases startBy_at hc with q | ⟨q, _, _⟩
      · by_cases ht : t = t'
        · subst ht
          rw [List.getElem?_set_self htl] at q
          have := Option.some.inj (Option.some.inj q)
          rw [h2] at hr'
          obtain rfl := Option.some.inj hr'
          omega
        · rw [List.getElem?_set_ne ht] at q
          exact hs.le t' c' r' q hr'
      · have := Option.some.inj q; omega
    · dsimp only
      have k1 := keptBy_len (ks := s.kept) (e := e)
      have k2 := sum_set s.cs t (some c) (some (c + 1)) h1
      simp only [Option.getD_some] at k2
      have k3 := startBy_sum (cs := s.cs.set t (some (c + 1))) (cs0 := s.cs) (e := e) fun t' ht' => by
        by_cases ht : t = t'
        · subst ht; rw [h1] at ht'; cases ht'
        · rw [List.getElem?_set_ne ht]; exact ht'
      have := hs.kl
      omega
theorem canT_lt {P : Prog} {s : Stt} {t : Nat} (hP : P.ok) (h : canT P s t = true) : t < P.rows.length := by
  unfold canT at h
  split at h
  · rename_i e he
    obtain ⟨_, c, r, _, h2, _⟩ := next_ok hP he
    rcases Nat.lt_or_ge t P.rows.length with q | q
    · exact q
    · rw [List.getElem?_eq_none q] at h2; cases h2
  · cases h
theorem ready_mem {P : Prog} {s : Stt} {t : Nat} (h : t ∈ ready P s) : canT P s t = true := (List.mem_filter.mp h).2
theorem had_map {ks : Kept} : ks.map (fun k => D.int k.1) = (ks.map (·.1)).map D.int := by rw [List.map_map]; rfl
theorem lcan_spec {n : Nat} {P : Prog} {s : Stt} {t : Nat} {S : DS} {Q : DK} (hP : P.ok) (hs : s.ok P) (ht : t < P.rows.length) (h : ∀ S', Ext S S' → Q (.bl (canT P s t)) S') : sem fs (n + 2) 28 [P.d, s.d, .int (t : Int)] S Q := by
  refine run__law_can ?_
  unfold b_28
  obtain ⟨o, r, h1, h2, h3⟩ := at_task hs ht
  have hnx := next_of h1 h2
  repeat walk_at "d"
  refine o_ixT (v := .tup (s.cs.map optD)) rfl ?_
  repeat walk_at "d"
  refine o_ixT (cs_at h1) ?_
  repeat walk_at "d"
  cases o with
  | none =>
    refine ite_t ?_
    repeat walk_at "d"
    have := h S (Ext.refl S)
    unfold canT at this
    rw [hnx] at this
    exact this
  | some c =>
    refine ite_f ?_
    repeat walk_at "d"
    refine o_ixT (v := .tup (P.rows.map rowD)) rfl ?_
    repeat walk_at "d"
    refine o_ixT (row_at h2) ?_
    repeat walk_at "d"
    refine c_lenT (xs := r.map Deed.d) ?_
    rw [List.length_map]
    refine o_geI (k := (c : Int)) ?_
    repeat walk_at "d"
    have h3' := h3 c rfl
    refine ite_dec (fun q => ?_) (fun q => ?_)
    · repeat walk_at "d"
      have := h S (Ext.refl S)
      unfold canT at this
      rw [hnx, Option.bind_some, List.getElem?_eq_none (by omega)] at this
      exact this
    · have hlt : c < r.length := by omega
      have hn : next P s t = some r[c] := by rw [hnx, Option.bind_some, List.getElem?_eq_getElem hlt]
      obtain ⟨hok, _⟩ := next_ok hP hn
      have hcan : canT P s t = can s.kept r[c] := by unfold canT; rw [hn]
      rw [hcan] at h
      repeat walk_at "d"
      refine o_ixT (v := .tup (P.rows.map rowD)) rfl ?_
      repeat walk_at "d"
      refine o_ixT (row_at h2) ?_
      repeat walk_at "d"
      refine o_ixT (xs := r.map Deed.d) (k := (c : Int)) (deed_at (List.getElem?_eq_getElem hlt)) ?_
      generalize r[c] = e at h hok
      repeat walk_at "d"
      refine o_ixT (v := keptD s.kept) rfl ?_
      unfold keptD
      repeat walk_at "d"
      refine lc_map (fun k => D.int k.1) (Ext S) (Nat.le_trans (hs.kl6 hP) (by decide)) (Ext.refl S) (fun _ _ => rfl) ?_ ?_
      · intro k hk acc S1 nx hacc hJ hnx'
        repeat walk_at "d"
        refine o_ixT (v := .int k.1) rfl ?_
        exact ⟨hacc, hnx' S1 hJ⟩
      intro S1 x1
      rw [had_map]
      refine i_newL fun q S2 n2 e2 x2 => ?_
      have X2 := x1.trans x2
      have mem : ∀ S3 p, Ext S2 S3 → ∀ Q1 : DK, Q1 (.bl (has s.kept p)) S3 → oIn false (.int p) (.ref q) S3 Q1 := fun S3 p x3 Q1 hq => o_inIL _ (x3.get e2) (by rw [has_dec]; exact hq)
      cases e with
      | start t' =>
        repeat walk_at "d"
        refine o_ixT (v := .str "start") rfl ?_
        repeat walk_at "d"
        refine ite_dec (fun q => absurd q (by decide +kernel)) (fun _ => ?_)
        repeat walk_at "d"
        refine o_ixT (v := .str "start") rfl ?_
        repeat walk_at "d"
        refine ite_dec (fun q => absurd q (by decide +kernel)) (fun _ => ?_)
        repeat walk_at "d"
        refine o_ixT (v := .str "start") rfl ?_
        repeat walk_at "d"
        refine ite_dec (fun q => absurd q (by decide +kernel)) (fun _ => ?_)
        repeat walk_at "d"
        exact h S2 X2
      | wait p =>
        repeat walk_at "d"
        refine o_ixT (v := .str "wait") rfl ?_
        repeat walk_at "d"
        refine ite_dec (fun _ => ?_) (fun q => absurd rfl q)
        repeat walk_at "d"
        refine o_ixT (v := .int p) rfl ?_
        repeat walk_at "d"
        exact mem S2 p (Ext.refl _) _ (h S2 X2)
      | keep p nn ps =>
        repeat walk_at "d"
        refine o_ixT (v := .str "keep") rfl ?_
        repeat walk_at "d"
        refine ite_dec (fun q => absurd q (by decide +kernel)) (fun _ => ?_)
        repeat walk_at "d"
        refine o_ixT (v := .str "keep") rfl ?_
        repeat walk_at "d"
        refine ite_dec (fun _ => ?_) (fun q => absurd rfl q)
        repeat walk_at "d"
        refine o_ixT (v := .tup (ps.map D.int)) rfl ?_
        repeat walk_at "d"
        refine lc_map (fun p => D.bl (has s.kept p)) (Ext S2) (Nat.le_trans hok (by decide)) (Ext.refl S2) (fun _ _ => rfl) ?_ ?_
        · intro p' hp acc S3 nx hacc hJ hnx'
          repeat walk_at "d"
          exact mem S3 p' hJ (fun y S4 => acc.length < 16777216 ∧ nx (acc ++ [y]) S4) ⟨hacc, hnx' S3 hJ⟩
        · intro S3 hJ
          refine i_newL fun a S4 n4 e4 x4 => ?_
          have e4' : S4 a = some (.lst ((ps.map (has s.kept)).map D.bl)) := by rw [List.map_map]; exact e4
          refine o_inBL true e4' ?_
          have := h S4 ((X2.trans hJ).trans x4)
          unfold can at this
          rwa [show (true ^^ decide (false ∈ ps.map (has s.kept))) = ps.all (has s.kept) by
            rw [Bool.true_xor, Bool.eq_iff_iff, Bool.not_eq_true', decide_eq_false_iff_not, List.all_eq_true]
            constructor
            · exact fun h1 x hx => by
                cases hb : has s.kept x with
                | true => rfl
                | false => exact absurd (List.mem_map.mpr ⟨x, hx, hb⟩) h1
            · rintro h1 h2
              obtain ⟨x, hx, hb⟩ := List.mem_map.mp h2
              rw [h1 x hx] at hb; cases hb]
      | race p ps =>
        repeat walk_at "d"
        refine o_ixT (v := .str "race") rfl ?_
        repeat walk_at "d"
        refine ite_dec (fun q => absurd q (by decide +kernel)) (fun _ => ?_)
        repeat walk_at "d"
        refine o_ixT (v := .str "race") rfl ?_
        repeat walk_at "d"
        refine ite_dec (fun q => absurd q (by decide +kernel)) (fun _ => ?_)
        repeat walk_at "d"
        refine o_ixT (v := .str "race") rfl ?_
        repeat walk_at "d"
        refine ite_dec (fun _ => ?_) (fun q => absurd rfl q)
        repeat walk_at "d"
        refine o_ixT (v := .tup (ps.map D.int)) rfl ?_
        repeat walk_at "d"
        refine lc_map (fun p => D.bl (has s.kept p)) (Ext S2) (Nat.le_trans hok (by decide)) (Ext.refl S2) (fun _ _ => rfl) ?_ ?_
        · intro p' hp acc S3 nx hacc hJ hnx'
          repeat walk_at "d"
          exact mem S3 p' hJ (fun y S4 => acc.length < 16777216 ∧ nx (acc ++ [y]) S4) ⟨hacc, hnx' S3 hJ⟩
        · intro S3 hJ
          refine i_newL fun a S4 n4 e4 x4 => ?_
          have e4' : S4 a = some (.lst ((ps.map (has s.kept)).map D.bl)) := by rw [List.map_map]; exact e4
          refine o_inBL false e4' ?_
          have := h S4 ((X2.trans hJ).trans x4)
          unfold can at this
          rwa [show (false ^^ decide (true ∈ ps.map (has s.kept))) = ps.any (has s.kept) by
            rw [Bool.false_xor, Bool.eq_iff_iff, decide_eq_true_iff, List.any_eq_true, List.mem_map]]
theorem lready_spec {n : Nat} {P : Prog} {s : Stt} {S : DS} {Q : DK} (hP : P.ok) (hs : s.ok P) (h : ∀ a S', S a = none → S' a = some (.lst (natsD (ready P s))) → Ext S S' → Q (.ref a) S') : sem fs (n + 3) 29 [P.d, s.d] S Q := by
  refine run__law_ready ?_
  unfold b_29
  have h1 := hP.n1
  repeat walk_at "d"
  refine o_ixT (v := .tup (P.rows.map rowD)) rfl ?_
  repeat walk_at "d"
  rw [List.length_map]
  refine i_rng1V (by omega) ?_
  rw [Int.toNat_natCast, rng_map]
  refine lc_fm (fun t => if canT P s t = true then some (D.int (t : Int)) else none) (Ext S) (by rw [List.length_range]; omega) (Ext.refl S) (fun _ _ => True.intro) ?_ ?_
  · intro t ht acc S1 nx hacc hJ hnx
    rw [Int.zero_add]
    repeat walk_at "d"
    refine lcan_spec hP hs (List.mem_range.mp ht) fun S2 x2 => ?_
    have := hnx S2 (hJ.trans x2)
    repeat walk_at "d"
    refine ite_b (fun c => ?_) (fun c => ?_)
    · rw [if_pos c] at this
      repeat walk_at "d"
      exact ⟨hacc, this⟩
    · rw [if_neg (by rw [c]; exact Bool.false_ne_true)] at this
      simpa using this
  · intro S1 hJ
    have e : (List.range P.rows.length).filterMap (fun t => if canT P s t = true then some (D.int (t : Int)) else none) = natsD (ready P s) := by
      unfold natsD ready
      generalize List.range P.rows.length = l
      induction l with
      | nil => rfl
      | cons x l ih =>
        rw [List.filterMap_cons, List.filter_cons]
        by_cases c : canT P s x = true
        · rw [if_pos c, if_pos c, List.map_cons, ih]
        · rw [if_neg c, if_neg c, ih]
    rw [e]
    exact i_newL fun a S2 n2 e2 x2 => h a S2 (Ext.back hJ n2) e2 (hJ.trans x2)
theorem lstep_spec {n : Nat} {P : Prog} {s : Stt} {t : Nat} {S : DS} {Q : DK} (hP : P.ok) (hs : s.ok P) (hr : canT P s t = true) (h : ∀ S', Ext S S' → Q (step P s t).d S') : sem fs (n + 2) 30 [P.d, s.d, .int (t : Int)] S Q := by
  refine run__law_step ?_
  unfold b_30
  have ht := canT_lt hP hr
  cases hn : next P s t with
  | none => unfold canT at hr; rw [hn] at hr; cases hr
  | some e =>
    have hcan : can s.kept e = true := by unfold canT at hr; rw [hn] at hr; exact hr
    obtain ⟨hok, c, r, h1, h2, h3⟩ := next_ok hP hn
    rw [step_of h1 hn] at h
    have htl : t < s.cs.length := by rw [hs.len]; exact ht
    have hlen := hs.len
    have hn1 := hP.n1
    have hkl := hs.kl6 hP
    have hsd : s.d = .tup [.tup (s.cs.map optD), keptD s.kept] := rfl
    rw [hsd]
    repeat walk_at "d"
    rw [← hsd]
    refine o_ixT (v := .tup (P.rows.map rowD)) rfl ?_
    repeat walk_at "d"
    refine o_ixT (row_at h2) ?_
    repeat walk_at "d"
    refine o_ixT (cs_at h1) ?_
    refine o_ixT (xs := r.map Deed.d) (k := (c : Int)) (deed_at h3) ?_
    repeat walk_at "d"
    refine i_newL fun a S1 n1 e1 x1 => ?_
    repeat walk_at "d"
    refine o_ixT (cs_at h1) ?_
    show dC (.int 1) _ _ _
    repeat walk_at "d"
    show oAdd (.int (c : Int)) (.int 1) S1 _
    repeat walk_at "d"
    refine s_ix (m := t) e1 (ixN_at rfl (by rw [List.length_map]; exact htl)) (i_putL fun S2 e2 b2 => ?_)
    have e2' : S2 a = some (.lst ((s.cs.set t (some (c + 1))).map optD)) := by rw [← set_opt]; exact e2
    have x2 := x1.but b2 n1
    clear e1 e2
    cases e with
    | start t' =>
      have ht' : t' < P.rows.length := hok
      have ht2 : t' < s.cs.length := by omega
      have tail : ∀ S3 (cs : List (Option Nat)), S3 a = some (.lst (cs.map optD)) → Q (.tup [.tup (cs.map optD), keptD s.kept]) S3 → (dSeq (dIf (dAnd (dTb (dOp (oEq false) (dOp oIx (dVar 5) (dC (.int 0))) (dC (.str "keep")))) (dTb (dOp (oIs false) (dCall (sem fs (n + 1) 27) (dCons (dVar 4) (dCons (dOp oIx (dVar 5) (dC (.int 1))) dNil))) (dC .non)))) (dAsg (dOp oAdd (dVar 4) (dTup (dCons (dTup (dCons (dOp oIx (dVar 5) (dC (.int 1))) (dCons (dOp oAdd (dOp oIx (dVar 5) (dC (.int 2))) (dCall bSum (dCons (dLc (dIter (dOp oIx (dVar 5) (dC (.int 3)))) (dgName 7) dYes (dCall (sem fs (n + 1) 27) (dCons (dVar 4) (dCons (dVar 7) dNil))) [7]) dNil))) dNil))) dNil))) (dgName 4)) dNext)
          (dSeq (dIf (dAnd (dTb (dOp (oEq false) (dOp oIx (dVar 5) (dC (.int 0))) (dC (.str "race")))) (dTb (dOp (oIs false) (dCall (sem fs (n + 1) 27) (dCons (dVar 4) (dCons (dOp oIx (dVar 5) (dC (.int 1))) dNil))) (dC .non)))) (dAsg (dOp oAdd (dVar 4) (dTup (dCons (dTup (dCons (dOp oIx (dVar 5) (dC (.int 1))) (dCons (dOp oIx (dLc (dIter (dVar 4)) (dgName 8) (dTb (dOp (oIn false) (dOp oIx (dVar 8) (dC (.int 0))) (dOp oIx (dVar 5) (dC (.int 2))))) (dOp oIx (dVar 8) (dC (.int 1))) [8]) (dC (.int 0))) dNil))) dNil))) (dgName 4)) dNext)
          (dRet (dTup (dCons (dCall bTuple (dCons (dVar 6) dNil)) (dCons (dVar 4) dNil)))))) { nx := fun _ S' => Q .non S', rt := Q, bk := fun _ _ => False, ct := fun _ _ => False } [some P.d, some s.d, some (.int (t : Int)), some (.tup (s.cs.map optD)), some (keptD s.kept), some (Deed.start t').d, some (.ref a), none, none] S3 := by
        intro S3 cs e3 hq
        repeat walk_at "d"
        refine o_ixT (v := .str "start") rfl ?_
        repeat walk_at "d"
        refine ite_dec (fun q => absurd q (by decide +kernel)) (fun _ => ?_)
        repeat walk_at "d"
        refine o_ixT (v := .str "start") rfl ?_
        repeat walk_at "d"
        refine ite_dec (fun q => absurd q (by decide +kernel)) (fun _ => ?_)
        repeat walk_at "d"
        exact hq
      repeat walk_at "d"
      refine o_ixT (v := .str "start") rfl ?_
      repeat walk_at "d"
      refine ite_dec (fun _ => ?_) (fun q => absurd rfl q)
      repeat walk_at "d"
      refine o_ixT (v := .int (t' : Int)) rfl ?_
      repeat walk_at "d"
      refine o_ixT (cs_at (List.getElem?_eq_getElem ht2)) ?_
      repeat walk_at "d"
      rw [optD_non]
      cases ho : s.cs[t'] with
      | none =>
        refine ite_t ?_
        repeat walk_at "d"
        refine o_ixT (v := .int (t' : Int)) rfl ?_
        repeat walk_at "d"
        refine s_ix (m := t') e2' (ixN_at rfl (by rw [List.length_map, List.length_set]; exact ht2)) (i_putL fun S3 e3 b3 => ?_)
        rw [show (D.int 0) = optD (some 0) from rfl, set_opt] at e3
        refine tail S3 _ e3 ?_
        have := h S3 (x2.but b3 n1)
        rw [sb_none (by rw [List.getElem?_eq_getElem ht2, ho])] at this
        exact this
      | some c' =>
        refine ite_f (i_next ?_)
        refine tail S2 _ e2' ?_
        have := h S2 x2
        rw [sb_some (by rw [List.getElem?_eq_getElem ht2, ho]; exact fun q => nomatch q)] at this
        exact this
    | wait p =>
      repeat walk_at "d"
      refine o_ixT (v := .str "wait") rfl ?_
      repeat walk_at "d"
      refine ite_dec (fun q => absurd q (by decide +kernel)) (fun _ => ?_)
      repeat walk_at "d"
      refine o_ixT (v := .str "wait") rfl ?_
      repeat walk_at "d"
      refine ite_dec (fun q => absurd q (by decide +kernel)) (fun _ => ?_)
      repeat walk_at "d"
      refine o_ixT (v := .str "wait") rfl ?_
      repeat walk_at "d"
      refine ite_dec (fun q => absurd q (by decide +kernel)) (fun _ => ?_)
      repeat walk_at "d"
      exact h S2 x2
    | keep p nn ps =>
      repeat walk_at "d"
      refine o_ixT (v := .str "keep") rfl ?_
      repeat walk_at "d"
      refine ite_dec (fun q => absurd q (by decide +kernel)) (fun _ => ?_)
      repeat walk_at "d"
      refine o_ixT (v := .str "keep") rfl ?_
      repeat walk_at "d"
      refine ite_dec (fun _ => ?_) (fun q => absurd rfl q)
      repeat walk_at "d"
      refine o_ixT (v := .int p) rfl ?_
      repeat walk_at "d"
      refine lworth_spec ?_
      repeat walk_at "d"
      rw [optI_non]
      cases hw : worth s.kept p with
      | some v =>
        refine ite_f ?_
        repeat walk_at "d"
        refine o_ixT (v := .str "keep") rfl ?_
        repeat walk_at "d"
        refine ite_dec (fun q => absurd q (by decide +kernel)) (fun _ => ?_)
        repeat walk_at "d"
        have := h S2 x2
        rw [kb_keep1 (hasS hw)] at this
        exact this
      | none =>
        refine ite_t ?_
        repeat walk_at "d"
        refine o_ixT (v := .int p) rfl ?_
        repeat walk_at "d"
        refine o_ixT (v := .int nn) rfl ?_
        repeat walk_at "d"
        refine o_ixT (v := .tup (ps.map D.int)) rfl ?_
        repeat walk_at "d"
        refine lc_map (fun p => D.int ((worth s.kept p).getD 0)) (Ext S2) (Nat.le_trans hok (by decide)) (Ext.refl S2) (fun _ _ => rfl) ?_ ?_
        · intro p' hp acc S3 nx hacc hJ hnx
          repeat walk_at "d"
          refine lworth_spec ?_
          obtain ⟨v, hv⟩ := has_get (List.all_eq_true.mp hcan p' hp)
          have := hnx S3 hJ
          rw [hv] at this ⊢
          exact ⟨hacc, this⟩
        · intro S3 hJ
          refine i_newL fun q S4 n4 e4 x4 => ?_
          have x24 := hJ.trans x4
          have e4a := x24.get e2'
          repeat walk_at "d"
          refine c_sum (ns := vals s.kept ps) (lst_ref (by unfold vals; rw [List.map_map]; exact e4)) ?_
          repeat walk_at "d"
          refine o_addT (xs := s.kept.map pairD) (by rw [List.length_map]; show _ + 1 ≤ _; omega) ?_
          rw [kept_app]
          repeat walk_at "d"
          refine o_ixT (v := .str "keep") rfl ?_
          repeat walk_at "d"
          refine ite_dec (fun q => absurd q (by decide +kernel)) (fun _ => ?_)
          repeat walk_at "d"
          have := h S4 (x2.trans x24)
          rw [kb_keep0 (hasN hw)] at this
          exact this
    | race p ps =>
      repeat walk_at "d"
      refine o_ixT (v := .str "race") rfl ?_
      repeat walk_at "d"
      refine ite_dec (fun q => absurd q (by decide +kernel)) (fun _ => ?_)
      repeat walk_at "d"
      refine o_ixT (v := .str "race") rfl ?_
      repeat walk_at "d"
      refine ite_dec (fun q => absurd q (by decide +kernel)) (fun _ => ?_)
      repeat walk_at "d"
      refine o_ixT (v := .str "race") rfl ?_
      repeat walk_at "d"
      refine ite_dec (fun _ => ?_) (fun q => absurd rfl q)
      repeat walk_at "d"
      refine o_ixT (v := .int p) rfl ?_
      repeat walk_at "d"
      refine lworth_spec ?_
      repeat walk_at "d"
      rw [optI_non]
      cases hw : worth s.kept p with
      | some v =>
        refine ite_f ?_
        repeat walk_at "d"
        have := h S2 x2
        rw [kb_race1 (hasS hw)] at this
        exact this
      | none =>
        refine ite_t ?_
        repeat walk_at "d"
        refine o_ixT (v := .int p) rfl ?_
        unfold keptD
        repeat walk_at "d"
        refine lc_fm (fun k : Int × Int => if k.1 ∈ ps then some (D.int k.2) else none) (Ext S2) (Nat.le_trans hkl (by decide)) (Ext.refl S2) (fun _ _ => rfl) ?_ ?_
        · intro k hk acc S3 nx hacc hJ hnx
          repeat walk_at "d"
          refine o_ixT (v := .int k.1) rfl ?_
          repeat walk_at "d"
          refine o_ixT (v := .tup (ps.map D.int)) rfl ?_
          refine o_inI ps ?_
          have := hnx S3 hJ
          repeat walk_at "d"
          refine ite_dec (fun c => ?_) (fun c => ?_)
          · rw [if_pos c] at this
            repeat walk_at "d"
            refine o_ixT (v := .int k.2) rfl ?_
            exact ⟨hacc, this⟩
          · rw [if_neg c] at this
            simpa using this
        · intro S3 hJ
          refine i_newL fun q S4 n4 e4 x4 => ?_
          have x24 := hJ.trans x4
          have e4a := x24.get e2'
          obtain ⟨k0, hk0⟩ := any_find hcan
          have hfi : firstIn s.kept ps = k0.2 := by unfold firstIn; rw [hk0]; rfl
          have hh : (s.kept.filterMap fun k : Int × Int => if k.1 ∈ ps then some (D.int k.2) else none)[0]? = some (D.int (firstIn s.kept ps)) := by
            rw [hfi]
            clear hfi hkl hsd h1 hlen htl e2' hn e4a
            generalize s.kept = ks at hk0
            induction ks with
            | nil => cases hk0
            | cons x ks ih =>
              rw [List.find?_cons] at hk0
              by_cases c : x.1 ∈ ps
              · rw [decide_eq_true c] at hk0
                obtain rfl := Option.some.inj hk0
                rw [List.filterMap_cons, if_pos c]
                rfl
              · rw [decide_eq_false c] at hk0
                rw [List.filterMap_cons, if_neg c]
                exact ih hk0
          repeat walk_at "d"
          refine o_ixL e4 (atI_at (j := 0) rfl hh) ?_
          repeat walk_at "d"
          refine o_addT (xs := s.kept.map pairD) (by rw [List.length_map]; show _ + 1 ≤ _; omega) ?_
          rw [kept_app]
          repeat walk_at "d"
          have := h S4 (x2.trans x24)
          rw [kb_race0 (hasN hw)] at this
          exact this
def after (P : Prog) : Stt → List Nat → Stt
  | s, [] => s
  | s, t :: r => after P (step P s t) r
def goesOn (P : Prog) : Stt → List Nat → Prop
  | _, [] => True
  | s, t :: r => canT P s t = true ∧ goesOn P (step P s t) r
theorem after_app {P : Prog} : ∀ (r : List Nat) (s : Stt) (q : List Nat), after P s (r ++ q) = after P (after P s r) q
  | [], s, q => rfl
  | t :: r, s, q => after_app r (step P s t) q
theorem goes_app {P : Prog} : ∀ (r : List Nat) (s : Stt) (q : List Nat), goesOn P s (r ++ q) ↔ goesOn P s r ∧ goesOn P (after P s r) q
  | [], s, q => ⟨fun h => ⟨True.intro, h⟩, fun h => h.2⟩
  | t :: r, s, q => by
    show (canT P s t = true ∧ goesOn P (step P s t) (r ++ q)) ↔ (canT P s t = true ∧ goesOn P (step P s t) r) ∧ goesOn P (after P (step P s t) r) q
    rw [goes_app r (step P s t) q, and_assoc]
theorem after_ok {P : Prog} (hP : P.ok) : ∀ (r : List Nat) (s : Stt), s.ok P → goesOn P s r → (after P s r).ok P
  | [], s, h, _ => h
  | t :: r, s, h, g => after_ok hP r (step P s t) (step_ok hP h g.1) g.2
theorem goes_take {P : Prog} {r : List Nat} {s : Stt} (h : goesOn P s r) (k : Nat) : goesOn P s (r.take k) := by
  have := (goes_app (P := P) (r.take k) s (r.drop k)).mp (by rw [List.take_append_drop]; exact h)
  exact this.1
theorem goes_at {P : Prog} {r : List Nat} {s : Stt} (h : goesOn P s r) {j t : Nat} (ht : r[j]? = some t) : canT P (after P s (r.take j)) t = true := by
  have := (goes_app (P := P) (r.take (j + 1)) s (r.drop (j + 1))).mp (by rw [List.take_append_drop]; exact h)
  have h2 := this.1
  rw [take_succ' ht] at h2
  exact ((goes_app _ _ _).mp h2).2.1
def InR (m : Nat) (p : Int) : Prop := 0 ≤ p ∧ p < (m : Int)
abbrev Asc (ps : List Int) : Prop := ps.Pairwise (· < ·)
def Deed.wf (m : Nat) : Deed → Prop
  | .start t => 1 ≤ t
  | .wait p => InR m p
  | .keep p _ ps => InR m p ∧ (∀ q ∈ ps, InR m q) ∧ Asc ps
  | .race p ps => InR m p ∧ (∀ q ∈ ps, InR m q) ∧ Asc ps ∧ ps ≠ []
def Prog.wf (P : Prog) : Prop := ∀ r ∈ P.rows, ∀ e ∈ r, e.wf P.many
def Good (n m : Nat) (e : Deed) : Prop := e.ok n ∧ e.wf m
theorem asc_sort {ns : List Int} (h : ns.Nodup) : Asc (ns.mergeSort fun a b => decide (a ≤ b)) := by
  have h1 : (ns.mergeSort fun a b => decide (a ≤ b)).Pairwise fun a b => decide (a ≤ b) = true := List.pairwise_mergeSort (fun a b c => by simp only [decide_eq_true_eq]; omega) (fun a b => by simp only [Bool.or_eq_true, decide_eq_true_eq]; omega) ns
  have h2 : (ns.mergeSort fun a b => decide (a ≤ b)).Nodup := (List.mergeSort_perm ns _).nodup_iff.mpr h
  refine List.Pairwise.imp₂ (fun a b h1 h2 => ?_) h1 h2
  have := of_decide_eq_true h1
  have h2' : a ≠ b := h2
  omega
theorem mem_sort {ns : List Int} {x : Int} : x ∈ ns.mergeSort (fun a b => decide (a ≤ b)) ↔ x ∈ ns := (List.mergeSort_perm ns _).mem_iff
theorem some_spec {n : Nat} {S : DS} {d r : Addr} {ns : List Int} {mm : Int} {Q : DK} (hd : Drw S d) (hr : S r = some (.lst (ns.map D.int))) (hne : ns ≠ []) (hrd : r ≠ d) (hm : 1 ≤ mm ∧ mm ≤ 900)
    (h : ∀ a ms S', (∀ x ∈ ms, x ∈ ns) → Asc ms → ms ≠ [] → (ms.length : Int) ≤ mm → S a = none → S' a = some (.lst (ms.map D.int)) → a ≠ d → But d S S' → Drw S' d → Q (.ref a) S') : sem fs (n + 3) 22 [.ref d, .ref r, .int mm] S Q := by
  refine run__law_some_of ?_
  unfold b_22
  repeat walk_at "d"
  refine i_newL fun a S1 n1 e1 x1 => ?_
  have nad := hd.ne' n1
  have nar : a ≠ r := (dne hr n1).symm
  repeat walk_at "d"
  refine take_spec (hd.ext x1) (by omega) fun k S2 k0 k1 b2 d2 => ?_
  repeat walk_at "d"
  refine i_rng1V (by omega) (for_inv (fun j δ S3 => ∃ o4 o5 ms, δ = [some (.ref d), some (.ref r), some (.int mm), some (.ref a), o4, o5] ∧ (∀ x ∈ ms, x ∈ ns) ∧ ms.Nodup ∧ ms.length ≤ j ∧ (1 ≤ j → ms ≠ []) ∧ S3 a = some (.lst (ms.map D.int)) ∧ S3 r = some (.lst (ns.map D.int)) ∧ But d S S3 ∧ Drw S3 d) ⟨none, none, [], rfl, (fun x hx => by cases hx), List.nodup_nil, Nat.le_refl _, fun e => by omega, b2.get nad e1, b2.get hrd (x1.get hr), x1.toBut.trans b2, d2⟩ (fun _ _ _ _ _ => True.intro) ?_ ?_)
  · rintro j x δ S3 nx hx hj ⟨o4, o5, ms, rfl, h1, h2, h3, h4, e3, g3, b3, d3⟩ hnx
    obtain ⟨rfl, hjm⟩ := rng_at hx
    repeat walk_at "d"
    refine pick_spec d3 g3 (fun e => hne (List.map_eq_nil_iff.mp e)) hrd fun v S4 hv b4 d4 => ?_
    obtain ⟨z, hz, rfl⟩ := List.mem_map.mp hv
    have e4 := b4.get nad e3
    have g4 := b4.get hrd g3
    repeat walk_at "d"
    refine o_notinIL ms e4 ?_
    repeat walk_at "d"
    refine ite_ndec (fun c => ?_) (fun c => ?_)
    · repeat walk_at "d"
      refine m_append e4 (by rw [List.length_append, List.length_map]; show ms.length + 1 ≤ _; omega) (i_putL fun S5 e5 b5 => ?_)
      refine hnx _ _ ⟨_, _, ms ++ [z], rfl, fun x hx => ?_, ?_, by rw [List.length_append]; show ms.length + 1 ≤ _; omega, fun _ => by simp, by rw [List.map_append]; exact e5, b5.get nar.symm g4, (b3.trans b4).but b5 n1, d4.but b5 nad.symm⟩
      · rcases List.mem_append.mp hx with q | q
        · exact h1 x q
        · rw [List.mem_singleton.mp q]; exact hz
      · rw [List.nodup_append]
        refine ⟨h2, List.nodup_cons.mpr ⟨List.not_mem_nil, List.nodup_nil⟩, fun x hx y hy e => ?_⟩
        rw [List.mem_singleton] at hy
        subst e hy
        exact c hx
    · repeat walk_at "d"
      exact hnx _ _ ⟨_, _, ms, rfl, h1, h2, by omega, (fun _ e => by subst e; cases c), e4, g4, b3.trans b4, d4⟩
  · rintro δ S3 ⟨o4, o5, ms, rfl, h1, h2, h3, h4, e3, g3, b3, d3⟩
    rw [rng_len] at h3 h4
    repeat walk_at "d"
    refine c_sortedI (lst_ref e3) (i_newL fun b S4 n4 e4 x4 => ?_)
    have nb : S b = none := b3.back (d3.ne' n4) n4
    refine h b _ S4 (fun x hx => h1 x (mem_sort.mp hx)) (asc_sort h2) (fun e => h4 (by omega) ?_) ?_ nb e4 (d3.ne' n4) (b3.ext x4) (d3.ext x4)
    · have := congrArg List.length e
      rw [List.length_mergeSort] at this
      exact List.eq_nil_of_length_eq_zero this
    · rw [List.length_mergeSort]; omega
theorem setof_spec {n : Nat} {S : DS} {d r : Addr} {ns : List Int} {mm : Int} {Q : DK} (hd : Drw S d) (hr : S r = some (.lst (ns.map D.int))) (hne : ns ≠ [] ∨ mm = 0) (hrd : r ≠ d) (hm : 0 ≤ mm ∧ mm ≤ 900)
    (h : ∀ ms S', (∀ x ∈ ms, x ∈ ns) → Asc ms → (ms.length : Int) ≤ mm → But d S S' → Drw S' d → Q (intsD ms) S') : sem fs (n + 3) 36 [.ref d, .ref r, .int mm] S Q := by
  refine run__law_set_of ?_
  unfold b_36
  repeat walk_at "d"
  refine i_newL fun a S1 n1 e1 x1 => ?_
  have nad := hd.ne' n1
  have nar : a ≠ r := (dne hr n1).symm
  repeat walk_at "d"
  refine take_spec (hd.ext x1) (by omega) fun k S2 k0 k1 b2 d2 => ?_
  repeat walk_at "d"
  refine i_rng1V (by omega) (for_inv (fun j δ S3 => ∃ o4 o5 ms, δ = [some (.ref d), some (.ref r), some (.int mm), some (.ref a), o4, o5] ∧ (∀ x ∈ ms, x ∈ ns) ∧ ms.Nodup ∧ ms.length ≤ j ∧ S3 a = some (.lst (ms.map D.int)) ∧ S3 r = some (.lst (ns.map D.int)) ∧ But d S S3 ∧ Drw S3 d) ⟨none, none, [], rfl, (fun x hx => by cases hx), List.nodup_nil, Nat.le_refl _, b2.get nad e1, b2.get hrd (x1.get hr), x1.toBut.trans b2, d2⟩ (fun _ _ _ _ _ => True.intro) ?_ ?_)
  · rintro j x δ S3 nx hx hj ⟨o4, o5, ms, rfl, h1, h2, h3, e3, g3, b3, d3⟩ hnx
    obtain ⟨rfl, hjm⟩ := rng_at hx
    have hne' : ns ≠ [] := by
      rcases hne with q | q
      · exact q
      · omega
    repeat walk_at "d"
    refine pick_spec d3 g3 (fun e => hne' (List.map_eq_nil_iff.mp e)) hrd fun v S4 hv b4 d4 => ?_
    obtain ⟨z, hz, rfl⟩ := List.mem_map.mp hv
    have e4 := b4.get nad e3
    have g4 := b4.get hrd g3
    repeat walk_at "d"
    refine o_notinIL ms e4 ?_
    repeat walk_at "d"
    refine ite_ndec (fun c => ?_) (fun c => ?_)
    · repeat walk_at "d"
      refine m_append e4 (by rw [List.length_append, List.length_map]; show ms.length + 1 ≤ _; omega) (i_putL fun S5 e5 b5 => ?_)
      refine hnx _ _ ⟨_, _, ms ++ [z], rfl, fun x hx => ?_, ?_, by rw [List.length_append]; show ms.length + 1 ≤ _; omega, by rw [List.map_append]; exact e5, b5.get nar.symm g4, (b3.trans b4).but b5 n1, d4.but b5 nad.symm⟩
      · rcases List.mem_append.mp hx with q | q
        · exact h1 x q
        · rw [List.mem_singleton.mp q]; exact hz
      · rw [List.nodup_append]
        refine ⟨h2, List.nodup_cons.mpr ⟨List.not_mem_nil, List.nodup_nil⟩, fun x hx y hy e => ?_⟩
        rw [List.mem_singleton] at hy
        subst e hy
        exact c hx
    · repeat walk_at "d"
      exact hnx _ _ ⟨_, _, ms, rfl, h1, h2, by omega, e4, g4, b3.trans b4, d4⟩
  · rintro δ S3 ⟨o4, o5, ms, rfl, h1, h2, h3, e3, g3, b3, d3⟩
    rw [rng_len] at h3
    repeat walk_at "d"
    refine c_sortedI (lst_ref e3) (i_newL fun b S4 n4 e4 x4 => ?_)
    repeat walk_at "d"
    exact h _ S4 (fun x hx => h1 x (mem_sort.mp hx)) (asc_sort h2) (by rw [List.length_mergeSort]; omega) (b3.ext x4) (d3.ext x4)
theorem deed_spec {n : Nat} {S : DS} {d r o : Addr} {ns : List Int} {ts : List Nat} {m k : Nat} {Q : DK} (hd : Drw S d) (hr : S r = some (.lst (ns.map D.int))) (hne : ns ≠ []) (hns : ∀ x ∈ ns, InR m x) (hrd : r ≠ d) (ho : S o = some (.lst (natsD ts))) (hts : ∀ t ∈ ts, 1 ≤ t ∧ t < k) (hod : o ≠ d)
    (h : ∀ e S', Good k m e → But d S S' → Drw S' d → Q e.d S') : sem fs (n + 4) 37 [.ref d, .ref r, .ref o] S Q := by
  refine run__law_deed ?_
  unfold b_37
  have hnn : ns.map D.int ≠ [] := fun e => hne (List.map_eq_nil_iff.mp e)
  repeat walk_at "d"
  refine take_spec hd (by decide) fun kd S1 k0 k1 b1 d1 => ?_
  have r1 := b1.get hrd hr
  have o1 := b1.get hod ho
  have rest : dSeq (dIf (dTb (dOp (oCmp .lt) (dVar 3) (dC (.int 4)))) (dRet (dTup (dCons (dC (.str "wait")) (dCons (dCall (sem fs (n + 3) 19) (dCons (dVar 0) (dCons (dVar 1) dNil))) dNil)))) dNext)
    (dSeq (dIf (dTb (dOp (oCmp .lt) (dVar 3) (dC (.int 6)))) (dRet (dTup (dCons (dC (.str "race")) (dCons (dCall (sem fs (n + 3) 19) (dCons (dVar 0) (dCons (dVar 1) dNil))) (dCons (dCall bTuple (dCons (dCall (sem fs (n + 3) 22) (dCons (dVar 0) (dCons (dVar 1) (dCons (dC (.int 2)) dNil)))) dNil)) dNil))))) dNext)
    (dRet (dTup (dCons (dC (.str "keep")) (dCons (dCall (sem fs (n + 3) 19) (dCons (dVar 0) (dCons (dVar 1) dNil))) (dCons (dCall (sem fs (n + 3) 25) (dCons (dVar 0) dNil)) (dCons (dCall (sem fs (n + 3) 36) (dCons (dVar 0) (dCons (dVar 1) (dCons (dCall (sem fs (n + 3) 18) (dCons (dVar 0) (dCons (dC (.int 3)) dNil))) dNil)))) dNil)))))))
      { nx := fun _ S' => Q .non S', rt := Q, bk := fun _ _ => False, ct := fun _ _ => False } [some (.ref d), some (.ref r), some (.ref o), some (.int kd)] S1 := by
    repeat walk_at "d"
    refine ite_dec (fun c => ?_) (fun c => ?_)
    · repeat walk_at "d"
      refine pick_spec d1 r1 hnn hrd fun v S2 hv b2 d2 => ?_
      obtain ⟨z, hz, rfl⟩ := List.mem_map.mp hv
      repeat walk_at "d"
      exact h (.wait z) S2 ⟨True.intro, hns z hz⟩ (b1.trans b2) d2
    repeat walk_at "d"
    refine ite_dec (fun c => ?_) (fun c => ?_)
    · repeat walk_at "d"
      refine pick_spec d1 r1 hnn hrd fun v S2 hv b2 d2 => ?_
      obtain ⟨z, hz, rfl⟩ := List.mem_map.mp hv
      have r2 := b2.get hrd r1
      repeat walk_at "d"
      refine some_spec d2 r2 hne hrd (by decide) fun a ms S3 h1 h2 h3 h4 _ e3 nad b3 d3 => ?_
      repeat walk_at "d"
      exact h (.race z ms) S3 ⟨by show ms.length ≤ 1000; omega, hns z hz, fun q hq => hns q (h1 q hq), h2, h3⟩ ((b1.trans b2).trans b3) d3
    · repeat walk_at "d"
      refine pick_spec d1 r1 hnn hrd fun v S2 hv b2 d2 => ?_
      obtain ⟨z, hz, rfl⟩ := List.mem_map.mp hv
      have r2 := b2.get hrd r1
      repeat walk_at "d"
      refine number_spec d2 fun nn S3 b3 d3 _ _ => ?_
      have r3 := b3.get hrd r2
      repeat walk_at "d"
      refine take_spec d3 (by decide) fun w S4 w0 w1 b4 d4 => ?_
      have r4 := b4.get hrd r3
      repeat walk_at "d"
      refine setof_spec d4 r4 (.inl hne) hrd (by omega) fun ms S5 h1 h2 h3 b5 d5 => ?_
      repeat walk_at "d"
      exact h (.keep z nn ms) S5 ⟨by show ms.length ≤ 1000; omega, hns z hz, fun q hq => hns q (h1 q hq), h2⟩ ((((b1.trans b2).trans b3).trans b4).trans b5) d5
  refine i_gname rfl ?_
  refine i_seq (i_if (i_and (i_tb (i_op (i_var rfl (i_c (o_eqI (i_asB ?_))))))))
  refine ite_dec (fun c => ?_) (fun c => ?_)
  · repeat walk_at "d"
    refine ite_dec (fun c2 => ?_) (fun c2 => ?_)
    · repeat walk_at "d"
      refine pick_spec d1 o1 (fun e => by unfold natsD at c2; rw [List.length_map] at c2; rw [List.map_eq_nil_iff.mp e] at c2; exact absurd c2 (by decide)) hod fun v S2 hv b2 d2 => ?_
      obtain ⟨t, ht, rfl⟩ := List.mem_map.mp hv
      repeat walk_at "d"
      exact h (.start t) S2 ⟨(hts t ht).2, (hts t ht).1⟩ (b1.trans b2) d2
    · refine i_next ?_
      exact rest
  · refine ite_f (i_next ?_)
    exact rest
def deedsD (es : List Deed) : List D := es.map Deed.d
theorem deedsD_app {es : List Deed} {e : Deed} : deedsD es ++ [e.d] = deedsD (es ++ [e]) := by unfold deedsD; rw [List.map_append]; rfl
theorem deedsD_len {es : List Deed} : (deedsD es).length = es.length := by unfold deedsD; rw [List.length_map]
def upto (k : Nat) : List Nat := (List.range k).map (1 + ·)
theorem upto_mem {k t : Nat} (h : t ∈ upto k) : 1 ≤ t ∧ t < k + 1 := by
  unfold upto at h
  obtain ⟨z, hz, rfl⟩ := List.mem_map.mp h
  have := List.mem_range.mp hz
  omega
theorem upto_len {k : Nat} : (upto k).length = k := by unfold upto; rw [List.length_map, List.length_range]
theorem rng_upto {k : Nat} : rngL 1 k = natsD (upto k) := by
  unfold rngL natsD upto
  rw [List.map_map]
  refine List.map_congr_left fun i _ => ?_
  show D.int (1 + (i : Int)) = D.int (((1 + i : Nat)) : Int)
  congr 1
theorem rng_zero {k : Nat} : rngL 0 k = ((List.range k).map fun i : Nat => (i : Int)).map D.int := by
  unfold rngL
  rw [List.map_map]
  refine List.map_congr_left fun i _ => ?_
  show D.int (0 + (i : Int)) = D.int (i : Int)
  rw [Int.zero_add]
theorem mem_zero {k : Nat} {x : Int} (h : x ∈ (List.range k).map fun i : Nat => (i : Int)) : InR k x := by
  obtain ⟨i, hi, rfl⟩ := List.mem_map.mp h
  have := List.mem_range.mp hi
  exact ⟨by omega, by omega⟩
def unI : D → Nat
  | .int i => i.toNat
  | _ => 0
theorem unI_nats {ts : List Nat} : (natsD ts).map unI = ts := by
  unfold natsD
  rw [List.map_map]
  exact (List.map_congr_left fun (t : Nat) _ => show unI (.int (t : Int)) = t from Int.toNat_natCast t).trans (List.map_id' ts)
theorem perm_nats {ys : List D} {ts : List Nat} (h : ys.Perm (natsD ts)) : ∃ us : List Nat, ys = natsD us ∧ us.Perm ts := by
  refine ⟨ys.map unI, ?_, by have := h.map unI; rwa [unI_nats] at this⟩
  have hm : ∀ y ∈ ys, y = D.int ((unI y : Nat) : Int) := fun y hy => by
    obtain ⟨t, _, rfl⟩ := List.mem_map.mp (h.mem_iff.mp hy)
    show D.int (t : Int) = D.int (((t : Int).toNat : Nat) : Int)
    rw [Int.toNat_natCast]
  unfold natsD
  rw [List.map_map]
  exact ((List.map_congr_left fun y hy => (hm y hy).symm).trans (List.map_id' ys)).symm
structure Drawn (P : Prog) (k m : Nat) : Prop where
  n1 : P.rows.length = k
  m1 : P.many = m
  row : ∀ r ∈ P.rows, r.length ≤ 10 ∧ ∀ e ∈ r, Good k m e
theorem Drawn.ok {P : Prog} {k m : Nat} (h : Drawn P k m) (h1 : 1 ≤ k ∧ k ≤ 1000) (h2 : m ≤ 1000) : P.ok :=
  ⟨by rw [h.m1]; exact h2, by rw [h.n1]; exact h1.1, by rw [h.n1]; exact h1.2, fun r hr => Nat.le_trans (h.row r hr).1 (by decide), fun r hr e he => by rw [h.n1]; exact ((h.row r hr).2 e he).1⟩
theorem Drawn.wf {P : Prog} {k m : Nat} (h : Drawn P k m) : P.wf := fun r hr e he => by rw [h.m1]; exact ((h.row r hr).2 e he).2
def isStart : Deed → Bool
  | .start _ => true
  | _ => false
/-- few deeds: at most five beside the starts of the first row -/
def Shape (P : Prog) : Prop := P.rows.length ≤ 4 ∧ (P.rows.map List.length).sum ≤ 8 ∧ ∃ r0 rs, P.rows = r0 :: rs ∧ (P.rows.map List.length).sum ≤ 5 + r0.countP isStart
theorem countP_cut (es : List Deed) (w : Nat) : (es.take w).countP isStart + (es.drop w).countP isStart = es.countP isStart := by
  rw [← List.countP_append, List.take_append_drop]
theorem program_spec {n : Nat} {S : DS} {d : Addr} {Q : DK} (hd : Drw S d) (h : ∀ P k m S', Drawn P k m ∧ Shape P → 1 ≤ k ∧ k ≤ 4 → 1 ≤ m ∧ m ≤ 8 → But d S S' → Drw S' d → Q P.d S') : sem fs (n + 6) 38 [.ref d] S Q := by
  refine run__law_program ?_
  unfold b_38
  repeat walk_at "d"
  refine take_spec hd (by decide) fun v1 S1 v10 v11 b1 d1 => ?_
  obtain ⟨m, hm⟩ : ∃ m : Nat, 1 + v1 = (m : Int) := ⟨(1 + v1).toNat, by omega⟩
  refine o_addV hm ?_
  repeat walk_at "d"
  refine ⟨RgOk.of_le (by decide) (by omega) (by decide) (by omega), i_newL fun r S2 n2 e2 x2 => ?_⟩
  rw [show ((m : Int) - 0).toNat = m by omega, rng_zero] at e2
  have d2 := d1.ext x2
  repeat walk_at "d"
  refine some_spec d2 e2 (fun e => by have := congrArg List.length e; rw [List.length_map, List.length_range] at this; simp at this; omega) (d1.ne' n2) (by decide) fun p ns S3 h1 _ h3 _ _ e3 npd b3 d3 => ?_
  have hns : ∀ x ∈ ns, InR m x := fun x hx => mem_zero (h1 x hx)
  have B3 := (b1.ext x2).trans b3
  repeat walk_at "d"
  refine take_spec d3 (by decide) fun v4 S4 v40 v41 b4 d4 => ?_
  obtain ⟨k, hk⟩ : ∃ k : Nat, 1 + v4 = (k : Int) := ⟨(1 + v4).toNat, by omega⟩
  refine o_addV hk ?_
  have e4 := b4.get npd e3
  have hk1 : 1 ≤ k ∧ k ≤ 4 := by omega
  repeat walk_at "d"
  refine ⟨RgOk.of_le (by decide) (by omega) (by decide) (by omega), i_newL fun q S5 n5 e5 x5 => ?_⟩
  rw [show ((k : Int) - 1).toNat = k - 1 by omega, rng_upto] at e5
  have e5p := x5.get e4
  have d5 := d4.ext x5
  have nqd := d4.ne' n5
  have hts : ∀ t ∈ upto (k - 1), 1 ≤ t ∧ t < k := fun t ht => by have := upto_mem ht; omega
  have B5 := (B3.trans b4).ext x5
  repeat walk_at "d"
  refine i_newL fun f S6 n6 e6 x6 => ?_
  have nfd := d5.ne' n6
  have d6 := d5.ext x6
  have e6p := x6.get e5p
  have e6q := x6.get e5
  have npf := dne e5p n6
  have nqf := dne e5 n6
  have fS : S f = none := B5.back nfd n6
  have B6 := B5.ext x6
  repeat walk_at "d"
  refine shuffled_spec d6 e6q (by unfold natsD; rw [List.length_map, upto_len]; omega) fun a ys S7 hys n7 e7 nad b7 d7 => ?_
  obtain ⟨us, rfl, hus⟩ := perm_nats hys
  have e7p := b7.get npd e6p
  have e7q := b7.get nqd e6q
  have e7f := b7.get nfd e6
  have naf : a ≠ f := (dne e6 n7).symm
  have B7 := B6.trans b7
  have hul : us.length ≤ 3 := by rw [hus.length_eq, upto_len]; omega
  repeat walk_at "d"
  refine for_inv (fun j δ S8 => ∃ o6 es, δ = [some (.ref d), some (.int (m : Int)), some (.ref p), some (.int (k : Int)), some (.ref q), some (.ref f), o6, none, none, none, none, none, none, none] ∧ (∀ e ∈ es, Good k m e) ∧ (es.length ≤ j ∧ es.countP isStart = es.length) ∧ S8 f = some (.lst (deedsD es)) ∧ S8 a = some (.lst (natsD us)) ∧ S8 p = some (.lst (ns.map D.int)) ∧ S8 q = some (.lst (natsD (upto (k - 1)))) ∧ But d S S8 ∧ Drw S8 d) ⟨none, [], rfl, (fun e he => by cases he), ⟨Nat.le_refl _, rfl⟩, e7f, e7, e7p, e7q, B7, d7⟩ (fun _ _ _ _ ⟨_, _, _, _, _, _, e, _⟩ => seq_ref e) ?_ ?_
  · rintro j x δ S8 nx hx hj ⟨o6, es, rfl, hes, hel, g1, g2, g3, g4, b8, d8⟩ hnx
    obtain ⟨t, ht, rfl⟩ := map_at hx
    unfold natsD at hj
    rw [List.length_map] at hj
    repeat walk_at "d"
    refine take_spec d8 (by decide) fun w S9 w0 w1 b9 d9 => ?_
    have g1' := b9.get nfd g1
    repeat walk_at "d"
    refine ite_dec (fun c => ?_) (fun c => ?_)
    · repeat walk_at "d"
      refine m_append g1' (by rw [List.length_append, deedsD_len]; show es.length + 1 ≤ _; omega) (i_putL fun S10 e10 b10 => ?_)
      refine hnx _ _ ⟨_, es ++ [.start t], rfl, fun e he => ?_, ⟨by rw [List.length_append]; show es.length + 1 ≤ _; omega, by rw [List.countP_append, hel.2, List.length_append]; rfl⟩, by rw [← deedsD_app]; exact e10, b10.get naf (b9.get nad g2), b10.get npf (b9.get npd g3), b10.get nqf (b9.get nqd g4), (b8.trans b9).but b10 fS, d9.but b10 nfd.symm⟩
      rcases List.mem_append.mp he with q | q
      · exact hes e q
      · rw [List.mem_singleton.mp q]
        have := hts t (hus.mem_iff.mp (List.mem_of_getElem? ht))
        exact ⟨this.2, this.1⟩
    · repeat walk_at "d"
      exact hnx _ _ ⟨_, es, rfl, hes, ⟨by omega, hel.2⟩, g1', b9.get nad g2, b9.get npd g3, b9.get nqd g4, b8.trans b9, d9⟩
  · rintro δ S8 ⟨o6, es, rfl, hes, hel, g1, g2, g3, g4, b8, d8⟩
    unfold natsD at hel
    rw [List.length_map] at hel
    repeat walk_at "d"
    refine take_spec d8 (by decide) fun ex S9 ex0 ex1 b9 d9 => ?_
    have g1' := b9.get nfd g1
    have g3' := b9.get npd g3
    have g4' := b9.get nqd g4
    have B9 := b8.trans b9
    clear g1 g2 g3 g4
    repeat walk_at "d"
    refine i_rng1V (by omega) (for_inv (fun j δ S10 => ∃ o8 es, δ = [some (.ref d), some (.int (m : Int)), some (.ref p), some (.int (k : Int)), some (.ref q), some (.ref f), o6, some (.int ex), o8, none, none, none, none, none] ∧ (∀ e ∈ es, Good k m e) ∧ (es.length ≤ 3 + j ∧ es.length ≤ es.countP isStart + j) ∧ S10 f = some (.lst (deedsD es)) ∧ S10 p = some (.lst (ns.map D.int)) ∧ S10 q = some (.lst (natsD (upto (k - 1)))) ∧ But d S S10 ∧ Drw S10 d) ⟨none, es, rfl, hes, ⟨by omega, by omega⟩, g1', g3', g4', B9, d9⟩ (fun _ _ _ _ _ => True.intro) ?_ ?_)
    · rintro j x δ S10 nx hx hj ⟨o8, es, rfl, hes, hel, g1, g3, g4, b10, d10⟩ hnx
      obtain ⟨rfl, hjm⟩ := rng_at hx
      repeat walk_at "d"
      rw [deedsD_len]
      refine take_spec d10 (by omega) fun w S11 w0 w1 b11 d11 => ?_
      have f11 := b11.get nfd g1
      have p11 := b11.get npd g3
      have q11 := b11.get nqd g4
      repeat walk_at "d"
      refine deed_spec d11 p11 h3 hns npd q11 hts nqd fun e S12 he b12 d12 => ?_
      have f12 := b12.get nfd f11
      repeat walk_at "d"
      refine m_insert f12 (by omega) (by rw [deedsD_len]; omega) (i_putL fun S13 e13 b13 => ?_)
      refine hnx _ _ ⟨_, es.take w.toNat ++ [e] ++ es.drop w.toNat, rfl, fun e' he' => ?_, ?_, ?_, b13.get npf (b12.get npd p11), b13.get nqf (b12.get nqd q11), ((b10.trans b11).trans b12).but b13 fS, d12.but b13 nfd.symm⟩
      · rcases List.mem_append.mp he' with q | q
        · rcases List.mem_append.mp q with q | q
          · exact hes e' (List.mem_of_mem_take q)
          · rw [List.mem_singleton.mp q]; exact he
        · exact hes e' (List.mem_of_mem_drop q)
      · have := countP_cut es w.toNat
        simp only [List.length_append, List.length_take, List.length_drop, List.length_singleton, List.countP_append]
        omega
      · rw [e13]; unfold deedsD; rw [List.map_append, List.map_append, List.map_take, List.map_drop]; rfl
    · rintro δ S10 ⟨o8, es0, rfl, hes, hel, g1, g3, g4, b10, d10⟩
      rw [rng_len] at hel
      repeat walk_at "d"
      refine i_newL fun rw' S11 n11 e11 x11 => ?_
      have nrd := d10.ne' n11
      have npr := dne g3 n11
      have nqr := dne g4 n11
      have rS : S rw' = none := b10.back nrd n11
      have p11 := x11.get g3
      have q11 := x11.get g4
      have d11 := d10.ext x11
      repeat walk_at "d"
      refine for_inv (fun j δ S12 => ∃ o6 o8 o11 o13 rs l, δ = [some (.ref d), some (.int (m : Int)), some (.ref p), some (.int (k : Int)), some (.ref q), some (.ref f), o6, some (.int ex), o8, some (.int l), some (.ref rw'), o11, none, o13] ∧ (∀ r ∈ rs, r.length ≤ 10 ∧ ∀ e ∈ r, Good k m e) ∧ rs.length = j + 1 ∧ ((0 ≤ l ∧ l ≤ 5) ∧ (((rs.map List.length).sum : Nat) : Int) + l ≤ (es0.length : Int) + 5 - ex ∧ rs.head? = some es0) ∧ S12 rw' = some (.lst (rs.map rowD)) ∧ S12 p = some (.lst (ns.map D.int)) ∧ S12 q = some (.lst (natsD (upto (k - 1)))) ∧ But d S S12 ∧ Drw S12 d) ⟨_, _, none, none, [es0], 5 - ex, rfl, (fun r hr => by rw [List.mem_singleton.mp hr]; exact ⟨by omega, hes⟩), rfl, ⟨by omega, by simp; omega, rfl⟩, e11, p11, q11, b10.ext x11, d11⟩ (fun _ _ _ _ ⟨_, _, _, _, _, _, _, _, _, _, _, _, e, _⟩ => seq_ref e) ?_ ?_
      · rintro j x δ S12 nx hx hj ⟨o6, o8, o11, o13, rs, l, rfl, hrs, hrl, hl, g1, g3, g4, b12, d12⟩ hnx
        obtain ⟨t, ht, rfl⟩ := map_at hx
        unfold natsD at hj
        rw [List.length_map, upto_len] at hj
        have hq' : S12 q = some (.lst ((upto (k - 1)).map fun (t : Nat) => D.int (t : Int))) := g4
        refine i_seq (i_asg ?_)
        refine i_lc (by simp only [dwipe, List.set_cons_zero, List.set_cons_succ, List.set_nil]; exact rfl) (i_iter (i_var rfl (i_iterV_ref hq' ?_)))
        refine lc_fm (fun (u : Nat) => if u = t then none else some (D.int (u : Int))) (fun S13 => S13 = S12) (by rw [upto_len]; omega) rfl (fun S13 e => by subst e; exact seq_ref hq') ?_ ?_
        · rintro u hu acc S13 nx' hacc rfl hnx'
          have := hnx' S13 rfl
          repeat walk_at "d"
          refine ite_ndec (fun c => ?_) (fun c => ?_)
          · rw [if_neg (show ¬ u = t by omega)] at this
            repeat walk_at "d"
            exact ⟨hacc, this⟩
          · rw [if_pos (show u = t by omega)] at this
            simpa using this
        · rintro S13 rfl
          have hot : ∃ vs : List Nat, (upto (k - 1)).filterMap (fun (u : Nat) => if u = t then none else some (D.int (u : Int))) = natsD vs ∧ ∀ t ∈ vs, 1 ≤ t ∧ t < k := by
            refine ⟨(upto (k - 1)).filter fun u => !decide (u = t), ?_, fun u hu => hts u (List.mem_filter.mp hu).1⟩
            unfold natsD
            generalize upto (k - 1) = L
            induction L with
            | nil => rfl
            | cons x L ih =>
              rw [List.filterMap_cons, List.filter_cons]
              by_cases c : x = t
              · rw [if_pos c, decide_eq_true c]; exact ih
              · rw [if_neg c, decide_eq_false c]
                show _ = (x :: L.filter fun u => !decide (u = t)).map _
                rw [List.map_cons, ← ih]
          obtain ⟨vs, hvs, hvm⟩ := hot
          rw [hvs]
          refine i_newL fun ot S14 n14 e14 x14 => ?_
          have notd := d12.ne' n14
          have d14 := d12.ext x14
          have g1a := x14.get g1
          have g3a := x14.get g3
          have g4a := x14.get g4
          repeat walk_at "d"
          refine i_newL fun u1 S15 n15 e15 x15 => ?_
          repeat walk_at "d"
          refine pick_spec (d14.ext x15) e15 (by simp) (d14.ne' n15) fun v S16 hv b16 d16 => ?_
          obtain ⟨z, rfl, z0, z1⟩ : ∃ z : Int, v = .int z ∧ 0 ≤ z ∧ z ≤ 2 := by
            simp only [List.mem_cons, List.not_mem_nil, or_false] at hv
            rcases hv with rfl | rfl | rfl | rfl | rfl | rfl <;> exact ⟨_, rfl, by decide, by decide⟩
          have g1b := b16.get nrd (x15.get g1a)
          have g3b := b16.get npd (x15.get g3a)
          have g4b := b16.get nqd (x15.get g4a)
          have o16 := b16.get notd (x15.get e14)
          have B16 := ((b12.ext x14).ext x15).trans b16
          repeat walk_at "d"
          refine i_rng1V (by omega) (lc_inv (fun i acc S17 => (∃ es : List Deed, acc = deedsD es ∧ (∀ e ∈ es, Good k m e) ∧ es.length = i) ∧ S17 rw' = some (.lst (rs.map rowD)) ∧ S17 p = some (.lst (ns.map D.int)) ∧ S17 q = some (.lst (natsD (upto (k - 1)))) ∧ S17 ot = some (.lst (natsD vs)) ∧ But d S S17 ∧ Drw S17 d) ⟨⟨[], rfl, (fun e he => by cases he), rfl⟩, g1b, g3b, g4b, o16, B16, d16⟩ (fun _ _ _ _ _ => True.intro) ?_ ?_)
          · rintro i y acc S17 nx' hy hi ⟨⟨es, rfl, hes, hel⟩, k1, k3, k4, k5, b17, d17⟩ hnx'
            obtain ⟨rfl, hyi⟩ := rng_at hy
            repeat walk_at "d"
            refine deed_spec d17 k3 h3 hns npd k5 hvm notd fun e S18 he b18 d18 => ⟨by rw [deedsD_len]; omega, hnx' _ _ ⟨⟨es ++ [e], deedsD_app, fun e' he' => ?_, by rw [List.length_append, hel]; rfl⟩, b18.get nrd k1, b18.get npd k3, b18.get nqd k4, b18.get notd k5, b17.trans b18, d18⟩⟩
            rcases List.mem_append.mp he' with q | q
            · exact hes e' q
            · rw [List.mem_singleton.mp q]; exact he
          · rintro acc S17 ⟨⟨es, rfl, hes, hel⟩, k1, k3, k4, k5, b17, d17⟩
            rw [rng_len] at hel
            refine i_newL fun u2 S18 n18 e18 x18 => ?_
            have k1' := x18.get k1
            repeat walk_at "d"
            refine m_append k1' (by rw [List.length_append, List.length_map]; show rs.length + 1 ≤ _; omega) (i_putL fun S19 e19 b19 => ?_)
            refine hnx _ _ ⟨_, _, _, _, rs ++ [es], l - min l z, rfl, fun r hr => ?_, by rw [List.length_append, hrl]; rfl, ⟨by omega, by rw [List.map_append, List.sum_append]; simp only [List.map_cons, List.map_nil, List.sum_cons, List.sum_nil]; omega, by rw [List.head?_append, hl.2.2]; rfl⟩, by rw [List.map_append]; exact e19, b19.get npr (x18.get k3), b19.get nqr (x18.get k4), (b17.ext x18).but b19 rS, (d17.ext x18).but b19 nrd.symm⟩
            rcases List.mem_append.mp hr with q | q
            · exact hrs r q
            · rw [List.mem_singleton.mp q]; exact ⟨by omega, hes⟩
      · rintro δ S12 ⟨o6, o8, o11, o13, rs, l, rfl, hrs, hrl, hl, g1, g3, g4, b12, d12⟩
        unfold natsD at hrl
        rw [List.length_map, upto_len] at hrl
        repeat walk_at "d"
        have shp : Shape ⟨m, rs⟩ := by
          obtain ⟨h1, h2, h3⟩ := hl
          cases rs with
          | nil => cases h3
          | cons r0 rs =>
            obtain rfl : r0 = es0 := Option.some.inj h3
            refine ⟨by dsimp only; omega, by dsimp only; omega, r0, rs, rfl, by dsimp only; omega⟩
        exact h ⟨m, rs⟩ k m S12 ⟨⟨by dsimp only; omega, rfl, hrs⟩, shp⟩ hk1 (by omega) b12 d12
theorem rival_spec {n : Nat} {S : DS} {d : Addr} {Q : DK} (hd : Drw S d) (h : ∀ P k m S', Drawn P k m ∧ Shape P → 1 ≤ k ∧ k ≤ 4 → 1 ≤ m ∧ m ≤ 8 → But d S S' → Drw S' d → Q P.d S') : sem fs (n + 6) 39 [.ref d] S Q := by
  refine run__law_rival_program ?_
  unfold b_39
  repeat walk_at "d"
  refine take_spec hd (by decide) fun v1 S1 v10 v11 b1 d1 => ?_
  obtain ⟨m, hm⟩ : ∃ m : Nat, 2 + v1 = (m : Int) := ⟨(2 + v1).toNat, by omega⟩
  refine o_addV hm ?_
  repeat walk_at "d"
  refine ⟨RgOk.of_le (by decide) (by omega) (by decide) (by omega), i_newL fun r S2 n2 e2 x2 => ?_⟩
  rw [show ((m : Int) - 0).toNat = m by omega, rng_zero] at e2
  have d2 := d1.ext x2
  repeat walk_at "d"
  refine some_spec d2 e2 (fun e => by have := congrArg List.length e; rw [List.length_map, List.length_range] at this; simp at this; omega) (d1.ne' n2) (by decide) fun p ns S3 h1 _ h3 _ _ e3 npd b3 d3 => ?_
  have hns : ∀ x ∈ ns, InR m x := fun x hx => mem_zero (h1 x hx)
  have hnn : ns.map D.int ≠ [] := fun e => h3 (List.map_eq_nil_iff.mp e)
  have B3 := (b1.ext x2).trans b3
  repeat walk_at "d"
  refine take_spec d3 (by decide) fun v4 S4 v40 v41 b4 d4 => ?_
  repeat walk_at "d"
  obtain ⟨k, hk, hk1⟩ : ∃ k : Nat, 3 + (if decide (v4 = 0) = true then 1 else 0 : Int) = (k : Int) ∧ (k = 3 ∨ k = 4) := by
    by_cases c : v4 = 0
    · exact ⟨4, by rw [if_pos (decide_eq_true c)]; rfl, .inr rfl⟩
    · exact ⟨3, by rw [if_neg (by rw [decide_eq_false c]; exact Bool.false_ne_true)]; rfl, .inl rfl⟩
  rw [hk]
  have e4 := b4.get npd e3
  repeat walk_at "d"
  refine ⟨RgOk.of_le (by decide) (by omega) (by decide) (by omega), i_newL fun q S5 n5 e5 x5 => ?_⟩
  rw [show ((k : Int) - 1).toNat = k - 1 by omega, rng_upto] at e5
  have e5p := x5.get e4
  have d5 := d4.ext x5
  have nqd := d4.ne' n5
  have hts : ∀ t ∈ upto (k - 1), 1 ≤ t ∧ t < k := fun t ht => by have := upto_mem ht; omega
  have B5 := (B3.trans b4).ext x5
  repeat walk_at "d"
  refine shuffled_spec d5 e5 (by unfold natsD; rw [List.length_map, upto_len]; omega) fun a ys S7 hys n7 e7 nad b7 d7 => ?_
  obtain ⟨us, rfl, hus⟩ := perm_nats hys
  have e7p := b7.get npd e5p
  have B7 := B5.trans b7
  have hul : us.length = k - 1 := by rw [hus.length_eq, upto_len]
  have huc : (us.map Deed.start).countP isStart = us.length := by rw [List.countP_map]; exact List.countP_eq_length.mpr fun _ _ => rfl
  have e7' : S7 a = some (.lst (us.map fun (t : Nat) => D.int (t : Int))) := e7
  refine i_iterV_ref e7' ?_
  refine lc_map (fun t => (Deed.start t).d) (fun S' => S' = S7) (by omega) rfl (fun S' e => by subst e; exact seq_ref e7') ?_ ?_
  · rintro t ht acc S8 nx hacc rfl hnx
    repeat walk_at "d"
    exact ⟨hacc, hnx S8 rfl⟩
  rintro S8 rfl
  refine i_newL fun f S9 n9 e9 x9 => ?_
  have nfd := d7.ne' n9
  have d9 := d7.ext x9
  have p9 := x9.get e7p
  have npf := dne e7p n9
  have fS : S f = none := B7.back nfd n9
  have B9 := B7.ext x9
  have e9' : S9 f = some (.lst (deedsD (us.map Deed.start))) := by unfold deedsD; rw [List.map_map]; exact e9
  have hst : ∀ e ∈ us.map Deed.start, Good k m e := fun e he => by
    obtain ⟨t, ht, rfl⟩ := List.mem_map.mp he
    have := hts t (hus.mem_iff.mp ht)
    exact ⟨this.2, this.1⟩
  have main : ∀ (es : List Deed) S10, (∀ e ∈ es, Good k m e) → (es.length ≤ k ∧ es.length ≤ es.countP isStart + 1) → S10 f = some (.lst (deedsD es)) → S10 p = some (.lst (ns.map D.int)) → But d S S10 → Drw S10 d → (dSeq (dAsg (dLst (dCons (dCall bTuple (dCons (dVar 4) dNil)) dNil)) (dgName 6))
  (dSeq (dFor (dRng2 (dCons (dC (.int 1)) (dCons (dVar 3) dNil))) (dgName 5) (dSeq (dAsg (dLst (dCons (dTup (dCons (dC (.str "keep")) (dCons (dCall (sem fs (n + 5) 19) (dCons (dVar 0) (dCons (dVar 2) dNil))) (dCons (dCall (sem fs (n + 5) 25) (dCons (dVar 0) dNil)) (dCons (dTup dNil) dNil))))) dNil)) (dgName 7))
    (dSeq (dIf (dAnd (dTb (dOp (oEq false) (dVar 3) (dC (.int 3)))) (dTb (dOp (oEq false) (dCall (sem fs (n + 5) 18) (dCons (dVar 0) (dCons (dC (.int 2)) dNil))) (dC (.int 0))))) (dDrop (dBM okLst (mLst fAppend) (dVar 7) (dCons (dCall (sem fs (n + 5) 37) (dCons (dVar 0) (dCons (dVar 2) (dCons (dLst dNil) dNil)))) dNil))) dNext)
    (dDrop (dBM okLst (mLst fAppend) (dVar 6) (dCons (dCall bTuple (dCons (dVar 7) dNil)) dNil))))))
  (dRet (dTup (dCons (dVar 1) (dCons (dCall bTuple (dCons (dVar 6) dNil)) dNil)))))) { nx := fun _ S' => Q .non S', rt := Q, bk := fun _ _ => False, ct := fun _ _ => False } [some (.ref d), some (.int (m : Int)), some (.ref p), some (.int (k : Int)), some (.ref f), none, none, none] S10 := by
    intro es S10 hes hel f10 p10 B10 d10
    repeat walk_at "d"
    refine i_newL fun w S11 n11 e11 x11 => ?_
    have nwd := d10.ne' n11
    have npw := dne p10 n11
    have wS : S w = none := B10.back nwd n11
    have p11 := x11.get p10
    have d11 := d10.ext x11
    repeat walk_at "d"
    refine i_rng2V (by omega) (for_inv (fun j δ S12 => ∃ o5 o7 rs, δ = [some (.ref d), some (.int (m : Int)), some (.ref p), some (.int (k : Int)), some (.ref f), o5, some (.ref w), o7] ∧ (∀ r ∈ rs, r.length ≤ 10 ∧ ∀ e ∈ r, Good k m e) ∧ (rs.length = j + 1 ∧ (k = 3 → (rs.map List.length).sum ≤ es.length + 2 * j) ∧ (k = 4 → (rs.map List.length).sum ≤ es.length + j) ∧ rs.head? = some es) ∧ S12 w = some (.lst (rs.map rowD)) ∧ S12 p = some (.lst (ns.map D.int)) ∧ But d S S12 ∧ Drw S12 d) ⟨none, none, [es], rfl, (fun r hr => by rw [List.mem_singleton.mp hr]; exact ⟨by omega, hes⟩), ⟨rfl, fun _ => by simp, fun _ => by simp, rfl⟩, e11, p11, B10.ext x11, d11⟩ (fun _ _ _ _ _ => True.intro) ?_ ?_)
    · rintro j x δ S12 nx hx hj ⟨o5, o7, rs, rfl, hrs, hrl, g1, g3, b12, d12⟩ hnx
      obtain ⟨rfl, hjm⟩ := rng_at hx
      repeat walk_at "d"
      refine pick_spec d12 g3 hnn npd fun v S13 hv b13 d13 => ?_
      obtain ⟨z, hz, rfl⟩ := List.mem_map.mp hv
      repeat walk_at "d"
      refine number_spec d13 fun nn S14 b14 d14 _ _ => ?_
      repeat walk_at "d"
      refine i_newL fun o S15 n15 e15 x15 => ?_
      have nod := d14.ne' n15
      have d15 := d14.ext x15
      have g1a := x15.get (b14.get nwd (b13.get nwd g1))
      have g3a := x15.get (b14.get npd (b13.get npd g3))
      have nwo := dne (b14.get nwd (b13.get nwd g1)) n15
      have npo := dne (b14.get npd (b13.get npd g3)) n15
      have b15 := ((b12.trans b13).trans b14).ext x15
      have oS : S o = none := ((b12.trans b13).trans b14).back nod n15
      have hk0 : Good k m (.keep z nn []) := ⟨Nat.zero_le _, hns z hz, (fun q hq => by cases hq), List.Pairwise.nil⟩
      have fin : ∀ (es : List Deed) S16, (∀ e ∈ es, Good k m e) → (es.length ≤ 2 ∧ (k = 4 → es.length ≤ 1)) → S16 o = some (.lst (deedsD es)) → S16 w = some (.lst (rs.map rowD)) → S16 p = some (.lst (ns.map D.int)) → But d S S16 → Drw S16 d → dDrop (dBM okLst (mLst fAppend) (dVar 6) (dCons (dCall bTuple (dCons (dVar 7) dNil)) dNil)) ⟨nx, Q, fun δ S => dRet (dTup (dCons (dVar 1) (dCons (dCall bTuple (dCons (dVar 6) dNil)) dNil))) { nx := fun _ S' => Q .non S', rt := Q, bk := fun _ _ => False, ct := fun _ _ => False } δ S, nx⟩ [some (.ref d), some (.int (m : Int)), some (.ref p), some (.int (k : Int)), some (.ref f), some (.int (1 + (j : Int))), some (.ref w), some (.ref o)] S16 := by
        intro es2 S16 hes hel o16 w16 p16 b16 d16
        repeat walk_at "d"
        refine m_append w16 (by rw [List.length_append, List.length_map]; show rs.length + 1 ≤ _; omega) (i_putL fun S17 e17 b17 => ?_)
        refine hnx _ _ ⟨_, _, rs ++ [es2], rfl, fun r hr => ?_, ⟨by rw [List.length_append, hrl.1]; rfl, fun q => ?_, fun q => ?_, by rw [List.head?_append, hrl.2.2.2]; rfl⟩, by rw [List.map_append]; exact e17, b17.get npw p16, b16.but b17 wS, d16.but b17 nwd.symm⟩
        · rcases List.mem_append.mp hr with q | q
          · exact hrs r q
          · rw [List.mem_singleton.mp q]; exact ⟨by omega, hes⟩
        · have := hrl.2.1 q
          rw [List.map_append, List.sum_append]; simp only [List.map_cons, List.map_nil, List.sum_cons, List.sum_nil]; omega
        · have := hrl.2.2.1 q
          have := hel.2 q
          rw [List.map_append, List.sum_append]; simp only [List.map_cons, List.map_nil, List.sum_cons, List.sum_nil]; omega
      have one : ∀ e ∈ [Deed.keep z nn []], Good k m e := fun e he => by rw [List.mem_singleton.mp he]; exact hk0
      repeat walk_at "d"
      refine ite_dec (fun c => ?_) (fun c => ?_)
      · repeat walk_at "d"
        refine take_spec d15 (by decide) fun w1 S16 w10 w11 b16 d16 => ?_
        have o16 := b16.get nod e15
        have g1b := b16.get nwd g1a
        have g3b := b16.get npd g3a
        repeat walk_at "d"
        refine ite_dec (fun c2 => ?_) (fun c2 => ?_)
        · repeat walk_at "d"
          refine i_newL fun u S17 n17 e17 x17 => ?_
          have nud := d16.ne' n17
          repeat walk_at "d"
          refine deed_spec (ts := []) (k := k) (d16.ext x17) (x17.get g3b) h3 hns npd e17 (fun t ht => by cases ht) nud fun e S18 he b18 d18 => ?_
          have o18 := b18.get nod (x17.get o16)
          repeat walk_at "d"
          refine m_append o18 (by show 2 ≤ _; omega) (i_putL fun S19 e19 b19 => ?_)
          refine fin [.keep z nn [], e] S19 (fun e' he' => ?_) ⟨Nat.le_of_ble_eq_true rfl, fun q => by omega⟩ e19 (b19.get nwo (b18.get nwd (x17.get g1b))) (b19.get npo (b18.get npd (x17.get g3b))) ((((b15.trans b16).ext x17).trans b18).but b19 oS) (d18.but b19 nod.symm)
          simp only [List.mem_cons, List.not_mem_nil, or_false] at he'
          rcases he' with rfl | rfl
          · exact hk0
          · exact he
        · refine i_next ?_
          exact fin _ S16 one ⟨Nat.le_of_ble_eq_true rfl, fun _ => Nat.le_of_ble_eq_true rfl⟩ o16 g1b g3b (b15.trans b16) d16
      · refine ite_f (i_next ?_)
        exact fin _ S15 one ⟨Nat.le_of_ble_eq_true rfl, fun _ => Nat.le_of_ble_eq_true rfl⟩ e15 g1a g3a b15 d15
    · rintro δ S12 ⟨o5, o7, rs, rfl, hrs, hrl, g1, g3, b12, d12⟩
      rw [rng_len] at hrl
      repeat walk_at "d"
      have shp : Shape ⟨m, rs⟩ := by
        obtain ⟨h1, h2, h3, h4⟩ := hrl
        cases rs with
        | nil => cases h4
        | cons r0 rs =>
          obtain rfl : r0 = es := Option.some.inj h4
          rcases hk1 with q | q
          · have := h2 q
            exact ⟨by dsimp only; omega, by dsimp only; omega, r0, rs, rfl, by dsimp only; omega⟩
          · have := h3 q
            exact ⟨by dsimp only; omega, by dsimp only; omega, r0, rs, rfl, by dsimp only; omega⟩
      exact h ⟨m, rs⟩ k m S12 ⟨⟨by dsimp only; omega, rfl, hrs⟩, shp⟩ (by omega) (by omega) b12 d12
  repeat walk_at "d"
  refine take_spec d9 (by decide) fun w1 S10 w10 w11 b10 d10 => ?_
  have f10 := b10.get nfd e9'
  have p10 := b10.get npd p9
  repeat walk_at "d"
  refine ite_dec (fun c => ?_) (fun c => ?_)
  · repeat walk_at "d"
    refine pick_spec d10 p10 hnn npd fun v S11 hv b11 d11 => ?_
    obtain ⟨z, hz, rfl⟩ := List.mem_map.mp hv
    have f11 := b11.get nfd f10
    have p11 := b11.get npd p10
    repeat walk_at "d"
    refine some_spec d11 p11 h3 npd (by decide) fun a2 ms S12 g1 g2 g3 g4 _ e12 na2 b12 d12 => ?_
    have f12 := b12.get nfd f11
    have p12 := b12.get npd p11
    repeat walk_at "d"
    refine m_append f12 (by rw [List.length_append, deedsD_len, List.length_map]; show us.length + 1 ≤ _; omega) (i_putL fun S13 e13 b13 => ?_)
    refine main (us.map Deed.start ++ [.race z ms]) S13 (fun e he => ?_) (by rw [List.countP_append, huc, List.length_append, List.length_map]; show us.length + 1 ≤ k ∧ us.length + 1 ≤ us.length + _ + 1; omega) (by rw [← deedsD_app]; exact e13) (b13.get npf p12) ((((B9.trans b10).trans b11).trans b12).but b13 fS) (d12.but b13 nfd.symm)
    rcases List.mem_append.mp he with q | q
    · exact hst e q
    · rw [List.mem_singleton.mp q]
      exact ⟨by show ms.length ≤ 1000; omega, hns z hz, fun q hq => hns q (g1 q hq), g2, g3⟩
  · refine i_next ?_
    exact main _ S10 hst (by rw [huc, List.length_map]; omega) f10 p10 (B9.trans b10) d10
theorem anyp_spec {n : Nat} {S : DS} {d : Addr} {Q : DK} (hd : Drw S d) (h : ∀ P k m S', Drawn P k m ∧ Shape P → 1 ≤ k ∧ k ≤ 4 → 1 ≤ m ∧ m ≤ 8 → But d S S' → Drw S' d → Q P.d S') : sem fs (n + 7) 40 [.ref d] S Q := by
  refine run__law_any_program ?_
  unfold b_40
  repeat walk_at "d"
  refine take_spec hd (by decide) fun v S1 v0 v1 b1 d1 => ?_
  repeat walk_at "d"
  refine ite_dec (fun c => ?_) (fun c => ?_)
  · repeat walk_at "d"
    exact rival_spec d1 fun P k m S2 hP h1 h2 b2 d2 => h P k m S2 hP h1 h2 (b1.trans b2) d2
  · repeat walk_at "d"
    exact program_spec d1 fun P k m S2 hP h1 h2 b2 d2 => h P k m S2 hP h1 h2 (b1.trans b2) d2
theorem vals_spec {n : Nat} {P : Prog} {s : Stt} {S : DS} {Q : DK} (hP : P.ok) (h : ∀ S', Ext S S' → Q (.tup ((List.range P.many).map fun (p : Nat) => optI (worth s.kept (p : Int)))) S') : sem fs (n + 2) 8 [P.d, s.d] S Q := by
  refine run_values_at ?_
  unfold b_8
  have hm := hP.many
  repeat walk_at "d"
  refine o_ixT (v := .int (P.many : Int)) rfl ?_
  repeat walk_at "d"
  refine i_rng1V (by omega) ?_
  rw [Int.toNat_natCast, rng_map]
  refine lc_map (fun (p : Nat) => optI (worth s.kept (p : Int))) (Ext S) (by rw [List.length_range]; omega) (Ext.refl S) (fun _ _ => True.intro) ?_ ?_
  · intro p hp acc S1 nx hacc hJ hnx
    rw [Int.zero_add]
    repeat walk_at "d"
    refine o_ixT (v := keptD s.kept) rfl ?_
    repeat walk_at "d"
    refine worth_spec ⟨hacc, hnx S1 hJ⟩
  · intro S1 hJ
    refine i_newL fun q S2 n2 e2 x2 => ?_
    repeat walk_at "d"
    exact h S2 (hJ.trans x2)
theorem stuckP_spec {n : Nat} {P : Prog} {s : Stt} {S : DS} {Q : DK} (hP : P.ok) (hs : s.ok P) (h : ∀ S', Ext S S' → Q (.tup (natsD ((List.range P.rows.length).filter fun t => (next P s t).isSome))) S') : sem fs (n + 2) 7 [P.d, s.d] S Q := by
  refine run_stuck_at ?_
  unfold b_7
  have h1 := hP.n1
  repeat walk_at "d"
  refine o_ixT (v := .tup (P.rows.map rowD)) rfl ?_
  repeat walk_at "d"
  rw [List.length_map]
  refine i_rng1V (by omega) ?_
  rw [Int.toNat_natCast, rng_map]
  refine lc_fm (fun t => if (next P s t).isSome = true then some (D.int (t : Int)) else none) (Ext S) (by rw [List.length_range]; omega) (Ext.refl S) (fun _ _ => True.intro) ?_ ?_
  · intro t ht acc S1 nx hacc hJ hnx
    rw [Int.zero_add]
    repeat walk_at "d"
    refine next_spec hs (List.mem_range.mp ht) ?_
    have := hnx S1 hJ
    repeat walk_at "d"
    cases hn : next P s t with
    | none =>
      rw [hn] at this
      exact ite_f (by simpa using this)
    | some e =>
      rw [hn] at this
      rw [show isNon (deedD (some e)) = false by cases e <;> rfl]
      refine ite_nf ?_
      repeat walk_at "d"
      exact ⟨hacc, this⟩
  · intro S1 hJ
    have e : (List.range P.rows.length).filterMap (fun t => if (next P s t).isSome = true then some (D.int (t : Int)) else none) = natsD ((List.range P.rows.length).filter fun t => (next P s t).isSome) := by
      unfold natsD
      generalize List.range P.rows.length = l
      induction l with
      | nil => rfl
      | cons x l ih =>
        rw [List.filterMap_cons, List.filter_cons]
        by_cases c : (next P s x).isSome = true
        · rw [if_pos c, if_pos c, List.map_cons, ih]
        · rw [if_neg c, if_neg c, ih]
    rw [e]
    refine i_newL fun a S2 n2 e2 x2 => ?_
    repeat walk_at "d"
    exact h S2 (hJ.trans x2)
theorem lstuck_spec {n : Nat} {P : Prog} {s : Stt} {S : DS} {Q : DK} (hP : P.ok) (hs : s.ok P) (h : ∀ S', Ext S S' → Q (.tup (natsD ((List.range P.rows.length).filter fun t => (next P s t).isSome))) S') : sem fs (n + 1) 32 [P.d, s.d] S Q := by
  refine run__law_stuck_at ?_
  unfold b_32
  have h1 := hP.n1
  repeat walk_at "d"
  refine o_ixT (v := .tup (P.rows.map rowD)) rfl ?_
  repeat walk_at "d"
  rw [List.length_map]
  refine i_rng1V (by omega) ?_
  rw [Int.toNat_natCast, rng_map]
  refine lc_fm (fun t => if (next P s t).isSome = true then some (D.int (t : Int)) else none) (Ext S) (by rw [List.length_range]; omega) (Ext.refl S) (fun _ _ => True.intro) ?_ ?_
  · intro t ht acc S1 nx hacc hJ hnx
    obtain ⟨o, r, h1, h2, h3⟩ := at_task hs (List.mem_range.mp ht)
    rw [next_of h1 h2] at hnx
    have := hnx S1 hJ
    rw [Int.zero_add]
    repeat walk_at "d"
    refine o_ixT (v := .tup (s.cs.map optD)) rfl ?_
    repeat walk_at "d"
    refine o_ixT (cs_at h1) ?_
    repeat walk_at "d"
    cases o with
    | none => exact ite_f (by simpa using this)
    | some c =>
      refine ite_t ?_
      repeat walk_at "d"
      refine o_ixT (v := .tup (s.cs.map optD)) rfl ?_
      repeat walk_at "d"
      refine o_ixT (cs_at h1) ?_
      repeat walk_at "d"
      refine o_ixT (v := .tup (P.rows.map rowD)) rfl ?_
      repeat walk_at "d"
      refine o_ixT (row_at h2) ?_
      repeat walk_at "d"
      refine c_lenT (xs := r.map Deed.d) ?_
      rw [List.length_map]
      refine o_ltI (k := (c : Int)) ?_
      repeat walk_at "d"
      rw [Option.bind_some] at this
      refine ite_dec (fun q => ?_) (fun q => ?_)
      · repeat walk_at "d"
        rw [List.getElem?_eq_getElem (show c < r.length by omega)] at this
        exact ⟨hacc, this⟩
      · rw [List.getElem?_eq_none (show r.length ≤ c by omega)] at this
        simpa using this
  · intro S1 hJ
    have e : (List.range P.rows.length).filterMap (fun t => if (next P s t).isSome = true then some (D.int (t : Int)) else none) = natsD ((List.range P.rows.length).filter fun t => (next P s t).isSome) := by
      unfold natsD
      generalize List.range P.rows.length = l
      induction l with
      | nil => rfl
      | cons x l ih =>
        rw [List.filterMap_cons, List.filter_cons]
        by_cases c : (next P s x).isSome = true
        · rw [if_pos c, if_pos c, List.map_cons, ih]
        · rw [if_neg c, if_neg c, ih]
    rw [e]
    refine i_newL fun a S2 n2 e2 x2 => ?_
    repeat walk_at "d"
    exact h S2 (hJ.trans x2)
theorem pl_nats {m : Nat} {ts : List Nat} (h : ts.length ≤ 16777216) : Pl (m + 2) (.tup (natsD ts)) := ⟨by unfold natsD; rw [List.length_map]; exact h, fun x hx => by
  obtain ⟨i, _, rfl⟩ := List.mem_map.mp hx
  exact True.intro⟩
theorem ready_len {P : Prog} {s : Stt} : (ready P s).length ≤ P.rows.length := by
  unfold ready
  have := List.length_filter_le (canT P s) (List.range P.rows.length)
  rwa [List.length_range] at this
theorem natsD_len {ts : List Nat} : (natsD ts).length = ts.length := by unfold natsD; rw [List.length_map]
instance : DecidableEq Stt := fun a b => if h : a.cs = b.cs ∧ a.kept = b.kept then .isTrue (by
    obtain ⟨h1, h2⟩ := h
    cases a; cases b
    dsimp only at h1 h2
    rw [h1, h2]) else .isFalse fun e => h (by rw [e]; exact ⟨rfl, rfl⟩)
def cnt (s : Stt) (t : Nat) : Nat := ((s.cs[t]?).join).getD 0
def rowOf (P : Prog) (t : Nat) : List Deed := (P.rows[t]?).getD []
def isS0 (P : Prog) (s : Stt) (t : Nat) : Bool := decide (t = 0) && ((next P s t).map isStart).getD false
def oth (P : Prog) (t i : Nat) : Option Deed := if t = 0 then ((rowOf P 0).filter fun e => !isStart e)[i]? else (rowOf P t)[i]?
def dofR (P : Prog) : List Nat → List Deed
  | [] => []
  | t :: a => dofR P a ++ (oth P t (a.count t)).toList
def kof (P : Prog) (a : List Nat) : Kept := (dofR P a).foldl keptBy []
def rest (P : Prog) (t c : Nat) : Nat := ((rowOf P t).drop c).countP fun e => decide (t ≠ 0) || !isStart e
def pot (P : Prog) (s : Stt) : Nat := ((List.range P.rows.length).map fun t => rest P t (cnt s t)).sum
def On (P : Prog) (a : List Nat) (b t : Nat) : Prop := t = 0 ∨ Deed.start t ∈ ((rowOf P 0).filter isStart).take b ∨ Deed.start t ∈ dofR P a
structure JS (P : Prog) (s : Stt) (a : List Nat) (b : Nat) : Prop where
  ok : s.ok P
  c : ∀ t, t ≠ 0 → cnt s t = a.count t
  c0 : cnt s 0 = a.count 0 + b
  b0 : ((rowOf P 0).take (cnt s 0)).countP isStart = b
  k : s.kept = kof P a
  on : ∀ t, t < P.rows.length → (s.cs[t]? = some none ↔ ¬ On P a b t)
  lt : ∀ t ∈ a, t < P.rows.length
  len : a.length + pot P s = pot P (start P)
theorem cnt_at {s : Stt} {t : Nat} {o : Option Nat} (h : s.cs[t]? = some o) : cnt s t = o.getD 0 := by unfold cnt; rw [h]; rfl
theorem rowOf_at {P : Prog} {t : Nat} {r : List Deed} (h : P.rows[t]? = some r) : rowOf P t = r := by unfold rowOf; rw [h]; rfl
theorem filter_get {α : Type} {p : α → Bool} {l : List α} {c : Nat} {e : α} (h : l[c]? = some e) (hp : p e = true) : (l.filter p)[(l.take c).countP p]? = some e := by
  have hc : c < l.length := by
    rcases Nat.lt_or_ge c l.length with q | q
    · exact q
    · rw [List.getElem?_eq_none q] at h; cases h
  have e1 : l = l.take c ++ e :: l.drop (c + 1) := by
    rw [List.getElem?_eq_getElem hc] at h
    rw [← Option.some.inj h, ← List.drop_eq_getElem_cons hc, List.take_append_drop]
  have e2 : l.filter p = (l.take c).filter p ++ e :: (l.drop (c + 1)).filter p := by
    conv => lhs; rw [e1]
    rw [List.filter_append, List.filter_cons_of_pos hp]
  rw [e2, List.countP_eq_length_filter, List.getElem?_append_right (Nat.le_refl _), Nat.sub_self]; rfl
theorem sum_upd {f g : Nat → Nat} {t k : Nat} : ∀ n, t < n → (∀ u, u < n → u ≠ t → f u = g u) → f t = g t + k → ((List.range n).map f).sum = ((List.range n).map g).sum + k
  | 0, h, _, _ => by omega
  | n + 1, h, he, ht => by
    rw [List.range_succ, List.map_append, List.map_append, List.sum_append, List.sum_append]
    simp only [List.map_cons, List.map_nil, List.sum_cons, List.sum_nil]
    by_cases q : t = n
    · subst q
      have : (List.range t).map f = (List.range t).map g := List.map_congr_left fun u hu => by
        have := List.mem_range.mp hu
        exact he u (by omega) (by omega)
      rw [this]; omega
    · have := sum_upd (f := f) (g := g) (t := t) (k := k) n (by omega) (fun u hu hn => he u (by omega) hn) ht
      have := he n (by omega) (fun z => q z.symm)
      omega
theorem js_start {P : Prog} (hP : P.ok) : JS P (start P) [] 0 := by
  have h1 := hP.n0
  have g : ∀ t, t < P.rows.length → (start P).cs[t]? = some (if t = 0 then some 0 else none) := fun t ht => by
    unfold start
    dsimp only
    rw [List.getElem?_map, List.getElem?_range ht]; rfl
  have c0 : ∀ t, cnt (start P) t = 0 := fun t => by
    rcases Nat.lt_or_ge t P.rows.length with q | q
    · rw [cnt_at (g t q)]; split <;> rfl
    · unfold cnt
      rw [List.getElem?_eq_none (by rw [(start_ok hP).len]; exact q)]; rfl
  refine ⟨start_ok hP, fun t _ => by rw [c0]; rfl, by rw [c0]; rfl, by rw [c0]; rfl, rfl, fun t ht => ?_, (fun t ht => nomatch ht), by simp⟩
  rw [g t ht]
  unfold On
  by_cases q : t = 0
  · rw [if_pos q]; simp [q]
  · rw [if_neg q]; simp [q, dofR]
/-- the counts behind a step -/
theorem step_cnt {P : Prog} {s : Stt} {t c : Nat} {e : Deed} (hs : s.ok P) (h1 : s.cs[t]? = some (some c)) (h2 : next P s t = some e) (u : Nat) : cnt (step P s t) u = if u = t then c + 1 else cnt s u := by
  rw [step_of h1 h2]
  have htl : t < s.cs.length := by
    rcases Nat.lt_or_ge t s.cs.length with q | q
    · exact q
    · rw [List.getElem?_eq_none q] at h1; cases h1
  have base : ∀ u, ((((s.cs.set t (some (c + 1)))[u]?).join).getD 0) = if u = t then c + 1 else cnt s u := fun u => by
    by_cases q : u = t
    · subst q; rw [List.getElem?_set_self htl, if_pos rfl]; rfl
    · rw [List.getElem?_set_ne (fun z => q z.symm), if_neg q]; rfl
  unfold cnt
  dsimp only
  cases e with
  | start v =>
    by_cases hv : s.cs[v]? = some none
    · rw [sb_none hv]
      have hvt : v ≠ t := fun z => by rw [z, h1] at hv; cases hv
      by_cases q : u = v
      · subst q
        have : u < s.cs.length := by
          rcases Nat.lt_or_ge u s.cs.length with q | q
          · exact q
          · rw [List.getElem?_eq_none q] at hv; cases hv
        rw [List.getElem?_set_self (by rw [List.length_set]; exact this), if_neg hvt, hv]; rfl
      · rw [List.getElem?_set_ne (fun z => q z.symm)]; exact base u
    · rw [sb_some hv]; exact base u
  | wait p => exact base u
  | keep p n ps => exact base u
  | race p ps => exact base u
/-- what is not started behind a step -/
theorem step_none {P : Prog} {s : Stt} {t c : Nat} {e : Deed} (h1 : s.cs[t]? = some (some c)) (h2 : next P s t = some e) (u : Nat) : (step P s t).cs[u]? = some none ↔ s.cs[u]? = some none ∧ e ≠ .start u := by
  rw [step_of h1 h2]
  dsimp only
  have htl : t < s.cs.length := by
    rcases Nat.lt_or_ge t s.cs.length with q | q
    · exact q
    · rw [List.getElem?_eq_none q] at h1; cases h1
  have base : ∀ u, (s.cs.set t (some (c + 1)))[u]? = some none ↔ s.cs[u]? = some none := fun u => by
    by_cases q : u = t
    · subst q; rw [List.getElem?_set_self htl, h1]; simp
    · rw [List.getElem?_set_ne (fun z => q z.symm)]
  cases e with
  | start v =>
    by_cases hv : s.cs[v]? = some none
    · rw [sb_none hv]
      by_cases q : u = v
      · subst q
        have : u < s.cs.length := by
          rcases Nat.lt_or_ge u s.cs.length with q | q
          · exact q
          · rw [List.getElem?_eq_none q] at hv; cases hv
        rw [List.getElem?_set_self (by rw [List.length_set]; exact this)]; simp
      · rw [List.getElem?_set_ne (fun z => q z.symm), base u]
        simp [Ne.symm q]
    · rw [sb_some hv, base u]
      constructor
      · intro h
        refine ⟨h, fun z => ?_⟩
        injection z with z
        subst z
        exact hv h
      · exact fun h => h.1
  | wait p => simpa [startBy] using base u
  | keep p n ps => simpa [startBy] using base u
  | race p ps => simpa [startBy] using base u
theorem js_step {P : Prog} (hP : P.ok) {s : Stt} {a : List Nat} {b t : Nat} (h : JS P s a b) (hr : canT P s t = true) :
    JS P (step P s t) (if isS0 P s t = true then a else t :: a) (if isS0 P s t = true then b + 1 else b) := by
  have htl := canT_lt hP hr
  cases hn : next P s t with
  | none => unfold canT at hr; rw [hn] at hr; cases hr
  | some e =>
    obtain ⟨hok, c, r, h1, h2, h3⟩ := next_ok hP hn
    have hrow := rowOf_at h2
    have hcnt := cnt_at h1
    simp only [Option.getD_some] at hcnt
    have sc := step_cnt h.ok h1 hn
    have sn := step_none h1 hn
    have hc : c < r.length := by
      rcases Nat.lt_or_ge c r.length with q | q
      · exact q
      · rw [List.getElem?_eq_none q] at h3; cases h3
    have hdrop : r.drop c = e :: r.drop (c + 1) := by
      rw [List.getElem?_eq_getElem hc] at h3
      rw [← Option.some.inj h3, ← List.drop_eq_getElem_cons hc]
    have htake : r.take (c + 1) = r.take c ++ [e] := take_succ' h3
    -- what is left
    have hpot : pot P s = pot P (step P s t) + if (decide (t ≠ 0) || !isStart e) = true then 1 else 0 := by
      refine sum_upd _ htl (fun u _ hu => by rw [sc u, if_neg hu]) ?_
      rw [sc t, if_pos rfl, hcnt]
      unfold rest
      rw [hrow, hdrop, List.countP_cons]
    have hk : (step P s t).kept = keptBy s.kept e := by rw [step_of h1 hn]
    by_cases q : isS0 P s t = true
    · -- a start of the first row
      rw [if_pos q, if_pos q]
      unfold isS0 at q
      rw [Bool.and_eq_true, decide_eq_true_eq, hn] at q
      obtain ⟨q0, q1⟩ := q
      subst q0
      have q1 : isStart e = true := q1
      obtain ⟨v, rfl⟩ : ∃ v, e = .start v := by cases e <;> first | exact ⟨_, rfl⟩ | cases q1
      have hb : (r.take c).countP isStart = b := by have := h.b0; rw [hrow, hcnt] at this; exact this
      refine ⟨step_ok hP h.ok hr, fun u hu => by rw [sc u, if_neg hu]; exact h.c u hu, by rw [sc 0, if_pos rfl]; have := h.c0; omega, ?_, by rw [hk]; exact h.k, fun u hu => ?_, h.lt, ?_⟩
      · rw [sc 0, if_pos rfl, hrow, htake, List.countP_append, hb]; rfl
      · rw [sn u, h.on u hu]
        have e1 : ((rowOf P 0).filter isStart).take (b + 1) = ((rowOf P 0).filter isStart).take b ++ [.start v] := by
          refine take_succ' ?_
          rw [hrow, ← hb]
          exact filter_get h3 rfl
        unfold On
        rw [e1, List.mem_append, List.mem_singleton]
        constructor
        · rintro ⟨g1, g2⟩ (z | (z | z) | z)
          · exact g1 (.inl z)
          · exact g1 (.inr (.inl z))
          · exact g2 z.symm
          · exact g1 (.inr (.inr z))
        · intro g
          exact ⟨fun z => g (z.elim .inl fun z => .inr (z.elim (fun z => .inl (.inl z)) .inr)), fun z => g (.inr (.inl (.inr z.symm)))⟩
      · rw [← h.len, hpot, q1]; simp
    · rw [if_neg q, if_neg q]
      have q' : t ≠ 0 ∨ isStart e = false := by
        unfold isS0 at q
        rw [hn] at q
        by_cases z : t = 0
        · right
          cases he : isStart e with
          | false => rfl
          | true => exact absurd (by rw [z]; simp [he]) q
        · exact .inl z
      have hoth : oth P t (a.count t) = some e := by
        unfold oth
        by_cases z : t = 0
        · subst z
          rw [if_pos rfl, hrow]
          have he : (!isStart e) = true := by rcases q' with g | g; exact absurd rfl g; rw [g]; rfl
          have hb : (r.take c).countP isStart = b := by have := h.b0; rw [hrow, hcnt] at this; exact this
          have hcc : a.count 0 = (r.take c).countP fun e => !isStart e := by
            have g1 := List.length_eq_countP_add_countP isStart (l := r.take c)
            rw [List.length_take, Nat.min_eq_left (Nat.le_of_lt hc), hb] at g1
            have g2 := h.c0
            rw [hcnt] at g2
            have g3 : (r.take c).countP (fun a => decide ¬isStart a = true) = (r.take c).countP fun e => !isStart e := List.countP_congr fun x _ => by cases isStart x <;> simp
            omega
          rw [hcc]
          exact filter_get h3 he
        · rw [if_neg z, hrow, ← h.c t z, hcnt]; exact h3
      have hdof : dofR P (t :: a) = dofR P a ++ [e] := by rw [dofR, hoth]; rfl
      refine ⟨step_ok hP h.ok hr, fun u hu => ?_, ?_, ?_, ?_, fun u hu => ?_, fun u hu => ?_, ?_⟩
      · rw [sc u, List.count_cons]
        by_cases z : u = t
        · subst z
          have := h.c u hu
          rw [if_pos rfl]; simp; omega
        · rw [if_neg z, h.c u hu]; simp [Ne.symm z]
      · rw [sc 0, List.count_cons]
        by_cases z : (0 : Nat) = t
        · subst z
          have := h.c0
          rw [if_pos rfl]; simp; omega
        · rw [if_neg z, h.c0]; simp [Ne.symm z]
      · rw [sc 0]
        by_cases z : (0 : Nat) = t
        · subst z
          have he : isStart e = false := by rcases q' with g | g; exact absurd rfl g; exact g
          rw [if_pos rfl, hrow, htake, List.countP_append]
          have hb : (r.take c).countP isStart = b := by have := h.b0; rw [hrow, hcnt] at this; exact this
          rw [hb]; simp [he]
        · rw [if_neg z]; exact h.b0
      · rw [hk, h.k]; unfold kof; rw [hdof, List.foldl_append]; rfl
      · rw [sn u, h.on u hu]
        unfold On
        rw [hdof, List.mem_append, List.mem_singleton]
        constructor
        · rintro ⟨g1, g2⟩ (z | z | z | z)
          · exact g1 (.inl z)
          · exact g1 (.inr (.inl z))
          · exact g1 (.inr (.inr z))
          · exact g2 z.symm
        · intro g
          exact ⟨fun z => g (z.elim .inl fun z => .inr (z.elim .inl fun z => .inr (.inl z))), fun z => g (.inr (.inr (.inr z.symm)))⟩
      · rcases List.mem_cons.mp hu with z | z
        · rw [z]; exact htl
        · exact h.lt u z
      · rw [← h.len, hpot, if_pos (by rcases q' with g | g; simp [g]; simp [g]), List.length_cons]; omega
theorem js_run {P : Prog} (hP : P.ok) : ∀ (r : List Nat) (s : Stt) (a : List Nat) (b : Nat), JS P s a b → goesOn P s r → ∃ a' b', JS P (after P s r) a' b'
  | [], s, a, b, h, _ => ⟨a, b, h⟩
  | t :: r, s, a, b, h, g => js_run hP r (step P s t) _ _ (js_step hP h g.1) g.2
theorem js_inj {P : Prog} {s s' : Stt} {a : List Nat} {b : Nat} (h : JS P s a b) (h' : JS P s' a b) : s = s' := by
  have hk : s.kept = s'.kept := h.k.trans h'.k.symm
  have hc : s.cs = s'.cs := by
    refine List.ext_getElem? fun t => ?_
    rcases Nat.lt_or_ge t P.rows.length with q | q
    · have h1 := h.on t q
      have h2 := h'.on t q
      have e1 : cnt s t = cnt s' t := by
        by_cases z : t = 0
        · rw [z, h.c0, h'.c0]
        · rw [h.c t z, h'.c t z]
      have g1 : s.cs[t]? = some (s.cs[t]'(by rw [h.ok.len]; exact q)) := List.getElem?_eq_getElem _
      have g2 : s'.cs[t]? = some (s'.cs[t]'(by rw [h'.ok.len]; exact q)) := List.getElem?_eq_getElem _
      have key : s.cs[t]? = some none ↔ s'.cs[t]? = some none := h1.trans h2.symm
      rw [cnt_at g1, cnt_at g2] at e1
      rw [g1, g2] at key ⊢
      generalize s.cs[t]'(by rw [h.ok.len]; exact q) = x at *
      generalize s'.cs[t]'(by rw [h'.ok.len]; exact q) = y at *
      cases x with
      | none => rw [key.mp rfl]
      | some x =>
        cases y with
        | none => have := key.mpr rfl; cases this
        | some y => rw [show x = y from e1]
    · rw [List.getElem?_eq_none (by rw [h.ok.len]; exact q), List.getElem?_eq_none (by rw [h'.ok.len]; exact q)]
  cases s; cases s'
  dsimp only at hk hc
  rw [hk, hc]
theorem nodup_le {α : Type} [DecidableEq α] : ∀ (l m : List α), l.Nodup → (∀ x ∈ l, x ∈ m) → l.length ≤ m.length
  | [], _, _, _ => Nat.zero_le _
  | x :: l, m, h, hs => by
    rw [List.nodup_cons] at h
    have hx := hs x List.mem_cons_self
    have := nodup_le l (m.erase x) h.2 fun y hy => (List.mem_erase_of_ne (fun e => h.1 (by rw [← e]; exact hy))).mpr (hs y (List.mem_cons_of_mem _ hy))
    rw [List.length_erase_of_mem hx] at this
    have := List.length_pos_of_mem hx
    rw [List.length_cons]; omega
def words : Nat → List (List Nat)
  | 0 => [[]]
  | m + 1 => [] :: (words m).flatMap fun w => [0 :: w, 1 :: w, 2 :: w, 3 :: w]
theorem words_mem : ∀ {m : Nat} {w : List Nat}, w.length ≤ m → (∀ t ∈ w, t < 4) → w ∈ words m
  | 0, [], _, _ => List.mem_singleton.mpr rfl
  | 0, _ :: _, h, _ => by simp at h
  | m + 1, [], _, _ => List.mem_cons_self
  | m + 1, t :: w, h, ht => by
    refine List.mem_cons_of_mem _ (List.mem_flatMap.mpr ⟨w, words_mem (by simpa using h) fun u hu => ht u (List.mem_cons_of_mem _ hu), ?_⟩)
    have := ht t List.mem_cons_self
    have : t = 0 ∨ t = 1 ∨ t = 2 ∨ t = 3 := by omega
    rcases this with rfl | rfl | rfl | rfl <;> simp
theorem words_len : ∀ m, (words (m + 1)).length = 1 + 4 * (words m).length := fun m => by
  rw [words, List.length_cons, List.length_flatMap]
  have : ∀ l : List (List Nat), (l.map fun w => ([0 :: w, 1 :: w, 2 :: w, 3 :: w] : List (List Nat)).length).sum = 4 * l.length := fun l => by
    induction l with
    | nil => rfl
    | cons x l ih => rw [List.map_cons, List.sum_cons, ih, List.length_cons]; simp; omega
  rw [this]; omega
def codes (m s : Nat) : List (List Nat × Nat) := (words m).flatMap fun w => (List.range (s + 1)).map fun b => (w, b)
theorem codes_len (m s : Nat) : (codes m s).length = (words m).length * (s + 1) := by
  unfold codes
  rw [List.length_flatMap]
  generalize words m = l
  induction l with
  | nil => simp
  | cons x l ih => rw [List.map_cons, List.sum_cons, ih, List.length_map, List.length_range, List.length_cons, Nat.succ_mul]; omega
theorem pot_start {P : Prog} (hP : P.ok) {r0 : List Deed} {rs : List (List Deed)} (h : P.rows = r0 :: rs) : pot P (start P) + r0.countP isStart = (P.rows.map List.length).sum := by
  have c0 : ∀ t, cnt (start P) t = 0 := fun t => by
    by_cases z : t = 0
    · rw [z, (js_start hP).c0]; rfl
    · rw [(js_start hP).c t z]; rfl
  have gen : ∀ (rows : List (List Deed)) (k : Nat), (∀ i r, rows[i]? = some r → P.rows[k + i]? = some r) → k ≠ 0 → ((List.range rows.length).map fun i => rest P (k + i) 0).sum = (rows.map List.length).sum := by
    intro rows
    induction rows with
    | nil => intro k _ _; rfl
    | cons r rows ih =>
      intro k hr hk
      rw [List.length_cons, List.range_succ_eq_map, List.map_cons, List.map_cons, List.sum_cons, List.sum_cons, List.map_map]
      have := ih (k + 1) (fun i x hx => by have := hr (i + 1) x hx; rwa [show k + 1 + i = k + (i + 1) by omega]) (by omega)
      have e : (List.range rows.length).map ((fun i => rest P (k + i) 0) ∘ Nat.succ) = (List.range rows.length).map fun i => rest P (k + 1 + i) 0 := List.map_congr_left fun i _ => by
        show rest P (k + (i + 1)) 0 = _
        rw [show k + (i + 1) = k + 1 + i by omega]
      rw [e, this]
      congr 1
      unfold rest
      have g0 := hr 0 r rfl
      rw [Nat.add_zero] at g0
      rw [Nat.add_zero, rowOf_at g0, List.drop_zero]
      exact List.countP_eq_length.mpr fun x _ => by simp [hk]
  have e1 : pot P (start P) = rest P 0 0 + (rs.map List.length).sum := by
    unfold pot
    simp only [c0]
    rw [h, List.length_cons, List.range_succ_eq_map, List.map_cons, List.sum_cons, List.map_map]
    have := gen rs 1 (fun i x hx => by rw [h, Nat.add_comm]; exact hx) (by decide)
    rw [← this]
    congr 2
    exact List.map_congr_left fun i _ => by show rest P (i + 1) 0 = _; rw [Nat.add_comm]
  have e2 : rest P 0 0 + r0.countP isStart = r0.length := by
    unfold rest
    rw [rowOf_at (show P.rows[0]? = some r0 by rw [h]; rfl), List.drop_zero]
    have g := List.length_eq_countP_add_countP isStart (l := r0)
    have g3 : r0.countP (fun a => decide ¬isStart a = true) = r0.countP (fun e => decide ((0 : Nat) ≠ 0) || !isStart e) := List.countP_congr fun x _ => by cases isStart x <;> simp
    omega
  rw [h, List.map_cons, List.sum_cons, e1]; omega
/-- few states -/
theorem few {P : Prog} (hP : P.ok) (sh : Shape P) {l : List Stt} (hn : l.Nodup) (hl : ∀ s ∈ l, ∃ r, goesOn P (start P) r ∧ s = after P (start P) r) : l.length ≤ 5460 := by
  obtain ⟨h4, h8, r0, rs, hr, h5⟩ := sh
  have hp := pot_start hP hr
  have code : ∀ s ∈ l, ∃ ab : List Nat × Nat, JS P s ab.1 ab.2 := fun s hs => by
    obtain ⟨r, g, e⟩ := hl s hs
    obtain ⟨a, b, j⟩ := js_run hP r _ _ _ (js_start hP) g
    exact ⟨(a, b), by rw [e]; exact j⟩
  obtain ⟨f, hf⟩ : ∃ f : Stt → List Nat × Nat, ∀ s ∈ l, JS P s (f s).1 (f s).2 :=
    ⟨fun s => Classical.epsilon fun ab => JS P s ab.1 ab.2, fun s hs => Classical.epsilon_spec (code s hs)⟩
  have hc : ∀ s ∈ l, f s ∈ codes (pot P (start P)) (r0.countP isStart) := fun s hs => by
    have j := hf s hs
    refine List.mem_flatMap.mpr ⟨(f s).1, words_mem (by have := j.len; omega) fun t ht => by have := j.lt t ht; omega, List.mem_map.mpr ⟨(f s).2, List.mem_range.mpr ?_, rfl⟩⟩
    have := j.b0
    rw [rowOf_at (show P.rows[0]? = some r0 by rw [hr]; rfl)] at this
    have := List.Sublist.countP_le (p := isStart) (List.take_sublist (cnt s 0) r0)
    omega
  have inj : (l.map f).Nodup := by
    rw [List.nodup_iff_pairwise_ne] at hn ⊢
    rw [List.pairwise_map]
    refine List.Pairwise.imp_of_mem (fun {x y} hx hy h e => h ?_) hn
    have j1 := hf x hx
    have j2 := hf y hy
    rw [← e] at j2
    exact js_inj j1 j2
  have := nodup_le (l.map f) _ inj fun y hy => by obtain ⟨s, hs, rfl⟩ := List.mem_map.mp hy; exact hc s hs
  rw [List.length_map, codes_len] at this
  have hw : ∀ m s : Nat, m ≤ 5 → m + s ≤ 8 → (words m).length * (s + 1) ≤ 5460 := by
    have w0 : (words 0).length = 1 := rfl
    have w1 : (words 1).length = 5 := by rw [words_len, w0]
    have w2 : (words 2).length = 21 := by rw [words_len, w1]
    have w3 : (words 3).length = 85 := by rw [words_len, w2]
    have w4 : (words 4).length = 341 := by rw [words_len, w3]
    have w5 : (words 5).length = 1365 := by rw [words_len, w4]
    intro m s h1 h2
    have : m = 0 ∨ m = 1 ∨ m = 2 ∨ m = 3 ∨ m = 4 ∨ m = 5 := by omega
    rcases this with rfl | rfl | rfl | rfl | rfl | rfl <;> simp only [w0, w1, w2, w3, w4, w5] <;> omega
  exact Nat.le_trans this (hw _ _ (by omega) (by omega))
abbrev Row := Stt × List Nat
def put1 (P : Prog) (s : Stt) (r : List Nat) (rows : List Row) (t : Nat) : List Row := if step P s t ∈ rows.map (·.1) then rows else rows ++ [(step P s t, r ++ [t])]
def bfs (P : Prog) : Nat → List Row
  | 0 => [(start P, [])]
  | k + 1 => match (bfs P k)[k]? with
    | some x => (ready P x.1).foldl (put1 P x.1 x.2) (bfs P k)
    | none => bfs P k
@[irreducible] def explN : Nat := 6000
theorem explN_eq : explN = 6000 := by unfold explN; rfl
def expl (P : Prog) : List Row := bfs P explN
structure RowsOk (P : Prog) (rows : List Row) : Prop where
  run : ∀ x ∈ rows, goesOn P (start P) x.2 ∧ x.1 = after P (start P) x.2
  pre : ∀ x ∈ rows, x.2 ≠ [] → (after P (start P) x.2.dropLast, x.2.dropLast) ∈ rows
  nd : (rows.map (·.1)).Nodup
  hd : rows[0]? = some (start P, [])
theorem put1_old {P : Prog} {s : Stt} {r : List Nat} {rows : List Row} {t : Nat} (h : step P s t ∈ rows.map (·.1)) : put1 P s r rows t = rows := if_pos h
theorem put1_new {P : Prog} {s : Stt} {r : List Nat} {rows : List Row} {t : Nat} (h : ¬ step P s t ∈ rows.map (·.1)) : put1 P s r rows t = rows ++ [(step P s t, r ++ [t])] := if_neg h
theorem put1_more {P : Prog} {s : Stt} {r : List Nat} {rows : List Row} {t : Nat} : ∃ m, put1 P s r rows t = rows ++ m := by
  by_cases h : step P s t ∈ rows.map (·.1)
  · exact ⟨[], by rw [put1_old h, List.append_nil]⟩
  · exact ⟨_, put1_new h⟩
theorem put1_ok {P : Prog} {rows : List Row} {x : Row} {t : Nat} (h : RowsOk P rows) (hx : x ∈ rows) (hc : canT P x.1 t = true) : RowsOk P (put1 P x.1 x.2 rows t) := by
  by_cases q : step P x.1 t ∈ rows.map (·.1)
  · rw [put1_old q]; exact h
  · rw [put1_new q]
    obtain ⟨g1, g2⟩ := h.run x hx
    refine ⟨fun y hy => ?_, fun y hy hn => ?_, ?_, ?_⟩
    · rcases List.mem_append.mp hy with z | z
      · exact h.run y z
      · rw [List.mem_singleton.mp z]
        refine ⟨(goes_app _ _ _).mpr ⟨g1, by rw [← g2]; exact hc, True.intro⟩, ?_⟩
        rw [after_app, ← g2]; rfl
    · rcases List.mem_append.mp hy with z | z
      · exact List.mem_append_left _ (h.pre y z hn)
      · rw [List.mem_singleton.mp z]
        refine List.mem_append_left _ ?_
        rw [List.dropLast_concat, ← g2]
        exact hx
    · rw [List.map_append]
      refine List.nodup_append.mpr ⟨h.nd, by simp, fun a ha b hb e => ?_⟩
      rw [List.map_cons, List.map_nil, List.mem_singleton] at hb
      subst hb e
      exact q ha
    · have := h.hd
      cases rows with
      | nil => cases this
      | cons a l => exact this
theorem fold_more {P : Prog} {s : Stt} {r : List Nat} : ∀ (ts : List Nat) (rows : List Row), ∃ m, ts.foldl (put1 P s r) rows = rows ++ m
  | [], rows => ⟨[], (List.append_nil _).symm⟩
  | t :: ts, rows => by
    obtain ⟨m1, h1⟩ := put1_more (P := P) (s := s) (r := r) (rows := rows) (t := t)
    obtain ⟨m2, h2⟩ := fold_more (s := s) (r := r) ts (put1 P s r rows t)
    exact ⟨m1 ++ m2, by rw [List.foldl_cons, h2, h1, List.append_assoc]⟩
theorem fold_ok {P : Prog} {x : Row} : ∀ (ts : List Nat) (rows : List Row), RowsOk P rows → x ∈ rows → (∀ t ∈ ts, canT P x.1 t = true) → RowsOk P (ts.foldl (put1 P x.1 x.2) rows)
  | [], rows, h, _, _ => h
  | t :: ts, rows, h, hx, hc => by
    obtain ⟨m, e⟩ := put1_more (P := P) (s := x.1) (r := x.2) (rows := rows) (t := t)
    exact fold_ok ts _ (put1_ok h hx (hc t List.mem_cons_self)) (by rw [e]; exact List.mem_append_left _ hx) fun u hu => hc u (List.mem_cons_of_mem _ hu)
theorem bfs_at {P : Prog} {k : Nat} {x : Row} (h : (bfs P k)[k]? = some x) : bfs P (k + 1) = (ready P x.1).foldl (put1 P x.1 x.2) (bfs P k) := by rw [bfs, h]
theorem bfs_no {P : Prog} {k : Nat} (h : (bfs P k).length ≤ k) : bfs P (k + 1) = bfs P k := by rw [bfs, List.getElem?_eq_none h]
theorem bfs_ok {P : Prog} : ∀ k, RowsOk P (bfs P k)
  | 0 => ⟨fun x hx => by rw [List.mem_singleton.mp hx]; exact ⟨True.intro, rfl⟩, fun x hx hn => by rw [List.mem_singleton.mp hx] at hn; exact absurd rfl hn, by simp [bfs], rfl⟩
  | k + 1 => by
    cases h : (bfs P k)[k]? with
    | none => rw [bfs, h]; exact bfs_ok k
    | some x =>
      rw [bfs_at h]
      exact fold_ok _ _ (bfs_ok k) (List.mem_of_getElem? h) fun t ht => ready_mem ht
theorem rows_len {P : Prog} (hP : P.ok) (sh : Shape P) {rows : List Row} (h : RowsOk P rows) : rows.length ≤ 5460 := by
  rw [← List.length_map (f := fun x : Row => x.1)]
  exact few hP sh h.nd fun s hs => by
    obtain ⟨x, hx, rfl⟩ := List.mem_map.mp hs
    exact ⟨x.2, h.run x hx⟩
theorem bfs_stop {P : Prog} {k : Nat} (h : (bfs P k).length ≤ k) : ∀ j, bfs P (k + j) = bfs P k
  | 0 => rfl
  | j + 1 => by
    have ih := bfs_stop h j
    rw [← Nat.add_assoc, bfs_no (by rw [ih]; omega), ih]
theorem bfs_end {P : Prog} {k : Nat} (h : (bfs P k).length ≤ k) (hk : k ≤ 6000) : bfs P k = expl P := by
  have := bfs_stop h (explN - k)
  rw [show k + (explN - k) = explN by rw [explN_eq]; omega] at this
  exact this.symm
theorem expl_ok {P : Prog} : RowsOk P (expl P) := bfs_ok explN
theorem expl_len {P : Prog} (hP : P.ok) (sh : Shape P) : (expl P).length ≤ 5460 := rows_len hP sh expl_ok
theorem goes_len {P : Prog} (hP : P.ok) (sh : Shape P) : ∀ {r : List Nat}, goesOn P (start P) r → r.length ≤ 8 := by
  intro r g
  obtain ⟨h4, h8, r0, rs, hr, h5⟩ := sh
  have hp := pot_start hP hr
  have gen : ∀ (r : List Nat) (s : Stt) (a : List Nat) (b : Nat), JS P s a b → goesOn P s r → ∃ a' b', JS P (after P s r) a' b' ∧ a'.length + b' = a.length + b + r.length := by
    intro r
    induction r with
    | nil => intro s a b j _; exact ⟨a, b, j, rfl⟩
    | cons t r ih =>
      intro s a b j g
      obtain ⟨a', b', j', e⟩ := ih _ _ _ (js_step hP j g.1) g.2
      refine ⟨a', b', j', ?_⟩
      rw [e, List.length_cons]
      split
      · omega
      · rw [List.length_cons]; omega
  obtain ⟨a, b, j, e⟩ := gen r _ _ _ (js_start hP) g
  have h1 := j.len
  have h2 := j.b0
  rw [rowOf_at (show P.rows[0]? = some r0 by rw [hr]; rfl)] at h2
  have := List.Sublist.countP_le (p := isStart) (List.take_sublist (cnt (after P (start P) r) 0) r0)
  simp only [List.length_nil] at e
  omega
theorem enc_opt : Enc optD 0 := ⟨fun x => by cases x <;> exact ⟨_, by rw [optD, nk]⟩, fun x y h => by
  cases x with
  | none => cases y <;> first | rfl | cases h
  | some x => cases y with
    | none => cases h
    | some y => injection h with h; rw [show x = y by omega], fun x => by cases x <;> rw [optD, D.dep] <;> exact Nat.le_refl 0⟩
theorem enc_stt0 : Enc Stt.d 3 := Enc.comp (f := fun p : List (Option Nat) × List (Int × Int) => D.tup [.tup (p.1.map optD), .tup (p.2.map pairD)]) (h := fun s : Stt => (s.cs, s.kept))
  (enc_pair (enc_list enc_opt) (enc_list (enc_pair enc_int enc_int))) fun x y e => by
    cases x; cases y
    injection e with e1 e2
    dsimp only at e1 e2
    subst e1 e2
    rfl
theorem enc_stt : TEnc Stt.d := ⟨enc_stt0.mono (by decide), fun s => ⟨_, rfl⟩⟩
def pv (P : Prog) (r : List Nat) : Option (Stt × Nat) := match r.getLast? with
  | some t => some (after P (start P) r.dropLast, t)
  | none => none
def pvD : Option (Stt × Nat) → D
  | none => .non
  | some x => .tup [x.1.d, .int (x.2 : Int)]
def ptab (P : Prog) (rows : List Row) : List (Stt × Option (Stt × Nat)) := rows.map fun x => (x.1, pv P x.2)
theorem ptab_keys {P : Prog} {rows : List Row} : (ptab P rows).map (·.1) = rows.map (·.1) := by unfold ptab; rw [List.map_map]; rfl
theorem ptab_len {P : Prog} {rows : List Row} : (ptab P rows).length = rows.length := List.length_map ..
theorem ptab_get {P : Prog} {rows : List Row} (h : RowsOk P rows) {x : Row} (hx : x ∈ rows) : tget (ptab P rows) x.1 = some (pv P x.2) := tget_of_mem (by rw [ptab_keys]; exact h.nd) (List.mem_map.mpr ⟨x, hx, rfl⟩)
theorem pv_snoc {P : Prog} {r : List Nat} {t : Nat} : pv P (r ++ [t]) = some (after P (start P) r, t) := by unfold pv; rw [List.getLast?_concat, List.dropLast_concat]
theorem reached_spec {n : Nat} {P : Prog} {S : DS} {Q : DK} (hP : P.ok) (sh : Shape P) (h : ∀ p st S', S p = none → S' p = some (.dct st (tab Stt.d pvD (ptab P (expl P)))) → Ext S S' → Q (.ref p) S') : sem fs (n + 4) 10 [P.d] S Q := by
  refine run_reached ?_
  unfold b_10
  repeat walk_at "e"
  refine start_spec hP fun S1 x1 => ?_
  repeat walk_at "e"
  refine ⟨by rw [if_neg Bool.false_ne_true]; exact enc_stt.tk _, i_newD1 fun p st S2 n2 e2 x2 => ?_⟩
  repeat walk_at "e"
  refine i_newL fun w S3 n3 e3 x3 => ?_
  have e3p := x3.get e2
  have npw : p ≠ w := dne e2 n3
  have Sp := Ext.back x1 n2
  have Sw := Ext.back (x1.trans x2) n3
  repeat walk_at "e"
  refine while_inv (fun m δ S4 => ∃ k o5 o6 o7 st, m + k = 6000 ∧ δ = [some P.d, some (start P).d, some (.ref p), some (.ref w), some (.int (k : Int)), o5, o6, o7] ∧ S4 p = some (.dct st (tab Stt.d pvD (ptab P (bfs P k)))) ∧ S4 w = some (.lst ((bfs P k).map fun x => x.1.d)) ∧ Ext S S4) 6000 ⟨0, none, none, none, st, rfl, rfl, e3p, e3, (x1.trans x2).trans x3⟩ ?_
  rintro m δ S4 nx ⟨k, o5, o6, o7, st, hm, rfl, p4, w4, x4⟩ hnx
  have hlen := rows_len hP sh (bfs_ok (P := P) k)
  repeat walk_at "e"
  rw [List.length_map]
  refine ite_dec (fun c => ?_) (fun c => ?_)
  · have hk : k < (bfs P k).length := by omega
    have hx := List.getElem?_eq_getElem hk
    generalize (bfs P k)[k] = x at hx
    have hxm := List.mem_of_getElem? hx
    obtain ⟨g1, g2⟩ := (bfs_ok k).run x hxm
    have hs : x.1.ok P := by rw [g2]; exact after_ok hP _ _ (start_ok hP) g1
    repeat walk_at "e"
    refine o_ixL w4 (lst_map_at rfl hx) ?_
    repeat walk_at "e"
    refine ready_spec hP hs fun S5 x5 => ?_
    have p5 := x5.get p4
    have w5 := x5.get w4
    repeat walk_at "e"
    refine for_inv (fun j δ S6 => ∃ o6 o7 st, δ = [some P.d, some (start P).d, some (.ref p), some (.ref w), some (.int ((k : Int) + 1)), some x.1.d, o6, o7] ∧ S6 p = some (.dct st (tab Stt.d pvD (ptab P (((ready P x.1).take j).foldl (put1 P x.1 x.2) (bfs P k))))) ∧ S6 w = some (.lst ((((ready P x.1).take j).foldl (put1 P x.1 x.2) (bfs P k)).map fun x => x.1.d)) ∧ Ext S S6)
      ⟨_, _, _, rfl, p5, w5, x4.trans x5⟩ (fun _ _ _ _ _ => rfl) ?_ ?_
    · rintro j y δ S6 nx' hy hj ⟨o6, o7, st, rfl, p6, w6, x6⟩ hnx'
      obtain ⟨t, ht, rfl⟩ := map_at hy
      have hc := ready_mem (List.mem_of_getElem? ht)
      have fo := fold_ok ((ready P x.1).take j) (bfs P k) (bfs_ok k) hxm fun t ht => ready_mem (List.mem_of_mem_take ht)
      have fl := rows_len hP sh fo
      rw [take_succ' ht] at hnx'
      simp only [List.foldl_append, List.foldl_cons, List.foldl_nil] at hnx'
      generalize ((ready P x.1).take j).foldl (put1 P x.1 x.2) (bfs P k) = rows at *
      repeat walk_at "e"
      refine step_spec hP hs (canT_lt hP hc) hc fun S7 x7 => ?_
      have p7 := x7.get p6
      have w7 := x7.get w6
      repeat walk_at "e"
      refine t_notin enc_stt.toEnc p7 (kOk_tab enc_stt _ _) ?_
      rw [ptab_keys]
      repeat walk_at "e"
      refine ite_ndec (fun c => ?_) (fun c => ?_)
      · rw [put1_new c] at hnx'
        repeat walk_at "e"
        refine t_set (v := some (x.1, t)) enc_stt.toEnc p7 (kOk_tab enc_stt _ _) (by rw [ptab_len]; omega) (i_putD fun st8 S8 p8 b8 => ?_)
        have w8 := b8.get npw.symm w7
        have x8 := (x6.trans x7).but b8 Sp
        repeat walk_at "e"
        refine m_append w8 (by rw [List.length_append, List.length_map]; show _ + 1 ≤ _; omega) (i_putL fun S9 w9 b9 => ?_)
        have p9 := b9.get npw p8
        refine hnx' _ _ ⟨_, _, st8, rfl, ?_, ?_, x8.but b9 Sw⟩
        · rw [p9]
          congr 3
          rw [tput_new]
          · unfold ptab
            rw [List.map_append]
            simp only [List.map_cons, List.map_nil, pv_snoc, ← g2]
          · cases hq : tget (ptab P rows) (step P x.1 t) with
            | none => rfl
            | some v => exact absurd (by rw [← ptab_keys (P := P)]; exact List.mem_map.mpr ⟨_, tget_some hq, rfl⟩) c
        · rw [w9, List.map_append]; rfl
      · rw [put1_old c] at hnx'
        repeat walk_at "e"
        exact hnx' _ _ ⟨_, _, _, rfl, p7, w7, x6.trans x7⟩
    · rintro δ S6 ⟨o6, o7, st, rfl, p6, w6, x6⟩
      rw [natsD_len, List.take_length, ← bfs_at hx] at p6 w6
      exact hnx (m - 1) _ _ (by omega) ⟨k + 1, _, _, _, st, by omega, by rw [Int.natCast_add]; rfl, p6, w6, x6⟩
  · repeat walk_at "e"
    have hk : (bfs P k).length ≤ k := by omega
    rw [bfs_end hk (by omega)] at p4
    exact h p st S4 Sp p4 x4
theorem way_spec {n : Nat} {P : Prog} {rows : List Row} {x : Row} {p : Addr} {st : DStm} {S : DS} {Q : DK} (hr : RowsOk P rows) (hx : x ∈ rows) (e : S p = some (.dct st (tab Stt.d pvD (ptab P rows)))) (hl : x.2.length ≤ 1000) (h : ∀ S', Ext S S' → Q (.tup (natsD x.2)) S') : sem fs (n + 1) 11 [.ref p, x.1.d] S Q := by
  refine run_way_to ?_
  unfold b_11
  repeat walk_at "e"
  refine i_newL fun w S1 n1 e1 x1 => ?_
  have p1 := x1.get e
  have npw : p ≠ w := dne e n1
  repeat walk_at "e"
  refine t_ix enc_stt.toEnc p1 (kOk_tab enc_stt _ _) (ptab_get hr hx) ?_
  repeat walk_at "e"
  refine while_inv (fun m δ S2 => ∃ r mv, m = r.length ∧ x.2 = r ++ mv.reverse ∧ (after P (start P) r, r) ∈ rows ∧ δ = [some (.ref p), some x.1.d, some (.ref w), some (pvD (pv P r))] ∧ S2 p = some (.dct st (tab Stt.d pvD (ptab P rows))) ∧ S2 w = some (.lst (natsD mv)) ∧ Ext S S2) x.2.length ⟨x.2, [], rfl, by simp, ?_, rfl, p1, e1, x1⟩ ?_
  · have := (hr.run x hx).2
    rw [← this]; exact hx
  rintro m δ S2 nx ⟨r, mv, rfl, hr2, hm, rfl, p2, w2, x2⟩ hnx
  rcases List.eq_nil_or_concat r with e0 | ⟨r', t, e0⟩
  · subst e0
    repeat walk_at "e"
    refine ite_nt ?_
    repeat walk_at "e"
    refine i_newL fun z S3 n3 e3 x3 => ?_
    repeat walk_at "e"
    have : (natsD mv).reverse = natsD x.2 := by rw [hr2]; unfold natsD; rw [← List.map_reverse]; rfl
    rw [this]
    exact h S3 (x2.trans x3)
  · rw [List.concat_eq_append] at e0
    subst e0
    rw [pv_snoc]
    have hpre := hr.pre _ hm (by simp)
    rw [List.dropLast_concat] at hpre
    have hlen : mv.length ≤ x.2.length := by rw [hr2, List.length_append, List.length_reverse]; omega
    repeat walk_at "e"
    refine ite_nf ?_
    repeat walk_at "e"
    refine o_ixT (v := .int (t : Int)) rfl ?_
    repeat walk_at "e"
    refine m_append w2 (by rw [List.length_append, natsD_len]; show mv.length + 1 ≤ _; omega) (i_putL fun S3 w3 b3 => ?_)
    have p3 := b3.get npw p2
    repeat walk_at "e"
    refine o_ixT (v := (after P (start P) r').d) rfl ?_
    refine t_ix (k := after P (start P) r') enc_stt.toEnc p3 (kOk_tab enc_stt _ _) (ptab_get hr hpre) ?_
    repeat walk_at "e"
    exact hnx _ _ _ (by simp) ⟨r', mv ++ [t], rfl, by rw [hr2]; simp, hpre, rfl, p3, by rw [w3]; unfold natsD; rw [List.map_append]; rfl, x2.but b3 n1⟩
def RowsAt (S : DS) (w : Addr) (rows : List Row) : Prop := ∃ as : List Addr, as.length = rows.length ∧ S w = some (.lst (as.map D.ref)) ∧ ∀ (i : Nat) (a : Addr) (x : Row), as[i]? = some a → rows[i]? = some x → S a = some (.lst [x.1.d, .tup (natsD x.2)]) ∧ a ≠ w
theorem RowsAt.ext {S S' : DS} {w : Addr} {rows : List Row} (h : RowsAt S w rows) (e : Ext S S') : RowsAt S' w rows :=
  let ⟨as, h1, h2, h3⟩ := h; ⟨as, h1, e.get h2, fun i a x ha hx => ⟨e.get (h3 i a x ha hx).1, (h3 i a x ha hx).2⟩⟩
theorem RowsAt.but {S S' : DS} {w p : Addr} {rows : List Row} (h : RowsAt S w rows) (e : But p S S') (hw : w ≠ p) (hp : ∀ ys, S p = some ys → ∀ x : Row, ys ≠ .lst [x.1.d, .tup (natsD x.2)]) : RowsAt S' w rows :=
  let ⟨as, h1, h2, h3⟩ := h; ⟨as, h1, e.get hw h2, fun i a x ha hx => ⟨e.get (fun z => by subst z; exact hp _ (h3 i a x ha hx).1 x rfl) (h3 i a x ha hx).1, (h3 i a x ha hx).2⟩⟩
theorem RowsAt.get {S : DS} {w : Addr} {rows : List Row} (h : RowsAt S w rows) {i : Nat} {x : Row} (hx : rows[i]? = some x) : ∃ (as : List Addr) (a : Addr), as.length = rows.length ∧ S w = some (.lst (as.map D.ref)) ∧ as[i]? = some a ∧ S a = some (.lst [x.1.d, .tup (natsD x.2)]) := by
  obtain ⟨as, h1, h2, h3⟩ := h
  have hi : i < as.length := by
    rw [h1]
    rcases Nat.lt_or_ge i rows.length with q | q
    · exact q
    · rw [List.getElem?_eq_none q] at hx; cases hx
  exact ⟨as, as[i], h1, h2, List.getElem?_eq_getElem hi, (h3 i _ x (List.getElem?_eq_getElem hi) hx).1⟩
theorem RowsAt.add {S S' S'' : DS} {w a : Addr} {rows : List Row} {x : Row} (h : RowsAt S w rows) (na : S a = none) (ea : S' a = some (.lst [x.1.d, .tup (natsD x.2)])) (xa : Ext S S') (hw : ∀ as : List Addr, S w = some (.lst (as.map D.ref)) → S'' w = some (.lst (as.map D.ref ++ [.ref a]))) (b : But w S' S'') : RowsAt S'' w (rows ++ [x]) := by
  obtain ⟨as, h1, h2, h3⟩ := h
  have haw : a ≠ w := fun z => by subst z; rw [h2] at na; cases na
  refine ⟨as ++ [a], by rw [List.length_append, List.length_append, h1]; rfl, by rw [hw as h2, List.map_append]; rfl, fun i c y hc hy => ?_⟩
  by_cases hi : i < as.length
  · rw [List.getElem?_append_left hi] at hc
    rw [List.getElem?_append_left (by rw [← h1]; exact hi)] at hy
    obtain ⟨g1, g2⟩ := h3 i c y hc hy
    exact ⟨b.get g2 (xa.get g1), g2⟩
  · rw [List.getElem?_append_right (by omega)] at hc
    rw [List.getElem?_append_right (by omega), ← h1] at hy
    cases hq : i - as.length with
    | zero =>
      rw [hq] at hc hy
      obtain rfl := Option.some.inj hc
      obtain rfl := Option.some.inj hy
      exact ⟨b.get haw ea, haw⟩
    | succ m => rw [hq] at hc; cases hc
def seenT (rows : List Row) : List (Stt × Bool) := rows.map fun x => (x.1, true)
theorem seenT_keys {rows : List Row} : (seenT rows).map (·.1) = rows.map (·.1) := by unfold seenT; rw [List.map_map]; rfl
theorem explored_spec {n : Nat} {P : Prog} {S : DS} {Q : DK} (hP : P.ok) (sh : Shape P) (h : ∀ w S', S w = none → RowsAt S' w (expl P) → Ext S S' → Q (.ref w) S') : sem fs (n + 4) 31 [P.d] S Q := by
  refine run__law_explored ?_
  unfold b_31
  repeat walk_at "e"
  refine lstart_spec hP fun S1 x1 => ?_
  repeat walk_at "e"
  refine i_newL fun a S2 n2 e2 x2 => ?_
  repeat walk_at "e"
  refine i_newL fun w S3 n3 e3 x3 => ?_
  have a3 := x3.get e2
  have haw := dne e2 n3
  have Sw := Ext.back (x1.trans x2) n3
  repeat walk_at "e"
  refine o_ixL (v := .ref a) e3 rfl ?_
  repeat walk_at "e"
  refine o_ixL (v := (start P).d) a3 rfl ?_
  repeat walk_at "e"
  refine ⟨by rw [if_neg Bool.false_ne_true]; exact enc_stt.tk _, i_newD1 fun p st S4 n4 e4 x4 => ?_⟩
  have e4w := x4.get e3
  have nwp : w ≠ p := dne e3 n4
  have Sp := Ext.back ((x1.trans x2).trans x3) n4
  have r0 : RowsAt S4 w (bfs P 0) := ⟨[a], rfl, e4w, fun i c y hc hy => by
    cases i with
    | zero =>
      obtain rfl := Option.some.inj hc
      obtain rfl := Option.some.inj hy
      exact ⟨x4.get a3, haw⟩
    | succ m => cases hc⟩
  repeat walk_at "e"
  have fin : ∀ (rows : List Row) S5 δ, rows = expl P → (∃ o3 o4 o5 o6 o7, δ = [some P.d, some (.ref w), some (.ref p), o3, o4, o5, o6, o7]) → RowsAt S5 w rows → Ext S S5 → dRet (dVar 1) { nx := fun _ S' => Q .non S', rt := Q, bk := fun _ _ => False, ct := fun _ _ => False } δ S5 := by
    rintro rows S5 δ rfl ⟨o3, o4, o5, o6, o7, rfl⟩ hr x5
    repeat walk_at "e"
    exact h w S5 Sw hr x5
  refine i_rng1V (by decide) (for_inv (fun k δ S5 => ∃ o3 o4 o5 o6 o7 st, δ = [some P.d, some (.ref w), some (.ref p), o3, o4, o5, o6, o7] ∧ S5 p = some (.dct st (tab Stt.d D.bl (seenT (bfs P k)))) ∧ RowsAt S5 w (bfs P k) ∧ Ext S S5) ⟨_, _, _, _, _, _, rfl, e4, r0, ((x1.trans x2).trans x3).trans x4⟩ (fun _ _ _ _ _ => True.intro) ?_ ?_)
  · rintro k y δ S5 nx hy hk ⟨o3, o4, o5, o6, o7, st, rfl, p5, w5, x5⟩ hnx
    obtain ⟨rfl, hk6⟩ := rng_at hy
    rw [Int.zero_add]
    have hlen := rows_len hP sh (bfs_ok (P := P) k)
    obtain ⟨as, has, ew, _⟩ := id w5
    repeat walk_at "e"
    rw [List.length_map, has]
    refine ite_dec (fun c => ?_) (fun c => ?_)
    · repeat walk_at "e"
      rw [bfs_end (k := k) (by omega) (by omega)] at w5
      exact h w S5 Sw w5 x5
    · have hk : k < (bfs P k).length := by omega
      have hx := List.getElem?_eq_getElem hk
      generalize (bfs P k)[k] = x at hx
      have hxm := List.mem_of_getElem? hx
      obtain ⟨g1, g2⟩ := (bfs_ok k).run x hxm
      have hs : x.1.ok P := by rw [g2]; exact after_ok hP _ _ (start_ok hP) g1
      obtain ⟨as', c, _, ew', hc, ec⟩ := w5.get hx
      repeat walk_at "e"
      refine o_ixL ew' (lst_map_at rfl hc) ?_
      repeat walk_at "e"
      refine lready_spec hP hs fun l S6 n6 e6 x6 => ?_
      have p6 := x6.get p5
      have w6 := w5.ext x6
      repeat walk_at "e"
      have npl : p ≠ l := dne p5 n6
      have nwl : w ≠ l := dne ew n6
      refine for_inv (fun j δ S7 => ∃ o6 o7 st, δ = [some P.d, some (.ref w), some (.ref p), some (.int (k : Int)), some x.1.d, some (.tup (natsD x.2)), o6, o7] ∧ S7 p = some (.dct st (tab Stt.d D.bl (seenT (((ready P x.1).take j).foldl (put1 P x.1 x.2) (bfs P k))))) ∧ RowsAt S7 w (((ready P x.1).take j).foldl (put1 P x.1 x.2) (bfs P k)) ∧ S7 l = some (.lst (natsD (ready P x.1))) ∧ Ext S S7)
        ⟨_, _, _, rfl, p6, w6, e6, x5.trans x6⟩ (fun _ _ _ _ ⟨_, _, _, _, _, _, q, _⟩ => seq_ref q) ?_ ?_
      · rintro j y δ S7 nx' hy hj ⟨o6, o7, st, rfl, p7, w7, l7, x7⟩ hnx'
        obtain ⟨t, ht, rfl⟩ := map_at hy
        have hcn := ready_mem (List.mem_of_getElem? ht)
        have fo := fold_ok ((ready P x.1).take j) (bfs P k) (bfs_ok k) hxm fun t ht => ready_mem (List.mem_of_mem_take ht)
        have fl := rows_len hP sh fo
        rw [take_succ' ht] at hnx'
        simp only [List.foldl_append, List.foldl_cons, List.foldl_nil] at hnx'
        generalize ((ready P x.1).take j).foldl (put1 P x.1 x.2) (bfs P k) = rows at *
        repeat walk_at "e"
        refine lstep_spec hP hs hcn fun S8 x8 => ?_
        have p8 := x8.get p7
        have w8 := w7.ext x8
        have l8 := x8.get l7
        repeat walk_at "e"
        refine t_notin enc_stt.toEnc p8 (kOk_tab enc_stt _ _) ?_
        rw [seenT_keys]
        repeat walk_at "e"
        refine ite_ndec (fun c => ?_) (fun c => ?_)
        · rw [put1_new c] at hnx'
          repeat walk_at "e"
          refine t_set (v := true) enc_stt.toEnc p8 (kOk_tab enc_stt _ _) (by unfold seenT; rw [List.length_map]; omega) (i_putD fun st9 S9 p9 b9 => ?_)
          have w9 := w8.but b9 nwp fun ys q z e => by rw [p8] at q; rw [← Option.some.inj q] at e; cases e
          have l9 := b9.get npl.symm l8
          have x9 := (x7.trans x8).but b9 Sp
          obtain ⟨as9, ha9, ew9, _⟩ := id w9
          repeat walk_at "e"
          refine o_addT (by rw [natsD_len]; have := goes_len hP sh g1; show _ + 1 ≤ _; omega) ?_
          repeat walk_at "e"
          refine i_newL fun c2 S10 n10 e10 x10 => ?_
          have ew10 := x10.get ew9
          repeat walk_at "e"
          refine m_append ew10 (by rw [List.length_append, List.length_map, ha9]; show _ + 1 ≤ _; omega) (i_putL fun S11 w11 b11 => ?_)
          refine hnx' _ _ ⟨_, _, st9, rfl, ?_, ?_, b11.get nwl.symm (x10.get l9), (x9.trans x10).but b11 Sw⟩
          · rw [b11.get nwp.symm (x10.get p9)]
            congr 3
            rw [tput_new]
            · unfold seenT; rw [List.map_append]; rfl
            · cases hq : tget (seenT rows) (step P x.1 t) with
              | none => rfl
              | some v => exact absurd (by rw [← seenT_keys]; exact List.mem_map.mpr ⟨_, tget_some hq, rfl⟩) c
          · refine w9.add (x := (step P x.1 t, x.2 ++ [t])) n10 (by rw [e10]; unfold natsD; rw [List.map_append]; rfl) x10 (fun as h => ?_) b11
            rw [ew9] at h
            rw [w11]
            injection h with h
            injection h with h
            rw [h]
        · rw [put1_old c] at hnx'
          repeat walk_at "e"
          exact hnx' _ _ ⟨_, _, _, rfl, p8, w8, l8, x7.trans x8⟩
      · rintro δ S7 ⟨o6, o7, st, rfl, p7, w7, l7, x7⟩
        rw [natsD_len, List.take_length, ← bfs_at hx] at p7 w7
        exact hnx _ _ ⟨_, _, _, _, _, st, rfl, p7, w7, x7⟩
  · rintro δ S5 ⟨o3, o4, o5, o6, o7, st, rfl, p5, w5, x5⟩
    rw [rng_len, show (6000 : Int).toNat = explN by rw [explN_eq]; rfl] at w5
    exact fin _ _ _ rfl ⟨_, _, _, _, _, rfl⟩ w5 x5
abbrev Out := List (Option Int) × List Nat
def outD (o : Out) : D := .tup [.tup (o.1.map optI), .tup (natsD o.2)]
theorem enc_optI : Enc optI 0 := ⟨fun x => by cases x <;> exact ⟨_, by rw [optI, nk]⟩, fun x y h => by
  cases x with
  | none => cases y <;> first | rfl | cases h
  | some x => cases y with
    | none => cases h
    | some y => injection h with h; rw [h], fun x => by cases x <;> rw [optI, D.dep] <;> exact Nat.le_refl 0⟩
theorem enc_natI : Enc (fun t : Nat => D.int (t : Int)) 0 := ⟨fun x => enc_int.pl _, fun x y h => by injection h with h; omega, fun x => enc_int.dep _⟩
theorem enc_out0 : Enc outD 3 := (enc_pair (enc_list enc_optI) (enc_list enc_natI)).mono (by decide)
theorem enc_out : TEnc outD := ⟨enc_out0.mono (by decide), fun o => ⟨_, rfl⟩⟩
def out (P : Prog) (s : Stt) : Out := ((List.range P.many).map fun (p : Nat) => worth s.kept (p : Int), (List.range P.rows.length).filter fun t => (next P s t).isSome)
theorem out_eq {P : Prog} {s : Stt} : D.tup [.tup ((List.range P.many).map fun (p : Nat) => optI (worth s.kept (p : Int))), .tup (natsD ((List.range P.rows.length).filter fun t => (next P s t).isSome))] = outD (out P s) := by
  unfold outD out
  rw [List.map_map]; rfl
def ends (P : Prog) : List Row := (expl P).filter fun x => (ready P x.1).isEmpty
def fr1 (P : Prog) (ts : List (Out × List Nat)) (x : Row) : List (Out × List Nat) := if out P x.1 ∈ ts.map (·.1) then ts else ts ++ [(out P x.1, x.2)]
def frs (P : Prog) (rows : List Row) : List (Out × List Nat) := rows.foldl (fr1 P) []
def frL (P : Prog) : List (Out × List Nat) := frs P (ends P)
theorem fr1_old {P : Prog} {ts : List (Out × List Nat)} {x : Row} (h : out P x.1 ∈ ts.map (·.1)) : fr1 P ts x = ts := if_pos h
theorem fr1_new {P : Prog} {ts : List (Out × List Nat)} {x : Row} (h : out P x.1 ∉ ts.map (·.1)) : fr1 P ts x = ts ++ [(out P x.1, x.2)] := if_neg h
theorem frs_len {P : Prog} : ∀ (rows : List Row) (ts : List (Out × List Nat)), (rows.foldl (fr1 P) ts).length ≤ ts.length + rows.length
  | [], _ => Nat.le_refl _
  | x :: rows, ts => by
    have h1 := frs_len (P := P) rows (fr1 P ts x)
    have h2 : (fr1 P ts x).length ≤ ts.length + 1 := by
      unfold fr1
      split
      · omega
      · rw [List.length_append]; exact Nat.le_refl _
    rw [List.foldl_cons, List.length_cons]
    omega
theorem frs_nodup {P : Prog} : ∀ (rows : List Row) (ts : List (Out × List Nat)), (ts.map (·.1)).Nodup → ((rows.foldl (fr1 P) ts).map (·.1)).Nodup
  | [], _, h => h
  | x :: rows, ts, h => by
    rw [List.foldl_cons]
    refine frs_nodup rows _ ?_
    by_cases c : out P x.1 ∈ ts.map (·.1)
    · rw [fr1_old c]; exact h
    · rw [fr1_new c, List.map_append, List.nodup_append]
      refine ⟨h, by simp, fun a ha b hb e => ?_⟩
      rw [List.map_cons, List.map_nil, List.mem_singleton] at hb
      subst hb e
      exact c ha
theorem frL_nodup {P : Prog} : ((frL P).map (·.1)).Nodup := frs_nodup _ _ .nil
theorem frs_mem {P : Prog} : ∀ (rows : List Row) (ts : List (Out × List Nat)) (e : Out × List Nat), e ∈ rows.foldl (fr1 P) ts → e ∈ ts ∨ ∃ x ∈ rows, e = (out P x.1, x.2)
  | [], _, _, h => .inl h
  | x :: rows, ts, e, h => by
    rw [List.foldl_cons] at h
    rcases frs_mem rows _ e h with z | ⟨y, hy, q⟩
    · by_cases c : out P x.1 ∈ ts.map (·.1)
      · rw [fr1_old c] at z; exact .inl z
      · rw [fr1_new c] at z
        rcases List.mem_append.mp z with w | w
        · exact .inl w
        · rw [List.mem_singleton.mp w]; exact .inr ⟨x, List.mem_cons_self .., rfl⟩
    · exact .inr ⟨y, List.mem_cons_of_mem _ hy, q⟩
theorem frL_mem {P : Prog} {e : Out × List Nat} (h : e ∈ frL P) : ∃ x ∈ ends P, e = (out P x.1, x.2) := by
  rcases frs_mem _ _ _ h with z | z
  · cases z
  · exact z
def runD (r : List Nat) : D := .tup (natsD r)
theorem frs_len' {P : Prog} {rows : List Row} : (frs P rows).length ≤ rows.length := by have := frs_len (P := P) rows []; rw [List.length_nil, Nat.zero_add] at this; exact this
theorem ends_len {P : Prog} : (ends P).length ≤ (expl P).length := List.length_filter_le ..
theorem frL_len {P : Prog} : (frL P).length ≤ (expl P).length := Nat.le_trans frs_len' ends_len
theorem row_ok {P : Prog} (hP : P.ok) {x : Row} (hx : x ∈ expl P) : x.1.ok P := by
  obtain ⟨g1, g2⟩ := (expl_ok (P := P)).run x hx
  rw [g2]; exact after_ok hP _ _ (start_ok hP) g1
theorem ends_row {P : Prog} {x : Row} (hx : x ∈ ends P) : x ∈ expl P ∧ ready P x.1 = [] := by
  obtain ⟨h1, h2⟩ := List.mem_filter.mp hx
  exact ⟨h1, List.isEmpty_iff.mp h2⟩
theorem nil_len {α : Type} {l : List α} : decide (((l.length : Nat) : Int) = 0) = l.isEmpty := by
  cases l with
  | nil => rfl
  | cons a l => rw [List.isEmpty_cons]; exact decide_eq_false (by rw [List.length_cons]; omega)
theorem take_frs {P : Prog} {rows : List Row} {j : Nat} {x : Row} (h : rows[j]? = some x) : frs P (rows.take (j + 1)) = fr1 P (frs P (rows.take j)) x := by
  unfold frs
  rw [take_succ' h, List.foldl_append]; rfl
theorem goes_len1000 {P : Prog} (hP : P.ok) (sh : Shape P) {x : Row} (hx : x ∈ expl P) : x.2.length ≤ 8 := goes_len hP sh ((expl_ok (P := P)).run x hx).1
theorem ending_spec {n : Nat} {P : Prog} {s : Stt} {S : DS} {Q : DK} (hP : P.ok) (hs : s.ok P) (h : ∀ S', Ext S S' → Q (outD (out P s)) S') : sem fs (n + 3) 9 [P.d, s.d] S Q := by
  refine run_ending_at ?_
  unfold b_9
  repeat walk_at "d"
  refine vals_spec hP fun S1 x1 => ?_
  repeat walk_at "d"
  refine stuckP_spec hP hs fun S2 x2 => ?_
  repeat walk_at "d"
  rw [out_eq]
  exact h S2 (x1.trans x2)
theorem lending_spec {n : Nat} {P : Prog} {s : Stt} {S : DS} {Q : DK} (hP : P.ok) (hs : s.ok P) (h : ∀ S', Ext S S' → Q (outD (out P s)) S') : sem fs (n + 2) 33 [P.d, s.d] S Q := by
  refine run__law_ending ?_
  unfold b_33
  have hm := hP.many
  repeat walk_at "d"
  refine o_ixT (v := .int (P.many : Int)) rfl ?_
  repeat walk_at "d"
  refine i_rng1V (by omega) ?_
  rw [Int.toNat_natCast, rng_map]
  refine lc_map (fun (p : Nat) => optI (worth s.kept (p : Int))) (Ext S) (by rw [List.length_range]; omega) (Ext.refl S) (fun _ _ => True.intro) ?_ ?_
  · intro p hp acc S1 nx hacc hJ hnx
    rw [Int.zero_add]
    repeat walk_at "d"
    refine o_ixT (v := keptD s.kept) rfl ?_
    repeat walk_at "d"
    refine lworth_spec ⟨hacc, hnx S1 hJ⟩
  · intro S1 hJ
    refine i_newL fun q S2 n2 e2 x2 => ?_
    repeat walk_at "d"
    refine lstuck_spec hP hs fun S3 x3 => ?_
    repeat walk_at "d"
    rw [out_eq]
    exact h S3 ((hJ.trans x2).trans x3)
theorem full_spec {n : Nat} {P : Prog} {q : Addr} {S : DS} {Q : DK} (hP : P.ok) (sh : Shape P) (e : S q = some (.lst ((expl P).map fun x => x.1.d))) (h : ∀ p S', S p = none → S' p = some (.lst ((ends P).map fun x => x.1.d)) → Ext S S' → Q (.ref p) S') : sem fs (n + 4) 12 [P.d, .ref q] S Q := by
  refine run_full_states ?_
  unfold b_12
  have hl := expl_len hP sh
  repeat walk_at "e"
  refine lc_fm (fun x : Row => if (ready P x.1).isEmpty = true then some x.1.d else none) (fun S' => Ext S S') (by omega) (.refl S) (fun S' x => seq_ref (x.get e)) ?_ ?_
  · intro x hx acc S1 nx hacc x1 hnx
    repeat walk_at "e"
    refine ready_spec hP (row_ok hP hx) fun S2 x2 => ?_
    repeat walk_at "e"
    rw [natsD_len, nil_len]
    cases q : (ready P x.1).isEmpty with
    | true =>
      rw [q] at hnx
      repeat walk_at "e"
      exact ⟨hacc, hnx _ (x1.trans x2)⟩
    | false =>
      rw [q] at hnx
      repeat walk_at "e"
      simpa using hnx _ (x1.trans x2)
  · intro S1 x1
    rw [fm_if]
    refine i_newL fun p S2 n2 e2 x2 => ?_
    exact h p S2 (x1.back n2) e2 (x1.trans x2)
theorem firstruns_spec {n : Nat} {P : Prog} {S : DS} {Q : DK} (hP : P.ok) (sh : Shape P) (h : ∀ p st S', S p = none → S' p = some (.dct st (tab outD runD (frL P))) → Ext S S' → Q (.ref p) S') : sem fs (n + 5) 14 [P.d] S Q := by
  refine run_first_runs ?_
  unfold b_14
  have hl := expl_len hP sh
  repeat walk_at "e"
  refine reached_spec hP sh fun pp pst S1 n1 e1 x1 => ?_
  repeat walk_at "e"
  refine i_newT fun rp st S2 n2 e2 x2 => ?_
  have e1' := x2.get e1
  have npr : pp ≠ rp := dne e1 n2
  have Sr := x1.back n2
  repeat walk_at "e"
  refine t_list e1' ?_
  rw [ptab_keys, List.map_map]
  refine i_newL fun lp S3 n3 e3 x3 => ?_
  repeat walk_at "e"
  refine full_spec hP sh e3 fun fp S4 n4 e4 x4 => ?_
  have X4 := ((x1.trans x2).trans x3).trans x4
  have p4 := x4.get (x3.get e1')
  have r4 := x4.get (x3.get e2)
  have nrf : rp ≠ fp := dne (x3.get e2) n4
  repeat walk_at "e"
  refine for_inv (fun j δ S5 => ∃ o3 o4 st, δ = [some P.d, some (.ref pp), some (.ref rp), o3, o4] ∧ S5 rp = some (.dct st (tab outD runD (frs P ((ends P).take j)))) ∧ S5 pp = some (.dct pst (tab Stt.d pvD (ptab P (expl P)))) ∧ S5 fp = some (.lst ((ends P).map fun x => x.1.d)) ∧ Ext S S5) ⟨_, _, st, rfl, r4, p4, e4, X4⟩ (fun _ _ _ _ ⟨_, _, _, _, _, _, e, _⟩ => seq_ref e) ?_ ?_
  · rintro j y δ S5 nx hy hj ⟨o3, o4, st5, rfl, r5, p5, f5, x5⟩ hnx
    obtain ⟨x, hx, rfl⟩ := map_at hy
    obtain ⟨hxe, hxr⟩ := ends_row (List.mem_of_getElem? hx)
    rw [take_frs hx] at hnx
    have hfl : (frs P ((ends P).take j)).length ≤ 5460 := by
      have h1 := frs_len' (P := P) (rows := (ends P).take j)
      have h2 := ends_len (P := P)
      rw [List.length_take] at h1
      omega
    repeat walk_at "e"
    refine ending_spec hP (row_ok hP hxe) fun S6 x6 => ?_
    have r6 := x6.get r5
    have p6 := x6.get p5
    repeat walk_at "e"
    refine t_notin enc_out.toEnc r6 (kOk_tab enc_out _ _) ?_
    repeat walk_at "e"
    refine ite_ndec (fun c => ?_) (fun c => ?_)
    · rw [fr1_new c] at hnx
      repeat walk_at "e"
      refine way_spec expl_ok hxe p6 (by have := goes_len1000 hP sh hxe; omega) fun S7 x7 => ?_
      repeat walk_at "e"
      refine t_set (v := x.2) (ev := runD) enc_out.toEnc (x7.get r6) (kOk_tab enc_out _ _) (by omega) (i_putD fun st8 S8 e8 b8 => ?_)
      rw [tput_new _ (tnew c)] at e8
      exact hnx _ _ ⟨_, _, st8, rfl, e8, b8.get npr (x7.get p6), b8.get nrf.symm (x7.get (x6.get f5)), ((x5.trans x6).trans x7).but b8 Sr⟩
    · rw [fr1_old c] at hnx
      repeat walk_at "e"
      exact hnx _ _ ⟨_, _, st5, rfl, r6, p6, x6.get f5, x5.trans x6⟩
  · rintro δ S5 ⟨o3, o4, st5, rfl, r5, p5, f5, x5⟩
    rw [List.length_map, List.take_length] at r5
    repeat walk_at "e"
    exact h rp st5 S5 Sr r5 x5
def vkD (v : Option Int) : D := match v with
  | none => .tup [.int 0, .int 0]
  | some v => .tup [.int 1, .int v]
def okD (o : Out) : D := .tup [.tup (o.1.map vkD), .tup (natsD o.2)]
def vlD (v : Option Int) : D := match v with
  | none => .fl [.int 0, .int 0]
  | some v => .fl [.int 1, .int v]
def olD (o : Out) : D := .tup [.fl (o.1.map vlD), .tup (natsD o.2)]
def oLe (a b : Out) : Bool := dle (okD a) (okD b)
theorem vk_toks : ∀ v, PySem.W.keyToks (vkD v).py = PySem.W.keyToks (vlD v).py
  | none => by unfold vkD vlD; rw [D.py, D.py]; unfold PySem.W.keyToks; rfl
  | some v => by unfold vkD vlD; rw [D.py, D.py]; unfold PySem.W.keyToks; rfl
theorem vks_toks : ∀ vs : List (Option Int), PySem.W.keyToksAll (D.pyL (vs.map vkD)) = PySem.W.keyToksAll (D.pyL (vs.map vlD))
  | [] => rfl
  | v :: vs => by rw [List.map_cons, List.map_cons, D.pyL, D.pyL, PySem.W.keyToksAll, PySem.W.keyToksAll, vk_toks, vks_toks vs]
theorem py_ok (o : Out) : (okD o).py = .tuple [.tuple (D.pyL (o.1.map vkD)), .tuple (D.pyL (natsD o.2))] := by unfold okD; rw [D.py, D.pyL, D.pyL, D.pyL, D.py, D.py]
theorem py_ol (o : Out) : (olD o).py = .tuple [.list (D.pyL (o.1.map vlD)), .tuple (D.pyL (natsD o.2))] := by unfold olD; rw [D.py, D.pyL, D.pyL, D.pyL, D.py, D.py]
theorem ok_toks (o : Out) : PySem.W.keyToks (okD o).py = PySem.W.keyToks (olD o).py := by
  rw [py_ok, py_ol]
  simp only [PySem.W.keyToks, PySem.W.keyToksAll, vks_toks]
theorem ol_le (a b : Out) : oLe a b = dle (olD a) (olD b) := by
  show (!PySem.W.dataLt (okD b).py (okD a).py) = (!PySem.W.dataLt (olD b).py (olD a).py)
  unfold PySem.W.dataLt
  rw [ok_toks, ok_toks]
def sortO (L : List Out) : List Out := L.mergeSort oLe
theorem alike_nats : ∀ xs ys : List Nat, PySem.W.alikeAll (D.pyL (natsD xs)) (D.pyL (natsD ys)) = true
  | [], _ => by simp [natsD, D.pyL, PySem.W.alikeAll]
  | _ :: _, [] => by simp [natsD, D.pyL, PySem.W.alikeAll]
  | x :: xs, y :: ys => by
    have h := alike_nats xs ys
    unfold natsD at h ⊢
    rw [List.map_cons, List.map_cons, D.pyL, D.pyL, PySem.W.alikeAll, h, D.py, D.py, PySem.W.alike]; rfl
theorem alike_vk : ∀ xs ys : List (Option Int), PySem.W.alikeAll (D.pyL (xs.map vkD)) (D.pyL (ys.map vkD)) = true
  | [], _ => by simp [D.pyL, PySem.W.alikeAll]
  | _ :: _, [] => by simp [D.pyL, PySem.W.alikeAll]
  | x :: xs, y :: ys => by
    have h := alike_vk xs ys
    rw [List.map_cons, List.map_cons, D.pyL, D.pyL, PySem.W.alikeAll, h]
    cases x <;> cases y <;> (unfold vkD; simp [D.py, D.pyL, PySem.W.alike, PySem.W.alikeAll])
theorem alike_vl : ∀ xs ys : List (Option Int), PySem.W.alikeAll (D.pyL (xs.map vlD)) (D.pyL (ys.map vlD)) = true
  | [], _ => by simp [D.pyL, PySem.W.alikeAll]
  | _ :: _, [] => by simp [D.pyL, PySem.W.alikeAll]
  | x :: xs, y :: ys => by
    have h := alike_vl xs ys
    rw [List.map_cons, List.map_cons, D.pyL, D.pyL, PySem.W.alikeAll, h]
    cases x <;> cases y <;> (unfold vlD; simp [D.py, D.pyL, PySem.W.alike, PySem.W.alikeAll])
theorem plain_nats (xs : List Nat) : D.plainL (natsD xs) = true := plainL_enc enc_natI xs
theorem dep_natsD (xs : List Nat) : (D.tup (natsD xs)).dep ≤ 2 := by
  rw [D.dep]
  exact Nat.succ_le_succ (Nat.le_trans (D.depL_le (n := 0) fun d hd => by
    obtain ⟨x, _, rfl⟩ := List.mem_map.mp hd
    exact enc_natI.dep x) (by decide))
theorem plain_vk : ∀ v, (vkD v).plain = true
  | none => by unfold vkD; simp [D.plain, D.plainL]
  | some v => by unfold vkD; simp [D.plain, D.plainL]
theorem plain_vl : ∀ v, (vlD v).plain = true
  | none => by unfold vlD; simp [D.plain, D.plainL]
  | some v => by unfold vlD; simp [D.plain, D.plainL]
theorem dep_vk : ∀ v, (vkD v).dep ≤ 2
  | none => by unfold vkD; simp [D.dep, D.depL]
  | some v => by unfold vkD; simp [D.dep, D.depL]
theorem dep_vl : ∀ v, (vlD v).dep ≤ 2
  | none => by unfold vlD; simp [D.dep, D.depL]
  | some v => by unfold vlD; simp [D.dep, D.depL]
theorem plain_ok (o : Out) : (okD o).plain = true := by
  unfold okD
  have h1 : D.plainL (o.1.map vkD) = true := D.plainL_of fun d hd => by obtain ⟨v, _, rfl⟩ := List.mem_map.mp hd; exact plain_vk v
  rw [D.plain, D.plainL, D.plainL, D.plainL, D.plain, D.plain, h1, plain_nats]; rfl
theorem plain_ol (o : Out) : (olD o).plain = true := by
  unfold olD
  have h1 : D.plainL (o.1.map vlD) = true := D.plainL_of fun d hd => by obtain ⟨v, _, rfl⟩ := List.mem_map.mp hd; exact plain_vl v
  rw [D.plain, D.plainL, D.plainL, D.plainL, D.plain, D.plain, h1, plain_nats]; rfl
theorem dep_two {a b : D} {n : Nat} (h1 : a.dep ≤ n) (h2 : b.dep ≤ n) : (D.tup [a, b]).dep ≤ n + 1 := by
  rw [D.dep]
  exact Nat.succ_le_succ (D.depL_le fun d hd => by
    simp only [List.mem_cons, List.not_mem_nil, or_false] at hd
    rcases hd with rfl | rfl
    · exact h1
    · exact h2)
theorem dep_ok (o : Out) : (okD o).dep ≤ 50 := Nat.le_trans (dep_two (n := 3) (by
  rw [D.dep]
  exact Nat.succ_le_succ (D.depL_le fun d hd => by obtain ⟨v, _, rfl⟩ := List.mem_map.mp hd; exact dep_vk v)) (Nat.le_trans (dep_natsD _) (by decide))) (by decide)
theorem dep_ol (o : Out) : (olD o).dep ≤ 50 := Nat.le_trans (dep_two (n := 3) (by
  rw [D.dep]
  exact Nat.succ_le_succ (D.depL_le fun d hd => by obtain ⟨v, _, rfl⟩ := List.mem_map.mp hd; exact dep_vl v)) (Nat.le_trans (dep_natsD _) (by decide))) (by decide)
theorem keysOk_ok (L : List Out) : KeysOk (L.map okD) := by
  refine ⟨fun k hk => ?_, fun d hd d' hd' => ?_, .inl fun d hd => ?_⟩
  · obtain ⟨o, _, rfl⟩ := List.mem_map.mp hk
    exact ⟨plain_ok o, dep_ok o⟩
  · rw [List.map_map] at hd hd'
    obtain ⟨a, _, rfl⟩ := List.mem_map.mp hd
    obtain ⟨b, _, rfl⟩ := List.mem_map.mp hd'
    show PySem.W.alike (okD a).py (okD b).py = true
    rw [py_ok, py_ok]
    simp [PySem.W.alike, PySem.W.alikeAll, alike_nats, alike_vk]
  · rw [List.map_map] at hd
    obtain ⟨a, _, rfl⟩ := List.mem_map.mp hd
    exact ⟨_, _, py_ok a⟩
theorem keysOk_ol (L : List Out) : KeysOk (L.map olD) := by
  refine ⟨fun k hk => ?_, fun d hd d' hd' => ?_, .inl fun d hd => ?_⟩
  · obtain ⟨o, _, rfl⟩ := List.mem_map.mp hk
    exact ⟨plain_ol o, dep_ol o⟩
  · rw [List.map_map] at hd hd'
    obtain ⟨a, _, rfl⟩ := List.mem_map.mp hd
    obtain ⟨b, _, rfl⟩ := List.mem_map.mp hd'
    show PySem.W.alike (olD a).py (olD b).py = true
    rw [py_ol, py_ol]
    simp [PySem.W.alike, PySem.W.alikeAll, alike_nats, alike_vl]
  · rw [List.map_map] at hd
    obtain ⟨a, _, rfl⟩ := List.mem_map.mp hd
    exact ⟨_, _, py_ol a⟩
theorem okey_spec {n : Nat} {o : Out} {S : DS} {Q : DK} (hl : o.1.length ≤ 100000) (h : ∀ S', Ext S S' → Q (okD o) S') : sem fs (n + 1) 13 [outD o] S Q := by
  refine run_ending_key ?_
  unfold b_13 outD
  repeat walk_at "e"
  refine lc_map vkD (fun S' => S' = S) (by omega) rfl (fun S' e => by subst e; rfl) ?_ ?_
  · rintro v hv acc S1 nx hacc rfl hnx
    repeat walk_at "e"
    rw [optI_non]
    cases v with
    | none =>
      rw [Option.isNone_none]
      repeat walk_at "e"
      exact ⟨hacc, hnx _ rfl⟩
    | some v =>
      rw [Option.isNone_some]
      repeat walk_at "e"
      exact ⟨hacc, hnx _ rfl⟩
  · rintro S1 rfl
    refine i_newL fun p S2 n2 e2 x2 => ?_
    repeat walk_at "e"
    exact h S2 x2
theorem rd_two {S : DS} {p : Addr} {a b : Int} {n : Nat} (e : S p = some (.lst [.int a, .int b])) : (D.ref p).rd S (n + 1) = .fl [.int a, .int b] := by
  rw [D.rd, e]
  dsimp only
  rw [List.map_cons, List.map_cons, List.map_nil]
  cases n <;> rw [D.rd, D.rd]
theorem lokey_spec {n : Nat} {o : Out} {S : DS} {Q : DK} (hl : o.1.length ≤ 100000) (h : ∀ k S', k.rd S' 4 = olD o → Ext S S' → Q k S') : sem fs (n + 1) 34 [outD o] S Q := by
  refine run__law_ending_key ?_
  unfold b_34
  repeat walk_at "e"
  refine o_ixT (v := .tup (o.1.map optI)) rfl ?_
  repeat walk_at "e"
  refine lc_inv (fun m acc S' => Ext S S' ∧ acc.length = m ∧ ∀ n, acc.map (D.rd S' (n + 1)) = (o.1.take m).map vlD) ⟨.refl S, rfl, fun _ => by rw [List.take_zero]; rfl⟩ (fun _ _ _ _ _ => rfl) ?_ ?_
  · rintro m y acc S1 nx hy hm ⟨x1, hal, hr⟩ hnx
    obtain ⟨v, hv, rfl⟩ := map_at hy
    rw [List.length_map] at hm
    have fin : ∀ p S2, Ext S1 S2 → (D.ref p).rd S2 4 = vlD v → (∀ n, (D.ref p).rd S2 (n + 1) = vlD v) → acc.length < 16777216 ∧ nx (acc ++ [.ref p]) S2 := fun p S2 x2 _ hp => by
      refine ⟨by omega, hnx _ _ ⟨x1.trans x2, by rw [List.length_append, hal]; rfl, fun n => ?_⟩⟩
      rw [List.map_append, take_succ' hv, List.map_append]
      congr 1
      · rw [← hr n]
        refine List.map_congr_left fun z hz => rd_ext x2 _ z ?_
        have : z.rd S1 (n + 1) ∈ (o.1.take m).map vlD := by rw [← hr n]; exact List.mem_map.mpr ⟨z, hz, rfl⟩
        obtain ⟨w, _, e⟩ := List.mem_map.mp this
        rw [← e]; exact plain_vl w
      · rw [List.map_cons, List.map_nil, List.map_cons, List.map_nil, hp n]
    cases v with
    | none =>
      dsimp only [optI]
      repeat walk_at "e"
      refine i_newL fun p S2 n2 e2 x2 => ?_
      repeat walk_at "e"
      refine o_ixL (v := .int 0) e2 rfl ?_
      repeat walk_at "e"
      refine i_newL fun q S3 n3 e3 x3 => ?_
      exact fin q S3 (x2.trans x3) (rd_two e3) fun n => rd_two e3
    | some v =>
      dsimp only [optI]
      repeat walk_at "e"
      refine i_newL fun p S2 n2 e2 x2 => ?_
      repeat walk_at "e"
      refine o_ixL (v := .int v) e2 rfl ?_
      repeat walk_at "e"
      refine i_newL fun q S3 n3 e3 x3 => ?_
      exact fin q S3 (x2.trans x3) (rd_two e3) fun n => rd_two e3
  · rintro acc S1 ⟨x1, hal, hr⟩
    rw [List.length_map, List.take_length] at hr
    refine i_newL fun p S2 n2 e2 x2 => ?_
    repeat walk_at "e"
    refine o_ixT (v := .tup (natsD o.2)) rfl ?_
    repeat walk_at "e"
    refine h _ S2 ?_ (x1.trans x2)
    have hr2 : acc.map (D.rd S2 2) = o.1.map vlD := by
      rw [← hr 1]
      refine List.map_congr_left fun z hz => rd_ext x2 _ z ?_
      have : z.rd S1 2 ∈ o.1.map vlD := by rw [← hr 1]; exact List.mem_map.mpr ⟨z, hz, rfl⟩
      obtain ⟨w, _, e⟩ := List.mem_map.mp this
      rw [← e]; exact plain_vl w
    unfold olD
    rw [D.rd, List.map_cons, List.map_cons, List.map_nil, D.rd, e2]
    dsimp only
    rw [hr2, D.rd_plain _ _ (by rw [D.plain]; exact plain_nats _)]
structure LLi (S : DS) (w : Addr) (fl : List (List D)) : Prop where
  ex : ∃ as : List Addr, as.length = fl.length ∧ S w = some (.lst (as.map D.ref)) ∧ ∀ (i : Nat) (a : Addr) (f : List D), as[i]? = some a → fl[i]? = some f → S a = some (.lst f) ∧ a ≠ w
theorem LLi.ext {S S' : DS} {w : Addr} {fl : List (List D)} (h : LLi S w fl) (e : Ext S S') : LLi S' w fl :=
  let ⟨as, h1, h2, h3⟩ := h.ex; ⟨⟨as, h1, e.get h2, fun i a x ha hx => ⟨e.get (h3 i a x ha hx).1, (h3 i a x ha hx).2⟩⟩⟩
theorem LLi.get {S : DS} {w : Addr} {fl : List (List D)} (h : LLi S w fl) {i : Nat} {f : List D} (hx : fl[i]? = some f) : ∃ (as : List Addr) (a : Addr), as.length = fl.length ∧ S w = some (.lst (as.map D.ref)) ∧ as[i]? = some a ∧ S a = some (.lst f) := by
  obtain ⟨as, h1, h2, h3⟩ := h.ex
  have hi : i < as.length := by
    rw [h1]
    rcases Nat.lt_or_ge i fl.length with q | q
    · exact q
    · rw [List.getElem?_eq_none q] at hx; cases hx
  exact ⟨as, as[i], h1, h2, List.getElem?_eq_getElem hi, (h3 i _ f (List.getElem?_eq_getElem hi) hx).1⟩
theorem LLi.nil {S : DS} {w : Addr} (h : S w = some (.lst [])) : LLi S w [] := ⟨⟨[], rfl, h, fun i a f h => by simp at h⟩⟩
theorem LLi.add {S S' S'' : DS} {w a : Addr} {fl : List (List D)} {f : List D} (h : LLi S w fl) (na : S a = none) (ea : S' a = some (.lst f)) (xa : Ext S S') (hw : ∀ as : List Addr, S w = some (.lst (as.map D.ref)) → S'' w = some (.lst (as.map D.ref ++ [.ref a]))) (b : But w S' S'') : LLi S'' w (fl ++ [f]) := by
  obtain ⟨as, h1, h2, h3⟩ := h.ex
  have haw : a ≠ w := fun z => by subst z; rw [h2] at na; cases na
  refine ⟨as ++ [a], by rw [List.length_append, List.length_append, h1]; rfl, by rw [hw as h2, List.map_append]; rfl, fun i c y hc hy => ?_⟩
  by_cases hi : i < as.length
  · rw [List.getElem?_append_left hi] at hc
    rw [List.getElem?_append_left (by rw [← h1]; exact hi)] at hy
    obtain ⟨g1, g2⟩ := h3 i c y hc hy
    exact ⟨b.get g2 (xa.get g1), g2⟩
  · rw [List.getElem?_append_right (by omega)] at hc
    rw [List.getElem?_append_right (by omega), ← h1] at hy
    cases hq : i - as.length with
    | zero =>
      rw [hq] at hc hy
      obtain rfl := Option.some.inj hc
      obtain rfl := Option.some.inj hy
      exact ⟨b.get haw ea, haw⟩
    | succ m => rw [hq] at hc; cases hc
/-- walking such a list in a comprehension -/
theorem LLi.lc {α : Type} {S : DS} {w : Addr} {L : List α} {fe : α → List D} (h : LLi S w (L.map fe)) (f : α → Option D) {stay : DS → Prop} {g : DG} {t : DT} {a : DE} {δ : DL.Loc} {KK : List D → DS → Prop} (hl : L.length ≤ 16777216) (hst : stay S)
    (turn : ∀ (x : α) (p : Addr) (acc : List D) (nx : List D → DS → Prop), x ∈ L → S p = some (.lst (fe x)) → acc.length < 16777216 → nx (acc ++ (f x).toList) S → g (.ref p) δ S fun δ2 S2 => t δ2 S2 fun b S3 => if b = true then a δ2 S3 fun y S4 => acc.length < 16777216 ∧ nx (acc ++ [y]) S4 else nx acc S3)
    (done : KK (L.filterMap f) S) : ∀ xs : List D, S w = some (.lst xs) → lcT stay g t a δ KK xs [] S := by
  intro xs hxs
  obtain ⟨as, h1, h2, h3⟩ := h.ex
  rw [hxs] at h2
  have e : xs = as.map D.ref := by injection h2 with h2; injection h2
  subst e
  rw [List.length_map] at h1
  refine lc_inv (fun m acc S' => acc = (L.take m).filterMap f ∧ S' = S) ⟨rfl, rfl⟩ (fun m acc S' _ p => by rw [p.2]; exact hst) ?_ ?_
  · rintro m y acc S' nx hy hm ⟨rfl, rfl⟩ hnx
    obtain ⟨p, hp, rfl⟩ := map_at hy
    rw [List.length_map] at hm
    have hx : L[m]? = some (L[m]'(by omega)) := List.getElem?_eq_getElem _
    have hlen : ((L.take m).filterMap f).length ≤ m := Nat.le_trans (List.length_filterMap_le ..) (List.length_take_le ..)
    refine turn _ p _ nx (List.mem_of_getElem? hx) (h3 m p _ hp (by rw [List.getElem?_map, hx]; rfl)).1 (by omega) (hnx _ _ ⟨?_, rfl⟩)
    rw [take_succ' hx, List.filterMap_append]
    cases hf : f (L[m]'(by omega)) with
    | none => simp [hf]
    | some y => simp [hf]
  · rintro acc S' ⟨rfl, rfl⟩
    rw [List.length_map, h1, List.take_length]
    exact done
theorem fm_all {α β : Type} (f : α → β) (L : List α) : (L.filterMap fun x => some (f x)) = L.map f := congrFun List.filterMap_eq_map L
def feR (e : Out × List Nat) : List D := [outD e.1, runD e.2]
theorem bfs_ends {P : Prog} {j : Nat} {x : Row} (h : (expl P)[j]? = some x) : frs P (((expl P).take (j + 1)).filter fun x => (ready P x.1).isEmpty) = if (ready P x.1).isEmpty = true then fr1 P (frs P (((expl P).take j).filter fun x => (ready P x.1).isEmpty)) x else frs P (((expl P).take j).filter fun x => (ready P x.1).isEmpty) := by
  rw [take_succ' h, List.filter_append]
  unfold frs
  rw [List.foldl_append]
  cases q : (ready P x.1).isEmpty with
  | true => rw [List.filter_cons_of_pos (by exact q)]; rfl
  | false => rw [List.filter_cons_of_neg (by rw [q]; exact Bool.false_ne_true)]; rfl
theorem lendings_spec {n : Nat} {P : Prog} {S : DS} {Q : DK} (hP : P.ok) (sh : Shape P) (h : ∀ w S', S w = none → LLi S' w ((frL P).map feR) → Ext S S' → Q (.ref w) S') : sem fs (n + 5) 35 [P.d] S Q := by
  refine run__law_endings ?_
  unfold b_35
  have hl := expl_len hP sh
  repeat walk_at "e"
  refine i_newL fun w S1 n1 e1 x1 => ?_
  repeat walk_at "e"
  refine explored_spec hP sh fun ex S2 n2 rx x2 => ?_
  have hwx : w ≠ ex := dne e1 n2
  have w2 : LLi S2 w ((frs P (((expl P).take 0).filter fun x => (ready P x.1).isEmpty)).map feR) := (LLi.nil e1).ext x2
  obtain ⟨as, ha1, ha2, ha3⟩ := rx
  have nwa : ∀ a ∈ as, a ≠ w := fun a ha e => by
    subst e
    obtain ⟨i, hi⟩ := List.mem_iff_getElem?.mp ha
    have hil := (List.getElem?_eq_some_iff.mp hi).1
    have h2 := (ha3 i a _ hi (List.getElem?_eq_getElem (by omega))).1
    rw [x2.get e1] at h2; cases h2
  repeat walk_at "e"
  refine for_inv (fun j δ S3 => ∃ o2 o3 o4, δ = [some P.d, some (.ref w), o2, o3, o4] ∧ LLi S3 w ((frs P (((expl P).take j).filter fun x => (ready P x.1).isEmpty)).map feR) ∧ S3 ex = some (.lst (as.map D.ref)) ∧ (∀ (i : Nat) (a : Addr) (x : Row), as[i]? = some a → (expl P)[i]? = some x → S3 a = some (.lst [x.1.d, .tup (natsD x.2)])) ∧ Ext S S3)
    ⟨_, _, _, rfl, w2, ha2, (fun i a x h1 h2 => (ha3 i a x h1 h2).1), x1.trans x2⟩ (fun _ _ _ _ ⟨_, _, _, _, _, e, _⟩ => seq_ref e) ?_ ?_
  · rintro j y δ S3 nx hy hj ⟨o2, o3, o4, rfl, w3, e3, r3, x3⟩ hnx
    obtain ⟨a, hja, rfl⟩ := map_at hy
    rw [List.length_map] at hj
    have hx : (expl P)[j]? = some ((expl P)[j]'(by omega)) := List.getElem?_eq_getElem _
    generalize (expl P)[j]'(by omega) = x at hx
    have hxe := List.mem_of_getElem? hx
    have a3 := r3 j a x hja hx
    have hfl : (frs P (((expl P).take j).filter fun x => (ready P x.1).isEmpty)).length ≤ 5460 := by
      have h1 := frs_len' (P := P) (rows := ((expl P).take j).filter fun x => (ready P x.1).isEmpty)
      have h2 := List.length_filter_le (fun x : Row => (ready P x.1).isEmpty) ((expl P).take j)
      rw [List.length_take] at h2
      omega
    rw [bfs_ends hx] at hnx
    repeat walk_at "e"
    refine o_ixL (v := x.1.d) a3 rfl ?_
    repeat walk_at "e"
    refine lready_spec hP (row_ok hP hxe) fun l S4 n4 e4 x4 => ?_
    have w4 := w3.ext x4
    repeat walk_at "e"
    rw [natsD_len, nil_len]
    cases q : (ready P x.1).isEmpty with
    | false =>
      rw [q, if_neg Bool.false_ne_true] at hnx
      repeat walk_at "e"
      exact hnx _ _ ⟨_, _, _, rfl, w4, x4.get e3, fun i a x h1 h2 => x4.get (r3 i a x h1 h2), x3.trans x4⟩
    | true =>
      rw [q, if_pos rfl] at hnx
      repeat walk_at "e"
      refine o_ixL (v := x.1.d) (x4.get a3) rfl ?_
      repeat walk_at "e"
      refine lending_spec hP (row_ok hP hxe) fun S5 x5 => ?_
      have w5 := w4.ext x5
      obtain ⟨bs, hb1, hb2, _⟩ := id w5.ex
      repeat walk_at "e"
      refine w5.lc (L := frs P (((expl P).take j).filter fun x => (ready P x.1).isEmpty)) (fe := feR) (fun e => some (outD e.1)) (by omega) (seq_ref hb2) ?_ ?_ _ hb2
      · intro e p acc nx2 he hp hacc hnx2
        repeat walk_at "e"
        refine o_ixL (v := outD e.1) hp rfl ?_
        repeat walk_at "e"
        exact ⟨hacc, hnx2⟩
      · rw [fm_all]
        refine i_newL fun c S6 n6 e6 x6 => ?_
        have w6 := w5.ext x6
        have e6' : S6 c = some (.lst (((frs P (((expl P).take j).filter fun x => (ready P x.1).isEmpty)).map (·.1)).map outD)) := by rw [e6, List.map_map]; rfl
        repeat walk_at "e"
        refine e_notinL enc_out.toEnc (by decide) e6' ?_
        repeat walk_at "e"
        refine ite_ndec (fun c => ?_) (fun c => ?_)
        · rw [fr1_new c] at hnx
          have a6 := x6.get (x5.get (x4.get a3))
          repeat walk_at "e"
          refine o_ixL (v := .tup (natsD x.2)) a6 rfl ?_
          repeat walk_at "e"
          refine i_newL fun r S7 n7 e7 x7 => ?_
          have w7 := w6.ext x7
          obtain ⟨cs, hc1, hc2, _⟩ := id w7.ex
          repeat walk_at "e"
          refine m_append hc2 (by rw [List.length_append, List.length_map, hc1, List.length_map]; show _ + 1 ≤ _; omega) (i_putL fun S8 e8 b8 => ?_)
          have X7 := ((x4.trans x5).trans x6).trans x7
          have hw8 : w ≠ ex := hwx
          have hcs : ∀ as' : List Addr, S6 w = some (.lst (as'.map D.ref)) → S8 w = some (.lst (as'.map D.ref ++ [.ref r])) := fun as' h' => by
            have := x7.get h'
            rw [hc2] at this
            injection this with this
            injection this with this
            rw [e8, this]
          refine hnx _ _ ⟨_, _, _, rfl, ?_, b8.get hwx.symm (X7.get e3), fun i a' x' h1 h2 => b8.get (nwa a' (List.mem_of_getElem? h1)) (X7.get (r3 i a' x' h1 h2)), (x3.trans X7).but b8 n1⟩
          rw [List.map_append]
          exact w6.add n7 e7 x7 hcs b8
        · rw [fr1_old c] at hnx
          repeat walk_at "e"
          have X6 := (x4.trans x5).trans x6
          exact hnx _ _ ⟨_, _, _, rfl, w6, X6.get e3, fun i a x h1 h2 => X6.get (r3 i a x h1 h2), x3.trans X6⟩
  · rintro δ S3 ⟨o2, o3, o4, rfl, w3, e3, r3, x3⟩
    rw [List.length_map, ha1, List.take_length] at w3
    repeat walk_at "e"
    exact h w S3 n1 w3 x3
def kpr : Deed → Option Int
  | .keep p _ _ => some p
  | .race p _ => some p
  | _ => none
def sto : Deed → Option Nat
  | .start t => some t
  | _ => none
def isRace : Deed → Bool
  | .race _ _ => true
  | _ => false
structure Plain (P : Prog) : Prop where
  rc : ∀ r ∈ P.rows, ∀ e ∈ r, isRace e = false
  kp : (P.rows.map fun r => r.filterMap kpr).flatten.Nodup
  st : (P.rows.map fun r => r.filterMap sto).flatten.Nodup
structure Grid (S : DS) (as : List Addr) (fl : List (List D)) : Prop where
  nod : as.Nodup
  len : as.length = fl.length
  at' : ∀ (i : Nat) (p : Addr) (f : List D), as[i]? = some p → fl[i]? = some f → S p = some (.lst f)
theorem Grid.ext {S S' : DS} {as : List Addr} {fl : List (List D)} (G : Grid S as fl) (x : Ext S S') : Grid S' as fl := ⟨G.nod, G.len, fun i p f h1 h2 => x.get (G.at' i p f h1 h2)⟩
theorem Grid.but {S S' : DS} {as : List Addr} {fl : List (List D)} {q : Addr} (G : Grid S as fl) (b : But q S S') (hq : q ∉ as) : Grid S' as fl :=
  ⟨G.nod, G.len, fun i p f h1 h2 => b.get (fun e => hq (e ▸ List.mem_of_getElem? h1)) (G.at' i p f h1 h2)⟩
theorem Grid.put {S S' : DS} {as : List Addr} {fl : List (List D)} {i : Nat} {p : Addr} {f : List D} (G : Grid S as fl) (hi : as[i]? = some p) (e : S' p = some (.lst f)) (b : But p S S') : Grid S' as (fl.set i f) := by
  refine ⟨G.nod, by rw [List.length_set]; exact G.len, fun j q g h1 h2 => ?_⟩
  have hil : i < as.length := by
    rcases Nat.lt_or_ge i as.length with h | h
    · exact h
    · rw [List.getElem?_eq_none h] at hi; cases hi
  by_cases c : i = j
  · subst c
    rw [hi] at h1; obtain rfl := Option.some.inj h1
    rw [List.getElem?_set_self (by rw [← G.len]; exact hil)] at h2
    obtain rfl := Option.some.inj h2
    exact e
  · rw [List.getElem?_set_ne c] at h2
    refine b.get (fun e' => c ?_) (G.at' j q g h1 h2)
    subst e'
    exact (List.getElem?_inj hil G.nod).mp (by rw [hi, h1])
theorem Grid.get {S : DS} {as : List Addr} {fl : List (List D)} {i : Nat} (G : Grid S as fl) (hi : i < fl.length) : ∃ p f, as[i]? = some p ∧ fl[i]? = some f ∧ p ∈ as ∧ S p = some (.lst f) := by
  have h1 : as[i]? = some (as[i]'(by rw [G.len]; exact hi)) := List.getElem?_eq_getElem _
  have h2 : fl[i]? = some fl[i] := List.getElem?_eq_getElem hi
  exact ⟨_, _, h1, h2, List.mem_of_getElem? h1, G.at' i _ _ h1 h2⟩
/-- as many new empty lists as there are things -/
theorem grid_lc {xs : List D} {k : Nat} {stay : DS → Prop} {δ : DL.Loc} {KK : List D → DS → Prop} {S : DS} (hl : xs.length ≤ 16777216) (hst : ∀ S', Ext S S' → stay S')
    (done : ∀ as S', Grid S' as (List.replicate xs.length []) → (∀ p ∈ as, S p = none) → Ext S S' → KK (as.map D.ref) S') : lcT stay (dgName k) dYes (dLst dNil) δ KK xs [] S := by
  refine lc_inv (fun m acc S' => ∃ as, acc = as.map D.ref ∧ as.length = m ∧ Grid S' as (List.replicate m []) ∧ (∀ p ∈ as, S p = none) ∧ Ext S S') ⟨[], rfl, rfl, ⟨List.nodup_nil, rfl, fun i p f h => by simp at h⟩, (fun p hp => by cases hp), .refl S⟩ (fun m acc S' _ ⟨_, _, _, _, _, x⟩ => hst S' x) (fun m x acc S1 nx hx hm ⟨as, ha, hal, G, hn, x1⟩ hnx => ?_) (fun acc S1 ⟨as, ha, hal, G, hn, x1⟩ => by subst ha; exact done as S1 G hn x1)
  subst ha
  show ([] : List D).length ≤ 16777216 ∧ ∀ p, S1 p = none → _
  refine ⟨Nat.zero_le _, fun p hp => ⟨by rw [List.length_map]; omega, hnx _ _ ⟨as ++ [p], by rw [List.map_append]; rfl, by rw [List.length_append, hal]; rfl, ?_, fun q hq => ?_, x1.trans (ext_new hp)⟩⟩⟩
  · refine ⟨?_, by rw [List.length_append, List.length_replicate, hal]; rfl, fun i q f h1 h2 => ?_⟩
    · rw [List.nodup_append]
      refine ⟨G.nod, List.nodup_cons.mpr ⟨List.not_mem_nil, List.nodup_nil⟩, fun a ha b hb e => ?_⟩
      rw [List.mem_singleton] at hb
      subst hb e
      obtain ⟨i, hi⟩ := List.mem_iff_getElem?.mp ha
      have hil : i < m := by
        rcases Nat.lt_or_ge i as.length with h | h
        · omega
        · rw [List.getElem?_eq_none h] at hi; cases hi
      have := G.at' i a [] hi (by rw [List.getElem?_replicate, if_pos hil])
      rw [hp] at this; cases this
    · rw [List.getElem?_replicate] at h2
      split at h2
      · rename_i hi
        obtain rfl := Option.some.inj h2
        rcases Nat.lt_or_ge i m with h | h
        · rw [List.getElem?_append_left (by omega)] at h1
          exact (ext_new hp).get (G.at' i q [] h1 (by rw [List.getElem?_replicate, if_pos h]))
        · have : i = as.length := by omega
          subst this
          rw [List.getElem?_append_right (Nat.le_refl _), Nat.sub_self] at h1
          obtain rfl := Option.some.inj h1
          exact dupd_same
      · cases h2
  · rcases List.mem_append.mp hq with z | z
    · exact hn q z
    · rw [List.mem_singleton.mp z]; exact x1.back hp
/-- the lists as tuples -/
theorem grid_tup {S : DS} {as : List Addr} {fl : List (List D)} {k : Nat} {stay : DS → Prop} {δ : DL.Loc} {KK : List D → DS → Prop} (G : Grid S as fl) (hl : fl.length ≤ 16777216) (hk : k < δ.length) (hst : stay S) (done : KK (fl.map D.tup) S) :
    lcT stay (dgName k) dYes (dCall bTuple (dCons (dVar k) dNil)) δ KK (as.map D.ref) [] S := by
  refine lc_inv (fun m acc S' => acc = (fl.take m).map D.tup ∧ S' = S) ⟨rfl, rfl⟩ (fun m acc S' _ h => by rw [h.2]; exact hst) (fun m x acc S1 nx hx hm ⟨ha, hS⟩ hnx => ?_) (fun acc S1 ⟨ha, hS⟩ => ?_)
  · subst ha hS
    rw [List.length_map] at hm
    obtain ⟨p, f, h1, h2, h3, h4⟩ := G.get (i := m) (by rw [← G.len]; exact hm)
    rw [List.getElem?_map, h1] at hx
    obtain rfl := (Option.some.inj hx).symm
    refine i_gname rfl (i_yes (ite_t (i_call (i_cons (i_var (List.getElem?_set_self hk) (i_nil (c_tupleL h4 ?_)))))))
    refine ⟨by rw [List.length_map, List.length_take, ← G.len]; have := G.len; omega, hnx _ _ ⟨?_, rfl⟩⟩
    rw [take_succ' h2, List.map_append]; rfl
  · subst ha hS
    rw [List.length_map, G.len, List.take_length]
    exact done
def plD (x : Nat × Nat) : D := .tup [.int (x.1 : Int), .int (x.2 : Int)]
def rowPl (t : Nat) (r : List Deed) : List (Nat × Nat) := (List.range r.length).map fun k => (t, k)
def placesFrom (t : Nat) : List (List Deed) → List (Nat × Nat)
  | [] => []
  | r :: rs => rowPl t r ++ placesFrom (t + 1) rs
def places (P : Prog) : List (Nat × Nat) := placesFrom 0 P.rows
theorem placesFrom_app : ∀ (rs qs : List (List Deed)) (t : Nat), placesFrom t (rs ++ qs) = placesFrom t rs ++ placesFrom (t + rs.length) qs
  | [], qs, t => rfl
  | r :: rs, qs, t => by
    show rowPl t r ++ placesFrom (t + 1) (rs ++ qs) = (rowPl t r ++ placesFrom (t + 1) rs) ++ placesFrom (t + (rs.length + 1)) qs
    rw [placesFrom_app rs qs (t + 1), List.append_assoc, show t + 1 + rs.length = t + (rs.length + 1) by omega]
theorem places_take {rs : List (List Deed)} {j : Nat} {r : List Deed} (h : rs[j]? = some r) : placesFrom 0 (rs.take (j + 1)) = placesFrom 0 (rs.take j) ++ rowPl j r := by
  have hj : j < rs.length := by
    rcases Nat.lt_or_ge j rs.length with h' | h'
    · exact h'
    · rw [List.getElem?_eq_none h'] at h; cases h
  rw [take_succ' h, placesFrom_app, List.length_take, Nat.min_eq_left (Nat.le_of_lt hj), Nat.zero_add]
  show _ ++ (rowPl j r ++ []) = _
  rw [List.append_nil]
theorem placesFrom_mem : ∀ {rs : List (List Deed)} {t : Nat} {x : Nat × Nat}, x ∈ placesFrom t rs → t ≤ x.1 ∧ ∃ r, rs[x.1 - t]? = some r ∧ x.2 < r.length
  | r :: rs, t, x, h => by
    rcases List.mem_append.mp h with h | h
    · obtain ⟨k, hk, rfl⟩ := List.mem_map.mp h
      exact ⟨Nat.le_refl _, r, by rw [Nat.sub_self]; rfl, List.mem_range.mp hk⟩
    · obtain ⟨h1, r', h2, h3⟩ := placesFrom_mem h
      refine ⟨by omega, r', ?_, h3⟩
      rw [show x.1 - t = (x.1 - (t + 1)) + 1 by omega]; exact h2
theorem places_mem {P : Prog} {x : Nat × Nat} (h : x ∈ places P) : ∃ r e, P.rows[x.1]? = some r ∧ r[x.2]? = some e := by
  obtain ⟨_, r, h2, h3⟩ := placesFrom_mem h
  exact ⟨r, r[x.2], h2, List.getElem?_eq_getElem h3⟩
theorem placesFrom_len : ∀ (rs : List (List Deed)) (t : Nat), (∀ r ∈ rs, r.length ≤ 1000) → (placesFrom t rs).length ≤ 1000 * rs.length
  | [], _, _ => Nat.zero_le _
  | r :: rs, t, h => by
    have := placesFrom_len rs (t + 1) fun q hq => h q (List.mem_cons_of_mem _ hq)
    have := h r (List.mem_cons_self ..)
    show (rowPl t r ++ placesFrom (t + 1) rs).length ≤ _
    unfold rowPl
    rw [List.length_append, List.length_map, List.length_range, List.length_cons]
    omega
theorem places_len {P : Prog} (hP : P.ok) : (places P).length ≤ 1000000 := by
  have := placesFrom_len P.rows 0 hP.row
  have := hP.n1
  unfold places
  omega
def pAt (P : Prog) (x : Nat × Nat) : Option Deed := deedAt P x.1 x.2
theorem pAt_row {P : Prog} {t : Nat} {r : List Deed} (h : P.rows[t]? = some r) : (rowPl t r).map (pAt P) = r.map some := by
  unfold rowPl
  rw [List.map_map]
  apply List.ext_getElem?
  intro i
  rw [List.getElem?_map, List.getElem?_map]
  by_cases hi : i < r.length
  · rw [List.getElem?_range hi, List.getElem?_eq_getElem hi]
    show some (deedAt P t i) = some (some r[i])
    unfold deedAt
    rw [h]
    show some (r[i]?) = _
    rw [List.getElem?_eq_getElem hi]
  · rw [List.getElem?_eq_none (by rw [List.length_range]; omega), List.getElem?_eq_none (by omega)]; rfl
theorem places_deeds {P : Prog} : (places P).map (pAt P) = P.rows.flatten.map some := by
  have go : ∀ (j : Nat), j ≤ P.rows.length → (placesFrom 0 (P.rows.take j)).map (pAt P) = (P.rows.take j).flatten.map some := by
    intro j
    induction j with
    | zero => intro _; rfl
    | succ j ih =>
      intro hj
      have hr : P.rows[j]? = some P.rows[j] := List.getElem?_eq_getElem hj
      rw [places_take hr, List.map_append, ih (by omega), pAt_row hr, take_succ' hr, List.flatten_append, List.map_append]
      show _ ++ _ = _ ++ (P.rows[j] ++ []).map some
      rw [List.append_nil]
  have := go P.rows.length (Nat.le_refl _)
  rwa [List.take_length] at this
theorem rowPl_D {t : Nat} {r : List Deed} : (rngL 0 r.length).map (fun x => D.tup [.int (t : Int), x]) = (rowPl t r).map plD := by
  unfold rngL rowPl
  rw [List.map_map, List.map_map]
  refine List.map_congr_left fun i _ => ?_
  show D.tup [.int (t : Int), .int (0 + (i : Int))] = D.tup [.int (t : Int), .int (i : Int)]
  rw [Int.zero_add]
theorem row_of {P : Prog} {j : Nat} {d : D} (h : (P.rows.map rowD)[j]? = some d) : ∃ r, P.rows[j]? = some r ∧ d = rowD r := map_at h
theorem d_start {t : Nat} : (Deed.start t).d = .tup [.str "start", .int (t : Int)] := rfl
theorem d_wait {p : Int} : (Deed.wait p).d = .tup [.str "wait", .int p] := rfl
theorem d_keep {p n : Int} {ps : List Int} : (Deed.keep p n ps).d = .tup [.str "keep", .int p, .int n, intsD ps] := rfl
theorem d_race {p : Int} {ps : List Int} : (Deed.race p ps).d = .tup [.str "race", .int p, intsD ps] := rfl
def GL (f : Nat × Nat → Option Nat) (m : Nat) (xs : List (Nat × Nat)) : List (List D) := (List.range m).map fun q => (xs.filter fun x => decide (f x = some q)).map plD
theorem GL_len {f : Nat × Nat → Option Nat} {m : Nat} {xs : List (Nat × Nat)} : (GL f m xs).length = m := by unfold GL; rw [List.length_map, List.length_range]
theorem GL_nil {f : Nat × Nat → Option Nat} {m : Nat} : GL f m [] = List.replicate m [] := by
  unfold GL
  apply List.ext_getElem (by simp)
  intro i h1 h2
  simp
theorem GL_at {f : Nat × Nat → Option Nat} {m q : Nat} {xs : List (Nat × Nat)} (h : q < m) : (GL f m xs)[q]? = some ((xs.filter fun x => decide (f x = some q)).map plD) := by
  unfold GL; rw [List.getElem?_map, List.getElem?_range h]; rfl
theorem GL_skip {f : Nat × Nat → Option Nat} {m : Nat} {xs : List (Nat × Nat)} {x : Nat × Nat} (h : f x = none) : GL f m (xs ++ [x]) = GL f m xs := by
  unfold GL
  refine List.map_congr_left fun q _ => ?_
  rw [List.filter_append]
  have : [x].filter (fun x => decide (f x = some q)) = [] := by
    rw [List.filter_eq_nil_iff]; intro y hy; rw [List.mem_singleton.mp hy, h]; simp
  rw [this, List.append_nil]
theorem GL_add {f : Nat × Nat → Option Nat} {m q : Nat} {xs : List (Nat × Nat)} {x : Nat × Nat} (h : f x = some q) (hq : q < m) : GL f m (xs ++ [x]) = (GL f m xs).set q ((xs.filter fun x => decide (f x = some q)).map plD ++ [plD x]) := by
  apply List.ext_getElem?
  intro i
  by_cases hi : i < m
  · rw [GL_at hi]
    by_cases c : q = i
    · subst c
      rw [List.getElem?_set_self (by rw [GL_len]; exact hq), List.filter_append, List.map_append]
      have : [x].filter (fun x => decide (f x = some q)) = [x] := by
        rw [List.filter_eq_self]; intro y hy; rw [List.mem_singleton.mp hy, h]; simp
      rw [this]; rfl
    · rw [List.getElem?_set_ne c, GL_at hi, List.filter_append]
      have : [x].filter (fun x => decide (f x = some i)) = [] := by
        rw [List.filter_eq_nil_iff]; intro y hy; rw [List.mem_singleton.mp hy, h]; simp; exact c
      rw [this, List.append_nil]
  · rw [List.getElem?_eq_none (by rw [GL_len]; omega), List.getElem?_eq_none (by rw [List.length_set, GL_len]; omega)]
theorem GL_flen {f : Nat × Nat → Option Nat} {q : Nat} {xs : List (Nat × Nat)} : ((xs.filter fun x => decide (f x = some q)).map plD).length ≤ xs.length := by
  rw [List.length_map]; exact List.length_filter_le ..
def kAt (P : Prog) (x : Nat × Nat) : Option Nat := (pAt P x).bind fun e => (kpr e).map Int.toNat
def sAt (P : Prog) (x : Nat × Nat) : Option Nat := (pAt P x).bind sto
theorem places_get {P : Prog} {x : Nat × Nat} (h : x ∈ places P) : ∃ r e, r ∈ P.rows ∧ e ∈ r ∧ pAt P x = some e := by
  obtain ⟨r, e, h1, h2⟩ := places_mem h
  refine ⟨r, e, List.mem_of_getElem? h1, List.mem_of_getElem? h2, ?_⟩
  unfold pAt deedAt
  rw [h1]; exact h2
def keepersD (P : Prog) : List D := (GL (kAt P) P.many (places P)).map D.tup
def startersD (P : Prog) : List D := (GL (sAt P) P.rows.length (places P)).map D.tup
theorem cut_take0 {α : Type} {xs : List α} {k : Nat} : dcut xs none (some (k : Int)) = xs.take k := by
  unfold dcut
  rw [HT.sIx_nat]
  show (xs.drop 0).take (min k xs.length - 0) = _
  rw [List.drop_zero, Nat.sub_zero, ← List.take_eq_take_min]
theorem put_spec {n : Nat} {S : DS} {xs : List D} {x : D} {k : Nat} {Q : DK} (hk : k < xs.length) (hl : xs.length ≤ 16777216) (h : Q (.tup (xs.set k x)) S) : sem fs (n + 1) 23 [.tup xs, .int (k : Int), x] S Q := by
  refine run__law_put ?_
  unfold b_23
  have e1 : dcut xs none (some (k : Int)) = xs.take k := cut_take0
  have e2 : dcut xs (some ((k : Int) + 1)) none = xs.drop (k + 1) := cut_from (by omega)
  have hlen : (xs.take k).length = k := by rw [List.length_take]; omega
  repeat walk_at "e"
  rw [e1]
  refine o_addT (by rw [hlen]; show k + 1 ≤ _; omega) ?_
  repeat walk_at "e"
  rw [e2]
  refine o_addT (by rw [List.length_append, hlen, List.length_drop]; show k + 1 + _ ≤ _; omega) ?_
  rw [List.set_eq_take_append_cons_drop, if_pos hk] at h
  rw [List.append_assoc]
  exact h
theorem Good.of {P : Prog} (hP : P.ok) (hW : P.wf) {r : List Deed} {e : Deed} (hr : r ∈ P.rows) (he : e ∈ r) : Good P.rows.length P.many e := ⟨hP.deed r hr e he, hW r hr e he⟩
theorem enc_ints : Enc (fun xs : List Int => D.tup (xs.map D.int)) 1 := enc_list enc_int
theorem deed_plain (e : Deed) : e.d.plain = true ∧ e.d.dep ≤ 50 := by
  have hi : ∀ ps : List Int, (intsD ps).plain = true := fun ps => enc_ints.plain ps
  have hd : ∀ ps : List Int, (intsD ps).dep ≤ 1 := fun ps => enc_ints.dep ps
  cases e with
  | start t => exact ⟨by simp [d_start, D.plain, D.plainL], by rw [d_start, D.dep]; exact Nat.succ_le_succ (D.depL_le fun x hx => by
      simp only [List.mem_cons, List.not_mem_nil, or_false] at hx
      rcases hx with rfl | rfl <;> rw [D.dep] <;> exact Nat.zero_le _)⟩
  | wait t => exact ⟨by simp [d_wait, D.plain, D.plainL], by rw [d_wait, D.dep]; exact Nat.succ_le_succ (D.depL_le fun x hx => by
      simp only [List.mem_cons, List.not_mem_nil, or_false] at hx
      rcases hx with rfl | rfl <;> rw [D.dep] <;> exact Nat.zero_le _)⟩
  | keep p n ps => exact ⟨by simp [d_keep, D.plain, D.plainL, hi], by rw [d_keep, D.dep]; exact Nat.succ_le_succ (D.depL_le fun x hx => by
      simp only [List.mem_cons, List.not_mem_nil, or_false] at hx
      rcases hx with rfl | rfl | rfl | rfl
      · rw [D.dep]; exact Nat.zero_le _
      · rw [D.dep]; exact Nat.zero_le _
      · rw [D.dep]; exact Nat.zero_le _
      · exact Nat.le_trans (hd ps) (by decide))⟩
  | race p ps => exact ⟨by simp [d_race, D.plain, D.plainL, hi], by rw [d_race, D.dep]; exact Nat.succ_le_succ (D.depL_le fun x hx => by
      simp only [List.mem_cons, List.not_mem_nil, or_false] at hx
      rcases hx with rfl | rfl | rfl
      · rw [D.dep]; exact Nat.zero_le _
      · rw [D.dep]; exact Nat.zero_le _
      · exact Nat.le_trans (hd ps) (by decide))⟩
theorem without_spec {n : Nat} {S : DS} {xs : List D} {k : Nat} {Q : DK} (hk : k < xs.length) (hl : xs.length ≤ 16777216) (h : Q (.tup (xs.eraseIdx k)) S) : sem fs (n + 1) 24 [.tup xs, .int (k : Int)] S Q := by
  refine run__law_without ?_
  unfold b_24
  have e1 : dcut xs none (some (k : Int)) = xs.take k := cut_take0
  have e2 : dcut xs (some ((k : Int) + 1)) none = xs.drop (k + 1) := cut_from (by omega)
  have hlen : (xs.take k).length = k := by rw [List.length_take]; omega
  repeat walk_at "e"
  rw [e1, e2]
  refine o_addT (by rw [hlen, List.length_drop]; omega) ?_
  rw [List.eraseIdx_eq_take_drop_succ] at h
  exact h
theorem nsum_set : ∀ {L : List Nat} {t x : Nat}, (h : t < L.length) → (L.set t x).sum + L[t] = L.sum + x
  | [], t, x, h => by simp at h
  | a :: L, 0, x, h => by simp only [List.set_cons_zero, List.sum_cons, List.getElem_cons_zero]; omega
  | a :: L, t + 1, x, h => by
    have := nsum_set (L := L) (t := t) (x := x) (by simpa using h)
    simp only [List.set_cons_succ, List.sum_cons, List.getElem_cons_succ]
    omega
/-- one row changed, not by more than it is shortened -/
theorem shape_set {P : Prog} {t m : Nat} {r r' : List Deed} (sh : Shape P) (hr : P.rows[t]? = some r) (h1 : r'.length ≤ r.length) (h2 : r'.length + r.countP isStart ≤ r.length + r'.countP isStart) : Shape ⟨m, P.rows.set t r'⟩ := by
  obtain ⟨s1, s2, r0, rs, e, s3⟩ := sh
  have ht := (List.getElem?_eq_some_iff.mp hr).1
  have hg : (P.rows.map List.length)[t]'(by rw [List.length_map]; exact ht) = r.length := by rw [List.getElem_map, (List.getElem?_eq_some_iff.mp hr).2]
  have hs := nsum_set (L := P.rows.map List.length) (t := t) (x := r'.length) (by rw [List.length_map]; exact ht)
  rw [hg] at hs
  have hm : ((P.rows.set t r').map List.length) = (P.rows.map List.length).set t r'.length := List.map_set
  refine ⟨by rw [List.length_set]; exact s1, by rw [hm]; omega, ?_⟩
  rw [hm]
  cases t with
  | zero =>
    rw [e] at hr
    obtain rfl : r0 = r := Option.some.inj hr
    exact ⟨r', rs, by rw [e]; rfl, by omega⟩
  | succ t => exact ⟨r0, rs.set t r', by rw [e]; rfl, by omega⟩
theorem ok_set {P : Prog} {t m : Nat} {r r' : List Deed} (hP : P.ok) (hm : m ≤ 1000) (hr : P.rows[t]? = some r) (h1 : r'.length ≤ r.length) (h2 : ∀ e ∈ r', e.ok P.rows.length) : Prog.ok ⟨m, P.rows.set t r'⟩ := by
  have hrm := List.mem_of_getElem? hr
  refine ⟨hm, by rw [List.length_set]; exact hP.n0, by rw [List.length_set]; exact hP.n1, fun x hx => ?_, fun x hx e he => ?_⟩
  · rcases List.mem_or_eq_of_mem_set hx with z | rfl
    · exact hP.row x z
    · exact Nat.le_trans h1 (hP.row r hrm)
  · rw [List.length_set]
    rcases List.mem_or_eq_of_mem_set hx with z | rfl
    · exact hP.deed x z e he
    · exact h2 e he
theorem countP_put {r : List Deed} {k : Nat} {e e' : Deed} (h : r[k]? = some e) : (r.set k e').countP isStart + (if isStart e = true then 1 else 0) = r.countP isStart + (if isStart e' = true then 1 else 0) := by
  have hk := (List.getElem?_eq_some_iff.mp h).1
  have e1 := (List.getElem?_eq_some_iff.mp h).2
  conv => rhs; rw [← List.take_append_drop k r, List.drop_eq_getElem_cons hk, e1]
  rw [List.set_eq_take_append_cons_drop, if_pos hk, List.countP_append, List.countP_append, List.countP_cons, List.countP_cons]
  omega
theorem countP_erase {r : List Deed} {k : Nat} (hk : k < r.length) : r.countP isStart ≤ (r.eraseIdx k).countP isStart + 1 := by
  conv => lhs; rw [← List.take_append_drop k r, List.drop_eq_getElem_cons hk]
  rw [List.eraseIdx_eq_take_drop_succ, List.countP_append, List.countP_append, List.countP_cons]
  split <;> omega
theorem swap_count {r : List Deed} {j k : Nat} {a b : Deed} (hj : r[j]? = some a) (hk : r[k]? = some b) : ((r.set k a).set j b).countP isStart = r.countP isStart := by
  have hjl := (List.getElem?_eq_some_iff.mp hj).1
  have h1 := countP_put (e' := a) hk
  have h2 : (r.set k a)[j]? = some a := by
    by_cases c : k = j
    · subst c; exact List.getElem?_set_self hjl
    · rw [List.getElem?_set_ne c]; exact hj
  have h3 := countP_put (e' := b) h2
  omega
theorem changed_spec {n : Nat} {P : Prog} {S : DS} {d : Addr} {Q : DK} (hd : Drw S d) (hP : P.ok) (hm : P.many ≤ 999) (sh : Shape P) (h : ∀ P' S', P'.ok → Shape P' → But d S S' → Drw S' d → Q P'.d S') : sem fs (n + 3) 41 [.ref d, P.d] S Q := by
  refine run__law_changed_program ?_
  unfold b_41
  have hPd : P.d = .tup [.int (P.many : Int), .tup (P.rows.map rowD)] := rfl
  have hn1 := hP.n1
  rw [hPd]
  repeat walk_at "e"
  rw [List.length_map]
  refine i_rng1V (by omega) ?_
  rw [Int.toNat_natCast, rng_map]
  refine lc_fm (fun t : Nat => if decide (0 < (P.rows.getD t []).length) = true then some (D.int (t : Int)) else none) (fun S' => S' = S) (by rw [List.length_range]; omega) rfl (fun _ _ => True.intro) ?_ ?_
  · rintro t ht acc S1 nx hacc rfl hnx
    have htl := List.mem_range.mp ht
    have hr : P.rows[t]? = some P.rows[t] := List.getElem?_eq_getElem htl
    have hgd : P.rows.getD t [] = P.rows[t] := by rw [List.getD_eq_getElem?_getD, hr]; rfl
    rw [hgd] at hnx
    rw [Int.zero_add]
    repeat walk_at "e"
    refine o_ixT (lst_map_at (j := t) rfl hr) ?_
    unfold rowD
    repeat walk_at "e"
    rw [List.length_map]
    refine ite_dec (fun c => ?_) (fun c => ?_)
    · rw [if_pos (decide_eq_true (by omega))] at hnx
      repeat walk_at "e"
      exact ⟨hacc, hnx _ rfl⟩
    · rw [if_neg (by rw [decide_eq_false (by omega)]; exact Bool.false_ne_true)] at hnx
      simpa using hnx _ rfl
  intro S0 hS0
  rw [hS0]
  clear hS0
  rw [fm_if]
  refine i_newL fun a S1 n1 e1 x1 => ?_
  have d1 := hd.ext x1
  have nad := hd.ne' n1
  repeat walk_at "e"
  refine take_spec d1 (by decide) fun kd S2 kd0 kd1 b2 d2 => ?_
  have a2 := b2.get nad e1
  have B2 := x1.toBut.trans b2
  repeat walk_at "s"
  have many1 : ∀ S', But d S S' → Drw S' d → Q (.tup [.int ((P.many : Int) + 1), .tup (P.rows.map rowD)]) S' := fun S' b g =>
    h ⟨P.many + 1, P.rows⟩ S' ⟨by show P.many + 1 ≤ 1000; omega, hP.n0, hP.n1, hP.row, hP.deed⟩ sh b g
  refine i_seqJ (fun δ S3 => δ = [some (.ref d), some (.tup [.int (P.many : Int), .tup (P.rows.map rowD)]), some (.int (P.many : Int)), some (.tup (P.rows.map rowD)), some (.ref a), none, some (.int kd), none, none, none] ∧ S2 = S3 ∧ ((List.range P.rows.length).filter fun t => decide (0 < (P.rows.getD t []).length)) ≠ []) (fun nx hnx => ?_) ?_
  · repeat walk_at "e"
    refine ite_dec (fun c => ?_) (fun c => ?_)
    · repeat walk_at "e"
      exact many1 S2 B2 d2
    · repeat walk_at "e"
      rw [List.length_map]
      refine ite_dec (fun c2 => ?_) (fun c2 => ?_)
      · repeat walk_at "e"
        exact many1 S2 B2 d2
      · repeat walk_at "e"
        exact hnx _ _ ⟨rfl, rfl, fun z => c2 (by rw [z]; rfl)⟩
  rintro δ S3 ⟨rfl, rfl, hne⟩
  repeat walk_at "e"
  refine pick_spec d2 a2 (by simpa using hne) nad fun v S4 hv b4 d4 => ?_
  obtain ⟨t, ht, rfl⟩ := List.mem_map.mp hv
  obtain ⟨ht1, ht2⟩ := List.mem_filter.mp ht
  have htl := List.mem_range.mp ht1
  have hr : P.rows[t]? = some P.rows[t] := List.getElem?_eq_getElem htl
  have hgd : P.rows.getD t [] = P.rows[t] := by rw [List.getD_eq_getElem?_getD, hr]; rfl
  rw [hgd] at ht2
  have hpos := of_decide_eq_true ht2
  clear hgd ht2
  generalize P.rows[t] = r at hr hpos
  have hrm := List.mem_of_getElem? hr
  have hrl := hP.row r hrm
  have hrd := hP.deed r hrm
  have B4 := B2.trans b4
  have ix : ∀ {S' : DS} {Q' : DK}, Q' (.tup (r.map Deed.d)) S' → oIx (.tup (P.rows.map rowD)) (.int (t : Int)) S' Q' := fun hq => o_ixT (lst_map_at (j := t) rfl hr) hq
  repeat walk_at "e"
  refine ix ?_
  repeat walk_at "e"
  rw [List.length_map]
  refine take_spec d4 (by omega) fun kk S5 kk0 kk1 b5 d5 => ?_
  obtain ⟨k, rfl⟩ : ∃ k : Nat, kk = (k : Int) := ⟨kk.toNat, by omega⟩
  have hkl : k < r.length := by omega
  have he : r[k]? = some r[k] := List.getElem?_eq_getElem hkl
  generalize r[k] = e at he
  have hem := List.mem_of_getElem? he
  have B5 := B4.trans b5
  have put : ∀ (m : Nat) (r' : List Deed) S', m ≤ 1000 → r'.length ≤ r.length → r'.length + r.countP isStart ≤ r.length + r'.countP isStart → (∀ e ∈ r', e.ok P.rows.length) → But d S S' → Drw S' d → Q (.tup [.int (m : Int), .tup ((P.rows.map rowD).set t (.tup (r'.map Deed.d)))]) S' := fun m r' S' q1 q2 q3 q4 q5 q6 => by
    have := h ⟨m, P.rows.set t r'⟩ S' (ok_set hP q1 hr q2 q4) (shape_set sh hr q2 q3) q5 q6
    unfold Prog.d at this
    dsimp only at this
    rw [List.map_set] at this
    exact this
  repeat walk_at "e"
  refine ix ?_
  repeat walk_at "e"
  refine o_ixT (lst_map_at (j := k) rfl he) ?_
  repeat walk_at "s"
  refine i_seqJ (fun δ S6 => δ = [some (.ref d), some (.tup [.int (P.many : Int), .tup (P.rows.map rowD)]), some (.int (P.many : Int)), some (.tup (P.rows.map rowD)), some (.ref a), some (.int (t : Int)), some (.int kd), some (.int (k : Int)), some e.d, none] ∧ S5 = S6) (fun nx hnx => ?_) ?_
  · repeat walk_at "e"
    refine ite_dec (fun c => ?_) (fun c => ?_)
    · repeat walk_at "e"
      refine ix ?_
      repeat walk_at "e"
      refine without_spec (by rw [List.length_map]; exact hkl) (by rw [List.length_map]; omega) ?_
      repeat walk_at "e"
      refine put_spec (by rw [List.length_map]; exact htl) (by rw [List.length_map]; omega) ?_
      repeat walk_at "e"
      have hE : (r.map Deed.d).eraseIdx k = (r.eraseIdx k).map Deed.d := by rw [List.eraseIdx_eq_take_drop_succ, List.eraseIdx_eq_take_drop_succ, List.map_append, List.map_take, List.map_drop]
      rw [hE]
      have hlen : (r.eraseIdx k).length = r.length - 1 := List.length_eraseIdx_of_lt hkl
      have hc := countP_erase hkl
      exact put P.many (r.eraseIdx k) S5 hP.many (by omega) (by omega) (fun e' he' => hrd e' (List.mem_of_mem_eraseIdx he')) B5 d5
    · repeat walk_at "e"
      exact hnx _ _ ⟨rfl, rfl⟩
  rintro δ S6 ⟨rfl, rfl⟩
  repeat walk_at "s"
  refine i_seqJ (fun δ S6 => δ = [some (.ref d), some (.tup [.int (P.many : Int), .tup (P.rows.map rowD)]), some (.int (P.many : Int)), some (.tup (P.rows.map rowD)), some (.ref a), some (.int (t : Int)), some (.int kd), some (.int (k : Int)), some e.d, none] ∧ S5 = S6) (fun nx hnx => ?_) ?_
  · repeat walk_at "e"
    refine ite_dec (fun c => ?_) (fun c => ?_)
    · repeat walk_at "e"
      refine ix ?_
      repeat walk_at "e"
      rw [List.length_map]
      refine ite_dec (fun c2 => ?_) (fun c2 => ?_)
      · repeat walk_at "e"
        refine ix ?_
        repeat walk_at "e"
        rw [List.length_map]
        refine take_spec d5 (by omega) fun jj S6 jj0 jj1 b6 d6 => ?_
        obtain ⟨j, rfl⟩ : ∃ j : Nat, jj = (j : Int) := ⟨jj.toNat, by omega⟩
        have hjl : j < r.length := by omega
        have hf : r[j]? = some r[j] := List.getElem?_eq_getElem hjl
        generalize r[j] = f at hf
        repeat walk_at "e"
        refine ix ?_
        repeat walk_at "e"
        refine ix ?_
        repeat walk_at "e"
        refine o_ixT (lst_map_at (j := j) rfl hf) ?_
        repeat walk_at "e"
        refine put_spec (by rw [List.length_map]; exact hkl) (by rw [List.length_map]; omega) ?_
        repeat walk_at "e"
        refine put_spec (by rw [List.length_set, List.length_map]; exact hjl) (by rw [List.length_set, List.length_map]; omega) ?_
        repeat walk_at "e"
        refine put_spec (by rw [List.length_map]; exact htl) (by rw [List.length_map]; omega) ?_
        repeat walk_at "e"
        rw [← List.map_set, ← List.map_set]
        have hp := swap_count hf he
        have hll : ((r.set k f).set j e).length = r.length := by rw [List.length_set, List.length_set]
        exact put P.many ((r.set k f).set j e) S6 hP.many (by omega) (by omega) (fun e' he' => (List.mem_or_eq_of_mem_set he').elim (fun z => (List.mem_or_eq_of_mem_set z).elim (hrd e') fun w => by rw [w]; exact hrd f (List.mem_of_getElem? hf)) fun w => by rw [w]; exact hrd e hem) (B5.trans b6) d6
      · repeat walk_at "e"
        exact hnx _ _ ⟨rfl, rfl⟩
    · repeat walk_at "e"
      exact hnx _ _ ⟨rfl, rfl⟩
  rintro δ S6 ⟨rfl, rfl⟩
  have set1 : ∀ (e' : Deed) S', isStart e' = isStart e → e'.ok P.rows.length → But d S S' → Drw S' d → Q (.tup [.int (P.many : Int), .tup ((P.rows.map rowD).set t (.tup ((r.map Deed.d).set k e'.d)))]) S' := fun e' S' q1 q2 q3 q4 => by
    have hl : (r.set k e').length = r.length := List.length_set ..
    have hc : (r.set k e').countP isStart = r.countP isStart := by have := countP_put (e' := e') he; rw [q1] at this; omega
    have := put P.many (r.set k e') S' hP.many (by omega) (by omega) (fun x hx => (List.mem_or_eq_of_mem_set hx).elim (hrd x) fun z => by rw [z]; exact q2) q3 q4
    rw [List.map_set] at this
    exact this
  have same : ∀ S', But d S S' → Drw S' d → Q (.tup [.int (P.many : Int), .tup (P.rows.map rowD)]) S' := fun S' b g => h P S' hP sh b g
  have hok := hrd e hem
  have wait : isStart e = false → ∀ (Q' : DK), (∀ v S', Q (.tup [.int (P.many : Int), .tup ((P.rows.map rowD).set t (.tup ((r.map Deed.d).set k (.tup [.str "wait", v]))))]) S' → Q' v S') → 1 ≤ P.many → sem fs (n + 2) 18 [.ref d, .int (P.many : Int)] S5 Q' := fun q1 Q' hq hm1 => by
    refine take_spec d5 (by omega) fun w S6 w0 w1 b6 d6 => ?_
    exact hq _ _ (set1 (.wait w) S6 q1.symm True.intro (B5.trans b6) d6)
  cases e with
  | start u =>
    rw [d_start]
    repeat walk_at "e"
    exact same _ B5 d5
  | wait p =>
    rw [d_wait]
    repeat walk_at "e"
    refine ite_dec (fun c => ?_) (fun c => ?_)
    · repeat walk_at "e"
      exact same _ B5 d5
    · repeat walk_at "e"
      refine ix ?_
      repeat walk_at "e"
      refine wait rfl _ (fun v S' hq => ?_) (by omega)
      repeat walk_at "e"
      refine put_spec (by rw [List.length_map]; exact hkl) (by rw [List.length_map]; omega) ?_
      repeat walk_at "e"
      refine put_spec (by rw [List.length_map]; exact htl) (by rw [List.length_map]; omega) ?_
      repeat walk_at "e"
      exact hq
  | keep p m ps =>
    rw [d_keep]
    repeat walk_at "e"
    refine ite_dec (fun c0 => ?_) (fun c0 => ?_)
    · repeat walk_at "e"
      refine ix ?_
      repeat walk_at "e"
      refine put_spec (by rw [List.length_map]; exact hkl) (by rw [List.length_map]; omega) ?_
      repeat walk_at "e"
      refine put_spec (by rw [List.length_map]; exact htl) (by rw [List.length_map]; omega) ?_
      repeat walk_at "e"
      exact set1 (.keep p (m + 1) ps) S5 rfl hok B5 d5
    · repeat walk_at "e"
      refine ite_dec (fun c => ?_) (fun c => ?_)
      · repeat walk_at "e"
        exact same _ B5 d5
      · repeat walk_at "e"
        refine ix ?_
        repeat walk_at "e"
        refine wait rfl _ (fun v S' hq => ?_) (by omega)
        repeat walk_at "e"
        refine put_spec (by rw [List.length_map]; exact hkl) (by rw [List.length_map]; omega) ?_
        repeat walk_at "e"
        refine put_spec (by rw [List.length_map]; exact htl) (by rw [List.length_map]; omega) ?_
        repeat walk_at "e"
        exact hq
  | race p ps =>
    rw [d_race]
    repeat walk_at "e"
    refine ite_dec (fun c => ?_) (fun c => ?_)
    · repeat walk_at "e"
      exact same _ B5 d5
    · repeat walk_at "e"
      refine ix ?_
      repeat walk_at "e"
      refine wait rfl _ (fun v S' hq => ?_) (by omega)
      repeat walk_at "e"
      refine put_spec (by rw [List.length_map]; exact hkl) (by rw [List.length_map]; omega) ?_
      repeat walk_at "e"
      refine put_spec (by rw [List.length_map]; exact htl) (by rw [List.length_map]; omega) ?_
      repeat walk_at "e"
      exact hq
abbrev Fr := Out × List Nat
def vkP : Option Int → Int × Int
  | none => (0, 0)
  | some v => (1, v)
theorem vk_pair (v : Option Int) : vkD v = .tup [.int (vkP v).1, .int (vkP v).2] := by cases v <;> rfl
theorem enc_vk : Enc vkD 1 := ⟨fun x => by rw [vk_pair]; exact (enc_pair enc_int enc_int).pl (vkP x), fun x y h => by
  rw [vk_pair, vk_pair] at h
  injection h with h
  injection h with h1 h2
  injection h1 with h1
  injection h2 with h2 _
  injection h2 with h2
  cases x <;> cases y <;> first | rfl | (exfalso; simp only [vkP] at h1; omega) | (simp only [vkP] at h2; rw [h2]), fun x => by rw [vk_pair]; exact (enc_pair enc_int enc_int).dep (vkP x)⟩
theorem enc_ok : Enc okD 3 := (enc_pair (enc_list enc_vk) (enc_list enc_natI)).mono (by decide)
theorem vl_eqv : ∀ a b : List (Option Int), PyData.eqvAll (D.pyL (a.map vlD)) (D.pyL (b.map vlD)) = PyData.eqvAll (D.pyL (a.map vkD)) (D.pyL (b.map vkD))
  | [], [] => rfl
  | [], _ :: _ => rfl
  | _ :: _, [] => rfl
  | x :: a, y :: b => by
    rw [List.map_cons, List.map_cons, List.map_cons, List.map_cons, D.pyL, D.pyL, D.pyL, D.pyL, PyData.eqvAll, PyData.eqvAll, vl_eqv a b]
    congr 1
    cases x <;> cases y <;> simp only [vlD, vkD, D.py, D.pyL, PyData.eqv]
theorem ol_eqv (a b : Out) : D.eqv (olD a) (olD b) = decide (a = b) := by
  rw [← enc_ok.eqv a b]
  unfold D.eqv
  simp only [py_ol, py_ok, PyData.eqv, PyData.eqvAll, vl_eqv]
theorem ol_lt (a b : Out) : dlt (olD a) (olD b) = dlt (okD a) (okD b) := by
  unfold dlt PySem.W.dataLt
  rw [ok_toks, ok_toks]
theorem cmp_ok (a b : Out) : CmpOk (okD a) (okD b) := by
  obtain ⟨h1, h2, h3⟩ := keysOk_ok [a, b]
  have ha := h1 (okD a) (by simp)
  have hb := h1 (okD b) (by simp)
  refine ⟨ha.1, hb.1, ?_, ?_, ha.2⟩
  · exact h2 _ (by simp) _ (by simp)
  · rw [py_ok]; exact fun z => by cases z
theorem cmp_ol (a b : Out) : CmpOk (olD a) (olD b) := by
  obtain ⟨h1, h2, h3⟩ := keysOk_ol [a, b]
  have ha := h1 (olD a) (by simp)
  have hb := h1 (olD b) (by simp)
  refine ⟨ha.1, hb.1, ?_, ?_, ha.2⟩
  · exact h2 _ (by simp) _ (by simp)
  · rw [py_ol]; exact fun z => by cases z
def frD (e : Fr) : D := .tup [outD e.1, runD e.2]
def lackL (L M : List Fr) : List Fr := L.filter fun e => !decide (e.1 ∈ M.map (·.1))
def loneL (P O : Prog) : List Fr := lackL (frL P) (frL O) ++ lackL (frL O) (frL P)
def bestF (a : Fr) (l : List Fr) : Fr := bestOf (fun e => okD e.1) a l
def diffP (P O : Prog) : D := match loneL P O with
  | [] => .non
  | a :: l => frD (bestF a l)
theorem lack_len {L M : List Fr} : (lackL L M).length ≤ L.length := List.length_filter_le ..
theorem bestF_ol (a : Fr) (l : List Fr) : bestOf (fun e : Fr => olD e.1) a l = bestF a l := by
  unfold bestF bestOf
  congr 1
  funext b y
  rw [ol_lt]
theorem lone_mem {P O : Prog} {e : Fr} (h : e ∈ loneL P O) : e ∈ frL P ∨ e ∈ frL O := by
  rcases List.mem_append.mp h with z | z
  · exact .inl (List.mem_filter.mp z).1
  · exact .inr (List.mem_filter.mp z).1
theorem lone_small {P O : Prog} (hP : P.ok) (hO : O.ok) {e : Fr} (h : e ∈ loneL P O) : e.1.1.length ≤ 1000 := by
  rcases lone_mem h with z | z
  · obtain ⟨x, _, q⟩ := frL_mem z
    rw [q]; unfold out
    rw [List.length_map, List.length_range]; exact hP.many
  · obtain ⟨x, _, q⟩ := frL_mem z
    rw [q]; unfold out
    rw [List.length_map, List.length_range]; exact hO.many
theorem lone_nodup {P O : Prog} : ((loneL P O).map (·.1)).Nodup := by
  have sub : ∀ (L M : List Fr), (L.map (·.1)).Nodup → ((lackL L M).map (·.1)).Nodup := fun L M h => by
    refine List.Pairwise.sublist ?_ h
    exact List.Sublist.map _ List.filter_sublist
  unfold loneL
  rw [List.map_append, List.nodup_append]
  refine ⟨sub _ _ frL_nodup, sub _ _ frL_nodup, fun a ha b hb e => ?_⟩
  subst e
  obtain ⟨x, hx, rfl⟩ := List.mem_map.mp ha
  obtain ⟨y, hy, e⟩ := List.mem_map.mp hb
  have h1 := (List.mem_filter.mp hx).2
  have h2 := (List.mem_filter.mp hy).1
  rw [decide_eq_true (List.mem_map.mpr ⟨y, h2, e⟩)] at h1
  cases h1
theorem fdiff_spec {n : Nat} {P O : Prog} {S : DS} {Q : DK} (hP : P.ok) (sP : Shape P) (hO : O.ok) (sO : Shape O) (h : ∀ S', Ext S S' → Q (diffP P O) S') : sem fs (n + 6) 15 [P.d, O.d] S Q := by
  refine run_first_difference ?_
  unfold b_15
  have l1 : (frL P).length ≤ 5460 := Nat.le_trans frL_len (expl_len hP sP)
  have l2 : (frL O).length ≤ 5460 := Nat.le_trans frL_len (expl_len hO sO)
  repeat walk_at "e"
  refine firstruns_spec hP sP fun rp st S1 n1 e1 x1 => ?_
  repeat walk_at "e"
  refine firstruns_spec hO sO fun ro so S2 n2 e2 x2 => ?_
  have e1' := x2.get e1
  repeat walk_at "e"
  refine t_items e1' ?_
  refine lc_fm (fun e : Fr => if (!decide (e.1 ∈ (frL O).map (·.1))) = true then some (frD e) else none) (fun S' => S' = S2) (by omega) rfl (fun S' z => by rw [z]; exact e1') ?_ ?_
  · rintro e he acc S3 nx hacc rfl hnx
    repeat walk_at "e"
    refine t_notin enc_out.toEnc e2 (kOk_tab enc_out _ _) ?_
    repeat walk_at "e"
    refine ite_ndec (fun c => ?_) (fun c => ?_)
    · rw [if_pos (by rw [decide_eq_false c]; rfl)] at hnx
      repeat walk_at "e"
      exact ⟨hacc, hnx _ rfl⟩
    · rw [if_neg (by rw [decide_eq_true c]; exact Bool.false_ne_true)] at hnx
      simpa using hnx _ rfl
  intro S3 hS3
  rw [hS3]
  clear hS3
  rw [fm_if]
  refine i_newL fun p S3 n3 e3 x3 => ?_
  have p1 := x3.get e1'
  have p2 := x3.get e2
  repeat walk_at "e"
  refine t_items p2 ?_
  refine lc_fm (fun e : Fr => if (!decide (e.1 ∈ (frL P).map (·.1))) = true then some (frD e) else none) (fun S' => S' = S3) (by omega) rfl (fun S' z => by rw [z]; exact p2) ?_ ?_
  · rintro e he acc S4 nx hacc hS4 hnx
    rw [hS4]
    repeat walk_at "e"
    refine t_notin enc_out.toEnc p1 (kOk_tab enc_out _ _) ?_
    repeat walk_at "e"
    refine ite_ndec (fun c => ?_) (fun c => ?_)
    · rw [if_pos (by rw [decide_eq_false c]; rfl)] at hnx
      repeat walk_at "e"
      exact ⟨hacc, hnx _ rfl⟩
    · rw [if_neg (by rw [decide_eq_true c]; exact Bool.false_ne_true)] at hnx
      simpa using hnx _ rfl
  intro S4 hS4
  rw [hS4]
  clear hS4
  rw [fm_if]
  refine i_newL fun q S4 n4 e4 x4 => ?_
  have e3' : S4 p = some (.lst ((lackL (frL P) (frL O)).map frD)) := x4.get e3
  have e4' : S4 q = some (.lst ((lackL (frL O) (frL P)).map frD)) := e4
  have g1 := lack_len (L := frL P) (M := frL O)
  have g2 := lack_len (L := frL O) (M := frL P)
  have X4 := (x1.trans x2).trans (x3.trans x4)
  have pS : S p = none := (x1.trans x2).back n3
  repeat walk_at "e"
  refine m_extend e3' e4' (by rw [List.length_map, List.length_map]; omega) (i_putL fun S5 e5 b5 => ?_)
  rw [← List.map_append] at e5
  have e5' : S5 p = some (.lst ((loneL P O).map frD)) := e5
  have X5 : Ext S S5 := X4.but b5 pS
  have hd : diffP P O = match loneL P O with
    | [] => .non
    | a :: l => frD (bestF a l) := rfl
  have hsm : ∀ e ∈ loneL P O, e.1.1.length ≤ 1000 := fun e he => lone_small hP hO he
  generalize loneL P O = LL at hd e5' hsm
  repeat walk_at "e"
  rw [List.length_map]
  cases LL with
  | nil =>
    dsimp only at hd
    repeat walk_at "e"
    rw [← hd]
    exact h S5 X5
  | cons a l =>
    dsimp only at hd
    refine ite_dec (fun c => ?_) (fun c => ?_)
    · rw [List.length_cons] at c; omega
    repeat walk_at "e"
    refine c_minKE e5' (fun e : Fr => okD e.1) (fun e => plain_ok e.1) (fun y hy S' Q' x' hq => ?_) (fun x _ y _ => cmp_ok x.1 y.1) fun S' x' => ?_
    · refine i_lamK ?_
      unfold frD
      repeat walk_at "e"
      refine okey_spec (by have := hsm y hy; omega) fun S'' x'' => ?_
      exact hq _ S'' (D.rd_plain _ _ (plain_ok _)) x''
    · have := h S' (X5.trans x')
      rw [hd] at this
      exact this
theorem alike_spec {n : Nat} {P O : Prog} {S : DS} {Q : DK} (hP : P.ok) (sP : Shape P) (hO : O.ok) (sO : Shape O) (h : ∀ S', Ext S S' → Q (.bl (isNon (diffP P O))) S') : sem fs (n + 7) 16 [P.d, O.d] S Q := by
  refine run_programs_alike ?_
  unfold b_16
  repeat walk_at "e"
  refine fdiff_spec hP sP hO sO fun S1 x1 => ?_
  repeat walk_at "e"
  exact h S1 x1
def rfD (z : Addr × Fr) : D := .ref z.1
def alD (z : D × Fr) : D := .tup [z.1, outD z.2.1, runD z.2.2]
theorem LLi.zip {S : DS} {w : Addr} {L : List Fr} (h : LLi S w (L.map feR)) : ∃ Z : List (Addr × Fr), Z.map (·.2) = L ∧ S w = some (.lst (Z.map rfD)) ∧ ∀ z ∈ Z, S z.1 = some (.lst (feR z.2)) := by
  obtain ⟨as, h1, h2, h3⟩ := h.ex
  rw [List.length_map] at h1
  refine ⟨as.zip L, List.map_snd_zip (by omega), ?_, fun z hz => ?_⟩
  · rw [h2]
    congr 1
    congr 1
    show _ = (as.zip L).map (D.ref ∘ Prod.fst)
    rw [← List.map_map, List.map_fst_zip (by omega)]
  · obtain ⟨i, hi⟩ := List.mem_iff_getElem?.mp hz
    rw [List.getElem?_zip_eq_some] at hi
    exact (h3 i z.1 (feR z.2) hi.1 (by rw [List.getElem?_map, hi.2]; rfl)).1
theorem filt_snd {Z : List (Addr × Fr)} {M : List Fr} : (Z.filter fun z => !decide (z.2.1 ∈ M.map (·.1))).map (·.2) = lackL (Z.map (·.2)) M := by
  unfold lackL
  rw [List.filter_map]; rfl
theorem inj_key {κ ν : Type} : ∀ {L : List (κ × ν)} {a b : κ × ν}, (L.map (·.1)).Nodup → a ∈ L → b ∈ L → a.1 = b.1 → a = b
  | [], _, _, _, h, _, _ => nomatch h
  | x :: L, a, b, hn, ha, hb, e => by
    rw [List.map_cons, List.nodup_cons] at hn
    rcases List.mem_cons.mp ha with rfl | ha
    · rcases List.mem_cons.mp hb with rfl | hb
      · rfl
      · exact absurd (List.mem_map.mpr ⟨b, hb, e.symm⟩) hn.1
    · rcases List.mem_cons.mp hb with q | hb
      · exact absurd (List.mem_map.mpr ⟨a, ha, by rw [e, q]⟩) hn.1
      · exact inj_key hn.2 ha hb e
theorem first_key {Z : List (D × Fr)} {b : Fr} (hn : ((Z.map (·.2)).map (·.1)).Nodup) (hb : b ∈ Z.map (·.2)) : ∃ z l, (Z.filter fun z => decide (z.2.1 = b.1)) = z :: l ∧ z.2 = b := by
  obtain ⟨z0, hz0, e0⟩ := List.mem_map.mp hb
  have hm : z0 ∈ Z.filter fun z => decide (z.2.1 = b.1) := List.mem_filter.mpr ⟨hz0, decide_eq_true (by rw [e0])⟩
  cases hq : (Z.filter fun z => decide (z.2.1 = b.1)) with
  | nil => rw [hq] at hm; cases hm
  | cons z l =>
    refine ⟨z, l, rfl, ?_⟩
    have h1 : z ∈ Z.filter fun z => decide (z.2.1 = b.1) := by rw [hq]; exact List.mem_cons_self ..
    obtain ⟨h2, h3⟩ := List.mem_filter.mp h1
    have h4 := of_decide_eq_true h3
    have h5 : z.2 ∈ Z.map (·.2) := List.mem_map.mpr ⟨z, h2, rfl⟩
    exact inj_key hn h5 hb h4
theorem ldiff_spec {n : Nat} {P O : Prog} {S : DS} {Q : DK} (hP : P.ok) (sP : Shape P) (hO : O.ok) (sO : Shape O) (h : ∀ S', Ext S S' → Q (diffP P O) S') : sem fs (n + 6) 42 [P.d, O.d] S Q := by
  refine run__law_difference ?_
  unfold b_42
  have l1 : (frL P).length ≤ 5460 := Nat.le_trans frL_len (expl_len hP sP)
  have l2 : (frL O).length ≤ 5460 := Nat.le_trans frL_len (expl_len hO sO)
  repeat walk_at "e"
  refine lendings_spec hP sP fun w1 S1 n1 q1 x1 => ?_
  repeat walk_at "e"
  refine lendings_spec hO sO fun w2 S2 n2 q2 x2 => ?_
  obtain ⟨Z1, z1, y1, g1⟩ := (q1.ext x2).zip
  obtain ⟨Z2, z2, y2, g2⟩ := q2.zip
  have m1 : Z1.length = (frL P).length := by rw [← z1, List.length_map]
  have m2 : Z2.length = (frL O).length := by rw [← z2, List.length_map]
  clear q1 q2
  repeat walk_at "e"
  refine lc_fm (fun z : Addr × Fr => some (outD z.2.1)) (fun S' => S' = S2) (by omega) rfl (fun S' e => by rw [e]; exact seq_ref y1) ?_ ?_
  · rintro z hz acc S3 nx hacc e hnx
    rw [e]
    unfold rfD
    repeat walk_at "e"
    refine o_ixL (v := outD z.2.1) (g1 z hz) rfl ?_
    repeat walk_at "e"
    exact ⟨hacc, hnx _ rfl⟩
  intro S3 e
  rw [e]
  clear e
  rw [fm_all]
  refine i_newL fun k1 S3 n3 e3 x3 => ?_
  have e3' : S3 k1 = some (.lst (((frL P).map (·.1)).map outD)) := by rw [e3, ← z1, List.map_map, List.map_map]; rfl
  have y2' := x3.get y2
  repeat walk_at "e"
  refine lc_fm (fun z : Addr × Fr => some (outD z.2.1)) (fun S' => S' = S3) (by omega) rfl (fun S' e => by rw [e]; exact seq_ref y2') ?_ ?_
  · rintro z hz acc S4 nx hacc e hnx
    rw [e]
    unfold rfD
    repeat walk_at "e"
    refine o_ixL (v := outD z.2.1) (x3.get (g2 z hz)) rfl ?_
    repeat walk_at "e"
    exact ⟨hacc, hnx _ rfl⟩
  intro S4 e
  rw [e]
  clear e
  rw [fm_all]
  refine i_newL fun k2 S4 n4 e4 x4 => ?_
  have e4' : S4 k2 = some (.lst (((frL O).map (·.1)).map outD)) := by rw [e4, ← z2, List.map_map, List.map_map]; rfl
  have X4 := x3.trans x4
  have y1' := X4.get y1
  repeat walk_at "e"
  refine lc_fm (fun z : Addr × Fr => if (!decide (z.2.1 ∈ (frL O).map (·.1))) = true then some (rfD z) else none) (fun S' => S' = S4) (by omega) rfl (fun S' e => by rw [e]; exact seq_ref y1') ?_ ?_
  · rintro z hz acc S5 nx hacc e hnx
    rw [e]
    unfold rfD
    repeat walk_at "e"
    refine o_ixL (v := outD z.2.1) (X4.get (g1 z hz)) rfl ?_
    repeat walk_at "e"
    refine e_notinL enc_out.toEnc (by decide) e4' ?_
    repeat walk_at "e"
    refine ite_ndec (fun c => ?_) (fun c => ?_)
    · rw [if_pos (by rw [decide_eq_false c]; rfl)] at hnx
      repeat walk_at "e"
      exact ⟨hacc, hnx _ rfl⟩
    · rw [if_neg (by rw [decide_eq_true c]; exact Bool.false_ne_true)] at hnx
      simpa using hnx _ rfl
  intro S5 e
  rw [e]
  clear e
  rw [fm_if]
  refine i_newL fun f1 S5 n5 e5 x5 => ?_
  have y2'' := (x4.trans x5).get y2'
  have k1' := (x4.trans x5).get e3'
  repeat walk_at "e"
  refine lc_fm (fun z : Addr × Fr => if (!decide (z.2.1 ∈ (frL P).map (·.1))) = true then some (rfD z) else none) (fun S' => S' = S5) (by omega) rfl (fun S' e => by rw [e]; exact seq_ref y2'') ?_ ?_
  · rintro z hz acc S6 nx hacc e hnx
    rw [e]
    unfold rfD
    repeat walk_at "e"
    refine o_ixL (v := outD z.2.1) ((X4.trans x5).get (g2 z hz)) rfl ?_
    repeat walk_at "e"
    refine e_notinL enc_out.toEnc (by decide) k1' ?_
    repeat walk_at "e"
    refine ite_ndec (fun c => ?_) (fun c => ?_)
    · rw [if_pos (by rw [decide_eq_false c]; rfl)] at hnx
      repeat walk_at "e"
      exact ⟨hacc, hnx _ rfl⟩
    · rw [if_neg (by rw [decide_eq_true c]; exact Bool.false_ne_true)] at hnx
      simpa using hnx _ rfl
  intro S6 e
  rw [e]
  clear e
  rw [fm_if]
  refine i_newL fun f2 S6 n6 e6 x6 => ?_
  have X6 := X4.trans (x5.trans x6)
  have f1' := x6.get e5
  repeat walk_at "e"
  have b1 := List.length_filter_le (fun z : Addr × Fr => !decide (z.2.1 ∈ (frL O).map (·.1))) Z1
  have b2 := List.length_filter_le (fun z : Addr × Fr => !decide (z.2.1 ∈ (frL P).map (·.1))) Z2
  refine o_addL f1' e6 (by rw [List.length_map, List.length_map]; omega) ?_
  rw [← List.map_append]
  have hF : ((Z1.filter fun z => !decide (z.2.1 ∈ (frL O).map (·.1))) ++ (Z2.filter fun z => !decide (z.2.1 ∈ (frL P).map (·.1)))).map (·.2) = loneL P O := by
    rw [List.map_append, filt_snd, filt_snd, z1, z2]; rfl
  have gF : ∀ z ∈ (Z1.filter fun z => !decide (z.2.1 ∈ (frL O).map (·.1))) ++ (Z2.filter fun z => !decide (z.2.1 ∈ (frL P).map (·.1))), S6 z.1 = some (.lst (feR z.2)) := fun z hz => by
    rcases List.mem_append.mp hz with q | q
    · exact X6.get (g1 z (List.mem_filter.mp q).1)
    · exact X6.get (g2 z (List.mem_filter.mp q).1)
  have lF : ((Z1.filter fun z => !decide (z.2.1 ∈ (frL O).map (·.1))) ++ (Z2.filter fun z => !decide (z.2.1 ∈ (frL P).map (·.1)))).length ≤ 20000 := by
    rw [List.length_append]; omega
  generalize (Z1.filter fun z => !decide (z.2.1 ∈ (frL O).map (·.1))) ++ (Z2.filter fun z => !decide (z.2.1 ∈ (frL P).map (·.1))) = F at hF gF lF
  have hsm : ∀ z ∈ F, z.2.1.1.length ≤ 1000 := fun z hz => lone_small hP hO (e := z.2) (by rw [← hF]; exact List.mem_map.mpr ⟨z, hz, rfl⟩)
  have hnd : ((F.map (·.2)).map (·.1)).Nodup := by rw [hF]; exact lone_nodup
  have hd : diffP P O = match F.map (·.2) with
    | [] => .non
    | a :: l => frD (bestF a l) := by rw [hF]; rfl
  have XS := (x1.trans x2).trans X6
  clear hF e5 e6 f1' b1 b2 e3 e4 e3' e4' k1' y1 y2 y1' y2' y2'' g1 g2 z1 z2 m1 m2
  refine i_newL fun s S7 n7 e7 x7 => ?_
  repeat walk_at "e"
  refine lc_inv (fun m acc S' => ∃ Z : List (D × Fr), Z.map (·.2) = (F.take m).map (·.2) ∧ acc = Z.map alD ∧ (∀ z ∈ Z, z.1.rd S' 4 = olD z.2.1) ∧ Ext S7 S') ⟨[], rfl, rfl, (fun z hz => nomatch hz), .refl S7⟩ (fun m acc S' _ ⟨_, _, _, _, x⟩ => seq_ref (x.get e7)) ?_ ?_
  · rintro m y acc S8 nx hy hm ⟨Z, hz1, rfl, hz2, x8⟩ hnx
    rw [List.length_map] at hm
    have hzm : F[m]? = some F[m] := List.getElem?_eq_getElem hm
    rw [List.getElem?_map, hzm] at hy
    obtain rfl := Option.some.inj hy
    generalize F[m] = z at hzm
    have hzF := List.mem_of_getElem? hzm
    have a8 := (x7.trans x8).get (gF z hzF)
    have hZl : Z.length ≤ m := by
      have := congrArg List.length hz1
      rw [List.length_map, List.length_map, List.length_take] at this
      omega
    unfold rfD
    repeat walk_at "e"
    refine o_ixL (v := outD z.2.1) a8 rfl ?_
    repeat walk_at "e"
    refine lokey_spec (by have := hsm z hzF; omega) fun k S9 hk x9 => ?_
    have a9 := x9.get a8
    repeat walk_at "e"
    refine o_ixL (v := outD z.2.1) a9 rfl ?_
    repeat walk_at "e"
    refine o_ixL (v := runD z.2.2) a9 rfl ?_
    repeat walk_at "e"
    refine ⟨by rw [List.length_map]; omega, hnx _ _ ⟨Z ++ [(k, z.2)], ?_, ?_, ?_, x8.trans x9⟩⟩
    · rw [take_succ' hzm, List.map_append, List.map_append, hz1]; rfl
    · rw [List.map_append]; rfl
    · intro q hq
      rcases List.mem_append.mp hq with w | w
      · rw [rd_ext x9 4 _ (by rw [hz2 q w]; exact plain_ol _)]; exact hz2 q w
      · rw [List.mem_singleton.mp w]; exact hk
  rintro acc S8 ⟨Z, hz1, rfl, hz2, x8⟩
  rw [List.length_map, List.take_length] at hz1
  rw [← hz1] at hd hnd
  have hZl : Z.length = F.length := by have := congrArg List.length hz1; rwa [List.length_map, List.length_map] at this
  refine i_newL fun al S9 n9 e9 x9 => ?_
  have hz9 : ∀ z ∈ Z, z.1.rd S9 4 = olD z.2.1 := fun q hq => by rw [rd_ext x9 4 _ (by rw [hz2 q hq]; exact plain_ol _)]; exact hz2 q hq
  have X9 := (XS.trans x7).trans (x8.trans x9)
  clear hz2 hz1 gF hsm
  repeat walk_at "e"
  rw [List.length_map]
  cases Z with
  | nil =>
    rw [List.map_nil] at hd
    dsimp only at hd
    repeat walk_at "e"
    rw [← hd]
    exact h S9 X9
  | cons z0 Z =>
    refine ite_dec (fun c => ?_) (fun c => ?_)
    · rw [List.length_cons] at c; omega
    repeat walk_at "e"
    refine lc_fm (fun z : D × Fr => some z.1) (fun S' => S' = S9) (by omega) rfl (fun S' e => by rw [e]; exact seq_ref e9) ?_ ?_
    · rintro z hz acc S10 nx hacc e hnx
      rw [e]
      unfold alD
      repeat walk_at "e"
      exact ⟨hacc, hnx _ rfl⟩
    intro S10 e
    rw [e]
    clear e
    rw [fm_all]
    refine i_newL fun ks S10 n10 e10 x10 => ?_
    have e9' := x10.get e9
    have hz10 : ∀ z ∈ z0 :: Z, z.1.rd S10 4 = olD z.2.1 := fun q hq => by rw [rd_ext x10 4 _ (by rw [hz9 q hq]; exact plain_ol _)]; exact hz9 q hq
    have hr : ((z0 :: Z).map (·.1)).map (D.rd S10 4) = (z0.2 :: Z.map (·.2)).map fun e : Fr => olD e.1 := by
      rw [← List.map_cons (f := fun z : D × Fr => z.2), List.map_map, List.map_map]
      exact List.map_congr_left hz10
    repeat walk_at "e"
    refine c_minD (kf := fun e : Fr => olD e.1) (lst_ref e10) hr (fun x _ y _ => cmp_ol x.1 y.1) fun best hb => ?_
    rw [bestF_ol] at hb
    have hbm : bestF z0.2 (Z.map (·.2)) ∈ (z0 :: Z).map (·.2) := bestOf_mem _ _
    rw [List.map_cons] at hd
    dsimp only at hd
    generalize bestF z0.2 (Z.map (·.2)) = b at hb hbm hd
    repeat walk_at "e"
    refine lc_fm (fun z : D × Fr => if decide (z.2.1 = b.1) = true then some (alD z) else none) (fun S' => S' = S10) (by omega) rfl (fun S' e => by rw [e]; exact seq_ref e9') ?_ ?_
    · rintro z hz acc S11 nx hacc e hnx
      rw [e]
      unfold alD
      repeat walk_at "e"
      refine o_eqR (hz10 z hz) hb (plain_ol _) (plain_ol _) (.inl (cmp_ol z.2.1 b.1).2.2.2.2) ?_
      rw [Bool.false_xor, ol_eqv]
      repeat walk_at "e"
      refine ite_dec (fun c => ?_) (fun c => ?_)
      · rw [if_pos (decide_eq_true c)] at hnx
        repeat walk_at "e"
        exact ⟨hacc, hnx _ rfl⟩
      · rw [if_neg (by rw [decide_eq_false c]; exact Bool.false_ne_true)] at hnx
        simpa using hnx _ rfl
    intro S11 e
    rw [e]
    clear e
    rw [fm_if]
    obtain ⟨zb, l, hf, hzb⟩ := first_key hnd hbm
    rw [hf]
    refine i_newL fun fo S11 n11 e11 x11 => ?_
    repeat walk_at "e"
    refine o_ixL (v := alD zb) e11 (atI_at (j := 0) rfl rfl) ?_
    unfold alD
    rw [hzb]
    repeat walk_at "e"
    have := h S11 (X9.trans (x10.trans x11))
    rw [hd] at this
    exact this
theorem diff_self {P : Prog} : diffP P P = .non := by
  have h : lackL (frL P) (frL P) = [] := by
    unfold lackL
    rw [List.filter_eq_nil_iff]
    intro e he
    rw [decide_eq_true (List.mem_map.mpr ⟨e, he, rfl⟩)]
    exact Bool.false_ne_true
  unfold diffP loneL
  rw [h]; rfl
theorem pl_fr {P : Prog} (hP : P.ok) (sh : Shape P) {e : Fr} (h : e ∈ frL P) : Pl 4 (frD e) := by
  obtain ⟨x, hx, rfl⟩ := frL_mem h
  have h1 := hP.many
  have h2 := hP.n1
  have h3 := goes_len1000 hP sh (ends_row hx).1
  refine ⟨Nat.le_of_ble_eq_true rfl, fun y hy => ?_⟩
  simp only [List.mem_cons, List.not_mem_nil, or_false] at hy
  rcases hy with rfl | rfl
  · refine ⟨Nat.le_of_ble_eq_true rfl, fun x hx => ?_⟩
    simp only [List.mem_cons, List.not_mem_nil, or_false] at hx
    rcases hx with rfl | rfl
    · unfold out
      refine ⟨by rw [List.length_map, List.length_map, List.length_range]; omega, fun y hy => ?_⟩
      obtain ⟨v, _, rfl⟩ := List.mem_map.mp hy
      cases v <;> exact True.intro
    · unfold out
      exact pl_nats (m := 0) (Nat.le_trans (List.length_filter_le ..) (by rw [List.length_range]; omega))
  · exact pl_nats (m := 1) (by omega)
theorem pl_diff {P O : Prog} (hP : P.ok) (sP : Shape P) (hO : O.ok) (sO : Shape O) : Pl 4 (diffP P O) := by
  have hm : ∀ e ∈ loneL P O, Pl 4 (frD e) := fun e he => (lone_mem he).elim (pl_fr hP sP) (pl_fr hO sO)
  unfold diffP
  cases hq : loneL P O with
  | nil => exact True.intro
  | cons a l =>
    rw [hq] at hm
    exact hm _ (bestOf_mem _ _)
theorem law_ok : ∀ ns : List Int, ns.length ≤ 63 → sem fs 40 43 [.fl (ns.map D.int)] (fun _ => none) fun d _ => d = .bl true := by
  intro ns hns
  refine run_law ?_
  unfold b_43
  repeat walk_at "e"
  refine draws_spec (by decide) fun d S1 _ _ d1 => ?_
  repeat walk_at "s"
  refine i_seqJ (fun δ S2 => ∃ o2 o4 o5 P, δ = [some (.fl (ns.map D.int)), some (.ref d), o2, some P.d, o4, o5] ∧ P.ok ∧ Shape P ∧ Drw S2 d) (fun nx0 hnx0 => ?_) ?_
  · repeat walk_at "e"
    refine i_rng1V (by decide) (for_inv (fun j δ S2 => ∃ o2 o3 o4 o5, δ = [some (.fl (ns.map D.int)), some (.ref d), o2, o3, o4, o5] ∧ (0 < j → ∃ P : Prog, o3 = some P.d ∧ P.ok ∧ Shape P) ∧ Drw S2 d) ⟨none, none, none, none, rfl, (fun z => absurd z (by omega)), d1⟩ (fun _ _ _ _ _ => True.intro) ?_ ?_)
    · rintro j x δ S2 nx hx hj ⟨o2, o3, o4, o5, rfl, _, d2⟩ hnx
      obtain ⟨rfl, hj'⟩ := rng_at hx
      repeat walk_at "e"
      refine anyp_spec d2 fun P k m S3 hA hk hm b3 d3 => ?_
      have hP : P.ok := hA.1.ok ⟨hk.1, by omega⟩ (by omega)
      have sP := hA.2
      repeat walk_at "e"
      refine changed_spec d3 hP (by rw [hA.1.m1]; omega) sP fun O1 S4 hO1 sO1 b4 d4 => ?_
      repeat walk_at "s"
      refine i_seqJ (fun δ S5 => ∃ O : Prog, δ = [some (.fl (ns.map D.int)), some (.ref d), some (.int (0 + (j : Int))), some P.d, some O.d, o5] ∧ O.ok ∧ Shape O ∧ Drw S5 d) (fun nx1 hnx1 => ?_) ?_
      · repeat walk_at "e"
        refine take_spec d4 (by decide) fun v S5 v0 v1 b5 d5 => ?_
        repeat walk_at "e"
        refine ite_dec (fun c => ?_) (fun c => ?_)
        · repeat walk_at "e"
          refine anyp_spec d5 fun O k' m' S6 hB hk' hm' b6 d6 => ?_
          repeat walk_at "e"
          exact hnx1 _ _ ⟨O, rfl, hB.1.ok ⟨hk'.1, by omega⟩ (by omega), hB.2, d6⟩
        · repeat walk_at "e"
          exact hnx1 _ _ ⟨O1, rfl, hO1, sO1, d5⟩
      rintro δ S5 ⟨O, rfl, hO, sO, d5⟩
      repeat walk_at "e"
      refine ldiff_spec hP sP hO sO fun S6 x6 => ?_
      repeat walk_at "e"
      refine alike_spec hP sP hO sO fun S7 x7 => ?_
      repeat walk_at "e"
      refine same_spec (m := 1) Pl.bl fun S8 x8 => ?_
      repeat walk_at "e"
      refine fdiff_spec hP sP hO sO fun S9 x9 => ?_
      repeat walk_at "e"
      refine same_spec (m := 4) (pl_diff hP sP hO sO) fun S10 x10 => ?_
      repeat walk_at "e"
      exact hnx _ _ ⟨_, _, _, _, rfl, (fun _ => ⟨P, rfl, hP, sP⟩), (d5.ext x6).ext (x7.trans (x8.trans (x9.trans x10)))⟩
    · rintro δ S2 ⟨o2, o3, o4, o5, rfl, hl, d2⟩
      obtain ⟨P, rfl, hP, sP⟩ := hl (by decide)
      exact hnx0 _ _ ⟨_, _, _, P, rfl, hP, sP, d2⟩
  rintro δ S2 ⟨o2, o4, o5, P, rfl, hP, sP, d2⟩
  repeat walk_at "e"
  refine alike_spec hP sP hP sP fun S3 x3 => ?_
  rw [diff_self]
  repeat walk_at "e"
  refine ite_t ?_
  repeat walk_at "e"
  refine fdiff_spec hP sP hP sP fun S4 x4 => ?_
  rw [diff_self]
  repeat walk_at "e"
  rfl
end Gk40
namespace Gk40
open PySem PySem.Spec PyProof.Rows L2 DL
def top (i : Nat) : Stmt := PySem.Challenge.pw_promiseskept_k40_programs_alike.main.body.getD i (.Pass ⟨0, 0, 0, 0⟩)
abbrev s_0 : Stmt := top 1
abbrev N_0 : List Str := ["program", "task"]
abbrev P_0 : List Str := ["program"]
theorem sc_0 : FnScope N_0 P_0 (defScope s_0) := ⟨rfl, rfl, rfl, by decide +kernel, rfl, by decide +kernel, by decide +kernel⟩
abbrev s_1 : Stmt := top 2
abbrev N_1 : List Str := ["kept", "promise", "other", "value"]
abbrev P_1 : List Str := ["kept", "promise"]
theorem sc_1 : FnScope N_1 P_1 (defScope s_1) := ⟨rfl, rfl, rfl, by decide +kernel, rfl, by decide +kernel, by decide +kernel⟩
abbrev s_2 : Stmt := top 3
abbrev N_2 : List Str := ["program", "state", "task", "done"]
abbrev P_2 : List Str := ["program", "state", "task"]
theorem sc_2 : FnScope N_2 P_2 (defScope s_2) := ⟨rfl, rfl, rfl, by decide +kernel, rfl, by decide +kernel, by decide +kernel⟩
abbrev s_3 : Stmt := top 4
abbrev N_3 : List Str := ["kept", "deed", "promise"]
abbrev P_3 : List Str := ["kept", "deed"]
theorem sc_3 : FnScope N_3 P_3 (defScope s_3) := ⟨rfl, rfl, rfl, by decide +kernel, rfl, by decide +kernel, by decide +kernel⟩
abbrev s_4 : Stmt := top 5
abbrev N_4 : List Str := ["program", "state", "found", "task", "deed"]
abbrev P_4 : List Str := ["program", "state"]
theorem sc_4 : FnScope N_4 P_4 (defScope s_4) := ⟨rfl, rfl, rfl, by decide +kernel, rfl, by decide +kernel, by decide +kernel⟩
abbrev s_5 : Stmt := top 6
abbrev N_5 : List Str := ["kept", "deed", "promise", "value"]
abbrev P_5 : List Str := ["kept", "deed"]
theorem sc_5 : FnScope N_5 P_5 (defScope s_5) := ⟨rfl, rfl, rfl, by decide +kernel, rfl, by decide +kernel, by decide +kernel⟩
abbrev s_6 : Stmt := top 7
abbrev N_6 : List Str := ["program", "state", "task", "counts", "kept", "deed", "after"]
abbrev P_6 : List Str := ["program", "state", "task"]
theorem sc_6 : FnScope N_6 P_6 (defScope s_6) := ⟨rfl, rfl, rfl, by decide +kernel, rfl, by decide +kernel, by decide +kernel⟩
abbrev s_7 : Stmt := top 8
abbrev N_7 : List Str := ["program", "state", "task"]
abbrev P_7 : List Str := ["program", "state"]
theorem sc_7 : FnScope N_7 P_7 (defScope s_7) := ⟨rfl, rfl, rfl, by decide +kernel, rfl, by decide +kernel, by decide +kernel⟩
abbrev s_8 : Stmt := top 9
abbrev N_8 : List Str := ["program", "state", "promise"]
abbrev P_8 : List Str := ["program", "state"]
theorem sc_8 : FnScope N_8 P_8 (defScope s_8) := ⟨rfl, rfl, rfl, by decide +kernel, rfl, by decide +kernel, by decide +kernel⟩
abbrev s_9 : Stmt := top 10
abbrev N_9 : List Str := ["program", "state"]
abbrev P_9 : List Str := ["program", "state"]
theorem sc_9 : FnScope N_9 P_9 (defScope s_9) := ⟨rfl, rfl, rfl, by decide +kernel, rfl, by decide +kernel, by decide +kernel⟩
abbrev s_10 : Stmt := top 11
abbrev N_10 : List Str := ["program", "begin", "parents", "waiting", "at", "state", "task", "after"]
abbrev P_10 : List Str := ["program"]
theorem sc_10 : FnScope N_10 P_10 (defScope s_10) := ⟨rfl, rfl, rfl, by decide +kernel, rfl, by decide +kernel, by decide +kernel⟩
abbrev s_11 : Stmt := top 12
abbrev N_11 : List Str := ["parents", "state", "moves", "pair"]
abbrev P_11 : List Str := ["parents", "state"]
theorem sc_11 : FnScope N_11 P_11 (defScope s_11) := ⟨rfl, rfl, rfl, by decide +kernel, rfl, by decide +kernel, by decide +kernel⟩
abbrev s_12 : Stmt := top 13
abbrev N_12 : List Str := ["program", "states", "state"]
abbrev P_12 : List Str := ["program", "states"]
theorem sc_12 : FnScope N_12 P_12 (defScope s_12) := ⟨rfl, rfl, rfl, by decide +kernel, rfl, by decide +kernel, by decide +kernel⟩
abbrev s_13 : Stmt := top 15
abbrev N_13 : List Str := ["outcome", "values", "stuck", "value"]
abbrev P_13 : List Str := ["outcome"]
theorem sc_13 : FnScope N_13 P_13 (defScope s_13) := ⟨rfl, rfl, rfl, by decide +kernel, rfl, by decide +kernel, by decide +kernel⟩
abbrev s_14 : Stmt := top 16
abbrev N_14 : List Str := ["program", "parents", "runs", "state", "outcome"]
abbrev P_14 : List Str := ["program"]
theorem sc_14 : FnScope N_14 P_14 (defScope s_14) := ⟨rfl, rfl, rfl, by decide +kernel, rfl, by decide +kernel, by decide +kernel⟩
abbrev s_15 : Stmt := top 17
abbrev N_15 : List Str := ["program", "other", "runs", "others", "lone", "outcome", "run"]
abbrev P_15 : List Str := ["program", "other"]
theorem sc_15 : FnScope N_15 P_15 (defScope s_15) := ⟨rfl, rfl, rfl, by decide +kernel, rfl, by decide +kernel, by decide +kernel⟩
abbrev s_16 : Stmt := top 18
abbrev N_16 : List Str := ["program", "other"]
abbrev P_16 : List Str := ["program", "other"]
theorem sc_16 : FnScope N_16 P_16 (defScope s_16) := ⟨rfl, rfl, rfl, by decide +kernel, rfl, by decide +kernel, by decide +kernel⟩
abbrev s_17 : Stmt := top 20
abbrev N_17 : List Str := ["script", "many", "cells", "cell", "left", "draws", "k", "place", "mixed"]
abbrev P_17 : List Str := ["script", "many"]
theorem sc_17 : FnScope N_17 P_17 (defScope s_17) := ⟨rfl, rfl, rfl, by decide +kernel, rfl, by decide +kernel, by decide +kernel⟩
abbrev s_18 : Stmt := top 21
abbrev N_18 : List Str := ["draws", "many"]
abbrev P_18 : List Str := ["draws", "many"]
theorem sc_18 : FnScope N_18 P_18 (defScope s_18) := ⟨rfl, rfl, rfl, by decide +kernel, rfl, by decide +kernel, by decide +kernel⟩
abbrev s_19 : Stmt := top 22
abbrev N_19 : List Str := ["draws", "row"]
abbrev P_19 : List Str := ["draws", "row"]
theorem sc_19 : FnScope N_19 P_19 (defScope s_19) := ⟨rfl, rfl, rfl, by decide +kernel, rfl, by decide +kernel, by decide +kernel⟩
abbrev s_20 : Stmt := top 23
abbrev N_20 : List Str := ["actual", "due", "k"]
abbrev P_20 : List Str := ["actual", "due"]
theorem sc_20 : FnScope N_20 P_20 (defScope s_20) := ⟨rfl, rfl, rfl, by decide +kernel, rfl, by decide +kernel, by decide +kernel⟩
abbrev s_21 : Stmt := top 24
abbrev N_21 : List Str := ["draws", "row", "left", "told", "k"]
abbrev P_21 : List Str := ["draws", "row"]
theorem sc_21 : FnScope N_21 P_21 (defScope s_21) := ⟨rfl, rfl, rfl, by decide +kernel, rfl, by decide +kernel, by decide +kernel⟩
abbrev s_22 : Stmt := top 25
abbrev N_22 : List Str := ["draws", "things", "many", "found", "k", "thing"]
abbrev P_22 : List Str := ["draws", "things", "many"]
theorem sc_22 : FnScope N_22 P_22 (defScope s_22) := ⟨rfl, rfl, rfl, by decide +kernel, rfl, by decide +kernel, by decide +kernel⟩
abbrev s_23 : Stmt := top 26
abbrev N_23 : List Str := ["row", "k", "thing"]
abbrev P_23 : List Str := ["row", "k", "thing"]
theorem sc_23 : FnScope N_23 P_23 (defScope s_23) := ⟨rfl, rfl, rfl, by decide +kernel, rfl, by decide +kernel, by decide +kernel⟩
abbrev s_24 : Stmt := top 27
abbrev N_24 : List Str := ["row", "k"]
abbrev P_24 : List Str := ["row", "k"]
theorem sc_24 : FnScope N_24 P_24 (defScope s_24) := ⟨rfl, rfl, rfl, by decide +kernel, rfl, by decide +kernel, by decide +kernel⟩
abbrev s_25 : Stmt := top 28
abbrev N_25 : List Str := ["draws"]
abbrev P_25 : List Str := ["draws"]
theorem sc_25 : FnScope N_25 P_25 (defScope s_25) := ⟨rfl, rfl, rfl, by decide +kernel, rfl, by decide +kernel, by decide +kernel⟩
abbrev s_26 : Stmt := top 29
abbrev N_26 : List Str := ["program", "t"]
abbrev P_26 : List Str := ["program"]
theorem sc_26 : FnScope N_26 P_26 (defScope s_26) := ⟨rfl, rfl, rfl, by decide +kernel, rfl, by decide +kernel, by decide +kernel⟩
abbrev s_27 : Stmt := top 30
abbrev N_27 : List Str := ["kept", "p", "pair"]
abbrev P_27 : List Str := ["kept", "p"]
theorem sc_27 : FnScope N_27 P_27 (defScope s_27) := ⟨rfl, rfl, rfl, by decide +kernel, rfl, by decide +kernel, by decide +kernel⟩
abbrev s_28 : Stmt := top 31
abbrev N_28 : List Str := ["program", "state", "t", "done", "deed", "had", "pair", "p"]
abbrev P_28 : List Str := ["program", "state", "t"]
theorem sc_28 : FnScope N_28 P_28 (defScope s_28) := ⟨rfl, rfl, rfl, by decide +kernel, rfl, by decide +kernel, by decide +kernel⟩
abbrev s_29 : Stmt := top 32
abbrev N_29 : List Str := ["program", "state", "t"]
abbrev P_29 : List Str := ["program", "state"]
theorem sc_29 : FnScope N_29 P_29 (defScope s_29) := ⟨rfl, rfl, rfl, by decide +kernel, rfl, by decide +kernel, by decide +kernel⟩
abbrev s_30 : Stmt := top 33
abbrev N_30 : List Str := ["program", "state", "t", "counts", "kept", "deed", "told", "p", "pair"]
abbrev P_30 : List Str := ["program", "state", "t"]
theorem sc_30 : FnScope N_30 P_30 (defScope s_30) := ⟨rfl, rfl, rfl, by decide +kernel, rfl, by decide +kernel, by decide +kernel⟩
abbrev s_31 : Stmt := top 34
abbrev N_31 : List Str := ["program", "rows", "seen", "turn", "state", "run", "t", "after"]
abbrev P_31 : List Str := ["program"]
theorem sc_31 : FnScope N_31 P_31 (defScope s_31) := ⟨rfl, rfl, rfl, by decide +kernel, rfl, by decide +kernel, by decide +kernel⟩
abbrev s_32 : Stmt := top 35
abbrev N_32 : List Str := ["program", "state", "many", "t"]
abbrev P_32 : List Str := ["program", "state"]
theorem sc_32 : FnScope N_32 P_32 (defScope s_32) := ⟨rfl, rfl, rfl, by decide +kernel, rfl, by decide +kernel, by decide +kernel⟩
abbrev s_33 : Stmt := top 36
abbrev N_33 : List Str := ["program", "state", "p"]
abbrev P_33 : List Str := ["program", "state"]
theorem sc_33 : FnScope N_33 P_33 (defScope s_33) := ⟨rfl, rfl, rfl, by decide +kernel, rfl, by decide +kernel, by decide +kernel⟩
abbrev s_34 : Stmt := top 37
abbrev N_34 : List Str := ["outcome", "value"]
abbrev P_34 : List Str := ["outcome"]
theorem sc_34 : FnScope N_34 P_34 (defScope s_34) := ⟨rfl, rfl, rfl, by decide +kernel, rfl, by decide +kernel, by decide +kernel⟩
abbrev s_35 : Stmt := top 38
abbrev N_35 : List Str := ["program", "rows", "row", "outcome", "other"]
abbrev P_35 : List Str := ["program"]
theorem sc_35 : FnScope N_35 P_35 (defScope s_35) := ⟨rfl, rfl, rfl, by decide +kernel, rfl, by decide +kernel, by decide +kernel⟩
abbrev s_36 : Stmt := top 39
abbrev N_36 : List Str := ["draws", "pool", "most", "found", "k", "p"]
abbrev P_36 : List Str := ["draws", "pool", "most"]
theorem sc_36 : FnScope N_36 P_36 (defScope s_36) := ⟨rfl, rfl, rfl, by decide +kernel, rfl, by decide +kernel, by decide +kernel⟩
abbrev s_37 : Stmt := top 40
abbrev N_37 : List Str := ["draws", "pool", "others", "kind"]
abbrev P_37 : List Str := ["draws", "pool", "others"]
theorem sc_37 : FnScope N_37 P_37 (defScope s_37) := ⟨rfl, rfl, rfl, by decide +kernel, rfl, by decide +kernel, by decide +kernel⟩
abbrev s_38 : Stmt := top 41
abbrev N_38 : List Str := ["draws", "many", "pool", "size", "rest", "first", "t", "extra", "k", "left", "rows", "others", "other", "deeds"]
abbrev P_38 : List Str := ["draws"]
theorem sc_38 : FnScope N_38 P_38 (defScope s_38) := ⟨rfl, rfl, rfl, by decide +kernel, rfl, by decide +kernel, by decide +kernel⟩
abbrev s_39 : Stmt := top 42
abbrev N_39 : List Str := ["draws", "many", "pool", "size", "first", "t", "rows", "row"]
abbrev P_39 : List Str := ["draws"]
theorem sc_39 : FnScope N_39 P_39 (defScope s_39) := ⟨rfl, rfl, rfl, by decide +kernel, rfl, by decide +kernel, by decide +kernel⟩
abbrev s_40 : Stmt := top 43
abbrev N_40 : List Str := ["draws"]
abbrev P_40 : List Str := ["draws"]
theorem sc_40 : FnScope N_40 P_40 (defScope s_40) := ⟨rfl, rfl, rfl, by decide +kernel, rfl, by decide +kernel, by decide +kernel⟩
abbrev s_41 : Stmt := top 44
abbrev N_41 : List Str := ["draws", "program", "many", "rows", "able", "t", "kind", "k", "deed", "j"]
abbrev P_41 : List Str := ["draws", "program"]
theorem sc_41 : FnScope N_41 P_41 (defScope s_41) := ⟨rfl, rfl, rfl, by decide +kernel, rfl, by decide +kernel, by decide +kernel⟩
abbrev s_42 : Stmt := top 45
abbrev N_42 : List Str := ["program", "other", "one", "two", "ones", "row", "twos", "first", "second", "alone", "least", "found"]
abbrev P_42 : List Str := ["program", "other"]
theorem sc_42 : FnScope N_42 P_42 (defScope s_42) := ⟨rfl, rfl, rfl, by decide +kernel, rfl, by decide +kernel, by decide +kernel⟩
abbrev s_43 : Stmt := top 46
abbrev N_43 : List Str := ["script", "draws", "turn", "program", "other", "due"]
abbrev P_43 : List Str := ["script"]
theorem sc_43 : FnScope N_43 P_43 (defScope s_43) := ⟨rfl, rfl, rfl, by decide +kernel, rfl, by decide +kernel, by decide +kernel⟩
structure Txt (K : PySem.W.Frag) (mg : Str → Option Value) (tt : LT) where
  f : Nat → Addr
  fd : Nat → FuncData
  nd : (tt.map fun t => t.2.2).Nodup
  F0 : Fun K "first_state" "first_state" s_0 (f 0) (fd 0)
  b0 : Binds K (fd 0) P_0 []
  m0 : mg "first_state" = some (.ref (f 0))
  F1 : Fun K "value_of" "value_of" s_1 (f 1) (fd 1)
  b1 : Binds K (fd 1) P_1 []
  m1 : mg "value_of" = some (.ref (f 1))
  F2 : Fun K "next_deed" "next_deed" s_2 (f 2) (fd 2)
  b2 : Binds K (fd 2) P_2 []
  m2 : mg "next_deed" = some (.ref (f 2))
  F3 : Fun K "can_be_done" "can_be_done" s_3 (f 3) (fd 3)
  b3 : Binds K (fd 3) P_3 []
  m3 : mg "can_be_done" = some (.ref (f 3))
  F4 : Fun K "ready_tasks" "ready_tasks" s_4 (f 4) (fd 4)
  b4 : Binds K (fd 4) P_4 []
  m4 : mg "ready_tasks" = some (.ref (f 4))
  F5 : Fun K "value_kept_by" "value_kept_by" s_5 (f 5) (fd 5)
  b5 : Binds K (fd 5) P_5 []
  m5 : mg "value_kept_by" = some (.ref (f 5))
  F6 : Fun K "stepped" "stepped" s_6 (f 6) (fd 6)
  b6 : Binds K (fd 6) P_6 []
  m6 : mg "stepped" = some (.ref (f 6))
  F7 : Fun K "stuck_at" "stuck_at" s_7 (f 7) (fd 7)
  b7 : Binds K (fd 7) P_7 []
  m7 : mg "stuck_at" = some (.ref (f 7))
  F8 : Fun K "values_at" "values_at" s_8 (f 8) (fd 8)
  b8 : Binds K (fd 8) P_8 []
  m8 : mg "values_at" = some (.ref (f 8))
  F9 : Fun K "ending_at" "ending_at" s_9 (f 9) (fd 9)
  b9 : Binds K (fd 9) P_9 []
  m9 : mg "ending_at" = some (.ref (f 9))
  F10 : Fun K "reached" "reached" s_10 (f 10) (fd 10)
  b10 : Binds K (fd 10) P_10 []
  m10 : mg "reached" = some (.ref (f 10))
  F11 : Fun K "way_to" "way_to" s_11 (f 11) (fd 11)
  b11 : Binds K (fd 11) P_11 []
  m11 : mg "way_to" = some (.ref (f 11))
  F12 : Fun K "full_states" "full_states" s_12 (f 12) (fd 12)
  b12 : Binds K (fd 12) P_12 []
  m12 : mg "full_states" = some (.ref (f 12))
  F13 : Fun K "ending_key" "ending_key" s_13 (f 13) (fd 13)
  b13 : Binds K (fd 13) P_13 []
  m13 : mg "ending_key" = some (.ref (f 13))
  F14 : Fun K "first_runs" "first_runs" s_14 (f 14) (fd 14)
  b14 : Binds K (fd 14) P_14 []
  m14 : mg "first_runs" = some (.ref (f 14))
  F15 : Fun K "first_difference" "first_difference" s_15 (f 15) (fd 15)
  b15 : Binds K (fd 15) P_15 []
  m15 : mg "first_difference" = some (.ref (f 15))
  F16 : Fun K "programs_alike" "programs_alike" s_16 (f 16) (fd 16)
  b16 : Binds K (fd 16) P_16 []
  m16 : mg "programs_alike" = some (.ref (f 16))
  F17 : Fun K "_law_draws" "_law_draws" s_17 (f 17) (fd 17)
  b17 : Binds K (fd 17) P_17 []
  m17 : mg "_law_draws" = some (.ref (f 17))
  F18 : Fun K "_law_take" "_law_take" s_18 (f 18) (fd 18)
  b18 : Binds K (fd 18) P_18 []
  m18 : mg "_law_take" = some (.ref (f 18))
  F19 : Fun K "_law_pick" "_law_pick" s_19 (f 19) (fd 19)
  b19 : Binds K (fd 19) P_19 []
  m19 : mg "_law_pick" = some (.ref (f 19))
  F20 : Fun K "_law_same" "_law_same" s_20 (f 20) (fd 20)
  b20 : Binds K (fd 20) P_20 []
  m20 : mg "_law_same" = some (.ref (f 20))
  F21 : Fun K "_law_shuffled" "_law_shuffled" s_21 (f 21) (fd 21)
  b21 : Binds K (fd 21) P_21 []
  m21 : mg "_law_shuffled" = some (.ref (f 21))
  F22 : Fun K "_law_some_of" "_law_some_of" s_22 (f 22) (fd 22)
  b22 : Binds K (fd 22) P_22 []
  m22 : mg "_law_some_of" = some (.ref (f 22))
  F23 : Fun K "_law_put" "_law_put" s_23 (f 23) (fd 23)
  b23 : Binds K (fd 23) P_23 []
  m23 : mg "_law_put" = some (.ref (f 23))
  F24 : Fun K "_law_without" "_law_without" s_24 (f 24) (fd 24)
  b24 : Binds K (fd 24) P_24 []
  m24 : mg "_law_without" = some (.ref (f 24))
  F25 : Fun K "_law_number" "_law_number" s_25 (f 25) (fd 25)
  b25 : Binds K (fd 25) P_25 []
  m25 : mg "_law_number" = some (.ref (f 25))
  F26 : Fun K "_law_start_state" "_law_start_state" s_26 (f 26) (fd 26)
  b26 : Binds K (fd 26) P_26 []
  m26 : mg "_law_start_state" = some (.ref (f 26))
  F27 : Fun K "_law_worth" "_law_worth" s_27 (f 27) (fd 27)
  b27 : Binds K (fd 27) P_27 []
  m27 : mg "_law_worth" = some (.ref (f 27))
  F28 : Fun K "_law_can" "_law_can" s_28 (f 28) (fd 28)
  b28 : Binds K (fd 28) P_28 []
  m28 : mg "_law_can" = some (.ref (f 28))
  F29 : Fun K "_law_ready" "_law_ready" s_29 (f 29) (fd 29)
  b29 : Binds K (fd 29) P_29 []
  m29 : mg "_law_ready" = some (.ref (f 29))
  F30 : Fun K "_law_step" "_law_step" s_30 (f 30) (fd 30)
  b30 : Binds K (fd 30) P_30 []
  m30 : mg "_law_step" = some (.ref (f 30))
  F31 : Fun K "_law_explored" "_law_explored" s_31 (f 31) (fd 31)
  b31 : Binds K (fd 31) P_31 []
  m31 : mg "_law_explored" = some (.ref (f 31))
  F32 : Fun K "_law_stuck_at" "_law_stuck_at" s_32 (f 32) (fd 32)
  b32 : Binds K (fd 32) P_32 []
  m32 : mg "_law_stuck_at" = some (.ref (f 32))
  F33 : Fun K "_law_ending" "_law_ending" s_33 (f 33) (fd 33)
  b33 : Binds K (fd 33) P_33 []
  m33 : mg "_law_ending" = some (.ref (f 33))
  F34 : Fun K "_law_ending_key" "_law_ending_key" s_34 (f 34) (fd 34)
  b34 : Binds K (fd 34) P_34 []
  m34 : mg "_law_ending_key" = some (.ref (f 34))
  F35 : Fun K "_law_endings" "_law_endings" s_35 (f 35) (fd 35)
  b35 : Binds K (fd 35) P_35 []
  m35 : mg "_law_endings" = some (.ref (f 35))
  F36 : Fun K "_law_set_of" "_law_set_of" s_36 (f 36) (fd 36)
  b36 : Binds K (fd 36) P_36 []
  m36 : mg "_law_set_of" = some (.ref (f 36))
  F37 : Fun K "_law_deed" "_law_deed" s_37 (f 37) (fd 37)
  b37 : Binds K (fd 37) P_37 []
  m37 : mg "_law_deed" = some (.ref (f 37))
  F38 : Fun K "_law_program" "_law_program" s_38 (f 38) (fd 38)
  b38 : Binds K (fd 38) P_38 []
  m38 : mg "_law_program" = some (.ref (f 38))
  F39 : Fun K "_law_rival_program" "_law_rival_program" s_39 (f 39) (fd 39)
  b39 : Binds K (fd 39) P_39 []
  m39 : mg "_law_rival_program" = some (.ref (f 39))
  F40 : Fun K "_law_any_program" "_law_any_program" s_40 (f 40) (fd 40)
  b40 : Binds K (fd 40) P_40 []
  m40 : mg "_law_any_program" = some (.ref (f 40))
  F41 : Fun K "_law_changed_program" "_law_changed_program" s_41 (f 41) (fd 41)
  b41 : Binds K (fd 41) P_41 []
  m41 : mg "_law_changed_program" = some (.ref (f 41))
  F42 : Fun K "_law_difference" "_law_difference" s_42 (f 42) (fd 42)
  b42 : Binds K (fd 42) P_42 []
  m42 : mg "_law_difference" = some (.ref (f 42))
  F43 : Fun K "law" "law" s_43 (f 43) (fd 43)
  b43 : Binds K (fd 43) P_43 []
  m43 : mg "law" = some (.ref (f 43))
  cc15 : Addr
  cP15 : Addr
  t15 : (("first_difference" : Str), cc15, cP15) ∈ tt
  C15 : FunC K "first_difference" "first_difference" s_15 (f 15) (fd 15) cc15
  z_all : mg "all" = none
  z_any : mg "any" = none
  z_bool : mg "bool" = none
  z_int : mg "int" = none
  z_isinstance : mg "isinstance" = none
  z_len : mg "len" = none
  z_list : mg "list" = none
  z_min : mg "min" = none
  z_range : mg "range" = none
  z_sorted : mg "sorted" = none
  z_str : mg "str" = none
  z_sum : mg "sum" = none
  z_tuple : mg "tuple" = none
structure IH {K : PySem.W.Frag} {mg : Str → Option Value} {tt : LT} (P : Program) (w : World) (base : Heap) (T : Txt K mg tt) (n : Nat) : Prop where
  o0 : FnOk P w K mg base CX0 (4 * n) (T.f 0) (T.fd 0) P_0 (liftF ⟨K, w, tblOf tt⟩ (fs 0).np (sem fs n 0))
  o1 : FnOk P w K mg base CX0 (4 * n) (T.f 1) (T.fd 1) P_1 (liftF ⟨K, w, tblOf tt⟩ (fs 1).np (sem fs n 1))
  o2 : FnOk P w K mg base CX0 (4 * n) (T.f 2) (T.fd 2) P_2 (liftF ⟨K, w, tblOf tt⟩ (fs 2).np (sem fs n 2))
  o3 : FnOk P w K mg base CX0 (4 * n) (T.f 3) (T.fd 3) P_3 (liftF ⟨K, w, tblOf tt⟩ (fs 3).np (sem fs n 3))
  o4 : FnOk P w K mg base CX0 (4 * n) (T.f 4) (T.fd 4) P_4 (liftF ⟨K, w, tblOf tt⟩ (fs 4).np (sem fs n 4))
  o5 : FnOk P w K mg base CX0 (4 * n) (T.f 5) (T.fd 5) P_5 (liftF ⟨K, w, tblOf tt⟩ (fs 5).np (sem fs n 5))
  o6 : FnOk P w K mg base CX0 (4 * n) (T.f 6) (T.fd 6) P_6 (liftF ⟨K, w, tblOf tt⟩ (fs 6).np (sem fs n 6))
  o7 : FnOk P w K mg base CX0 (4 * n) (T.f 7) (T.fd 7) P_7 (liftF ⟨K, w, tblOf tt⟩ (fs 7).np (sem fs n 7))
  o8 : FnOk P w K mg base CX0 (4 * n) (T.f 8) (T.fd 8) P_8 (liftF ⟨K, w, tblOf tt⟩ (fs 8).np (sem fs n 8))
  o9 : FnOk P w K mg base CX0 (4 * n) (T.f 9) (T.fd 9) P_9 (liftF ⟨K, w, tblOf tt⟩ (fs 9).np (sem fs n 9))
  o10 : FnOk P w K mg base CX0 (4 * n) (T.f 10) (T.fd 10) P_10 (liftF ⟨K, w, tblOf tt⟩ (fs 10).np (sem fs n 10))
  o11 : FnOk P w K mg base CX0 (4 * n) (T.f 11) (T.fd 11) P_11 (liftF ⟨K, w, tblOf tt⟩ (fs 11).np (sem fs n 11))
  o12 : FnOk P w K mg base CX0 (4 * n) (T.f 12) (T.fd 12) P_12 (liftF ⟨K, w, tblOf tt⟩ (fs 12).np (sem fs n 12))
  o13 : FnOk P w K mg base CX0 (4 * n) (T.f 13) (T.fd 13) P_13 (liftF ⟨K, w, tblOf tt⟩ (fs 13).np (sem fs n 13))
  o14 : FnOk P w K mg base CX0 (4 * n) (T.f 14) (T.fd 14) P_14 (liftF ⟨K, w, tblOf tt⟩ (fs 14).np (sem fs n 14))
  o15 : FnOk P w K mg base CX0 (4 * n) (T.f 15) (T.fd 15) P_15 (liftF ⟨K, w, tblOf tt⟩ (fs 15).np (sem fs n 15))
  o16 : FnOk P w K mg base CX0 (4 * n) (T.f 16) (T.fd 16) P_16 (liftF ⟨K, w, tblOf tt⟩ (fs 16).np (sem fs n 16))
  o17 : FnOk P w K mg base CX0 (4 * n) (T.f 17) (T.fd 17) P_17 (liftF ⟨K, w, tblOf tt⟩ (fs 17).np (sem fs n 17))
  o18 : FnOk P w K mg base CX0 (4 * n) (T.f 18) (T.fd 18) P_18 (liftF ⟨K, w, tblOf tt⟩ (fs 18).np (sem fs n 18))
  o19 : FnOk P w K mg base CX0 (4 * n) (T.f 19) (T.fd 19) P_19 (liftF ⟨K, w, tblOf tt⟩ (fs 19).np (sem fs n 19))
  o20 : FnOk P w K mg base CX0 (4 * n) (T.f 20) (T.fd 20) P_20 (liftF ⟨K, w, tblOf tt⟩ (fs 20).np (sem fs n 20))
  o21 : FnOk P w K mg base CX0 (4 * n) (T.f 21) (T.fd 21) P_21 (liftF ⟨K, w, tblOf tt⟩ (fs 21).np (sem fs n 21))
  o22 : FnOk P w K mg base CX0 (4 * n) (T.f 22) (T.fd 22) P_22 (liftF ⟨K, w, tblOf tt⟩ (fs 22).np (sem fs n 22))
  o23 : FnOk P w K mg base CX0 (4 * n) (T.f 23) (T.fd 23) P_23 (liftF ⟨K, w, tblOf tt⟩ (fs 23).np (sem fs n 23))
  o24 : FnOk P w K mg base CX0 (4 * n) (T.f 24) (T.fd 24) P_24 (liftF ⟨K, w, tblOf tt⟩ (fs 24).np (sem fs n 24))
  o25 : FnOk P w K mg base CX0 (4 * n) (T.f 25) (T.fd 25) P_25 (liftF ⟨K, w, tblOf tt⟩ (fs 25).np (sem fs n 25))
  o26 : FnOk P w K mg base CX0 (4 * n) (T.f 26) (T.fd 26) P_26 (liftF ⟨K, w, tblOf tt⟩ (fs 26).np (sem fs n 26))
  o27 : FnOk P w K mg base CX0 (4 * n) (T.f 27) (T.fd 27) P_27 (liftF ⟨K, w, tblOf tt⟩ (fs 27).np (sem fs n 27))
  o28 : FnOk P w K mg base CX0 (4 * n) (T.f 28) (T.fd 28) P_28 (liftF ⟨K, w, tblOf tt⟩ (fs 28).np (sem fs n 28))
  o29 : FnOk P w K mg base CX0 (4 * n) (T.f 29) (T.fd 29) P_29 (liftF ⟨K, w, tblOf tt⟩ (fs 29).np (sem fs n 29))
  o30 : FnOk P w K mg base CX0 (4 * n) (T.f 30) (T.fd 30) P_30 (liftF ⟨K, w, tblOf tt⟩ (fs 30).np (sem fs n 30))
  o31 : FnOk P w K mg base CX0 (4 * n) (T.f 31) (T.fd 31) P_31 (liftF ⟨K, w, tblOf tt⟩ (fs 31).np (sem fs n 31))
  o32 : FnOk P w K mg base CX0 (4 * n) (T.f 32) (T.fd 32) P_32 (liftF ⟨K, w, tblOf tt⟩ (fs 32).np (sem fs n 32))
  o33 : FnOk P w K mg base CX0 (4 * n) (T.f 33) (T.fd 33) P_33 (liftF ⟨K, w, tblOf tt⟩ (fs 33).np (sem fs n 33))
  o34 : FnOk P w K mg base CX0 (4 * n) (T.f 34) (T.fd 34) P_34 (liftF ⟨K, w, tblOf tt⟩ (fs 34).np (sem fs n 34))
  o35 : FnOk P w K mg base CX0 (4 * n) (T.f 35) (T.fd 35) P_35 (liftF ⟨K, w, tblOf tt⟩ (fs 35).np (sem fs n 35))
  o36 : FnOk P w K mg base CX0 (4 * n) (T.f 36) (T.fd 36) P_36 (liftF ⟨K, w, tblOf tt⟩ (fs 36).np (sem fs n 36))
  o37 : FnOk P w K mg base CX0 (4 * n) (T.f 37) (T.fd 37) P_37 (liftF ⟨K, w, tblOf tt⟩ (fs 37).np (sem fs n 37))
  o38 : FnOk P w K mg base CX0 (4 * n) (T.f 38) (T.fd 38) P_38 (liftF ⟨K, w, tblOf tt⟩ (fs 38).np (sem fs n 38))
  o39 : FnOk P w K mg base CX0 (4 * n) (T.f 39) (T.fd 39) P_39 (liftF ⟨K, w, tblOf tt⟩ (fs 39).np (sem fs n 39))
  o40 : FnOk P w K mg base CX0 (4 * n) (T.f 40) (T.fd 40) P_40 (liftF ⟨K, w, tblOf tt⟩ (fs 40).np (sem fs n 40))
  o41 : FnOk P w K mg base CX0 (4 * n) (T.f 41) (T.fd 41) P_41 (liftF ⟨K, w, tblOf tt⟩ (fs 41).np (sem fs n 41))
  o42 : FnOk P w K mg base CX0 (4 * n) (T.f 42) (T.fd 42) P_42 (liftF ⟨K, w, tblOf tt⟩ (fs 42).np (sem fs n 42))
  o43 : FnOk P w K mg base CX0 (4 * n) (T.f 43) (T.fd 43) P_43 (liftF ⟨K, w, tblOf tt⟩ (fs 43).np (sem fs n 43))
section
variable {P : Program} {w : World} {K : PySem.W.Frag} {mg : Str → Option Value} {tt : LT} {base : Heap} {n : Nat}
/- first_state -/
theorem w_0 (T : Txt K mg tt) (hB : ∀ t ∈ tt, LamX.TabB base mg t.2.1 t.2.2) (ih : IH P w base T n) (cdv : Value) (A : Around) (outer : List Env) (s : Shared) (H : Hp) (E : XK) (hr : Room (4 * n + 3) (A.deeper (envOfC "first_state" (defScope s_0) s.heap.objs.size (T.f 0) cdv))) :
    PSs (cxOf CX0 P w K mg base N_0 "first_state" (defScope s_0) (T.f 0) cdv A outer s H E).nox (defBody s_0) (liftS ⟨K, w, tblOf tt⟩ (b_0 (sem fs n))) :=
  (qss_one (qs_ret (qe_tup (qa_cons (qe_callTy dcall_tuple rfl T.z_tuple (by decide +kernel) (qa_cons (qe_lc [("task", 1)] rfl sc_0.nd (qi_range1 rfl T.z_range (qa_cons (qe_callB dcall_len rfl T.z_len (by decide +kernel) (qa_cons (qe_ix (hu100 hr) (qv 0) qi (fun _ _ => rfl)) qa_nil)) qa_nil)) (okb (by kernel_rfl)) (by decide) (fun _ _ _ _ _ => (qg_name (i := 1) sc_0.nd rfl (by first | exact Or.inl rfl | exact Or.inr rfl))) (fun _ _ _ _ _ => qts_nil) (fun _ _ _ _ _ => (qe_if (qt_cmp (dop_eq (hu100 hr)) (qv 1) qi (nomark _)) qi qn))) qa_nil)) (qa_cons (qe_tup qa_nil) qa_nil)))))
/- value_of -/
theorem w_1 (T : Txt K mg tt) (hB : ∀ t ∈ tt, LamX.TabB base mg t.2.1 t.2.2) (ih : IH P w base T n) (cdv : Value) (A : Around) (outer : List Env) (s : Shared) (H : Hp) (E : XK) (hr : Room (4 * n + 3) (A.deeper (envOfC "value_of" (defScope s_1) s.heap.objs.size (T.f 1) cdv))) :
    PSs (cxOf CX0 P w K mg base N_1 "value_of" (defScope s_1) (T.f 1) cdv A outer s H E).nox (defBody s_1) (liftS ⟨K, w, tblOf tt⟩ (b_1 (sem fs n))) :=
  (qss_cons (qs_for PassesOwn.never rfl (qi_seq (qv 0)) (qg_tup rfl (qgs_cons (qg_name (i := 2) sc_1.nd rfl (by first | exact Or.inl rfl | exact Or.inr rfl)) (qgs_cons (qg_name (i := 3) sc_1.nd rfl (by first | exact Or.inl rfl | exact Or.inr rfl)) qgs_nil))) (qss_one (qs_if (qt_cmp (dop_eq (hu100 hr)) (qv 2) (qv 1) (nomark _)) (qss_one (qs_ret (qv 3))) qss_nil)))
  (qss_one (qs_ret qn)))
/- next_deed -/
theorem w_2 (T : Txt K mg tt) (hB : ∀ t ∈ tt, LamX.TabB base mg t.2.1 t.2.2) (ih : IH P w base T n) (cdv : Value) (A : Around) (outer : List Env) (s : Shared) (H : Hp) (E : XK) (hr : Room (4 * n + 3) (A.deeper (envOfC "next_deed" (defScope s_2) s.heap.objs.size (T.f 2) cdv))) :
    PSs (cxOf CX0 P w K mg base N_2 "next_deed" (defScope s_2) (T.f 2) cdv A outer s H E).nox (defBody s_2) (liftS ⟨K, w, tblOf tt⟩ (b_2 (sem fs n))) :=
  (qss_cons (qs_set (i := 3) sc_2.nd rfl (by first | exact Or.inl rfl | exact Or.inr rfl) (qe_ix (hu100 hr) (qe_ix (hu100 hr) (qv 1) qi (fun _ _ => rfl)) (qv 2) (fun _ _ => rfl)))
  (qss_cons (qs_if (qt_w (qw_or (qt_cmp dop_is (qv 3) qn (nomark _)) (qw_or1 (qt_cmp (dop_eq (hu100 hr)) (qv 3) (qe_callB dcall_len rfl T.z_len (by decide +kernel) (qa_cons (qe_ix (hu100 hr) (qe_ix (hu100 hr) (qv 0) qi (fun _ _ => rfl)) (qv 2) (fun _ _ => rfl)) qa_nil)) (nomark _))))) (qss_one (qs_ret qn)) qss_nil)
  (qss_one (qs_ret (qe_ix (hu100 hr) (qe_ix (hu100 hr) (qe_ix (hu100 hr) (qv 0) qi (fun _ _ => rfl)) (qv 2) (fun _ _ => rfl)) (qv 3) (fun _ _ => rfl))))))
/- can_be_done -/
theorem w_3 (T : Txt K mg tt) (hB : ∀ t ∈ tt, LamX.TabB base mg t.2.1 t.2.2) (ih : IH P w base T n) (cdv : Value) (A : Around) (outer : List Env) (s : Shared) (H : Hp) (E : XK) (hr : Room (4 * n + 3) (A.deeper (envOfC "can_be_done" (defScope s_3) s.heap.objs.size (T.f 3) cdv))) :
    PSs (cxOf CX0 P w K mg base N_3 "can_be_done" (defScope s_3) (T.f 3) cdv A outer s H E).nox (defBody s_3) (liftS ⟨K, w, tblOf tt⟩ (b_3 (sem fs n))) :=
  (qss_cons (qs_if (qt_cmp (dop_eq (hu100 hr)) (qe_ix (hu100 hr) (qv 1) qi (fun _ _ => rfl)) qs (nomark _)) (qss_one (qs_ret (qe_cmp dop_isnot (qe_call (sem_len (i := 1)) ih.o1 (rm4 hr) rfl T.m1 T.F1.kp T.b1 (qa_cons (qv 0) (qa_cons (qe_ix (hu100 hr) (qv 1) qi (fun _ _ => rfl)) qa_nil))) qn (nomark _)))) qss_nil)
  (qss_cons (qs_if (qt_cmp (dop_eq (hu100 hr)) (qe_ix (hu100 hr) (qv 1) qi (fun _ _ => rfl)) qs (nomark _)) (qss_one (qs_ret (qe_callB (dcall_all rfl) rfl T.z_all (by decide +kernel) (qa_cons (qe_lc [("promise", 2)] rfl sc_3.nd (qi_seq (qe_ix (hu100 hr) (qv 1) qi (fun _ _ => rfl))) (okb (by kernel_rfl)) (by decide) (fun _ _ _ _ _ => (qg_name (i := 2) sc_3.nd rfl (by first | exact Or.inl rfl | exact Or.inr rfl))) (fun _ _ _ _ _ => qts_nil) (fun _ _ _ _ _ => (qe_cmp dop_isnot (qe_call (sem_len (i := 1)) ih.o1 (rm4 hr) rfl T.m1 T.F1.kp T.b1 (qa_cons (qv 0) (qa_cons (qv 2) qa_nil))) qn (nomark _)))) qa_nil)))) qss_nil)
  (qss_cons (qs_if (qt_cmp (dop_eq (hu100 hr)) (qe_ix (hu100 hr) (qv 1) qi (fun _ _ => rfl)) qs (nomark _)) (qss_one (qs_ret (qe_callB (dcall_any rfl) rfl T.z_any (by decide +kernel) (qa_cons (qe_lc [("promise", 2)] rfl sc_3.nd (qi_seq (qe_ix (hu100 hr) (qv 1) qi (fun _ _ => rfl))) (okb (by kernel_rfl)) (by decide) (fun _ _ _ _ _ => (qg_name (i := 2) sc_3.nd rfl (by first | exact Or.inl rfl | exact Or.inr rfl))) (fun _ _ _ _ _ => qts_nil) (fun _ _ _ _ _ => (qe_cmp dop_isnot (qe_call (sem_len (i := 1)) ih.o1 (rm4 hr) rfl T.m1 T.F1.kp T.b1 (qa_cons (qv 0) (qa_cons (qv 2) qa_nil))) qn (nomark _)))) qa_nil)))) qss_nil)
  (qss_one (qs_ret qb)))))
/- ready_tasks -/
theorem w_4 (T : Txt K mg tt) (hB : ∀ t ∈ tt, LamX.TabB base mg t.2.1 t.2.2) (ih : IH P w base T n) (cdv : Value) (A : Around) (outer : List Env) (s : Shared) (H : Hp) (E : XK) (hr : Room (4 * n + 3) (A.deeper (envOfC "ready_tasks" (defScope s_4) s.heap.objs.size (T.f 4) cdv))) :
    PSs (cxOf CX0 P w K mg base N_4 "ready_tasks" (defScope s_4) (T.f 4) cdv A outer s H E).nox (defBody s_4) (liftS ⟨K, w, tblOf tt⟩ (b_4 (sem fs n))) :=
  (qss_cons (qs_set (i := 2) sc_4.nd rfl (by first | exact Or.inl rfl | exact Or.inr rfl) (qe_lst qa_nil))
  (qss_cons (qs_for PassesOwn.never rfl (qi_range1 rfl T.z_range (qa_cons (qe_callB dcall_len rfl T.z_len (by decide +kernel) (qa_cons (qe_ix (hu100 hr) (qv 0) qi (fun _ _ => rfl)) qa_nil)) qa_nil)) (qg_name (i := 3) sc_4.nd rfl (by first | exact Or.inl rfl | exact Or.inr rfl)) (qss_cons (qs_set (i := 4) sc_4.nd rfl (by first | exact Or.inl rfl | exact Or.inr rfl) (qe_call (sem_len (i := 2)) ih.o2 (rm4 hr) rfl T.m2 T.F2.kp T.b2 (qa_cons (qv 0) (qa_cons (qv 1) (qa_cons (qv 3) qa_nil)))))
    (qss_one (qs_if (qt_w (qw_and (qt_cmp dop_isnot (qv 4) qn (nomark _)) (qw_and1 (qt_val (qe_call (sem_len (i := 3)) ih.o3 (rm4 hr) rfl T.m3 T.F3.kp T.b3 (qa_cons (qe_ix (hu100 hr) (qv 1) qi (fun _ _ => rfl)) (qa_cons (qv 4) qa_nil))))))) (qss_one (qs_expr (qe_bm PySem.F.plainAttrs_list PySem.F.slot_list_append PySem.F.type_list_append okLst_ty dmt_append (qv 2) (qa_cons (qv 3) qa_nil)))) qss_nil))))
  (qss_one (qs_ret (qe_callTy dcall_tuple rfl T.z_tuple (by decide +kernel) (qa_cons (qv 2) qa_nil))))))
/- value_kept_by -/
theorem w_5 (T : Txt K mg tt) (hB : ∀ t ∈ tt, LamX.TabB base mg t.2.1 t.2.2) (ih : IH P w base T n) (cdv : Value) (A : Around) (outer : List Env) (s : Shared) (H : Hp) (E : XK) (hr : Room (4 * n + 3) (A.deeper (envOfC "value_kept_by" (defScope s_5) s.heap.objs.size (T.f 5) cdv))) :
    PSs (cxOf CX0 P w K mg base N_5 "value_kept_by" (defScope s_5) (T.f 5) cdv A outer s H E).nox (defBody s_5) (liftS ⟨K, w, tblOf tt⟩ (b_5 (sem fs n))) :=
  (qss_cons (qs_if (qt_cmp (dop_eq (hu100 hr)) (qe_ix (hu100 hr) (qv 1) qi (fun _ _ => rfl)) qs (nomark _)) (qss_one (qs_ret (qe_op dop_add (qe_ix (hu100 hr) (qv 1) qi (fun _ _ => rfl)) (qe_callB (dcall_sum rfl) rfl T.z_sum (by decide +kernel) (qa_cons (qe_lc [("promise", 2)] rfl sc_5.nd (qi_seq (qe_ix (hu100 hr) (qv 1) qi (fun _ _ => rfl))) (okb (by kernel_rfl)) (by decide) (fun _ _ _ _ _ => (qg_name (i := 2) sc_5.nd rfl (by first | exact Or.inl rfl | exact Or.inr rfl))) (fun _ _ _ _ _ => qts_nil) (fun _ _ _ _ _ => (qe_call (sem_len (i := 1)) ih.o1 (rm4 hr) rfl T.m1 T.F1.kp T.b1 (qa_cons (qv 0) (qa_cons (qv 2) qa_nil))))) qa_nil))))) qss_nil)
  (qss_cons (qs_for PassesOwn.never rfl (qi_seq (qv 0)) (qg_tup rfl (qgs_cons (qg_name (i := 2) sc_5.nd rfl (by first | exact Or.inl rfl | exact Or.inr rfl)) (qgs_cons (qg_name (i := 3) sc_5.nd rfl (by first | exact Or.inl rfl | exact Or.inr rfl)) qgs_nil))) (qss_one (qs_if (qt_cmp (dop_in (hu100 hr)) (qv 2) (qe_ix (hu100 hr) (qv 1) qi (fun _ _ => rfl)) (by with_unfolding_all rfl)) (qss_one (qs_ret (qv 3))) qss_nil)))
  (qss_one (qs_ret qn))))
/- stepped -/
theorem w_6 (T : Txt K mg tt) (hB : ∀ t ∈ tt, LamX.TabB base mg t.2.1 t.2.2) (ih : IH P w base T n) (cdv : Value) (A : Around) (outer : List Env) (s : Shared) (H : Hp) (E : XK) (hr : Room (4 * n + 3) (A.deeper (envOfC "stepped" (defScope s_6) s.heap.objs.size (T.f 6) cdv))) :
    PSs (cxOf CX0 P w K mg base N_6 "stepped" (defScope s_6) (T.f 6) cdv A outer s H E).nox (defBody s_6) (liftS ⟨K, w, tblOf tt⟩ (b_6 (sem fs n))) :=
  (qss_cons (qs_asg (qv 1) (qg_tup rfl (qgs_cons (qg_name (i := 3) sc_6.nd rfl (by first | exact Or.inl rfl | exact Or.inr rfl)) (qgs_cons (qg_name (i := 4) sc_6.nd rfl (by first | exact Or.inl rfl | exact Or.inr rfl)) qgs_nil))))
  (qss_cons (qs_set (i := 5) sc_6.nd rfl (by first | exact Or.inl rfl | exact Or.inr rfl) (qe_call (sem_len (i := 2)) ih.o2 (rm4 hr) rfl T.m2 T.F2.kp T.b2 (qa_cons (qv 0) (qa_cons (qv 1) (qa_cons (qv 2) qa_nil)))))
  (qss_cons (qs_set (i := 6) sc_6.nd rfl (by first | exact Or.inl rfl | exact Or.inr rfl) (qe_callTy (dcall_list rfl) rfl T.z_list (by decide +kernel) (qa_cons (qv 3) qa_nil)))
  (qss_cons (qs_asg (qe_op dop_add (qe_ix (hu100 hr) (qv 3) (qv 2) (fun _ _ => rfl)) qi) (qg_sub (qv 6) (qv 2) (dset_ix (hu100 hr))))
  (qss_cons (qs_if (qt_cmp (dop_eq (hu100 hr)) (qe_ix (hu100 hr) (qv 5) qi (fun _ _ => rfl)) qs (nomark _)) (qss_one (qs_if (qt_cmp dop_is (qe_ix (hu100 hr) (qv 3) (qe_ix (hu100 hr) (qv 5) qi (fun _ _ => rfl)) (fun _ _ => rfl)) qn (nomark _)) (qss_one (qs_asg qi (qg_sub (qv 6) (qe_ix (hu100 hr) (qv 5) qi (fun _ _ => rfl)) (dset_ix (hu100 hr))))) qss_nil)) (qss_one (qs_if (qt_w (qw_and (qt_cmp (dop_ne (hu100 hr)) (qe_ix (hu100 hr) (qv 5) qi (fun _ _ => rfl)) qs (nomark _)) (qw_and1 (qt_cmp dop_is (qe_call (sem_len (i := 1)) ih.o1 (rm4 hr) rfl T.m1 T.F1.kp T.b1 (qa_cons (qv 4) (qa_cons (qe_ix (hu100 hr) (qv 5) qi (fun _ _ => rfl)) qa_nil))) qn (nomark _))))) (qss_one (qs_set (i := 4) sc_6.nd rfl (by first | exact Or.inl rfl | exact Or.inr rfl) (qe_op dop_add (qv 4) (qe_tup (qa_cons (qe_tup (qa_cons (qe_ix (hu100 hr) (qv 5) qi (fun _ _ => rfl)) (qa_cons (qe_call (sem_len (i := 5)) ih.o5 (rm4 hr) rfl T.m5 T.F5.kp T.b5 (qa_cons (qv 4) (qa_cons (qv 5) qa_nil))) qa_nil))) qa_nil))))) qss_nil)))
  (qss_one (qs_ret (qe_tup (qa_cons (qe_callTy dcall_tuple rfl T.z_tuple (by decide +kernel) (qa_cons (qv 6) qa_nil)) (qa_cons (qv 4) qa_nil))))))))))
/- stuck_at -/
theorem w_7 (T : Txt K mg tt) (hB : ∀ t ∈ tt, LamX.TabB base mg t.2.1 t.2.2) (ih : IH P w base T n) (cdv : Value) (A : Around) (outer : List Env) (s : Shared) (H : Hp) (E : XK) (hr : Room (4 * n + 3) (A.deeper (envOfC "stuck_at" (defScope s_7) s.heap.objs.size (T.f 7) cdv))) :
    PSs (cxOf CX0 P w K mg base N_7 "stuck_at" (defScope s_7) (T.f 7) cdv A outer s H E).nox (defBody s_7) (liftS ⟨K, w, tblOf tt⟩ (b_7 (sem fs n))) :=
  (qss_one (qs_ret (qe_callTy dcall_tuple rfl T.z_tuple (by decide +kernel) (qa_cons (qe_lc [("task", 2)] rfl sc_7.nd (qi_range1 rfl T.z_range (qa_cons (qe_callB dcall_len rfl T.z_len (by decide +kernel) (qa_cons (qe_ix (hu100 hr) (qv 0) qi (fun _ _ => rfl)) qa_nil)) qa_nil)) (okb (by kernel_rfl)) (by decide) (fun _ _ _ _ _ => (qg_name (i := 2) sc_7.nd rfl (by first | exact Or.inl rfl | exact Or.inr rfl))) (fun _ _ _ _ _ => (qts_one (qt_cmp dop_isnot (qe_call (sem_len (i := 2)) ih.o2 (rm4 hr) rfl T.m2 T.F2.kp T.b2 (qa_cons (qv 0) (qa_cons (qv 1) (qa_cons (qv 2) qa_nil)))) qn (nomark _)))) (fun _ _ _ _ _ => (qv 2))) qa_nil))))
/- values_at -/
theorem w_8 (T : Txt K mg tt) (hB : ∀ t ∈ tt, LamX.TabB base mg t.2.1 t.2.2) (ih : IH P w base T n) (cdv : Value) (A : Around) (outer : List Env) (s : Shared) (H : Hp) (E : XK) (hr : Room (4 * n + 3) (A.deeper (envOfC "values_at" (defScope s_8) s.heap.objs.size (T.f 8) cdv))) :
    PSs (cxOf CX0 P w K mg base N_8 "values_at" (defScope s_8) (T.f 8) cdv A outer s H E).nox (defBody s_8) (liftS ⟨K, w, tblOf tt⟩ (b_8 (sem fs n))) :=
  (qss_one (qs_ret (qe_callTy dcall_tuple rfl T.z_tuple (by decide +kernel) (qa_cons (qe_lc [("promise", 2)] rfl sc_8.nd (qi_range1 rfl T.z_range (qa_cons (qe_ix (hu100 hr) (qv 0) qi (fun _ _ => rfl)) qa_nil)) (okb (by kernel_rfl)) (by decide) (fun _ _ _ _ _ => (qg_name (i := 2) sc_8.nd rfl (by first | exact Or.inl rfl | exact Or.inr rfl))) (fun _ _ _ _ _ => qts_nil) (fun _ _ _ _ _ => (qe_call (sem_len (i := 1)) ih.o1 (rm4 hr) rfl T.m1 T.F1.kp T.b1 (qa_cons (qe_ix (hu100 hr) (qv 1) qi (fun _ _ => rfl)) (qa_cons (qv 2) qa_nil))))) qa_nil))))
/- ending_at -/
theorem w_9 (T : Txt K mg tt) (hB : ∀ t ∈ tt, LamX.TabB base mg t.2.1 t.2.2) (ih : IH P w base T n) (cdv : Value) (A : Around) (outer : List Env) (s : Shared) (H : Hp) (E : XK) (hr : Room (4 * n + 3) (A.deeper (envOfC "ending_at" (defScope s_9) s.heap.objs.size (T.f 9) cdv))) :
    PSs (cxOf CX0 P w K mg base N_9 "ending_at" (defScope s_9) (T.f 9) cdv A outer s H E).nox (defBody s_9) (liftS ⟨K, w, tblOf tt⟩ (b_9 (sem fs n))) :=
  (qss_one (qs_ret (qe_tup (qa_cons (qe_call (sem_len (i := 8)) ih.o8 (rm4 hr) rfl T.m8 T.F8.kp T.b8 (qa_cons (qv 0) (qa_cons (qv 1) qa_nil))) (qa_cons (qe_call (sem_len (i := 7)) ih.o7 (rm4 hr) rfl T.m7 T.F7.kp T.b7 (qa_cons (qv 0) (qa_cons (qv 1) qa_nil))) qa_nil)))))
/- reached -/
theorem w_10 (T : Txt K mg tt) (hB : ∀ t ∈ tt, LamX.TabB base mg t.2.1 t.2.2) (ih : IH P w base T n) (cdv : Value) (A : Around) (outer : List Env) (s : Shared) (H : Hp) (E : XK) (hr : Room (4 * n + 3) (A.deeper (envOfC "reached" (defScope s_10) s.heap.objs.size (T.f 10) cdv))) :
    PSs (cxOf CX0 P w K mg base N_10 "reached" (defScope s_10) (T.f 10) cdv A outer s H E).nox (defBody s_10) (liftS ⟨K, w, tblOf tt⟩ (b_10 (sem fs n))) :=
  (qss_cons (qs_set (i := 1) sc_10.nd rfl (by first | exact Or.inl rfl | exact Or.inr rfl) (qe_call (sem_len (i := 0)) ih.o0 (rm4 hr) rfl T.m0 T.F0.kp T.b0 (qa_cons (qv 0) qa_nil)))
  (qss_cons (qs_set (i := 2) sc_10.nd rfl (by first | exact Or.inl rfl | exact Or.inr rfl) (qe_dct1 false (hu100 hr) (qv 1) qn))
  (qss_cons (qs_set (i := 3) sc_10.nd rfl (by first | exact Or.inl rfl | exact Or.inr rfl) (qe_lst (qa_cons (qv 1) qa_nil)))
  (qss_cons (qs_set (i := 4) sc_10.nd rfl (by first | exact Or.inl rfl | exact Or.inr rfl) qi)
  (qss_cons (qs_while PassesOwn.never (qt_cmp (dop_cmp (hu100 hr) .lt) (qv 4) (qe_callB dcall_len rfl T.z_len (by decide +kernel) (qa_cons (qv 3) qa_nil)) (nomark _)) (qss_cons (qs_set (i := 5) sc_10.nd rfl (by first | exact Or.inl rfl | exact Or.inr rfl) (qe_ix (hu100 hr) (qv 3) (qv 4) (fun _ _ => rfl)))
    (qss_cons (qs_aug (i := 4) sc_10.nd rfl (by first | exact Or.inl rfl | exact Or.inr rfl) qi dip_add)
    (qss_one (qs_for PassesOwn.never rfl (qi_seq (qe_call (sem_len (i := 4)) ih.o4 (rm4 hr) rfl T.m4 T.F4.kp T.b4 (qa_cons (qv 0) (qa_cons (qv 5) qa_nil)))) (qg_name (i := 6) sc_10.nd rfl (by first | exact Or.inl rfl | exact Or.inr rfl)) (qss_cons (qs_set (i := 7) sc_10.nd rfl (by first | exact Or.inl rfl | exact Or.inr rfl) (qe_call (sem_len (i := 6)) ih.o6 (rm4 hr) rfl T.m6 T.F6.kp T.b6 (qa_cons (qv 0) (qa_cons (qv 5) (qa_cons (qv 6) qa_nil)))))
      (qss_one (qs_if (qt_cmp (dop_notin (hu100 hr)) (qv 7) (qv 2) (by with_unfolding_all rfl)) (qss_cons (qs_asg (qe_tup (qa_cons (qv 5) (qa_cons (qv 6) qa_nil))) (qg_sub (qv 2) (qv 7) (dset_ix (hu100 hr))))
        (qss_one (qs_expr (qe_bm PySem.F.plainAttrs_list PySem.F.slot_list_append PySem.F.type_list_append okLst_ty dmt_append (qv 3) (qa_cons (qv 7) qa_nil))))) qss_nil))))))))
  (qss_one (qs_ret (qv 2))))))))
/- way_to -/
theorem w_11 (T : Txt K mg tt) (hB : ∀ t ∈ tt, LamX.TabB base mg t.2.1 t.2.2) (ih : IH P w base T n) (cdv : Value) (A : Around) (outer : List Env) (s : Shared) (H : Hp) (E : XK) (hr : Room (4 * n + 3) (A.deeper (envOfC "way_to" (defScope s_11) s.heap.objs.size (T.f 11) cdv))) :
    PSs (cxOf CX0 P w K mg base N_11 "way_to" (defScope s_11) (T.f 11) cdv A outer s H E).nox (defBody s_11) (liftS ⟨K, w, tblOf tt⟩ (b_11 (sem fs n))) :=
  (qss_cons (qs_set (i := 2) sc_11.nd rfl (by first | exact Or.inl rfl | exact Or.inr rfl) (qe_lst qa_nil))
  (qss_cons (qs_set (i := 3) sc_11.nd rfl (by first | exact Or.inl rfl | exact Or.inr rfl) (qe_ix (hu100 hr) (qv 0) (qv 1) (fun _ _ => rfl)))
  (qss_cons (qs_while PassesOwn.never (qt_cmp dop_isnot (qv 3) qn (nomark _)) (qss_cons (qs_expr (qe_bm PySem.F.plainAttrs_list PySem.F.slot_list_append PySem.F.type_list_append okLst_ty dmt_append (qv 2) (qa_cons (qe_ix (hu100 hr) (qv 3) qi (fun _ _ => rfl)) qa_nil)))
    (qss_one (qs_set (i := 3) sc_11.nd rfl (by first | exact Or.inl rfl | exact Or.inr rfl) (qe_ix (hu100 hr) (qv 0) (qe_ix (hu100 hr) (qv 3) qi (fun _ _ => rfl)) (fun _ _ => rfl))))))
  (qss_one (qs_ret (qe_callTy dcall_tuple rfl T.z_tuple (by decide +kernel) (qa_cons (qe_revS (qv 2)) qa_nil)))))))
/- full_states -/
theorem w_12 (T : Txt K mg tt) (hB : ∀ t ∈ tt, LamX.TabB base mg t.2.1 t.2.2) (ih : IH P w base T n) (cdv : Value) (A : Around) (outer : List Env) (s : Shared) (H : Hp) (E : XK) (hr : Room (4 * n + 3) (A.deeper (envOfC "full_states" (defScope s_12) s.heap.objs.size (T.f 12) cdv))) :
    PSs (cxOf CX0 P w K mg base N_12 "full_states" (defScope s_12) (T.f 12) cdv A outer s H E).nox (defBody s_12) (liftS ⟨K, w, tblOf tt⟩ (b_12 (sem fs n))) :=
  (qss_one (qs_ret (qe_lc [("state", 2)] rfl sc_12.nd (qi_seq (qv 1)) (okb (by kernel_rfl)) (by decide) (fun _ _ _ _ _ => (qg_name (i := 2) sc_12.nd rfl (by first | exact Or.inl rfl | exact Or.inr rfl))) (fun _ _ _ _ _ => (qts_one (qt_cmp (dop_eq (hu100 hr)) (qe_callB dcall_len rfl T.z_len (by decide +kernel) (qa_cons (qe_call (sem_len (i := 4)) ih.o4 (rm4 hr) rfl T.m4 T.F4.kp T.b4 (qa_cons (qv 0) (qa_cons (qv 2) qa_nil))) qa_nil)) qi (nomark _)))) (fun _ _ _ _ _ => (qv 2)))))
/- ending_key -/
theorem w_13 (T : Txt K mg tt) (hB : ∀ t ∈ tt, LamX.TabB base mg t.2.1 t.2.2) (ih : IH P w base T n) (cdv : Value) (A : Around) (outer : List Env) (s : Shared) (H : Hp) (E : XK) (hr : Room (4 * n + 3) (A.deeper (envOfC "ending_key" (defScope s_13) s.heap.objs.size (T.f 13) cdv))) :
    PSs (cxOf CX0 P w K mg base N_13 "ending_key" (defScope s_13) (T.f 13) cdv A outer s H E).nox (defBody s_13) (liftS ⟨K, w, tblOf tt⟩ (b_13 (sem fs n))) :=
  (qss_cons (qs_asg (qv 0) (qg_tup rfl (qgs_cons (qg_name (i := 1) sc_13.nd rfl (by first | exact Or.inl rfl | exact Or.inr rfl)) (qgs_cons (qg_name (i := 2) sc_13.nd rfl (by first | exact Or.inl rfl | exact Or.inr rfl)) qgs_nil))))
  (qss_one (qs_ret (qe_tup (qa_cons (qe_callTy dcall_tuple rfl T.z_tuple (by decide +kernel) (qa_cons (qe_lc [("value", 3)] rfl sc_13.nd (qi_seq (qv 1)) (okb (by kernel_rfl)) (by decide) (fun _ _ _ _ _ => (qg_name (i := 3) sc_13.nd rfl (by first | exact Or.inl rfl | exact Or.inr rfl))) (fun _ _ _ _ _ => qts_nil) (fun _ _ _ _ _ => (qe_if (qt_cmp dop_is (qv 3) qn (nomark _)) (qe_tup (qa_cons qi (qa_cons qi qa_nil))) (qe_tup (qa_cons qi (qa_cons (qv 3) qa_nil)))))) qa_nil)) (qa_cons (qv 2) qa_nil))))))
/- first_runs -/
theorem w_14 (T : Txt K mg tt) (hB : ∀ t ∈ tt, LamX.TabB base mg t.2.1 t.2.2) (ih : IH P w base T n) (cdv : Value) (A : Around) (outer : List Env) (s : Shared) (H : Hp) (E : XK) (hr : Room (4 * n + 3) (A.deeper (envOfC "first_runs" (defScope s_14) s.heap.objs.size (T.f 14) cdv))) :
    PSs (cxOf CX0 P w K mg base N_14 "first_runs" (defScope s_14) (T.f 14) cdv A outer s H E).nox (defBody s_14) (liftS ⟨K, w, tblOf tt⟩ (b_14 (sem fs n))) :=
  (qss_cons (qs_set (i := 1) sc_14.nd rfl (by first | exact Or.inl rfl | exact Or.inr rfl) (qe_call (sem_len (i := 10)) ih.o10 (rm4 hr) rfl T.m10 T.F10.kp T.b10 (qa_cons (qv 0) qa_nil)))
  (qss_cons (qs_set (i := 2) sc_14.nd rfl (by first | exact Or.inl rfl | exact Or.inr rfl) qe_dct0)
  (qss_cons (qs_for PassesOwn.never rfl (qi_seq (qe_call (sem_len (i := 12)) ih.o12 (rm4 hr) rfl T.m12 T.F12.kp T.b12 (qa_cons (qv 0) (qa_cons (qe_callTy (dcall_list rfl) rfl T.z_list (by decide +kernel) (qa_cons (qv 1) qa_nil)) qa_nil)))) (qg_name (i := 3) sc_14.nd rfl (by first | exact Or.inl rfl | exact Or.inr rfl)) (qss_cons (qs_set (i := 4) sc_14.nd rfl (by first | exact Or.inl rfl | exact Or.inr rfl) (qe_call (sem_len (i := 9)) ih.o9 (rm4 hr) rfl T.m9 T.F9.kp T.b9 (qa_cons (qv 0) (qa_cons (qv 3) qa_nil))))
    (qss_one (qs_if (qt_cmp (dop_notin (hu100 hr)) (qv 4) (qv 2) (by with_unfolding_all rfl)) (qss_one (qs_asg (qe_call (sem_len (i := 11)) ih.o11 (rm4 hr) rfl T.m11 T.F11.kp T.b11 (qa_cons (qv 1) (qa_cons (qv 3) qa_nil))) (qg_sub (qv 2) (qv 4) (dset_ix (hu100 hr))))) qss_nil))))
  (qss_one (qs_ret (qv 2))))))
/- first_difference -/
theorem w_15 (T : Txt K mg tt) (hB : ∀ t ∈ tt, LamX.TabB base mg t.2.1 t.2.2) (ih : IH P w base T n) (A : Around) (outer : List Env) (s : Shared) (H : Hp) (E : XK) (hr : Room (4 * n + 3) (A.deeper (envOfC "first_difference" (defScope s_15) s.heap.objs.size (T.f 15) (.ref T.cc15)))) :
    PSs (cxOf CX0 P w K mg base N_15 "first_difference" (defScope s_15) (T.f 15) (.ref T.cc15) A outer s H E).nox (defBody s_15) (liftS ⟨K, w, tblOf tt⟩ (b_15 (sem fs n))) :=
  (qss_cons (qs_set (i := 2) sc_15.nd rfl (by first | exact Or.inl rfl | exact Or.inr rfl) (qe_call (sem_len (i := 14)) ih.o14 (rm4 hr) rfl T.m14 T.F14.kp T.b14 (qa_cons (qv 0) qa_nil)))
  (qss_cons (qs_set (i := 3) sc_15.nd rfl (by first | exact Or.inl rfl | exact Or.inr rfl) (qe_call (sem_len (i := 14)) ih.o14 (rm4 hr) rfl T.m14 T.F14.kp T.b14 (qa_cons (qv 1) qa_nil)))
  (qss_cons (qs_setLc (i := 4) [("outcome", 5), ("run", 6)] rfl sc_15.nd rfl rfl (sw_true rfl rfl rfl (by decide +kernel)) (qi_items (qv 2)) (okb (by kernel_rfl)) (by decide) (fun _ _ _ _ _ => (qg_tup rfl (qgs_cons (qg_name (i := 5) sc_15.nd rfl (by first | exact Or.inl rfl | exact Or.inr rfl)) (qgs_cons (qg_name (i := 6) sc_15.nd rfl (by first | exact Or.inl rfl | exact Or.inr rfl)) qgs_nil)))) (fun _ _ _ _ _ => (qts_one (qt_cmp (dop_notin (hu100 hr)) (qv 5) (qv 3) (by with_unfolding_all rfl)))) (fun _ _ _ _ _ => (qe_tup (qa_cons (qv 5) (qa_cons (qv 6) qa_nil)))))
  (qss_cons (qs_expr (qe_bm PySem.F.plainAttrs_list PySem.F.slot_list_extend PySem.F.type_list_extend okLst_ty dmt_extend (qv 4) (qa_cons (qe_lc [("outcome", 5), ("run", 6)] rfl sc_15.nd (qi_items (qv 3)) (okb (by kernel_rfl)) (by decide) (fun _ _ _ _ _ => (qg_tup rfl (qgs_cons (qg_name (i := 5) sc_15.nd rfl (by first | exact Or.inl rfl | exact Or.inr rfl)) (qgs_cons (qg_name (i := 6) sc_15.nd rfl (by first | exact Or.inl rfl | exact Or.inr rfl)) qgs_nil)))) (fun _ _ _ _ _ => (qts_one (qt_cmp (dop_notin (hu100 hr)) (qv 5) (qv 2) (by with_unfolding_all rfl)))) (fun _ _ _ _ _ => (qe_tup (qa_cons (qv 5) (qa_cons (qv 6) qa_nil))))) qa_nil)))
  (qss_cons (qs_if (qt_cmp (dop_eq (hu100 hr)) (qe_callB dcall_len rfl T.z_len (by decide +kernel) (qa_cons (qv 4) qa_nil)) qi (nomark _)) (qss_one (qs_ret qn)) qss_nil)
  (qss_one (qs_ret (qe_minK rfl (hu100 hr) (key_lam (N := ["pair"]) (fr := []) (js := []) (lamT_of hB T.t15 T.nd rfl) rfl hr (NdefX.nscope_by (by decide +kernel)) (by rfl) (by show NdefX.ndefB (defScope s_15) _ _ = true; decide +kernel) rfl (fun _ _ _ _ _ _ => rfl) (fun _ _ _ _ _ _ _ _ hr => (qe_call (sem_len (i := 13)) ih.o13 hr rfl T.m13 T.F13.kp T.b13 (qa_cons (qe_ix (hu100 hr) (qv 0) qi (fun _ _ => rfl)) qa_nil)))) rfl T.z_min (qv 4)))))))))
/- programs_alike -/
theorem w_16 (T : Txt K mg tt) (hB : ∀ t ∈ tt, LamX.TabB base mg t.2.1 t.2.2) (ih : IH P w base T n) (cdv : Value) (A : Around) (outer : List Env) (s : Shared) (H : Hp) (E : XK) (hr : Room (4 * n + 3) (A.deeper (envOfC "programs_alike" (defScope s_16) s.heap.objs.size (T.f 16) cdv))) :
    PSs (cxOf CX0 P w K mg base N_16 "programs_alike" (defScope s_16) (T.f 16) cdv A outer s H E).nox (defBody s_16) (liftS ⟨K, w, tblOf tt⟩ (b_16 (sem fs n))) :=
  (qss_one (qs_ret (qe_cmp dop_is (qe_call (sem_len (i := 15)) ih.o15 (rm4 hr) rfl T.m15 T.F15.kp T.b15 (qa_cons (qv 0) (qa_cons (qv 1) qa_nil))) qn (nomark _))))
/- _law_draws -/
theorem w_17 (T : Txt K mg tt) (hB : ∀ t ∈ tt, LamX.TabB base mg t.2.1 t.2.2) (ih : IH P w base T n) (cdv : Value) (A : Around) (outer : List Env) (s : Shared) (H : Hp) (E : XK) (hr : Room (4 * n + 3) (A.deeper (envOfC "_law_draws" (defScope s_17) s.heap.objs.size (T.f 17) cdv))) :
    PSs (cxOf CX0 P w K mg base N_17 "_law_draws" (defScope s_17) (T.f 17) cdv A outer s H E).nox (defBody s_17) (liftS ⟨K, w, tblOf tt⟩ (b_17 (sem fs n))) :=
  (qss_cons (qs_setLc (i := 2) [("cell", 3)] rfl sc_17.nd rfl rfl (sw_true rfl rfl rfl (by decide +kernel)) (qi_seq (qe_slice (qv 0) qo_none (qo_some qi))) (okb (by kernel_rfl)) (by decide) (fun _ _ _ _ _ => (qg_name (i := 3) sc_17.nd rfl (by first | exact Or.inl rfl | exact Or.inr rfl))) (fun _ _ _ _ _ => qts_nil) (fun _ _ _ _ _ => (qe_op dop_mod (qe_callTy dcall_int rfl T.z_int (by decide +kernel) (qa_cons (qv 3) qa_nil)) (qe_op dop_shl qi qi))))
  (qss_cons (qs_if (qt_cmp (dop_eq (hu100 hr)) (qe_callB dcall_len rfl T.z_len (by decide +kernel) (qa_cons (qv 2) qa_nil)) qi (nomark _)) (qss_one (qs_expr (qe_bm PySem.F.plainAttrs_list PySem.F.slot_list_append PySem.F.type_list_append okLst_ty dmt_append (qv 2) (qa_cons qi qa_nil)))) qss_nil)
  (qss_cons (qs_set (i := 4) sc_17.nd rfl (by first | exact Or.inl rfl | exact Or.inr rfl) (qe_callTy (dcall_list rfl) rfl T.z_list (by decide +kernel) (qa_cons (qv 2) qa_nil)))
  (qss_cons (qs_set (i := 5) sc_17.nd rfl (by first | exact Or.inl rfl | exact Or.inr rfl) (qe_lst qa_nil))
  (qss_cons (qs_for PassesOwn.never rfl (qi_range1 rfl T.z_range (qa_cons (qv 1) qa_nil)) (qg_name (i := 6) sc_17.nd rfl (by first | exact Or.inl rfl | exact Or.inr rfl)) (qss_cons (qs_set (i := 7) sc_17.nd rfl (by first | exact Or.inl rfl | exact Or.inr rfl) (qe_op dop_mod (qe_callTy dcall_int rfl T.z_int (by decide +kernel) (qa_cons (qv 6) qa_nil)) (qe_callB dcall_len rfl T.z_len (by decide +kernel) (qa_cons (qv 2) qa_nil))))
    (qss_one (qs_if (qt_w (qw_and (qt_cmp (dop_cmp (hu100 hr) .ge) (qe_ix (hu100 hr) (qv 2) (qv 7) (fun _ _ => rfl)) (qe_op dop_pow qi qi) (nomark _)) (qw_and1 (qt_cmp (dop_cmp (hu100 hr) .gt) (qe_ix (hu100 hr) (qv 4) (qv 7) (fun _ _ => rfl)) qi (nomark _))))) (qss_cons (qs_expr (qe_bm PySem.F.plainAttrs_list PySem.F.slot_list_append PySem.F.type_list_append okLst_ty dmt_append (qv 5) (qa_cons (qe_op dop_mod (qe_callTy dcall_int rfl T.z_int (by decide +kernel) (qa_cons (qe_ix (hu100 hr) (qv 4) (qv 7) (fun _ _ => rfl)) qa_nil)) qi) qa_nil)))
      (qss_one (qs_asg (qe_op dop_fdv (qe_ix (hu100 hr) (qv 4) (qv 7) (fun _ _ => rfl)) qi) (qg_sub (qv 4) (qv 7) (dset_ix (hu100 hr)))))) (qss_cons (qs_set (i := 8) sc_17.nd rfl (by first | exact Or.inl rfl | exact Or.inr rfl) (qe_op dop_mod (qe_callTy dcall_int rfl T.z_int (by decide +kernel) (qa_cons (qe_op dop_add (qe_op dop_add (qe_op dop_mul (qe_ix (hu100 hr) (qv 2) (qv 7) (fun _ _ => rfl)) qi) (qe_op dop_mul (qv 6) qi)) qi) qa_nil)) qi))
      (qss_one (qs_expr (qe_bm PySem.F.plainAttrs_list PySem.F.slot_list_append PySem.F.type_list_append okLst_ty dmt_append (qv 5) (qa_cons (qe_op dop_mod (qe_callTy dcall_int rfl T.z_int (by decide +kernel) (qa_cons (qe_op dop_add (qe_op dop_add (qe_op dop_mul (qv 8) (qv 8)) (qe_op dop_mul qi (qv 8))) (qv 6)) qa_nil)) qi) qa_nil)))))))))
  (qss_cons (qs_expr (qe_bm0 PySem.F.plainAttrs_list PySem.F.slot_list_reverse PySem.F.type_list_reverse okLst_ty dmt_reverse (qv 5)))
  (qss_one (qs_ret (qv 5)))))))))
/- _law_take -/
theorem w_18 (T : Txt K mg tt) (hB : ∀ t ∈ tt, LamX.TabB base mg t.2.1 t.2.2) (ih : IH P w base T n) (cdv : Value) (A : Around) (outer : List Env) (s : Shared) (H : Hp) (E : XK) (hr : Room (4 * n + 3) (A.deeper (envOfC "_law_take" (defScope s_18) s.heap.objs.size (T.f 18) cdv))) :
    PSs (cxOf CX0 P w K mg base N_18 "_law_take" (defScope s_18) (T.f 18) cdv A outer s H E).nox (defBody s_18) (liftS ⟨K, w, tblOf tt⟩ (b_18 (sem fs n))) :=
  (qss_cons (qs_if (qt_cmp (dop_eq (hu100 hr)) (qe_callB dcall_len rfl T.z_len (by decide +kernel) (qa_cons (qv 0) qa_nil)) qi (nomark _)) (qss_one (qs_ret qi)) qss_nil)
  (qss_one (qs_ret (qe_op dop_mod (qe_callTy dcall_int rfl T.z_int (by decide +kernel) (qa_cons (qe_bm0 PySem.F.plainAttrs_list PySem.F.slot_list_pop PySem.F.type_list_pop okLst_ty dmt_pop (qv 0)) qa_nil)) (qv 1)))))
/- _law_pick -/
theorem w_19 (T : Txt K mg tt) (hB : ∀ t ∈ tt, LamX.TabB base mg t.2.1 t.2.2) (ih : IH P w base T n) (cdv : Value) (A : Around) (outer : List Env) (s : Shared) (H : Hp) (E : XK) (hr : Room (4 * n + 3) (A.deeper (envOfC "_law_pick" (defScope s_19) s.heap.objs.size (T.f 19) cdv))) :
    PSs (cxOf CX0 P w K mg base N_19 "_law_pick" (defScope s_19) (T.f 19) cdv A outer s H E).nox (defBody s_19) (liftS ⟨K, w, tblOf tt⟩ (b_19 (sem fs n))) :=
  (qss_one (qs_ret (qe_ix (hu100 hr) (qv 1) (qe_call (sem_len (i := 18)) ih.o18 (rm4 hr) rfl T.m18 T.F18.kp T.b18 (qa_cons (qv 0) (qa_cons (qe_callB dcall_len rfl T.z_len (by decide +kernel) (qa_cons (qv 1) qa_nil)) qa_nil))) (fun _ _ => rfl))))
/- _law_same -/
theorem w_20 (T : Txt K mg tt) (hB : ∀ t ∈ tt, LamX.TabB base mg t.2.1 t.2.2) (ih : IH P w base T n) (cdv : Value) (A : Around) (outer : List Env) (s : Shared) (H : Hp) (E : XK) (hr : Room (4 * n + 3) (A.deeper (envOfC "_law_same" (defScope s_20) s.heap.objs.size (T.f 20) cdv))) :
    PSs (cxOf CX0 P w K mg base N_20 "_law_same" (defScope s_20) (T.f 20) cdv A outer s H E).nox (defBody s_20) (liftS ⟨K, w, tblOf tt⟩ (b_20 (sem fs n))) :=
  (qss_cons (qs_if (qt_val (qe_callB dcall_isi rfl T.z_isinstance (by decide +kernel) (qa_cons (qv 1) (qa_cons (qe_tup (qa_cons (qe_ty rfl T.z_tuple (by decide +kernel)) (qa_cons (qe_ty rfl T.z_list (by decide +kernel)) qa_nil))) qa_nil)))) (qss_cons (qs_if (qt_w (qw_or (qt_cmp (dop_ne (hu100 hr)) (qe_callB dcall_isi rfl T.z_isinstance (by decide +kernel) (qa_cons (qv 0) (qa_cons (qe_ty rfl T.z_tuple (by decide +kernel)) qa_nil))) (qe_callB dcall_isi rfl T.z_isinstance (by decide +kernel) (qa_cons (qv 1) (qa_cons (qe_ty rfl T.z_tuple (by decide +kernel)) qa_nil))) (nomark _)) (qw_or1 (qt_cmp (dop_ne (hu100 hr)) (qe_callB dcall_isi rfl T.z_isinstance (by decide +kernel) (qa_cons (qv 0) (qa_cons (qe_ty rfl T.z_list (by decide +kernel)) qa_nil))) (qe_callB dcall_isi rfl T.z_isinstance (by decide +kernel) (qa_cons (qv 1) (qa_cons (qe_ty rfl T.z_list (by decide +kernel)) qa_nil))) (nomark _))))) (qss_one (qs_ret qb)) qss_nil)
    (qss_cons (qs_if (qt_cmp (dop_ne (hu100 hr)) (qe_callB dcall_len rfl T.z_len (by decide +kernel) (qa_cons (qv 0) qa_nil)) (qe_callB dcall_len rfl T.z_len (by decide +kernel) (qa_cons (qv 1) qa_nil)) (nomark _)) (qss_one (qs_ret qb)) qss_nil)
    (qss_one (qs_ret (qe_cmp (dop_notin (hu100 hr)) qb (qe_lc [("k", 2)] rfl sc_20.nd (qi_range1 rfl T.z_range (qa_cons (qe_callB dcall_len rfl T.z_len (by decide +kernel) (qa_cons (qv 1) qa_nil)) qa_nil)) (okb (by kernel_rfl)) (by decide) (fun _ _ _ _ _ => (qg_name (i := 2) sc_20.nd rfl (by first | exact Or.inl rfl | exact Or.inr rfl))) (fun _ _ _ _ _ => qts_nil) (fun _ _ _ _ _ => (qe_call (sem_len (i := 20)) ih.o20 (rm4 hr) rfl T.m20 T.F20.kp T.b20 (qa_cons (qe_ix (hu100 hr) (qv 0) (qv 2) (fun _ _ => rfl)) (qa_cons (qe_ix (hu100 hr) (qv 1) (qv 2) (fun _ _ => rfl)) qa_nil))))) (by with_unfolding_all rfl)))))) qss_nil)
  (qss_cons (qs_if (qt_w (qw_or (qt_cmp (dop_ne (hu100 hr)) (qe_callB dcall_isi rfl T.z_isinstance (by decide +kernel) (qa_cons (qv 0) (qa_cons (qe_ty rfl T.z_bool (by decide +kernel)) qa_nil))) (qe_callB dcall_isi rfl T.z_isinstance (by decide +kernel) (qa_cons (qv 1) (qa_cons (qe_ty rfl T.z_bool (by decide +kernel)) qa_nil))) (nomark _)) (qw_or1 (qt_cmp (dop_ne (hu100 hr)) (qe_callB dcall_isi rfl T.z_isinstance (by decide +kernel) (qa_cons (qv 0) (qa_cons (qe_ty rfl T.z_int (by decide +kernel)) qa_nil))) (qe_callB dcall_isi rfl T.z_isinstance (by decide +kernel) (qa_cons (qv 1) (qa_cons (qe_ty rfl T.z_int (by decide +kernel)) qa_nil))) (nomark _))))) (qss_one (qs_ret qb)) qss_nil)
  (qss_cons (qs_if (qt_w (qw_or (qt_cmp (dop_ne (hu100 hr)) (qe_callB dcall_isi rfl T.z_isinstance (by decide +kernel) (qa_cons (qv 0) (qa_cons (qe_ty rfl T.z_str (by decide +kernel)) qa_nil))) (qe_callB dcall_isi rfl T.z_isinstance (by decide +kernel) (qa_cons (qv 1) (qa_cons (qe_ty rfl T.z_str (by decide +kernel)) qa_nil))) (nomark _)) (qw_or1 (qt_cmp (dop_ne (hu100 hr)) (qe_cmp dop_is (qv 0) qn (nomark _)) (qe_cmp dop_is (qv 1) qn (nomark _)) (nomark _))))) (qss_one (qs_ret qb)) qss_nil)
  (qss_one (qs_ret (qe_cmp (dop_eq (hu100 hr)) (qv 0) (qv 1) (nomark _)))))))
/- _law_shuffled -/
theorem w_21 (T : Txt K mg tt) (hB : ∀ t ∈ tt, LamX.TabB base mg t.2.1 t.2.2) (ih : IH P w base T n) (cdv : Value) (A : Around) (outer : List Env) (s : Shared) (H : Hp) (E : XK) (hr : Room (4 * n + 3) (A.deeper (envOfC "_law_shuffled" (defScope s_21) s.heap.objs.size (T.f 21) cdv))) :
    PSs (cxOf CX0 P w K mg base N_21 "_law_shuffled" (defScope s_21) (T.f 21) cdv A outer s H E).nox (defBody s_21) (liftS ⟨K, w, tblOf tt⟩ (b_21 (sem fs n))) :=
  (qss_cons (qs_set (i := 2) sc_21.nd rfl (by first | exact Or.inl rfl | exact Or.inr rfl) (qe_callTy (dcall_list rfl) rfl T.z_list (by decide +kernel) (qa_cons (qv 1) qa_nil)))
  (qss_cons (qs_set (i := 3) sc_21.nd rfl (by first | exact Or.inl rfl | exact Or.inr rfl) (qe_lst qa_nil))
  (qss_cons (qs_for PassesOwn.never rfl (qi_range1 rfl T.z_range (qa_cons (qe_callB dcall_len rfl T.z_len (by decide +kernel) (qa_cons (qv 2) qa_nil)) qa_nil)) (qg_name (i := 4) sc_21.nd rfl (by first | exact Or.inl rfl | exact Or.inr rfl)) (qss_one (qs_expr (qe_bm PySem.F.plainAttrs_list PySem.F.slot_list_append PySem.F.type_list_append okLst_ty dmt_append (qv 3) (qa_cons (qe_bm PySem.F.plainAttrs_list PySem.F.slot_list_pop PySem.F.type_list_pop okLst_ty dmt_popAt (qv 2) (qa_cons (qe_call (sem_len (i := 18)) ih.o18 (rm4 hr) rfl T.m18 T.F18.kp T.b18 (qa_cons (qv 0) (qa_cons (qe_callB dcall_len rfl T.z_len (by decide +kernel) (qa_cons (qv 2) qa_nil)) qa_nil))) qa_nil)) qa_nil)))))
  (qss_one (qs_ret (qv 3))))))
/- _law_some_of -/
theorem w_22 (T : Txt K mg tt) (hB : ∀ t ∈ tt, LamX.TabB base mg t.2.1 t.2.2) (ih : IH P w base T n) (cdv : Value) (A : Around) (outer : List Env) (s : Shared) (H : Hp) (E : XK) (hr : Room (4 * n + 3) (A.deeper (envOfC "_law_some_of" (defScope s_22) s.heap.objs.size (T.f 22) cdv))) :
    PSs (cxOf CX0 P w K mg base N_22 "_law_some_of" (defScope s_22) (T.f 22) cdv A outer s H E).nox (defBody s_22) (liftS ⟨K, w, tblOf tt⟩ (b_22 (sem fs n))) :=
  (qss_cons (qs_set (i := 3) sc_22.nd rfl (by first | exact Or.inl rfl | exact Or.inr rfl) (qe_lst qa_nil))
  (qss_cons (qs_for PassesOwn.never rfl (qi_range1 rfl T.z_range (qa_cons (qe_op dop_add qi (qe_call (sem_len (i := 18)) ih.o18 (rm4 hr) rfl T.m18 T.F18.kp T.b18 (qa_cons (qv 0) (qa_cons (qv 2) qa_nil)))) qa_nil)) (qg_name (i := 4) sc_22.nd rfl (by first | exact Or.inl rfl | exact Or.inr rfl)) (qss_cons (qs_set (i := 5) sc_22.nd rfl (by first | exact Or.inl rfl | exact Or.inr rfl) (qe_call (sem_len (i := 19)) ih.o19 (rm4 hr) rfl T.m19 T.F19.kp T.b19 (qa_cons (qv 0) (qa_cons (qv 1) qa_nil))))
    (qss_one (qs_if (qt_cmp (dop_notin (hu100 hr)) (qv 5) (qv 3) (by with_unfolding_all rfl)) (qss_one (qs_expr (qe_bm PySem.F.plainAttrs_list PySem.F.slot_list_append PySem.F.type_list_append okLst_ty dmt_append (qv 3) (qa_cons (qv 5) qa_nil)))) qss_nil))))
  (qss_one (qs_ret (qe_callB (dcall_sorted (hu100 hr)) rfl T.z_sorted (by decide +kernel) (qa_cons (qv 3) qa_nil))))))
/- _law_put -/
theorem w_23 (T : Txt K mg tt) (hB : ∀ t ∈ tt, LamX.TabB base mg t.2.1 t.2.2) (ih : IH P w base T n) (cdv : Value) (A : Around) (outer : List Env) (s : Shared) (H : Hp) (E : XK) (hr : Room (4 * n + 3) (A.deeper (envOfC "_law_put" (defScope s_23) s.heap.objs.size (T.f 23) cdv))) :
    PSs (cxOf CX0 P w K mg base N_23 "_law_put" (defScope s_23) (T.f 23) cdv A outer s H E).nox (defBody s_23) (liftS ⟨K, w, tblOf tt⟩ (b_23 (sem fs n))) :=
  (qss_one (qs_ret (qe_op dop_add (qe_op dop_add (qe_slice (qv 0) qo_none (qo_some (qv 1))) (qe_tup (qa_cons (qv 2) qa_nil))) (qe_slice (qv 0) (qo_some (qe_op dop_add (qv 1) qi)) qo_none))))
/- _law_without -/
theorem w_24 (T : Txt K mg tt) (hB : ∀ t ∈ tt, LamX.TabB base mg t.2.1 t.2.2) (ih : IH P w base T n) (cdv : Value) (A : Around) (outer : List Env) (s : Shared) (H : Hp) (E : XK) (hr : Room (4 * n + 3) (A.deeper (envOfC "_law_without" (defScope s_24) s.heap.objs.size (T.f 24) cdv))) :
    PSs (cxOf CX0 P w K mg base N_24 "_law_without" (defScope s_24) (T.f 24) cdv A outer s H E).nox (defBody s_24) (liftS ⟨K, w, tblOf tt⟩ (b_24 (sem fs n))) :=
  (qss_one (qs_ret (qe_op dop_add (qe_slice (qv 0) qo_none (qo_some (qv 1))) (qe_slice (qv 0) (qo_some (qe_op dop_add (qv 1) qi)) qo_none))))
/- _law_number -/
theorem w_25 (T : Txt K mg tt) (hB : ∀ t ∈ tt, LamX.TabB base mg t.2.1 t.2.2) (ih : IH P w base T n) (cdv : Value) (A : Around) (outer : List Env) (s : Shared) (H : Hp) (E : XK) (hr : Room (4 * n + 3) (A.deeper (envOfC "_law_number" (defScope s_25) s.heap.objs.size (T.f 25) cdv))) :
    PSs (cxOf CX0 P w K mg base N_25 "_law_number" (defScope s_25) (T.f 25) cdv A outer s H E).nox (defBody s_25) (liftS ⟨K, w, tblOf tt⟩ (b_25 (sem fs n))) :=
  (qss_cons (qs_if (qt_cmp (dop_eq (hu100 hr)) (qe_call (sem_len (i := 18)) ih.o18 (rm4 hr) rfl T.m18 T.F18.kp T.b18 (qa_cons (qv 0) (qa_cons qi qa_nil))) qi (nomark _)) (qss_one (qs_ret (qe_call (sem_len (i := 19)) ih.o19 (rm4 hr) rfl T.m19 T.F19.kp T.b19 (qa_cons (qv 0) (qa_cons (qe_lst (qa_cons (qe_op dop_add (qe_op dop_pow qi qi) qi) (qa_cons (qe_op dop_sub (qe_un dun_neg (qe_op dop_pow qi qi)) qi) (qa_cons (qe_op dop_add (qe_op dop_pow qi qi) qi) qa_nil)))) qa_nil))))) qss_nil)
  (qss_one (qs_ret (qe_op dop_sub (qe_call (sem_len (i := 18)) ih.o18 (rm4 hr) rfl T.m18 T.F18.kp T.b18 (qa_cons (qv 0) (qa_cons qi qa_nil))) qi))))
/- _law_start_state -/
theorem w_26 (T : Txt K mg tt) (hB : ∀ t ∈ tt, LamX.TabB base mg t.2.1 t.2.2) (ih : IH P w base T n) (cdv : Value) (A : Around) (outer : List Env) (s : Shared) (H : Hp) (E : XK) (hr : Room (4 * n + 3) (A.deeper (envOfC "_law_start_state" (defScope s_26) s.heap.objs.size (T.f 26) cdv))) :
    PSs (cxOf CX0 P w K mg base N_26 "_law_start_state" (defScope s_26) (T.f 26) cdv A outer s H E).nox (defBody s_26) (liftS ⟨K, w, tblOf tt⟩ (b_26 (sem fs n))) :=
  (qss_one (qs_ret (qe_tup (qa_cons (qe_callTy dcall_tuple rfl T.z_tuple (by decide +kernel) (qa_cons (qe_lc [("t", 1)] rfl sc_26.nd (qi_range1 rfl T.z_range (qa_cons (qe_callB dcall_len rfl T.z_len (by decide +kernel) (qa_cons (qe_ix (hu100 hr) (qv 0) qi (fun _ _ => rfl)) qa_nil)) qa_nil)) (okb (by kernel_rfl)) (by decide) (fun _ _ _ _ _ => (qg_name (i := 1) sc_26.nd rfl (by first | exact Or.inl rfl | exact Or.inr rfl))) (fun _ _ _ _ _ => qts_nil) (fun _ _ _ _ _ => (qe_ix (hu100 hr) (qe_lst (qa_cons qn (qa_cons qi qa_nil))) (qe_callTy dcall_int rfl T.z_int (by decide +kernel) (qa_cons (qe_cmp (dop_eq (hu100 hr)) (qv 1) qi (nomark _)) qa_nil)) (fun _ _ => rfl)))) qa_nil)) (qa_cons (qe_tup qa_nil) qa_nil)))))
/- _law_worth -/
theorem w_27 (T : Txt K mg tt) (hB : ∀ t ∈ tt, LamX.TabB base mg t.2.1 t.2.2) (ih : IH P w base T n) (cdv : Value) (A : Around) (outer : List Env) (s : Shared) (H : Hp) (E : XK) (hr : Room (4 * n + 3) (A.deeper (envOfC "_law_worth" (defScope s_27) s.heap.objs.size (T.f 27) cdv))) :
    PSs (cxOf CX0 P w K mg base N_27 "_law_worth" (defScope s_27) (T.f 27) cdv A outer s H E).nox (defBody s_27) (liftS ⟨K, w, tblOf tt⟩ (b_27 (sem fs n))) :=
  (qss_cons (qs_for PassesOwn.never rfl (qi_seq (qv 0)) (qg_name (i := 2) sc_27.nd rfl (by first | exact Or.inl rfl | exact Or.inr rfl)) (qss_one (qs_if (qt_cmp (dop_eq (hu100 hr)) (qe_ix (hu100 hr) (qv 2) qi (fun _ _ => rfl)) (qv 1) (nomark _)) (qss_one (qs_ret (qe_ix (hu100 hr) (qv 2) qi (fun _ _ => rfl)))) qss_nil)))
  (qss_one (qs_ret qn)))
/- _law_can -/
theorem w_28 (T : Txt K mg tt) (hB : ∀ t ∈ tt, LamX.TabB base mg t.2.1 t.2.2) (ih : IH P w base T n) (cdv : Value) (A : Around) (outer : List Env) (s : Shared) (H : Hp) (E : XK) (hr : Room (4 * n + 3) (A.deeper (envOfC "_law_can" (defScope s_28) s.heap.objs.size (T.f 28) cdv))) :
    PSs (cxOf CX0 P w K mg base N_28 "_law_can" (defScope s_28) (T.f 28) cdv A outer s H E).nox (defBody s_28) (liftS ⟨K, w, tblOf tt⟩ (b_28 (sem fs n))) :=
  (qss_cons (qs_set (i := 3) sc_28.nd rfl (by first | exact Or.inl rfl | exact Or.inr rfl) (qe_ix (hu100 hr) (qe_ix (hu100 hr) (qv 1) qi (fun _ _ => rfl)) (qv 2) (fun _ _ => rfl)))
  (qss_cons (qs_if (qt_w (qw_or (qt_cmp dop_is (qv 3) qn (nomark _)) (qw_or1 (qt_cmp (dop_cmp (hu100 hr) .ge) (qv 3) (qe_callB dcall_len rfl T.z_len (by decide +kernel) (qa_cons (qe_ix (hu100 hr) (qe_ix (hu100 hr) (qv 0) qi (fun _ _ => rfl)) (qv 2) (fun _ _ => rfl)) qa_nil)) (nomark _))))) (qss_one (qs_ret qb)) qss_nil)
  (qss_cons (qs_set (i := 4) sc_28.nd rfl (by first | exact Or.inl rfl | exact Or.inr rfl) (qe_ix (hu100 hr) (qe_ix (hu100 hr) (qe_ix (hu100 hr) (qv 0) qi (fun _ _ => rfl)) (qv 2) (fun _ _ => rfl)) (qv 3) (fun _ _ => rfl)))
  (qss_cons (qs_set (i := 5) sc_28.nd rfl (by first | exact Or.inl rfl | exact Or.inr rfl) (qe_lc [("pair", 6)] rfl sc_28.nd (qi_seq (qe_ix (hu100 hr) (qv 1) qi (fun _ _ => rfl))) (okb (by kernel_rfl)) (by decide) (fun _ _ _ _ _ => (qg_name (i := 6) sc_28.nd rfl (by first | exact Or.inl rfl | exact Or.inr rfl))) (fun _ _ _ _ _ => qts_nil) (fun _ _ _ _ _ => (qe_ix (hu100 hr) (qv 6) qi (fun _ _ => rfl)))))
  (qss_cons (qs_if (qt_cmp (dop_eq (hu100 hr)) (qe_ix (hu100 hr) (qv 4) qi (fun _ _ => rfl)) qs (nomark _)) (qss_one (qs_ret (qe_cmp (dop_in (hu100 hr)) (qe_ix (hu100 hr) (qv 4) qi (fun _ _ => rfl)) (qv 5) (by with_unfolding_all rfl)))) qss_nil)
  (qss_cons (qs_if (qt_cmp (dop_eq (hu100 hr)) (qe_ix (hu100 hr) (qv 4) qi (fun _ _ => rfl)) qs (nomark _)) (qss_one (qs_ret (qe_cmp (dop_notin (hu100 hr)) qb (qe_lc [("p", 7)] rfl sc_28.nd (qi_seq (qe_ix (hu100 hr) (qv 4) qi (fun _ _ => rfl))) (okb (by kernel_rfl)) (by decide) (fun _ _ _ _ _ => (qg_name (i := 7) sc_28.nd rfl (by first | exact Or.inl rfl | exact Or.inr rfl))) (fun _ _ _ _ _ => qts_nil) (fun _ _ _ _ _ => (qe_cmp (dop_in (hu100 hr)) (qv 7) (qv 5) (by with_unfolding_all rfl)))) (by with_unfolding_all rfl)))) qss_nil)
  (qss_cons (qs_if (qt_cmp (dop_eq (hu100 hr)) (qe_ix (hu100 hr) (qv 4) qi (fun _ _ => rfl)) qs (nomark _)) (qss_one (qs_ret (qe_cmp (dop_in (hu100 hr)) qb (qe_lc [("p", 7)] rfl sc_28.nd (qi_seq (qe_ix (hu100 hr) (qv 4) qi (fun _ _ => rfl))) (okb (by kernel_rfl)) (by decide) (fun _ _ _ _ _ => (qg_name (i := 7) sc_28.nd rfl (by first | exact Or.inl rfl | exact Or.inr rfl))) (fun _ _ _ _ _ => qts_nil) (fun _ _ _ _ _ => (qe_cmp (dop_in (hu100 hr)) (qv 7) (qv 5) (by with_unfolding_all rfl)))) (by with_unfolding_all rfl)))) qss_nil)
  (qss_one (qs_ret qb)))))))))
/- _law_ready -/
theorem w_29 (T : Txt K mg tt) (hB : ∀ t ∈ tt, LamX.TabB base mg t.2.1 t.2.2) (ih : IH P w base T n) (cdv : Value) (A : Around) (outer : List Env) (s : Shared) (H : Hp) (E : XK) (hr : Room (4 * n + 3) (A.deeper (envOfC "_law_ready" (defScope s_29) s.heap.objs.size (T.f 29) cdv))) :
    PSs (cxOf CX0 P w K mg base N_29 "_law_ready" (defScope s_29) (T.f 29) cdv A outer s H E).nox (defBody s_29) (liftS ⟨K, w, tblOf tt⟩ (b_29 (sem fs n))) :=
  (qss_one (qs_ret (qe_lc [("t", 2)] rfl sc_29.nd (qi_range1 rfl T.z_range (qa_cons (qe_callB dcall_len rfl T.z_len (by decide +kernel) (qa_cons (qe_ix (hu100 hr) (qv 0) qi (fun _ _ => rfl)) qa_nil)) qa_nil)) (okb (by kernel_rfl)) (by decide) (fun _ _ _ _ _ => (qg_name (i := 2) sc_29.nd rfl (by first | exact Or.inl rfl | exact Or.inr rfl))) (fun _ _ _ _ _ => (qts_one (qt_val (qe_call (sem_len (i := 28)) ih.o28 (rm4 hr) rfl T.m28 T.F28.kp T.b28 (qa_cons (qv 0) (qa_cons (qv 1) (qa_cons (qv 2) qa_nil))))))) (fun _ _ _ _ _ => (qv 2)))))
/- _law_step -/
theorem w_30 (T : Txt K mg tt) (hB : ∀ t ∈ tt, LamX.TabB base mg t.2.1 t.2.2) (ih : IH P w base T n) (cdv : Value) (A : Around) (outer : List Env) (s : Shared) (H : Hp) (E : XK) (hr : Room (4 * n + 3) (A.deeper (envOfC "_law_step" (defScope s_30) s.heap.objs.size (T.f 30) cdv))) :
    PSs (cxOf CX0 P w K mg base N_30 "_law_step" (defScope s_30) (T.f 30) cdv A outer s H E).nox (defBody s_30) (liftS ⟨K, w, tblOf tt⟩ (b_30 (sem fs n))) :=
  (qss_cons (qs_asg (qv 1) (qg_tup rfl (qgs_cons (qg_name (i := 3) sc_30.nd rfl (by first | exact Or.inl rfl | exact Or.inr rfl)) (qgs_cons (qg_name (i := 4) sc_30.nd rfl (by first | exact Or.inl rfl | exact Or.inr rfl)) qgs_nil))))
  (qss_cons (qs_set (i := 5) sc_30.nd rfl (by first | exact Or.inl rfl | exact Or.inr rfl) (qe_ix (hu100 hr) (qe_ix (hu100 hr) (qe_ix (hu100 hr) (qv 0) qi (fun _ _ => rfl)) (qv 2) (fun _ _ => rfl)) (qe_ix (hu100 hr) (qv 3) (qv 2) (fun _ _ => rfl)) (fun _ _ => rfl)))
  (qss_cons (qs_set (i := 6) sc_30.nd rfl (by first | exact Or.inl rfl | exact Or.inr rfl) (qe_callTy (dcall_list rfl) rfl T.z_list (by decide +kernel) (qa_cons (qv 3) qa_nil)))
  (qss_cons (qs_asg (qe_op dop_add (qe_ix (hu100 hr) (qv 3) (qv 2) (fun _ _ => rfl)) qi) (qg_sub (qv 6) (qv 2) (dset_ix (hu100 hr))))
  (qss_cons (qs_if (qt_w (qw_and (qt_cmp (dop_eq (hu100 hr)) (qe_ix (hu100 hr) (qv 5) qi (fun _ _ => rfl)) qs (nomark _)) (qw_and1 (qt_cmp dop_is (qe_ix (hu100 hr) (qv 3) (qe_ix (hu100 hr) (qv 5) qi (fun _ _ => rfl)) (fun _ _ => rfl)) qn (nomark _))))) (qss_one (qs_asg qi (qg_sub (qv 6) (qe_ix (hu100 hr) (qv 5) qi (fun _ _ => rfl)) (dset_ix (hu100 hr))))) qss_nil)
  (qss_cons (qs_if (qt_w (qw_and (qt_cmp (dop_eq (hu100 hr)) (qe_ix (hu100 hr) (qv 5) qi (fun _ _ => rfl)) qs (nomark _)) (qw_and1 (qt_cmp dop_is (qe_call (sem_len (i := 27)) ih.o27 (rm4 hr) rfl T.m27 T.F27.kp T.b27 (qa_cons (qv 4) (qa_cons (qe_ix (hu100 hr) (qv 5) qi (fun _ _ => rfl)) qa_nil))) qn (nomark _))))) (qss_one (qs_set (i := 4) sc_30.nd rfl (by first | exact Or.inl rfl | exact Or.inr rfl) (qe_op dop_add (qv 4) (qe_tup (qa_cons (qe_tup (qa_cons (qe_ix (hu100 hr) (qv 5) qi (fun _ _ => rfl)) (qa_cons (qe_op dop_add (qe_ix (hu100 hr) (qv 5) qi (fun _ _ => rfl)) (qe_callB (dcall_sum rfl) rfl T.z_sum (by decide +kernel) (qa_cons (qe_lc [("p", 7)] rfl sc_30.nd (qi_seq (qe_ix (hu100 hr) (qv 5) qi (fun _ _ => rfl))) (okb (by kernel_rfl)) (by decide) (fun _ _ _ _ _ => (qg_name (i := 7) sc_30.nd rfl (by first | exact Or.inl rfl | exact Or.inr rfl))) (fun _ _ _ _ _ => qts_nil) (fun _ _ _ _ _ => (qe_call (sem_len (i := 27)) ih.o27 (rm4 hr) rfl T.m27 T.F27.kp T.b27 (qa_cons (qv 4) (qa_cons (qv 7) qa_nil))))) qa_nil))) qa_nil))) qa_nil))))) qss_nil)
  (qss_cons (qs_if (qt_w (qw_and (qt_cmp (dop_eq (hu100 hr)) (qe_ix (hu100 hr) (qv 5) qi (fun _ _ => rfl)) qs (nomark _)) (qw_and1 (qt_cmp dop_is (qe_call (sem_len (i := 27)) ih.o27 (rm4 hr) rfl T.m27 T.F27.kp T.b27 (qa_cons (qv 4) (qa_cons (qe_ix (hu100 hr) (qv 5) qi (fun _ _ => rfl)) qa_nil))) qn (nomark _))))) (qss_one (qs_set (i := 4) sc_30.nd rfl (by first | exact Or.inl rfl | exact Or.inr rfl) (qe_op dop_add (qv 4) (qe_tup (qa_cons (qe_tup (qa_cons (qe_ix (hu100 hr) (qv 5) qi (fun _ _ => rfl)) (qa_cons (qe_ix (hu100 hr) (qe_lc [("pair", 8)] rfl sc_30.nd (qi_seq (qv 4)) (okb (by kernel_rfl)) (by decide) (fun _ _ _ _ _ => (qg_name (i := 8) sc_30.nd rfl (by first | exact Or.inl rfl | exact Or.inr rfl))) (fun _ _ _ _ _ => (qts_one (qt_cmp (dop_in (hu100 hr)) (qe_ix (hu100 hr) (qv 8) qi (fun _ _ => rfl)) (qe_ix (hu100 hr) (qv 5) qi (fun _ _ => rfl)) (by with_unfolding_all rfl)))) (fun _ _ _ _ _ => (qe_ix (hu100 hr) (qv 8) qi (fun _ _ => rfl)))) qi (fun _ _ => rfl)) qa_nil))) qa_nil))))) qss_nil)
  (qss_one (qs_ret (qe_tup (qa_cons (qe_callTy dcall_tuple rfl T.z_tuple (by decide +kernel) (qa_cons (qv 6) qa_nil)) (qa_cons (qv 4) qa_nil))))))))))))
/- _law_explored -/
theorem w_31 (T : Txt K mg tt) (hB : ∀ t ∈ tt, LamX.TabB base mg t.2.1 t.2.2) (ih : IH P w base T n) (cdv : Value) (A : Around) (outer : List Env) (s : Shared) (H : Hp) (E : XK) (hr : Room (4 * n + 3) (A.deeper (envOfC "_law_explored" (defScope s_31) s.heap.objs.size (T.f 31) cdv))) :
    PSs (cxOf CX0 P w K mg base N_31 "_law_explored" (defScope s_31) (T.f 31) cdv A outer s H E).nox (defBody s_31) (liftS ⟨K, w, tblOf tt⟩ (b_31 (sem fs n))) :=
  (qss_cons (qs_set (i := 1) sc_31.nd rfl (by first | exact Or.inl rfl | exact Or.inr rfl) (qe_lst (qa_cons (qe_lst (qa_cons (qe_call (sem_len (i := 26)) ih.o26 (rm4 hr) rfl T.m26 T.F26.kp T.b26 (qa_cons (qv 0) qa_nil)) (qa_cons (qe_tup qa_nil) qa_nil))) qa_nil)))
  (qss_cons (qs_set (i := 2) sc_31.nd rfl (by first | exact Or.inl rfl | exact Or.inr rfl) (qe_dct1 false (hu100 hr) (qe_ix (hu100 hr) (qe_ix (hu100 hr) (qv 1) qi (fun _ _ => rfl)) qi (fun _ _ => rfl)) qb))
  (qss_cons (qs_for PassesOwn.never rfl (qi_range1 rfl T.z_range (qa_cons qi qa_nil)) (qg_name (i := 3) sc_31.nd rfl (by first | exact Or.inl rfl | exact Or.inr rfl)) (qss_cons (qs_if (qt_cmp (dop_cmp (hu100 hr) .ge) (qv 3) (qe_callB dcall_len rfl T.z_len (by decide +kernel) (qa_cons (qv 1) qa_nil)) (nomark _)) (qss_one qs_break) qss_nil)
    (qss_cons (qs_asg (qe_ix (hu100 hr) (qv 1) (qv 3) (fun _ _ => rfl)) (qg_tup rfl (qgs_cons (qg_name (i := 4) sc_31.nd rfl (by first | exact Or.inl rfl | exact Or.inr rfl)) (qgs_cons (qg_name (i := 5) sc_31.nd rfl (by first | exact Or.inl rfl | exact Or.inr rfl)) qgs_nil))))
    (qss_one (qs_for PassesOwn.never rfl (qi_seq (qe_call (sem_len (i := 29)) ih.o29 (rm4 hr) rfl T.m29 T.F29.kp T.b29 (qa_cons (qv 0) (qa_cons (qv 4) qa_nil)))) (qg_name (i := 6) sc_31.nd rfl (by first | exact Or.inl rfl | exact Or.inr rfl)) (qss_cons (qs_set (i := 7) sc_31.nd rfl (by first | exact Or.inl rfl | exact Or.inr rfl) (qe_call (sem_len (i := 30)) ih.o30 (rm4 hr) rfl T.m30 T.F30.kp T.b30 (qa_cons (qv 0) (qa_cons (qv 4) (qa_cons (qv 6) qa_nil)))))
      (qss_one (qs_if (qt_cmp (dop_notin (hu100 hr)) (qv 7) (qv 2) (by with_unfolding_all rfl)) (qss_cons (qs_asg qb (qg_sub (qv 2) (qv 7) (dset_ix (hu100 hr))))
        (qss_one (qs_expr (qe_bm PySem.F.plainAttrs_list PySem.F.slot_list_append PySem.F.type_list_append okLst_ty dmt_append (qv 1) (qa_cons (qe_lst (qa_cons (qv 7) (qa_cons (qe_op dop_add (qv 5) (qe_tup (qa_cons (qv 6) qa_nil))) qa_nil))) qa_nil))))) qss_nil))))))))
  (qss_one (qs_ret (qv 1))))))
/- _law_stuck_at -/
theorem w_32 (T : Txt K mg tt) (hB : ∀ t ∈ tt, LamX.TabB base mg t.2.1 t.2.2) (ih : IH P w base T n) (cdv : Value) (A : Around) (outer : List Env) (s : Shared) (H : Hp) (E : XK) (hr : Room (4 * n + 3) (A.deeper (envOfC "_law_stuck_at" (defScope s_32) s.heap.objs.size (T.f 32) cdv))) :
    PSs (cxOf CX0 P w K mg base N_32 "_law_stuck_at" (defScope s_32) (T.f 32) cdv A outer s H E).nox (defBody s_32) (liftS ⟨K, w, tblOf tt⟩ (b_32 (sem fs n))) :=
  (qss_cons (qs_set (i := 2) sc_32.nd rfl (by first | exact Or.inl rfl | exact Or.inr rfl) (qe_callB dcall_len rfl T.z_len (by decide +kernel) (qa_cons (qe_ix (hu100 hr) (qv 0) qi (fun _ _ => rfl)) qa_nil)))
  (qss_one (qs_ret (qe_callTy dcall_tuple rfl T.z_tuple (by decide +kernel) (qa_cons (qe_lc [("t", 3)] rfl sc_32.nd (qi_range1 rfl T.z_range (qa_cons (qv 2) qa_nil)) (okb (by kernel_rfl)) (by decide) (fun _ _ _ _ _ => (qg_name (i := 3) sc_32.nd rfl (by first | exact Or.inl rfl | exact Or.inr rfl))) (fun _ _ _ _ _ => (qts_one (qt_w (qw_and (qt_cmp dop_isnot (qe_ix (hu100 hr) (qe_ix (hu100 hr) (qv 1) qi (fun _ _ => rfl)) (qv 3) (fun _ _ => rfl)) qn (nomark _)) (qw_and1 (qt_cmp (dop_cmp (hu100 hr) .lt) (qe_ix (hu100 hr) (qe_ix (hu100 hr) (qv 1) qi (fun _ _ => rfl)) (qv 3) (fun _ _ => rfl)) (qe_callB dcall_len rfl T.z_len (by decide +kernel) (qa_cons (qe_ix (hu100 hr) (qe_ix (hu100 hr) (qv 0) qi (fun _ _ => rfl)) (qv 3) (fun _ _ => rfl)) qa_nil)) (nomark _))))))) (fun _ _ _ _ _ => (qv 3))) qa_nil)))))
/- _law_ending -/
theorem w_33 (T : Txt K mg tt) (hB : ∀ t ∈ tt, LamX.TabB base mg t.2.1 t.2.2) (ih : IH P w base T n) (cdv : Value) (A : Around) (outer : List Env) (s : Shared) (H : Hp) (E : XK) (hr : Room (4 * n + 3) (A.deeper (envOfC "_law_ending" (defScope s_33) s.heap.objs.size (T.f 33) cdv))) :
    PSs (cxOf CX0 P w K mg base N_33 "_law_ending" (defScope s_33) (T.f 33) cdv A outer s H E).nox (defBody s_33) (liftS ⟨K, w, tblOf tt⟩ (b_33 (sem fs n))) :=
  (qss_one (qs_ret (qe_tup (qa_cons (qe_callTy dcall_tuple rfl T.z_tuple (by decide +kernel) (qa_cons (qe_lc [("p", 2)] rfl sc_33.nd (qi_range1 rfl T.z_range (qa_cons (qe_ix (hu100 hr) (qv 0) qi (fun _ _ => rfl)) qa_nil)) (okb (by kernel_rfl)) (by decide) (fun _ _ _ _ _ => (qg_name (i := 2) sc_33.nd rfl (by first | exact Or.inl rfl | exact Or.inr rfl))) (fun _ _ _ _ _ => qts_nil) (fun _ _ _ _ _ => (qe_call (sem_len (i := 27)) ih.o27 (rm4 hr) rfl T.m27 T.F27.kp T.b27 (qa_cons (qe_ix (hu100 hr) (qv 1) qi (fun _ _ => rfl)) (qa_cons (qv 2) qa_nil))))) qa_nil)) (qa_cons (qe_call (sem_len (i := 32)) ih.o32 (rm4 hr) rfl T.m32 T.F32.kp T.b32 (qa_cons (qv 0) (qa_cons (qv 1) qa_nil))) qa_nil)))))
/- _law_ending_key -/
theorem w_34 (T : Txt K mg tt) (hB : ∀ t ∈ tt, LamX.TabB base mg t.2.1 t.2.2) (ih : IH P w base T n) (cdv : Value) (A : Around) (outer : List Env) (s : Shared) (H : Hp) (E : XK) (hr : Room (4 * n + 3) (A.deeper (envOfC "_law_ending_key" (defScope s_34) s.heap.objs.size (T.f 34) cdv))) :
    PSs (cxOf CX0 P w K mg base N_34 "_law_ending_key" (defScope s_34) (T.f 34) cdv A outer s H E).nox (defBody s_34) (liftS ⟨K, w, tblOf tt⟩ (b_34 (sem fs n))) :=
  (qss_one (qs_ret (qe_tup (qa_cons (qe_lc [("value", 1)] rfl sc_34.nd (qi_seq (qe_ix (hu100 hr) (qv 0) qi (fun _ _ => rfl))) (okb (by kernel_rfl)) (by decide) (fun _ _ _ _ _ => (qg_name (i := 1) sc_34.nd rfl (by first | exact Or.inl rfl | exact Or.inr rfl))) (fun _ _ _ _ _ => qts_nil) (fun _ _ _ _ _ => (qe_lst (qa_cons (qe_callTy dcall_int rfl T.z_int (by decide +kernel) (qa_cons (qe_cmp dop_isnot (qv 1) qn (nomark _)) qa_nil)) (qa_cons (qe_ix (hu100 hr) (qe_lst (qa_cons (qv 1) (qa_cons qi qa_nil))) (qe_callTy dcall_int rfl T.z_int (by decide +kernel) (qa_cons (qe_cmp dop_is (qv 1) qn (nomark _)) qa_nil)) (fun _ _ => rfl)) qa_nil))))) (qa_cons (qe_ix (hu100 hr) (qv 0) qi (fun _ _ => rfl)) qa_nil)))))
/- _law_endings -/
theorem w_35 (T : Txt K mg tt) (hB : ∀ t ∈ tt, LamX.TabB base mg t.2.1 t.2.2) (ih : IH P w base T n) (cdv : Value) (A : Around) (outer : List Env) (s : Shared) (H : Hp) (E : XK) (hr : Room (4 * n + 3) (A.deeper (envOfC "_law_endings" (defScope s_35) s.heap.objs.size (T.f 35) cdv))) :
    PSs (cxOf CX0 P w K mg base N_35 "_law_endings" (defScope s_35) (T.f 35) cdv A outer s H E).nox (defBody s_35) (liftS ⟨K, w, tblOf tt⟩ (b_35 (sem fs n))) :=
  (qss_cons (qs_set (i := 1) sc_35.nd rfl (by first | exact Or.inl rfl | exact Or.inr rfl) (qe_lst qa_nil))
  (qss_cons (qs_for PassesOwn.never rfl (qi_seq (qe_call (sem_len (i := 31)) ih.o31 (rm4 hr) rfl T.m31 T.F31.kp T.b31 (qa_cons (qv 0) qa_nil))) (qg_name (i := 2) sc_35.nd rfl (by first | exact Or.inl rfl | exact Or.inr rfl)) (qss_one (qs_if (qt_cmp (dop_eq (hu100 hr)) (qe_callB dcall_len rfl T.z_len (by decide +kernel) (qa_cons (qe_call (sem_len (i := 29)) ih.o29 (rm4 hr) rfl T.m29 T.F29.kp T.b29 (qa_cons (qv 0) (qa_cons (qe_ix (hu100 hr) (qv 2) qi (fun _ _ => rfl)) qa_nil))) qa_nil)) qi (nomark _)) (qss_cons (qs_set (i := 3) sc_35.nd rfl (by first | exact Or.inl rfl | exact Or.inr rfl) (qe_call (sem_len (i := 33)) ih.o33 (rm4 hr) rfl T.m33 T.F33.kp T.b33 (qa_cons (qv 0) (qa_cons (qe_ix (hu100 hr) (qv 2) qi (fun _ _ => rfl)) qa_nil))))
      (qss_one (qs_if (qt_cmp (dop_notin (hu100 hr)) (qv 3) (qe_lc [("other", 4)] rfl sc_35.nd (qi_seq (qv 1)) (okb (by kernel_rfl)) (by decide) (fun _ _ _ _ _ => (qg_name (i := 4) sc_35.nd rfl (by first | exact Or.inl rfl | exact Or.inr rfl))) (fun _ _ _ _ _ => qts_nil) (fun _ _ _ _ _ => (qe_ix (hu100 hr) (qv 4) qi (fun _ _ => rfl)))) (by with_unfolding_all rfl)) (qss_one (qs_expr (qe_bm PySem.F.plainAttrs_list PySem.F.slot_list_append PySem.F.type_list_append okLst_ty dmt_append (qv 1) (qa_cons (qe_lst (qa_cons (qv 3) (qa_cons (qe_ix (hu100 hr) (qv 2) qi (fun _ _ => rfl)) qa_nil))) qa_nil)))) qss_nil))) qss_nil)))
  (qss_one (qs_ret (qv 1)))))
/- _law_set_of -/
theorem w_36 (T : Txt K mg tt) (hB : ∀ t ∈ tt, LamX.TabB base mg t.2.1 t.2.2) (ih : IH P w base T n) (cdv : Value) (A : Around) (outer : List Env) (s : Shared) (H : Hp) (E : XK) (hr : Room (4 * n + 3) (A.deeper (envOfC "_law_set_of" (defScope s_36) s.heap.objs.size (T.f 36) cdv))) :
    PSs (cxOf CX0 P w K mg base N_36 "_law_set_of" (defScope s_36) (T.f 36) cdv A outer s H E).nox (defBody s_36) (liftS ⟨K, w, tblOf tt⟩ (b_36 (sem fs n))) :=
  (qss_cons (qs_set (i := 3) sc_36.nd rfl (by first | exact Or.inl rfl | exact Or.inr rfl) (qe_lst qa_nil))
  (qss_cons (qs_for PassesOwn.never rfl (qi_range1 rfl T.z_range (qa_cons (qe_call (sem_len (i := 18)) ih.o18 (rm4 hr) rfl T.m18 T.F18.kp T.b18 (qa_cons (qv 0) (qa_cons (qe_op dop_add (qv 2) qi) qa_nil))) qa_nil)) (qg_name (i := 4) sc_36.nd rfl (by first | exact Or.inl rfl | exact Or.inr rfl)) (qss_cons (qs_set (i := 5) sc_36.nd rfl (by first | exact Or.inl rfl | exact Or.inr rfl) (qe_call (sem_len (i := 19)) ih.o19 (rm4 hr) rfl T.m19 T.F19.kp T.b19 (qa_cons (qv 0) (qa_cons (qv 1) qa_nil))))
    (qss_one (qs_if (qt_cmp (dop_notin (hu100 hr)) (qv 5) (qv 3) (by with_unfolding_all rfl)) (qss_one (qs_expr (qe_bm PySem.F.plainAttrs_list PySem.F.slot_list_append PySem.F.type_list_append okLst_ty dmt_append (qv 3) (qa_cons (qv 5) qa_nil)))) qss_nil))))
  (qss_one (qs_ret (qe_callTy dcall_tuple rfl T.z_tuple (by decide +kernel) (qa_cons (qe_callB (dcall_sorted (hu100 hr)) rfl T.z_sorted (by decide +kernel) (qa_cons (qv 3) qa_nil)) qa_nil))))))
/- _law_deed -/
theorem w_37 (T : Txt K mg tt) (hB : ∀ t ∈ tt, LamX.TabB base mg t.2.1 t.2.2) (ih : IH P w base T n) (cdv : Value) (A : Around) (outer : List Env) (s : Shared) (H : Hp) (E : XK) (hr : Room (4 * n + 3) (A.deeper (envOfC "_law_deed" (defScope s_37) s.heap.objs.size (T.f 37) cdv))) :
    PSs (cxOf CX0 P w K mg base N_37 "_law_deed" (defScope s_37) (T.f 37) cdv A outer s H E).nox (defBody s_37) (liftS ⟨K, w, tblOf tt⟩ (b_37 (sem fs n))) :=
  (qss_cons (qs_set (i := 3) sc_37.nd rfl (by first | exact Or.inl rfl | exact Or.inr rfl) (qe_call (sem_len (i := 18)) ih.o18 (rm4 hr) rfl T.m18 T.F18.kp T.b18 (qa_cons (qv 0) (qa_cons qi qa_nil))))
  (qss_cons (qs_if (qt_w (qw_and (qt_cmp (dop_eq (hu100 hr)) (qv 3) qi (nomark _)) (qw_and1 (qt_cmp (dop_cmp (hu100 hr) .gt) (qe_callB dcall_len rfl T.z_len (by decide +kernel) (qa_cons (qv 2) qa_nil)) qi (nomark _))))) (qss_one (qs_ret (qe_tup (qa_cons qs (qa_cons (qe_call (sem_len (i := 19)) ih.o19 (rm4 hr) rfl T.m19 T.F19.kp T.b19 (qa_cons (qv 0) (qa_cons (qv 2) qa_nil))) qa_nil))))) qss_nil)
  (qss_cons (qs_if (qt_cmp (dop_cmp (hu100 hr) .lt) (qv 3) qi (nomark _)) (qss_one (qs_ret (qe_tup (qa_cons qs (qa_cons (qe_call (sem_len (i := 19)) ih.o19 (rm4 hr) rfl T.m19 T.F19.kp T.b19 (qa_cons (qv 0) (qa_cons (qv 1) qa_nil))) qa_nil))))) qss_nil)
  (qss_cons (qs_if (qt_cmp (dop_cmp (hu100 hr) .lt) (qv 3) qi (nomark _)) (qss_one (qs_ret (qe_tup (qa_cons qs (qa_cons (qe_call (sem_len (i := 19)) ih.o19 (rm4 hr) rfl T.m19 T.F19.kp T.b19 (qa_cons (qv 0) (qa_cons (qv 1) qa_nil))) (qa_cons (qe_callTy dcall_tuple rfl T.z_tuple (by decide +kernel) (qa_cons (qe_call (sem_len (i := 22)) ih.o22 (rm4 hr) rfl T.m22 T.F22.kp T.b22 (qa_cons (qv 0) (qa_cons (qv 1) (qa_cons qi qa_nil)))) qa_nil)) qa_nil)))))) qss_nil)
  (qss_one (qs_ret (qe_tup (qa_cons qs (qa_cons (qe_call (sem_len (i := 19)) ih.o19 (rm4 hr) rfl T.m19 T.F19.kp T.b19 (qa_cons (qv 0) (qa_cons (qv 1) qa_nil))) (qa_cons (qe_call (sem_len (i := 25)) ih.o25 (rm4 hr) rfl T.m25 T.F25.kp T.b25 (qa_cons (qv 0) qa_nil)) (qa_cons (qe_call (sem_len (i := 36)) ih.o36 (rm4 hr) rfl T.m36 T.F36.kp T.b36 (qa_cons (qv 0) (qa_cons (qv 1) (qa_cons (qe_call (sem_len (i := 18)) ih.o18 (rm4 hr) rfl T.m18 T.F18.kp T.b18 (qa_cons (qv 0) (qa_cons qi qa_nil))) qa_nil)))) qa_nil)))))))))))
/- _law_program -/
theorem w_38 (T : Txt K mg tt) (hB : ∀ t ∈ tt, LamX.TabB base mg t.2.1 t.2.2) (ih : IH P w base T n) (cdv : Value) (A : Around) (outer : List Env) (s : Shared) (H : Hp) (E : XK) (hr : Room (4 * n + 3) (A.deeper (envOfC "_law_program" (defScope s_38) s.heap.objs.size (T.f 38) cdv))) :
    PSs (cxOf CX0 P w K mg base N_38 "_law_program" (defScope s_38) (T.f 38) cdv A outer s H E).nox (defBody s_38) (liftS ⟨K, w, tblOf tt⟩ (b_38 (sem fs n))) :=
  (qss_cons (qs_set (i := 1) sc_38.nd rfl (by first | exact Or.inl rfl | exact Or.inr rfl) (qe_op dop_add qi (qe_call (sem_len (i := 18)) ih.o18 (rm4 hr) rfl T.m18 T.F18.kp T.b18 (qa_cons (qv 0) (qa_cons qi qa_nil)))))
  (qss_cons (qs_set (i := 2) sc_38.nd rfl (by first | exact Or.inl rfl | exact Or.inr rfl) (qe_call (sem_len (i := 22)) ih.o22 (rm4 hr) rfl T.m22 T.F22.kp T.b22 (qa_cons (qv 0) (qa_cons (qe_listRg rfl rfl T.z_list (qr_1 rfl T.z_range (qv 1))) (qa_cons qi qa_nil)))))
  (qss_cons (qs_set (i := 3) sc_38.nd rfl (by first | exact Or.inl rfl | exact Or.inr rfl) (qe_op dop_add qi (qe_call (sem_len (i := 18)) ih.o18 (rm4 hr) rfl T.m18 T.F18.kp T.b18 (qa_cons (qv 0) (qa_cons qi qa_nil)))))
  (qss_cons (qs_set (i := 4) sc_38.nd rfl (by first | exact Or.inl rfl | exact Or.inr rfl) (qe_listRg rfl rfl T.z_list (qr_2 rfl T.z_range qi (qv 3))))
  (qss_cons (qs_set (i := 5) sc_38.nd rfl (by first | exact Or.inl rfl | exact Or.inr rfl) (qe_lst qa_nil))
  (qss_cons (qs_for PassesOwn.never rfl (qi_seq (qe_call (sem_len (i := 21)) ih.o21 (rm4 hr) rfl T.m21 T.F21.kp T.b21 (qa_cons (qv 0) (qa_cons (qv 4) qa_nil)))) (qg_name (i := 6) sc_38.nd rfl (by first | exact Or.inl rfl | exact Or.inr rfl)) (qss_one (qs_if (qt_cmp (dop_cmp (hu100 hr) .gt) (qe_call (sem_len (i := 18)) ih.o18 (rm4 hr) rfl T.m18 T.F18.kp T.b18 (qa_cons (qv 0) (qa_cons qi qa_nil))) qi (nomark _)) (qss_one (qs_expr (qe_bm PySem.F.plainAttrs_list PySem.F.slot_list_append PySem.F.type_list_append okLst_ty dmt_append (qv 5) (qa_cons (qe_tup (qa_cons qs (qa_cons (qv 6) qa_nil))) qa_nil)))) qss_nil)))
  (qss_cons (qs_set (i := 7) sc_38.nd rfl (by first | exact Or.inl rfl | exact Or.inr rfl) (qe_call (sem_len (i := 18)) ih.o18 (rm4 hr) rfl T.m18 T.F18.kp T.b18 (qa_cons (qv 0) (qa_cons qi qa_nil))))
  (qss_cons (qs_for PassesOwn.never rfl (qi_range1 rfl T.z_range (qa_cons (qv 7) qa_nil)) (qg_name (i := 8) sc_38.nd rfl (by first | exact Or.inl rfl | exact Or.inr rfl)) (qss_one (qs_expr (qe_bm PySem.F.plainAttrs_list PySem.F.slot_list_insert PySem.F.type_list_insert okLst_ty dmt_insert (qv 5) (qa_cons (qe_call (sem_len (i := 18)) ih.o18 (rm4 hr) rfl T.m18 T.F18.kp T.b18 (qa_cons (qv 0) (qa_cons (qe_op dop_add (qe_callB dcall_len rfl T.z_len (by decide +kernel) (qa_cons (qv 5) qa_nil)) qi) qa_nil))) (qa_cons (qe_call (sem_len (i := 37)) ih.o37 (rm4 hr) rfl T.m37 T.F37.kp T.b37 (qa_cons (qv 0) (qa_cons (qv 2) (qa_cons (qv 4) qa_nil)))) qa_nil))))))
  (qss_cons (qs_set (i := 9) sc_38.nd rfl (by first | exact Or.inl rfl | exact Or.inr rfl) (qe_op dop_sub qi (qv 7)))
  (qss_cons (qs_set (i := 10) sc_38.nd rfl (by first | exact Or.inl rfl | exact Or.inr rfl) (qe_lst (qa_cons (qe_callTy dcall_tuple rfl T.z_tuple (by decide +kernel) (qa_cons (qv 5) qa_nil)) qa_nil)))
  (qss_cons (qs_for PassesOwn.never rfl (qi_seq (qv 4)) (qg_name (i := 6) sc_38.nd rfl (by first | exact Or.inl rfl | exact Or.inr rfl)) (qss_cons (qs_set (i := 11) sc_38.nd rfl (by first | exact Or.inl rfl | exact Or.inr rfl) (qe_lc [("other", 12)] rfl sc_38.nd (qi_seq (qv 4)) (okb (by kernel_rfl)) (by decide) (fun _ _ _ _ _ => (qg_name (i := 12) sc_38.nd rfl (by first | exact Or.inl rfl | exact Or.inr rfl))) (fun _ _ _ _ _ => (qts_one (qt_cmp (dop_ne (hu100 hr)) (qv 12) (qv 6) (nomark _)))) (fun _ _ _ _ _ => (qv 12))))
    (qss_cons (qs_set (i := 13) sc_38.nd rfl (by first | exact Or.inl rfl | exact Or.inr rfl) (qe_callB (dcall_min2 rfl) rfl T.z_min (by decide +kernel) (qa_cons (qv 9) (qa_cons (qe_call (sem_len (i := 19)) ih.o19 (rm4 hr) rfl T.m19 T.F19.kp T.b19 (qa_cons (qv 0) (qa_cons (qe_lst (qa_cons qi (qa_cons qi (qa_cons qi (qa_cons qi (qa_cons qi (qa_cons qi qa_nil))))))) qa_nil))) qa_nil))))
    (qss_cons (qs_set (i := 9) sc_38.nd rfl (by first | exact Or.inl rfl | exact Or.inr rfl) (qe_op dop_sub (qv 9) (qv 13)))
    (qss_one (qs_expr (qe_bm PySem.F.plainAttrs_list PySem.F.slot_list_append PySem.F.type_list_append okLst_ty dmt_append (qv 10) (qa_cons (qe_callTy dcall_tuple rfl T.z_tuple (by decide +kernel) (qa_cons (qe_lc [("k", 8)] rfl sc_38.nd (qi_range1 rfl T.z_range (qa_cons (qv 13) qa_nil)) (okb (by kernel_rfl)) (by decide) (fun _ _ _ _ _ => (qg_name (i := 8) sc_38.nd rfl (by first | exact Or.inl rfl | exact Or.inr rfl))) (fun _ _ _ _ _ => qts_nil) (fun _ _ _ _ _ => (qe_call (sem_len (i := 37)) ih.o37 (rm4 hr) rfl T.m37 T.F37.kp T.b37 (qa_cons (qv 0) (qa_cons (qv 2) (qa_cons (qv 11) qa_nil)))))) qa_nil)) qa_nil))))))))
  (qss_one (qs_ret (qe_tup (qa_cons (qv 1) (qa_cons (qe_callTy dcall_tuple rfl T.z_tuple (by decide +kernel) (qa_cons (qv 10) qa_nil)) qa_nil))))))))))))))))
/- _law_rival_program -/
theorem w_39 (T : Txt K mg tt) (hB : ∀ t ∈ tt, LamX.TabB base mg t.2.1 t.2.2) (ih : IH P w base T n) (cdv : Value) (A : Around) (outer : List Env) (s : Shared) (H : Hp) (E : XK) (hr : Room (4 * n + 3) (A.deeper (envOfC "_law_rival_program" (defScope s_39) s.heap.objs.size (T.f 39) cdv))) :
    PSs (cxOf CX0 P w K mg base N_39 "_law_rival_program" (defScope s_39) (T.f 39) cdv A outer s H E).nox (defBody s_39) (liftS ⟨K, w, tblOf tt⟩ (b_39 (sem fs n))) :=
  (qss_cons (qs_set (i := 1) sc_39.nd rfl (by first | exact Or.inl rfl | exact Or.inr rfl) (qe_op dop_add qi (qe_call (sem_len (i := 18)) ih.o18 (rm4 hr) rfl T.m18 T.F18.kp T.b18 (qa_cons (qv 0) (qa_cons qi qa_nil)))))
  (qss_cons (qs_set (i := 2) sc_39.nd rfl (by first | exact Or.inl rfl | exact Or.inr rfl) (qe_call (sem_len (i := 22)) ih.o22 (rm4 hr) rfl T.m22 T.F22.kp T.b22 (qa_cons (qv 0) (qa_cons (qe_listRg rfl rfl T.z_list (qr_1 rfl T.z_range (qv 1))) (qa_cons qi qa_nil)))))
  (qss_cons (qs_set (i := 3) sc_39.nd rfl (by first | exact Or.inl rfl | exact Or.inr rfl) (qe_op dop_add qi (qe_callTy dcall_int rfl T.z_int (by decide +kernel) (qa_cons (qe_cmp (dop_eq (hu100 hr)) (qe_call (sem_len (i := 18)) ih.o18 (rm4 hr) rfl T.m18 T.F18.kp T.b18 (qa_cons (qv 0) (qa_cons qi qa_nil))) qi (nomark _)) qa_nil))))
  (qss_cons (qs_setLc (i := 4) [("t", 5)] rfl sc_39.nd rfl rfl (sw_true rfl rfl rfl (by decide +kernel)) (qi_seq (qe_call (sem_len (i := 21)) ih.o21 (rm4 hr) rfl T.m21 T.F21.kp T.b21 (qa_cons (qv 0) (qa_cons (qe_listRg rfl rfl T.z_list (qr_2 rfl T.z_range qi (qv 3))) qa_nil)))) (okb (by kernel_rfl)) (by decide) (fun _ _ _ _ _ => (qg_name (i := 5) sc_39.nd rfl (by first | exact Or.inl rfl | exact Or.inr rfl))) (fun _ _ _ _ _ => qts_nil) (fun _ _ _ _ _ => (qe_tup (qa_cons qs (qa_cons (qv 5) qa_nil)))))
  (qss_cons (qs_if (qt_cmp (dop_eq (hu100 hr)) (qe_call (sem_len (i := 18)) ih.o18 (rm4 hr) rfl T.m18 T.F18.kp T.b18 (qa_cons (qv 0) (qa_cons qi qa_nil))) qi (nomark _)) (qss_one (qs_expr (qe_bm PySem.F.plainAttrs_list PySem.F.slot_list_append PySem.F.type_list_append okLst_ty dmt_append (qv 4) (qa_cons (qe_tup (qa_cons qs (qa_cons (qe_call (sem_len (i := 19)) ih.o19 (rm4 hr) rfl T.m19 T.F19.kp T.b19 (qa_cons (qv 0) (qa_cons (qv 2) qa_nil))) (qa_cons (qe_callTy dcall_tuple rfl T.z_tuple (by decide +kernel) (qa_cons (qe_call (sem_len (i := 22)) ih.o22 (rm4 hr) rfl T.m22 T.F22.kp T.b22 (qa_cons (qv 0) (qa_cons (qv 2) (qa_cons qi qa_nil)))) qa_nil)) qa_nil)))) qa_nil)))) qss_nil)
  (qss_cons (qs_set (i := 6) sc_39.nd rfl (by first | exact Or.inl rfl | exact Or.inr rfl) (qe_lst (qa_cons (qe_callTy dcall_tuple rfl T.z_tuple (by decide +kernel) (qa_cons (qv 4) qa_nil)) qa_nil)))
  (qss_cons (qs_for PassesOwn.never rfl (qi_range2 rfl T.z_range (qa_cons qi (qa_cons (qv 3) qa_nil))) (qg_name (i := 5) sc_39.nd rfl (by first | exact Or.inl rfl | exact Or.inr rfl)) (qss_cons (qs_set (i := 7) sc_39.nd rfl (by first | exact Or.inl rfl | exact Or.inr rfl) (qe_lst (qa_cons (qe_tup (qa_cons qs (qa_cons (qe_call (sem_len (i := 19)) ih.o19 (rm4 hr) rfl T.m19 T.F19.kp T.b19 (qa_cons (qv 0) (qa_cons (qv 2) qa_nil))) (qa_cons (qe_call (sem_len (i := 25)) ih.o25 (rm4 hr) rfl T.m25 T.F25.kp T.b25 (qa_cons (qv 0) qa_nil)) (qa_cons (qe_tup qa_nil) qa_nil))))) qa_nil)))
    (qss_cons (qs_if (qt_w (qw_and (qt_cmp (dop_eq (hu100 hr)) (qv 3) qi (nomark _)) (qw_and1 (qt_cmp (dop_eq (hu100 hr)) (qe_call (sem_len (i := 18)) ih.o18 (rm4 hr) rfl T.m18 T.F18.kp T.b18 (qa_cons (qv 0) (qa_cons qi qa_nil))) qi (nomark _))))) (qss_one (qs_expr (qe_bm PySem.F.plainAttrs_list PySem.F.slot_list_append PySem.F.type_list_append okLst_ty dmt_append (qv 7) (qa_cons (qe_call (sem_len (i := 37)) ih.o37 (rm4 hr) rfl T.m37 T.F37.kp T.b37 (qa_cons (qv 0) (qa_cons (qv 2) (qa_cons (qe_lst qa_nil) qa_nil)))) qa_nil)))) qss_nil)
    (qss_one (qs_expr (qe_bm PySem.F.plainAttrs_list PySem.F.slot_list_append PySem.F.type_list_append okLst_ty dmt_append (qv 6) (qa_cons (qe_callTy dcall_tuple rfl T.z_tuple (by decide +kernel) (qa_cons (qv 7) qa_nil)) qa_nil)))))))
  (qss_one (qs_ret (qe_tup (qa_cons (qv 1) (qa_cons (qe_callTy dcall_tuple rfl T.z_tuple (by decide +kernel) (qa_cons (qv 6) qa_nil)) qa_nil))))))))))))
/- _law_any_program -/
theorem w_40 (T : Txt K mg tt) (hB : ∀ t ∈ tt, LamX.TabB base mg t.2.1 t.2.2) (ih : IH P w base T n) (cdv : Value) (A : Around) (outer : List Env) (s : Shared) (H : Hp) (E : XK) (hr : Room (4 * n + 3) (A.deeper (envOfC "_law_any_program" (defScope s_40) s.heap.objs.size (T.f 40) cdv))) :
    PSs (cxOf CX0 P w K mg base N_40 "_law_any_program" (defScope s_40) (T.f 40) cdv A outer s H E).nox (defBody s_40) (liftS ⟨K, w, tblOf tt⟩ (b_40 (sem fs n))) :=
  (qss_cons (qs_if (qt_cmp (dop_eq (hu100 hr)) (qe_call (sem_len (i := 18)) ih.o18 (rm4 hr) rfl T.m18 T.F18.kp T.b18 (qa_cons (qv 0) (qa_cons qi qa_nil))) qi (nomark _)) (qss_one (qs_ret (qe_call (sem_len (i := 39)) ih.o39 (rm4 hr) rfl T.m39 T.F39.kp T.b39 (qa_cons (qv 0) qa_nil)))) qss_nil)
  (qss_one (qs_ret (qe_call (sem_len (i := 38)) ih.o38 (rm4 hr) rfl T.m38 T.F38.kp T.b38 (qa_cons (qv 0) qa_nil)))))
/- _law_changed_program -/
theorem w_41 (T : Txt K mg tt) (hB : ∀ t ∈ tt, LamX.TabB base mg t.2.1 t.2.2) (ih : IH P w base T n) (cdv : Value) (A : Around) (outer : List Env) (s : Shared) (H : Hp) (E : XK) (hr : Room (4 * n + 3) (A.deeper (envOfC "_law_changed_program" (defScope s_41) s.heap.objs.size (T.f 41) cdv))) :
    PSs (cxOf CX0 P w K mg base N_41 "_law_changed_program" (defScope s_41) (T.f 41) cdv A outer s H E).nox (defBody s_41) (liftS ⟨K, w, tblOf tt⟩ (b_41 (sem fs n))) :=
  (qss_cons (qs_asg (qv 1) (qg_tup rfl (qgs_cons (qg_name (i := 2) sc_41.nd rfl (by first | exact Or.inl rfl | exact Or.inr rfl)) (qgs_cons (qg_name (i := 3) sc_41.nd rfl (by first | exact Or.inl rfl | exact Or.inr rfl)) qgs_nil))))
  (qss_cons (qs_setLc (i := 4) [("t", 5)] rfl sc_41.nd rfl rfl (sw_true rfl rfl rfl (by decide +kernel)) (qi_range1 rfl T.z_range (qa_cons (qe_callB dcall_len rfl T.z_len (by decide +kernel) (qa_cons (qv 3) qa_nil)) qa_nil)) (okb (by kernel_rfl)) (by decide) (fun _ _ _ _ _ => (qg_name (i := 5) sc_41.nd rfl (by first | exact Or.inl rfl | exact Or.inr rfl))) (fun _ _ _ _ _ => (qts_one (qt_cmp (dop_cmp (hu100 hr) .gt) (qe_callB dcall_len rfl T.z_len (by decide +kernel) (qa_cons (qe_ix (hu100 hr) (qv 3) (qv 5) (fun _ _ => rfl)) qa_nil)) qi (nomark _)))) (fun _ _ _ _ _ => (qv 5)))
  (qss_cons (qs_set (i := 6) sc_41.nd rfl (by first | exact Or.inl rfl | exact Or.inr rfl) (qe_call (sem_len (i := 18)) ih.o18 (rm4 hr) rfl T.m18 T.F18.kp T.b18 (qa_cons (qv 0) (qa_cons qi qa_nil))))
  (qss_cons (qs_if (qt_w (qw_or (qt_cmp (dop_eq (hu100 hr)) (qv 6) qi (nomark _)) (qw_or1 (qt_cmp (dop_eq (hu100 hr)) (qe_callB dcall_len rfl T.z_len (by decide +kernel) (qa_cons (qv 4) qa_nil)) qi (nomark _))))) (qss_one (qs_ret (qe_tup (qa_cons (qe_op dop_add (qv 2) qi) (qa_cons (qv 3) qa_nil))))) qss_nil)
  (qss_cons (qs_set (i := 5) sc_41.nd rfl (by first | exact Or.inl rfl | exact Or.inr rfl) (qe_call (sem_len (i := 19)) ih.o19 (rm4 hr) rfl T.m19 T.F19.kp T.b19 (qa_cons (qv 0) (qa_cons (qv 4) qa_nil))))
  (qss_cons (qs_set (i := 7) sc_41.nd rfl (by first | exact Or.inl rfl | exact Or.inr rfl) (qe_call (sem_len (i := 18)) ih.o18 (rm4 hr) rfl T.m18 T.F18.kp T.b18 (qa_cons (qv 0) (qa_cons (qe_callB dcall_len rfl T.z_len (by decide +kernel) (qa_cons (qe_ix (hu100 hr) (qv 3) (qv 5) (fun _ _ => rfl)) qa_nil)) qa_nil))))
  (qss_cons (qs_set (i := 8) sc_41.nd rfl (by first | exact Or.inl rfl | exact Or.inr rfl) (qe_ix (hu100 hr) (qe_ix (hu100 hr) (qv 3) (qv 5) (fun _ _ => rfl)) (qv 7) (fun _ _ => rfl)))
  (qss_cons (qs_if (qt_cmp (dop_eq (hu100 hr)) (qv 6) qi (nomark _)) (qss_one (qs_ret (qe_tup (qa_cons (qv 2) (qa_cons (qe_call (sem_len (i := 23)) ih.o23 (rm4 hr) rfl T.m23 T.F23.kp T.b23 (qa_cons (qv 3) (qa_cons (qv 5) (qa_cons (qe_call (sem_len (i := 24)) ih.o24 (rm4 hr) rfl T.m24 T.F24.kp T.b24 (qa_cons (qe_ix (hu100 hr) (qv 3) (qv 5) (fun _ _ => rfl)) (qa_cons (qv 7) qa_nil))) qa_nil)))) qa_nil))))) qss_nil)
  (qss_cons (qs_if (qt_w (qw_and (qt_cmp (dop_eq (hu100 hr)) (qv 6) qi (nomark _)) (qw_and1 (qt_cmp (dop_cmp (hu100 hr) .gt) (qe_callB dcall_len rfl T.z_len (by decide +kernel) (qa_cons (qe_ix (hu100 hr) (qv 3) (qv 5) (fun _ _ => rfl)) qa_nil)) qi (nomark _))))) (qss_cons (qs_set (i := 9) sc_41.nd rfl (by first | exact Or.inl rfl | exact Or.inr rfl) (qe_call (sem_len (i := 18)) ih.o18 (rm4 hr) rfl T.m18 T.F18.kp T.b18 (qa_cons (qv 0) (qa_cons (qe_callB dcall_len rfl T.z_len (by decide +kernel) (qa_cons (qe_ix (hu100 hr) (qv 3) (qv 5) (fun _ _ => rfl)) qa_nil)) qa_nil))))
    (qss_one (qs_ret (qe_tup (qa_cons (qv 2) (qa_cons (qe_call (sem_len (i := 23)) ih.o23 (rm4 hr) rfl T.m23 T.F23.kp T.b23 (qa_cons (qv 3) (qa_cons (qv 5) (qa_cons (qe_call (sem_len (i := 23)) ih.o23 (rm4 hr) rfl T.m23 T.F23.kp T.b23 (qa_cons (qe_call (sem_len (i := 23)) ih.o23 (rm4 hr) rfl T.m23 T.F23.kp T.b23 (qa_cons (qe_ix (hu100 hr) (qv 3) (qv 5) (fun _ _ => rfl)) (qa_cons (qv 7) (qa_cons (qe_ix (hu100 hr) (qe_ix (hu100 hr) (qv 3) (qv 5) (fun _ _ => rfl)) (qv 9) (fun _ _ => rfl)) qa_nil)))) (qa_cons (qv 9) (qa_cons (qv 8) qa_nil)))) qa_nil)))) qa_nil)))))) qss_nil)
  (qss_cons (qs_if (qt_w (qw_and (qt_cmp (dop_eq (hu100 hr)) (qe_ix (hu100 hr) (qv 8) qi (fun _ _ => rfl)) qs (nomark _)) (qw_and1 (qt_cmp (dop_eq (hu100 hr)) (qv 6) qi (nomark _))))) (qss_one (qs_ret (qe_tup (qa_cons (qv 2) (qa_cons (qe_call (sem_len (i := 23)) ih.o23 (rm4 hr) rfl T.m23 T.F23.kp T.b23 (qa_cons (qv 3) (qa_cons (qv 5) (qa_cons (qe_call (sem_len (i := 23)) ih.o23 (rm4 hr) rfl T.m23 T.F23.kp T.b23 (qa_cons (qe_ix (hu100 hr) (qv 3) (qv 5) (fun _ _ => rfl)) (qa_cons (qv 7) (qa_cons (qe_tup (qa_cons qs (qa_cons (qe_ix (hu100 hr) (qv 8) qi (fun _ _ => rfl)) (qa_cons (qe_op dop_add (qe_ix (hu100 hr) (qv 8) qi (fun _ _ => rfl)) qi) (qa_cons (qe_ix (hu100 hr) (qv 8) qi (fun _ _ => rfl)) qa_nil))))) qa_nil)))) qa_nil)))) qa_nil))))) qss_nil)
  (qss_cons (qs_if (qt_w (qw_or (qt_cmp (dop_eq (hu100 hr)) (qe_ix (hu100 hr) (qv 8) qi (fun _ _ => rfl)) qs (nomark _)) (qw_or1 (qt_cmp (dop_eq (hu100 hr)) (qv 2) qi (nomark _))))) (qss_one (qs_ret (qv 1))) qss_nil)
  (qss_one (qs_ret (qe_tup (qa_cons (qv 2) (qa_cons (qe_call (sem_len (i := 23)) ih.o23 (rm4 hr) rfl T.m23 T.F23.kp T.b23 (qa_cons (qv 3) (qa_cons (qv 5) (qa_cons (qe_call (sem_len (i := 23)) ih.o23 (rm4 hr) rfl T.m23 T.F23.kp T.b23 (qa_cons (qe_ix (hu100 hr) (qv 3) (qv 5) (fun _ _ => rfl)) (qa_cons (qv 7) (qa_cons (qe_tup (qa_cons qs (qa_cons (qe_call (sem_len (i := 18)) ih.o18 (rm4 hr) rfl T.m18 T.F18.kp T.b18 (qa_cons (qv 0) (qa_cons (qv 2) qa_nil))) qa_nil))) qa_nil)))) qa_nil)))) qa_nil))))))))))))))))
/- _law_difference -/
theorem w_42 (T : Txt K mg tt) (hB : ∀ t ∈ tt, LamX.TabB base mg t.2.1 t.2.2) (ih : IH P w base T n) (cdv : Value) (A : Around) (outer : List Env) (s : Shared) (H : Hp) (E : XK) (hr : Room (4 * n + 3) (A.deeper (envOfC "_law_difference" (defScope s_42) s.heap.objs.size (T.f 42) cdv))) :
    PSs (cxOf CX0 P w K mg base N_42 "_law_difference" (defScope s_42) (T.f 42) cdv A outer s H E).nox (defBody s_42) (liftS ⟨K, w, tblOf tt⟩ (b_42 (sem fs n))) :=
  (qss_cons (qs_set (i := 2) sc_42.nd rfl (by first | exact Or.inl rfl | exact Or.inr rfl) (qe_call (sem_len (i := 35)) ih.o35 (rm4 hr) rfl T.m35 T.F35.kp T.b35 (qa_cons (qv 0) qa_nil)))
  (qss_cons (qs_set (i := 3) sc_42.nd rfl (by first | exact Or.inl rfl | exact Or.inr rfl) (qe_call (sem_len (i := 35)) ih.o35 (rm4 hr) rfl T.m35 T.F35.kp T.b35 (qa_cons (qv 1) qa_nil)))
  (qss_cons (qs_set (i := 4) sc_42.nd rfl (by first | exact Or.inl rfl | exact Or.inr rfl) (qe_lc [("row", 5)] rfl sc_42.nd (qi_seq (qv 2)) (okb (by kernel_rfl)) (by decide) (fun _ _ _ _ _ => (qg_name (i := 5) sc_42.nd rfl (by first | exact Or.inl rfl | exact Or.inr rfl))) (fun _ _ _ _ _ => qts_nil) (fun _ _ _ _ _ => (qe_ix (hu100 hr) (qv 5) qi (fun _ _ => rfl)))))
  (qss_cons (qs_set (i := 6) sc_42.nd rfl (by first | exact Or.inl rfl | exact Or.inr rfl) (qe_lc [("row", 5)] rfl sc_42.nd (qi_seq (qv 3)) (okb (by kernel_rfl)) (by decide) (fun _ _ _ _ _ => (qg_name (i := 5) sc_42.nd rfl (by first | exact Or.inl rfl | exact Or.inr rfl))) (fun _ _ _ _ _ => qts_nil) (fun _ _ _ _ _ => (qe_ix (hu100 hr) (qv 5) qi (fun _ _ => rfl)))))
  (qss_cons (qs_setLc (i := 7) [("row", 5)] rfl sc_42.nd rfl rfl (sw_true rfl rfl rfl (by decide +kernel)) (qi_seq (qv 2)) (okb (by kernel_rfl)) (by decide) (fun _ _ _ _ _ => (qg_name (i := 5) sc_42.nd rfl (by first | exact Or.inl rfl | exact Or.inr rfl))) (fun _ _ _ _ _ => (qts_one (qt_cmp (dop_notin (hu100 hr)) (qe_ix (hu100 hr) (qv 5) qi (fun _ _ => rfl)) (qv 6) (by with_unfolding_all rfl)))) (fun _ _ _ _ _ => (qv 5)))
  (qss_cons (qs_setLc (i := 8) [("row", 5)] rfl sc_42.nd rfl rfl (sw_true rfl rfl rfl (by decide +kernel)) (qi_seq (qv 3)) (okb (by kernel_rfl)) (by decide) (fun _ _ _ _ _ => (qg_name (i := 5) sc_42.nd rfl (by first | exact Or.inl rfl | exact Or.inr rfl))) (fun _ _ _ _ _ => (qts_one (qt_cmp (dop_notin (hu100 hr)) (qe_ix (hu100 hr) (qv 5) qi (fun _ _ => rfl)) (qv 4) (by with_unfolding_all rfl)))) (fun _ _ _ _ _ => (qv 5)))
  (qss_cons (qs_setLc (i := 9) [("row", 5)] rfl sc_42.nd rfl rfl (sw_true rfl rfl rfl (by decide +kernel)) (qi_seq (qe_op dop_add (qv 7) (qv 8))) (okb (by kernel_rfl)) (by decide) (fun _ _ _ _ _ => (qg_name (i := 5) sc_42.nd rfl (by first | exact Or.inl rfl | exact Or.inr rfl))) (fun _ _ _ _ _ => qts_nil) (fun _ _ _ _ _ => (qe_tup (qa_cons (qe_call (sem_len (i := 34)) ih.o34 (rm4 hr) rfl T.m34 T.F34.kp T.b34 (qa_cons (qe_ix (hu100 hr) (qv 5) qi (fun _ _ => rfl)) qa_nil)) (qa_cons (qe_ix (hu100 hr) (qv 5) qi (fun _ _ => rfl)) (qa_cons (qe_ix (hu100 hr) (qv 5) qi (fun _ _ => rfl)) qa_nil))))))
  (qss_cons (qs_if (qt_cmp (dop_eq (hu100 hr)) (qe_callB dcall_len rfl T.z_len (by decide +kernel) (qa_cons (qv 9) qa_nil)) qi (nomark _)) (qss_one (qs_ret qn)) qss_nil)
  (qss_cons (qs_set (i := 10) sc_42.nd rfl (by first | exact Or.inl rfl | exact Or.inr rfl) (qe_callB (dcall_minD rfl (hu100 hr)) rfl T.z_min (by decide +kernel) (qa_cons (qe_lc [("row", 5)] rfl sc_42.nd (qi_seq (qv 9)) (okb (by kernel_rfl)) (by decide) (fun _ _ _ _ _ => (qg_name (i := 5) sc_42.nd rfl (by first | exact Or.inl rfl | exact Or.inr rfl))) (fun _ _ _ _ _ => qts_nil) (fun _ _ _ _ _ => (qe_ix (hu100 hr) (qv 5) qi (fun _ _ => rfl)))) qa_nil)))
  (qss_cons (qs_set (i := 11) sc_42.nd rfl (by first | exact Or.inl rfl | exact Or.inr rfl) (qe_ix (hu100 hr) (qe_lc [("row", 5)] rfl sc_42.nd (qi_seq (qv 9)) (okb (by kernel_rfl)) (by decide) (fun _ _ _ _ _ => (qg_name (i := 5) sc_42.nd rfl (by first | exact Or.inl rfl | exact Or.inr rfl))) (fun _ _ _ _ _ => (qts_one (qt_cmp (dop_eq (hu100 hr)) (qe_ix (hu100 hr) (qv 5) qi (fun _ _ => rfl)) (qv 10) (nomark _)))) (fun _ _ _ _ _ => (qv 5))) qi (fun _ _ => rfl)))
  (qss_one (qs_ret (qe_tup (qa_cons (qe_ix (hu100 hr) (qv 11) qi (fun _ _ => rfl)) (qa_cons (qe_ix (hu100 hr) (qv 11) qi (fun _ _ => rfl)) qa_nil)))))))))))))))
/- law -/
theorem w_43 (T : Txt K mg tt) (hB : ∀ t ∈ tt, LamX.TabB base mg t.2.1 t.2.2) (ih : IH P w base T n) (cdv : Value) (A : Around) (outer : List Env) (s : Shared) (H : Hp) (E : XK) (hr : Room (4 * n + 3) (A.deeper (envOfC "law" (defScope s_43) s.heap.objs.size (T.f 43) cdv))) :
    PSs (cxOf CX0 P w K mg base N_43 "law" (defScope s_43) (T.f 43) cdv A outer s H E).nox (defBody s_43) (liftS ⟨K, w, tblOf tt⟩ (b_43 (sem fs n))) :=
  (qss_cons (qs_set (i := 1) sc_43.nd rfl (by first | exact Or.inl rfl | exact Or.inr rfl) (qe_call (sem_len (i := 17)) ih.o17 (rm4 hr) rfl T.m17 T.F17.kp T.b17 (qa_cons (qv 0) (qa_cons qi qa_nil))))
  (qss_cons (qs_for PassesOwn.never rfl (qi_range1 rfl T.z_range (qa_cons qi qa_nil)) (qg_name (i := 2) sc_43.nd rfl (by first | exact Or.inl rfl | exact Or.inr rfl)) (qss_cons (qs_set (i := 3) sc_43.nd rfl (by first | exact Or.inl rfl | exact Or.inr rfl) (qe_call (sem_len (i := 40)) ih.o40 (rm4 hr) rfl T.m40 T.F40.kp T.b40 (qa_cons (qv 1) qa_nil)))
    (qss_cons (qs_set (i := 4) sc_43.nd rfl (by first | exact Or.inl rfl | exact Or.inr rfl) (qe_call (sem_len (i := 41)) ih.o41 (rm4 hr) rfl T.m41 T.F41.kp T.b41 (qa_cons (qv 1) (qa_cons (qv 3) qa_nil))))
    (qss_cons (qs_if (qt_cmp (dop_eq (hu100 hr)) (qe_call (sem_len (i := 18)) ih.o18 (rm4 hr) rfl T.m18 T.F18.kp T.b18 (qa_cons (qv 1) (qa_cons qi qa_nil))) qi (nomark _)) (qss_one (qs_set (i := 4) sc_43.nd rfl (by first | exact Or.inl rfl | exact Or.inr rfl) (qe_call (sem_len (i := 40)) ih.o40 (rm4 hr) rfl T.m40 T.F40.kp T.b40 (qa_cons (qv 1) qa_nil)))) qss_nil)
    (qss_cons (qs_set (i := 5) sc_43.nd rfl (by first | exact Or.inl rfl | exact Or.inr rfl) (qe_call (sem_len (i := 42)) ih.o42 (rm4 hr) rfl T.m42 T.F42.kp T.b42 (qa_cons (qv 3) (qa_cons (qv 4) qa_nil))))
    (qss_cons (qs_if (qt_not (qt_val (qe_call (sem_len (i := 20)) ih.o20 (rm4 hr) rfl T.m20 T.F20.kp T.b20 (qa_cons (qe_call (sem_len (i := 16)) ih.o16 (rm4 hr) rfl T.m16 T.F16.kp T.b16 (qa_cons (qv 3) (qa_cons (qv 4) qa_nil))) (qa_cons (qe_cmp dop_is (qv 5) qn (nomark _)) qa_nil))))) (qss_one (qs_ret qb)) qss_nil)
    (qss_one (qs_if (qt_not (qt_val (qe_call (sem_len (i := 20)) ih.o20 (rm4 hr) rfl T.m20 T.F20.kp T.b20 (qa_cons (qe_call (sem_len (i := 15)) ih.o15 (rm4 hr) rfl T.m15 T.F15.kp T.b15 (qa_cons (qv 3) (qa_cons (qv 4) qa_nil))) (qa_cons (qv 5) qa_nil))))) (qss_one (qs_ret qb)) qss_nil))))))))
  (qss_one (qs_ret (qe_and (qe_cmp dop_is (qe_call (sem_len (i := 16)) ih.o16 (rm4 hr) rfl T.m16 T.F16.kp T.b16 (qa_cons (qv 3) (qa_cons (qv 3) qa_nil))) qb (nomark _)) (qe_one (qe_cmp dop_is (qe_call (sem_len (i := 15)) ih.o15 (rm4 hr) rfl T.m15 T.F15.kp T.b15 (qa_cons (qv 3) (qa_cons (qv 3) qa_nil))) qn (nomark _))))))))
end
theorem all {P : Program} {w : World} {K : PySem.W.Frag} {mg : Str → Option Value} {tt : LT} {base : Heap} (T : Txt K mg tt) (hB : ∀ t ∈ tt, LamX.TabB base mg t.2.1 t.2.2) : ∀ n, IH P w base T n
  | 0 => ⟨FnOk.zero rfl, FnOk.zero rfl, FnOk.zero rfl, FnOk.zero rfl, FnOk.zero rfl, FnOk.zero rfl, FnOk.zero rfl, FnOk.zero rfl, FnOk.zero rfl, FnOk.zero rfl, FnOk.zero rfl, FnOk.zero rfl, FnOk.zero rfl, FnOk.zero rfl, FnOk.zero rfl, FnOk.zero rfl, FnOk.zero rfl, FnOk.zero rfl, FnOk.zero rfl, FnOk.zero rfl, FnOk.zero rfl, FnOk.zero rfl, FnOk.zero rfl, FnOk.zero rfl, FnOk.zero rfl, FnOk.zero rfl, FnOk.zero rfl, FnOk.zero rfl, FnOk.zero rfl, FnOk.zero rfl, FnOk.zero rfl, FnOk.zero rfl, FnOk.zero rfl, FnOk.zero rfl, FnOk.zero rfl, FnOk.zero rfl, FnOk.zero rfl, FnOk.zero rfl, FnOk.zero rfl, FnOk.zero rfl, FnOk.zero rfl, FnOk.zero rfl, FnOk.zero rfl, FnOk.zero rfl⟩
  | n + 1 => by
    have ih := all (P := P) (w := w) (base := base) T hB n
    exact ⟨fn_ok T.F0 sc_0 rfl rfl (fun cdv A outer s H E hr => w_0 T hB ih cdv A outer s H E hr), fn_ok T.F1 sc_1 rfl rfl (fun cdv A outer s H E hr => w_1 T hB ih cdv A outer s H E hr), fn_ok T.F2 sc_2 rfl rfl (fun cdv A outer s H E hr => w_2 T hB ih cdv A outer s H E hr), fn_ok T.F3 sc_3 rfl rfl (fun cdv A outer s H E hr => w_3 T hB ih cdv A outer s H E hr), fn_ok T.F4 sc_4 rfl rfl (fun cdv A outer s H E hr => w_4 T hB ih cdv A outer s H E hr), fn_ok T.F5 sc_5 rfl rfl (fun cdv A outer s H E hr => w_5 T hB ih cdv A outer s H E hr), fn_ok T.F6 sc_6 rfl rfl (fun cdv A outer s H E hr => w_6 T hB ih cdv A outer s H E hr), fn_ok T.F7 sc_7 rfl rfl (fun cdv A outer s H E hr => w_7 T hB ih cdv A outer s H E hr), fn_ok T.F8 sc_8 rfl rfl (fun cdv A outer s H E hr => w_8 T hB ih cdv A outer s H E hr), fn_ok T.F9 sc_9 rfl rfl (fun cdv A outer s H E hr => w_9 T hB ih cdv A outer s H E hr), fn_ok T.F10 sc_10 rfl rfl (fun cdv A outer s H E hr => w_10 T hB ih cdv A outer s H E hr), fn_ok T.F11 sc_11 rfl rfl (fun cdv A outer s H E hr => w_11 T hB ih cdv A outer s H E hr), fn_ok T.F12 sc_12 rfl rfl (fun cdv A outer s H E hr => w_12 T hB ih cdv A outer s H E hr), fn_ok T.F13 sc_13 rfl rfl (fun cdv A outer s H E hr => w_13 T hB ih cdv A outer s H E hr), fn_ok T.F14 sc_14 rfl rfl (fun cdv A outer s H E hr => w_14 T hB ih cdv A outer s H E hr), fn_okC T.C15 sc_15 rfl rfl (fun A outer s H E hr => w_15 T hB ih A outer s H E hr), fn_ok T.F16 sc_16 rfl rfl (fun cdv A outer s H E hr => w_16 T hB ih cdv A outer s H E hr), fn_ok T.F17 sc_17 rfl rfl (fun cdv A outer s H E hr => w_17 T hB ih cdv A outer s H E hr), fn_ok T.F18 sc_18 rfl rfl (fun cdv A outer s H E hr => w_18 T hB ih cdv A outer s H E hr), fn_ok T.F19 sc_19 rfl rfl (fun cdv A outer s H E hr => w_19 T hB ih cdv A outer s H E hr), fn_ok T.F20 sc_20 rfl rfl (fun cdv A outer s H E hr => w_20 T hB ih cdv A outer s H E hr), fn_ok T.F21 sc_21 rfl rfl (fun cdv A outer s H E hr => w_21 T hB ih cdv A outer s H E hr), fn_ok T.F22 sc_22 rfl rfl (fun cdv A outer s H E hr => w_22 T hB ih cdv A outer s H E hr), fn_ok T.F23 sc_23 rfl rfl (fun cdv A outer s H E hr => w_23 T hB ih cdv A outer s H E hr), fn_ok T.F24 sc_24 rfl rfl (fun cdv A outer s H E hr => w_24 T hB ih cdv A outer s H E hr), fn_ok T.F25 sc_25 rfl rfl (fun cdv A outer s H E hr => w_25 T hB ih cdv A outer s H E hr), fn_ok T.F26 sc_26 rfl rfl (fun cdv A outer s H E hr => w_26 T hB ih cdv A outer s H E hr), fn_ok T.F27 sc_27 rfl rfl (fun cdv A outer s H E hr => w_27 T hB ih cdv A outer s H E hr), fn_ok T.F28 sc_28 rfl rfl (fun cdv A outer s H E hr => w_28 T hB ih cdv A outer s H E hr), fn_ok T.F29 sc_29 rfl rfl (fun cdv A outer s H E hr => w_29 T hB ih cdv A outer s H E hr), fn_ok T.F30 sc_30 rfl rfl (fun cdv A outer s H E hr => w_30 T hB ih cdv A outer s H E hr), fn_ok T.F31 sc_31 rfl rfl (fun cdv A outer s H E hr => w_31 T hB ih cdv A outer s H E hr), fn_ok T.F32 sc_32 rfl rfl (fun cdv A outer s H E hr => w_32 T hB ih cdv A outer s H E hr), fn_ok T.F33 sc_33 rfl rfl (fun cdv A outer s H E hr => w_33 T hB ih cdv A outer s H E hr), fn_ok T.F34 sc_34 rfl rfl (fun cdv A outer s H E hr => w_34 T hB ih cdv A outer s H E hr), fn_ok T.F35 sc_35 rfl rfl (fun cdv A outer s H E hr => w_35 T hB ih cdv A outer s H E hr), fn_ok T.F36 sc_36 rfl rfl (fun cdv A outer s H E hr => w_36 T hB ih cdv A outer s H E hr), fn_ok T.F37 sc_37 rfl rfl (fun cdv A outer s H E hr => w_37 T hB ih cdv A outer s H E hr), fn_ok T.F38 sc_38 rfl rfl (fun cdv A outer s H E hr => w_38 T hB ih cdv A outer s H E hr), fn_ok T.F39 sc_39 rfl rfl (fun cdv A outer s H E hr => w_39 T hB ih cdv A outer s H E hr), fn_ok T.F40 sc_40 rfl rfl (fun cdv A outer s H E hr => w_40 T hB ih cdv A outer s H E hr), fn_ok T.F41 sc_41 rfl rfl (fun cdv A outer s H E hr => w_41 T hB ih cdv A outer s H E hr), fn_ok T.F42 sc_42 rfl rfl (fun cdv A outer s H E hr => w_42 T hB ih cdv A outer s H E hr), fn_ok T.F43 sc_43 rfl rfl (fun cdv A outer s H E hr => w_43 T hB ih cdv A outer s H E hr)⟩
def lamNames : List Str := ["first_difference"]
theorem all_mk {l : PySem.W.OpenLaw} {w : World} {K : PySem.W.Frag} {h : Heap} {mg : Str → Option Value} {fa f0 f1 f2 f3 f4 f5 f6 f7 f8 f9 f10 f11 f12 f13 f14 f15 f16 f17 f18 f19 f20 f21 f22 f23 f24 f25 f26 f27 f28 f29 f30 f31 f32 f33 f34 f35 f36 f37 f38 f39 f40 f41 f42 f43 : Addr} (X : K.In h) (G : h.Ns mainGlobals mg) (hfa : mg "law" = some (.ref fa))
    {od0 an0 : Option Addr} {sl0 : Array (Option Value)} {oc0 kV0 dc0 pm0 cd0 ct0 : Value}
    {od1 an1 : Option Addr} {sl1 : Array (Option Value)} {oc1 kV1 dc1 pm1 cd1 ct1 : Value}
    {od2 an2 : Option Addr} {sl2 : Array (Option Value)} {oc2 kV2 dc2 pm2 cd2 ct2 : Value}
    {od3 an3 : Option Addr} {sl3 : Array (Option Value)} {oc3 kV3 dc3 pm3 cd3 ct3 : Value}
    {od4 an4 : Option Addr} {sl4 : Array (Option Value)} {oc4 kV4 dc4 pm4 cd4 ct4 : Value}
    {od5 an5 : Option Addr} {sl5 : Array (Option Value)} {oc5 kV5 dc5 pm5 cd5 ct5 : Value}
    {od6 an6 : Option Addr} {sl6 : Array (Option Value)} {oc6 kV6 dc6 pm6 cd6 ct6 : Value}
    {od7 an7 : Option Addr} {sl7 : Array (Option Value)} {oc7 kV7 dc7 pm7 cd7 ct7 : Value}
    {od8 an8 : Option Addr} {sl8 : Array (Option Value)} {oc8 kV8 dc8 pm8 cd8 ct8 : Value}
    {od9 an9 : Option Addr} {sl9 : Array (Option Value)} {oc9 kV9 dc9 pm9 cd9 ct9 : Value}
    {od10 an10 : Option Addr} {sl10 : Array (Option Value)} {oc10 kV10 dc10 pm10 cd10 ct10 : Value}
    {od11 an11 : Option Addr} {sl11 : Array (Option Value)} {oc11 kV11 dc11 pm11 cd11 ct11 : Value}
    {od12 an12 : Option Addr} {sl12 : Array (Option Value)} {oc12 kV12 dc12 pm12 cd12 ct12 : Value}
    {od13 an13 : Option Addr} {sl13 : Array (Option Value)} {oc13 kV13 dc13 pm13 cd13 ct13 : Value}
    {od14 an14 : Option Addr} {sl14 : Array (Option Value)} {oc14 kV14 dc14 pm14 cd14 ct14 : Value}
    {od15 an15 : Option Addr} {sl15 : Array (Option Value)} {oc15 kV15 dc15 pm15 cd15 ct15 : Value}
    {od16 an16 : Option Addr} {sl16 : Array (Option Value)} {oc16 kV16 dc16 pm16 cd16 ct16 : Value}
    {od17 an17 : Option Addr} {sl17 : Array (Option Value)} {oc17 kV17 dc17 pm17 cd17 ct17 : Value}
    {od18 an18 : Option Addr} {sl18 : Array (Option Value)} {oc18 kV18 dc18 pm18 cd18 ct18 : Value}
    {od19 an19 : Option Addr} {sl19 : Array (Option Value)} {oc19 kV19 dc19 pm19 cd19 ct19 : Value}
    {od20 an20 : Option Addr} {sl20 : Array (Option Value)} {oc20 kV20 dc20 pm20 cd20 ct20 : Value}
    {od21 an21 : Option Addr} {sl21 : Array (Option Value)} {oc21 kV21 dc21 pm21 cd21 ct21 : Value}
    {od22 an22 : Option Addr} {sl22 : Array (Option Value)} {oc22 kV22 dc22 pm22 cd22 ct22 : Value}
    {od23 an23 : Option Addr} {sl23 : Array (Option Value)} {oc23 kV23 dc23 pm23 cd23 ct23 : Value}
    {od24 an24 : Option Addr} {sl24 : Array (Option Value)} {oc24 kV24 dc24 pm24 cd24 ct24 : Value}
    {od25 an25 : Option Addr} {sl25 : Array (Option Value)} {oc25 kV25 dc25 pm25 cd25 ct25 : Value}
    {od26 an26 : Option Addr} {sl26 : Array (Option Value)} {oc26 kV26 dc26 pm26 cd26 ct26 : Value}
    {od27 an27 : Option Addr} {sl27 : Array (Option Value)} {oc27 kV27 dc27 pm27 cd27 ct27 : Value}
    {od28 an28 : Option Addr} {sl28 : Array (Option Value)} {oc28 kV28 dc28 pm28 cd28 ct28 : Value}
    {od29 an29 : Option Addr} {sl29 : Array (Option Value)} {oc29 kV29 dc29 pm29 cd29 ct29 : Value}
    {od30 an30 : Option Addr} {sl30 : Array (Option Value)} {oc30 kV30 dc30 pm30 cd30 ct30 : Value}
    {od31 an31 : Option Addr} {sl31 : Array (Option Value)} {oc31 kV31 dc31 pm31 cd31 ct31 : Value}
    {od32 an32 : Option Addr} {sl32 : Array (Option Value)} {oc32 kV32 dc32 pm32 cd32 ct32 : Value}
    {od33 an33 : Option Addr} {sl33 : Array (Option Value)} {oc33 kV33 dc33 pm33 cd33 ct33 : Value}
    {od34 an34 : Option Addr} {sl34 : Array (Option Value)} {oc34 kV34 dc34 pm34 cd34 ct34 : Value}
    {od35 an35 : Option Addr} {sl35 : Array (Option Value)} {oc35 kV35 dc35 pm35 cd35 ct35 : Value}
    {od36 an36 : Option Addr} {sl36 : Array (Option Value)} {oc36 kV36 dc36 pm36 cd36 ct36 : Value}
    {od37 an37 : Option Addr} {sl37 : Array (Option Value)} {oc37 kV37 dc37 pm37 cd37 ct37 : Value}
    {od38 an38 : Option Addr} {sl38 : Array (Option Value)} {oc38 kV38 dc38 pm38 cd38 ct38 : Value}
    {od39 an39 : Option Addr} {sl39 : Array (Option Value)} {oc39 kV39 dc39 pm39 cd39 ct39 : Value}
    {od40 an40 : Option Addr} {sl40 : Array (Option Value)} {oc40 kV40 dc40 pm40 cd40 ct40 : Value}
    {od41 an41 : Option Addr} {sl41 : Array (Option Value)} {oc41 kV41 dc41 pm41 cd41 ct41 : Value}
    {od42 an42 : Option Addr} {sl42 : Array (Option Value)} {oc42 kV42 dc42 pm42 cd42 ct42 : Value}
    {od43 an43 : Option Addr} {sl43 : Array (Option Value)} {oc43 kV43 dc43 pm43 cd43 ct43 : Value}
    (a0 : PySem.W.nsIn K mainGlobals "first_state" = some (some (.ref f0))) (l0 : K.lookup f0 = some ⟨oc0, od0, .func (PySem.W.fnOf "first_state" "first_state" (defArgs s_0) (defBody s_0) (defScope s_0) .none kV0 dc0 pm0 an0 cd0 ct0), sl0⟩) (c0 : PySem.W.codeIn K cd0 "first_state" = true) (k0 : PySem.W.keepIn K (.ref f0) = true)
    (a1 : PySem.W.nsIn K mainGlobals "value_of" = some (some (.ref f1))) (l1 : K.lookup f1 = some ⟨oc1, od1, .func (PySem.W.fnOf "value_of" "value_of" (defArgs s_1) (defBody s_1) (defScope s_1) .none kV1 dc1 pm1 an1 cd1 ct1), sl1⟩) (c1 : PySem.W.codeIn K cd1 "value_of" = true) (k1 : PySem.W.keepIn K (.ref f1) = true)
    (a2 : PySem.W.nsIn K mainGlobals "next_deed" = some (some (.ref f2))) (l2 : K.lookup f2 = some ⟨oc2, od2, .func (PySem.W.fnOf "next_deed" "next_deed" (defArgs s_2) (defBody s_2) (defScope s_2) .none kV2 dc2 pm2 an2 cd2 ct2), sl2⟩) (c2 : PySem.W.codeIn K cd2 "next_deed" = true) (k2 : PySem.W.keepIn K (.ref f2) = true)
    (a3 : PySem.W.nsIn K mainGlobals "can_be_done" = some (some (.ref f3))) (l3 : K.lookup f3 = some ⟨oc3, od3, .func (PySem.W.fnOf "can_be_done" "can_be_done" (defArgs s_3) (defBody s_3) (defScope s_3) .none kV3 dc3 pm3 an3 cd3 ct3), sl3⟩) (c3 : PySem.W.codeIn K cd3 "can_be_done" = true) (k3 : PySem.W.keepIn K (.ref f3) = true)
    (a4 : PySem.W.nsIn K mainGlobals "ready_tasks" = some (some (.ref f4))) (l4 : K.lookup f4 = some ⟨oc4, od4, .func (PySem.W.fnOf "ready_tasks" "ready_tasks" (defArgs s_4) (defBody s_4) (defScope s_4) .none kV4 dc4 pm4 an4 cd4 ct4), sl4⟩) (c4 : PySem.W.codeIn K cd4 "ready_tasks" = true) (k4 : PySem.W.keepIn K (.ref f4) = true)
    (a5 : PySem.W.nsIn K mainGlobals "value_kept_by" = some (some (.ref f5))) (l5 : K.lookup f5 = some ⟨oc5, od5, .func (PySem.W.fnOf "value_kept_by" "value_kept_by" (defArgs s_5) (defBody s_5) (defScope s_5) .none kV5 dc5 pm5 an5 cd5 ct5), sl5⟩) (c5 : PySem.W.codeIn K cd5 "value_kept_by" = true) (k5 : PySem.W.keepIn K (.ref f5) = true)
    (a6 : PySem.W.nsIn K mainGlobals "stepped" = some (some (.ref f6))) (l6 : K.lookup f6 = some ⟨oc6, od6, .func (PySem.W.fnOf "stepped" "stepped" (defArgs s_6) (defBody s_6) (defScope s_6) .none kV6 dc6 pm6 an6 cd6 ct6), sl6⟩) (c6 : PySem.W.codeIn K cd6 "stepped" = true) (k6 : PySem.W.keepIn K (.ref f6) = true)
    (a7 : PySem.W.nsIn K mainGlobals "stuck_at" = some (some (.ref f7))) (l7 : K.lookup f7 = some ⟨oc7, od7, .func (PySem.W.fnOf "stuck_at" "stuck_at" (defArgs s_7) (defBody s_7) (defScope s_7) .none kV7 dc7 pm7 an7 cd7 ct7), sl7⟩) (c7 : PySem.W.codeIn K cd7 "stuck_at" = true) (k7 : PySem.W.keepIn K (.ref f7) = true)
    (a8 : PySem.W.nsIn K mainGlobals "values_at" = some (some (.ref f8))) (l8 : K.lookup f8 = some ⟨oc8, od8, .func (PySem.W.fnOf "values_at" "values_at" (defArgs s_8) (defBody s_8) (defScope s_8) .none kV8 dc8 pm8 an8 cd8 ct8), sl8⟩) (c8 : PySem.W.codeIn K cd8 "values_at" = true) (k8 : PySem.W.keepIn K (.ref f8) = true)
    (a9 : PySem.W.nsIn K mainGlobals "ending_at" = some (some (.ref f9))) (l9 : K.lookup f9 = some ⟨oc9, od9, .func (PySem.W.fnOf "ending_at" "ending_at" (defArgs s_9) (defBody s_9) (defScope s_9) .none kV9 dc9 pm9 an9 cd9 ct9), sl9⟩) (c9 : PySem.W.codeIn K cd9 "ending_at" = true) (k9 : PySem.W.keepIn K (.ref f9) = true)
    (a10 : PySem.W.nsIn K mainGlobals "reached" = some (some (.ref f10))) (l10 : K.lookup f10 = some ⟨oc10, od10, .func (PySem.W.fnOf "reached" "reached" (defArgs s_10) (defBody s_10) (defScope s_10) .none kV10 dc10 pm10 an10 cd10 ct10), sl10⟩) (c10 : PySem.W.codeIn K cd10 "reached" = true) (k10 : PySem.W.keepIn K (.ref f10) = true)
    (a11 : PySem.W.nsIn K mainGlobals "way_to" = some (some (.ref f11))) (l11 : K.lookup f11 = some ⟨oc11, od11, .func (PySem.W.fnOf "way_to" "way_to" (defArgs s_11) (defBody s_11) (defScope s_11) .none kV11 dc11 pm11 an11 cd11 ct11), sl11⟩) (c11 : PySem.W.codeIn K cd11 "way_to" = true) (k11 : PySem.W.keepIn K (.ref f11) = true)
    (a12 : PySem.W.nsIn K mainGlobals "full_states" = some (some (.ref f12))) (l12 : K.lookup f12 = some ⟨oc12, od12, .func (PySem.W.fnOf "full_states" "full_states" (defArgs s_12) (defBody s_12) (defScope s_12) .none kV12 dc12 pm12 an12 cd12 ct12), sl12⟩) (c12 : PySem.W.codeIn K cd12 "full_states" = true) (k12 : PySem.W.keepIn K (.ref f12) = true)
    (a13 : PySem.W.nsIn K mainGlobals "ending_key" = some (some (.ref f13))) (l13 : K.lookup f13 = some ⟨oc13, od13, .func (PySem.W.fnOf "ending_key" "ending_key" (defArgs s_13) (defBody s_13) (defScope s_13) .none kV13 dc13 pm13 an13 cd13 ct13), sl13⟩) (c13 : PySem.W.codeIn K cd13 "ending_key" = true) (k13 : PySem.W.keepIn K (.ref f13) = true)
    (a14 : PySem.W.nsIn K mainGlobals "first_runs" = some (some (.ref f14))) (l14 : K.lookup f14 = some ⟨oc14, od14, .func (PySem.W.fnOf "first_runs" "first_runs" (defArgs s_14) (defBody s_14) (defScope s_14) .none kV14 dc14 pm14 an14 cd14 ct14), sl14⟩) (c14 : PySem.W.codeIn K cd14 "first_runs" = true) (k14 : PySem.W.keepIn K (.ref f14) = true)
    (a15 : PySem.W.nsIn K mainGlobals "first_difference" = some (some (.ref f15))) (l15 : K.lookup f15 = some ⟨oc15, od15, .func (PySem.W.fnOf "first_difference" "first_difference" (defArgs s_15) (defBody s_15) (defScope s_15) .none kV15 dc15 pm15 an15 cd15 ct15), sl15⟩) (c15 : PySem.W.codeIn K cd15 "first_difference" = true) (k15 : PySem.W.keepIn K (.ref f15) = true)
    (a16 : PySem.W.nsIn K mainGlobals "programs_alike" = some (some (.ref f16))) (l16 : K.lookup f16 = some ⟨oc16, od16, .func (PySem.W.fnOf "programs_alike" "programs_alike" (defArgs s_16) (defBody s_16) (defScope s_16) .none kV16 dc16 pm16 an16 cd16 ct16), sl16⟩) (c16 : PySem.W.codeIn K cd16 "programs_alike" = true) (k16 : PySem.W.keepIn K (.ref f16) = true)
    (a17 : PySem.W.nsIn K mainGlobals "_law_draws" = some (some (.ref f17))) (l17 : K.lookup f17 = some ⟨oc17, od17, .func (PySem.W.fnOf "_law_draws" "_law_draws" (defArgs s_17) (defBody s_17) (defScope s_17) .none kV17 dc17 pm17 an17 cd17 ct17), sl17⟩) (c17 : PySem.W.codeIn K cd17 "_law_draws" = true) (k17 : PySem.W.keepIn K (.ref f17) = true)
    (a18 : PySem.W.nsIn K mainGlobals "_law_take" = some (some (.ref f18))) (l18 : K.lookup f18 = some ⟨oc18, od18, .func (PySem.W.fnOf "_law_take" "_law_take" (defArgs s_18) (defBody s_18) (defScope s_18) .none kV18 dc18 pm18 an18 cd18 ct18), sl18⟩) (c18 : PySem.W.codeIn K cd18 "_law_take" = true) (k18 : PySem.W.keepIn K (.ref f18) = true)
    (a19 : PySem.W.nsIn K mainGlobals "_law_pick" = some (some (.ref f19))) (l19 : K.lookup f19 = some ⟨oc19, od19, .func (PySem.W.fnOf "_law_pick" "_law_pick" (defArgs s_19) (defBody s_19) (defScope s_19) .none kV19 dc19 pm19 an19 cd19 ct19), sl19⟩) (c19 : PySem.W.codeIn K cd19 "_law_pick" = true) (k19 : PySem.W.keepIn K (.ref f19) = true)
    (a20 : PySem.W.nsIn K mainGlobals "_law_same" = some (some (.ref f20))) (l20 : K.lookup f20 = some ⟨oc20, od20, .func (PySem.W.fnOf "_law_same" "_law_same" (defArgs s_20) (defBody s_20) (defScope s_20) .none kV20 dc20 pm20 an20 cd20 ct20), sl20⟩) (c20 : PySem.W.codeIn K cd20 "_law_same" = true) (k20 : PySem.W.keepIn K (.ref f20) = true)
    (a21 : PySem.W.nsIn K mainGlobals "_law_shuffled" = some (some (.ref f21))) (l21 : K.lookup f21 = some ⟨oc21, od21, .func (PySem.W.fnOf "_law_shuffled" "_law_shuffled" (defArgs s_21) (defBody s_21) (defScope s_21) .none kV21 dc21 pm21 an21 cd21 ct21), sl21⟩) (c21 : PySem.W.codeIn K cd21 "_law_shuffled" = true) (k21 : PySem.W.keepIn K (.ref f21) = true)
    (a22 : PySem.W.nsIn K mainGlobals "_law_some_of" = some (some (.ref f22))) (l22 : K.lookup f22 = some ⟨oc22, od22, .func (PySem.W.fnOf "_law_some_of" "_law_some_of" (defArgs s_22) (defBody s_22) (defScope s_22) .none kV22 dc22 pm22 an22 cd22 ct22), sl22⟩) (c22 : PySem.W.codeIn K cd22 "_law_some_of" = true) (k22 : PySem.W.keepIn K (.ref f22) = true)
    (a23 : PySem.W.nsIn K mainGlobals "_law_put" = some (some (.ref f23))) (l23 : K.lookup f23 = some ⟨oc23, od23, .func (PySem.W.fnOf "_law_put" "_law_put" (defArgs s_23) (defBody s_23) (defScope s_23) .none kV23 dc23 pm23 an23 cd23 ct23), sl23⟩) (c23 : PySem.W.codeIn K cd23 "_law_put" = true) (k23 : PySem.W.keepIn K (.ref f23) = true)
    (a24 : PySem.W.nsIn K mainGlobals "_law_without" = some (some (.ref f24))) (l24 : K.lookup f24 = some ⟨oc24, od24, .func (PySem.W.fnOf "_law_without" "_law_without" (defArgs s_24) (defBody s_24) (defScope s_24) .none kV24 dc24 pm24 an24 cd24 ct24), sl24⟩) (c24 : PySem.W.codeIn K cd24 "_law_without" = true) (k24 : PySem.W.keepIn K (.ref f24) = true)
    (a25 : PySem.W.nsIn K mainGlobals "_law_number" = some (some (.ref f25))) (l25 : K.lookup f25 = some ⟨oc25, od25, .func (PySem.W.fnOf "_law_number" "_law_number" (defArgs s_25) (defBody s_25) (defScope s_25) .none kV25 dc25 pm25 an25 cd25 ct25), sl25⟩) (c25 : PySem.W.codeIn K cd25 "_law_number" = true) (k25 : PySem.W.keepIn K (.ref f25) = true)
    (a26 : PySem.W.nsIn K mainGlobals "_law_start_state" = some (some (.ref f26))) (l26 : K.lookup f26 = some ⟨oc26, od26, .func (PySem.W.fnOf "_law_start_state" "_law_start_state" (defArgs s_26) (defBody s_26) (defScope s_26) .none kV26 dc26 pm26 an26 cd26 ct26), sl26⟩) (c26 : PySem.W.codeIn K cd26 "_law_start_state" = true) (k26 : PySem.W.keepIn K (.ref f26) = true)
    (a27 : PySem.W.nsIn K mainGlobals "_law_worth" = some (some (.ref f27))) (l27 : K.lookup f27 = some ⟨oc27, od27, .func (PySem.W.fnOf "_law_worth" "_law_worth" (defArgs s_27) (defBody s_27) (defScope s_27) .none kV27 dc27 pm27 an27 cd27 ct27), sl27⟩) (c27 : PySem.W.codeIn K cd27 "_law_worth" = true) (k27 : PySem.W.keepIn K (.ref f27) = true)
    (a28 : PySem.W.nsIn K mainGlobals "_law_can" = some (some (.ref f28))) (l28 : K.lookup f28 = some ⟨oc28, od28, .func (PySem.W.fnOf "_law_can" "_law_can" (defArgs s_28) (defBody s_28) (defScope s_28) .none kV28 dc28 pm28 an28 cd28 ct28), sl28⟩) (c28 : PySem.W.codeIn K cd28 "_law_can" = true) (k28 : PySem.W.keepIn K (.ref f28) = true)
    (a29 : PySem.W.nsIn K mainGlobals "_law_ready" = some (some (.ref f29))) (l29 : K.lookup f29 = some ⟨oc29, od29, .func (PySem.W.fnOf "_law_ready" "_law_ready" (defArgs s_29) (defBody s_29) (defScope s_29) .none kV29 dc29 pm29 an29 cd29 ct29), sl29⟩) (c29 : PySem.W.codeIn K cd29 "_law_ready" = true) (k29 : PySem.W.keepIn K (.ref f29) = true)
    (a30 : PySem.W.nsIn K mainGlobals "_law_step" = some (some (.ref f30))) (l30 : K.lookup f30 = some ⟨oc30, od30, .func (PySem.W.fnOf "_law_step" "_law_step" (defArgs s_30) (defBody s_30) (defScope s_30) .none kV30 dc30 pm30 an30 cd30 ct30), sl30⟩) (c30 : PySem.W.codeIn K cd30 "_law_step" = true) (k30 : PySem.W.keepIn K (.ref f30) = true)
    (a31 : PySem.W.nsIn K mainGlobals "_law_explored" = some (some (.ref f31))) (l31 : K.lookup f31 = some ⟨oc31, od31, .func (PySem.W.fnOf "_law_explored" "_law_explored" (defArgs s_31) (defBody s_31) (defScope s_31) .none kV31 dc31 pm31 an31 cd31 ct31), sl31⟩) (c31 : PySem.W.codeIn K cd31 "_law_explored" = true) (k31 : PySem.W.keepIn K (.ref f31) = true)
    (a32 : PySem.W.nsIn K mainGlobals "_law_stuck_at" = some (some (.ref f32))) (l32 : K.lookup f32 = some ⟨oc32, od32, .func (PySem.W.fnOf "_law_stuck_at" "_law_stuck_at" (defArgs s_32) (defBody s_32) (defScope s_32) .none kV32 dc32 pm32 an32 cd32 ct32), sl32⟩) (c32 : PySem.W.codeIn K cd32 "_law_stuck_at" = true) (k32 : PySem.W.keepIn K (.ref f32) = true)
    (a33 : PySem.W.nsIn K mainGlobals "_law_ending" = some (some (.ref f33))) (l33 : K.lookup f33 = some ⟨oc33, od33, .func (PySem.W.fnOf "_law_ending" "_law_ending" (defArgs s_33) (defBody s_33) (defScope s_33) .none kV33 dc33 pm33 an33 cd33 ct33), sl33⟩) (c33 : PySem.W.codeIn K cd33 "_law_ending" = true) (k33 : PySem.W.keepIn K (.ref f33) = true)
    (a34 : PySem.W.nsIn K mainGlobals "_law_ending_key" = some (some (.ref f34))) (l34 : K.lookup f34 = some ⟨oc34, od34, .func (PySem.W.fnOf "_law_ending_key" "_law_ending_key" (defArgs s_34) (defBody s_34) (defScope s_34) .none kV34 dc34 pm34 an34 cd34 ct34), sl34⟩) (c34 : PySem.W.codeIn K cd34 "_law_ending_key" = true) (k34 : PySem.W.keepIn K (.ref f34) = true)
    (a35 : PySem.W.nsIn K mainGlobals "_law_endings" = some (some (.ref f35))) (l35 : K.lookup f35 = some ⟨oc35, od35, .func (PySem.W.fnOf "_law_endings" "_law_endings" (defArgs s_35) (defBody s_35) (defScope s_35) .none kV35 dc35 pm35 an35 cd35 ct35), sl35⟩) (c35 : PySem.W.codeIn K cd35 "_law_endings" = true) (k35 : PySem.W.keepIn K (.ref f35) = true)
    (a36 : PySem.W.nsIn K mainGlobals "_law_set_of" = some (some (.ref f36))) (l36 : K.lookup f36 = some ⟨oc36, od36, .func (PySem.W.fnOf "_law_set_of" "_law_set_of" (defArgs s_36) (defBody s_36) (defScope s_36) .none kV36 dc36 pm36 an36 cd36 ct36), sl36⟩) (c36 : PySem.W.codeIn K cd36 "_law_set_of" = true) (k36 : PySem.W.keepIn K (.ref f36) = true)
    (a37 : PySem.W.nsIn K mainGlobals "_law_deed" = some (some (.ref f37))) (l37 : K.lookup f37 = some ⟨oc37, od37, .func (PySem.W.fnOf "_law_deed" "_law_deed" (defArgs s_37) (defBody s_37) (defScope s_37) .none kV37 dc37 pm37 an37 cd37 ct37), sl37⟩) (c37 : PySem.W.codeIn K cd37 "_law_deed" = true) (k37 : PySem.W.keepIn K (.ref f37) = true)
    (a38 : PySem.W.nsIn K mainGlobals "_law_program" = some (some (.ref f38))) (l38 : K.lookup f38 = some ⟨oc38, od38, .func (PySem.W.fnOf "_law_program" "_law_program" (defArgs s_38) (defBody s_38) (defScope s_38) .none kV38 dc38 pm38 an38 cd38 ct38), sl38⟩) (c38 : PySem.W.codeIn K cd38 "_law_program" = true) (k38 : PySem.W.keepIn K (.ref f38) = true)
    (a39 : PySem.W.nsIn K mainGlobals "_law_rival_program" = some (some (.ref f39))) (l39 : K.lookup f39 = some ⟨oc39, od39, .func (PySem.W.fnOf "_law_rival_program" "_law_rival_program" (defArgs s_39) (defBody s_39) (defScope s_39) .none kV39 dc39 pm39 an39 cd39 ct39), sl39⟩) (c39 : PySem.W.codeIn K cd39 "_law_rival_program" = true) (k39 : PySem.W.keepIn K (.ref f39) = true)
    (a40 : PySem.W.nsIn K mainGlobals "_law_any_program" = some (some (.ref f40))) (l40 : K.lookup f40 = some ⟨oc40, od40, .func (PySem.W.fnOf "_law_any_program" "_law_any_program" (defArgs s_40) (defBody s_40) (defScope s_40) .none kV40 dc40 pm40 an40 cd40 ct40), sl40⟩) (c40 : PySem.W.codeIn K cd40 "_law_any_program" = true) (k40 : PySem.W.keepIn K (.ref f40) = true)
    (a41 : PySem.W.nsIn K mainGlobals "_law_changed_program" = some (some (.ref f41))) (l41 : K.lookup f41 = some ⟨oc41, od41, .func (PySem.W.fnOf "_law_changed_program" "_law_changed_program" (defArgs s_41) (defBody s_41) (defScope s_41) .none kV41 dc41 pm41 an41 cd41 ct41), sl41⟩) (c41 : PySem.W.codeIn K cd41 "_law_changed_program" = true) (k41 : PySem.W.keepIn K (.ref f41) = true)
    (a42 : PySem.W.nsIn K mainGlobals "_law_difference" = some (some (.ref f42))) (l42 : K.lookup f42 = some ⟨oc42, od42, .func (PySem.W.fnOf "_law_difference" "_law_difference" (defArgs s_42) (defBody s_42) (defScope s_42) .none kV42 dc42 pm42 an42 cd42 ct42), sl42⟩) (c42 : PySem.W.codeIn K cd42 "_law_difference" = true) (k42 : PySem.W.keepIn K (.ref f42) = true)
    (a43 : PySem.W.nsIn K mainGlobals "law" = some (some (.ref f43))) (l43 : K.lookup f43 = some ⟨oc43, od43, .func (PySem.W.fnOf "law" "law" (defArgs s_43) (defBody s_43) (defScope s_43) .none kV43 dc43 pm43 an43 cd43 ct43), sl43⟩) (c43 : PySem.W.codeIn K cd43 "law" = true) (k43 : PySem.W.keepIn K (.ref f43) = true)
    {cc15 cP15 : Addr} {xa15 : Value} {xb15 : Option Addr} {xc15 : Array (Option Value)} {xv15 : Array Value} (tc15 : cd15 = .ref cc15) (lc15 : K.lookup cc15 = some ⟨xa15, xb15, .fields xv15, xc15⟩) (v15 : xv15[11]? = some (.ref cP15)) (n15 : K.lookup cP15 = none)
    (z_all : PySem.W.nsIn K mainGlobals "all" = some none)
    (z_any : PySem.W.nsIn K mainGlobals "any" = some none)
    (z_bool : PySem.W.nsIn K mainGlobals "bool" = some none)
    (z_int : PySem.W.nsIn K mainGlobals "int" = some none)
    (z_isinstance : PySem.W.nsIn K mainGlobals "isinstance" = some none)
    (z_len : PySem.W.nsIn K mainGlobals "len" = some none)
    (z_list : PySem.W.nsIn K mainGlobals "list" = some none)
    (z_min : PySem.W.nsIn K mainGlobals "min" = some none)
    (z_range : PySem.W.nsIn K mainGlobals "range" = some none)
    (z_sorted : PySem.W.nsIn K mainGlobals "sorted" = some none)
    (z_str : PySem.W.nsIn K mainGlobals "str" = some none)
    (z_sum : PySem.W.nsIn K mainGlobals "sum" = some none)
    (z_tuple : PySem.W.nsIn K mainGlobals "tuple" = some none) :
    ∃ (fd : FuncData) (tt : LT), (∀ t ∈ tt, t.1 ∈ lamNames ∧ PySem.W.tabIn K t.1 = some t.2 ∧ K.lookup t.2.2 = none) ∧ (∀ (s : Shared) (v : Value), BindsTo s fd ⟨[v], []⟩ [("script", v)]) ∧ ∀ base : Heap, K.In base → base.Ns mainGlobals mg → (∀ t ∈ tt, LamX.TabB base mg t.2.1 t.2.2) → FnOk l.prog w K mg base CX0 (4 * 40) fa fd ["script"] (liftF ⟨K, w, tblOf tt⟩ (fs 43).np (sem fs 40 43)) := by
  have e : f43 = fa := by
    have e := hfa.symm.trans (PySem.W.mg_of X G a43)
    cases e
    rfl
  subst e
  have F0 := fun_mk (st := s_0) l0 c0 k0
  have F1 := fun_mk (st := s_1) l1 c1 k1
  have F2 := fun_mk (st := s_2) l2 c2 k2
  have F3 := fun_mk (st := s_3) l3 c3 k3
  have F4 := fun_mk (st := s_4) l4 c4 k4
  have F5 := fun_mk (st := s_5) l5 c5 k5
  have F6 := fun_mk (st := s_6) l6 c6 k6
  have F7 := fun_mk (st := s_7) l7 c7 k7
  have F8 := fun_mk (st := s_8) l8 c8 k8
  have F9 := fun_mk (st := s_9) l9 c9 k9
  have F10 := fun_mk (st := s_10) l10 c10 k10
  have F11 := fun_mk (st := s_11) l11 c11 k11
  have F12 := fun_mk (st := s_12) l12 c12 k12
  have F13 := fun_mk (st := s_13) l13 c13 k13
  have F14 := fun_mk (st := s_14) l14 c14 k14
  have F15 := fun_mk (st := s_15) l15 c15 k15
  have F16 := fun_mk (st := s_16) l16 c16 k16
  have F17 := fun_mk (st := s_17) l17 c17 k17
  have F18 := fun_mk (st := s_18) l18 c18 k18
  have F19 := fun_mk (st := s_19) l19 c19 k19
  have F20 := fun_mk (st := s_20) l20 c20 k20
  have F21 := fun_mk (st := s_21) l21 c21 k21
  have F22 := fun_mk (st := s_22) l22 c22 k22
  have F23 := fun_mk (st := s_23) l23 c23 k23
  have F24 := fun_mk (st := s_24) l24 c24 k24
  have F25 := fun_mk (st := s_25) l25 c25 k25
  have F26 := fun_mk (st := s_26) l26 c26 k26
  have F27 := fun_mk (st := s_27) l27 c27 k27
  have F28 := fun_mk (st := s_28) l28 c28 k28
  have F29 := fun_mk (st := s_29) l29 c29 k29
  have F30 := fun_mk (st := s_30) l30 c30 k30
  have F31 := fun_mk (st := s_31) l31 c31 k31
  have F32 := fun_mk (st := s_32) l32 c32 k32
  have F33 := fun_mk (st := s_33) l33 c33 k33
  have F34 := fun_mk (st := s_34) l34 c34 k34
  have F35 := fun_mk (st := s_35) l35 c35 k35
  have F36 := fun_mk (st := s_36) l36 c36 k36
  have F37 := fun_mk (st := s_37) l37 c37 k37
  have F38 := fun_mk (st := s_38) l38 c38 k38
  have F39 := fun_mk (st := s_39) l39 c39 k39
  have F40 := fun_mk (st := s_40) l40 c40 k40
  have F41 := fun_mk (st := s_41) l41 c41 k41
  have F42 := fun_mk (st := s_42) l42 c42 k42
  have F43 := fun_mk (st := s_43) l43 c43 k43
  have t15 : PySem.W.tabIn K "first_difference" = some (cc15, cP15) := tab_mk a15 l15 tc15 lc15 v15
  let T : Txt K mg [(("first_difference" : Str), cc15, cP15)] := ⟨fun i => [f0, f1, f2, f3, f4, f5, f6, f7, f8, f9, f10, f11, f12, f13, f14, f15, f16, f17, f18, f19, f20, f21, f22, f23, f24, f25, f26, f27, f28, f29, f30, f31, f32, f33, f34, f35, f36, f37, f38, f39, f40, f41, f42, f43].getD i 0, fun i => ([PySem.W.fnOf "first_state" "first_state" (defArgs s_0) (defBody s_0) (defScope s_0) .none kV0 dc0 pm0 an0 cd0 ct0, PySem.W.fnOf "value_of" "value_of" (defArgs s_1) (defBody s_1) (defScope s_1) .none kV1 dc1 pm1 an1 cd1 ct1, PySem.W.fnOf "next_deed" "next_deed" (defArgs s_2) (defBody s_2) (defScope s_2) .none kV2 dc2 pm2 an2 cd2 ct2, PySem.W.fnOf "can_be_done" "can_be_done" (defArgs s_3) (defBody s_3) (defScope s_3) .none kV3 dc3 pm3 an3 cd3 ct3, PySem.W.fnOf "ready_tasks" "ready_tasks" (defArgs s_4) (defBody s_4) (defScope s_4) .none kV4 dc4 pm4 an4 cd4 ct4, PySem.W.fnOf "value_kept_by" "value_kept_by" (defArgs s_5) (defBody s_5) (defScope s_5) .none kV5 dc5 pm5 an5 cd5 ct5, PySem.W.fnOf "stepped" "stepped" (defArgs s_6) (defBody s_6) (defScope s_6) .none kV6 dc6 pm6 an6 cd6 ct6, PySem.W.fnOf "stuck_at" "stuck_at" (defArgs s_7) (defBody s_7) (defScope s_7) .none kV7 dc7 pm7 an7 cd7 ct7, PySem.W.fnOf "values_at" "values_at" (defArgs s_8) (defBody s_8) (defScope s_8) .none kV8 dc8 pm8 an8 cd8 ct8, PySem.W.fnOf "ending_at" "ending_at" (defArgs s_9) (defBody s_9) (defScope s_9) .none kV9 dc9 pm9 an9 cd9 ct9, PySem.W.fnOf "reached" "reached" (defArgs s_10) (defBody s_10) (defScope s_10) .none kV10 dc10 pm10 an10 cd10 ct10, PySem.W.fnOf "way_to" "way_to" (defArgs s_11) (defBody s_11) (defScope s_11) .none kV11 dc11 pm11 an11 cd11 ct11, PySem.W.fnOf "full_states" "full_states" (defArgs s_12) (defBody s_12) (defScope s_12) .none kV12 dc12 pm12 an12 cd12 ct12, PySem.W.fnOf "ending_key" "ending_key" (defArgs s_13) (defBody s_13) (defScope s_13) .none kV13 dc13 pm13 an13 cd13 ct13, PySem.W.fnOf "first_runs" "first_runs" (defArgs s_14) (defBody s_14) (defScope s_14) .none kV14 dc14 pm14 an14 cd14 ct14, PySem.W.fnOf "first_difference" "first_difference" (defArgs s_15) (defBody s_15) (defScope s_15) .none kV15 dc15 pm15 an15 cd15 ct15, PySem.W.fnOf "programs_alike" "programs_alike" (defArgs s_16) (defBody s_16) (defScope s_16) .none kV16 dc16 pm16 an16 cd16 ct16, PySem.W.fnOf "_law_draws" "_law_draws" (defArgs s_17) (defBody s_17) (defScope s_17) .none kV17 dc17 pm17 an17 cd17 ct17, PySem.W.fnOf "_law_take" "_law_take" (defArgs s_18) (defBody s_18) (defScope s_18) .none kV18 dc18 pm18 an18 cd18 ct18, PySem.W.fnOf "_law_pick" "_law_pick" (defArgs s_19) (defBody s_19) (defScope s_19) .none kV19 dc19 pm19 an19 cd19 ct19, PySem.W.fnOf "_law_same" "_law_same" (defArgs s_20) (defBody s_20) (defScope s_20) .none kV20 dc20 pm20 an20 cd20 ct20, PySem.W.fnOf "_law_shuffled" "_law_shuffled" (defArgs s_21) (defBody s_21) (defScope s_21) .none kV21 dc21 pm21 an21 cd21 ct21, PySem.W.fnOf "_law_some_of" "_law_some_of" (defArgs s_22) (defBody s_22) (defScope s_22) .none kV22 dc22 pm22 an22 cd22 ct22, PySem.W.fnOf "_law_put" "_law_put" (defArgs s_23) (defBody s_23) (defScope s_23) .none kV23 dc23 pm23 an23 cd23 ct23, PySem.W.fnOf "_law_without" "_law_without" (defArgs s_24) (defBody s_24) (defScope s_24) .none kV24 dc24 pm24 an24 cd24 ct24, PySem.W.fnOf "_law_number" "_law_number" (defArgs s_25) (defBody s_25) (defScope s_25) .none kV25 dc25 pm25 an25 cd25 ct25, PySem.W.fnOf "_law_start_state" "_law_start_state" (defArgs s_26) (defBody s_26) (defScope s_26) .none kV26 dc26 pm26 an26 cd26 ct26, PySem.W.fnOf "_law_worth" "_law_worth" (defArgs s_27) (defBody s_27) (defScope s_27) .none kV27 dc27 pm27 an27 cd27 ct27, PySem.W.fnOf "_law_can" "_law_can" (defArgs s_28) (defBody s_28) (defScope s_28) .none kV28 dc28 pm28 an28 cd28 ct28, PySem.W.fnOf "_law_ready" "_law_ready" (defArgs s_29) (defBody s_29) (defScope s_29) .none kV29 dc29 pm29 an29 cd29 ct29, PySem.W.fnOf "_law_step" "_law_step" (defArgs s_30) (defBody s_30) (defScope s_30) .none kV30 dc30 pm30 an30 cd30 ct30, PySem.W.fnOf "_law_explored" "_law_explored" (defArgs s_31) (defBody s_31) (defScope s_31) .none kV31 dc31 pm31 an31 cd31 ct31, PySem.W.fnOf "_law_stuck_at" "_law_stuck_at" (defArgs s_32) (defBody s_32) (defScope s_32) .none kV32 dc32 pm32 an32 cd32 ct32, PySem.W.fnOf "_law_ending" "_law_ending" (defArgs s_33) (defBody s_33) (defScope s_33) .none kV33 dc33 pm33 an33 cd33 ct33, PySem.W.fnOf "_law_ending_key" "_law_ending_key" (defArgs s_34) (defBody s_34) (defScope s_34) .none kV34 dc34 pm34 an34 cd34 ct34, PySem.W.fnOf "_law_endings" "_law_endings" (defArgs s_35) (defBody s_35) (defScope s_35) .none kV35 dc35 pm35 an35 cd35 ct35, PySem.W.fnOf "_law_set_of" "_law_set_of" (defArgs s_36) (defBody s_36) (defScope s_36) .none kV36 dc36 pm36 an36 cd36 ct36, PySem.W.fnOf "_law_deed" "_law_deed" (defArgs s_37) (defBody s_37) (defScope s_37) .none kV37 dc37 pm37 an37 cd37 ct37, PySem.W.fnOf "_law_program" "_law_program" (defArgs s_38) (defBody s_38) (defScope s_38) .none kV38 dc38 pm38 an38 cd38 ct38, PySem.W.fnOf "_law_rival_program" "_law_rival_program" (defArgs s_39) (defBody s_39) (defScope s_39) .none kV39 dc39 pm39 an39 cd39 ct39, PySem.W.fnOf "_law_any_program" "_law_any_program" (defArgs s_40) (defBody s_40) (defScope s_40) .none kV40 dc40 pm40 an40 cd40 ct40, PySem.W.fnOf "_law_changed_program" "_law_changed_program" (defArgs s_41) (defBody s_41) (defScope s_41) .none kV41 dc41 pm41 an41 cd41 ct41, PySem.W.fnOf "_law_difference" "_law_difference" (defArgs s_42) (defBody s_42) (defScope s_42) .none kV42 dc42 pm42 an42 cd42 ct42, PySem.W.fnOf "law" "law" (defArgs s_43) (defBody s_43) (defScope s_43) .none kV43 dc43 pm43 an43 cd43 ct43]).getD i (PySem.W.fnOf "law" "law" (defArgs s_43) (defBody s_43) (defScope s_43) .none kV43 dc43 pm43 an43 cd43 ct43), (by simp),
    F0, F0.binds (ps := P_0) (fun _ _ _ _ _ _ us hl => match us, hl with | [_], _ => rfl), PySem.W.mg_of X G a0,
    F1, F1.binds (ps := P_1) (fun _ _ _ _ _ _ us hl => match us, hl with | [_, _], _ => rfl), PySem.W.mg_of X G a1,
    F2, F2.binds (ps := P_2) (fun _ _ _ _ _ _ us hl => match us, hl with | [_, _, _], _ => rfl), PySem.W.mg_of X G a2,
    F3, F3.binds (ps := P_3) (fun _ _ _ _ _ _ us hl => match us, hl with | [_, _], _ => rfl), PySem.W.mg_of X G a3,
    F4, F4.binds (ps := P_4) (fun _ _ _ _ _ _ us hl => match us, hl with | [_, _], _ => rfl), PySem.W.mg_of X G a4,
    F5, F5.binds (ps := P_5) (fun _ _ _ _ _ _ us hl => match us, hl with | [_, _], _ => rfl), PySem.W.mg_of X G a5,
    F6, F6.binds (ps := P_6) (fun _ _ _ _ _ _ us hl => match us, hl with | [_, _, _], _ => rfl), PySem.W.mg_of X G a6,
    F7, F7.binds (ps := P_7) (fun _ _ _ _ _ _ us hl => match us, hl with | [_, _], _ => rfl), PySem.W.mg_of X G a7,
    F8, F8.binds (ps := P_8) (fun _ _ _ _ _ _ us hl => match us, hl with | [_, _], _ => rfl), PySem.W.mg_of X G a8,
    F9, F9.binds (ps := P_9) (fun _ _ _ _ _ _ us hl => match us, hl with | [_, _], _ => rfl), PySem.W.mg_of X G a9,
    F10, F10.binds (ps := P_10) (fun _ _ _ _ _ _ us hl => match us, hl with | [_], _ => rfl), PySem.W.mg_of X G a10,
    F11, F11.binds (ps := P_11) (fun _ _ _ _ _ _ us hl => match us, hl with | [_, _], _ => rfl), PySem.W.mg_of X G a11,
    F12, F12.binds (ps := P_12) (fun _ _ _ _ _ _ us hl => match us, hl with | [_, _], _ => rfl), PySem.W.mg_of X G a12,
    F13, F13.binds (ps := P_13) (fun _ _ _ _ _ _ us hl => match us, hl with | [_], _ => rfl), PySem.W.mg_of X G a13,
    F14, F14.binds (ps := P_14) (fun _ _ _ _ _ _ us hl => match us, hl with | [_], _ => rfl), PySem.W.mg_of X G a14,
    F15, F15.binds (ps := P_15) (fun _ _ _ _ _ _ us hl => match us, hl with | [_, _], _ => rfl), PySem.W.mg_of X G a15,
    F16, F16.binds (ps := P_16) (fun _ _ _ _ _ _ us hl => match us, hl with | [_, _], _ => rfl), PySem.W.mg_of X G a16,
    F17, F17.binds (ps := P_17) (fun _ _ _ _ _ _ us hl => match us, hl with | [_, _], _ => rfl), PySem.W.mg_of X G a17,
    F18, F18.binds (ps := P_18) (fun _ _ _ _ _ _ us hl => match us, hl with | [_, _], _ => rfl), PySem.W.mg_of X G a18,
    F19, F19.binds (ps := P_19) (fun _ _ _ _ _ _ us hl => match us, hl with | [_, _], _ => rfl), PySem.W.mg_of X G a19,
    F20, F20.binds (ps := P_20) (fun _ _ _ _ _ _ us hl => match us, hl with | [_, _], _ => rfl), PySem.W.mg_of X G a20,
    F21, F21.binds (ps := P_21) (fun _ _ _ _ _ _ us hl => match us, hl with | [_, _], _ => rfl), PySem.W.mg_of X G a21,
    F22, F22.binds (ps := P_22) (fun _ _ _ _ _ _ us hl => match us, hl with | [_, _, _], _ => rfl), PySem.W.mg_of X G a22,
    F23, F23.binds (ps := P_23) (fun _ _ _ _ _ _ us hl => match us, hl with | [_, _, _], _ => rfl), PySem.W.mg_of X G a23,
    F24, F24.binds (ps := P_24) (fun _ _ _ _ _ _ us hl => match us, hl with | [_, _], _ => rfl), PySem.W.mg_of X G a24,
    F25, F25.binds (ps := P_25) (fun _ _ _ _ _ _ us hl => match us, hl with | [_], _ => rfl), PySem.W.mg_of X G a25,
    F26, F26.binds (ps := P_26) (fun _ _ _ _ _ _ us hl => match us, hl with | [_], _ => rfl), PySem.W.mg_of X G a26,
    F27, F27.binds (ps := P_27) (fun _ _ _ _ _ _ us hl => match us, hl with | [_, _], _ => rfl), PySem.W.mg_of X G a27,
    F28, F28.binds (ps := P_28) (fun _ _ _ _ _ _ us hl => match us, hl with | [_, _, _], _ => rfl), PySem.W.mg_of X G a28,
    F29, F29.binds (ps := P_29) (fun _ _ _ _ _ _ us hl => match us, hl with | [_, _], _ => rfl), PySem.W.mg_of X G a29,
    F30, F30.binds (ps := P_30) (fun _ _ _ _ _ _ us hl => match us, hl with | [_, _, _], _ => rfl), PySem.W.mg_of X G a30,
    F31, F31.binds (ps := P_31) (fun _ _ _ _ _ _ us hl => match us, hl with | [_], _ => rfl), PySem.W.mg_of X G a31,
    F32, F32.binds (ps := P_32) (fun _ _ _ _ _ _ us hl => match us, hl with | [_, _], _ => rfl), PySem.W.mg_of X G a32,
    F33, F33.binds (ps := P_33) (fun _ _ _ _ _ _ us hl => match us, hl with | [_, _], _ => rfl), PySem.W.mg_of X G a33,
    F34, F34.binds (ps := P_34) (fun _ _ _ _ _ _ us hl => match us, hl with | [_], _ => rfl), PySem.W.mg_of X G a34,
    F35, F35.binds (ps := P_35) (fun _ _ _ _ _ _ us hl => match us, hl with | [_], _ => rfl), PySem.W.mg_of X G a35,
    F36, F36.binds (ps := P_36) (fun _ _ _ _ _ _ us hl => match us, hl with | [_, _, _], _ => rfl), PySem.W.mg_of X G a36,
    F37, F37.binds (ps := P_37) (fun _ _ _ _ _ _ us hl => match us, hl with | [_, _, _], _ => rfl), PySem.W.mg_of X G a37,
    F38, F38.binds (ps := P_38) (fun _ _ _ _ _ _ us hl => match us, hl with | [_], _ => rfl), PySem.W.mg_of X G a38,
    F39, F39.binds (ps := P_39) (fun _ _ _ _ _ _ us hl => match us, hl with | [_], _ => rfl), PySem.W.mg_of X G a39,
    F40, F40.binds (ps := P_40) (fun _ _ _ _ _ _ us hl => match us, hl with | [_], _ => rfl), PySem.W.mg_of X G a40,
    F41, F41.binds (ps := P_41) (fun _ _ _ _ _ _ us hl => match us, hl with | [_, _], _ => rfl), PySem.W.mg_of X G a41,
    F42, F42.binds (ps := P_42) (fun _ _ _ _ _ _ us hl => match us, hl with | [_, _], _ => rfl), PySem.W.mg_of X G a42,
    F43, F43.binds (ps := P_43) (fun _ _ _ _ _ _ us hl => match us, hl with | [_], _ => rfl), PySem.W.mg_of X G a43,
    cc15, cP15, (by simp), FunC.of F15 a15 t15,
    PySem.W.mg_none_of X G z_all,
    PySem.W.mg_none_of X G z_any,
    PySem.W.mg_none_of X G z_bool,
    PySem.W.mg_none_of X G z_int,
    PySem.W.mg_none_of X G z_isinstance,
    PySem.W.mg_none_of X G z_len,
    PySem.W.mg_none_of X G z_list,
    PySem.W.mg_none_of X G z_min,
    PySem.W.mg_none_of X G z_range,
    PySem.W.mg_none_of X G z_sorted,
    PySem.W.mg_none_of X G z_str,
    PySem.W.mg_none_of X G z_sum,
    PySem.W.mg_none_of X G z_tuple⟩
  have hT : ∀ t ∈ ([(("first_difference" : Str), cc15, cP15)] : LT), t.1 ∈ lamNames ∧ PySem.W.tabIn K t.1 = some t.2 ∧ K.lookup t.2.2 = none := by
    intro t ht
    simp only [List.mem_cons, List.not_mem_nil, or_false] at ht
    rcases ht with rfl
    · exact ⟨by show ("first_difference" : Str) ∈ lamNames; decide, t15, n15⟩
  refine ⟨PySem.W.fnOf "law" "law" (defArgs s_43) (defBody s_43) (defScope s_43) .none kV43 dc43 pm43 an43 cd43 ct43, [(("first_difference" : Str), cc15, cP15)], hT, fun s v => .of_eq rfl, fun base _ _ hB => ?_⟩
  exact (all (P := l.prog) (w := w) (base := base) T hB 40).o43
end Gk40
open PySem PySem.W PyProof.Rows
theorem PySem.Challenge.cw_promiseskept_k40_programs_alike_holds : PySem.Challenge.rw_promiseskept_k40_programs_alike.Holds := by
  w_on; o_law; k_head; (case hw => w_witness2)
  k_fill
  refine DL.walk_end (l := PySem.Challenge.rw_promiseskept_k40_programs_alike) (k := 40) (fs := Gk40.fs) (i := 43) Gk40.lamNames rfl rfl ⟨rfl, by decide, by decide⟩ rfl (fun w h Y => PySem.W.km_in_of Y) (by decide +kernel) ?F Gk40.law_ok
  case F =>
    intro w mg fa h KX G hmg
    refine' Gk40.all_mk KX G hmg ?a0 ?l0 ?c0 ?k0 ?a1 ?l1 ?c1 ?k1 ?a2 ?l2 ?c2 ?k2 ?a3 ?l3 ?c3 ?k3 ?a4 ?l4 ?c4 ?k4 ?a5 ?l5 ?c5 ?k5 ?a6 ?l6 ?c6 ?k6 ?a7 ?l7 ?c7 ?k7 ?a8 ?l8 ?c8 ?k8 ?a9 ?l9 ?c9 ?k9 ?a10 ?l10 ?c10 ?k10 ?a11 ?l11 ?c11 ?k11 ?a12 ?l12 ?c12 ?k12 ?a13 ?l13 ?c13 ?k13 ?a14 ?l14 ?c14 ?k14 ?a15 ?l15 ?c15 ?k15 ?a16 ?l16 ?c16 ?k16 ?a17 ?l17 ?c17 ?k17 ?a18 ?l18 ?c18 ?k18 ?a19 ?l19 ?c19 ?k19 ?a20 ?l20 ?c20 ?k20 ?a21 ?l21 ?c21 ?k21 ?a22 ?l22 ?c22 ?k22 ?a23 ?l23 ?c23 ?k23 ?a24 ?l24 ?c24 ?k24 ?a25 ?l25 ?c25 ?k25 ?a26 ?l26 ?c26 ?k26 ?a27 ?l27 ?c27 ?k27 ?a28 ?l28 ?c28 ?k28 ?a29 ?l29 ?c29 ?k29 ?a30 ?l30 ?c30 ?k30 ?a31 ?l31 ?c31 ?k31 ?a32 ?l32 ?c32 ?k32 ?a33 ?l33 ?c33 ?k33 ?a34 ?l34 ?c34 ?k34 ?a35 ?l35 ?c35 ?k35 ?a36 ?l36 ?c36 ?k36 ?a37 ?l37 ?c37 ?k37 ?a38 ?l38 ?c38 ?k38 ?a39 ?l39 ?c39 ?k39 ?a40 ?l40 ?c40 ?k40 ?a41 ?l41 ?c41 ?k41 ?a42 ?l42 ?c42 ?k42 ?a43 ?l43 ?c43 ?k43 ?tc15 ?lc15 ?v15 ?n15 ?z_all ?z_any ?z_bool ?z_int ?z_isinstance ?z_len ?z_list ?z_min ?z_range ?z_sorted ?z_str ?z_sum ?z_tuple
    (case a0 => k_is); (case l0 => k_is); (case c0 => k_is); (case k0 => k_is)
    (case a1 => k_is); (case l1 => k_is); (case c1 => k_is); (case k1 => k_is)
    (case a2 => k_is); (case l2 => k_is); (case c2 => k_is); (case k2 => k_is)
    (case a3 => k_is); (case l3 => k_is); (case c3 => k_is); (case k3 => k_is)
    (case a4 => k_is); (case l4 => k_is); (case c4 => k_is); (case k4 => k_is)
    (case a5 => k_is); (case l5 => k_is); (case c5 => k_is); (case k5 => k_is)
    (case a6 => k_is); (case l6 => k_is); (case c6 => k_is); (case k6 => k_is)
    (case a7 => k_is); (case l7 => k_is); (case c7 => k_is); (case k7 => k_is)
    (case a8 => k_is); (case l8 => k_is); (case c8 => k_is); (case k8 => k_is)
    (case a9 => k_is); (case l9 => k_is); (case c9 => k_is); (case k9 => k_is)
    (case a10 => k_is); (case l10 => k_is); (case c10 => k_is); (case k10 => k_is)
    (case a11 => k_is); (case l11 => k_is); (case c11 => k_is); (case k11 => k_is)
    (case a12 => k_is); (case l12 => k_is); (case c12 => k_is); (case k12 => k_is)
    (case a13 => k_is); (case l13 => k_is); (case c13 => k_is); (case k13 => k_is)
    (case a14 => k_is); (case l14 => k_is); (case c14 => k_is); (case k14 => k_is)
    (case a15 => k_is); (case l15 => k_is); (case c15 => k_is); (case k15 => k_is)
    (case a16 => k_is); (case l16 => k_is); (case c16 => k_is); (case k16 => k_is)
    (case a17 => k_is); (case l17 => k_is); (case c17 => k_is); (case k17 => k_is)
    (case a18 => k_is); (case l18 => k_is); (case c18 => k_is); (case k18 => k_is)
    (case a19 => k_is); (case l19 => k_is); (case c19 => k_is); (case k19 => k_is)
    (case a20 => k_is); (case l20 => k_is); (case c20 => k_is); (case k20 => k_is)
    (case a21 => k_is); (case l21 => k_is); (case c21 => k_is); (case k21 => k_is)
    (case a22 => k_is); (case l22 => k_is); (case c22 => k_is); (case k22 => k_is)
    (case a23 => k_is); (case l23 => k_is); (case c23 => k_is); (case k23 => k_is)
    (case a24 => k_is); (case l24 => k_is); (case c24 => k_is); (case k24 => k_is)
    (case a25 => k_is); (case l25 => k_is); (case c25 => k_is); (case k25 => k_is)
    (case a26 => k_is); (case l26 => k_is); (case c26 => k_is); (case k26 => k_is)
    (case a27 => k_is); (case l27 => k_is); (case c27 => k_is); (case k27 => k_is)
    (case a28 => k_is); (case l28 => k_is); (case c28 => k_is); (case k28 => k_is)
    (case a29 => k_is); (case l29 => k_is); (case c29 => k_is); (case k29 => k_is)
    (case a30 => k_is); (case l30 => k_is); (case c30 => k_is); (case k30 => k_is)
    (case a31 => k_is); (case l31 => k_is); (case c31 => k_is); (case k31 => k_is)
    (case a32 => k_is); (case l32 => k_is); (case c32 => k_is); (case k32 => k_is)
    (case a33 => k_is); (case l33 => k_is); (case c33 => k_is); (case k33 => k_is)
    (case a34 => k_is); (case l34 => k_is); (case c34 => k_is); (case k34 => k_is)
    (case a35 => k_is); (case l35 => k_is); (case c35 => k_is); (case k35 => k_is)
    (case a36 => k_is); (case l36 => k_is); (case c36 => k_is); (case k36 => k_is)
    (case a37 => k_is); (case l37 => k_is); (case c37 => k_is); (case k37 => k_is)
    (case a38 => k_is); (case l38 => k_is); (case c38 => k_is); (case k38 => k_is)
    (case a39 => k_is); (case l39 => k_is); (case c39 => k_is); (case k39 => k_is)
    (case a40 => k_is); (case l40 => k_is); (case c40 => k_is); (case k40 => k_is)
    (case a41 => k_is); (case l41 => k_is); (case c41 => k_is); (case k41 => k_is)
    (case a42 => k_is); (case l42 => k_is); (case c42 => k_is); (case k42 => k_is)
    (case a43 => k_is); (case l43 => k_is); (case c43 => k_is); (case k43 => k_is)
    (case tc15 => exact rfl); (case lc15 => k_is); (case v15 => exact rfl); (case n15 => first | rfl | kernel_rfl)
    (case z_all => k_is)
    (case z_any => k_is)
    (case z_bool => k_is)
    (case z_int => k_is)
    (case z_isinstance => k_is)
    (case z_len => k_is)
    (case z_list => k_is)
    (case z_min => k_is)
    (case z_range => k_is)
    (case z_sorted => k_is)
    (case z_str => k_is)
    (case z_sum => k_is)
    (case z_tuple => k_is)
