import PyProof.Rows.All
import Wide.All
import OpenK.AllK
import Wide.FinOn
import HandS.ForMost
import HandS.Exc
import HandS.Evl
import HandS.CallSlots
import HandS.Defaults
import HandS.Lambda
import HandS.ExcOwn
import KE.DataEq
import HandS.IsInst
import HandS.Style
import HandS.Wide
import HandS.TupAny
import HandS.SortInts
import HandS.Small
import HandS.Zip
import HandS.Iter
import PyProof.CollectIter
import PyProof.ReprRoads
import PyProof.ReprBulk
import PyProof.CallFns
import HandS.OwnEq
import HandS.NamedTup0
import HandS.Ends
import HandS.HeadEnd
import HandS.Head0
import HandS.Head1
import HandS.Head2
import HandS.HeadHook1
import HandS.HeadHook2
import HandS.HeadHook4
import HandS.Dict
import HandS.DictComp
import HandS.ExcInit
import HandS.ExcField
import KE.KExcInit
import HandS.Flow
import HandS.MakeKwOnly
import KE.GoesEnum
import KE.KDictZip
import HandS.TryOnly
import PyProof.EqAt
import HandS.SetFor
import HandS.Strs
import HandS.TryMany
import KE.KExcIs
import HandS.Conv
import HandS.ListItems
import KE.KDictList
import HandS.SetBool
import PyProof.InstNe
import HandS.NamedTupSort
import HandS.EndTab
import PySem.Challenge.RW_ropedclimbers_k14_whole_rigs_led_over
set_option Elab.async false
set_option linter.all false
set_option maxRecDepth 100000
set_option maxHeartbeats 4000000
namespace Z
open PySem PySem.Spec PyProof.Rows L2

/-- data: what does not change any more, as a tree; adr: an object that may change, a def, a class, by its address -/
inductive D where
  | non | bl (b : Bool) | int (i : Int) | str (x : Str) | ty (n : String) | adr (a : Addr)
  | tup (xs : List D) | lst (xs : List D) | frl (xs : List D) | dic (ks : List D) (vs : List D) | set (xs : List Int)
  | obj (C : Addr) (ns : List Str) (vs : List D)
  | dlk (ks : List D) (vs : List D)
  | tab
  | clo (f c : Addr) (q : Str) (ds : List D) (vs : List V)

def keyD : Key → D
  | .inl i => .int i
  | .inr x => .str x

/-- .. a locked one: what stands there is o -/
def DicL (F : Hp) (a : Addr) (o : Obj) (ks : List D) (vs : List V) : Prop := ∃ kvs : List (Key × V), F a = some (.frz o (.dK kvs)) ∧ ks = kvs.map (fun p => keyD p.1) ∧ vs = kvs.map (·.2)
/-- a dict at a, its keys ints and texts: its keys as data, its values -/
def DicAt (F : Hp) (a : Addr) (ks : List D) (vs : List V) : Prop := ∃ kvs : List (Key × V), F a = some (.dK kvs) ∧ ks = kvs.map (fun p => keyD p.1) ∧ vs = kvs.map (·.2)

mutual
/-- the value v is the data d, by what F tells -/
def R (K : PySem.W.Frag) (F : Hp) : D → V → Prop
  | .non, v => v = .non
  | .bl b, v => v = .bl b
  | .int i, v => v = .int i
  | .str x, v => v = .str x
  | .ty n, v => v = .ty n
  | .adr a, v => v = .ref a
  | .tup ds, v => ∃ a vs, v = .ref a ∧ SqT K F a vs ∧ Rs K F ds vs
  | .lst ds, v => ∃ a vs, v = .ref a ∧ F a = some (.lst vs) ∧ Rs K F ds vs
  | .frl ds, v => ∃ a vs, v = .ref a ∧ SqL K F a vs ∧ Rs K F ds vs
  | .dic ks ds, v => ∃ a vs, v = .ref a ∧ DicAt F a ks vs ∧ Rs K F ds vs
  | .set xs, v => ∃ a S, v = .ref a ∧ F a = some (.set S xs.length) ∧ (∀ i, S i = decide (i ∈ xs)) ∧ xs.Nodup
  | .obj C ns ds, v => ∃ a dx fs, v = .ref a ∧ F a = some (.ins C dx fs) ∧ fs.map (·.1) = ns ∧ Rs K F ds (fs.map (·.2))
  | .dlk ks ds, v => ∃ a o vs, v = .ref a ∧ DicL F a o ks vs ∧ Rs K F ds vs
  | .tab, v => ∃ a, v = .ref a
  | .clo f c q ds vs, v => v = .ref f ∧ F c = some (LamX.CodeO c q) ∧ Rs K F ds vs
def Rs (K : PySem.W.Frag) (F : Hp) : List D → List V → Prop
  | [], vs => vs = []
  | d :: ds, vs => ∃ v vs', vs = v :: vs' ∧ R K F d v ∧ Rs K F ds vs'
end

abbrev Ex := Evl.Ex
theorem DicAt.mono {F F' : Hp} (e : Ex F F') {a : Addr} {ks : List D} {vs : List V} (h : DicAt F a ks vs) : DicAt F' a ks vs := by
  obtain ⟨kvs, h1, h2⟩ := h
  exact ⟨kvs, e _ _ h1, h2⟩
theorem DicL.mono {F F' : Hp} (e : Ex F F') {a : Addr} {o : Obj} {ks : List D} {vs : List V} (h : DicL F a o ks vs) : DicL F' a o ks vs := by
  obtain ⟨kvs, h1, h2⟩ := h
  exact ⟨kvs, e _ _ h1, h2⟩
mutual
theorem R.mono {K : PySem.W.Frag} {F F' : Hp} (e : Ex F F') : ∀ (d : D) (v : V), R K F d v → R K F' d v
  | .non, _, h => h
  | .bl _, _, h => h
  | .int _, _, h => h
  | .str _, _, h => h
  | .ty _, _, h => h
  | .adr _, _, h => h
  | .tup ds, v, h => by
    unfold R at h ⊢
    obtain ⟨a, vs, rfl, h1, h2⟩ := h
    exact ⟨a, vs, rfl, Evl.ex_t e h1, Rs.mono e ds vs h2⟩
  | .lst ds, v, h => by
    unfold R at h ⊢
    obtain ⟨a, vs, rfl, h1, h2⟩ := h
    exact ⟨a, vs, rfl, e _ _ h1, Rs.mono e ds vs h2⟩
  | .frl ds, v, h => by
    unfold R at h ⊢
    obtain ⟨a, vs, rfl, h1, h2⟩ := h
    exact ⟨a, vs, rfl, Evl.ex_l e h1, Rs.mono e ds vs h2⟩
  | .dic ks ds, v, h => by
    unfold R at h ⊢
    obtain ⟨a, vs, rfl, h1, h2⟩ := h
    exact ⟨a, vs, rfl, h1.mono e, Rs.mono e ds vs h2⟩
  | .set xs, v, h => by
    unfold R at h ⊢
    obtain ⟨a, S, rfl, h1, h2⟩ := h
    exact ⟨a, S, rfl, e _ _ h1, h2⟩
  | .obj C ns ds, v, h => by
    unfold R at h ⊢
    obtain ⟨a, dx, fs, rfl, h1, h2, h3⟩ := h
    exact ⟨a, dx, fs, rfl, e _ _ h1, h2, Rs.mono e ds _ h3⟩
  | .dlk ks ds, v, h => by
    unfold R at h ⊢
    obtain ⟨a, o, vs, rfl, h1, h2⟩ := h
    exact ⟨a, o, vs, rfl, h1.mono e, Rs.mono e ds vs h2⟩
  | .tab, v, h => by
    unfold R at h ⊢
    exact h
  | .clo f c q ds vs, v, h => by
    unfold R at h ⊢
    exact ⟨h.1, e _ _ h.2.1, Rs.mono e ds vs h.2.2⟩
theorem Rs.mono {K : PySem.W.Frag} {F F' : Hp} (e : Ex F F') : ∀ (ds : List D) (vs : List V), Rs K F ds vs → Rs K F' ds vs
  | [], _, h => h
  | d :: ds, vs, h => by
    unfold Rs at h ⊢
    obtain ⟨v, vs', rfl, h1, h2⟩ := h
    exact ⟨v, vs', rfl, R.mono e d v h1, Rs.mono e ds vs' h2⟩
end
theorem Rs.length {K : PySem.W.Frag} {F : Hp} : ∀ {ds : List D} {vs : List V}, Rs K F ds vs → vs.length = ds.length
  | [], _, h => by unfold Rs at h; subst h; rfl
  | d :: ds, vs, h => by
    unfold Rs at h
    obtain ⟨v, vs', rfl, _, h2⟩ := h
    rw [List.length_cons, List.length_cons, Rs.length h2]
theorem Rs.get {K : PySem.W.Frag} {F : Hp} : ∀ {ds : List D} {vs : List V} {i : Nat} {d : D}, Rs K F ds vs → ds[i]? = some d → ∃ v, vs[i]? = some v ∧ R K F d v
  | [], _, _, _, _, e => by simp at e
  | d :: ds, vs, i, x, h, e => by
    unfold Rs at h
    obtain ⟨v, vs', rfl, h1, h2⟩ := h
    cases i with
    | zero => simp at e; subst e; exact ⟨v, rfl, h1⟩
    | succ i => obtain ⟨u, q1, q2⟩ := Rs.get (i := i) (d := x) h2 (by simpa using e); exact ⟨u, by simpa using q1, q2⟩
theorem Rs.nil {K : PySem.W.Frag} {F : Hp} : Rs K F [] [] := by unfold Rs; rfl
theorem Rs.cons {K : PySem.W.Frag} {F : Hp} {d : D} {v : V} {ds : List D} {vs : List V} (h : R K F d v) (t : Rs K F ds vs) : Rs K F (d :: ds) (v :: vs) := by
  unfold Rs; exact ⟨v, vs, rfl, h, t⟩
theorem Rs.append {K : PySem.W.Frag} {F : Hp} : ∀ {ds es : List D} {vs ws : List V}, Rs K F ds vs → Rs K F es ws → Rs K F (ds ++ es) (vs ++ ws)
  | [], _, _, _, h, t => by unfold Rs at h; subst h; exact t
  | d :: ds, es, vs, ws, h, t => by
    unfold Rs at h
    obtain ⟨v, vs', rfl, h1, h2⟩ := h
    exact Rs.cons h1 (Rs.append h2 t)

/-! ### the store of what may change -/
inductive DO where
  | lst (xs : List D)
  | dic (ks : List D) (vs : List D)
  | set (xs : List Int)
  | obj (C : Addr) (ns : List Str) (vs : List D)
  | tab (q : Str)
abbrev Sto := Addr → Option DO
def supd (S : Sto) (a : Addr) (o : DO) : Sto := fun b => if b = a then some o else S b
def sdel (S : Sto) (a : Addr) : Sto := fun b => if b = a then none else S b
theorem supd_same {S : Sto} {a : Addr} {o : DO} : supd S a o a = some o := by unfold supd; rw [if_pos rfl]
theorem supd_ne {S : Sto} {a b : Addr} {o : DO} (h : b ≠ a) : supd S a o b = S b := by unfold supd; rw [if_neg h]
theorem supd_supd {S : Sto} {a : Addr} {o u : DO} : supd (supd S a o) a u = supd S a u := by funext b; unfold supd; split <;> rfl
def SSub (S S' : Sto) : Prop := ∀ a o, S a = some o → S' a = some o
theorem SSub.refl (S : Sto) : SSub S S := fun _ _ h => h
theorem SSub.trans {S S1 S2 : Sto} (a : SSub S S1) (b : SSub S1 S2) : SSub S S2 := fun c o h => b c o (a c o h)
theorem SSub.new {S : Sto} {a : Addr} {o : DO} (h : S a = none) : SSub S (supd S a o) := fun b u e => by
  by_cases hb : b = a
  · subst hb; rw [h] at e; cases e
  · rw [supd_ne hb]; exact e
theorem SSub.del {S : Sto} {a : Addr} : SSub (sdel S a) S := fun b u e => by
  unfold sdel at e; split at e
  · cases e
  · exact e
def RO (K : PySem.W.Frag) (F H : Hp) (a : Addr) : DO → Prop
  | .lst ds => ∃ vs, H a = some (.lst vs) ∧ Rs K F ds vs
  | .dic ks ds => ∃ vs, DicAt H a ks vs ∧ Rs K F ds vs
  | .set xs => ∃ S, H a = some (.set S xs.length) ∧ (∀ i, S i = decide (i ∈ xs)) ∧ xs.Nodup
  | .obj C ns ds => ∃ dx fs, H a = some (.ins C dx fs) ∧ fs.map (·.1) = ns ∧ Rs K F ds (fs.map (·.2))
  | .tab q => ∃ ps : Array Value, H a = some (.tbl ps) ∧ TriplesOk ps.toList ∧ ∀ (pos : Pos) (cv : Value), codeAmong pos ps.toList = some cv → ∃ c, cv = .ref c ∧ F c = some (LamX.CodeO c q)
abbrev Envd := List (Option D)
structure RelH (K : PySem.W.Frag) (F H : Hp) (S : Sto) : Prop where
  ex : Ex F H
  so : ∀ a o, S a = some o → F a = none ∧ RO K F H a o
theorem RO.mono {K : PySem.W.Frag} {F F' H H' : Hp} {a : Addr} {o : DO} (e : Ex F F') (h : H' a = H a) (r : RO K F H a o) : RO K F' H' a o := by
  cases o with
  | lst ds => obtain ⟨vs, h1, h2⟩ := r; exact ⟨vs, h ▸ h1, Rs.mono e _ _ h2⟩
  | dic ks ds =>
    obtain ⟨vs, h1, h2⟩ := r
    obtain ⟨kvs, h1, q⟩ := h1
    exact ⟨vs, ⟨kvs, h.trans h1, q⟩, Rs.mono e _ _ h2⟩
  | set xs => obtain ⟨S, h1, h2⟩ := r; exact ⟨S, h ▸ h1, h2⟩
  | obj C ns ds => obtain ⟨dx, fs, h1, h2, h3⟩ := r; exact ⟨dx, fs, h ▸ h1, h2, Rs.mono e _ _ h3⟩
  | tab q => obtain ⟨ps, h1, h2, h3⟩ := r; exact ⟨ps, h ▸ h1, h2, fun pos cv hc => let ⟨c, e1, e2⟩ := h3 pos cv hc; ⟨c, e1, e _ _ e2⟩⟩
theorem RO.there {K : PySem.W.Frag} {F H : Hp} {a : Addr} {o : DO} (r : RO K F H a o) : ∃ u, H a = some u := by
  cases o with
  | lst ds => obtain ⟨vs, h1, _⟩ := r; exact ⟨_, h1⟩
  | dic ks ds =>
    obtain ⟨vs, h1, h2⟩ := r
    obtain ⟨kvs, h1, q⟩ := h1
    exact ⟨_, h1⟩
  | set xs => obtain ⟨S, h1, h2⟩ := r; exact ⟨_, h1⟩
  | obj C ns ds => obtain ⟨dx, fs, h1, h2⟩ := r; exact ⟨_, h1⟩
  | tab q => obtain ⟨ps, h1, h2⟩ := r; exact ⟨_, h1⟩
theorem RelH.sub {K : PySem.W.Frag} {F H : Hp} {S S' : Sto} (r : RelH K F H S) (s : SSub S' S) : RelH K F H S' := ⟨r.ex, fun a o e => r.so a o (s a o e)⟩
theorem RelH.fresh {K : PySem.W.Frag} {F H : Hp} {S : Sto} (r : RelH K F H S) {p : Addr} (hp : H p = none) : F p = none ∧ S p = none := by
  constructor
  · cases e : F p with
    | none => rfl
    | some o => have := r.ex p o e; rw [hp] at this; cases this
  · cases e : S p with
    | none => rfl
    | some o => obtain ⟨_, q⟩ := r.so p o e; obtain ⟨u, q⟩ := q.there; rw [hp] at q; cases q
/-- a new object, frozen at once -/
theorem RelH.newF {K : PySem.W.Frag} {F H : Hp} {S : Sto} (r : RelH K F H S) {p : Addr} {o : HO} (hp : H p = none) : RelH K (upd F p o) (upd H p o) S ∧ Ex F (upd F p o) := by
  obtain ⟨f1, f2⟩ := r.fresh hp
  have eF : Ex F (upd F p o) := Evl.Ex.new f1
  refine ⟨⟨fun a u e => ?_, fun a u e => ?_⟩, eF⟩
  · by_cases ha : a = p
    · subst ha; rw [upd_same] at e ⊢; exact e
    · rw [upd_ne ha] at e ⊢; exact r.ex a u e
  · have ha : a ≠ p := fun z => by rw [z, f2] at e; cases e
    obtain ⟨q1, q2⟩ := r.so a u e
    exact ⟨by rw [upd_ne ha]; exact q1, q2.mono eF (upd_ne ha)⟩
/-- a new object of the store -/
theorem RelH.newS {K : PySem.W.Frag} {F H : Hp} {S : Sto} (r : RelH K F H S) {p : Addr} {o : HO} {u : DO} (hp : H p = none) (ho : RO K F (upd H p o) p u) : RelH K F (upd H p o) (supd S p u) := by
  obtain ⟨f1, f2⟩ := r.fresh hp
  refine ⟨fun a v e => ?_, fun a v e => ?_⟩
  · have ha : a ≠ p := fun z => by rw [z, f1] at e; cases e
    rw [upd_ne ha]; exact r.ex a v e
  · by_cases ha : a = p
    · subst ha; rw [supd_same] at e; cases e; exact ⟨f1, ho⟩
    · rw [supd_ne ha] at e
      obtain ⟨q1, q2⟩ := r.so a v e
      exact ⟨q1, q2.mono (Evl.Ex.refl F) (upd_ne ha)⟩
/-- an object of the store changed -/
theorem RelH.putS {K : PySem.W.Frag} {F H : Hp} {S : Sto} (r : RelH K F H S) {p : Addr} {o : HO} {u u' : DO} (hp : S p = some u') (ho : RO K F (upd H p o) p u) : RelH K F (upd H p o) (supd S p u) := by
  obtain ⟨f1, _⟩ := r.so p _ hp
  refine ⟨fun a v e => ?_, fun a v e => ?_⟩
  · have ha : a ≠ p := fun z => by rw [z, f1] at e; cases e
    rw [upd_ne ha]; exact r.ex a v e
  · by_cases ha : a = p
    · subst ha; rw [supd_same] at e; cases e; exact ⟨f1, ho⟩
    · rw [supd_ne ha] at e
      obtain ⟨q1, q2⟩ := r.so a v e
      exact ⟨q1, q2.mono (Evl.Ex.refl F) (upd_ne ha)⟩
/-- an object of the store is frozen -/
def DO.toD : DO → D
  | .lst xs => .lst xs
  | .dic ks vs => .dic ks vs
  | .set xs => .set xs
  | .obj C ns vs => .obj C ns vs
  | .tab _ => .tab
/-- what a step keeps: what is frozen, and all that is neither frozen nor of the store -/
structure Go (F H : Hp) (S : Sto) (F' H' : Hp) (S' : Sto) : Prop where
  ex : Ex F F'
  fr : ∀ a o, H a = some o → S a = none → F a = none → H' a = some o ∧ S' a = none ∧ F' a = none
  dm : ∀ a, H' a = none → H a = none
theorem upd_none {H : Hp} {p a : Addr} {o : HO} (h : upd H p o a = none) : H a = none := by
  by_cases e : a = p
  · subst e; rw [upd_same] at h; cases h
  · rwa [upd_ne e] at h
theorem Go.refl {F H : Hp} {S : Sto} : Go F H S F H S := ⟨Evl.Ex.refl F, fun _ _ h n f => ⟨h, n, f⟩, fun _ h => h⟩
theorem Go.trans {F H F1 H1 F2 H2 : Hp} {S S1 S2 : Sto} (a : Go F H S F1 H1 S1) (b : Go F1 H1 S1 F2 H2 S2) : Go F H S F2 H2 S2 :=
  ⟨a.ex.trans b.ex, fun c o h n f => let ⟨h1, n1, f1⟩ := a.fr c o h n f; b.fr c o h1 n1 f1, fun c h => a.dm c (b.dm c h)⟩
theorem Go.newF {F H : Hp} {S : Sto} {p : Addr} {o : HO} (e : Ex F (upd F p o)) (hp : H p = none) : Go F H S (upd F p o) (upd H p o) S :=
  ⟨e, fun a u h n f => ⟨by rw [upd_ne (ne_of_none h hp)]; exact h, n, by rw [upd_ne (ne_of_none h hp)]; exact f⟩, fun _ h => upd_none h⟩
theorem Go.newS {F H : Hp} {S : Sto} {p : Addr} {o : HO} {u : DO} (hp : H p = none) : Go F H S F (upd H p o) (supd S p u) :=
  ⟨Evl.Ex.refl F, fun a v h n f => ⟨by rw [upd_ne (ne_of_none h hp)]; exact h, by rw [supd_ne (ne_of_none h hp)]; exact n, f⟩, fun _ h => upd_none h⟩
theorem Go.putS {F H : Hp} {S : Sto} {p : Addr} {o : HO} {u u' : DO} (hp : S p = some u') : Go F H S F (upd H p o) (supd S p u) :=
  ⟨Evl.Ex.refl F, fun a v h n f => by
    have ha : a ≠ p := fun z => by rw [z, hp] at n; cases n
    exact ⟨by rw [upd_ne ha]; exact h, by rw [supd_ne ha]; exact n, f⟩, fun _ h => upd_none h⟩
theorem Go.sub {F H F' H' : Hp} {S S' S'' : Sto} (g : Go F H S F' H' S') (s : SSub S'' S') : Go F H S F' H' S'' :=
  ⟨g.ex, fun a o h n f => by
    obtain ⟨h1, n1, f1⟩ := g.fr a o h n f
    refine ⟨h1, ?_, f1⟩
    cases e : S'' a with
    | none => rfl
    | some u =>
      rw [s a u e] at n1
      exact (nomatch n1),
  g.dm⟩
theorem sdel_none {S : Sto} {p a : Addr} (h : S a = none) : sdel S p a = none := by
  unfold sdel; split
  · rfl
  · exact h
theorem RelH.frz {K : PySem.W.Frag} {F H : Hp} {S : Sto} (r : RelH K F H S) {p : Addr} {u : DO} (hp : S p = some u) : ∃ F', Go F H S F' H (sdel S p) ∧ RelH K F' H (sdel S p) ∧ R K F' u.toD (.ref p) := by
  obtain ⟨f1, f2⟩ := r.so p _ hp
  obtain ⟨ho, hh⟩ := f2.there
  have eF : Ex F (upd F p ho) := Evl.Ex.new f1
  refine ⟨upd F p ho, ⟨eF, fun a o h n f => ⟨h, sdel_none n, ?_⟩, fun _ h => h⟩, ⟨fun a v e => ?_, fun a v e => ?_⟩, ?_⟩
  · have ha : a ≠ p := fun z => by rw [z, hp] at n; cases n
    rw [upd_ne ha]; exact f
  · by_cases ha : a = p
    · subst ha; rw [upd_same] at e; cases e; exact hh
    · rw [upd_ne ha] at e; exact r.ex a v e
  · have ha : a ≠ p := fun z => by unfold sdel at e; rw [if_pos z] at e; cases e
    have e' : S a = some v := SSub.del a v e
    obtain ⟨q1, q2⟩ := r.so a v e'
    exact ⟨by rw [upd_ne ha]; exact q1, q2.mono eF rfl⟩
  · cases u with
    | lst ds =>
      obtain ⟨vs, h1, h2⟩ := f2
      rw [hh] at h1; cases h1
      unfold DO.toD R
      exact ⟨p, vs, rfl, upd_same, Rs.mono eF _ _ h2⟩
    | dic ks ds =>
      obtain ⟨vs, h1, h2⟩ := f2
      unfold DO.toD R
      refine ⟨p, vs, rfl, ?_, Rs.mono eF _ _ h2⟩
      obtain ⟨kvs, h1, q⟩ := h1
      rw [hh] at h1; cases h1; exact ⟨kvs, upd_same, q⟩
    | set xs =>
      obtain ⟨S', h1, h2⟩ := f2
      rw [hh] at h1; cases h1
      unfold DO.toD R
      exact ⟨p, S', rfl, upd_same, h2⟩
    | obj C ns ds =>
      obtain ⟨dx, fs, h1, h2, h3⟩ := f2
      rw [hh] at h1; cases h1
      unfold DO.toD R
      exact ⟨p, dx, fs, rfl, upd_same, h2, Rs.mono eF _ _ h3⟩
    | tab q =>
      unfold DO.toD R
      exact ⟨p, rfl⟩
/-- an object that is neither frozen nor of the store, written or new -/
theorem RelH.other {K : PySem.W.Frag} {F H : Hp} {S : Sto} (r : RelH K F H S) {p : Addr} {o : HO} (f : F p = none) (n : S p = none) : RelH K F (upd H p o) S := by
  refine ⟨fun a v e => ?_, fun a v e => ?_⟩
  · have ha : a ≠ p := fun z => by rw [z, f] at e; cases e
    rw [upd_ne ha]; exact r.ex a v e
  · have ha : a ≠ p := fun z => by rw [z, n] at e; cases e
    obtain ⟨q1, q2⟩ := r.so a v e
    exact ⟨q1, q2.mono (Evl.Ex.refl F) (upd_ne ha)⟩
/-- what is wished of an exception raised in a body: of its class, its field, the slots, the store; and where the body began -/
structure WD where
  f : Addr → D → Envd → Sto → Prop
  F : Hp
  H : Hp
  S : Sto
structure Rel (K : PySem.W.Frag) (wd : WD) (F : Hp) (σ : L2.St) (H : Hp) (ρ : Envd) (S : Sto) : Prop where
  h : RelH K F H S
  sl : ∀ (i : Nat) d, ρ[i]? = some (some d) → ∃ v, σ[i]? = some (some v) ∧ R K F d v
  len : ρ.length = σ.length
  go : Go wd.F wd.H wd.S F H S
theorem Rel.up {K : PySem.W.Frag} {wd : WD} {F F' : Hp} {σ : L2.St} {H H' : Hp} {ρ : Envd} {S S' : Sto} (r : Rel K wd F σ H ρ S) (e : Go F H S F' H' S') (h : RelH K F' H' S') : Rel K wd F' σ H' ρ S' :=
  ⟨h, fun i d q => let ⟨v, q1, q2⟩ := r.sl i d q; ⟨v, q1, R.mono e.ex d v q2⟩, r.len, r.go.trans e⟩
theorem Rel.set {K : PySem.W.Frag} {wd : WD} {F : Hp} {σ : L2.St} {H : Hp} {ρ : Envd} {S : Sto} (r : Rel K wd F σ H ρ S) (i : Nat) {d : D} {v : V} (h : R K F d v) : Rel K wd F (σ.set i (some v)) H (ρ.set i (some d)) S := by
  refine ⟨r.h, fun j x e => ?_, by rw [List.length_set, List.length_set]; exact r.len, r.go⟩
  by_cases hj : i = j
  · subst hj
    have hl : i < ρ.length := by
      have := (List.getElem?_eq_some_iff.mp e).1
      rwa [List.length_set] at this
    rw [List.getElem?_set_self hl] at e; cases e
    exact ⟨v, List.getElem?_set_self (r.len ▸ hl), h⟩
  · rw [List.getElem?_set_ne hj] at e ⊢
    exact r.sl j x e
end Z

set_option Elab.async false
set_option linter.all false
set_option maxRecDepth 100000
set_option maxHeartbeats 4000000
namespace Z
open PySem PySem.Spec PyProof.Rows L2

abbrev KD := D → Sto → Prop
abbrev XD := Addr → D → Sto → Prop
abbrev TD := WD → Envd → Sto → KD → Prop
abbrev TAD := WD → Envd → Sto → (List D → Sto → Prop) → Prop
abbrev TTD := WD → Envd → Sto → (Bool → Sto → Prop) → Prop
structure EndsD where
  nx : Envd → Sto → Prop
  rt : D → Sto → Prop
  bk : Envd → Sto → Prop := fun _ _ => False
  ct : Envd → Sto → Prop := fun _ _ => False
abbrev TSD := WD → EndsD → Envd → Sto → Prop

/-- an exception's field -/
def Fld (K : PySem.W.Frag) (F H : Hp) (d : Option Addr) (x : D) : Prop :=
  (∃ dx v, d = some dx ∧ H dx = some (.xd [(Str.ofString "what", v)]) ∧ R K F x v) ∨ (d = none ∧ x = .ty "")
/-- what is wished of an exception in a body, as the layer below has it -/
def WL (K : PySem.W.Frag) (wd : WD) : WX := fun cls d σ H => ∃ F ρ S C x, cls = .ref C ∧ Rel K wd F σ H ρ S ∧ Fld K F H d x ∧ wd.f C x ρ S

/-- behind an expression -/
def EPd (X : Cx) (wd : WD) (pins : List (Addr × Obj)) (σ : L2.St) (H F : Hp) (ρ : Envd) (S : Sto) (k : KD) (u : Value) (s' : Shared) : Prop :=
  ∃ v H' F' d S', Inv X pins σ H' s' ∧ RelV v u ∧ Go F H S F' H' S' ∧ Rel X.K wd F' σ H' ρ S' ∧ R X.K F' d v ∧ k d S'
def TPd (X : Cx) (wd : WD) (pins : List (Addr × Obj)) (σ : L2.St) (H F : Hp) (ρ : Envd) (S : Sto) (k : Bool → Sto → Prop) (b : Bool) (s' : Shared) : Prop :=
  ∃ H' F' S', Inv X pins σ H' s' ∧ Go F H S F' H' S' ∧ Rel X.K wd F' σ H' ρ S' ∧ k b S'
def APd (X : Cx) (wd : WD) (pins : List (Addr × Obj)) (σ : L2.St) (H F : Hp) (ρ : Envd) (S : Sto) (k : List D → Sto → Prop) (us : List Value) (s' : Shared) : Prop :=
  ∃ vs H' F' ds S', Inv X pins σ H' s' ∧ Vals vs us ∧ Go F H S F' H' S' ∧ Rel X.K wd F' σ H' ρ S' ∧ Rs X.K F' ds vs ∧ k ds S'
def SPd (X : Cx) (wd : WD) (pins : List (Addr × Obj)) (H F : Hp) (S : Sto) (E : EndsD) (f : Flow) (s' : Shared) : Prop :=
  match f with
  | .next => ∃ σ' H' F' ρ' S', Inv X pins σ' H' s' ∧ Go F H S F' H' S' ∧ Rel X.K wd F' σ' H' ρ' S' ∧ E.nx ρ' S'
  | .brk => ∃ σ' H' F' ρ' S', Inv X pins σ' H' s' ∧ Go F H S F' H' S' ∧ Rel X.K wd F' σ' H' ρ' S' ∧ E.bk ρ' S'
  | .cont => ∃ σ' H' F' ρ' S', Inv X pins σ' H' s' ∧ Go F H S F' H' S' ∧ Rel X.K wd F' σ' H' ρ' S' ∧ E.ct ρ' S'
  | .ret u => ∃ v σ' H' F' d S', Inv X pins σ' H' s' ∧ RelV v u ∧ Go F H S F' H' S' ∧ RelH X.K F' H' S' ∧ R X.K F' d v ∧ E.rt d S'

structure PD (X : Cx) (wd : WD) (e : Expr) (t : TD) : Prop where
  run : ∀ (pins : List (Addr × Obj)) (s : Shared) (σ : L2.St) (H F : Hp) (ρ : Envd) (S : Sto) (k : KD), Inv X pins σ H s → Rel X.K wd F σ H ρ S → t wd ρ S k →
    wpAny (model X.prog X.w) X.A (eval e X.env) (EPd X wd pins σ H F ρ S k) X.xe s
structure PTD (X : Cx) (wd : WD) (e : Expr) (t : TTD) : Prop where
  run : ∀ (pins : List (Addr × Obj)) (s : Shared) (σ : L2.St) (H F : Hp) (ρ : Envd) (S : Sto) (k : Bool → Sto → Prop), Inv X pins σ H s → Rel X.K wd F σ H ρ S → t wd ρ S k →
    wpAny (model X.prog X.w) X.A (isTrue e X.env (eval e X.env)) (TPd X wd pins σ H F ρ S k) X.xe s
structure PWD (X : Cx) (wd : WD) (e : Expr) (t : TTD) : Prop where
  run : ∀ (whole : Sem Value) (pins : List (Addr × Obj)) (s : Shared) (σ : L2.St) (H F : Hp) (ρ : Envd) (S : Sto) (k : Bool → Sto → Prop), Inv X pins σ H s → Rel X.K wd F σ H ρ S → t wd ρ S k →
    wpAny (model X.prog X.w) X.A (isTrue e X.env whole) (TPd X wd pins σ H F ρ S k) X.xe s
structure PAD (X : Cx) (wd : WD) (es : List Expr) (t : TAD) : Prop where
  run : ∀ (pos : Pos) (pins : List (Addr × Obj)) (s : Shared) (σ : L2.St) (H F : Hp) (ρ : Envd) (S : Sto) (k : List D → Sto → Prop), Inv X pins σ H s → Rel X.K wd F σ H ρ S → t wd ρ S k →
    wpAny (model X.prog X.w) X.A (spliced (backTo pos (starEach es X.env))) (APd X wd pins σ H F ρ S k) X.xe s
structure PSD (X : Cx) (wd : WD) (st : Stmt) (t : TSD) : Prop where
  run : ∀ (pins : List (Addr × Obj)) (s : Shared) (σ : L2.St) (H F : Hp) (ρ : Envd) (S : Sto) (E : EndsD), Inv X pins σ H s → Rel X.K wd F σ H ρ S → t wd E ρ S →
    wpAny (model X.prog X.w) X.A (exec st X.env) (SPd X wd pins H F S E) X.xe s
structure PSsD (X : Cx) (wd : WD) (st : List Stmt) (t : TSD) : Prop where
  run : ∀ (pins : List (Addr × Obj)) (s : Shared) (σ : L2.St) (H F : Hp) (ρ : Envd) (S : Sto) (E : EndsD), Inv X pins σ H s → Rel X.K wd F σ H ρ S → t wd E ρ S →
    wpAny (model X.prog X.w) X.A (execs st X.env) (SPd X wd pins H F S E) X.xe s

/-- the reading below that stands for one of ours -/
def lift (K : PySem.W.Frag) (wd : WD) (t : Envd → Sto → KD → Prop) : TE := fun σ H Q => ∃ F ρ S k, Rel K wd F σ H ρ S ∧ t ρ S k ∧ ∀ F' v H' d S', Go F H S F' H' S' → Rel K wd F' σ H' ρ S' → R K F' d v → k d S' → Q v H'
def liftT (K : PySem.W.Frag) (wd : WD) (t : Envd → Sto → (Bool → Sto → Prop) → Prop) : TT := fun σ H Q => ∃ F ρ S k, Rel K wd F σ H ρ S ∧ t ρ S k ∧ ∀ F' b H' S', Go F H S F' H' S' → Rel K wd F' σ H' ρ S' → k b S' → Q b H'
def liftA (K : PySem.W.Frag) (wd : WD) (t : Envd → Sto → (List D → Sto → Prop) → Prop) : TA := fun σ H Q => ∃ F ρ S k, Rel K wd F σ H ρ S ∧ t ρ S k ∧ ∀ F' vs H' ds S', Go F H S F' H' S' → Rel K wd F' σ H' ρ S' → Rs K F' ds vs → k ds S' → Q vs H'
def liftS (K : PySem.W.Frag) (wd : WD) (t : EndsD → Envd → Sto → Prop) : TS := fun D σ H => ∃ F ρ S E, Rel K wd F σ H ρ S ∧ t E ρ S ∧
  (∀ F' σ' H' ρ' S', Go F H S F' H' S' → Rel K wd F' σ' H' ρ' S' → E.nx ρ' S' → D.nx σ' H') ∧ (∀ F' σ' H' ρ' S', Go F H S F' H' S' → Rel K wd F' σ' H' ρ' S' → E.bk ρ' S' → D.bk σ' H') ∧
  (∀ F' σ' H' ρ' S', Go F H S F' H' S' → Rel K wd F' σ' H' ρ' S' → E.ct ρ' S' → D.ct σ' H') ∧ (∀ F' v H' d S', Go F H S F' H' S' → RelH K F' H' S' → R K F' d v → E.rt d S' → D.rt v H')
section
variable {X : Cx} {wd : WD} {e : Expr} {es : List Expr} {st : Stmt} {sts : List Stmt}
theorem PD.pe {t : TD} (h : PD X wd e t) : PE X e (lift X.K wd (t wd)) := ⟨fun pins s σ H Q I ⟨F, ρ, S, k, r, ht, hk⟩ =>
  thn (h.run pins s σ H F ρ S k I r ht) fun _ _ ⟨v, H', F', d, S', I', rv, e, r', rd, q⟩ => ⟨v, H', I', rv, hk F' v H' d S' e r' rd q⟩⟩
theorem PE.pd {te : TE} {t : TD} (h : PE X e te) (hi : ∀ σ H F ρ S k, Rel X.K wd F σ H ρ S → t wd ρ S k → te σ H fun v H' => ∃ F' d S', Go F H S F' H' S' ∧ Rel X.K wd F' σ H' ρ S' ∧ R X.K F' d v ∧ k d S') : PD X wd e t :=
  ⟨fun pins s σ H F ρ S k I r ht => thn (h.run pins s σ H _ I (hi σ H F ρ S k r ht)) fun _ _ ⟨v, H', I', rv, F', d, S', e, r', rd, q⟩ => ⟨v, H', F', d, S', I', rv, e, r', rd, q⟩⟩
theorem PTD.pt {t : TTD} (h : PTD X wd e t) : PT X e (liftT X.K wd (t wd)) := ⟨fun pins s σ H Q I ⟨F, ρ, S, k, r, ht, hk⟩ =>
  thn (h.run pins s σ H F ρ S k I r ht) fun b _ ⟨H', F', S', I', e, r', q⟩ => ⟨H', I', hk F' b H' S' e r' q⟩⟩
theorem PT.ptd {te : TT} {t : TTD} (h : PT X e te) (hi : ∀ σ H F ρ S k, Rel X.K wd F σ H ρ S → t wd ρ S k → te σ H fun b H' => ∃ F' S', Go F H S F' H' S' ∧ Rel X.K wd F' σ H' ρ S' ∧ k b S') : PTD X wd e t :=
  ⟨fun pins s σ H F ρ S k I r ht => thn (h.run pins s σ H _ I (hi σ H F ρ S k r ht)) fun _ _ ⟨H', I', F', S', e, r', q⟩ => ⟨H', F', S', I', e, r', q⟩⟩
theorem PAD.pa {t : TAD} (h : PAD X wd es t) : PA X es (liftA X.K wd (t wd)) := ⟨fun pos pins s σ H Q I ⟨F, ρ, S, k, r, ht, hk⟩ =>
  thn (h.run pos pins s σ H F ρ S k I r ht) fun _ _ ⟨vs, H', F', ds, S', I', rv, e, r', rd, q⟩ => ⟨vs, H', I', rv, hk F' vs H' ds S' e r' rd q⟩⟩
theorem PSD.ps {t : TSD} (h : PSD X wd st t) : PS X st (liftS X.K wd (t wd)) := ⟨fun pins s σ H D I ⟨F, ρ, S, E, r, ht, h1, h2, h3, h4⟩ =>
  thn (h.run pins s σ H F ρ S E I r ht) fun f _ q => by
    cases f with
    | next => obtain ⟨σ', H', F', ρ', S', I', e, r', q⟩ := q; exact ⟨σ', H', I', h1 _ _ _ _ _ e r' q⟩
    | brk => obtain ⟨σ', H', F', ρ', S', I', e, r', q⟩ := q; exact ⟨σ', H', I', h2 _ _ _ _ _ e r' q⟩
    | cont => obtain ⟨σ', H', F', ρ', S', I', e, r', q⟩ := q; exact ⟨σ', H', I', h3 _ _ _ _ _ e r' q⟩
    | ret u => obtain ⟨v, σ', H', F', d, S', I', rv, e, r', rd, q⟩ := q; exact ⟨v, σ', H', I', rv, h4 _ _ _ _ _ e r' rd q⟩⟩
theorem PSsD.pss {t : TSD} (h : PSsD X wd sts t) : PSs X sts (liftS X.K wd (t wd)) := ⟨fun pins s σ H D I ⟨F, ρ, S, E, r, ht, h1, h2, h3, h4⟩ =>
  thn (h.run pins s σ H F ρ S E I r ht) fun f _ q => by
    cases f with
    | next => obtain ⟨σ', H', F', ρ', S', I', e, r', q⟩ := q; exact ⟨σ', H', I', h1 _ _ _ _ _ e r' q⟩
    | brk => obtain ⟨σ', H', F', ρ', S', I', e, r', q⟩ := q; exact ⟨σ', H', I', h2 _ _ _ _ _ e r' q⟩
    | cont => obtain ⟨σ', H', F', ρ', S', I', e, r', q⟩ := q; exact ⟨σ', H', I', h3 _ _ _ _ _ e r' q⟩
    | ret u => obtain ⟨v, σ', H', F', d, S', I', rv, e, r', rd, q⟩ := q; exact ⟨v, σ', H', I', rv, h4 _ _ _ _ _ e r' rd q⟩⟩
/-- the ends that a statement below is run with -/
def endL (K : PySem.W.Frag) (wd : WD) (H F : Hp) (S : Sto) (E : EndsD) : Ends where
  nx := fun σ' H' => ∃ F' ρ' S', Go F H S F' H' S' ∧ Rel K wd F' σ' H' ρ' S' ∧ E.nx ρ' S'
  rt := fun v H' => ∃ F' d S', Go F H S F' H' S' ∧ RelH K F' H' S' ∧ R K F' d v ∧ E.rt d S'
  bk := fun σ' H' => ∃ F' ρ' S', Go F H S F' H' S' ∧ Rel K wd F' σ' H' ρ' S' ∧ E.bk ρ' S'
  ct := fun σ' H' => ∃ F' ρ' S', Go F H S F' H' S' ∧ Rel K wd F' σ' H' ρ' S' ∧ E.ct ρ' S'
theorem spd_of {pins : List (Addr × Obj)} {H F : Hp} {S : Sto} {E : EndsD} {f : Flow} {s' : Shared} (q : SP X pins (endL X.K wd H F S E) f s') : SPd X wd pins H F S E f s' := by
  cases f with
  | next => obtain ⟨σ', H', I', F', ρ', S', e, r', q⟩ := q; exact ⟨σ', H', F', ρ', S', I', e, r', q⟩
  | brk => obtain ⟨σ', H', I', F', ρ', S', e, r', q⟩ := q; exact ⟨σ', H', F', ρ', S', I', e, r', q⟩
  | cont => obtain ⟨σ', H', I', F', ρ', S', e, r', q⟩ := q; exact ⟨σ', H', F', ρ', S', I', e, r', q⟩
  | ret u => obtain ⟨v, σ', H', I', rv, F', d, S', e, r', rd, q⟩ := q; exact ⟨v, σ', H', F', d, S', I', rv, e, r', rd, q⟩
theorem PS.psd {ts : TS} {t : TSD} (h : PS X st ts) (hi : ∀ σ H F ρ S E, Rel X.K wd F σ H ρ S → t wd E ρ S → ts (endL X.K wd H F S E) σ H) : PSD X wd st t :=
  ⟨fun pins s σ H F ρ S E I r ht => thn (h.run pins s σ H _ I (hi σ H F ρ S E r ht)) fun _ _ q => spd_of q⟩
theorem liftS_end {K : PySem.W.Frag} {wd : WD} {F : Hp} {σ : L2.St} {H : Hp} {ρ : Envd} {S : Sto} {E : EndsD} {t : EndsD → Envd → Sto → Prop} (r : Rel K wd F σ H ρ S) (ht : t E ρ S) : liftS K wd t (endL K wd H F S E) σ H :=
  ⟨F, ρ, S, E, r, ht, fun F' σ' H' ρ' S' e r q => ⟨F', ρ', S', e, r, q⟩, fun F' σ' H' ρ' S' e r q => ⟨F', ρ', S', e, r, q⟩, fun F' σ' H' ρ' S' e r q => ⟨F', ρ', S', e, r, q⟩, fun F' v H' d S' e r rd q => ⟨F', d, S', e, r, rd, q⟩⟩
end

/-! ### names, constants -/
def dVar (i : Nat) : TD := fun _ ρ S k => match ρ[i]? with | some (some d) => k d S | _ => False
def dC (d : D) : TD := fun _ _ S k => k d S
section
variable {X : Cx} {wd : WD} {a b c e : Expr} {ta tb tc : TD} {pos : Pos}
theorem pdv (i : Nat) {x : Str} {pos : Pos} (hN : X.N[i]? = some x := by rfl) (hv : Vis X.env.scope x := by first | exact Or.inl rfl | exact Or.inr (Or.inl rfl) | exact Or.inr (Or.inr rfl)) (hd : (x == ("__debug__" : Str)) = false := by decide)
    (hcd : (x == ("__classdict__" : Str)) = false := by decide) : PD X wd (.Name x pos) (dVar i) :=
  PE.pd (pe_var hN hv hd hcd) fun σ H F ρ S k r h => by
    unfold dVar at h
    split at h
    · rename_i d q
      obtain ⟨v, q1, q2⟩ := r.sl i d q
      exact ⟨v, q1, F, d, S, Go.refl, r, q2, h⟩
    · exact h.elim
theorem pd_int {i : Int} {j pos} : PD X wd (.Constant (.int i) j pos) (dC (.int i)) := PE.pd pe_int fun σ H F ρ S k r h => ⟨F, .int i, S, Go.refl, r, rfl, h⟩
theorem pd_bl {b : Bool} {j pos} : PD X wd (.Constant (.bool b) j pos) (dC (.bl b)) := PE.pd pe_bl fun σ H F ρ S k r h => ⟨F, .bl b, S, Go.refl, r, rfl, h⟩
theorem pd_non {j pos} : PD X wd (.Constant .none j pos) (dC .non) := PE.pd pe_non fun σ H F ρ S k r h => ⟨F, .non, S, Go.refl, r, rfl, h⟩
theorem pd_str {x : Str} {j pos} : PD X wd (.Constant (.str x) j pos) (dC (.str x)) := PE.pd pe_str fun σ H F ρ S k r h => ⟨F, .str x, S, Go.refl, r, rfl, h⟩
/-- a module's def or class as a value -/
theorem pd_glob {x : Str} {a : Addr} {pos : Pos} (hm : X.mg x = some (.ref a)) (hg : Gl X x := by rfl) (hd : (x == ("__debug__" : Str)) = false := by decide) : PD X wd (.Name x pos) (dC (.adr a)) :=
  PE.pd (pe_glob (v := .ref a) hg hm rfl hd) fun σ H F ρ S k r h => ⟨F, .adr a, S, Go.refl, r, rfl, h⟩
/-- a module's int -/
theorem pd_globI {x : Str} {i : Int} {pos : Pos} (hm : ∃ t, X.mg x = some (.int i t)) (hg : Gl X x := by rfl) (hd : (x == ("__debug__" : Str)) = false := by decide) : PD X wd (.Name x pos) (dC (.int i)) := by
  obtain ⟨t, hm⟩ := hm
  exact PE.pd (pe_glob (v := .int i) hg hm ⟨t, rfl⟩ hd) fun σ H F ρ S k r h => ⟨F, .int i, S, Go.refl, r, rfl, h⟩
theorem pd_globS {x z : Str} {pos : Pos} (hm : ∃ t, X.mg x = some (.str z t)) (hg : Gl X x := by rfl) (hd : (x == ("__debug__" : Str)) = false := by decide) : PD X wd (.Name x pos) (dC (.str z)) := by
  obtain ⟨t, hm⟩ := hm
  exact PE.pd (pe_glob (v := .str z) hg hm ⟨t, rfl⟩ hd) fun σ H F ρ S k r h => ⟨F, .str z, S, Go.refl, r, rfl, h⟩
/-- a built-in type as a value -/
theorem pd_bty {x : Str} {T : String} {pos : Pos} (hm : X.mg x = none) (hv : bootBuiltins x = some (.type T)) (hg : Gl X x := by rfl) (hn : x ≠ "__name__" := by decide) (hd : (x == ("__debug__" : Str)) = false := by decide) : PD X wd (.Name x pos) (dC (.ty T)) :=
  PE.pd (pe_bltn (v := .ty T) hg hm hv rfl hn hd) fun σ H F ρ S k r h => ⟨F, .ty T, S, Go.refl, r, rfl, h⟩

/-! ### operators -/
/-- an operation on two values, by data -/
def OpD (X : Cx) (g : Value → Value → Sem Value) (f : D → D → Sto → KD → Prop) : Prop :=
  ∀ (F H : Hp) (S : Sto) (x y : V) (d e : D) (k : KD) (Q : VK), RelH X.K F H S → R X.K F d x → R X.K F e y → f d e S k →
    (∀ F' v H' d' S', Go F H S F' H' S' → RelH X.K F' H' S' → R X.K F' d' v → k d' S' → Q v H') → ∃ r, OpR X g r ∧ r x y H Q
def dBin (f : D → D → Sto → KD → Prop) (ta tb : TD) : TD := fun wd ρ S k => ta wd ρ S fun d S1 => tb wd ρ S1 fun e S2 => f d e S2 k
theorem binD {g : Value → Value → Sem Value} {f : D → D → Sto → KD → Prop} (ho : OpD X g f) (ha : PD X wd a ta) (hb : PD X wd b tb) {pins : List (Addr × Obj)} {s : Shared} {σ : L2.St} {H F : Hp} {ρ : Envd} {S : Sto} {k : KD}
    (I : Inv X pins σ H s) (r : Rel X.K wd F σ H ρ S) (h : dBin f ta tb wd ρ S k) :
    wpAny (model X.prog X.w) X.A (eval a X.env) (fun v s₁ => wpAny (model X.prog X.w) X.A (eval b X.env) (fun u s₂ => wpAny (model X.prog X.w) X.A (g v u) (EPd X wd pins σ H F ρ S k) X.xe s₂) X.xe s₁) X.xe s := by
  refine thn (ha.run pins s σ H F ρ S _ I r h) fun v s1 ⟨x, H1, F1, d, S1, I1, r1, e1, q1, rd, h1⟩ => ?_
  refine thn (hb.run pins s1 σ H1 F1 ρ S1 _ I1 q1 h1) fun u s2 ⟨y, H2, F2, e, S2, I2, r2, e2, q2, re, h2⟩ => ?_
  obtain ⟨rr, hr, hq⟩ := ho F2 H2 S2 x y d e k (fun v' H' => ∃ F' d' S', Go F H S F' H' S' ∧ Rel X.K wd F' σ H' ρ S' ∧ R X.K F' d' v' ∧ k d' S') q2.h (R.mono e2.ex _ _ rd) re h2
    fun F' v' H' d' S' e3 q3 rd' hk => ⟨F', d', S', (e1.trans e2).trans e3, q2.up e3 q3, rd', hk⟩
  exact thn (hr pins s2 σ H2 x y v u _ I2 r1 r2 hq) fun _ _ ⟨v', H', I', rv, F', d', S', ee, qq, rd', hk⟩ => ⟨v', H', F', d', S', I', rv, ee, qq, rd', hk⟩
theorem pd_bin {op : Operator} {f : D → D → Sto → KD → Prop} (ho : OpD X (binaryOp op) f) (ha : PD X wd a ta) (hb : PD X wd b tb) : PD X wd (.BinOp a op b pos) (dBin f ta tb) :=
  ⟨fun pins s σ H F ρ S k I r h => wpAny_BinOp (binD ho ha hb I r h)⟩
theorem pd_cmp {op : CmpOp} {f : D → D → Sto → KD → Prop} (ho : OpD X (compareOp op) f) (ha : PD X wd a ta) (hb : PD X wd b tb) (hm : behindInMarks op b = false := by first | exact nomark _ (by decide) (by decide) | with_unfolding_all rfl) : PD X wd (.Compare a [op] [b] pos) (dBin f ta tb) :=
  ⟨fun pins s σ H F ρ S k I r h => wpAny_Compare1 (binD ho ha hb I r h) hm⟩
/-- a value that is a bool, as a test -/
def dTest (t : TD) : TTD := fun wd ρ S k => t wd ρ S fun d S1 => match d with | .bl b => k b S1 | _ => False
theorem pt_cmpD {op : CmpOp} {f : D → D → Sto → KD → Prop} (ho : OpD X (compareOp op) f) (ha : PD X wd a ta) (hb : PD X wd b tb) (hm : behindInMarks op b = false := by first | exact nomark _ (by decide) (by decide) | with_unfolding_all rfl) : PTD X wd (.Compare a [op] [b] pos) (dTest (dBin f ta tb)) := by
  refine ⟨fun pins s σ H F ρ S k I r h => ?_⟩
  refine wpAny_isTrue_Compare1 (thn (binD ho ha hb I r h) fun v s1 h1 => thn h1 fun u s2 h2 => thn h2 fun c s3 ⟨x, H1, F1, d, S1, I1, r1, e1, q1, rd, hk⟩ => ?_) hm
  cases d with
  | bl b =>
    unfold R at rd
    subst rd
    cases r1
    exact wpAny_truthy_bool ⟨H1, F1, S1, I1, e1, q1, hk⟩
  | _ => exact (show False from hk).elim
theorem pt_val {t : TD} (h : PD X wd e t) (he : ∀ whole, isTrue e X.env whole = (do let v ← whole; standAt e.pos; holding [v] (truthy v)) := by intro _; rfl) : PTD X wd e (dTest t) := by
  refine ⟨fun pins s σ H F ρ S k I r hw => ?_⟩
  refine isTrue_plain (thn (h.run pins s σ H F ρ S _ I r hw) fun v s1 ⟨x, H1, F1, d, S1, I1, r1, e1, q1, rd, hk⟩ => ?_) (he _)
  cases d with
  | bl b =>
    unfold R at rd
    subst rd
    cases r1
    exact wpAny_truthy_bool ⟨H1, F1, S1, I1, e1, q1, hk⟩
  | _ => exact (show False from hk).elim

/-! ### and, or, not, if -/
variable {tA tB : TTD} {rest : List Expr}
def dAnd (t u : TTD) : TTD := fun wd ρ S k => t wd ρ S fun c S1 => if c = true then u wd ρ S1 k else k false S1
def dOr (t u : TTD) : TTD := fun wd ρ S k => t wd ρ S fun c S1 => if c = true then k true S1 else u wd ρ S1 k
def dNot (t : TTD) : TTD := fun wd ρ S k => t wd ρ S fun c S1 => k (!c) S1
theorem PWD.pt {t : TTD} (h : PWD X wd e t) : PTD X wd e t := ⟨h.run _⟩
theorem pwd_and1 (ha : PTD X wd a tA) : PWD X wd (.BoolOp .And [a] pos) tA := by
  refine ⟨fun wh pins s σ H F ρ S k I r h => ?_⟩
  refine isTrue_and (thn (ha.run pins s σ H F ρ S k I r h) fun c s1 e => ?_)
  cases c with
  | true => exact isTrue_and_nil e
  | false => exact e
theorem pwd_or1 (ha : PTD X wd a tA) : PWD X wd (.BoolOp .Or [a] pos) tA := by
  refine ⟨fun wh pins s σ H F ρ S k I r h => ?_⟩
  refine isTrue_or (thn (ha.run pins s σ H F ρ S k I r h) fun c s1 e => ?_)
  cases c with
  | false => exact isTrue_or_nil e
  | true => exact e
theorem pwd_and (ha : PTD X wd a tA) (hb : PWD X wd (.BoolOp .And (b :: rest) pos) tB) : PWD X wd (.BoolOp .And (a :: b :: rest) pos) (dAnd tA tB) := by
  refine ⟨fun wh pins s σ H F ρ S k I r h => ?_⟩
  refine isTrue_and (thn (ha.run pins s σ H F ρ S _ I r h) fun c s1 ⟨H1, F1, S1, I1, e1, q1, h1⟩ => ?_)
  cases c with
  | true => exact thn (hb.run wh pins s1 σ H1 F1 ρ S1 k I1 q1 h1) fun _ _ ⟨H2, F2, S2, I2, e2, q2, h2⟩ => ⟨H2, F2, S2, I2, e1.trans e2, q2, h2⟩
  | false => exact ⟨H1, F1, S1, I1, e1, q1, h1⟩
theorem pwd_or (ha : PTD X wd a tA) (hb : PWD X wd (.BoolOp .Or (b :: rest) pos) tB) : PWD X wd (.BoolOp .Or (a :: b :: rest) pos) (dOr tA tB) := by
  refine ⟨fun wh pins s σ H F ρ S k I r h => ?_⟩
  refine isTrue_or (thn (ha.run pins s σ H F ρ S _ I r h) fun c s1 ⟨H1, F1, S1, I1, e1, q1, h1⟩ => ?_)
  cases c with
  | true => exact ⟨H1, F1, S1, I1, e1, q1, h1⟩
  | false => exact thn (hb.run wh pins s1 σ H1 F1 ρ S1 k I1 q1 h1) fun _ _ ⟨H2, F2, S2, I2, e2, q2, h2⟩ => ⟨H2, F2, S2, I2, e1.trans e2, q2, h2⟩
theorem ptd_not (ha : PTD X wd a tA) : PTD X wd (.UnaryOp .Not a pos) (dNot tA) := by
  refine ⟨fun pins s σ H F ρ S k I r h => ?_⟩
  exact isTrue_not (thn (ha.run pins s σ H F ρ S _ I r h) fun c s1 ⟨H1, F1, S1, I1, e1, q1, h1⟩ => ⟨H1, F1, S1, I1, e1, q1, h1⟩)
def dAndV (ta tb : TD) : TD := fun wd ρ S k => ta wd ρ S fun d S1 => match d with | .bl c => if c = true then tb wd ρ S1 k else k (.bl false) S1 | _ => False
def dOrV (ta tb : TD) : TD := fun wd ρ S k => ta wd ρ S fun d S1 => match d with | .bl c => if c = true then k (.bl true) S1 else tb wd ρ S1 k | _ => False
def dNotV (ta : TD) : TD := fun wd ρ S k => ta wd ρ S fun d S1 => match d with | .bl c => k (.bl (!c)) S1 | _ => False
theorem EPd.trans {pins : List (Addr × Obj)} {σ : L2.St} {H H1 F F1 : Hp} {ρ : Envd} {S S1 : Sto} {k : KD} {u : Value} {s' : Shared} (e : Go F H S F1 H1 S1) (h : EPd X wd pins σ H1 F1 ρ S1 k u s') : EPd X wd pins σ H F ρ S k u s' := by
  obtain ⟨v, H', F', d, S', I', rv, e', r', rd, q⟩ := h
  exact ⟨v, H', F', d, S', I', rv, e.trans e', r', rd, q⟩
theorem SPd.trans {pins : List (Addr × Obj)} {H H1 F F1 : Hp} {S S1 : Sto} {E : EndsD} {f : Flow} {s' : Shared} (e : Go F H S F1 H1 S1) (h : SPd X wd pins H1 F1 S1 E f s') : SPd X wd pins H F S E f s' := by
  cases f with
  | next => obtain ⟨σ', H', F', ρ', S', I', e', r', q⟩ := h; exact ⟨σ', H', F', ρ', S', I', e.trans e', r', q⟩
  | brk => obtain ⟨σ', H', F', ρ', S', I', e', r', q⟩ := h; exact ⟨σ', H', F', ρ', S', I', e.trans e', r', q⟩
  | cont => obtain ⟨σ', H', F', ρ', S', I', e', r', q⟩ := h; exact ⟨σ', H', F', ρ', S', I', e.trans e', r', q⟩
  | ret u => obtain ⟨v, σ', H', F', d, S', I', rv, e', r', rd, q⟩ := h; exact ⟨v, σ', H', F', d, S', I', rv, e.trans e', r', rd, q⟩
theorem pd_one {op} {t : TD} (h : PD X wd a t) : PD X wd (.BoolOp op [a] pos) t := ⟨fun pins s σ H F ρ S k I r hw => BoolOp_one (h.run pins s σ H F ρ S k I r hw)⟩
theorem pd_and (ha : PD X wd a ta) (hb : PD X wd (.BoolOp .And (b :: rest) pos) tb) : PD X wd (.BoolOp .And (a :: b :: rest) pos) (dAndV ta tb) := by
  refine ⟨fun pins s σ H F ρ S k I r h => ?_⟩
  refine BoolOp_and (thn (ha.run pins s σ H F ρ S _ I r h) fun v s1 ⟨x, H1, F1, d, S1, I1, r1, e1, q1, rd, hk⟩ => ?_)
  cases d with
  | bl c =>
    unfold R at rd
    subst rd
    cases r1
    refine wpAny_truthy_bool ?_
    cases c with
    | true => exact thn (hb.run pins s1 σ H1 F1 ρ S1 k I1 q1 hk) fun _ _ q => EPd.trans e1 q
    | false => exact ⟨.bl false, H1, F1, .bl false, S1, I1, rfl, e1, q1, rfl, hk⟩
  | _ => exact (show False from hk).elim
theorem pd_or (ha : PD X wd a ta) (hb : PD X wd (.BoolOp .Or (b :: rest) pos) tb) : PD X wd (.BoolOp .Or (a :: b :: rest) pos) (dOrV ta tb) := by
  refine ⟨fun pins s σ H F ρ S k I r h => ?_⟩
  refine BoolOp_or (thn (ha.run pins s σ H F ρ S _ I r h) fun v s1 ⟨x, H1, F1, d, S1, I1, r1, e1, q1, rd, hk⟩ => ?_)
  cases d with
  | bl c =>
    unfold R at rd
    subst rd
    cases r1
    refine wpAny_truthy_bool ?_
    cases c with
    | false => exact thn (hb.run pins s1 σ H1 F1 ρ S1 k I1 q1 hk) fun _ _ q => EPd.trans e1 q
    | true => exact ⟨.bl true, H1, F1, .bl true, S1, I1, rfl, e1, q1, rfl, hk⟩
  | _ => exact (show False from hk).elim
theorem pd_not (ha : PD X wd a ta) : PD X wd (.UnaryOp .Not a pos) (dNotV ta) := by
  refine ⟨fun pins s σ H F ρ S k I r h => ?_⟩
  refine UnaryOp_ (thn (ha.run pins s σ H F ρ S _ I r h) fun v s1 ⟨x, H1, F1, d, S1, I1, r1, e1, q1, rd, hk⟩ => ?_)
  cases d with
  | bl c =>
    unfold R at rd
    subst rd
    cases r1
    exact not_of (wpAny_truthy_bool ⟨.bl (!c), H1, F1, .bl (!c), S1, I1, rfl, e1, q1, rfl, hk⟩)
  | _ => exact (show False from hk).elim
def dIf (t : TTD) (ta tb : TD) : TD := fun wd ρ S k => t wd ρ S fun c S1 => if c = true then ta wd ρ S1 k else tb wd ρ S1 k
theorem pd_ifExp {c : Expr} (hc : PTD X wd c tA) (ha : PD X wd a ta) (hb : PD X wd b tb) : PD X wd (.IfExp c a b pos) (dIf tA ta tb) := by
  refine ⟨fun pins s σ H F ρ S k I r h => ?_⟩
  refine wpAny_IfExp (thn (hc.run pins s σ H F ρ S _ I r h) fun d s1 ⟨H1, F1, S1, I1, e1, q1, h1⟩ => ?_)
  cases d with
  | true => exact thn (ha.run pins s1 σ H1 F1 ρ S1 k I1 q1 h1) fun _ _ q => EPd.trans e1 q
  | false => exact thn (hb.run pins s1 σ H1 F1 ρ S1 k I1 q1 h1) fun _ _ q => EPd.trans e1 q
/-- a op1 b op2 c -/
def dChain (f g : D → D → Sto → KD → Prop) (ta tb tc : TD) : TD := fun wd ρ S k => ta wd ρ S fun d S1 => tb wd ρ S1 fun e S2 => f d e S2 fun z S3 => match z with
  | .bl c => if c = true then tc wd ρ S3 fun w S4 => g e w S4 k else k (.bl false) S3
  | _ => False

/-! ### argument lists, displays -/
def dNil : TAD := fun _ _ S k => k [] S
def dCons (ta : TD) (tr : TAD) : TAD := fun wd ρ S k => ta wd ρ S fun d S1 => tr wd ρ S1 fun ds S2 => k (d :: ds) S2
theorem pad_nil : PAD X wd [] dNil := ⟨fun _ _ _ _ H F ρ S k I r h => Calls.spliced_nil ⟨[], H, F, [], S, I, .nil, Go.refl, r, Rs.nil, h⟩⟩
theorem pad_cons {es : List Expr} {tr : TAD} (ha : PD X wd e ta) (hr : PAD X wd es tr) (hs : starEach (e :: es) X.env = (false, eval e X.env) :: starEach es X.env := by rfl) : PAD X wd (e :: es) (dCons ta tr) := by
  refine ⟨fun pos pins s σ H F ρ S k I r h => ?_⟩
  rw [hs]
  show wpAny _ _ (spliced ((false, eval e X.env) :: backTo pos (starEach es X.env))) _ _ s
  refine Calls.spliced_cons (thn (ha.run pins s σ H F ρ S _ I r h) fun u s1 ⟨x, H1, F1, d, S1, I1, r1, e1, q1, rd, hk⟩ => ?_)
  exact thn (hr.run pos pins s1 σ H1 F1 ρ S1 _ I1 q1 hk) fun us s2 ⟨vs, H2, F2, ds, S2, I2, r2, e2, q2, rds, hk2⟩ => ⟨x :: vs, H2, F2, d :: ds, S2, I2, .cons r1 r2, e1.trans e2, q2, Rs.cons (R.mono e2.ex _ _ rd) rds, hk2⟩
def Short (n : Nat) : Prop := n ≤ 16777216
theorem Short.line {n : Nat} (h : Short n) : n ≤ sizeLine := by rw [sizeLine_eq]; exact h
/-- a display: a tuple; a list that stays; a list that may change -/
def dTup (t : TAD) : TD := fun wd ρ S k => t wd ρ S fun ds S1 => Short ds.length ∧ k (.tup ds) S1
def dLst (t : TAD) : TD := fun wd ρ S k => t wd ρ S fun ds S1 => Short ds.length ∧ k (.lst ds) S1
def dLstM (t : TAD) : TD := fun wd ρ S k => t wd ρ S fun ds S1 => Short ds.length ∧ ∀ p, S1 p = none → k (.adr p) (supd S1 p (.lst ds))
theorem pd_tup {es : List Expr} {x1} {t : TAD} (h : PAD X wd es t) : PD X wd (.Tuple es x1 pos) (dTup t) :=
  PE.pd (pe_tup h.pa) fun σ H F ρ S k r hw => ⟨F, ρ, S, _, r, hw, fun F1 vs H1 ds S1 e1 q1 rds ⟨hz, hk⟩ => ⟨(by rw [rds.length]; exact hz.line), fun p hp => by
    obtain ⟨n1, n2⟩ := q1.h.newF (o := .tup vs) hp
    refine ⟨_, .tup ds, S1, e1.trans (Go.newF n2 hp), q1.up (Go.newF n2 hp) n1, ?_, hk⟩
    unfold R
    exact ⟨p, vs, rfl, SqT.of upd_same, Rs.mono n2 _ _ rds⟩⟩⟩
theorem pd_lst {es : List Expr} {t : TAD} (h : PAD X wd es t) : PD X wd (.List es pos) (dLst t) :=
  PE.pd (pe_lst h.pa) fun σ H F ρ S k r hw => ⟨F, ρ, S, _, r, hw, fun F1 vs H1 ds S1 e1 q1 rds ⟨hz, hk⟩ => ⟨(by rw [rds.length]; exact hz.line), fun p hp => by
    obtain ⟨n1, n2⟩ := q1.h.newF (o := .lst vs) hp
    refine ⟨_, .lst ds, S1, e1.trans (Go.newF n2 hp), q1.up (Go.newF n2 hp) n1, ?_, hk⟩
    unfold R
    exact ⟨p, vs, rfl, upd_same, Rs.mono n2 _ _ rds⟩⟩⟩
theorem pd_lstM {es : List Expr} {t : TAD} (h : PAD X wd es t) : PD X wd (.List es pos) (dLstM t) :=
  PE.pd (pe_lst h.pa) fun σ H F ρ S k r hw => ⟨F, ρ, S, _, r, hw, fun F1 vs H1 ds S1 e1 q1 rds ⟨hz, hk⟩ => ⟨(by rw [rds.length]; exact hz.line), fun p hp =>
    ⟨F1, .adr p, supd S1 p (.lst ds), e1.trans (Go.newS hp), q1.up (Go.newS hp) (q1.h.newS (o := .lst vs) (u := .lst ds) hp ⟨vs, upd_same, rds⟩), rfl, hk p (q1.h.fresh hp).2⟩⟩⟩
/-- an object of the store is frozen, where the value is one -/
def dFrz (t : TD) : TD := fun wd ρ S k => t wd ρ S fun d S1 => match d with | .adr p => (match S1 p with | some u => k u.toD (sdel S1 p) | none => False) | d => k d S1
theorem pd_frz {t : TD} (h : PD X wd e t) : PD X wd e (dFrz t) := by
  refine ⟨fun pins s σ H F ρ S k I r hw => thn (h.run pins s σ H F ρ S _ I r hw) fun u s1 ⟨v, H1, F1, d, S1, I1, rv, e1, q1, rd, hk⟩ => ?_⟩
  cases d with
  | adr p =>
    dsimp only at hk
    split at hk
    · rename_i o q
      unfold R at rd
      subst rd
      obtain ⟨F2, e2, q2, r2⟩ := q1.h.frz q
      exact ⟨_, H1, F2, _, _, I1, rv, e1.trans e2, q1.up e2 q2, r2, hk⟩
    · exact hk.elim
  | _ => exact ⟨v, H1, F1, _, S1, I1, rv, e1, q1, rd, hk⟩
end
end Z

set_option Elab.async false
set_option linter.all false
set_option maxRecDepth 100000
set_option maxHeartbeats 4000000
namespace Z
open PySem PySem.Spec PyProof.Rows L2

/-! ### statements -/
def dNext : TSD := fun _ E ρ S => E.nx ρ S
def dSeq (t u : TSD) : TSD := fun wd E ρ S => t wd { E with nx := u wd E } ρ S
def dRet (te : TD) : TSD := fun wd E ρ S => te wd ρ S E.rt
def dRetN : TSD := fun _ E _ S => E.rt .non S
def dDrop (te : TD) : TSD := fun wd E ρ S => te wd ρ S fun _ S1 => E.nx ρ S1
def dIfS (c : TTD) (t u : TSD) : TSD := fun wd E ρ S => c wd ρ S fun b S1 => if b = true then t wd E ρ S1 else u wd E ρ S1
def dSet (i : Nat) (te : TD) : TSD := fun wd E ρ S => te wd ρ S fun d S1 => E.nx (ρ.set i (some d)) S1
def dBrk : TSD := fun _ E ρ S => E.bk ρ S
def dCont : TSD := fun _ E ρ S => E.ct ρ S
def dNev : TSD := fun _ _ _ _ => False
section
variable {X : Cx} {wd : WD} {st : Stmt} {rest : List Stmt} {t u : TSD} {e : Expr} {te : TD} {pos : Pos}
theorem pssd_nil : PSsD X wd [] dNext := ⟨fun _ _ σ H F ρ S _ I r h => wpAny_execs_nil ⟨σ, H, F, ρ, S, I, Go.refl, r, h⟩⟩
theorem pssd_cons (h1 : PSD X wd st t) (h2 : PSsD X wd rest u) : PSsD X wd (st :: rest) (dSeq t u) := by
  refine ⟨fun pins s σ H F ρ S E I r h => ?_⟩
  refine wpAny_execs_cons (thn (h1.run pins s σ H F ρ S _ I r h) fun f s1 q => ?_)
  cases f with
  | next =>
    obtain ⟨σ', H', F', ρ', S', I', e', r', q⟩ := q
    exact thn (h2.run pins s1 σ' H' F' ρ' S' E I' r' q) fun _ _ z => SPd.trans e' z
  | ret v => exact q
  | brk => exact q
  | cont => exact q
theorem pssd_one (h1 : PSD X wd st t) : PSsD X wd [st] t := by
  refine ⟨fun pins s σ H F ρ S E I r h => ?_⟩
  refine wpAny_execs_cons (thn (h1.run pins s σ H F ρ S _ I r h) fun f s1 q => ?_)
  cases f with
  | next => exact wpAny_execs_nil q
  | ret v => exact q
  | brk => exact q
  | cont => exact q
theorem psd_pass : PSD X wd (.Pass pos) dNext := ⟨fun _ _ σ H F ρ S _ I r h => wpAny_Pass ⟨σ, H, F, ρ, S, I, Go.refl, r, h⟩⟩
theorem psd_brk : PSD X wd (.Break pos) dBrk := ⟨fun _ _ σ H F ρ S _ I r h => wpAny_Break ⟨σ, H, F, ρ, S, I, Go.refl, r, h⟩⟩
theorem psd_cont : PSD X wd (.Continue pos) dCont := ⟨fun _ _ σ H F ρ S _ I r h => wpAny_Continue ⟨σ, H, F, ρ, S, I, Go.refl, r, h⟩⟩
theorem psd_never : PSD X wd st dNev := ⟨fun _ _ _ _ _ _ _ _ _ _ h => h.elim⟩
theorem pssd_never {sts : List Stmt} : PSsD X wd sts dNev := ⟨fun _ _ _ _ _ _ _ _ _ _ h => h.elim⟩
theorem Invq {pins : List (Addr × Obj)} {σ : L2.St} {H : Hp} {s : Shared} (I : Inv X pins σ H s) : interactive X.env = false := by simp [interactive, I.ok.kind]
theorem psd_expr (he : PD X wd e te) (hs : swapsWith e none pos.line X.env = pure false := by rfl) : PSD X wd (.Expr e pos) (dDrop te) :=
  ⟨fun pins s σ H F ρ S E I r h => wpAny_Expr_any (thn (he.run pins s σ H F ρ S _ I r h) fun v s1 ⟨x, H1, F1, d, S1, I1, r1, e1, q1, rd, hk⟩ => ⟨σ, H1, F1, ρ, S1, I1, e1, q1, hk⟩) (Invq I) hs⟩
theorem psd_ret (he : PD X wd e te) : PSD X wd (.Return (some e) pos) (dRet te) :=
  ⟨fun pins s σ H F ρ S E I r h => wpAny_Return_some (thn (he.run pins s σ H F ρ S _ I r h) fun v s1 ⟨x, H1, F1, d, S1, I1, r1, e1, q1, rd, hk⟩ => ⟨x, σ, H1, F1, d, S1, I1, r1, e1, q1.h, rd, hk⟩)⟩
theorem psd_retN : PSD X wd (.Return none pos) dRetN := ⟨fun _ _ σ H F ρ S E I r h => wpAny_Return_none ⟨.non, σ, H, F, .non, S, I, rfl, Go.refl, r.h, rfl, h⟩⟩
theorem psd_if {c : Expr} {a b : List Stmt} {tc : TTD} (hc : PTD X wd c tc) (ha : PSsD X wd a t) (hb : PSsD X wd b u) : PSD X wd (.If c a b pos) (dIfS tc t u) := by
  refine ⟨fun pins s σ H F ρ S E I r h => ?_⟩
  refine wpAny_If (thn (hc.run pins s σ H F ρ S _ I r h) fun d s1 ⟨H1, F1, S1, I1, e1, q1, h1⟩ => ?_)
  cases d with
  | true => exact thn (ha.run pins s1 σ H1 F1 ρ S1 E I1 q1 h1) fun _ _ q => SPd.trans e1 q
  | false => exact thn (hb.run pins s1 σ H1 F1 ρ S1 E I1 q1 h1) fun _ _ q => SPd.trans e1 q
/-- name = value -/
theorem psd_set {i : Nat} {x : Str} {pos' : Pos} (hN : X.N.Nodup) (he : PD X wd e te) (hi : X.N[i]? = some x := by rfl) (hx : Loc X.env.scope x := by first | exact Or.inl rfl | exact Or.inr rfl)
    (hs : swapsWith e (some (.Name x pos')) pos.line X.env = pure false := by rfl) (hf : X.fn x = true ∨ X.env.scope.names.lookup x = some .local := by first | exact .inl rfl | exact .inr rfl | assumption) :
    PSD X wd (.Assign [.Name x pos'] e pos) (dSet i te) := by
  refine ⟨fun pins s σ H F ρ S E I r h => ?_⟩
  refine wpAny_Assign_Name (thn (he.run pins s σ H F ρ S _ I r h) fun v s1 ⟨y, H1, F1, d, S1, I1, r1, e1, q1, rd, hk⟩ => ?_) hs
  exact store_ok I1 hN hi hx r1 (fun s2 I2 => ⟨_, H1, F1, _, S1, I2, e1, q1.set i rd, hk⟩) hf
end

/-! ### targets -/
abbrev TGD := D → Envd → Sto → (Envd → Sto → Prop) → Prop
abbrev TGsD := List D → Envd → Sto → (Envd → Sto → Prop) → Prop
/-- slots other than ws are as they were -/
def Keeps (ws : List Nat) (σ σ' : L2.St) : Prop := σ'.length = σ.length ∧ ∀ i, i ∉ ws → σ'[i]? = σ[i]?
theorem Keeps.refl {ws : List Nat} {σ : L2.St} : Keeps ws σ σ := ⟨rfl, fun _ _ => rfl⟩
theorem Keeps.trans {ws us : List Nat} {σ σ1 σ2 : L2.St} (a : Keeps ws σ σ1) (b : Keeps us σ1 σ2) : Keeps (ws ++ us) σ σ2 :=
  ⟨b.1.trans a.1, fun i h => (b.2 i fun z => h (List.mem_append_right _ z)).trans (a.2 i fun z => h (List.mem_append_left _ z))⟩
def GPd (X : Cx) (wd : WD) (ws : List Nat) (pins : List (Addr × Obj)) (σ : L2.St) (H F : Hp) (S : Sto) (k : Envd → Sto → Prop) (s' : Shared) : Prop :=
  ∃ σ' H' F' ρ' S', Inv X pins σ' H' s' ∧ Go F H S F' H' S' ∧ Rel X.K wd F' σ' H' ρ' S' ∧ Keeps ws σ σ' ∧ k ρ' S'
structure PGD (X : Cx) (wd : WD) (target : Expr) (ws : List Nat) (t : TGD) : Prop where
  run : ∀ (pins : List (Addr × Obj)) (s : Shared) (σ : L2.St) (H F : Hp) (ρ : Envd) (S : Sto) (v : V) (d : D) (u : Value) (k : Envd → Sto → Prop), Inv X pins σ H s → Rel X.K wd F σ H ρ S → RelV v u → R X.K F d v → t d ρ S k →
    wpAny (model X.prog X.w) X.A (assign target X.env u) (fun _ s' => GPd X wd ws pins σ H F S k s') X.xe s
structure PGsD (X : Cx) (wd : WD) (ts : List Expr) (ws : List Nat) (t : TGsD) : Prop where
  run : ∀ (pins : List (Addr × Obj)) (s : Shared) (σ : L2.St) (H F : Hp) (ρ : Envd) (S : Sto) (vs : List V) (ds : List D) (us : List Value) (k : Envd → Sto → Prop), Inv X pins σ H s → Rel X.K wd F σ H ρ S → Vals vs us → Rs X.K F ds vs → t ds ρ S k →
    wpAny (model X.prog X.w) X.A (assignInOrder ((assignEach ts X.env).map (·.2)) us) (fun _ s' => GPd X wd ws pins σ H F S k s') X.xe s
def gNameD (i : Nat) : TGD := fun d ρ S k => k (ρ.set i (some d)) S
def gNilD : TGsD := fun ds ρ S k => match ds with | [] => k ρ S | _ => False
def gConsD (t : TGD) (u : TGsD) : TGsD := fun ds ρ S k => match ds with | d :: r => t d ρ S fun ρ1 S1 => u r ρ1 S1 k | [] => False
def gTupD (n : Nat) (t : TGsD) : TGD := fun d ρ S k => match d with | .tup ds => ds.length = n ∧ t ds ρ S k | _ => False
def liftG (K : PySem.W.Frag) (wd : WD) (ws : List Nat) (t : TGD) : TG := fun v σ H Q => ∃ F ρ S d k, Rel K wd F σ H ρ S ∧ R K F d v ∧ t d ρ S k ∧ ∀ F' σ' H' ρ' S', Go F H S F' H' S' → Rel K wd F' σ' H' ρ' S' → Keeps ws σ σ' → k ρ' S' → Q σ' H'
section
variable {X : Cx} {wd : WD} {pos : Pos}
theorem PGD.pg {tg : Expr} {ws : List Nat} {t : TGD} (h : PGD X wd tg ws t) : PG X tg (liftG X.K wd ws t) := ⟨fun pins s σ H v u Q I rv ⟨F, ρ, S, d, k, r, rd, ht, hk⟩ =>
  thn (h.run pins s σ H F ρ S v d u k I r rv rd ht) fun _ _ ⟨σ', H', F', ρ', S', I', g, r', kk, q⟩ => ⟨σ', H', I', hk F' σ' H' ρ' S' g r' kk q⟩⟩
theorem pgd_name {i : Nat} {x : Str} (hN : X.N.Nodup) (hi : X.N[i]? = some x := by rfl) (hx : Loc X.env.scope x := by first | exact Or.inl rfl | exact Or.inr rfl) (hf : X.fn x = true ∨ X.env.scope.names.lookup x = some .local := by first | exact .inl rfl | exact .inr rfl | assumption) : PGD X wd (.Name x pos) [i] (gNameD i) :=
  ⟨fun pins s σ H F ρ S v d u k I r rv rd h => wpAny_assign_Name (store_ok I hN hi hx rv (fun s' I' => ⟨_, H, F, _, S, I', Go.refl, r.set i rd, ⟨List.length_set, fun j hj => List.getElem?_set_ne (fun z => hj (by simp [z]))⟩, h⟩) hf)⟩
theorem pgsd_nil : PGsD X wd [] [] gNilD := by
  refine ⟨fun pins s σ H F ρ S vs ds us k I r rv rd h => ?_⟩
  cases ds with
  | nil =>
    unfold Rs at rd
    subst rd
    cases rv
    exact assignInOrder_nil ⟨σ, H, F, ρ, S, I, Go.refl, r, Keeps.refl, h⟩
  | cons _ _ => exact (show False from h).elim
theorem pgsd_cons {e : Expr} {es : List Expr} {ws us : List Nat} {t : TGD} {u : TGsD} (h1 : PGD X wd e ws t) (h2 : PGsD X wd es us u)
    (hs : (assignEach (e :: es) X.env).map (·.2) = assign e X.env :: (assignEach es X.env).map (·.2) := by rfl) : PGsD X wd (e :: es) (ws ++ us) (gConsD t u) := by
  refine ⟨fun pins s σ H F ρ S vs ds us k I r rv rd h => ?_⟩
  cases ds with
  | nil => exact (show False from h).elim
  | cons d ds =>
    unfold Rs at rd
    obtain ⟨v, vs', e0, rd1, rd2⟩ := rd
    subst e0
    cases rv with
    | cons rv1 rv2 =>
      rw [hs]
      refine assignInOrder_cons (thn (h1.run pins s σ H F ρ S v d _ _ I r rv1 rd1 h) fun _ s1 ⟨σ1, H1, F1, ρ1, S1, I1, g1, r1, k1, q1⟩ => ?_)
      exact thn (h2.run pins s1 σ1 H1 F1 ρ1 S1 vs' ds _ k I1 r1 rv2 (Rs.mono g1.ex _ _ rd2) q1) fun _ s2 ⟨σ2, H2, F2, ρ2, S2, I2, g2, r2, k2, q2⟩ => ⟨σ2, H2, F2, ρ2, S2, I2, g1.trans g2, r2, k1.trans k2, q2⟩
theorem pgd_tup {es : List Expr} {kk : Nat} {ws : List Nat} {t : TGsD} {n : Nat} (hc : X.calm = true) (h : PGsD X wd es ws t)
    (hn : (assignEach es X.env).length = n := by rfl) (hst : (assignEach es X.env).findIdx? (·.1) = none := by rfl) : PGD X wd (.Tuple es kk pos) ws (gTupD n t) := by
  refine ⟨fun pins s σ H F ρ S v d u k I r rv rd hw => ?_⟩
  cases d with
  | tup ds =>
    obtain ⟨hl, hw⟩ := hw
    unfold R at rd
    obtain ⟨a, vs, e0, hq, rds⟩ := rd
    subst e0
    cases rv
    have hqH : SqT X.K H a vs := Evl.ex_t r.h.ex hq
    obtain ⟨its, rvs, ht, hz⟩ := I.tuple hqH
    refine assign_Tuple_tuple (I.ok.hd hc) ht (by simp [hn, ← hl, ← rds.length, rvs.length]) hst fun h' hx => ?_
    have I1 : Inv X pins σ H { s with heap := h' } := I.kept (t' := s.toks) fun b o e => hx b o (Nat.ne_of_lt (Heap.lt_size e)) e
    exact h.run pins _ σ H F ρ S vs ds _ k I1 r (by simpa using rvs) rds hw
  | _ => exact (show False from hw).elim
/-- target = value -/
def dAsg (te : TD) (g : TGD) : TSD := fun wd E ρ S => te wd ρ S fun d S1 => g d ρ S1 E.nx
theorem psd_asg {tg e : Expr} {ws : List Nat} {te : TD} {g : TGD} (he : PD X wd e te) (hg : PGD X wd tg ws g) (hs : swapsWithSole [tg] e pos.line X.env = pure false := by rfl) (hw : swappedStores [tg] e X.env = pure none := by rfl)
    (h1 : (assignEach [tg] X.env).map (·.2) = [assign tg X.env] := by rfl) : PSD X wd (.Assign [tg] e pos) (dAsg te g) := by
  refine ⟨fun pins s σ H F ρ S E I r h => ?_⟩
  refine wpAny_Assign_stores (thn (he.run pins s σ H F ρ S _ I r h) fun v s1 ⟨x, H1, F1, d, S1, I1, r1, e1, q1, rd, hk⟩ => ?_) hs hw
  rw [h1]
  exact thn (hg.run pins s1 σ H1 F1 ρ S1 x d v _ I1 q1 r1 rd hk) fun _ s2 ⟨σ2, H2, F2, ρ2, S2, I2, g2, r2, _, q2⟩ => ⟨σ2, H2, F2, ρ2, S2, I2, e1.trans g2, r2, q2⟩
end

/-! ### what is walked -/
abbrev TID := WD → Envd → Sto → (List D → (Sto → Prop) → Sto → Prop) → Prop
/-- an iterator that gives the data ds while the store keeps to G -/
def ItOk (K : PySem.W.Frag) (J : It) (F0 : Hp) (ds : List D) (G : Sto → Prop) : Prop := ∀ F H S i, Ex F0 F → RelH K F H S → G S →
  (i = ds.length → J.stop i H) ∧ ∀ d, ds[i]? = some d → J.go i H ∧ ∀ x H', J.yld i H x H' → ∃ F', Go F H S F' H' S ∧ RelH K F' H' S ∧ R K F' d x
structure PID (X : Cx) (wd : WD) (tg iter : Expr) (wi : TID) : Prop where
  pi : ∃ w : TI, PI X tg iter w ∧ ∀ σ H F ρ S k (P : It → Hp → Prop), Rel X.K wd F σ H ρ S → wi wd ρ S k →
    (∀ J H' F' ds G S', Go F H S F' H' S' → Rel X.K wd F' σ H' ρ S' → ItOk X.K J F' ds G → ds.length ≤ sizeLine → k ds G S' → P J H') → w σ H P
def forD (wd : WD) (g : TGD) (tb : TSD) (E : EndsD) (G : Sto → Prop) : List D → Envd → Sto → Prop
  | [], ρ, S => G S ∧ E.nx ρ S
  | d :: ds, ρ, S => G S ∧ g d ρ S fun ρ1 S1 => tb wd { nx := forD wd g tb E G ds, rt := E.rt, bk := E.nx, ct := forD wd g tb E G ds } ρ1 S1
def dFor (wi : TID) (g : TGD) (tb : TSD) : TSD := fun wd E ρ S => wi wd ρ S fun ds G S1 => forD wd g tb E G ds ρ S1
theorem forD_ind {wd : WD} {g : TGD} {tb : TSD} {E : EndsD} {G : Sto → Prop} (P : List D → Envd → Sto → Prop) (h0 : ∀ ρ S, P [] ρ S → G S ∧ E.nx ρ S)
    (h1 : ∀ d ds ρ S (cont : Envd → Sto → Prop), P (d :: ds) ρ S → (∀ ρ S, P ds ρ S → cont ρ S) → G S ∧ g d ρ S fun ρ1 S1 => tb wd { nx := cont, rt := E.rt, bk := E.nx, ct := cont } ρ1 S1) :
    ∀ ds ρ S, P ds ρ S → forD wd g tb E G ds ρ S := by
  intro ds
  induction ds with
  | nil => intro ρ S h; exact h0 ρ S h
  | cons d ds ih => intro ρ S h; exact h1 d ds ρ S _ h ih
theorem drop_get {α : Type} {l : List α} {i : Nat} (h : i < l.length) : ∃ d, l[i]? = some d ∧ l.drop i = d :: l.drop (i + 1) := by
  refine ⟨l[i], List.getElem?_eq_getElem h, ?_⟩
  rw [List.drop_eq_getElem_cons h]
section
variable {X : Cx} {wd : WD} {pos : Pos}
theorem psd_for {tg iter : Expr} {body : List Stmt} {ws : List Nat} {wi : TID} {g : TGD} {tb : TSD} (hp : PassesOwn (model X.prog X.w) X.A X.env X.xe) (hc : X.calm = true) (hi : PID X wd tg iter wi) (hg : PGD X wd tg ws g) (hb : PSsD X wd body tb)
    (hs : ∀ x, foldedSetIterable iter X.env x = pure x := by intro _; rfl) : PSD X wd (.For tg iter body [] pos) (dFor wi g tb) := by
  obtain ⟨w, pi, hw⟩ := hi.pi
  refine PS.psd (ps_for hp hc pi hg.pg hb.pss hs) fun σ H F ρ S E r h => ?_
  -- the reading below is run at its own continuation
  have key : ∀ J H1, (∃ F' ds G S', Go F H S F' H1 S' ∧ Rel X.K wd F' σ H1 ρ S' ∧ ItOk X.K J F' ds G ∧ ds.length ≤ sizeLine ∧ forD wd g tb E G ds ρ S') →
      ∃ W : Nat → Nat → L2.St → Hp → Prop, (∃ m, W 0 m σ H1) ∧ ∀ i m σ' H', W i m σ' H' →
        (J.stop i H' ∧ (endL X.K wd H F S E).nx σ' H') ∨ (J.go i H' ∧ ∃ N : L2.St → Hp → Prop, (∀ σ2 H2, N σ2 H2 → ∃ m', m' < m ∧ W (i + 1) m' σ2 H2) ∧ ∀ x H2, J.yld i H' x H2 → liftG X.K wd ws g x σ' H2 fun σ3 H3 => liftS X.K wd (tb wd) { endL X.K wd H F S E with nx := N, ct := N, bk := (endL X.K wd H F S E).nx } σ3 H3) := by
    rintro J H1 ⟨F1, ds, G, S1, g1, r1, it, hz, hf⟩
    refine ⟨fun i m σ' H' => m = ds.length - i ∧ i ≤ ds.length ∧ ∃ F' ρ' S', Go F H S F' H' S' ∧ Ex F1 F' ∧ Rel X.K wd F' σ' H' ρ' S' ∧ forD wd g tb E G (ds.drop i) ρ' S', ⟨ds.length, by simp, Nat.zero_le _, F1, ρ, S1, g1, Evl.Ex.refl _, r1, hf⟩, ?_⟩
    rintro i m σ' H' ⟨rfl, hi, F2, ρ2, S2, g2, e2, r2, hf2⟩
    by_cases hlt : i < ds.length
    · obtain ⟨d, hd, hdrop⟩ := drop_get hlt
      rw [hdrop] at hf2
      obtain ⟨hG, hf2⟩ := hf2
      obtain ⟨it1, it2⟩ := it F2 H' S2 i e2 r2.h hG
      obtain ⟨it3, it4⟩ := it2 d hd
      refine .inr ⟨it3, fun σ3 H3 => ∃ F' ρ' S', Go F H S F' H3 S' ∧ Ex F1 F' ∧ Rel X.K wd F' σ3 H3 ρ' S' ∧ forD wd g tb E G (ds.drop (i + 1)) ρ' S', fun σ3 H3 n => ⟨ds.length - (i + 1), by omega, rfl, hlt, n⟩, fun x H3 y => ?_⟩
      obtain ⟨F3, g3, r3, rd⟩ := it4 x H3 y
      refine ⟨F3, ρ2, S2, d, _, r2.up g3 r3, rd, hf2, fun F4 σ4 H4 ρ4 S4 g4 r4 _ q4 => ?_⟩
      refine ⟨F4, ρ4, S4, _, r4, q4, fun F5 σ5 H5 ρ5 S5 g5 r5 q5 => ?_, fun F5 σ5 H5 ρ5 S5 g5 r5 q5 => ?_, fun F5 σ5 H5 ρ5 S5 g5 r5 q5 => ?_, fun F5 v5 H5 d5 S5 g5 r5 rd5 q5 => ?_⟩
      · exact ⟨F5, ρ5, S5, ((g2.trans g3).trans g4).trans g5, ((e2.trans g3.ex).trans g4.ex).trans g5.ex, r5, q5⟩
      · exact ⟨F5, ρ5, S5, ((g2.trans g3).trans g4).trans g5, r5, q5⟩
      · exact ⟨F5, ρ5, S5, ((g2.trans g3).trans g4).trans g5, ((e2.trans g3.ex).trans g4.ex).trans g5.ex, r5, q5⟩
      · exact ⟨F5, d5, S5, ((g2.trans g3).trans g4).trans g5, r5, rd5, q5⟩
    · have ei : i = ds.length := by omega
      subst ei
      rw [List.drop_length] at hf2
      obtain ⟨it1, _⟩ := it F2 H' S2 _ e2 r2.h hf2.1
      exact .inl ⟨it1 rfl, F2, ρ2, S2, g2, r2, hf2.2⟩
  exact hw σ H F ρ S _ _ r h fun J H1 F1 ds G S1 g1 r1 it hz hf => key J H1 ⟨F1, ds, G, S1, g1, r1, it, hz, hf⟩
end
end Z

set_option Elab.async false
set_option linter.all false
set_option maxRecDepth 100000
set_option maxHeartbeats 4000000
namespace Z
open PySem PySem.Spec PyProof.Rows L2

/-! ### list comprehensions -/
def wipeD (ρ : Envd) : List Nat → Envd
  | [] => ρ
  | v :: vs => (wipeD ρ vs).set v none
theorem wipeD_some {ρ : Envd} {i : Nat} {x : D} : ∀ {vs : List Nat}, (wipeD ρ vs)[i]? = some (some x) → ρ[i]? = some (some x) ∧ i ∉ vs
  | [], h => ⟨h, by simp⟩
  | v :: vs, h => by
    unfold wipeD at h
    by_cases hi : v = i
    · subst hi
      by_cases hv : v < (wipeD ρ vs).length
      · rw [List.getElem?_set_self hv] at h; cases h
      · rw [List.getElem?_eq_none (by simpa using hv)] at h; cases h
    · rw [List.getElem?_set_ne hi] at h
      obtain ⟨h1, h2⟩ := wipeD_some h
      exact ⟨h1, by simp only [List.mem_cons, not_or]; exact ⟨fun e => hi e.symm, h2⟩⟩
theorem wipeD_length (ρ : Envd) : ∀ vs : List Nat, (wipeD ρ vs).length = ρ.length
  | [] => rfl
  | v :: vs => by unfold wipeD; rw [List.length_set, wipeD_length ρ vs]
theorem wipe_get (σ : L2.St) (i : Nat) : ∀ vs : List Nat, (wipe σ vs)[i]? = if i ∈ vs then (if i < σ.length then some none else none) else σ[i]?
  | [] => by simp [wipe]
  | v :: vs => by
    unfold wipe
    by_cases hi : v = i
    · subst hi
      rw [if_pos List.mem_cons_self]
      by_cases hv : v < σ.length
      · rw [if_pos hv, List.getElem?_set_self (by rw [wipe_length]; exact hv)]
      · rw [if_neg hv, List.getElem?_eq_none (by rw [List.length_set, wipe_length]; omega)]
    · rw [List.getElem?_set_ne hi, wipe_get σ i vs]
      have : i ∈ v :: vs ↔ i ∈ vs := by simp only [List.mem_cons]; exact ⟨fun h => h.resolve_left fun e => hi e.symm, .inr⟩
      simp only [this]
theorem wipe_keeps {σ σ2 : L2.St} {ws vs : List Nat} (k : Keeps ws (wipe σ vs) σ2) (h : ∀ i ∈ ws, i ∈ vs) : wipe σ2 vs = wipe σ vs := by
  apply List.ext_getElem?
  intro i
  rw [wipe_get σ2, wipe_get σ]
  have hl : σ2.length = σ.length := by rw [k.1, wipe_length]
  by_cases hi : i ∈ vs
  · rw [if_pos hi, if_pos hi, hl]
  · rw [if_neg hi, if_neg hi, k.2 i fun z => hi (h i z), wipe_get, if_neg hi]
theorem Rel.wipe {K : PySem.W.Frag} {wd : WD} {F : Hp} {σ : L2.St} {H : Hp} {ρ : Envd} {S : Sto} (r : Rel K wd F σ H ρ S) (vs : List Nat) : Rel K wd F (wipe σ vs) H (wipeD ρ vs) S := by
  refine ⟨r.h, fun i d e => ?_, by rw [wipeD_length, wipe_length]; exact r.len, r.go⟩
  obtain ⟨e1, hi⟩ := wipeD_some e
  obtain ⟨v, q1, q2⟩ := r.sl i d e1
  exact ⟨v, by rw [wipe_get, if_neg hi]; exact q1, q2⟩
def wd0 : WD := ⟨fun _ _ _ _ => False, fun _ => none, fun _ => none, fun _ => none⟩
theorem Rel.to0 {K : PySem.W.Frag} {wd : WD} {F : Hp} {σ : L2.St} {H : Hp} {ρ : Envd} {S : Sto} (r : Rel K wd F σ H ρ S) : Rel K wd0 F σ H ρ S :=
  ⟨r.h, r.sl, r.len, ⟨fun a o h => (nomatch (show (none : Option HO) = some o from h)), fun a o h _ _ => (nomatch (show (none : Option HO) = some o from h)), fun _ _ => rfl⟩⟩
def compD (wd : WD) (g : TGD) (tt : TTD) (te : TD) (ρ : Envd) (G : Sto → Prop) : List D → Sto → List D → (List D → Sto → Prop) → Prop
  | [], S, acc, k => G S ∧ k acc S
  | d :: ds, S, acc, k => G S ∧ g d ρ S fun ρ1 S1 => tt wd ρ1 S1 fun b S2 => if b = true then te wd ρ1 S2 fun y S3 => compD wd g tt te ρ G ds S3 (acc ++ [y]) k else compD wd g tt te ρ G ds S2 acc k
def dLc (wi : TID) (g : TGD) (tt : TTD) (te : TD) (vs : List Nat) : TD := fun wd ρ S k => wi wd ρ S fun ds G S1 => compD wd0 g tt te (wipeD ρ vs) G ds S1 [] fun ys S2 => k (.lst ys) S2
def dLcM (wi : TID) (g : TGD) (tt : TTD) (te : TD) (vs : List Nat) : TD := fun wd ρ S k => wi wd ρ S fun ds G S1 => compD wd0 g tt te (wipeD ρ vs) G ds S1 [] fun ys S2 => ∀ p, S2 p = none → k (.adr p) (supd S2 p (.lst ys))
theorem comp_ind {wd : WD} {g : TGD} {tt : TTD} {te : TD} {ρ : Envd} {G : Sto → Prop} {k : List D → Sto → Prop} (P : List D → Sto → List D → Prop) (h0 : ∀ S acc, P [] S acc → G S ∧ k acc S)
    (h1 : ∀ d ds S acc (cont : Sto → List D → Prop), P (d :: ds) S acc → (∀ S acc, P ds S acc → cont S acc) → G S ∧ g d ρ S fun ρ1 S1 => tt wd ρ1 S1 fun b S2 => if b = true then te wd ρ1 S2 fun y S3 => cont S3 (acc ++ [y]) else cont S2 acc) :
    ∀ ds S acc, P ds S acc → compD wd g tt te ρ G ds S acc k := by
  intro ds
  induction ds with
  | nil => intro S acc h; exact h0 S acc h
  | cons d ds ih => intro S acc h; exact h1 d ds S acc (fun S acc => compD wd g tt te ρ G ds S acc k) h ih
/-- a comprehension that changes nothing -/
theorem comp_pure {wd : WD} {g : TGD} {tt : TTD} {te : TD} {ρ : Envd} {G : Sto → Prop} {k : List D → Sto → Prop} {S : Sto} (p : D → Bool) (f : D → D) (hG : G S) : ∀ (ds acc : List D),
    (∀ d ∈ ds, ∀ (c1 : D → Sto → Prop) (c2 : Sto → Prop), (p d = true → c1 (f d) S) → (p d = false → c2 S) → g d ρ S fun ρ1 S1 => tt wd ρ1 S1 fun b S2 => if b = true then te wd ρ1 S2 c1 else c2 S2) →
    k (acc ++ (ds.filter p).map f) S → compD wd g tt te ρ G ds S acc k := by
  intro ds
  induction ds with
  | nil => intro acc _ h; exact ⟨hG, by simpa using h⟩
  | cons d ds ih =>
    intro acc h hk
    refine ⟨hG, h d List.mem_cons_self _ _ (fun hp => ih _ (fun e he => h e (List.mem_cons_of_mem _ he)) ?_) fun hp => ih _ (fun e he => h e (List.mem_cons_of_mem _ he)) ?_⟩
    · rw [List.filter_cons, if_pos hp] at hk; simpa using hk
    · rw [List.filter_cons, if_neg (by rw [hp]; decide)] at hk; exact hk
structure PTsD (X : Cx) (wd : WD) (ifs : List Expr) (tt : TTD) : Prop where
  pts : PTs X ifs (liftT X.K wd (tt wd))
def dYes : TTD := fun _ _ S k => k true S
section
variable {X : Cx} {wd : WD} {pos : Pos}
theorem ptsd_nil : PTsD X wd [] dYes := ⟨⟨fun pins s σ H Q I ⟨F, ρ, S, k, r, ht, hk⟩ => wpAny_tests_nil ⟨H, I, hk F true H S Go.refl r ht⟩⟩⟩
theorem ptsd_one {c : Expr} {tt : TTD} (h : PTD X wd c tt) : PTsD X wd [c] tt := ⟨pts_one h.pt⟩
/-- the reading below of a comprehension, from the data's -/
theorem lc_run {K : PySem.W.Frag} {w : TI} {wi : TID} {ws vs : List Nat} {g : TGD} {tt : TTD} {te : TD} {σ : L2.St} {H F : Hp} {ρ : Envd} {S : Sto} {Q : VK} {kk : List D → Sto → Prop}
    (hw : ∀ σ H F ρ S k (P : It → Hp → Prop), Rel K wd F σ H ρ S → wi wd ρ S k → (∀ J H' F' ds G S', Go F H S F' H' S' → Rel K wd F' σ H' ρ S' → ItOk K J F' ds G → ds.length ≤ sizeLine → k ds G S' → P J H') → w σ H P)
    (hws : ∀ i ∈ ws, i ∈ vs) (r : Rel K wd F σ H ρ S) (h : wi wd ρ S fun ds G S1 => compD wd0 g tt te (wipeD ρ vs) G ds S1 [] kk)
    (hk : ∀ Dl F' H' S' ys vsl, H Dl = none → Go F H S F' H' S' → RelH K F' H' S' → H' Dl = some (.lst vsl) → F' Dl = none → S' Dl = none → Rs K F' ys vsl → kk ys S' → Q (.ref Dl) H') :
    tLc w (liftG K wd0 ws g) (liftT K wd0 (tt wd0)) (lift K wd0 (te wd0)) vs σ H Q := by
  refine hw σ H F ρ S _ _ r h fun J H1 F1 ds G S1 g1 r1 it hz hc Dl hD => ?_
  obtain ⟨hF1, hS1⟩ := r1.h.fresh hD
  have hHD : H Dl = none := g1.dm Dl hD
  refine ⟨fun i m H' => m = ds.length - i ∧ i ≤ ds.length ∧ ∃ F' S' acc accV, Go F H S F' H' S' ∧ Ex F1 F' ∧ RelH K F' H' S' ∧ H' Dl = some (.lst accV) ∧ F' Dl = none ∧ S' Dl = none ∧ Rs K F' acc accV ∧ acc.length ≤ i ∧ compD wd0 g tt te (wipeD ρ vs) G (ds.drop i) S' acc kk,
    ⟨ds.length, by simp, Nat.zero_le _, F1, S1, [], [], ?_, Evl.Ex.refl _, r1.h.other hF1 hS1, upd_same, hF1, hS1, Rs.nil, Nat.le_refl _, hc⟩, ?_⟩
  · exact g1.trans ⟨Evl.Ex.refl _, fun a o ha n f => ⟨by rw [upd_ne (ne_of_none ha hD)]; exact ha, n, f⟩, fun _ ha => upd_none ha⟩
  rintro i m H' ⟨rfl, hi, F2, S2, acc, accV, g2, e2, r2, hD2, hF2, hS2, rs2, hl2, hc2⟩
  by_cases hlt : i < ds.length
  · obtain ⟨d, hd, hdrop⟩ := drop_get hlt
    rw [hdrop] at hc2
    obtain ⟨hG, hc2⟩ := hc2
    obtain ⟨it1, it2⟩ := it F2 H' S2 i e2 r2 hG
    obtain ⟨it3, it4⟩ := it2 d hd
    refine .inr ⟨it3, fun H3 => ∃ F' S' acc accV, Go F H S F' H3 S' ∧ Ex F1 F' ∧ RelH K F' H3 S' ∧ H3 Dl = some (.lst accV) ∧ F' Dl = none ∧ S' Dl = none ∧ Rs K F' acc accV ∧ acc.length ≤ i + 1 ∧ compD wd0 g tt te (wipeD ρ vs) G (ds.drop (i + 1)) S' acc kk,
      fun H3 n => ⟨ds.length - (i + 1), by omega, rfl, hlt, n⟩, fun x H3 y => ?_⟩
    obtain ⟨F3, g3, r3, rd⟩ := it4 x H3 y
    have rw3 : Rel K wd0 F3 (L2.wipe σ vs) H3 (wipeD ρ vs) S2 := (((r.wipe vs).up g2 r2).up g3 r3).to0
    refine ⟨F3, wipeD ρ vs, S2, d, _, rw3, rd, hc2, fun F4 σ4 H4 ρ4 S4 g4 r4 k4 q4 => ⟨wipe_keeps k4 hws, ?_⟩⟩
    refine ⟨F4, ρ4, S4, _, r4, q4, fun F5 b H5 S5 g5 r5 q5 => ?_⟩
    have gD : Go F2 H' S2 F5 H5 S5 := (g3.trans g4).trans g5
    cases b with
    | true =>
      rw [if_pos rfl] at q5
      dsimp only
      rw [if_pos rfl]
      refine ⟨F5, ρ4, S5, _, r5, q5, fun F6 v H6 d6 S6 g6 r6 rd6 q6 => ?_⟩
      have gD6 := gD.trans g6
      obtain ⟨hD6, hS6, hF6⟩ := gD6.fr Dl _ hD2 hS2 hF2
      have eF : Ex F2 F6 := gD6.ex
      refine ⟨accV, hD6, ?_, F6, S6, acc ++ [d6], accV ++ [v], ?_, e2.trans eF, r6.h.other hF6 hS6, upd_same, hF6, hS6, (Rs.mono eF _ _ rs2).append (Rs.cons rd6 Rs.nil), ?_, q6⟩
      · rw [rs2.length]; omega
      · have z := g2.trans gD6
        refine ⟨z.ex, fun a o ha n f => ?_, fun a ha => z.dm a (upd_none ha)⟩
        obtain ⟨h1, h2, h3⟩ := z.fr a o ha n f
        exact ⟨by rw [upd_ne (ne_of_none ha hHD)]; exact h1, h2, h3⟩
      · simp only [List.length_append, List.length_cons, List.length_nil]; omega
    | false =>
      rw [if_neg (by decide)] at q5
      dsimp only
      rw [if_neg (by decide)]
      obtain ⟨hD5, hS5, hF5⟩ := gD.fr Dl _ hD2 hS2 hF2
      exact ⟨F5, S5, acc, accV, g2.trans gD, e2.trans gD.ex, r5.h, hD5, hF5, hS5, Rs.mono gD.ex _ _ rs2, by omega, q5⟩
  · have ei : i = ds.length := by omega
    subst ei
    rw [List.drop_length] at hc2
    obtain ⟨it1, _⟩ := it F2 H' S2 _ e2 r2 hc2.1
    exact .inl ⟨it1 rfl, hk Dl F2 H' S2 acc accV hHD g2 r2 hD2 hF2 hS2 rs2 hc2.2⟩
/-- a list kept aside is frozen; becomes one of the store -/
theorem aside_frz {K : PySem.W.Frag} {F H F' H' : Hp} {S S' : Sto} {Dl : Addr} {ys : List D} {vsl : List V} (h0 : H Dl = none) (g : Go F H S F' H' S') (r : RelH K F' H' S') (h1 : H' Dl = some (.lst vsl)) (f1 : F' Dl = none) (n1 : S' Dl = none) (rs : Rs K F' ys vsl) :
    ∃ F2, Go F H S F2 H' S' ∧ RelH K F2 H' S' ∧ R K F2 (.lst ys) (.ref Dl) := by
  have eF : Ex F' (upd F' Dl (.lst vsl)) := Evl.Ex.new f1
  refine ⟨upd F' Dl (.lst vsl), ⟨g.ex.trans eF, fun a o ha n f => ?_, g.dm⟩, ⟨fun a v e => ?_, fun a v e => ?_⟩, ?_⟩
  · obtain ⟨q1, q2, q3⟩ := g.fr a o ha n f
    exact ⟨q1, q2, by rw [upd_ne (ne_of_none ha h0)]; exact q3⟩
  · by_cases ha : a = Dl
    · subst ha; rw [upd_same] at e; cases e; exact h1
    · rw [upd_ne ha] at e; exact r.ex a v e
  · have ha : a ≠ Dl := fun z => by rw [z, n1] at e; cases e
    obtain ⟨q1, q2⟩ := r.so a v e
    exact ⟨by rw [upd_ne ha]; exact q1, q2.mono eF rfl⟩
  · unfold R
    exact ⟨Dl, vsl, rfl, upd_same, Rs.mono eF _ _ rs⟩
theorem aside_sto {K : PySem.W.Frag} {F H F' H' : Hp} {S S' : Sto} {Dl : Addr} {ys : List D} {vsl : List V} (h0 : H Dl = none) (g : Go F H S F' H' S') (r : RelH K F' H' S') (h1 : H' Dl = some (.lst vsl)) (f1 : F' Dl = none) (n1 : S' Dl = none) (rs : Rs K F' ys vsl) :
    Go F H S F' H' (supd S' Dl (.lst ys)) ∧ RelH K F' H' (supd S' Dl (.lst ys)) := by
  refine ⟨⟨g.ex, fun a o ha n f => ?_, g.dm⟩, ⟨r.ex, fun a v e => ?_⟩⟩
  · obtain ⟨q1, q2, q3⟩ := g.fr a o ha n f
    exact ⟨q1, by rw [supd_ne (ne_of_none ha h0)]; exact q2, q3⟩
  · by_cases ha : a = Dl
    · subst ha; rw [supd_same] at e; cases e; exact ⟨f1, vsl, h1, rs⟩
    · rw [supd_ne ha] at e; exact r.so a v e
variable {elt tg iter : Expr} {ifs : List Expr} {scope : Scope} {own : List (Str × Nat)} {ws : List Nat} {wi : TID} {g : TGD} {tt : TTD} {te : TD}
theorem pd_lc (hc : X.calm = true) (hN : X.N.Nodup) (ok : BlkOk X.N X.env.scope scope own) (hi : PID X wd tg iter wi)
    (hg : ∀ (s : Shared) (H : Hp) (C : Addr) (cl : List (Str × Addr)) (fp : List Addr), PGD (X.blk s H scope (compEnvC scope cl C X.env) fp) wd0 tg ws g) (ht : ∀ (s : Shared) (H : Hp) (C : Addr) (cl : List (Str × Addr)) (fp : List Addr), PTsD (X.blk s H scope (compEnvC scope cl C X.env) fp) wd0 ifs tt)
    (he : ∀ (s : Shared) (H : Hp) (C : Addr) (cl : List (Str × Addr)) (fp : List Addr), PD (X.blk s H scope (compEnvC scope cl C X.env) fp) wd0 elt te) (hws : ∀ i ∈ ws, i ∈ own.map (·.2) := by decide) (hs : ∀ x, foldedSetIterable iter X.env x = pure x := by intro _; rfl) :
    PD X wd (.ListComp elt [⟨tg, iter, ifs, 0⟩] scope pos) (dLc wi g tt te (own.map (·.2))) := by
  obtain ⟨w, pi, hw⟩ := hi.pi
  refine PE.pd (pe_lc (g := liftG X.K wd0 ws g) (tt := liftT X.K wd0 (tt wd0)) (te := lift X.K wd0 (te wd0)) hc hN pi ok (fun s H C cl fp => (hg s H C cl fp).pg) (fun s H C cl fp => (ht s H C cl fp).pts) (fun s H C cl fp => (he s H C cl fp).pe) hs) fun σ H F ρ S k r h => ?_
  refine lc_run hw hws r h fun Dl F' H' S' ys vsl h0 gg rr h1 f1 n1 rs hk => ?_
  obtain ⟨F2, g2, r2, rd⟩ := aside_frz h0 gg rr h1 f1 n1 rs
  exact ⟨F2, .lst ys, S', g2, r.up g2 r2, rd, hk⟩
theorem pd_lcM (hc : X.calm = true) (hN : X.N.Nodup) (ok : BlkOk X.N X.env.scope scope own) (hi : PID X wd tg iter wi)
    (hg : ∀ (s : Shared) (H : Hp) (C : Addr) (cl : List (Str × Addr)) (fp : List Addr), PGD (X.blk s H scope (compEnvC scope cl C X.env) fp) wd0 tg ws g) (ht : ∀ (s : Shared) (H : Hp) (C : Addr) (cl : List (Str × Addr)) (fp : List Addr), PTsD (X.blk s H scope (compEnvC scope cl C X.env) fp) wd0 ifs tt)
    (he : ∀ (s : Shared) (H : Hp) (C : Addr) (cl : List (Str × Addr)) (fp : List Addr), PD (X.blk s H scope (compEnvC scope cl C X.env) fp) wd0 elt te) (hws : ∀ i ∈ ws, i ∈ own.map (·.2) := by decide) (hs : ∀ x, foldedSetIterable iter X.env x = pure x := by intro _; rfl) :
    PD X wd (.ListComp elt [⟨tg, iter, ifs, 0⟩] scope pos) (dLcM wi g tt te (own.map (·.2))) := by
  obtain ⟨w, pi, hw⟩ := hi.pi
  refine PE.pd (pe_lc (g := liftG X.K wd0 ws g) (tt := liftT X.K wd0 (tt wd0)) (te := lift X.K wd0 (te wd0)) hc hN pi ok (fun s H C cl fp => (hg s H C cl fp).pg) (fun s H C cl fp => (ht s H C cl fp).pts) (fun s H C cl fp => (he s H C cl fp).pe) hs) fun σ H F ρ S k r h => ?_
  refine lc_run hw hws r h fun Dl F' H' S' ys vsl h0 gg rr h1 f1 n1 rs hk => ?_
  obtain ⟨g2, r2⟩ := aside_sto h0 gg rr h1 f1 n1 rs
  exact ⟨F', .adr Dl, _, g2, r.up g2 r2, rfl, hk Dl n1⟩
/-- name = [..] -/
theorem psd_setLc {i : Nat} {y : Str} {py spos : Pos} (hc : X.calm = true) (hN : X.N.Nodup) (ok : BlkOk X.N X.env.scope scope own) (hi : PID X wd tg iter wi)
    (hg : ∀ (s : Shared) (H : Hp) (C : Addr) (cl : List (Str × Addr)) (fp : List Addr), PGD (X.blk s H scope (compEnvC scope cl C X.env) fp) wd0 tg ws g) (ht : ∀ (s : Shared) (H : Hp) (C : Addr) (cl : List (Str × Addr)) (fp : List Addr), PTsD (X.blk s H scope (compEnvC scope cl C X.env) fp) wd0 ifs tt)
    (he : ∀ (s : Shared) (H : Hp) (C : Addr) (cl : List (Str × Addr)) (fp : List Addr), PD (X.blk s H scope (compEnvC scope cl C X.env) fp) wd0 elt te)
    (hy : X.N[i]? = some y := by rfl) (hyl : X.env.scope.names.lookup y = some .local := by rfl)
    (hsw : swapsWith (.ListComp elt [⟨tg, iter, ifs, 0⟩] scope pos) (some (.Name y py)) spos.line X.env = pure true := by exact sw_true rfl rfl rfl rfl)
    (hws : ∀ i ∈ ws, i ∈ own.map (·.2) := by decide) (hs : ∀ x, foldedSetIterable iter X.env x = pure x := by intro _; rfl) :
    PSD X wd (.Assign [.Name y py] (.ListComp elt [⟨tg, iter, ifs, 0⟩] scope pos) spos) (dSet i (dLc wi g tt te (own.map (·.2)))) := by
  obtain ⟨w, pi, hw⟩ := hi.pi
  refine PS.psd (ps_setLc (g := liftG X.K wd0 ws g) (tt := liftT X.K wd0 (tt wd0)) (te := lift X.K wd0 (te wd0)) hc hN hy hyl hsw pi ok (fun s H C cl fp => (hg s H C cl fp).pg) (fun s H C cl fp => (ht s H C cl fp).pts) (fun s H C cl fp => (he s H C cl fp).pe) hs) fun σ H F ρ S E r h => ?_
  show tLc w (liftG X.K wd0 ws g) (liftT X.K wd0 (tt wd0)) (lift X.K wd0 (te wd0)) (own.map (·.2)) σ H _
  refine lc_run hw hws r h fun Dl F' H' S' ys vsl h0 gg rr h1 f1 n1 rs hk => ?_
  obtain ⟨F2, g2, r2, rd⟩ := aside_frz h0 gg rr h1 f1 n1 rs
  exact ⟨F2, _, S', g2, (r.up g2 r2).set i rd, hk⟩
theorem psd_setLcM {i : Nat} {y : Str} {py spos : Pos} (hc : X.calm = true) (hN : X.N.Nodup) (ok : BlkOk X.N X.env.scope scope own) (hi : PID X wd tg iter wi)
    (hg : ∀ (s : Shared) (H : Hp) (C : Addr) (cl : List (Str × Addr)) (fp : List Addr), PGD (X.blk s H scope (compEnvC scope cl C X.env) fp) wd0 tg ws g) (ht : ∀ (s : Shared) (H : Hp) (C : Addr) (cl : List (Str × Addr)) (fp : List Addr), PTsD (X.blk s H scope (compEnvC scope cl C X.env) fp) wd0 ifs tt)
    (he : ∀ (s : Shared) (H : Hp) (C : Addr) (cl : List (Str × Addr)) (fp : List Addr), PD (X.blk s H scope (compEnvC scope cl C X.env) fp) wd0 elt te)
    (hy : X.N[i]? = some y := by rfl) (hyl : X.env.scope.names.lookup y = some .local := by rfl)
    (hsw : swapsWith (.ListComp elt [⟨tg, iter, ifs, 0⟩] scope pos) (some (.Name y py)) spos.line X.env = pure true := by exact sw_true rfl rfl rfl rfl)
    (hws : ∀ i ∈ ws, i ∈ own.map (·.2) := by decide) (hs : ∀ x, foldedSetIterable iter X.env x = pure x := by intro _; rfl) :
    PSD X wd (.Assign [.Name y py] (.ListComp elt [⟨tg, iter, ifs, 0⟩] scope pos) spos) (dSet i (dLcM wi g tt te (own.map (·.2)))) := by
  obtain ⟨w, pi, hw⟩ := hi.pi
  refine PS.psd (ps_setLc (g := liftG X.K wd0 ws g) (tt := liftT X.K wd0 (tt wd0)) (te := lift X.K wd0 (te wd0)) hc hN hy hyl hsw pi ok (fun s H C cl fp => (hg s H C cl fp).pg) (fun s H C cl fp => (ht s H C cl fp).pts) (fun s H C cl fp => (he s H C cl fp).pe) hs) fun σ H F ρ S E r h => ?_
  show tLc w (liftG X.K wd0 ws g) (liftT X.K wd0 (tt wd0)) (lift X.K wd0 (te wd0)) (own.map (·.2)) σ H _
  refine lc_run hw hws r h fun Dl F' H' S' ys vsl h0 gg rr h1 f1 n1 rs hk => ?_
  obtain ⟨g2, r2⟩ := aside_sto h0 gg rr h1 f1 n1 rs
  exact ⟨F', _, _, g2, (r.up g2 r2).set i (d := .adr Dl) (v := .ref Dl) (by unfold R; rfl), hk Dl n1⟩
end
end Z

set_option Elab.async false
set_option linter.all false
set_option maxRecDepth 100000
set_option maxHeartbeats 4000000
namespace Z
open PySem PySem.Spec PyProof.Rows L2

/-! ### what a def promises, by data -/
abbrev SpD := List D → Sto → KD → XD → Prop
def liftSp (K : PySem.W.Frag) (sp : SpD) : Sp := fun vs H Q E => ∃ F S ds k ex, RelH K F H S ∧ Rs K F ds vs ∧ sp ds S k ex ∧
  (∀ F' v H' d S', Go F H S F' H' S' → RelH K F' H' S' → R K F' d v → k d S' → Q v H') ∧
  (∀ F' H' S' C x d, Go F H S F' H' S' → RelH K F' H' S' → Fld K F' H' d x → ex C x S' → E (.ref C) d H')
structure FnZ (P : Program) (w : World) (K : PySem.W.Frag) (mg : Str → Option Value) (base : Heap) (k : Nat) (f : Addr) (fd : FuncData) (ps : List Str) (sp : SpD) : Prop where
  len : ∀ ds S kk ex, sp ds S kk ex → ds.length = ps.length
  run : ∀ (A : Around) (outer : List Env) (s : Shared) (H : Hp) (args : Args) (us : List Value) (vs : List V) (Q : VK) (E : XK), A.guards = some [] → Room k A → Env0 P w K mg base A outer s H → BindsTo s fd args (ps.zip us) → Vals vs us → liftSp K sp vs H Q E →
    codeAny (model P w) A (.call (.ref f) args) (CR (L2.CX P w) outer P w H s Q E) s
theorem FnZ.mono {P : Program} {w : World} {K : PySem.W.Frag} {mg : Str → Option Value} {base : Heap} {j k : Nat} {f : Addr} {fd : FuncData} {ps : List Str} {sp : SpD} (F : FnZ P w K mg base j f fd ps sp) (h : j ≤ k) : FnZ P w K mg base k f fd ps sp :=
  ⟨F.len, fun A outer s H args us vs Q E hg hr => F.run A outer s H args us vs Q E hg (hr.mono h)⟩
theorem FnZ.imp {P : Program} {w : World} {K : PySem.W.Frag} {mg : Str → Option Value} {base : Heap} {k : Nat} {f : Addr} {fd : FuncData} {ps : List Str} {sp sp' : SpD} (F : FnZ P w K mg base k f fd ps sp) (h : ∀ ds S kk ex, sp' ds S kk ex → sp ds S kk ex) : FnZ P w K mg base k f fd ps sp' :=
  ⟨fun ds S kk ex q => F.len ds S kk ex (h _ _ _ _ q), fun A outer s H args us vs Q E hg hr he hb hv ⟨F0, S, ds, kk, ex, a, b, c, d, e⟩ => F.run A outer s H args us vs Q E hg hr he hb hv ⟨F0, S, ds, kk, ex, a, b, h _ _ _ _ c, d, e⟩⟩

/-- what a body lets out is taken -/
def TkD (X : Cx) (wd : WD) : Prop := Takes X (WL X.K wd)
theorem tk_of {X : Cx} {wd : WD} (t : Takes X (WL X.K wd)) : TkD X wd := t
theorem TkD.at {X : Cx} {wd : WD} (t : TkD X wd) (σ : L2.St) : PassesAt (L2.CX X.prog X.w) X σ (fun cls d H' => WL X.K wd cls d σ H') := passAt t σ
theorem tk0 {X : Cx} : TkD X wd0 := fun u s' h => by
  obtain ⟨_, _, _, _, _, _, _, _, _, _, _, _, _, _, _, _, z⟩ := h
  obtain ⟨_, _, _, _, _, _, _, _, z⟩ := z
  exact z.elim
/-- the room for calls -/
structure Rm (k : Nat) (A : Around) : Prop where
  g : A.guards = some []
  r : Room k A
theorem Rm.mono {j k : Nat} {A : Around} (r : Rm k A) (h : j ≤ k) : Rm j A := ⟨r.g, r.r.mono h⟩

section
variable {X : Cx} {wd : WD} {k : Nat} {f C : Addr} {fd : FuncData} {ps : List Str} {sp : SpD} {dvs : List D} {ds : List Value} {x m : Str} {p pos apos : Pos} {e o : Expr} {es : List Expr} {ta : TD} {t : TAD}
theorem run_fnz {pins : List (Addr × Obj)} {σ : L2.St} {H F0 : Hp} {ρ : Envd} {S : Sto} {s : Shared} {kk : KD} {us us' : List Value} {kw : List (Str × Value)} {vs : List V} {dd : List D} (F : FnZ X.prog X.w X.K X.mg X.base k f fd ps sp) (hr : Rm k X.A) (tk : TkD X wd)
    (I : Inv X pins σ H s) (r : Rel X.K wd F0 σ H ρ S) (hb : BindsTo s fd ⟨us, kw⟩ (ps.zip us')) (rv : Vals vs us') (rd : Rs X.K F0 dd vs) (h : sp dd S kk fun C y S' => wd.f C y ρ S') :
    wpAny (model X.prog X.w) X.A (call (.ref f) us kw) (EPd X wd pins σ H F0 ρ S kk) X.xe s := by
  refine wpAny_call (codeAny_mono (F.run X.A X.stack s H ⟨us, kw⟩ us' vs (fun v H' => ∃ F' d S', Go F0 H S F' H' S' ∧ Rel X.K wd F' σ H' ρ S' ∧ R X.K F' d v ∧ kk d S') (fun cls d H' => WL X.K wd cls d σ H') hr.g hr.r I.env0 hb rv
    ⟨F0, S, dd, kk, _, r.h, rd, h, fun F' v H' d S' g r' rd' q => ⟨F', d, S', g, r.up g r', rd', q⟩, fun F' H' S' C y d g r' fl q => ⟨F', ρ, S', C, y, rfl, r.up g r', fl, q⟩⟩) fun rr s' hq => ?_)
  cases rr with
  | error er => exact tk.at σ pins H s er s' I hq
  | ok fl =>
    cases fl with
    | ret u =>
      obtain ⟨v, H', I', rv', F', d, S', g, r', rd', q⟩ := I.after hq
      exact ⟨v, H', F', d, S', I', rv', g, r', rd', q⟩
    | next => exact False.elim hq
    | brk => exact False.elim hq
    | cont => exact False.elim hq

/-- a def that stands under a global name, its last parameters' defaults dvs -/
structure CalF (P : Program) (w : World) (K : PySem.W.Frag) (mg : Str → Option Value) (base : Heap) (k : Nat) (x : Str) (dvs : List D) (sp : SpD) : Prop where
  ex : ∃ (f : Addr) (fd : FuncData) (ps : List Str) (ds : List Value) (vsd : List V), FnZ P w K mg base k f fd ps sp ∧ mg x = some (.ref f) ∧ PySem.W.keepIn K (.ref f) = true ∧ Binds K fd ps ds ∧ Vals vsd ds ∧ ∀ F, Rs K F dvs vsd
def dCall (sp : SpD) (dvs : List D) (t : TAD) : TD := fun wd ρ S k => t wd ρ S fun ds S1 => sp (ds ++ dvs) S1 k fun C y S2 => wd.f C y ρ S2
theorem pd_call (F : CalF X.prog X.w X.K X.mg X.base k x dvs sp) (hr : Rm k X.A) (tk : TkD X wd) (ha : PAD X wd (e :: es) t) (hg : Gl X x := by rfl) (hdb : (x == ("__debug__" : Str)) = false := by decide)
    (he : starEach (e :: es) X.env = (false, eval e X.env) :: starEach es X.env := by rfl) (hpl : (backTo pos (starEach es X.env)).any (·.1) = false := by rfl) : PD X wd (.Call (.Name x p) (e :: es) [] pos) (dCall sp dvs t) := by
  obtain ⟨f, fd, ps, ds, vsd, F, hm, hk, hb, hd, hdv⟩ := F.ex
  refine ⟨fun pins s σ H F0 ρ S kk I r h => ?_⟩
  refine wpAny_Call_Name_kw (ld_glob I hg hm ?_ hdb)
  refine PySem.W.callWith_K (h₀ := X.base) I.ok.mod.kin hk (thn (ha.run pos pins s σ H F0 ρ S _ I r h) fun us s1 ⟨vs, H1, F1, dd, S1, I1, rv, g1, r1, rd, q⟩ => ⟨I1.kIn, ?_⟩) he hpl
  have r2 : Vals (vs ++ vsd) (us ++ ds) := rv.append hd
  have rd2 : Rs X.K F1 (dd ++ dvs) (vs ++ vsd) := rd.append (hdv F1)
  have hl : (us ++ ds).length = ps.length := by rw [← r2.length, rd2.length]; exact F.len _ _ _ _ q
  exact thn (run_fnz F hr tk I1 r1 (hb s1 us I1.kIn hl) r2 rd2 q) fun _ _ z => EPd.trans g1 z
theorem pd_call0 (F : CalF X.prog X.w X.K X.mg X.base k x dvs sp) (hr : Rm k X.A) (tk : TkD X wd) (hg : Gl X x := by rfl) (hdb : (x == ("__debug__" : Str)) = false := by decide) : PD X wd (.Call (.Name x p) [] [] pos) (dCall sp dvs dNil) := by
  obtain ⟨f, fd, ps, ds, vsd, F, hm, hk, hb, hd, hdv⟩ := F.ex
  refine ⟨fun pins s σ H F0 ρ S kk I r h => ?_⟩
  refine wpAny_Call_Name_kw (ld_glob I hg hm ?_ hdb)
  have hl : (([] : List Value) ++ ds).length = ps.length := by
    have := F.len _ _ _ _ h
    rw [List.nil_append] at this ⊢
    rw [← hd.length, (hdv F0).length]; exact this
  exact PySem.W.callWith_K0 I.kIn hk (run_fnz (us := []) F hr tk I r (hb s [] I.kIn hl) (by simpa using hd) (by simpa using hdv F0) h)

/-! ### instances -/
/-- a method of the class at C -/
structure CalM (P : Program) (w : World) (K : PySem.W.Frag) (mg : Str → Option Value) (base : Heap) (k : Nat) (C : Addr) (m : Str) (dvs : List D) (sp : SpD) : Prop where
  cls : Cls K C
  ex : ∃ (f : Addr) (fd : FuncData) (ps : List Str) (ds : List Value) (vsd : List V), Meth K C m f ∧ FnZ P w K mg base k f fd ps sp ∧ Binds K fd ps ds ∧ Vals vsd ds ∧ ∀ F, Rs K F dvs vsd
/-- d is an instance of the class at C with the fields ns -/
def IsIn (C : Addr) (ns : List Str) (S : Sto) (d : D) : Prop := match d with
  | .obj C' ns' _ => C' = C ∧ ns' = ns
  | .adr a => (match S a with | some (.obj C' ns' _) => C' = C ∧ ns' = ns | _ => False)
  | _ => False
theorem isIn_at {K : PySem.W.Frag} {F H : Hp} {S : Sto} {C : Addr} {ns : List Str} {d : D} {v : V} (r : RelH K F H S) (rd : R K F d v) (h : IsIn C ns S d) : ∃ a dx fs, v = .ref a ∧ H a = some (.ins C dx fs) ∧ fs.map (·.1) = ns := by
  cases d with
  | obj C' ns' vs =>
    obtain ⟨e1, e2⟩ := h
    subst e1 e2
    unfold R at rd
    obtain ⟨a, dx, fs, e0, h1, h2, h3⟩ := rd
    exact ⟨a, dx, fs, e0, r.ex _ _ h1, h2⟩
  | adr a =>
    unfold IsIn at h
    dsimp only at h
    split at h
    · rename_i C' ns' vs q
      obtain ⟨e1, e2⟩ := h
      subst e1 e2
      unfold R at rd
      obtain ⟨_, dx, fs, h1, h2, h3⟩ := r.so a _ q
      exact ⟨a, dx, fs, rd, h1, h2⟩
    · exact h.elim
  | _ => exact (show False from h).elim
theorem look_none {fs : List (Str × V)} {m : Str} {ns : List Str} (h : fs.map (·.1) = ns) (hm : ns.contains m = false) : fs.lookup m = none := by
  subst h
  induction fs with
  | nil => rfl
  | cons q l ih =>
    rw [List.map_cons, List.contains_cons, Bool.or_eq_false_iff] at hm
    rw [List.lookup_cons, hm.1]
    exact ih hm.2
def dMeth (C : Addr) (ns : List Str) (sp : SpD) (dvs : List D) (ta : TD) (t : TAD) : TD := fun wd ρ S k => ta wd ρ S fun d S1 => IsIn C ns S1 d ∧ t wd ρ S1 fun ds S2 => sp (d :: (ds ++ dvs)) S2 k fun C y S2 => wd.f C y ρ S2
theorem pd_meth {pl : Sem Bool} {ns : List Str} (F : CalM X.prog X.w X.K X.mg X.base k C m dvs sp) (hr : Rm k X.A) (tk : TkD X wd) (ho : PD X wd o ta) (ha : PAD X wd (e :: es) t) (hn : ns.contains m = false := by decide +kernel)
    (hst : starEach (e :: es) X.env = (false, eval e X.env) :: starEach es X.env := by rfl) (hpl : (backTo pos (starEach es X.env)).any (·.1) = false := by rfl)
    (ht : eval (.Call (.Attribute o m apos) (e :: es) [] pos) X.env = (do
      let ov ← eval o X.env
      standAt apos.atName
      let (f, first) ← holding [ov] (getMethod ov m pl)
      callWith pos f first (backTo pos (starEach (e :: es) X.env)) (backToKw pos (keywordEach [] X.env))) := by rfl) :
    PD X wd (.Call (.Attribute o m apos) (e :: es) [] pos) (dMeth C ns sp dvs ta t) := by
  obtain ⟨c, f, fd, ps, ds, vsd, hm, F, hb, hd, hdv⟩ := F
  refine ⟨fun pins s σ H F0 ρ S kk I r h => ?_⟩
  refine PySem.W.methodCall_KW (pl := pl) (thn (ho.run pins s σ H F0 ρ S _ I r h) fun u s1 ⟨x, H1, F1, d, S1, I1, rx, g1, r1, rd, hi, q⟩ => ?_) ht
  obtain ⟨a, dx, fs, ex, ea, el⟩ := isIn_at r1.h rd hi
  subst ex
  obtain rfl : u = Value.ref a := rx
  refine getmeth_ok I1 ea c hm (look_none el hn) ?_
  refine PySem.W.callWith_K (first := [.ref a]) (h₀ := X.base) I.ok.mod.kin hm.kp (thn (ha.run pos pins s1 σ H1 F1 ρ S1 _ I1 r1 q) fun us s2 ⟨vs, H2, F2, dd, S2, I2, rv, g2, r2, rds, q2⟩ => ⟨I2.kIn, ?_⟩) hst hpl
  have rv2 : Vals (V.ref a :: (vs ++ vsd)) (Value.ref a :: (us ++ ds)) := .cons rfl (rv.append hd)
  have rd2 : Rs X.K F2 (d :: (dd ++ dvs)) (V.ref a :: (vs ++ vsd)) := Rs.cons (R.mono g2.ex _ _ rd) (rds.append (hdv F2))
  have hl : (Value.ref a :: us ++ ds).length = ps.length := by
    have e := rv2.length
    rw [rd2.length, F.len _ _ _ _ q2] at e
    exact e.symm
  exact thn (run_fnz (us := .ref a :: us) F hr tk I2 r2 (hb s2 (.ref a :: us) I2.kIn hl) rv2 rd2 q2) fun _ _ z => EPd.trans (g1.trans g2) z
theorem pd_meth0 {pl : Sem Bool} {ns : List Str} (F : CalM X.prog X.w X.K X.mg X.base k C m dvs sp) (hr : Rm k X.A) (tk : TkD X wd) (ho : PD X wd o ta) (hn : ns.contains m = false := by decide +kernel)
    (ht : eval (.Call (.Attribute o m apos) [] [] pos) X.env = (do
      let ov ← eval o X.env
      standAt apos.atName
      let (f, first) ← holding [ov] (getMethod ov m pl)
      callWith pos f first (backTo pos (starEach [] X.env)) (backToKw pos (keywordEach [] X.env))) := by rfl) :
    PD X wd (.Call (.Attribute o m apos) [] [] pos) (dMeth C ns sp dvs ta dNil) := by
  obtain ⟨c, f, fd, ps, ds, vsd, hm, F, hb, hd, hdv⟩ := F
  refine ⟨fun pins s σ H F0 ρ S kk I r h => ?_⟩
  refine PySem.W.methodCall_KW (pl := pl) (thn (ho.run pins s σ H F0 ρ S _ I r h) fun u s1 ⟨x, H1, F1, d, S1, I1, rx, g1, r1, rd, hi, q⟩ => ?_) ht
  obtain ⟨a, dx, fs, ex, ea, el⟩ := isIn_at r1.h rd hi
  subst ex
  obtain rfl : u = Value.ref a := rx
  refine getmeth_ok I1 ea c hm (look_none el hn) ?_
  have rv2 : Vals (V.ref a :: vsd) (Value.ref a :: ds) := .cons rfl hd
  have rd2 : Rs X.K F1 (d :: dvs) (V.ref a :: vsd) := Rs.cons rd (hdv F1)
  have hl : ([Value.ref a] ++ ds).length = ps.length := by
    have e := rv2.length
    have e3 : (d :: dvs).length = ps.length := F.len _ _ _ _ q
    rw [rd2.length, e3] at e
    exact e.symm
  exact PySem.W.callWith_K0 (first := [.ref a]) I1.kIn hm.kp (thn (run_fnz (us := [.ref a]) F hr tk I1 r1 (hb s1 [.ref a] I1.kIn hl) rv2 rd2 q) fun _ _ z => EPd.trans g1 z)

/-- a class of one's own with an __init__ -/
structure CalC (P : Program) (w : World) (K : PySem.W.Frag) (mg : Str → Option Value) (base : Heap) (k : Nat) (x : Str) (C : Addr) (dvs : List D) (sp : SpD) : Prop where
  hm : mg x = some (.ref C)
  ex : ∃ (f : Addr) (fd : FuncData) (ps : List Str) (ds : List Value) (vsd : List V), Mk K C f ∧ FnZ P w K mg base k f fd ps sp ∧ Binds K fd ps ds ∧ Vals vsd ds ∧ ∀ F, Rs K F dvs vsd
theorem make_guards {A : Around} {C : Addr} {us : List Value} {kw : List (Str × Value)} (h : A.guards = some []) : (A.under (.builtin "type.__call__" ⟨.ref C :: us, kw⟩)).guards = some [] := by
  show pushGuards (Code.guards (.builtin "type.__call__" ⟨.ref C :: us, kw⟩)) A.guards = some []
  have e : Code.guards (.builtin "type.__call__" ⟨.ref C :: us, kw⟩) = [] := by
    unfold Code.guards
    rw [if_neg]
    have e2 : Code.isGuard (.builtin "type.__call__" ⟨.ref C :: us, kw⟩) = false := by
      show guardIds.contains "type.__call__" = false
      decide +kernel
    rw [e2]; decide
  rw [e, h]; rfl
def dMake (C : Addr) (sp : SpD) (dvs : List D) (t : TAD) : TD := fun wd ρ S k => t wd ρ S fun ds S1 => ∀ x, S1 x = none → sp (.adr x :: (ds ++ dvs)) (supd S1 x (.obj C [] [])) (fun d S2 => match d with | .non => k (.adr x) S2 | _ => False) fun C y S2 => wd.f C y ρ S2
theorem pd_make (F : CalC X.prog X.w X.K X.mg X.base k x C dvs sp) (hr : Rm (k + 1) X.A) (tk : TkD X wd) (ha : PAD X wd (e :: es) t) (hg : Gl X x := by rfl) (hdb : (x == ("__debug__" : Str)) = false := by decide)
    (he : starEach (e :: es) X.env = (false, eval e X.env) :: starEach es X.env := by rfl) (hpl : (backTo pos (starEach es X.env)).any (·.1) = false := by rfl) : PD X wd (.Call (.Name x p) (e :: es) [] pos) (dMake C sp dvs t) := by
  obtain ⟨hm, f, fd, ps, ds, vsd, M, F, hb, hd, hdv⟩ := F
  refine ⟨fun pins s σ H F0 ρ S kk I r h => ?_⟩
  refine wpAny_Call_Name_kw (ld_glob I hg hm ?_ hdb)
  refine PySem.W.callWith_K (h₀ := X.base) I.ok.mod.kin M.kp (thn (ha.run pos pins s σ H F0 ρ S _ I r h) fun us s1 ⟨vs, H1, F1, dd, S1, I1, rv, g1, r1, rds, q⟩ => ⟨I1.kIn, ?_⟩) he hpl
  show wpAny (model X.prog X.w) X.A (call (.ref C) us) _ _ _
  have n1 : H1 (s1.heap.objs.size + 1) = none := I1.hok.fresh (Nat.le_succ _)
  have n2 : H1 s1.heap.objs.size = none := I1.hok.fresh (Nat.le_refl _)
  have ne : s1.heap.objs.size ≠ s1.heap.objs.size + 1 := Nat.ne_of_lt (Nat.lt_succ_self _)
  obtain ⟨f1, sn1⟩ := r1.h.fresh n1
  obtain ⟨f2, sn2⟩ := r1.h.fresh n2
  have hq := q (s1.heap.objs.size + 1) sn1
  have I2 := Inv.made (C := C) I1
  have rH : RelH X.K F1 (upd (upd H1 s1.heap.objs.size (.own (s1.heap.objs.size + 1))) (s1.heap.objs.size + 1) (.ins C s1.heap.objs.size [])) (supd S1 (s1.heap.objs.size + 1) (.obj C [] [])) :=
    (r1.h.other f2 sn2).newS (by rw [upd_ne (Ne.symm ne)]; exact n1) ⟨_, [], upd_same, rfl, Rs.nil⟩
  have gg : Go F1 H1 S1 F1 (upd (upd H1 s1.heap.objs.size (.own (s1.heap.objs.size + 1))) (s1.heap.objs.size + 1) (.ins C s1.heap.objs.size [])) (supd S1 (s1.heap.objs.size + 1) (.obj C [] [])) :=
    ⟨Evl.Ex.refl _, fun a o ha n f => ⟨by rw [upd_ne (ne_of_none ha n1), upd_ne (ne_of_none ha n2)]; exact ha, by rw [supd_ne (ne_of_none ha n1)]; exact n, f⟩, fun a ha => upd_none (upd_none ha)⟩
  have r2 : Vals (V.ref (s1.heap.objs.size + 1) :: (vs ++ vsd)) (Value.ref (s1.heap.objs.size + 1) :: (us ++ ds)) := .cons rfl (rv.append hd)
  have rd2 : Rs X.K F1 (.adr (s1.heap.objs.size + 1) :: (dd ++ dvs)) (V.ref (s1.heap.objs.size + 1) :: (vs ++ vsd)) := Rs.cons (by unfold R; rfl) (rds.append (hdv F1))
  have hl : (Value.ref (s1.heap.objs.size + 1) :: us ++ ds).length = ps.length := by
    have e := r2.length
    rw [rd2.length, F.len _ _ _ _ hq] at e
    exact e.symm
  refine wpAny_call (make_map (f := f) I1.kIn M.makes M.init (beq_iff_eq.mp M.fn) (codeAny_mono (F.run _ X.stack _ _ ⟨Value.ref (s1.heap.objs.size + 1) :: us, []⟩ (Value.ref (s1.heap.objs.size + 1) :: (us ++ ds)) _
    (fun v H' => v = .non ∧ ∃ F' S', Go F1 H1 S1 F' H' S' ∧ Rel X.K wd F' σ H' ρ S' ∧ kk (.adr (s1.heap.objs.size + 1)) S') (fun cls d H' => WL X.K wd cls d σ H') (make_guards hr.g) (hr.r.make C us [])
    (I2.env0.make C us []) (hb _ (Value.ref (s1.heap.objs.size + 1) :: us) I2.kIn hl) r2 ⟨F1, _, _, _, _, rH, rd2, hq, fun F' v H' d S' g r' rd' q' => ?_, fun F' H' S' C' y d g r' fl q' => ⟨F', ρ, S', C', y, rfl, r1.up (gg.trans g) r', fl, q'⟩⟩) fun rr s' hq' => ?_))
  · cases d with
    | non => unfold R at rd'; exact ⟨rd', F', S', gg.trans g, r1.up (gg.trans g) r', q'⟩
    | _ => exact (show False from q').elim
  · cases rr with
    | error er => exact tk.at σ pins _ _ er s' I2 hq'
    | ok fl =>
      cases fl with
      | ret u =>
        obtain ⟨v, H', I3, rv3, ev, F', S', g, r', q3⟩ := I2.after hq'
        subst ev
        exact ⟨rv3, V.ref (s1.heap.objs.size + 1), H', F', .adr (s1.heap.objs.size + 1), S', I3, rfl, g1.trans g, r', (by unfold R; rfl), q3⟩
      | next => exact False.elim hq'
      | brk => exact False.elim hq'
      | cont => exact False.elim hq'

/-! ### fields -/
theorem look_at {f : Str} {i : Nat} {v : V} : ∀ {fs : List (Str × V)} {ns : List Str}, fs.map (·.1) = ns → ns.findIdx? (· == f) = some i → (fs.map (·.2))[i]? = some v → fs.lookup f = some v
  | [], ns, h, e, _ => by subst h; simp at e
  | q :: l, ns, h, e, hv => by
    subst h
    rw [List.map_cons, List.findIdx?_cons] at e
    rw [List.lookup_cons]
    by_cases hq : (q.1 == f) = true
    · rw [if_pos hq] at e
      cases e
      have hf : (f == q.1) = true := by rw [beq_iff_eq] at hq ⊢; exact hq.symm
      rw [hf]
      simpa using hv
    · rw [if_neg hq] at e
      have hf : (f == q.1) = false := by
        cases z : f == q.1 with
        | false => rfl
        | true => rw [beq_iff_eq] at z; exact absurd (by rw [z]; exact beq_self_eq_true _) hq
      rw [hf]
      rw [Option.map_eq_some_iff] at e
      obtain ⟨j, e1, e2⟩ := e
      subst e2
      exact look_at (fs := l) rfl e1 (by simpa using hv)
def fldK (C : Addr) (ns : List Str) (i : Nat) (d : D) (S : Sto) (k : KD) : Prop := match d with
  | .obj C' ns' vs => C' = C ∧ ns' = ns ∧ (match vs[i]? with | some x => k x S | none => False)
  | .adr a => (match S a with | some (.obj C' ns' vs) => C' = C ∧ ns' = ns ∧ (match vs[i]? with | some x => k x S | none => False) | _ => False)
  | _ => False
def dFld (C : Addr) (ns : List Str) (i : Nat) (ta : TD) : TD := fun wd ρ S k => ta wd ρ S fun d S1 => fldK C ns i d S1 k
theorem pd_fld {ns : List Str} {i : Nat} {fn : Str} (c : Cls X.K C) (hna : NoAttr X.K C fn) (ho : PD X wd o ta) (hi : ns.findIdx? (· == fn) = some i := by decide +kernel) (hb : attributeBase o fn X.env (eval o X.env) = eval o X.env := by rfl) :
    PD X wd (.Attribute o fn pos) (dFld C ns i ta) := by
  refine ⟨fun pins s σ H F0 ρ S kk I r h => ?_⟩
  refine attr_of hb (thn (ho.run pins s σ H F0 ρ S _ I r h) fun u s1 ⟨x, H1, F1, d, S1, I1, rx, g1, r1, rd, q⟩ => ?_)
  have key : ∃ a dx fs v y, x = .ref a ∧ H1 a = some (.ins C dx fs) ∧ fs.lookup fn = some v ∧ R X.K F1 y v ∧ kk y S1 := by
    cases d with
    | obj C' ns' vs =>
      obtain ⟨e1, e2, q⟩ := q
      subst e1 e2
      unfold R at rd
      obtain ⟨a, dx, fs, e0, h1, h2, h3⟩ := rd
      split at q
      · rename_i y hy
        obtain ⟨v, q1, q2⟩ := h3.get hy
        exact ⟨a, dx, fs, v, y, e0, r1.h.ex _ _ h1, look_at h2 hi q1, q2, q⟩
      · exact q.elim
    | adr a =>
      unfold fldK at q
      dsimp only at q
      split at q
      · rename_i C' ns' vs hs
        obtain ⟨e1, e2, q⟩ := q
        subst e1 e2
        unfold R at rd
        obtain ⟨_, dx, fs, h1, h2, h3⟩ := r1.h.so a _ hs
        split at q
        · rename_i y hy
          obtain ⟨v, q1, q2⟩ := h3.get hy
          exact ⟨a, dx, fs, v, y, rd, h1, look_at h2 hi q1, q2, q⟩
        · exact q.elim
      · exact q.elim
    | _ => exact (show False from q).elim
  obtain ⟨a, dx, fs, v, y, ex, ea, el, ry, hk⟩ := key
  subst ex
  obtain rfl : u = Value.ref a := rx
  exact getattr_ok I1 ea c hna el fun u' s2 I2 ru => ⟨v, H1, F1, y, S1, I2, ru, g1, r1, ry, hk⟩
/-- o.f = value: a new field; one that is there, the i-th -/
def sfldNew (C : Addr) (ns : List Str) (fn : Str) (d y : D) (S : Sto) (k : Sto → Prop) : Prop := match d with
  | .adr a => (match S a with | some (.obj C' ns' vs) => C' = C ∧ ns' = ns ∧ k (supd S a (.obj C (ns ++ [fn]) (vs ++ [y]))) | _ => False)
  | _ => False
def sfldOld (C : Addr) (ns : List Str) (i : Nat) (d y : D) (S : Sto) (k : Sto → Prop) : Prop := match d with
  | .adr a => (match S a with | some (.obj C' ns' vs) => C' = C ∧ ns' = ns ∧ k (supd S a (.obj C ns (vs.set i y))) | _ => False)
  | _ => False
def dSfldN (C : Addr) (ns : List Str) (fn : Str) (ta tv : TD) : TSD := fun wd E ρ S => tv wd ρ S fun y S1 => ta wd ρ S1 fun d S2 => sfldNew C ns fn d y S2 fun S3 => E.nx ρ S3
def dSfldO (C : Addr) (ns : List Str) (i : Nat) (ta tv : TD) : TSD := fun wd E ρ S => tv wd ρ S fun y S1 => ta wd ρ S1 fun d S2 => sfldOld C ns i d y S2 fun S3 => E.nx ρ S3
theorem put_new {f : Str} {v : V} : ∀ {fs : List (Str × V)}, (fs.map (·.1)).contains f = false → (putF f v fs).map (·.1) = fs.map (·.1) ++ [f] ∧ (putF f v fs).map (·.2) = fs.map (·.2) ++ [v]
  | [], _ => ⟨rfl, rfl⟩
  | q :: l, h => by
    rw [List.map_cons, List.contains_cons, Bool.or_eq_false_iff] at h
    obtain ⟨i1, i2⟩ := put_new (v := v) (fs := l) h.2
    have hq : ¬ q.1 = f := fun z => by rw [z, beq_self_eq_true] at h; cases h.1
    obtain ⟨g, x⟩ := q
    rw [show putF f v ((g, x) :: l) = (if g = f then (g, v) :: l else (g, x) :: putF f v l) from rfl, if_neg hq]
    simp only [List.map_cons, i1, i2, List.cons_append, and_self]
theorem put_old {f : Str} {v : V} : ∀ {fs : List (Str × V)} {i : Nat}, (fs.map (·.1)).findIdx? (· == f) = some i → (putF f v fs).map (·.1) = fs.map (·.1) ∧ (putF f v fs).map (·.2) = (fs.map (·.2)).set i v
  | [], _, e => by simp at e
  | q :: l, i, e => by
    obtain ⟨g, x⟩ := q
    rw [List.map_cons, List.findIdx?_cons] at e
    rw [show putF f v ((g, x) :: l) = (if g = f then (g, v) :: l else (g, x) :: putF f v l) from rfl]
    by_cases hq : g = f
    · have hb : ((g == f) = true) := by rw [hq]; exact beq_self_eq_true _
      rw [if_pos hb] at e
      cases e
      rw [if_pos hq]
      simp
    · have hb : ¬ ((g == f) = true) := fun z => hq (beq_iff_eq.mp z)
      rw [if_neg hb, Option.map_eq_some_iff] at e
      obtain ⟨j, e1, e2⟩ := e
      subst e2
      rw [if_neg hq]
      obtain ⟨i1, i2⟩ := put_old (v := v) (fs := l) e1
      simp only [List.map_cons, i1, i2, List.set_cons_succ, and_self]
theorem Rs.set {K : PySem.W.Frag} {F : Hp} : ∀ {ds : List D} {vs : List V} {i : Nat} {d : D} {v : V}, Rs K F ds vs → R K F d v → Rs K F (ds.set i d) (vs.set i v)
  | [], vs, i, d, v, h, _ => by unfold Rs at h; subst h; exact Rs.nil
  | x :: ds, vs, i, d, v, h, hd => by
    unfold Rs at h
    obtain ⟨u, vs', rfl, h1, h2⟩ := h
    cases i with
    | zero => exact Rs.cons hd h2
    | succ i => exact Rs.cons h1 (Rs.set h2 hd)
variable {value : Expr} {tv : TD} {pos' : Pos}
theorem psd_fldN {ns : List Str} {fn : Str} (c : Cls X.K C) (hna : NoAttr X.K C fn) (ho : PD X wd o ta) (hv : PD X wd value tv) (hn : ns.contains fn = false := by decide +kernel) (hl : ns.length < 1000 := by decide +kernel)
    (hs : swapsWith value (some (.Attribute o fn pos')) pos.line X.env = pure false := by rfl) : PSD X wd (.Assign [.Attribute o fn pos'] value pos) (dSfldN C ns fn ta tv) := by
  refine ⟨fun pins s σ H F0 ρ S E I r h => ?_⟩
  refine plainObj_wpAny_Assign_Attribute (thn (hv.run pins s σ H F0 ρ S _ I r h) fun u s1 ⟨y, H1, F1, dy, S1, I1, ry, g1, r1, rdy, q⟩ => thn (ho.run pins s1 σ H1 F1 ρ S1 _ I1 r1 q) fun ov s2 ⟨x, H2, F2, d, S2, I2, rx, g2, r2, rd, q2⟩ => ?_) hs
  cases d with
  | adr a =>
    unfold sfldNew at q2
    dsimp only at q2
    split at q2
    · rename_i C' ns' vs hs
      obtain ⟨e1, e2, q⟩ := q2
      subst e1 e2
      unfold R at rd
      subst rd
      obtain rfl : ov = Value.ref a := rx
      obtain ⟨fN, dx, fs, h1, h2, h3⟩ := r2.h.so a _ hs
      have hl2 : fs.length < 1000 := by rw [← List.length_map (f := (·.1)), h2]; exact hl
      obtain ⟨p1, p2⟩ := put_new (f := fn) (v := y) (fs := fs) (by rw [h2]; exact hn)
      exact setattr_ok I2 h1 c hna hl2 ry fun s3 I3 => ⟨σ, _, F2, ρ, _, I3, (g1.trans g2).trans (Go.putS hs), r2.up (Go.putS hs) (r2.h.putS (u := .obj C' (ns' ++ [fn]) (vs ++ [dy])) hs ⟨dx, _, upd_same, by rw [p1, h2], by rw [p2]; exact h3.append (Rs.cons (R.mono g2.ex _ _ rdy) Rs.nil)⟩), q⟩
    · exact q2.elim
  | _ => exact (show False from q2).elim
theorem psd_fldO {ns : List Str} {i : Nat} {fn : Str} (c : Cls X.K C) (hna : NoAttr X.K C fn) (ho : PD X wd o ta) (hv : PD X wd value tv) (hi : ns.findIdx? (· == fn) = some i := by decide +kernel) (hl : ns.length < 1000 := by decide +kernel)
    (hs : swapsWith value (some (.Attribute o fn pos')) pos.line X.env = pure false := by rfl) : PSD X wd (.Assign [.Attribute o fn pos'] value pos) (dSfldO C ns i ta tv) := by
  refine ⟨fun pins s σ H F0 ρ S E I r h => ?_⟩
  refine plainObj_wpAny_Assign_Attribute (thn (hv.run pins s σ H F0 ρ S _ I r h) fun u s1 ⟨y, H1, F1, dy, S1, I1, ry, g1, r1, rdy, q⟩ => thn (ho.run pins s1 σ H1 F1 ρ S1 _ I1 r1 q) fun ov s2 ⟨x, H2, F2, d, S2, I2, rx, g2, r2, rd, q2⟩ => ?_) hs
  cases d with
  | adr a =>
    unfold sfldOld at q2
    dsimp only at q2
    split at q2
    · rename_i C' ns' vs hs
      obtain ⟨e1, e2, q⟩ := q2
      subst e1 e2
      unfold R at rd
      subst rd
      obtain rfl : ov = Value.ref a := rx
      obtain ⟨fN, dx, fs, h1, h2, h3⟩ := r2.h.so a _ hs
      have hl2 : fs.length < 1000 := by rw [← List.length_map (f := (·.1)), h2]; exact hl
      obtain ⟨p1, p2⟩ := put_old (f := fn) (v := y) (fs := fs) (by rw [h2]; exact hi)
      exact setattr_ok I2 h1 c hna hl2 ry fun s3 I3 => ⟨σ, _, F2, ρ, _, I3, (g1.trans g2).trans (Go.putS hs), r2.up (Go.putS hs) (r2.h.putS (u := .obj C' ns' (vs.set i dy)) hs ⟨dx, _, upd_same, by rw [p1, h2], by rw [p2]; exact h3.set (R.mono g2.ex _ _ rdy)⟩), q⟩
    · exact q2.elim
  | _ => exact (show False from q2).elim
end

/-! ### a def's body keeps its promise -/
def wdX (ex : XD) (F H : Hp) (S : Sto) : WD := ⟨fun C x _ S' => ∃ S0, SSub S0 S' ∧ ex C x S0, F, H, S⟩
def endX (k : KD) : EndsD := { nx := fun _ S' => ∃ S0, SSub S0 S' ∧ k .non S0, rt := fun d S' => ∃ S0, SSub S0 S' ∧ k d S0 }
def startD (n : Nat) (ds : List D) : Envd := ds.map some ++ List.replicate (n - ds.length) none
theorem rel_start {K : PySem.W.Frag} {F H : Hp} {S : Sto} {N : List Str} {ds : List D} {vs : List V} {wd : WD} (r : RelH K F H S) (rd : Rs K F ds vs) (g : Go wd.F wd.H wd.S F H S) : Rel K wd F (start N vs) H (startD N.length ds) S := by
  refine ⟨r, fun i d e => ?_, ?_, g⟩
  · unfold startD at e
    have hl := rd.length
    by_cases hi : i < ds.length
    · rw [List.getElem?_append_left (by rw [List.length_map]; exact hi), List.getElem?_map] at e
      cases q : ds[i]? with
      | none => rw [q] at e; cases e
      | some x =>
        rw [q] at e
        cases e
        obtain ⟨v, q1, q2⟩ := rd.get q
        refine ⟨v, ?_, q2⟩
        unfold L2.start
        rw [List.getElem?_append_left (by rw [List.length_map]; omega), List.getElem?_map, q1]; rfl
    · rw [List.getElem?_append_right (by rw [List.length_map]; omega), List.getElem?_replicate] at e
      split at e <;> cases e
  · unfold startD L2.start
    simp only [List.length_append, List.length_map, List.length_replicate, rd.length]
section
variable {P : Program} {w : World} {K : PySem.W.Frag} {mg : Str → Option Value} {base : Heap} {x qual : Str} {params : Arguments} {body : List Stmt} {scope : Scope} {dvs : List V} {kws : List (Str × V)} {f : Addr} {fd : FuncData}
theorem deeper_guards {A : Around} {env : Env} (h : A.guards = some []) : (A.deeper env).guards = some [] := h
/-- the context of a def's body -/
abbrev CxD (P : Program) (w : World) (K : PySem.W.Frag) (mg : Str → Option Value) (base : Heap) (N : List Str) (qual : Str) (scope : Scope) (f : Addr) (cdv : Value) (A : Around) (outer : List Env) (s : Shared) (H : Hp) (E : XK) : Cx := cxOf (L2.CX P w) P w K mg base N qual scope f cdv A outer s H E
theorem fnz_of {N ps : List Str} {k : Nat} {sp : SpD} {t : TSD} (F : FunD K x qual params body scope dvs kws f fd) (Sc : FnScope N ps scope) (len : ∀ ds S kk ex, sp ds S kk ex → ds.length = ps.length)
    (hbody : ∀ (cdv : Value) (A : Around) (outer : List Env) (s : Shared) (H : Hp) (E : XK) (wd : WD), Rm k (CxD P w K mg base N qual scope f cdv A outer s H E).A → TkD (CxD P w K mg base N qual scope f cdv A outer s H E) wd →
      PassesOwn (model P w) (CxD P w K mg base N qual scope f cdv A outer s H E).A (CxD P w K mg base N qual scope f cdv A outer s H E).env (CxD P w K mg base N qual scope f cdv A outer s H E).xe →
      PSsD (CxD P w K mg base N qual scope f cdv A outer s H E) wd body t)
    (vc : ∀ ds S kk ex F H, sp ds S kk ex → t (wdX ex F H S) (endX kk) (startD N.length ds) S) : FnZ P w K mg base (k + 1) f fd ps sp := by
  obtain ⟨oc, od, dV, kV, doc, pm, an, cdv, ct, osl, rfl, lk, hcd, _, _⟩ := F.ex
  refine ⟨len, fun A outer s H args us vs Q E hg hr e0 hb r hsp => ?_⟩
  obtain ⟨F0, S, ds, kk, ex, rH, rds, hs, hQ, hE⟩ := hsp
  have hl : vs.length = ps.length := by rw [rds.length]; exact len _ _ _ _ hs
  have KX : K.In s.heap := e0.mod.kin.keeps fun b o e => (e0.bs b o e).1
  have lim : s.heap.NoLimit := e0.mod.nolimit.keeps fun b o e => (e0.bs b o e).1
  have hkind : ∀ y ∈ ps.zip us, scope.names.lookup y.1 = some .local ∨ (scope.names.lookup y.1 = some .cell ∧ ((cellsFrom (s.heap.objs.size + 1) scope.names []).lookup y.1).isSome = true) := fun ⟨n, v⟩ hy => by
    rcases Sc.par n (List.of_mem_zip hy).1 with q | q
    · exact .inl q
    · exact .inr ⟨q, PySem.W.cellsFrom_some _ _ _ (.inl q)⟩
  refine codeAny_call_function hr.depth (KX _ _ lk) rfl Sc.co Sc.gen rfl (PySem.W.codeRec_of KX hcd) (hb _ _ _ _ ?_)
  refine wpAny_newFunctionEnv_cells Sc.kind hkind fun env he s1 x => ?_
  subst he
  refine ⟨lim.keeps x.toInCall.keep, codeAny_func ?_⟩
  have I : Inv (CxD P w K mg base N qual scope f cdv A outer s H E) [] (start N vs) H s1 := inv_start Sc hr.hd e0 hl r x
  have rel : Rel K (wdX ex F0 H S) F0 (start N vs) H (startD N.length ds) S := rel_start rH rds Go.refl
  have tkk : Takes (CxD P w K mg base N qual scope f cdv A outer s H E) (fun cls d _ H' => E cls d H') := takes_of rfl rfl rfl rfl
  have tk : TkD (CxD P w K mg base N qual scope f cdv A outer s H E) (wdX ex F0 H S) := tk_of (tkk.imp fun cls d σ' H' ⟨F', ρ', S', C, y, e1, r', fl, S0, sub, q⟩ => by
    subst e1
    exact hE F' H' S0 C y d (r'.go.sub sub) (r'.h.sub sub) fl q)
  have hp : PassesOwn (model P w) (CxD P w K mg base N qual scope f cdv A outer s H E).A (CxD P w K mg base N qual scope f cdv A outer s H E).env (CxD P w K mg base N qual scope f cdv A outer s H E).xe := passes_of rfl
  refine wpAny_mono ((hbody cdv A outer s H E _ ⟨deeper_guards hg, hr.deeper _⟩ tk hp).run [] s1 (start N vs) H F0 (startD N.length ds) S (endX kk) I rel (vc ds S kk ex F0 H hs)) (fun fl s' hz => ?_) fun e s' hz => hz
  have fin : ∀ {σ' : L2.St} {H' F' : Hp} {S' : Sto} {v : V} {u : Value} {d : D}, Inv (CxD P w K mg base N qual scope f cdv A outer s H E) [] σ' H' s' → RelV v u → Go F0 H S F' H' S' → RelH K F' H' S' → R K F' d v → (∃ S0, SSub S0 S' ∧ kk d S0) → CE outer P w H s Q u s' :=
    fun {σ' H' F' S' v u d} J rv g rr rd ⟨S0, sub, q⟩ => ⟨v, H', J.os, J.bare, J.base, J.hok, rv, hQ F' v H' d S0 (g.sub sub) (rr.sub sub) rd q⟩
  cases fl with
  | ret u =>
    obtain ⟨v, σ', H', F', d, S', J, rv, g, rr, rd, q⟩ := hz
    exact fin J rv g rr rd q
  | next =>
    obtain ⟨σ', H', F', ρ', S', J, g, rr, q⟩ := hz
    exact fin (v := V.non) (u := Value.none) (d := .non) J rfl g rr.h (by unfold R; rfl) q
  | brk =>
    obtain ⟨_, _, _, _, _, _, _, _, q⟩ := hz
    exact False.elim q
  | cont =>
    obtain ⟨_, _, _, _, _, _, _, _, q⟩ := hz
    exact False.elim q
end
end Z

set_option Elab.async false
set_option linter.all false
set_option maxRecDepth 100000
set_option maxHeartbeats 4000000
namespace Z
open PySem PySem.Spec PyProof.Rows L2

/-! ### what a value holds -/
/-- the items of a list -/
def vl (S : Sto) : D → Option (List D)
  | .lst xs => some xs
  | .frl xs => some xs
  | .adr a => (match S a with | some (.lst xs) => some xs | _ => none)
  | _ => none
/-- the items of a list that is no script -/
def vx (S : Sto) : D → Option (List D)
  | .lst xs => some xs
  | .adr a => (match S a with | some (.lst xs) => some xs | _ => none)
  | _ => none
/-- the items of a list or a tuple -/
def vq (S : Sto) : D → Option (List D)
  | .lst xs => some xs
  | .frl xs => some xs
  | .tup xs => some xs
  | .adr a => (match S a with | some (.lst xs) => some xs | _ => none)
  | _ => none
section
variable {K : PySem.W.Frag} {F H : Hp} {S : Sto} {d : D} {v : V} {xs : List D}
theorem vx_at (r : RelH K F H S) (rd : R K F d v) (h : vx S d = some xs) : ∃ a vs, v = .ref a ∧ H a = some (.lst vs) ∧ Rs K F xs vs := by
  cases d with
  | lst ys =>
    cases h
    unfold R at rd
    obtain ⟨a, vs, e, h1, h2⟩ := rd
    exact ⟨a, vs, e, r.ex _ _ h1, h2⟩
  | adr a =>
    unfold vx at h
    dsimp only at h
    split at h
    · rename_i ys q
      cases h
      unfold R at rd
      obtain ⟨_, vs, h1, h2⟩ := r.so a _ q
      exact ⟨a, vs, rd, h1, h2⟩
    · exact nomatch h
  | _ => exact nomatch h
theorem vl_at (r : RelH K F H S) (rd : R K F d v) (h : vl S d = some xs) : ∃ a vs, v = .ref a ∧ SqL K H a vs ∧ Rs K F xs vs := by
  cases d with
  | lst ys =>
    obtain ⟨a, vs, e, h1, h2⟩ := vx_at r rd (show vx S (.lst ys) = some xs from h)
    exact ⟨a, vs, e, SqL.of h1, h2⟩
  | frl ys =>
    cases h
    unfold R at rd
    obtain ⟨a, vs, e, h1, h2⟩ := rd
    exact ⟨a, vs, e, Evl.ex_l r.ex h1, h2⟩
  | adr a =>
    obtain ⟨a, vs, e, h1, h2⟩ := vx_at r rd (show vx S (.adr a) = some xs from h)
    exact ⟨a, vs, e, SqL.of h1, h2⟩
  | _ => exact nomatch h
theorem vq_at (r : RelH K F H S) (rd : R K F d v) (h : vq S d = some xs) : ∃ a vs, v = .ref a ∧ (SqL K H a vs ∨ SqT K H a vs) ∧ Rs K F xs vs := by
  cases d with
  | tup ys =>
    cases h
    unfold R at rd
    obtain ⟨a, vs, e, h1, h2⟩ := rd
    exact ⟨a, vs, e, .inr (Evl.ex_t r.ex h1), h2⟩
  | lst ys =>
    obtain ⟨a, vs, e, h1, h2⟩ := vl_at r rd (show vl S (.lst ys) = some xs from h)
    exact ⟨a, vs, e, .inl h1, h2⟩
  | frl ys =>
    obtain ⟨a, vs, e, h1, h2⟩ := vl_at r rd (show vl S (.frl ys) = some xs from h)
    exact ⟨a, vs, e, .inl h1, h2⟩
  | adr a =>
    obtain ⟨a, vs, e, h1, h2⟩ := vl_at r rd (show vl S (.adr a) = some xs from h)
    exact ⟨a, vs, e, .inl h1, h2⟩
  | _ => exact nomatch h
theorem tup_at (r : RelH K F H S) (rd : R K F (.tup xs) v) : ∃ a vs, v = .ref a ∧ SqT K H a vs ∧ Rs K F xs vs := by
  unfold R at rd
  obtain ⟨a, vs, e, h1, h2⟩ := rd
  exact ⟨a, vs, e, Evl.ex_t r.ex h1, h2⟩
end
/-- a new list: one of the store, or a tree -/
def mkL (m : Bool) (ds : List D) (S : Sto) (k : KD) : Prop := match m with
  | true => ∀ p, S p = none → k (.adr p) (supd S p (.lst ds))
  | false => k (.lst ds) S
theorem mkL_ok {K : PySem.W.Frag} {F H : Hp} {S : Sto} {m : Bool} {ds : List D} {vs : List V} {k : KD} {Q : VK} {p : Addr} (r : RelH K F H S) (rs : Rs K F ds vs) (hp : H p = none) (h : mkL m ds S k)
    (hk : ∀ F' v H' d' S', Go F H S F' H' S' → RelH K F' H' S' → R K F' d' v → k d' S' → Q v H') : Q (.ref p) (upd H p (.lst vs)) := by
  cases m with
  | true => exact hk F _ _ (.adr p) _ (Go.newS hp) (r.newS (o := .lst vs) (u := .lst ds) hp ⟨vs, upd_same, rs⟩) (by unfold R; rfl) (h p (r.fresh hp).2)
  | false =>
    obtain ⟨n1, n2⟩ := r.newF (o := .lst vs) hp
    exact hk _ _ _ (.lst ds) S (Go.newF n2 hp) n1 (by unfold R; exact ⟨p, vs, rfl, upd_same, Rs.mono n2 _ _ rs⟩) h
theorem mkT_ok {K : PySem.W.Frag} {F H : Hp} {S : Sto} {ds : List D} {vs : List V} {k : KD} {Q : VK} {p : Addr} (r : RelH K F H S) (rs : Rs K F ds vs) (hp : H p = none) (h : k (.tup ds) S)
    (hk : ∀ F' v H' d' S', Go F H S F' H' S' → RelH K F' H' S' → R K F' d' v → k d' S' → Q v H') : Q (.ref p) (upd H p (.tup vs)) := by
  obtain ⟨n1, n2⟩ := r.newF (o := .tup vs) hp
  exact hk _ _ _ (.tup ds) S (Go.newF n2 hp) n1 (by unfold R; exact ⟨p, vs, rfl, SqT.of upd_same, Rs.mono n2 _ _ rs⟩) h
theorem Rs.nil_iff {K : PySem.W.Frag} {F : Hp} {ds : List D} {vs : List V} (h : Rs K F ds vs) : vs = [] ↔ ds = [] := by
  have := h.length
  constructor
  · intro e; subst e; exact List.eq_nil_of_length_eq_zero this.symm
  · intro e; subst e; exact List.eq_nil_of_length_eq_zero this
theorem Rs.ints {K : PySem.W.Frag} {F : Hp} : ∀ {ns : List Int} {vs : List V}, Rs K F (ns.map D.int) vs → vs = ns.map V.int
  | [], vs, h => by rw [List.map_nil] at h; unfold Rs at h; exact h
  | n :: ns, vs, h => by
    rw [List.map_cons] at h
    unfold Rs at h
    obtain ⟨v, vs', e, h1, h2⟩ := h
    unfold R at h1
    rw [e, h1, Rs.ints h2]; rfl
theorem Rs.bls {K : PySem.W.Frag} {F : Hp} : ∀ {ns : List Bool} {vs : List V}, Rs K F (ns.map D.bl) vs → vs = ns.map V.bl
  | [], vs, h => by rw [List.map_nil] at h; unfold Rs at h; exact h
  | n :: ns, vs, h => by
    rw [List.map_cons] at h
    unfold Rs at h
    obtain ⟨v, vs', e, h1, h2⟩ := h
    unfold R at h1
    rw [e, h1, Rs.bls h2]; rfl

/-! ### arithmetic -/
def fAdd (m : Bool) (d e : D) (S : Sto) (k : KD) : Prop := match d, e with
  | .int i, .int j => k (.int (i + j)) S
  | .str a, .str b => a.length + b.length ≤ sizeLine ∧ k (.str (a ++ b)) S
  | .tup xs, .tup ys => xs.length + ys.length ≤ sizeLine ∧ k (.tup (xs ++ ys)) S
  | d, e => match vx S d, vx S e with
    | some xs, some ys => xs.length + ys.length ≤ sizeLine ∧ mkL m (xs ++ ys) S k
    | _, _ => False
def fSub (d e : D) (S : Sto) (k : KD) : Prop := match d, e with | .int i, .int j => k (.int (i - j)) S | _, _ => False
def fMul (m : Bool) (d e : D) (S : Sto) (k : KD) : Prop := match d, e with
  | .int i, .int j => CMul i j ∧ k (.int (i * j)) S
  | d, .int j => (match vx S d with | some xs => -(2 ^ 63) ≤ j ∧ j < 2 ^ 63 ∧ xs.length * j.toNat ≤ sizeLine ∧ mkL m (List.replicate j.toNat xs).flatten S k | none => False)
  | _, _ => False
def fMod (d e : D) (S : Sto) (k : KD) : Prop := match d, e with | .int i, .int j => 0 < j ∧ k (.int (i % j)) S | _, _ => False
def fFdv (d e : D) (S : Sto) (k : KD) : Prop := match d, e with | .int i, .int j => CDiv i j ∧ k (.int (i / j)) S | _, _ => False
def fPow (d e : D) (S : Sto) (k : KD) : Prop := match d, e with | .int i, .int j => CPow i j ∧ k (.int (i ^ j.toNat)) S | _, _ => False
def fCmp (p : Int → Int → Bool) (d e : D) (S : Sto) (k : KD) : Prop := match d, e with | .int i, .int j => k (.bl (p i j)) S | _, _ => False
section
variable {X : Cx}
theorem opd_int {g : Value → Value → Sem Value} {f : D → D → Sto → KD → Prop} {r : Int → Int → V} {q : Int → Int → D} {C : Int → Int → Prop} (ho : OpR X g (rI C r)) (hr : ∀ F i j, R X.K F (q i j) (r i j))
    (hf : ∀ d e S k, f d e S k → ∃ i j, d = .int i ∧ e = .int j ∧ C i j ∧ k (q i j) S) : OpD X g f := by
  intro F H S x y d e k Q rh rd re h hk
  obtain ⟨i, j, e1, e2, c, hk2⟩ := hf d e S k h
  subst e1 e2
  unfold R at rd re
  subst rd re
  exact ⟨_, ho, i, j, rfl, rfl, c, hk F _ H _ S Go.refl rh (hr F i j) hk2⟩
theorem rI_of {g : Value → Value → Sem Value} {r : Int → Int → V} (ho : OpR X g (rI0 r)) : OpR X g (rI (fun _ _ => True) r) := fun pins s σ H x y v u Q I rx ry ⟨i, j, a, b, _, q⟩ => ho pins s σ H x y v u Q I rx ry ⟨i, j, a, b, q⟩
theorem od_sub : OpD X (binaryOp .Sub) fSub := opd_int (q := fun i j => .int (i - j)) (rI_of op_sub) (fun _ _ _ => by unfold R; rfl) fun d e S k h => by
  unfold fSub at h; split at h
  · exact ⟨_, _, rfl, rfl, True.intro, h⟩
  · exact h.elim
theorem od_mod : OpD X (binaryOp .Mod) fMod := opd_int (q := fun i j => .int (i % j)) op_mod (fun _ _ _ => by unfold R; rfl) fun d e S k h => by
  unfold fMod at h; split at h
  · exact ⟨_, _, rfl, rfl, h.1, h.2⟩
  · exact h.elim
theorem od_fdv : OpD X (binaryOp .FloorDiv) fFdv := opd_int (q := fun i j => .int (i / j)) op_fdiv (fun _ _ _ => by unfold R; rfl) fun d e S k h => by
  unfold fFdv at h; split at h
  · exact ⟨_, _, rfl, rfl, h.1, h.2⟩
  · exact h.elim
theorem od_pow : OpD X (binaryOp .Pow) fPow := opd_int (q := fun i j => .int (i ^ j.toNat)) op_pow (fun _ _ _ => by unfold R; rfl) fun d e S k h => by
  unfold fPow at h; split at h
  · exact ⟨_, _, rfl, rfl, h.1, h.2⟩
  · exact h.elim
theorem od_cmp {op : CmpOp} {p : Int → Int → Bool} (ho : OpR X (compareOp op) (rI0 fun i j => .bl (p i j))) : OpD X (compareOp op) (fCmp p) := opd_int (q := fun i j => .bl (p i j)) (rI_of ho) (fun _ _ _ => by unfold R; rfl) fun d e S k h => by
  unfold fCmp at h; split at h
  · exact ⟨_, _, rfl, rfl, True.intro, h⟩
  · exact h.elim
theorem od_lt : OpD X (compareOp .Lt) (fCmp fun i j => decide (i < j)) := od_cmp op_lt
theorem od_le : OpD X (compareOp .LtE) (fCmp fun i j => decide (i ≤ j)) := od_cmp op_le
theorem od_gt : OpD X (compareOp .Gt) (fCmp fun i j => decide (j < i)) := od_cmp op_gt
theorem od_ge : OpD X (compareOp .GtE) (fCmp fun i j => decide (j ≤ i)) := od_cmp op_ge
theorem od_add (m : Bool) : OpD X (binaryOp .Add) (fAdd m) := by
  intro F H S x y d e k Q rh rd re h hk
  have lists : ∀ xs ys, vx S d = some xs → vx S e = some ys → xs.length + ys.length ≤ sizeLine ∧ mkL m (xs ++ ys) S k → ∃ r, OpR X (binaryOp .Add) r ∧ r x y H Q := by
    intro xs ys q1 q2 h
    obtain ⟨a, vs, e1, h1, r1⟩ := vx_at rh rd q1
    obtain ⟨b, ws, e2, h2, r2⟩ := vx_at rh re q2
    exact ⟨_, op_cat, a, b, vs, ws, e1, e2, h1, h2, by rw [r1.length, r2.length]; exact h.1, fun p hp => mkL_ok rh (r1.append r2) hp h.2 hk⟩
  unfold fAdd at h
  split at h
  · unfold R at rd re
    subst rd re
    exact ⟨_, op_add, _, _, rfl, rfl, hk F _ H _ S Go.refl rh (by unfold R; rfl) h⟩
  · unfold R at rd re
    subst rd re
    exact ⟨_, op_add_str, _, _, rfl, rfl, h.1, hk F _ H _ S Go.refl rh (by unfold R; rfl) h.2⟩
  · rename_i xs ys
    obtain ⟨a, vs, e1, h1, r1⟩ := tup_at rh rd
    obtain ⟨b, ws, e2, h2, r2⟩ := tup_at rh re
    refine ⟨_, op_catA, a, b, vs, ws, e1, e2, h1, h2, by rw [r1.length, r2.length]; exact h.1, fun z => ?_, fun _ z => ?_, fun _ _ p hp => mkT_ok rh (r1.append r2) hp h.2 hk⟩
    · have z2 : xs = [] := r1.nil_iff.mp z
      subst z2
      exact hk F _ H (.tup ys) S Go.refl rh (by rw [← e2]; exact re) h.2
    · have z2 : ys = [] := r2.nil_iff.mp z
      subst z2
      exact hk F _ H (.tup xs) S Go.refl rh (by rw [← e1]; exact rd) (by have := h.2; rwa [List.append_nil] at this)
  · split at h
    · rename_i xs ys q1 q2
      exact lists xs ys q1 q2 h
    · exact h.elim
theorem od_mul (m : Bool) : OpD X (binaryOp .Mult) (fMul m) := by
  intro F H S x y d e k Q rh rd re h hk
  unfold fMul at h
  split at h
  · unfold R at rd re
    subst rd re
    exact ⟨_, op_mul, _, _, rfl, rfl, h.1, hk F _ H _ S Go.refl rh (by unfold R; rfl) h.2⟩
  · rename_i j _
    split at h
    · rename_i xs q1
      obtain ⟨a, vs, e1, h1, r1⟩ := vx_at rh rd q1
      unfold R at re
      subst re
      refine ⟨_, op_rep, a, j, vs, e1, rfl, h1, h.1, h.2.1, by rw [r1.length]; exact h.2.2.1, fun p hp => mkL_ok rh ?_ hp h.2.2.2 hk⟩
      induction j.toNat with
      | zero => exact Rs.nil
      | succ n ih => rw [List.replicate_succ, List.replicate_succ, List.flatten_cons, List.flatten_cons]; exact r1.append ih
    · exact h.elim
  · exact h.elim
end

/-! ### None, truth -/
def isN : D → Bool
  | .non => true
  | _ => false
def fIs (d e : D) (S : Sto) (k : KD) : Prop := match d, e with
  | d, .non => k (.bl (isN d)) S
  | .bl a, .bl b => k (.bl (a == b)) S
  | _, _ => False
def fIsNot (d e : D) (S : Sto) (k : KD) : Prop := match d, e with
  | d, .non => k (.bl (!isN d)) S
  | .bl a, .bl b => k (.bl (!(a == b))) S
  | _, _ => False
theorem isN_at {K : PySem.W.Frag} {F : Hp} {d : D} {v : V} (rd : R K F d v) : decide (v = .non) = isN d := by
  cases d with
  | non => unfold R at rd; subst rd; rfl
  | bl => unfold R at rd; subst rd; rfl
  | int => unfold R at rd; subst rd; rfl
  | str => unfold R at rd; subst rd; rfl
  | ty => unfold R at rd; subst rd; rfl
  | adr => unfold R at rd; subst rd; rfl
  | tup => unfold R at rd; obtain ⟨a, vs, e, _⟩ := rd; subst e; rfl
  | lst => unfold R at rd; obtain ⟨a, vs, e, _⟩ := rd; subst e; rfl
  | frl => unfold R at rd; obtain ⟨a, vs, e, _⟩ := rd; subst e; rfl
  | dic => unfold R at rd; obtain ⟨a, vs, e, _⟩ := rd; subst e; rfl
  | set => unfold R at rd; obtain ⟨a, vs, e, _⟩ := rd; subst e; rfl
  | obj => unfold R at rd; obtain ⟨a, dx, fs, e, _⟩ := rd; subst e; rfl
  | dlk => unfold R at rd; obtain ⟨a, o, vs, e, _⟩ := rd; subst e; rfl
  | tab => unfold R at rd; obtain ⟨a, e⟩ := rd; subst e; rfl
  | clo => unfold R at rd; obtain ⟨e, _⟩ := rd; subst e; rfl
section
variable {X : Cx}
theorem od_is : OpD X (compareOp .Is) fIs := by
  intro F H S x y d e k Q rh rd re h hk
  unfold fIs at h
  split at h
  · unfold R at re
    subst re
    exact ⟨_, op_isN, rfl, hk F _ H (.bl (isN d)) S Go.refl rh (by unfold R; rw [isN_at rd]) h⟩
  · unfold R at rd re
    subst rd re
    exact ⟨_, op_isBl, _, _, rfl, rfl, hk F _ H _ S Go.refl rh (by unfold R; rfl) h⟩
  · exact h.elim
theorem od_isNot : OpD X (compareOp .IsNot) fIsNot := by
  intro F H S x y d e k Q rh rd re h hk
  unfold fIsNot at h
  split at h
  · unfold R at re
    subst re
    exact ⟨_, op_notN, rfl, hk F _ H (.bl (!isN d)) S Go.refl rh (by unfold R; rw [isN_at rd]) h⟩
  · unfold R at rd re
    subst rd re
    exact ⟨_, op_notBl, _, _, rfl, rfl, hk F _ H _ S Go.refl rh (by unfold R; rfl) h⟩
  · exact h.elim
end

/-! ### == and in, by data -/
mutual
def toPy : D → PyData
  | .non => .none
  | .bl b => .bool b
  | .int i => .int i
  | .str x => .str x
  | .tup xs => .tuple (toPys xs)
  | .lst xs => .list (toPys xs)
  | .frl xs => .list (toPys xs)
  | _ => .none
def toPys : List D → List PyData
  | [] => []
  | x :: xs => toPy x :: toPys xs
end
theorem toPys_eq (xs : List D) : toPys xs = xs.map toPy := by
  induction xs with
  | nil => rfl
  | cons x xs ih => unfold toPys; rw [ih]; rfl
/-- plain data, at most n deep -/
def pln : Nat → D → Prop
  | _, .non => True
  | _, .bl _ => True
  | _, .int _ => True
  | _, .str _ => True
  | n + 1, .tup xs => ∀ x ∈ xs, pln n x
  | n + 1, .lst xs => ∀ x ∈ xs, pln n x
  | _, _ => False
theorem pln_dep : ∀ (n : Nat) (d : D), pln n d → (toPy d).plain = true ∧ (toPy d).depth ≤ n := by
  have all : ∀ (n : Nat), (∀ d, pln n d → (toPy d).plain = true ∧ (toPy d).depth ≤ n) → ∀ xs : List D, (∀ x ∈ xs, pln n x) → PyData.plainAll (toPys xs) = true ∧ PyData.depthAll (toPys xs) ≤ n := by
    intro n ih xs
    induction xs with
    | nil => intro _; exact ⟨rfl, Nat.zero_le _⟩
    | cons x xs ih2 =>
      intro h
      obtain ⟨a, b⟩ := ih x (h x List.mem_cons_self)
      obtain ⟨c, d⟩ := ih2 fun y hy => h y (List.mem_cons_of_mem _ hy)
      unfold toPys
      refine ⟨by unfold PyData.plainAll; rw [a, c]; rfl, ?_⟩
      unfold PyData.depthAll
      exact Nat.max_le.mpr ⟨b, d⟩
  intro n
  induction n with
  | zero =>
    intro d h
    cases d with
    | non => exact ⟨rfl, Nat.le_refl _⟩
    | bl => exact ⟨rfl, Nat.le_refl _⟩
    | int => exact ⟨rfl, Nat.le_refl _⟩
    | str => exact ⟨rfl, Nat.le_refl _⟩
    | _ => unfold pln at h; exact h.elim
  | succ n ih =>
    intro d h
    cases d with
    | non => exact ⟨rfl, Nat.zero_le _⟩
    | bl => exact ⟨rfl, Nat.zero_le _⟩
    | int => exact ⟨rfl, Nat.zero_le _⟩
    | str => exact ⟨rfl, Nat.zero_le _⟩
    | lst xs =>
      unfold pln at h
      obtain ⟨a, b⟩ := all n ih xs h
      unfold toPy
      exact ⟨a, by unfold PyData.depth; omega⟩
    | tup xs =>
      unfold pln at h
      obtain ⟨a, b⟩ := all n ih xs h
      unfold toPy
      exact ⟨a, by unfold PyData.depth; omega⟩
    | _ => unfold pln at h; exact h.elim
/-- plain data, read -/
theorem pln_dp {K : PySem.W.Frag} {F H : Hp} (ex : Ex F H) : ∀ (n : Nat) (d : D) (v : V), pln n d → R K F d v → Dp K H v (toPy d) := by
  have all : ∀ (n : Nat), (∀ d v, pln n d → R K F d v → Dp K H v (toPy d)) → ∀ (xs : List D) (vs : List V), (∀ x ∈ xs, pln n x) → Rs K F xs vs → DpAll K H vs (toPys xs) := by
    intro n ih xs
    induction xs with
    | nil => intro vs _ r; unfold Rs at r; subst r; exact .nil
    | cons x xs ih2 =>
      intro vs h r
      unfold Rs at r
      obtain ⟨v, vs', e, h1, h2⟩ := r
      subst e
      exact .cons (ih x v (h x List.mem_cons_self) h1) (ih2 vs' (fun y hy => h y (List.mem_cons_of_mem _ hy)) h2)
  intro n
  induction n with
  | zero =>
    intro d v h r
    cases d with
    | non => unfold R at r; subst r; exact .non
    | bl => unfold R at r; subst r; exact .bl _
    | int => unfold R at r; subst r; exact .int _
    | str => unfold R at r; subst r; exact .str _
    | _ => unfold pln at h; exact h.elim
  | succ n ih =>
    intro d v h r
    cases d with
    | non => unfold R at r; subst r; exact .non
    | bl => unfold R at r; subst r; exact .bl _
    | int => unfold R at r; subst r; exact .int _
    | str => unfold R at r; subst r; exact .str _
    | lst xs =>
      unfold pln at h
      unfold R at r
      obtain ⟨a, vs, e, h1, h2⟩ := r
      subst e
      exact .lst (SqL.of (ex _ _ h1)) (all n ih xs vs h h2)
    | tup xs =>
      unfold pln at h
      unfold R at r
      obtain ⟨a, vs, e, h1, h2⟩ := r
      subst e
      exact .tup (Evl.ex_t ex h1) (all n ih xs vs h h2)
    | _ => unfold pln at h; exact h.elim
/-- what stands there, one step into the store -/
def tr (S : Sto) : D → D
  | .adr a => (match S a with | some u => u.toD | none => .adr a)
  | d => d
theorem tr_dp {K : PySem.W.Frag} {F H : Hp} {S : Sto} {n : Nat} {d : D} {v : V} (r : RelH K F H S) (rd : R K F d v) (h : pln n (tr S d)) : Dp K H v (toPy (tr S d)) := by
  cases d with
  | adr a =>
    cases q : S a with
    | none =>
      have e : tr S (.adr a) = .adr a := by unfold tr; dsimp only; rw [q]
      rw [e] at h
      cases n <;> (unfold pln at h; exact h.elim)
    | some u =>
      have e : tr S (.adr a) = u.toD := by unfold tr; dsimp only; rw [q]
      rw [e] at h ⊢
      obtain ⟨F', g, r', rd'⟩ := r.frz q
      unfold R at rd
      subst rd
      exact pln_dp r'.ex n _ _ h rd'
  | _ => exact pln_dp r.ex n _ _ h rd
def deq (d e : D) : Bool := PyData.eqv (toPy d) (toPy e)
def fEq (d e : D) (S : Sto) (k : KD) : Prop := pln 60 (tr S d) ∧ pln 60 (tr S e) ∧ k (.bl (deq (tr S d) (tr S e))) S
def fNe (d e : D) (S : Sto) (k : KD) : Prop := pln 60 (tr S d) ∧ pln 60 (tr S e) ∧ k (.bl (!deq (tr S d) (tr S e))) S
/-- the items of a list (no script) or a tuple -/
def vi (S : Sto) : D → Option (List D)
  | .lst xs => some xs
  | .tup xs => some xs
  | .adr a => (match S a with | some (.lst xs) => some xs | _ => none)
  | _ => none
def fIn (d e : D) (S : Sto) (k : KD) : Prop := match vi S e with | some xs => pln 60 (tr S d) ∧ (∀ x ∈ xs, pln 59 x) ∧ k (.bl (xs.any fun y => deq y (tr S d))) S | none => False
def fNotIn (d e : D) (S : Sto) (k : KD) : Prop := match vi S e with | some xs => pln 60 (tr S d) ∧ (∀ x ∈ xs, pln 59 x) ∧ k (.bl (!xs.any fun y => deq y (tr S d))) S | none => False
section
variable {X : Cx}
theorem units_of {k : Nat} (hr : Rm k X.A) : X.A.units + 200 < cLine := by have := hr.r.un; omega
theorem od_eq {kk : Nat} (hr : Rm kk X.A) : OpD X (compareOp .Eq) fEq := by
  intro F H S x y d e k Q rh rd re h hk
  obtain ⟨h1, h2, h⟩ := h
  obtain ⟨p1, d1⟩ := pln_dep _ _ h1
  obtain ⟨p2, d2⟩ := pln_dep _ _ h2
  refine ⟨fun x y H Q => ∃ a b, Dp X.K H x a ∧ Dp X.K H y b ∧ a.plain = true ∧ b.plain = true ∧ a.depth ≤ 60 ∧ Q (.bl (PyData.eqv a b)) H, ?_, _, _, tr_dp rh rd h1, tr_dp rh re h2, p1, p2, d1, hk F _ H (.bl (deq (tr S d) (tr S e))) S Go.refl rh (by unfold R; rfl) h⟩
  intro pins s σ H x y v u Q I rx ry ⟨a, b, ha, hb, pa, pb, da, q⟩
  obtain ⟨as, r1⟩ := Dp.reads I a x v ha rx
  obtain ⟨bs, r2⟩ := Dp.reads I b y u hb ry
  have := units_of hr
  have hm : min a.depth b.depth ≤ a.depth := Nat.min_le_left _ _
  exact SeqAt.eq_plain r1 r2 pa pb (by omega) ⟨.bl _, H, I, rfl, q⟩
theorem od_ne {kk : Nat} (hr : Rm kk X.A) : OpD X (compareOp .NotEq) fNe := by
  intro F H S x y d e k Q rh rd re h hk
  obtain ⟨h1, h2, h⟩ := h
  obtain ⟨p1, d1⟩ := pln_dep _ _ h1
  obtain ⟨p2, d2⟩ := pln_dep _ _ h2
  refine ⟨fun x y H Q => ∃ a b, Dp X.K H x a ∧ Dp X.K H y b ∧ a.plain = true ∧ b.plain = true ∧ a.depth ≤ 60 ∧ Q (.bl (!PyData.eqv a b)) H, ?_, _, _, tr_dp rh rd h1, tr_dp rh re h2, p1, p2, d1, hk F _ H (.bl (!deq (tr S d) (tr S e))) S Go.refl rh (by unfold R; rfl) h⟩
  intro pins s σ H x y v u Q I rx ry ⟨a, b, ha, hb, pa, pb, da, q⟩
  obtain ⟨as, r1⟩ := Dp.reads I a x v ha rx
  obtain ⟨bs, r2⟩ := Dp.reads I b y u hb ry
  have := units_of hr
  have hm : min a.depth b.depth ≤ a.depth := Nat.min_le_left _ _
  exact SeqAt.ne_plain r1 r2 pa pb (by omega) ⟨.bl _, H, I, rfl, q⟩
theorem plnAll {xs : List D} {n : Nat} (h : ∀ x ∈ xs, pln n x) : PyData.plainAll (toPys xs) = true ∧ PyData.depthAll (toPys xs) ≤ n := by
  have h2 : pln (n + 1) (.lst xs) := by unfold pln; exact h
  obtain ⟨a, b⟩ := pln_dep _ _ h2
  unfold toPy at a b
  unfold PyData.depth at b
  exact ⟨a, by omega⟩
theorem anyPy (xs : List D) (d : D) : ((toPys xs).any fun y => PyData.eqv y (toPy d)) = xs.any fun y => deq y d := by
  rw [toPys_eq, List.any_map]; rfl
def rInX (X : Cx) (neg : Bool) : R2 := fun x y H Q => ∃ (b : PyData) (as : List PyData), (Dp X.K H y (.list as) ∨ Dp X.K H y (.tuple as)) ∧ Dp X.K H x b ∧ PyData.plainAll as = true ∧ b.plain = true ∧ b.depth ≤ 60 ∧ Q (.bl (if neg then !as.any fun z => PyData.eqv z b else as.any fun z => PyData.eqv z b)) H
theorem vq_dp {K : PySem.W.Frag} {F H : Hp} {S : Sto} {d : D} {v : V} {xs : List D} (r : RelH K F H S) (rd : R K F d v) (h : vi S d = some xs) (hp : ∀ x ∈ xs, pln 59 x) : Dp K H v (.list (toPys xs)) ∨ Dp K H v (.tuple (toPys xs)) := by
  cases d with
  | lst ys =>
    cases h
    refine .inl ?_
    have := tr_dp (n := 60) (S := S) r rd (show pln 60 (.lst xs) from hp)
    exact this
  | tup ys =>
    cases h
    refine .inr ?_
    have := tr_dp (n := 60) (S := S) r rd (show pln 60 (.tup xs) from hp)
    exact this
  | adr a =>
    unfold vi at h
    dsimp only at h
    split at h
    · rename_i ys q
      cases h
      have e : tr S (.adr a) = .lst xs := by unfold tr; dsimp only; rw [q]; rfl
      have := tr_dp (n := 60) (S := S) r rd (by rw [e]; exact hp)
      rw [e] at this
      exact .inl this
    · exact nomatch h
  | _ => exact nomatch h
theorem op_inX {kk : Nat} (hr : Rm kk X.A) : OpR X (compareOp .In) (rInX X false) := by
  intro pins s σ H x y v u Q I rx ry ⟨b, as, hl, hb, pa, pb, db, q⟩
  obtain ⟨bs, r2⟩ := Dp.reads I b x v hb rx
  have := units_of hr
  have hm : min (PyData.depthAll as) b.depth ≤ b.depth := Nat.min_le_right _ _
  rcases hl with hl | hl
  · obtain ⟨cs, r1⟩ := Dp.reads I _ y u hl ry
    exact SeqAt.in_list_data r1 r2 pa pb (by omega) ⟨.bl _, H, I, rfl, q⟩
  · obtain ⟨cs, r1⟩ := Dp.reads I _ y u hl ry
    exact SeqAt.in_tuple_data r1 r2 pa pb (by omega) ⟨.bl _, H, I, rfl, q⟩
theorem op_notInX {kk : Nat} (hr : Rm kk X.A) : OpR X (compareOp .NotIn) (rInX X true) := by
  intro pins s σ H x y v u Q I rx ry ⟨b, as, hl, hb, pa, pb, db, q⟩
  obtain ⟨bs, r2⟩ := Dp.reads I b x v hb rx
  have := units_of hr
  have hm : min (PyData.depthAll as) b.depth ≤ b.depth := Nat.min_le_right _ _
  rcases hl with hl | hl
  · obtain ⟨cs, r1⟩ := Dp.reads I _ y u hl ry
    exact SeqAt.notIn_list_data r1 r2 pa pb (by omega) ⟨.bl _, H, I, rfl, q⟩
  · obtain ⟨cs, r1⟩ := Dp.reads I _ y u hl ry
    exact SeqAt.notIn_tuple_data r1 r2 pa pb (by omega) ⟨.bl _, H, I, rfl, q⟩
theorem od_in {kk : Nat} (hr : Rm kk X.A) : OpD X (compareOp .In) fIn := by
  intro F H S x y d e k Q rh rd re h hk
  unfold fIn at h
  split at h
  · rename_i xs q
    obtain ⟨h1, h2, h⟩ := h
    obtain ⟨p1, d1⟩ := pln_dep _ _ h1
    obtain ⟨p2, d2⟩ := plnAll h2
    exact ⟨_, op_inX hr, _, _, vq_dp rh re q h2, tr_dp rh rd h1, p2, p1, d1, hk F _ H (.bl (xs.any fun y => deq y (tr S d))) S Go.refl rh (by rw [anyPy]; unfold R; rfl) h⟩
  · exact h.elim
theorem od_notIn {kk : Nat} (hr : Rm kk X.A) : OpD X (compareOp .NotIn) fNotIn := by
  intro F H S x y d e k Q rh rd re h hk
  unfold fNotIn at h
  split at h
  · rename_i xs q
    obtain ⟨h1, h2, h⟩ := h
    obtain ⟨p1, d1⟩ := pln_dep _ _ h1
    obtain ⟨p2, d2⟩ := plnAll h2
    exact ⟨_, op_notInX hr, _, _, vq_dp rh re q h2, tr_dp rh rd h1, p2, p1, d1, hk F _ H (.bl (!xs.any fun y => deq y (tr S d))) S Go.refl rh (by rw [anyPy]; unfold R; rfl) h⟩
  · exact h.elim
end
end Z

set_option Elab.async false
set_option linter.all false
set_option maxRecDepth 100000
set_option maxHeartbeats 4000000
namespace Z
open PySem PySem.Spec PyProof.Rows L2

/-! ### calls of built-in functions and types -/
def ClD (X : Cx) (f : Value) (g : List D → Sto → KD → Prop) : Prop :=
  ∀ (F H : Hp) (S : Sto) (vs : List V) (ds : List D) (k : KD) (Q : VK), RelH X.K F H S → Rs X.K F ds vs → g ds S k →
    (∀ F' v H' d' S', Go F H S F' H' S' → RelH X.K F' H' S' → R X.K F' d' v → k d' S' → Q v H') → ∃ r, CallR X f r ∧ r vs H Q
def dCB (g : List D → Sto → KD → Prop) (t : TAD) : TD := fun wd ρ S k => t wd ρ S fun ds S1 => g ds S1 k
theorem callR_any {X : Cx} {f : Value} : CallR X f (fun xs H Q => ∃ r, CallR X f r ∧ r xs H Q) := fun pins s σ H xs us Q I rv ⟨r, hr, q⟩ => hr pins s σ H xs us Q I rv q
section
variable {X : Cx} {wd : WD} {x : Str} {p pos : Pos} {e : Expr} {es : List Expr} {t : TAD} {id T : String} {g : List D → Sto → KD → Prop}
theorem cb_in {f : Value} (hc : ClD X f g) {σ : L2.St} {H F : Hp} {ρ : Envd} {S : Sto} {k : KD} (r : Rel X.K wd F σ H ρ S) (h : dCB g t wd ρ S k) :
    tCB (fun xs H Q => ∃ r, CallR X f r ∧ r xs H Q) (liftA X.K wd (t wd)) σ H fun v H' => ∃ F' d S', Go F H S F' H' S' ∧ Rel X.K wd F' σ H' ρ S' ∧ R X.K F' d v ∧ k d S' :=
  ⟨F, ρ, S, _, r, h, fun F1 vs H1 ds S1 g1 r1 rs q => hc F1 H1 S1 vs ds k _ r1.h rs q fun F2 v H2 d S2 g2 r2 rd hk => ⟨F2, d, S2, g1.trans g2, r1.up g2 r2, rd, hk⟩⟩
theorem pd_callB (hc : ClD X (.builtin id) g) (ha : PAD X wd (e :: es) t) (hm : X.mg x = none) (hg : Gl X x := by rfl) (hv : bootBuiltins x = some (.builtin id) := by first | rfl | decide +kernel) (hn : x ≠ "__name__" := by decide) (hdb : (x == ("__debug__" : Str)) = false := by decide)
    (he : starEach (e :: es) X.env = (false, eval e X.env) :: starEach es X.env := by rfl) (hpl : (backTo pos (starEach es X.env)).any (·.1) = false := by rfl) : PD X wd (.Call (.Name x p) (e :: es) [] pos) (dCB g t) :=
  PE.pd (pe_callB callR_any hg hm hv ha.pa hn hdb he hpl) fun σ H F ρ S k r h => cb_in hc r h
theorem pd_callTy (hc : ClD X (.type T) g) (ha : PAD X wd (e :: es) t) (hm : X.mg x = none) (hg : Gl X x := by rfl) (hv : bootBuiltins x = some (.type T) := by first | rfl | decide +kernel) (hn : x ≠ "__name__" := by decide) (hdb : (x == ("__debug__" : Str)) = false := by decide)
    (he : starEach (e :: es) X.env = (false, eval e X.env) :: starEach es X.env := by rfl) (hpl : (backTo pos (starEach es X.env)).any (·.1) = false := by rfl) : PD X wd (.Call (.Name x p) (e :: es) [] pos) (dCB g t) :=
  PE.pd (pe_callTy callR_any hg hm hv ha.pa hn hdb he hpl) fun σ H F ρ S k r h => cb_in hc r h
end
theorem Rs.one {K : PySem.W.Frag} {F : Hp} {d : D} {vs : List V} (h : Rs K F [d] vs) : ∃ v, vs = [v] ∧ R K F d v := by
  unfold Rs at h
  obtain ⟨v, vs', e, h1, h2⟩ := h
  unfold Rs at h2
  subst h2
  exact ⟨v, e, h1⟩
theorem Rs.two {K : PySem.W.Frag} {F : Hp} {d d' : D} {vs : List V} (h : Rs K F [d, d'] vs) : ∃ v w, vs = [v, w] ∧ R K F d v ∧ R K F d' w := by
  unfold Rs at h
  obtain ⟨v, vs', e, h1, h2⟩ := h
  obtain ⟨w, e2, h3⟩ := h2.one
  exact ⟨v, w, by rw [e, e2], h1, h3⟩
/-- intsOf, truth values of a list -/
def intsOf : List D → Option (List Int)
  | [] => some []
  | .int i :: ds => (intsOf ds).map (i :: ·)
  | _ :: _ => none
def blsOf : List D → Option (List Bool)
  | [] => some []
  | .bl i :: ds => (blsOf ds).map (i :: ·)
  | _ :: _ => none
theorem ints_map (ns : List Int) : intsOf (ns.map D.int) = some ns := by
  induction ns with
  | nil => rfl
  | cons n ns ih => rw [List.map_cons]; unfold intsOf; rw [ih]; rfl
theorem bls_map (ns : List Bool) : blsOf (ns.map D.bl) = some ns := by
  induction ns with
  | nil => rfl
  | cons n ns ih => rw [List.map_cons]; unfold blsOf; rw [ih]; rfl
theorem intsOf_eq : ∀ {ds : List D} {ns : List Int}, intsOf ds = some ns → ds = ns.map D.int
  | [], ns, h => by unfold intsOf at h; cases h; rfl
  | .int i :: ds, ns, h => by
    unfold intsOf at h
    rw [Option.map_eq_some_iff] at h
    obtain ⟨ms, e1, e2⟩ := h
    subst e2
    rw [intsOf_eq e1]; rfl
  | .non :: _, _, h => nomatch h
  | .bl _ :: _, _, h => nomatch h
  | .str _ :: _, _, h => nomatch h
  | .ty _ :: _, _, h => nomatch h
  | .adr _ :: _, _, h => nomatch h
  | .tup _ :: _, _, h => nomatch h
  | .lst _ :: _, _, h => nomatch h
  | .frl _ :: _, _, h => nomatch h
  | .dic _ _ :: _, _, h => nomatch h
  | .set _ :: _, _, h => nomatch h
  | .obj _ _ _ :: _, _, h => nomatch h
theorem blsOf_eq : ∀ {ds : List D} {ns : List Bool}, blsOf ds = some ns → ds = ns.map D.bl
  | [], ns, h => by unfold blsOf at h; cases h; rfl
  | .bl i :: ds, ns, h => by
    unfold blsOf at h
    rw [Option.map_eq_some_iff] at h
    obtain ⟨ms, e1, e2⟩ := h
    subst e2
    rw [blsOf_eq e1]; rfl
  | .non :: _, _, h => nomatch h
  | .int _ :: _, _, h => nomatch h
  | .str _ :: _, _, h => nomatch h
  | .ty _ :: _, _, h => nomatch h
  | .adr _ :: _, _, h => nomatch h
  | .tup _ :: _, _, h => nomatch h
  | .lst _ :: _, _, h => nomatch h
  | .frl _ :: _, _, h => nomatch h
  | .dic _ _ :: _, _, h => nomatch h
  | .set _ :: _, _, h => nomatch h
  | .obj _ _ _ :: _, _, h => nomatch h
def cLen (ds : List D) (S : Sto) (k : KD) : Prop := match ds with
  | [.str z] => z.length ≤ sizeLine ∧ k (.int z.length) S
  | [d] => (match vq S d with | some xs => k (.int xs.length) S | none => False)
  | _ => False
def cList (m : Bool) (ds : List D) (S : Sto) (k : KD) : Prop := match ds with | [d] => (match vq S d with | some xs => mkL m xs S k | none => False) | _ => False
def cTup (ds : List D) (S : Sto) (k : KD) : Prop := match ds with | [.tup xs] => k (.tup xs) S | [d] => (match vl S d with | some xs => k (.tup xs) S | none => False) | _ => False
def cAbs (ds : List D) (S : Sto) (k : KD) : Prop := match ds with | [.int i] => k (.int (if i < 0 then -i else i)) S | _ => False
def cMax2 (ds : List D) (S : Sto) (k : KD) : Prop := match ds with | [.int i, .int j] => k (.int (if j > i then j else i)) S | _ => False
def cMin2 (ds : List D) (S : Sto) (k : KD) : Prop := match ds with | [.int i, .int j] => k (.int (if j < i then j else i)) S | _ => False
def cInt (ds : List D) (S : Sto) (k : KD) : Prop := match ds with | [.int i] => k (.int i) S | [.bl b] => k (.int (if b then 1 else 0)) S | _ => False
def cBool (ds : List D) (S : Sto) (k : KD) : Prop := match ds with | [.int i] => k (.bl (i != 0)) S | [.bl b] => k (.bl b) S | [d] => (match vl S d with | some xs => k (.bl (!xs.isEmpty)) S | none => False) | _ => False
def cStr (ds : List D) (S : Sto) (k : KD) : Prop := match ds with | [.int i] => i.natAbs.log2 < 1920 ∧ k (.str (toString i)) S | _ => False
/-- over the intsOf, the truth values of a list -/
def onInts (f : List Int → Sto → KD → Prop) (ds : List D) (S : Sto) (k : KD) : Prop := match ds with | [d] => (match (vl S d).bind intsOf with | some ns => f ns S k | none => False) | _ => False
def onBls (f : List Bool → Sto → KD → Prop) (ds : List D) (S : Sto) (k : KD) : Prop := match ds with | [d] => (match (vl S d).bind blsOf with | some ns => f ns S k | none => False) | _ => False
def cSum : List D → Sto → KD → Prop := onInts fun ns S k => k (.int ns.sum) S
def cMax : List D → Sto → KD → Prop := onInts fun ns S k => ns ≠ [] ∧ ∀ m ∈ ns, (∀ y ∈ ns, y ≤ m) → k (.int m) S
def cMin : List D → Sto → KD → Prop := onInts fun ns S k => ns ≠ [] ∧ ∀ m ∈ ns, (∀ y ∈ ns, m ≤ y) → k (.int m) S
def cSorted (m : Bool) : List D → Sto → KD → Prop := onInts fun ns S k => ∀ ms : List Int, ms.Perm ns → ms.Pairwise (· ≤ ·) → mkL m (ms.map D.int) S k
def cAll : List D → Sto → KD → Prop := onBls fun bs S k => k (.bl (bs.all id)) S
def cAny : List D → Sto → KD → Prop := onBls fun bs S k => k (.bl (bs.any id)) S
theorem Rs.of_ints {K : PySem.W.Frag} {F : Hp} (ns : List Int) : Rs K F (ns.map D.int) (ns.map V.int) := by
  induction ns with
  | nil => exact Rs.nil
  | cons n ns ih => exact Rs.cons (by unfold R; rfl) ih
section
variable {X : Cx}
theorem cd_len : ClD X (.builtin "len") cLen := by
  intro F H S vs ds k Q rh rs h hk
  unfold cLen at h
  split at h
  · obtain ⟨v, rfl, rd⟩ := rs.one
    unfold R at rd
    subst rd
    exact ⟨_, call_len_str, _, rfl, h.1, hk F _ H (.int _) S Go.refl rh (by unfold R; rfl) h.2⟩
  · obtain ⟨v, rfl, rd⟩ := rs.one
    split at h
    · rename_i xs q
      obtain ⟨a, ws, e, h1, r1⟩ := vq_at rh rd q
      exact ⟨_, call_len_seq, a, ws, by rw [e], h1, hk F _ H (.int xs.length) S Go.refl rh (by unfold R; rw [r1.length]) h⟩
    · exact h.elim
  · exact h.elim
theorem cd_list (m : Bool) : ClD X (.type "list") (cList m) := by
  intro F H S vs ds k Q rh rs h hk
  unfold cList at h
  split at h
  · obtain ⟨v, rfl, rd⟩ := rs.one
    split at h
    · rename_i xs q
      obtain ⟨a, ws, e, h1, r1⟩ := vq_at rh rd q
      exact ⟨_, call_list_of, a, ws, by rw [e], h1, fun l hl => mkL_ok rh r1 hl h hk⟩
    · exact h.elim
  · exact h.elim
theorem cd_tup : ClD X (.type "tuple") cTup := by
  intro F H S vs ds k Q rh rs h hk
  unfold cTup at h
  split at h
  · rename_i xs
    obtain ⟨v, rfl, rd⟩ := rs.one
    obtain ⟨a, ws, e, h1, r1⟩ := tup_at rh rd
    exact ⟨_, call_tuple_of, a, ws, by rw [e], .inr ⟨h1, by rw [← e]; exact hk F _ H (.tup xs) S Go.refl rh rd h⟩⟩
  · obtain ⟨v, rfl, rd⟩ := rs.one
    split at h
    · rename_i xs q
      obtain ⟨a, ws, e, h1, r1⟩ := vl_at rh rd q
      subst e
      exact ⟨_, call_tuple_of, a, ws, rfl, .inl ⟨h1, fun l hl => mkT_ok rh r1 hl h hk⟩⟩
    · exact h.elim
  · exact h.elim
theorem cd_abs : ClD X (.builtin "abs") cAbs := by
  intro F H S vs ds k Q rh rs h hk
  unfold cAbs at h
  split at h
  · obtain ⟨v, rfl, rd⟩ := rs.one
    unfold R at rd
    subst rd
    exact ⟨_, call_abs, _, rfl, hk F _ H (.int _) S Go.refl rh (by unfold R; rfl) h⟩
  · exact h.elim
theorem cd_max2 (hc : X.calm = true) : ClD X (.builtin "max") cMax2 := by
  intro F H S vs ds k Q rh rs h hk
  unfold cMax2 at h
  split at h
  · obtain ⟨v, w, rfl, rd, re⟩ := rs.two
    unfold R at rd re
    subst rd re
    exact ⟨_, call_max2 hc, _, _, rfl, hk F _ H (.int _) S Go.refl rh (by unfold R; rfl) h⟩
  · exact h.elim
theorem cd_min2 (hc : X.calm = true) : ClD X (.builtin "min") cMin2 := by
  intro F H S vs ds k Q rh rs h hk
  unfold cMin2 at h
  split at h
  · obtain ⟨v, w, rfl, rd, re⟩ := rs.two
    unfold R at rd re
    subst rd re
    exact ⟨_, call_min2 hc, _, _, rfl, hk F _ H (.int _) S Go.refl rh (by unfold R; rfl) h⟩
  · exact h.elim
theorem cd_int : ClD X (.type "int") cInt := by
  intro F H S vs ds k Q rh rs h hk
  unfold cInt at h
  split at h
  · obtain ⟨v, rfl, rd⟩ := rs.one
    unfold R at rd
    subst rd
    exact ⟨_, call_int1, .inl ⟨_, rfl, hk F _ H (.int _) S Go.refl rh (by unfold R; rfl) h⟩⟩
  · obtain ⟨v, rfl, rd⟩ := rs.one
    unfold R at rd
    subst rd
    exact ⟨_, call_int1, .inr ⟨_, rfl, hk F _ H (.int _) S Go.refl rh (by unfold R; rfl) h⟩⟩
  · exact h.elim
theorem cd_bool : ClD X (.type "bool") cBool := by
  intro F H S vs ds k Q rh rs h hk
  unfold cBool at h
  split at h
  · obtain ⟨v, rfl, rd⟩ := rs.one
    unfold R at rd
    subst rd
    exact ⟨_, call_bool1, .inl ⟨_, rfl, hk F _ H (.bl _) S Go.refl rh (by unfold R; rfl) h⟩⟩
  · obtain ⟨v, rfl, rd⟩ := rs.one
    unfold R at rd
    subst rd
    exact ⟨_, call_bool1, .inr ⟨_, rfl, hk F _ H (.bl _) S Go.refl rh (by unfold R; rfl) h⟩⟩
  · obtain ⟨v, rfl, rd⟩ := rs.one
    split at h
    · rename_i xs q
      obtain ⟨a, ws, e, h1, r1⟩ := vl_at rh rd q
      subst e
      refine ⟨_, call_boolL, a, ws, rfl, h1, hk F _ H (.bl (!xs.isEmpty)) S Go.refl rh ?_ h⟩
      unfold R
      have : ws.isEmpty = xs.isEmpty := by
        have := r1.length
        cases ws <;> cases xs <;> simp_all
      rw [this]
    · exact h.elim
  · exact h.elim
theorem cd_str : ClD X (.type "str") cStr := by
  intro F H S vs ds k Q rh rs h hk
  unfold cStr at h
  split at h
  · obtain ⟨v, rfl, rd⟩ := rs.one
    unfold R at rd
    subst rd
    exact ⟨_, call_str_int, _, rfl, h.1, hk F _ H (.str _) S Go.refl rh (by unfold R; rfl) h.2⟩
  · exact h.elim
theorem onInts_at {f : List Int → Sto → KD → Prop} {F H : Hp} {S : Sto} {vs : List V} {ds : List D} {k : KD} (rh : RelH X.K F H S) (rs : Rs X.K F ds vs) (h : onInts f ds S k) : ∃ a ns, vs = [V.ref a] ∧ SqL X.K H a (ns.map V.int) ∧ f ns S k := by
  unfold onInts at h
  split at h
  · obtain ⟨v, rfl, rd⟩ := rs.one
    split at h
    · rename_i ns q
      rw [Option.bind_eq_some_iff] at q
      obtain ⟨xs, q1, q2⟩ := q
      obtain ⟨a, ws, e, h1, r1⟩ := vl_at rh rd q1
      rw [intsOf_eq q2] at r1
      rw [r1.ints] at h1
      exact ⟨a, ns, by rw [e], h1, h⟩
    · exact h.elim
  · exact h.elim
theorem onBls_at {f : List Bool → Sto → KD → Prop} {F H : Hp} {S : Sto} {vs : List V} {ds : List D} {k : KD} (rh : RelH X.K F H S) (rs : Rs X.K F ds vs) (h : onBls f ds S k) : ∃ a ns, vs = [V.ref a] ∧ SqL X.K H a (ns.map V.bl) ∧ f ns S k := by
  unfold onBls at h
  split at h
  · obtain ⟨v, rfl, rd⟩ := rs.one
    split at h
    · rename_i ns q
      rw [Option.bind_eq_some_iff] at q
      obtain ⟨xs, q1, q2⟩ := q
      obtain ⟨a, ws, e, h1, r1⟩ := vl_at rh rd q1
      rw [blsOf_eq q2] at r1
      rw [r1.bls] at h1
      exact ⟨a, ns, by rw [e], h1, h⟩
    · exact h.elim
  · exact h.elim
theorem cd_sum (hc : X.calm = true) : ClD X (.builtin "sum") cSum := by
  intro F H S vs ds k Q rh rs h hk
  obtain ⟨a, ns, rfl, hq, h⟩ := onInts_at rh rs h
  exact ⟨_, cr_sum hc, a, ns, rfl, hq, hk F _ H (.int _) S Go.refl rh (by unfold R; rfl) h⟩
theorem cd_max (hc : X.calm = true) : ClD X (.builtin "max") cMax := by
  intro F H S vs ds k Q rh rs h hk
  obtain ⟨a, ns, rfl, hq, h1, h⟩ := onInts_at rh rs h
  exact ⟨_, cr_max hc, a, ns, rfl, hq, List.length_pos_iff.mpr h1, fun m hm hy => hk F _ H (.int _) S Go.refl rh (by unfold R; rfl) (h m hm hy)⟩
theorem cd_min (hc : X.calm = true) : ClD X (.builtin "min") cMin := by
  intro F H S vs ds k Q rh rs h hk
  obtain ⟨a, ns, rfl, hq, h1, h⟩ := onInts_at rh rs h
  exact ⟨_, cr_min hc, a, ns, rfl, hq, List.length_pos_iff.mpr h1, fun m hm hy => hk F _ H (.int _) S Go.refl rh (by unfold R; rfl) (h m hm hy)⟩
theorem cd_sorted (m : Bool) : ClD X (.builtin "sorted") (cSorted m) := by
  intro F H S vs ds k Q rh rs h hk
  obtain ⟨a, ns, rfl, hq, h⟩ := onInts_at rh rs h
  exact ⟨_, cr_sortedI, a, ns, rfl, hq, fun ms p h1 h2 hp => mkL_ok rh (Rs.of_ints ms) hp (h ms h1 h2) hk⟩
theorem cd_all (hc : X.calm = true) : ClD X (.builtin "all") cAll := by
  intro F H S vs ds k Q rh rs h hk
  obtain ⟨a, ns, rfl, hq, h⟩ := onBls_at rh rs h
  exact ⟨_, cr_all hc, a, ns, rfl, hq, hk F _ H (.bl _) S Go.refl rh (by unfold R; rfl) h⟩
theorem cd_any (hc : X.calm = true) : ClD X (.builtin "any") cAny := by
  intro F H S vs ds k Q rh rs h hk
  obtain ⟨a, ns, rfl, hq, h⟩ := onBls_at rh rs h
  exact ⟨_, cr_any hc, a, ns, rfl, hq, hk F _ H (.bl _) S Go.refl rh (by unfold R; rfl) h⟩
end

/-! ### unary minus, chained comparisons -/
def dNeg (ta : TD) : TD := fun wd ρ S k => ta wd ρ S fun d S1 => match d with | .int i => k (.int (-i)) S1 | _ => False
section
variable {X : Cx} {wd : WD} {a b c : Expr} {ta tb tc : TD} {pos : Pos}
theorem pd_neg (ha : PD X wd a ta) : PD X wd (.UnaryOp .USub a pos) (dNeg ta) :=
  PE.pd (pe_un un_neg ha.pe) fun σ H F ρ S k r h => ⟨F, ρ, S, _, r, h, fun F1 v H1 d S1 g1 r1 rd q => by
    cases d with
    | int i =>
      unfold R at rd
      subst rd
      exact ⟨i, rfl, F1, .int (-i), S1, g1, r1, by unfold R; rfl, q⟩
    | _ => exact (show False from q).elim⟩
theorem opR_any {g : Value → Value → Sem Value} : OpR X g (fun x y H Q => ∃ r, OpR X g r ∧ r x y H Q) := fun pins s σ H x y v u Q I rx ry ⟨r, hr, q⟩ => hr pins s σ H x y v u Q I rx ry q
theorem chain_in {op op' : CmpOp} {f f' : D → D → Sto → KD → Prop} (ho : OpD X (compareOp op) f) (ho' : OpD X (compareOp op') f') {σ : L2.St} {H F : Hp} {ρ : Envd} {S : Sto} {k : KD} {Q : VK} (r : Rel X.K wd F σ H ρ S) (h : dChain f f' ta tb tc wd ρ S k) (hQ : ∀ F' v H' d S', Go F H S F' H' S' → Rel X.K wd F' σ H' ρ S' → R X.K F' d v → k d S' → Q v H') :
    tChain (fun x y H Q => ∃ r, OpR X (compareOp op) r ∧ r x y H Q) (fun x y H Q => ∃ r, OpR X (compareOp op') r ∧ r x y H Q) (lift X.K wd (ta wd)) (lift X.K wd (tb wd)) (lift X.K wd (tc wd)) σ H Q := by
  refine ⟨F, ρ, S, _, r, h, fun F1 x H1 d S1 g1 r1 rd q => ⟨F1, ρ, S1, _, r1, q, fun F2 y H2 e S2 g2 r2 re q2 => ?_⟩⟩
  refine ho F2 H2 S2 x y d e _ _ r2.h (R.mono g2.ex _ _ rd) re q2 fun F3 z H3 dz S3 g3 r3 rz q3 => ?_
  cases dz with
  | bl b =>
    unfold R at rz
    refine ⟨b, rz, ?_⟩
    dsimp only at q3
    cases b with
    | true =>
      rw [if_pos rfl] at q3 ⊢
      refine ⟨F3, ρ, S3, _, r2.up g3 r3, q3, fun F4 w H4 dw S4 g4 r4 rw4 q4 => ?_⟩
      exact ho' F4 H4 S4 y w e dw k _ r4.h (R.mono (g3.trans g4).ex _ _ re) rw4 q4 fun F5 v H5 d5 S5 g5 r5 rd5 q5 => hQ F5 _ H5 d5 S5 ((((g1.trans g2).trans g3).trans g4).trans g5) (r4.up g5 r5) rd5 q5
    | false =>
      rw [if_neg (by decide)] at q3 ⊢
      exact hQ F3 _ H3 (.bl false) S3 ((g1.trans g2).trans g3) (r2.up g3 r3) (by unfold R; rfl) q3
  | _ => exact (show False from q3).elim
theorem pd_chain {op op' : CmpOp} {f f' : D → D → Sto → KD → Prop} (ho : OpD X (compareOp op) f) (ho' : OpD X (compareOp op') f') (ha : PD X wd a ta) (hb : PD X wd b tb) (hc : PD X wd c tc)
    (hm : lastMarks [op, op'] [b, c] = false := by with_unfolding_all rfl) : PD X wd (.Compare a [op, op'] [b, c] pos) (dChain f f' ta tb tc) :=
  PE.pd (pe_chain opR_any opR_any ha.pe hb.pe hc.pe hm) fun σ H F ρ S k r h => chain_in ho ho' r h fun F' v H' d S' g r' rd q => ⟨F', d, S', g, r', rd, q⟩
theorem ptd_chain {op op' : CmpOp} {f f' : D → D → Sto → KD → Prop} (ho : OpD X (compareOp op) f) (ho' : OpD X (compareOp op') f') (ha : PD X wd a ta) (hb : PD X wd b tb) (hc : PD X wd c tc)
    (hm : lastMarks [op, op'] [b, c] = false := by with_unfolding_all rfl) : PTD X wd (.Compare a [op, op'] [b, c] pos) (dTest (dChain f f' ta tb tc)) :=
  PT.ptd (pt_chain opR_any opR_any ha.pe hb.pe hc.pe hm) fun σ H F ρ S k r h => chain_in ho ho' r h fun F' v H' d S' g r' rd q => by
    cases d with
    | bl b => exact ⟨b, by unfold R at rd; exact rd, F', S', g, r', q⟩
    | _ => exact (show False from q).elim
end

/-! ### subscripts -/
def IxD (X : Cx) (f : D → D → Sto → KD → Prop) : Prop :=
  ∀ (F H : Hp) (S : Sto) (x y : V) (d e : D) (k : KD) (Q : VK), RelH X.K F H S → R X.K F d x → R X.K F e y → f d e S k →
    (∀ F' v H' d' S', Go F H S F' H' S' → RelH X.K F' H' S' → R X.K F' d' v → k d' S' → Q v H') → ∃ r, IxR X r ∧ r x y H Q
theorem ixR_any {X : Cx} : IxR X (fun x y H Q => ∃ r, IxR X r ∧ r x y H Q) := fun value slice pins s σ H x y v u Q I rx ry ⟨r, hr, q⟩ hs => hr value slice pins s σ H x y v u Q I rx ry q hs
def fIx (d e : D) (S : Sto) (k : KD) : Prop := match d, e with
  | .str z, .int i => z.length ≤ sizeLine ∧ (match atI z.cps.toList i with | some c => k (.str ⟨#[c]⟩) S | none => False)
  | d, .int i => (match vq S d with | some xs => (match atI xs i with | some x => k x S | none => False) | none => False)
  | _, _ => False
section
variable {X : Cx} {wd : WD} {a b : Expr} {ta tb : TD} {pos : Pos}
theorem pd_ix {f : D → D → Sto → KD → Prop} (hr : IxD X f) (ha : PD X wd a ta) (hb : PD X wd b tb) (hs : PlainIx b := by first | exact fun _ _ => rfl | (intro _ _; rfl)) : PD X wd (.Subscript a b pos) (dBin f ta tb) :=
  PE.pd (pe_ix ixR_any ha.pe hb.pe hs) fun σ H F ρ S k r h => ⟨F, ρ, S, _, r, h, fun F1 x H1 d S1 g1 r1 rd q => ⟨F1, ρ, S1, _, r1, q, fun F2 y H2 e S2 g2 r2 re q2 =>
    hr F2 H2 S2 x y d e k _ r2.h (R.mono g2.ex _ _ rd) re q2 fun F3 v H3 d3 S3 g3 r3 rd3 q3 => ⟨F3, d3, S3, (g1.trans g2).trans g3, r2.up g3 r3, rd3, q3⟩⟩⟩
theorem atI_at {K : PySem.W.Frag} {F : Hp} {xs : List D} {vs : List V} {i : Int} {d : D} (rs : Rs K F xs vs) (h : atI xs i = some d) : ∃ v, atI vs i = some v ∧ R K F d v := by
  unfold atI at h ⊢
  rw [Option.bind_eq_some_iff] at h
  obtain ⟨j, e1, e2⟩ := h
  obtain ⟨v, q1, q2⟩ := rs.get e2
  exact ⟨v, by rw [rs.length, e1]; exact q1, q2⟩
theorem ixd : IxD X fIx := by
  intro F H S x y d e k Q rh rd re h hk
  unfold fIx at h
  split at h
  · obtain ⟨hz, h⟩ := h
    split at h
    · rename_i c q
      unfold R at rd re
      subst rd re
      exact ⟨_, ix_str, _, _, c, rfl, rfl, hz, q, hk F _ H (.str _) S Go.refl rh (by unfold R; rfl) h⟩
    · exact h.elim
  · split at h
    · rename_i xs q
      split at h
      · rename_i x' q2
        unfold R at re
        subst re
        obtain ⟨a, ws, e1, h1, r1⟩ := vq_at rh rd q
        obtain ⟨v, q3, q4⟩ := atI_at r1 q2
        rcases h1 with h1 | h1
        · exact ⟨_, ix_list, a, ws, _, v, e1, rfl, h1, q3, hk F v H x' S Go.refl rh q4 h⟩
        · exact ⟨_, ix_tup, a, ws, _, v, e1, rfl, h1, q3, hk F v H x' S Go.refl rh q4 h⟩
      · exact h.elim
    · exact h.elim
  · exact h.elim
end

/-! ### slices -/
def cutD (xs : List D) (lo hi : Option Int) : List D := (xs.drop (HT.sIx xs.length 0 lo)).take (HT.sIx xs.length xs.length hi - HT.sIx xs.length 0 lo)
theorem Rs.drop {K : PySem.W.Frag} {F : Hp} : ∀ (n : Nat) {ds : List D} {vs : List V}, Rs K F ds vs → Rs K F (ds.drop n) (vs.drop n)
  | 0, _, _, h => h
  | n + 1, [], vs, h => by unfold Rs at h; subst h; exact Rs.nil
  | n + 1, d :: ds, vs, h => by
    unfold Rs at h
    obtain ⟨v, vs', rfl, _, h2⟩ := h
    exact Rs.drop n h2
theorem Rs.take {K : PySem.W.Frag} {F : Hp} : ∀ (n : Nat) {ds : List D} {vs : List V}, Rs K F ds vs → Rs K F (ds.take n) (vs.take n)
  | 0, _, _, _ => Rs.nil
  | n + 1, [], vs, h => by unfold Rs at h; subst h; exact Rs.nil
  | n + 1, d :: ds, vs, h => by
    unfold Rs at h
    obtain ⟨v, vs', rfl, h1, h2⟩ := h
    exact Rs.cons h1 (Rs.take n h2)
theorem Rs.cut {K : PySem.W.Frag} {F : Hp} {ds : List D} {vs : List V} (h : Rs K F ds vs) (lo hi : Option Int) : Rs K F (cutD ds lo hi) (cutV vs lo hi) := by
  unfold cutD cutV
  rw [h.length]
  exact Rs.take _ (Rs.drop _ h)
theorem Rs.reverse {K : PySem.W.Frag} {F : Hp} : ∀ {ds : List D} {vs : List V}, Rs K F ds vs → Rs K F ds.reverse vs.reverse
  | [], vs, h => by unfold Rs at h; subst h; exact Rs.nil
  | d :: ds, vs, h => by
    unfold Rs at h
    obtain ⟨v, vs', rfl, h1, h2⟩ := h
    rw [List.reverse_cons, List.reverse_cons]
    exact (Rs.reverse h2).append (Rs.cons h1 Rs.nil)
abbrev TOD := WD → Envd → Sto → (Option Int → Sto → Prop) → Prop
def dNoP : TOD := fun _ _ S k => k none S
def dP (t : TD) : TOD := fun wd ρ S k => t wd ρ S fun d S1 => match d with | .int i => k (some i) S1 | _ => False
structure POD (X : Cx) (wd : WD) (o : Option Expr) (t : TOD) : Prop where
  po : ∃ w : TO, PO X o w ∧ ∀ σ H F ρ S k (P : Option Int → Hp → Prop), Rel X.K wd F σ H ρ S → t wd ρ S k → (∀ F' o H' S', Go F H S F' H' S' → Rel X.K wd F' σ H' ρ S' → k o S' → P o H') → w σ H P
def fSl (m : Bool) (d : D) (lo hi : Option Int) (S : Sto) (k : KD) : Prop := match d with
  | .tup xs => k (.tup (cutD xs lo hi)) S
  | d => (match vl S d with | some xs => mkL m (cutD xs lo hi) S k | none => False)
def dSl (m : Bool) (te : TD) (tl th : TOD) : TD := fun wd ρ S k => te wd ρ S fun d S1 => tl wd ρ S1 fun lo S2 => th wd ρ S2 fun hi S3 => fSl m d lo hi S3 k
def dRev (m : Bool) (te : TD) : TD := fun wd ρ S k => te wd ρ S fun d S1 => match vl S1 d with | some xs => mkL m xs.reverse S1 k | none => False
section
variable {X : Cx} {wd : WD} {e : Expr} {te : TD} {lo hi : Option Expr} {tl th : TOD} {pos p2 : Pos}
theorem pod_none : POD X wd none dNoP := ⟨_, po_none, fun σ H F ρ S k P r h hk => hk F none H S Go.refl r h⟩
theorem pod_some (h : PD X wd e te) : POD X wd (some e) (dP te) := ⟨_, po_some h.pe, fun σ H F ρ S k P r hw hk => ⟨F, ρ, S, _, r, hw, fun F1 v H1 d S1 g1 r1 rd q => by
  cases d with
  | int i => exact ⟨i, by unfold R at rd; exact rd, hk F1 _ H1 S1 g1 r1 q⟩
  | _ => exact (show False from q).elim⟩⟩
theorem sl_any {X : Cx} : SlR X (fun x lo hi H Q => ∃ r, SlR X r ∧ r x lo hi H Q) := fun pins s σ H x v vl vu lo hi sl Q I rx hs pl pu ⟨r, hr, q⟩ => hr pins s σ H x v vl vu lo hi sl Q I rx hs pl pu q
theorem pd_sl (m : Bool) (he : PD X wd e te) (hl : POD X wd lo tl) (hu : POD X wd hi th) : PD X wd (.Subscript e (.Slice lo hi none p2) pos) (dSl m te tl th) := by
  obtain ⟨wl, pl, hl⟩ := hl.po
  obtain ⟨wu, pu, hu⟩ := hu.po
  refine PE.pd (pe_slice sl_any he.pe pl pu) fun σ H F ρ S k r h => ⟨F, ρ, S, _, r, h, fun F1 x H1 d S1 g1 r1 rd q => hl σ H1 F1 ρ S1 _ _ r1 q fun F2 l H2 S2 g2 r2 q2 => hu σ H2 F2 ρ S2 _ _ r2 q2 fun F3 u H3 S3 g3 r3 q3 => ?_⟩
  have rd3 := R.mono (g2.trans g3).ex _ _ rd
  have fin : ∀ F' v H' d' S', Go F3 H3 S3 F' H' S' → RelH X.K F' H' S' → R X.K F' d' v → k d' S' → ∃ F' d S', Go F H S F' H' S' ∧ Rel X.K wd F' σ H' ρ S' ∧ R X.K F' d v ∧ k d S' :=
    fun F' v H' d' S' g r' rd' hk => ⟨F', d', S', ((g1.trans g2).trans g3).trans g, r3.up g r', rd', hk⟩
  unfold fSl at q3
  split at q3
  · rename_i xs
    obtain ⟨a, ws, e1, h1, rs⟩ := tup_at r3.h rd3
    refine ⟨_, sl_tupA, a, ws, e1, h1, fun hw => ?_, fun hw p hp => mkT_ok r3.h (rs.cut l u) hp q3 fin⟩
    have e2 : cutD xs l u = xs := by
      unfold cutD
      rw [← rs.length, hw.1, hw.2, rs.length]
      simp
    rw [e2] at q3
    refine fin F3 _ H3 (.tup xs) S3 Go.refl r3.h (by rw [← e1]; exact rd3) q3
  · split at q3
    · rename_i xs q
      obtain ⟨a, ws, e1, h1, rs⟩ := vl_at r3.h rd3 q
      exact ⟨_, sl_list, a, ws, e1, h1, fun p hp => mkL_ok r3.h (rs.cut l u) hp q3 fin⟩
    · exact q3.elim
theorem pd_rev (m : Bool) {kk : Nat} {p1 p3 : Pos} (he : PD X wd e te) : PD X wd (.Subscript e (.Slice none none (some (.UnaryOp .USub (.Constant (.int 1) kk p1) p2)) p3) pos) (dRev m te) :=
  PE.pd (pe_revL he.pe) fun σ H F ρ S k r h => ⟨F, ρ, S, _, r, h, fun F1 x H1 d S1 g1 r1 rd q => by
    split at q
    · rename_i xs q1
      obtain ⟨a, ws, e1, h1, rs⟩ := vl_at r1.h rd q1
      exact ⟨a, ws, e1, h1, fun p hp => mkL_ok (Q := fun v H' => ∃ F' d S', Go F H S F' H' S' ∧ Rel X.K wd F' σ H' ρ S' ∧ R X.K F' d v ∧ k d S') r1.h rs.reverse hp q fun F' v H' d' S' g r' rd' hk => ⟨F', d', S', g1.trans g, r1.up g r', rd', hk⟩⟩
    · exact q.elim⟩
end
end Z

set_option Elab.async false
set_option linter.all false
set_option maxRecDepth 100000
set_option maxHeartbeats 4000000
namespace Z
open PySem PySem.Spec PyProof.Rows L2

/-! ### methods of lists in the store -/
def MtD (X : Cx) (T id : String) (f : D → List D → Sto → KD → Prop) : Prop :=
  ∀ (F H : Hp) (S : Sto) (x : V) (d : D) (vs : List V) (ds : List D) (k : KD) (Q : VK), RelH X.K F H S → R X.K F d x → Rs X.K F ds vs → f d ds S k →
    (∀ F' v H' d' S', Go F H S F' H' S' → RelH X.K F' H' S' → R X.K F' d' v → k d' S' → Q v H') → tyV X.K T x H ∧ ∃ r, MtR X id r ∧ r x vs H Q
def isLs (d : D) (S : Sto) : Prop := match d with | .adr a => (match S a with | some (.lst _) => True | _ => False) | _ => False
def dMt (f : D → List D → Sto → KD → Prop) (ta : TD) (t : TAD) : TD := fun wd ρ S k => ta wd ρ S fun d S1 => isLs d S1 ∧ t wd ρ S1 fun ds S2 => f d ds S2 k
theorem mtR_any {X : Cx} {id : String} : MtR X id (fun x xs H Q => ∃ r, MtR X id r ∧ r x xs H Q) := fun pins s σ H x xs v us Q I rx rv ⟨r, hr, q⟩ => hr pins s σ H x xs v us Q I rx rv q
/-- the list at d, of the store -/
def onL (d : D) (S : Sto) (f : Addr → List D → Prop) : Prop := match d with | .adr a => (match S a with | some (.lst xs) => f a xs | _ => False) | _ => False
def mAppend (d : D) (ds : List D) (S : Sto) (k : KD) : Prop := match ds with | [y] => onL d S fun a xs => xs.length < sizeLine ∧ k .non (supd S a (.lst (xs ++ [y]))) | _ => False
def mPop (d : D) (ds : List D) (S : Sto) (k : KD) : Prop := match ds with
  | [] => onL d S fun a xs => (match xs[xs.length - 1]? with | some y => k y (supd S a (.lst xs.dropLast)) | none => False)
  | [.int i] => onL d S fun a xs => -(2 ^ 63) ≤ i ∧ i < 2 ^ 63 ∧ (match seqIndex? i xs.length with | some j => (match xs[j]? with | some y => k y (supd S a (.lst (xs.eraseIdx j))) | none => False) | none => False)
  | _ => False
def mClear (d : D) (ds : List D) (S : Sto) (k : KD) : Prop := match ds with | [] => onL d S fun a _ => k .non (supd S a (.lst [])) | _ => False
def mExtend (d : D) (ds : List D) (S : Sto) (k : KD) : Prop := match ds with | [e] => onL d S fun a xs => (match vx S e with | some ys => xs.length + ys.length ≤ sizeLine ∧ k .non (supd S a (.lst (xs ++ ys))) | none => False) | _ => False
theorem onL_at {K : PySem.W.Frag} {F H : Hp} {S : Sto} {d : D} {v : V} {f : Addr → List D → Prop} (r : RelH K F H S) (rd : R K F d v) (h : onL d S f) : ∃ a xs vs, d = .adr a ∧ v = .ref a ∧ S a = some (.lst xs) ∧ H a = some (.lst vs) ∧ Rs K F xs vs ∧ f a xs := by
  unfold onL at h
  split at h
  · rename_i a
    split at h
    · rename_i xs q
      unfold R at rd
      obtain ⟨_, vs, h1, h2⟩ := r.so a _ q
      exact ⟨a, xs, vs, rfl, rd, q, h1, h2, h⟩
    · exact h.elim
  · exact h.elim
theorem put_ok {K : PySem.W.Frag} {F H : Hp} {S : Sto} {a : Addr} {xs ds : List D} {vs : List V} {k : Sto → Prop} {Q : Hp → Prop} (r : RelH K F H S) (hs : S a = some (.lst xs)) (rs : Rs K F ds vs) (h : k (supd S a (.lst ds)))
    (hk : ∀ H' S', Go F H S F H' S' → RelH K F H' S' → k S' → Q H') : Q (upd H a (.lst vs)) :=
  hk _ _ (Go.putS hs) (r.putS (o := .lst vs) (u := .lst ds) hs ⟨vs, upd_same, rs⟩) h
section
variable {X : Cx} {wd : WD} {o e : Expr} {es : List Expr} {ta : TD} {t : TAD} {name : Str} {apos cpos : Pos} {id : String} {f : D → List D → Sto → KD → Prop}
theorem Rs.dropLast {K : PySem.W.Frag} {F : Hp} {ds : List D} {vs : List V} (h : Rs K F ds vs) : Rs K F ds.dropLast vs.dropLast := by
  rw [List.dropLast_eq_take, List.dropLast_eq_take, h.length]; exact Rs.take _ h
theorem Rs.eraseIdx {K : PySem.W.Frag} {F : Hp} : ∀ {ds : List D} {vs : List V} (i : Nat), Rs K F ds vs → Rs K F (ds.eraseIdx i) (vs.eraseIdx i)
  | [], vs, i, h => by unfold Rs at h; subst h; exact Rs.nil
  | d :: ds, vs, i, h => by
    unfold Rs at h
    obtain ⟨v, vs', rfl, h1, h2⟩ := h
    cases i with
    | zero => exact h2
    | succ i => exact Rs.cons h1 (Rs.eraseIdx i h2)
theorem md_append : MtD X "list" "list.append" mAppend := by
  intro F H S x d vs ds k Q rh rd rs h hk
  unfold mAppend at h
  split at h
  · obtain ⟨a, xs, ws, rfl, rfl, hs, hH, rx, hz, h⟩ := onL_at rh rd h
    obtain ⟨y, rfl, ry⟩ := rs.one
    refine ⟨.inl ⟨rfl, ws, SqL.of hH⟩, _, mt_append, a, ws, y, rfl, rfl, hH, by rw [rx.length]; exact hz, ?_⟩
    exact put_ok (k := fun S' => k .non S') (Q := fun H' => Q .non H') rh hs (rx.append (Rs.cons ry Rs.nil)) h fun H' S' g r q => hk F _ H' .non S' g r (by unfold R; rfl) q
  · exact h.elim
theorem md_clear : MtD X "list" "list.clear" mClear := by
  intro F H S x d vs ds k Q rh rd rs h hk
  unfold mClear at h
  split at h
  · obtain ⟨a, xs, ws, rfl, rfl, hs, hH, rx, h⟩ := onL_at rh rd h
    have e := rs.nil_iff.mpr rfl
    subst e
    refine ⟨.inl ⟨rfl, ws, SqL.of hH⟩, _, mt_clear, a, ws, rfl, rfl, hH, ?_⟩
    exact put_ok (k := fun S' => k .non S') (Q := fun H' => Q .non H') rh hs Rs.nil h fun H' S' g r q => hk F _ H' .non S' g r (by unfold R; rfl) q
  · exact h.elim
theorem md_pop : MtD X "list" "list.pop" mPop := by
  intro F H S x d vs ds k Q rh rd rs h hk
  unfold mPop at h
  split at h
  · obtain ⟨a, xs, ws, rfl, rfl, hs, hH, rx, h⟩ := onL_at rh rd h
    have e := rs.nil_iff.mpr rfl
    subst e
    split at h
    · rename_i y q
      obtain ⟨v, q1, q2⟩ := rx.get q
      refine ⟨.inl ⟨rfl, ws, SqL.of hH⟩, _, mt_pop, a, ws, v, rfl, rfl, hH, by rw [rx.length]; exact q1, ?_⟩
      exact put_ok (k := fun S' => k y S') (Q := fun H' => Q v H') rh hs rx.dropLast h fun H' S' g r q => hk F v H' y S' g r q2 q
    · exact h.elim
  · obtain ⟨a, xs, ws, rfl, rfl, hs, hH, rx, h1, h2, h⟩ := onL_at rh rd h
    obtain ⟨w, rfl, rw_⟩ := rs.one
    unfold R at rw_
    subst rw_
    split at h
    · rename_i j qj
      split at h
      · rename_i y q
        obtain ⟨v, q1, q2⟩ := rx.get q
        refine ⟨.inl ⟨rfl, ws, SqL.of hH⟩, _, mt_popAt, a, ws, _, j, v, rfl, rfl, hH, h1, h2, by rw [rx.length]; exact qj, q1, ?_⟩
        exact put_ok (k := fun S' => k y S') (Q := fun H' => Q v H') rh hs (rx.eraseIdx j) h fun H' S' g r q => hk F v H' y S' g r q2 q
      · exact h.elim
    · exact h.elim
  · exact h.elim
theorem md_extend : MtD X "list" "list.extend" mExtend := by
  intro F H S x d vs ds k Q rh rd rs h hk
  unfold mExtend at h
  split at h
  · obtain ⟨a, xs, ws, rfl, rfl, hs, hH, rx, h⟩ := onL_at rh rd h
    obtain ⟨w, rfl, rw_⟩ := rs.one
    split at h
    · rename_i ys q
      obtain ⟨b, us, e1, h1, ry⟩ := vx_at rh rw_ q
      refine ⟨.inl ⟨rfl, ws, SqL.of hH⟩, _, mt_extend, a, b, ws, us, rfl, by rw [e1], hH, h1, by rw [rx.length, ry.length]; exact h.1, ?_⟩
      exact put_ok (k := fun S' => k .non S') (Q := fun H' => Q .non H') rh hs (rx.append ry) h.2 fun H' S' g r q => hk F _ H' .non S' g r (by unfold R; rfl) q
    · exact h.elim
  · exact h.elim
theorem ty_at {F H : Hp} {S : Sto} {x : V} {d : D} (rh : RelH X.K F H S) (rd : R X.K F d x) (h : isLs d S) : tyV X.K "list" x H := by
  unfold isLs at h
  split at h
  · rename_i a
    split at h
    · rename_i xs q
      unfold R at rd
      subst rd
      obtain ⟨_, vs, h1, _⟩ := rh.so a _ q
      exact .inl ⟨rfl, vs, SqL.of h1⟩
    · exact h.elim
  · exact h.elim
theorem pd_mt (slot : Slot "list" name id) (hty : typeOf (.builtin id) = pure (.type "method_descriptor")) (hm : MtD X "list" id f) (ho : PD X wd o ta) (ha : PAD X wd (e :: es) t)
    (hbase : attributeBase o name X.env (eval o X.env) = eval o X.env := by rfl)
    (hfew : ((backTo cpos (starEach (e :: es) X.env)).all (fun x => !x.1) && (backToKw cpos (keywordEach [] X.env)).all (fun x => x.1.isSome)
      && decide ((e :: es).length + ([] : List Keyword).length + (if ([] : List Keyword).isEmpty then 0 else 1) < 30)) = true := by rfl)
    (hline : (apos.endLine == cpos.line) = true := by rfl) (hs : starEach (e :: es) X.env = (false, eval e X.env) :: starEach es X.env := by rfl) (hplain : (backTo cpos (starEach es X.env)).any (·.1) = false := by rfl) :
    PD X wd (.Call (.Attribute o name apos) (e :: es) [] cpos) (dMt f ta t) :=
  PE.pd (pe_bm PySem.F.plainAttrs_list slot hty mtR_any ho.pe ha.pa hbase hfew hline hs hplain) fun σ H F ρ S k r h => ⟨F, ρ, S, _, r, h, fun F1 x H1 d S1 g1 r1 rd ⟨ht, q⟩ =>
    ⟨ty_at r1.h rd ht, F1, ρ, S1, _, r1, q, fun F2 vs H2 ds S2 g2 r2 rs q2 => (hm F2 H2 S2 x d vs ds k _ r2.h (R.mono g2.ex _ _ rd) rs q2 fun F3 v H3 d3 S3 g3 r3 rd3 q3 => ⟨F3, d3, S3, (g1.trans g2).trans g3, r2.up g3 r3, rd3, q3⟩).2⟩⟩
theorem pd_mt0 (slot : Slot "list" name id) (hty : typeOf (.builtin id) = pure (.type "method_descriptor")) (hm : MtD X "list" id f) (ho : PD X wd o ta)
    (hbase : attributeBase o name X.env (eval o X.env) = eval o X.env := by rfl) (hline : (apos.endLine == cpos.line) = true := by rfl) : PD X wd (.Call (.Attribute o name apos) [] [] cpos) (dMt f ta dNil) :=
  PE.pd (pe_bm0 PySem.F.plainAttrs_list slot hty mtR_any ho.pe hbase hline) fun σ H F ρ S k r h => ⟨F, ρ, S, _, r, h, fun F1 x H1 d S1 g1 r1 rd ⟨ht, q⟩ =>
    ⟨ty_at r1.h rd ht, (hm F1 H1 S1 x d [] [] k _ r1.h rd Rs.nil q fun F3 v H3 d3 S3 g3 r3 rd3 q3 => ⟨F3, d3, S3, g1.trans g3, r1.up g3 r3, rd3, q3⟩).2⟩⟩
theorem pd_append (ho : PD X wd o ta) (ha : PAD X wd (e :: es) t)
    (hbase : attributeBase o "append" X.env (eval o X.env) = eval o X.env := by rfl)
    (hfew : ((backTo cpos (starEach (e :: es) X.env)).all (fun x => !x.1) && (backToKw cpos (keywordEach [] X.env)).all (fun x => x.1.isSome)
      && decide ((e :: es).length + ([] : List Keyword).length + (if ([] : List Keyword).isEmpty then 0 else 1) < 30)) = true := by rfl)
    (hline : (apos.endLine == cpos.line) = true := by rfl) (hs : starEach (e :: es) X.env = (false, eval e X.env) :: starEach es X.env := by rfl) (hplain : (backTo cpos (starEach es X.env)).any (·.1) = false := by rfl) :
    PD X wd (.Call (.Attribute o "append" apos) (e :: es) [] cpos) (dMt mAppend ta t) := pd_mt PySem.F.slot_list_append PySem.F.type_list_append md_append ho ha hbase hfew hline hs hplain
theorem pd_popAt (ho : PD X wd o ta) (ha : PAD X wd (e :: es) t)
    (hbase : attributeBase o "pop" X.env (eval o X.env) = eval o X.env := by rfl)
    (hfew : ((backTo cpos (starEach (e :: es) X.env)).all (fun x => !x.1) && (backToKw cpos (keywordEach [] X.env)).all (fun x => x.1.isSome)
      && decide ((e :: es).length + ([] : List Keyword).length + (if ([] : List Keyword).isEmpty then 0 else 1) < 30)) = true := by rfl)
    (hline : (apos.endLine == cpos.line) = true := by rfl) (hs : starEach (e :: es) X.env = (false, eval e X.env) :: starEach es X.env := by rfl) (hplain : (backTo cpos (starEach es X.env)).any (·.1) = false := by rfl) :
    PD X wd (.Call (.Attribute o "pop" apos) (e :: es) [] cpos) (dMt mPop ta t) := pd_mt PySem.F.slot_list_pop PySem.F.type_list_pop md_pop ho ha hbase hfew hline hs hplain
theorem pd_pop (ho : PD X wd o ta) (hbase : attributeBase o "pop" X.env (eval o X.env) = eval o X.env := by rfl) (hline : (apos.endLine == cpos.line) = true := by rfl) : PD X wd (.Call (.Attribute o "pop" apos) [] [] cpos) (dMt mPop ta dNil) :=
  pd_mt0 PySem.F.slot_list_pop PySem.F.type_list_pop md_pop ho hbase hline
theorem pd_clear (ho : PD X wd o ta) (hbase : attributeBase o "clear" X.env (eval o X.env) = eval o X.env := by rfl) (hline : (apos.endLine == cpos.line) = true := by rfl) : PD X wd (.Call (.Attribute o "clear" apos) [] [] cpos) (dMt mClear ta dNil) :=
  pd_mt0 PySem.F.slot_list_clear PySem.F.type_list_clear md_clear ho hbase hline
theorem pd_extend (ho : PD X wd o ta) (ha : PAD X wd (e :: es) t)
    (hbase : attributeBase o "extend" X.env (eval o X.env) = eval o X.env := by rfl)
    (hfew : ((backTo cpos (starEach (e :: es) X.env)).all (fun x => !x.1) && (backToKw cpos (keywordEach [] X.env)).all (fun x => x.1.isSome)
      && decide ((e :: es).length + ([] : List Keyword).length + (if ([] : List Keyword).isEmpty then 0 else 1) < 30)) = true := by rfl)
    (hline : (apos.endLine == cpos.line) = true := by rfl) (hs : starEach (e :: es) X.env = (false, eval e X.env) :: starEach es X.env := by rfl) (hplain : (backTo cpos (starEach es X.env)).any (·.1) = false := by rfl) :
    PD X wd (.Call (.Attribute o "extend" apos) (e :: es) [] cpos) (dMt mExtend ta t) := pd_mt PySem.F.slot_list_extend PySem.F.type_list_extend md_extend ho ha hbase hfew hline hs hplain

/-! ### o[i] = v -/
def StD (X : Cx) (f : D → D → D → Sto → (Sto → Prop) → Prop) : Prop :=
  ∀ (F H : Hp) (S : Sto) (x y z : V) (d e u : D) (k : Sto → Prop) (Q : Hp → Prop), RelH X.K F H S → R X.K F d x → R X.K F e y → R X.K F u z → f d e u S k →
    (∀ F' H' S', Go F H S F' H' S' → RelH X.K F' H' S' → k S' → Q H') → ∃ r, PSet X r ∧ r x y z H Q
theorem pset_any : PSet X (fun x y z H Q => ∃ r, PSet X r ∧ r x y z H Q) := fun pins s σ H o i v ov iv u Q I ro ri rv ⟨r, hr, q⟩ => hr pins s σ H o i v ov iv u Q I ro ri rv q
def sSetL (d e u : D) (S : Sto) (k : Sto → Prop) : Prop := match e with | .int i => onL d S fun a xs => (match ixN xs.length i with | some j => k (supd S a (.lst (xs.set j u))) | none => False) | _ => False
theorem sd_list : StD X sSetL := by
  intro F H S x y z d e u k Q rh rd re ru h hk
  unfold sSetL at h
  split at h
  · obtain ⟨a, xs, ws, rfl, rfl, hs, hH, rx, h⟩ := onL_at rh rd h
    unfold R at re
    subst re
    split at h
    · rename_i j q
      refine ⟨_, set_list, a, ws, _, j, rfl, rfl, hH, by rw [rx.length]; exact q, ?_⟩
      exact put_ok (k := k) (Q := Q) rh hs (rx.set ru) h fun H' S' g r q => hk F H' S' g r q
    · exact h.elim
  · exact h.elim
def gSubD (to ti : TD) (f : D → D → D → Sto → (Sto → Prop) → Prop) (wd : WD) : TGD := fun u ρ S k => to wd ρ S fun d S1 => ti wd ρ S1 fun e S2 => f d e u S2 fun S3 => k ρ S3
theorem pgd_sub {i : Expr} {to ti : TD} {f : D → D → D → Sto → (Sto → Prop) → Prop} {pos : Pos} (hs : StD X f) (ho : PD X wd o to) (hi : PD X wd i ti)
    (ha : ∀ v, assign (.Subscript o i pos) X.env v = (do
      let ov ← holding [v] (eval o X.env)
      let iv ← holding [v, ov] (eval i X.env)
      standAt pos
      holding [v, ov, iv] (setItem ov iv v)
      release [v, ov, iv] []) := by intro _; rfl) : PGD X wd (.Subscript o i pos) [] (gSubD to ti f wd) := by
  refine ⟨fun pins s σ H F ρ S v d u k I r rv rd h => ?_⟩
  rw [ha]
  refine wpAny_bind (wpAny_holding (thn (ho.run pins s σ H F ρ S _ I r h) fun ov s1 ⟨x, H1, F1, dx, S1, I1, rx, g1, r1, rdx, q1⟩ => ?_))
  refine wpAny_bind (wpAny_holding (thn (hi.run pins s1 σ H1 F1 ρ S1 _ I1 r1 q1) fun iv s2 ⟨y, H2, F2, dy, S2, I2, ry, g2, r2, rdy, q2⟩ => ?_))
  obtain ⟨rr, hr, hq⟩ := hs F2 H2 S2 x y v dx dy d _ (fun H' => ∃ F' S', Go F H S F' H' S' ∧ Rel X.K wd F' σ H' ρ S' ∧ k ρ S') r2.h (R.mono g2.ex _ _ rdx) rdy (R.mono (g1.trans g2).ex _ _ rd) q2
    fun F' H' S' g r' q => ⟨F', S', (g1.trans g2).trans g, r2.up g r', q⟩
  refine wpAny_bind (wpAny_standAt (wpAny_bind (wpAny_holding (thn (hr pins s2 σ H2 x y v ov iv u _ I2 rx ry rv hq) fun _ s3 ⟨H3, I3, F3, S3, g3, r3, q3⟩ => ?_))))
  exact wpAny_release ⟨σ, H3, F3, ρ, S3, I3, g3, r3, Keeps.refl, q3⟩
end

/-! ### while -/
def dWhile (c : TTD) (tb : TSD) : TSD := fun wd E ρ S => ∃ W : Nat → Envd → Sto → Prop, (∃ m, W m ρ S) ∧ ∀ m ρ S, W m ρ S →
  c wd ρ S fun b S1 => if b = true then tb wd { nx := fun ρ' S' => ∃ m', m' < m ∧ W m' ρ' S', rt := E.rt, bk := E.nx, ct := fun ρ' S' => ∃ m', m' < m ∧ W m' ρ' S' } ρ S1 else E.nx ρ S1
section
variable {X : Cx} {wd : WD} {pos : Pos}
theorem psd_while {c : Expr} {body : List Stmt} {tc : TTD} {tb : TSD} (hp : PassesOwn (model X.prog X.w) X.A X.env X.xe) (hc : PTD X wd c tc) (hb : PSsD X wd body tb) : PSD X wd (.While c body [] pos) (dWhile tc tb) := by
  refine PS.psd (ps_while hp hc.pt hb.pss) fun σ H F ρ S E r ⟨W, ⟨m0, w0⟩, turn⟩ => ?_
  refine ⟨fun m σ' H' => ∃ F' ρ' S', Go F H S F' H' S' ∧ Rel X.K wd F' σ' H' ρ' S' ∧ W m ρ' S', ⟨m0, F, ρ, S, Go.refl, r, w0⟩, fun m σ1 H1 ⟨F1, ρ1, S1, g1, r1, w1⟩ => ?_⟩
  refine ⟨F1, ρ1, S1, _, r1, turn m ρ1 S1 w1, fun F2 b H2 S2 g2 r2 q2 => ?_⟩
  cases b with
  | true =>
    rw [if_pos rfl] at q2 ⊢
    refine ⟨fun σ' H' => ∃ m', m' < m ∧ ∃ F' ρ' S', Go F H S F' H' S' ∧ Rel X.K wd F' σ' H' ρ' S' ∧ W m' ρ' S', fun σ' H' z => z, F2, ρ1, S2, _, r2, q2, fun F5 σ5 H5 ρ5 S5 g5 r5 q5 => ?_, fun F5 σ5 H5 ρ5 S5 g5 r5 q5 => ?_, fun F5 σ5 H5 ρ5 S5 g5 r5 q5 => ?_, fun F5 v5 H5 d5 S5 g5 r5 rd5 q5 => ?_⟩
    · obtain ⟨m', hm, w⟩ := q5
      exact ⟨m', hm, F5, ρ5, S5, (g1.trans g2).trans g5, r5, w⟩
    · exact ⟨F5, ρ5, S5, (g1.trans g2).trans g5, r5, q5⟩
    · obtain ⟨m', hm, w⟩ := q5
      exact ⟨m', hm, F5, ρ5, S5, (g1.trans g2).trans g5, r5, w⟩
    · exact ⟨F5, d5, S5, (g1.trans g2).trans g5, r5, rd5, q5⟩
  | false =>
    rw [if_neg (by decide)] at q2 ⊢
    exact ⟨F2, ρ1, S2, g1.trans g2, r2, q2⟩
end
end Z

set_option Elab.async false
set_option linter.all false
set_option maxRecDepth 100000
set_option maxHeartbeats 4000000
namespace Z
open PySem PySem.Spec PyProof.Rows L2

/-! ### what is walked: a list or a tuple -/
def grd (d : D) (xs : List D) : Sto → Prop := match d with | .adr a => fun S => S a = some (.lst xs) | _ => fun _ => True
def iSq (te : TD) : TID := fun wd ρ S k => te wd ρ S fun d S1 => match vq S1 d with | some xs => k xs (grd d xs) S1 | none => False
section
variable {X : Cx} {wd : WD} {tg : Expr}
theorem pi_seq {l : Expr} {tl : TE} (hl : PE X l tl) : PI X tg l (fun σ H R => tl σ H fun x H1 => ∃ a, x = .ref a ∧ ((∃ xs, SqL X.K H1 a xs ∧ (xs.length ≤ sizeLine → R (Itl X.K a) H1)) ∨ (∃ xs, SqT X.K H1 a xs ∧ (xs.length ≤ sizeLine → R (Itt X.K a) H1)))) := by
  refine ⟨fun pins s σ H R I h => ?_⟩
  refine thn (hl.run pins s σ H _ I h) fun v s1 ⟨x, H1, I1, r1, q1⟩ => ?_
  obtain ⟨a, e, q1⟩ := q1
  subst e
  cases r1
  rcases q1 with ⟨xs, hq, q⟩ | ⟨xs, hq, q⟩
  · obtain ⟨its, rv, p, hz⟩ := I1.list hq
    refine wpAny_pyIter_list p.isList ?_
    refine ⟨s1.heap.objs.size, [s1.heap.objs.size], _, _, H1, rfl, I1.kept (t' := s1.toks) fun b o e => Heap.get?_push_of_some _ e, turn_list a _, ⟨_, Heap.get?_push_size _ rfl, rfl, rfl⟩, fun b hb => ?_, q hz⟩
    have e : b = s1.heap.objs.size := by simpa using hb
    subst e
    exact I1.fpOk (Nat.le_refl _) (I1.hok.fresh (Nat.le_refl _))
  · obtain ⟨its, rv, p, hz⟩ := I1.tuple hq
    refine wpAny_pyIter_tuple (show s1.heap.IsTuple a its.toArray from p) ?_
    refine ⟨s1.heap.objs.size, [s1.heap.objs.size], _, _, H1, rfl, I1.kept (t' := s1.toks) fun b o e => Heap.get?_push_of_some _ e, turn_tuple a _, ⟨_, Heap.get?_push_size _ rfl, rfl, rfl⟩, fun b hb => ?_, q hz⟩
    have e : b = s1.heap.objs.size := by simpa using hb
    subst e
    exact I1.fpOk (Nat.le_refl _) (I1.hok.fresh (Nat.le_refl _))
theorem SqL_fn {K : PySem.W.Frag} {H : Hp} {a : Addr} {xs ys : List V} {pins : List (Addr × Obj)} : True := True.intro
/-- the data at an address, whatever else happens -/
theorem keep_l {K : PySem.W.Frag} {F : Hp} {d : D} {xs : List D} {S : Sto} {H : Hp} {v : V} (r : RelH K F H S) (rd : R K F d v) (h : vl S d = some xs) : ∃ a, v = .ref a ∧ ∀ F' H' S', Ex F F' → RelH K F' H' S' → grd d xs S' → ∃ vs, SqL K H' a vs ∧ Rs K F' xs vs := by
  cases d with
  | lst ys =>
    cases h
    unfold R at rd
    obtain ⟨a, vs, e, h1, h2⟩ := rd
    exact ⟨a, e, fun F' H' S' e' r' _ => ⟨vs, SqL.of (r'.ex _ _ (e' _ _ h1)), Rs.mono e' _ _ h2⟩⟩
  | frl ys =>
    cases h
    unfold R at rd
    obtain ⟨a, vs, e, h1, h2⟩ := rd
    exact ⟨a, e, fun F' H' S' e' r' _ => ⟨vs, Evl.ex_l r'.ex (Evl.ex_l e' h1), Rs.mono e' _ _ h2⟩⟩
  | adr a =>
    unfold R at rd
    refine ⟨a, rd, fun F' H' S' e' r' g => ?_⟩
    obtain ⟨_, vs, h1, h2⟩ := r'.so a _ g
    exact ⟨vs, SqL.of h1, h2⟩
  | _ => exact nomatch h
theorem keep_t {K : PySem.W.Frag} {F : Hp} {xs : List D} {v : V} (rd : R K F (.tup xs) v) : ∃ a, v = .ref a ∧ ∀ F' H' S', Ex F F' → RelH K F' H' S' → ∃ vs, SqT K H' a vs ∧ Rs K F' xs vs := by
  unfold R at rd
  obtain ⟨a, vs, e, h1, h2⟩ := rd
  exact ⟨a, e, fun F' H' S' e' r' => ⟨vs, Evl.ex_t r'.ex (Evl.ex_t e' h1), Rs.mono e' _ _ h2⟩⟩
theorem itok_l {K : PySem.W.Frag} {F : Hp} {d : D} {xs : List D} {a : Addr} (hk : ∀ F' H' S', Ex F F' → RelH K F' H' S' → grd d xs S' → ∃ vs, SqL K H' a vs ∧ Rs K F' xs vs) : ItOk K (Itl K a) F xs (grd d xs) := by
  intro F' H' S' i e r g
  obtain ⟨vs, h1, h2⟩ := hk F' H' S' e r g
  refine ⟨fun hi => ⟨vs, h1, by rw [h2.length]; omega⟩, fun d hd => ?_⟩
  obtain ⟨v, q1, q2⟩ := h2.get hd
  refine ⟨⟨vs, v, h1, q1⟩, fun x H2 ⟨e2, hx⟩ => ?_⟩
  subst e2
  have := hx vs h1
  rw [q1] at this
  cases this
  exact ⟨F', Go.refl, r, q2⟩
theorem itok_t {K : PySem.W.Frag} {F : Hp} {xs : List D} {a : Addr} {G : Sto → Prop} (hk : ∀ F' H' S', Ex F F' → RelH K F' H' S' → ∃ vs, SqT K H' a vs ∧ Rs K F' xs vs) : ItOk K (Itt K a) F xs G := by
  intro F' H' S' i e r g
  obtain ⟨vs, h1, h2⟩ := hk F' H' S' e r
  refine ⟨fun hi => ⟨vs, h1, by rw [h2.length]; omega⟩, fun d hd => ?_⟩
  obtain ⟨v, q1, q2⟩ := h2.get hd
  refine ⟨⟨vs, v, h1, q1⟩, fun x H2 ⟨e2, hx⟩ => ?_⟩
  subst e2
  have := hx vs h1
  rw [q1] at this
  cases this
  exact ⟨F', Go.refl, r, q2⟩
theorem vq_cases {S : Sto} {d : D} {xs : List D} (h : vq S d = some xs) : d = .tup xs ∨ vl S d = some xs := by
  cases d with
  | tup ys => cases h; exact .inl rfl
  | lst ys => exact .inr h
  | frl ys => exact .inr h
  | adr a => exact .inr h
  | _ => exact nomatch h
theorem grdS {d : D} {xs : List D} {S : Sto} (h : vl S d = some xs) : grd d xs S := by
  cases d with
  | adr a =>
    unfold vl at h
    dsimp only at h
    split at h
    · rename_i ys q
      cases h
      exact q
    · exact nomatch h
  | _ => exact True.intro
theorem pid_seq {l : Expr} {te : TD} (hl : PD X wd l te) : PID X wd tg l (iSq te) := by
  refine ⟨_, pi_seq hl.pe, fun σ H F ρ S k P r h hP => ⟨F, ρ, S, _, r, h, fun F1 v H1 d S1 g1 r1 rd q => ?_⟩⟩
  split at q
  · rename_i xs hq
    rcases vq_cases hq with e | hl
    · subst e
      obtain ⟨a, e, hk⟩ := keep_t rd
      obtain ⟨vs, h1, h2⟩ := hk F1 H1 S1 (Evl.Ex.refl _) r1.h
      exact ⟨a, e, .inr ⟨vs, h1, fun hz => hP _ H1 F1 xs _ S1 g1 r1 (itok_t hk) (by rw [← h2.length]; exact hz) q⟩⟩
    · obtain ⟨a, e, hk⟩ := keep_l r1.h rd hl
      obtain ⟨vs, h1, h2⟩ := hk F1 H1 S1 (Evl.Ex.refl _) r1.h (grdS hl)
      exact ⟨a, e, .inl ⟨vs, h1, fun hz => hP _ H1 F1 xs _ S1 g1 r1 (itok_l hk) (by rw [← h2.length]; exact hz) q⟩⟩
  · exact q.elim
end

/-! ### ranges -/
def rng (lo : Int) : Nat → List D
  | 0 => []
  | n + 1 => .int lo :: rng (lo + 1) n
theorem rng_length : ∀ (lo : Int) (n : Nat), (rng lo n).length = n
  | _, 0 => rfl
  | lo, n + 1 => by unfold rng; rw [List.length_cons, rng_length]
theorem rng_get : ∀ (lo : Int) (n i : Nat) (d : D), (rng lo n)[i]? = some d → i < n ∧ d = .int (lo + i)
  | _, 0, i, d, h => by unfold rng at h; simp at h
  | lo, n + 1, i, d, h => by
    unfold rng at h
    cases i with
    | zero => simp at h; subst h; exact ⟨by omega, by simp⟩
    | succ i =>
      obtain ⟨h1, h2⟩ := rng_get (lo + 1) n i d (by simpa using h)
      exact ⟨by omega, by rw [h2]; congr 1; push_cast; omega⟩
def gT : Sto → Prop := fun _ => True
def iRg1 (t : TAD) : TID := fun wd ρ S k => t wd ρ S fun ds S1 => match ds with | [.int j] => -(2 ^ 62) ≤ j ∧ j ≤ 16777216 ∧ k (rng 0 j.toNat) gT S1 | _ => False
def iRg2 (t : TAD) : TID := fun wd ρ S k => t wd ρ S fun ds S1 => match ds with | [.int i, .int j] => -(2 ^ 62) ≤ i ∧ i < 2 ^ 62 ∧ -(2 ^ 62) ≤ j ∧ j < 2 ^ 62 ∧ j - i ≤ 16777216 ∧ k (rng i (j - i).toNat) gT S1 | _ => False
theorem itok_r {K : PySem.W.Frag} {F : Hp} {lo : Int} {n : Nat} : ItOk K (Itr lo n) F (rng lo n) gT := by
  intro F' H' S' i e r _
  refine ⟨fun hi => ?_, fun d hd => ?_⟩
  · rw [rng_length] at hi
    show n ≤ i
    omega
  · obtain ⟨h1, h2⟩ := rng_get lo n i d hd
    refine ⟨h1, fun x H2 ⟨e2, hx⟩ => ?_⟩
    subst e2 h2
    exact ⟨F', Go.refl, r, by unfold R; exact hx⟩
section
variable {X : Cx} {wd : WD} {tg : Expr}
theorem pid_range1 {a : Expr} {t : TAD} {p pos : Pos} (hm : X.mg "range" = none) (ha : PAD X wd [a] t) (hg : Gl X "range" := by rfl) (hs : starEach [a] X.env = [(false, eval a X.env)] := by rfl) : PID X wd tg (.Call (.Name "range" p) [a] [] pos) (iRg1 t) := by
  refine ⟨_, pi_range1 hg hm ha.pa hs, fun σ H F ρ S k P r h hP => ⟨F, ρ, S, _, r, h, fun F1 vs H1 ds S1 g1 r1 rs q => ?_⟩⟩
  split at q
  · rename_i j
    obtain ⟨v, rfl, rd⟩ := rs.one
    unfold R at rd
    subst rd
    obtain ⟨q0, q1, q2⟩ := q
    exact ⟨j, rfl, q0, by omega, hP _ H1 F1 _ _ S1 g1 r1 itok_r (by rw [rng_length, sizeLine_eq]; omega) q2⟩
  · exact q.elim
theorem pid_range2 {a b : Expr} {t : TAD} {p pos : Pos} (hm : X.mg "range" = none) (ha : PAD X wd [a, b] t) (hg : Gl X "range" := by rfl) (hs : starEach [a, b] X.env = [(false, eval a X.env), (false, eval b X.env)] := by rfl) (hs2 : starEach [b] X.env = [(false, eval b X.env)] := by rfl) :
    PID X wd tg (.Call (.Name "range" p) [a, b] [] pos) (iRg2 t) := by
  refine ⟨_, pi_range2 hg hm ha.pa hs hs2, fun σ H F ρ S k P r h hP => ⟨F, ρ, S, _, r, h, fun F1 vs H1 ds S1 g1 r1 rs q => ?_⟩⟩
  split at q
  · rename_i i j
    obtain ⟨v, w, rfl, rd, re⟩ := rs.two
    unfold R at rd re
    subst rd re
    obtain ⟨q0, q1, q2, q3, q4, q5⟩ := q
    exact ⟨i, j, rfl, ⟨q0, q1, q2, q3⟩, hP _ H1 F1 _ _ S1 g1 r1 itok_r (by rw [rng_length, sizeLine_eq]; omega) q5⟩
  · exact q.elim
end

/-! ### enumerate, zip -/
def enm (i : Int) : List D → List D
  | [] => []
  | x :: xs => .tup [.int i, x] :: enm (i + 1) xs
def zpd : List D → List D → List D
  | x :: xs, y :: ys => .tup [x, y] :: zpd xs ys
  | _, _ => []
theorem enm_length : ∀ (i : Int) (xs : List D), (enm i xs).length = xs.length
  | _, [] => rfl
  | i, x :: xs => by unfold enm; rw [List.length_cons, enm_length, List.length_cons]
theorem enm_get : ∀ (lo : Int) (xs : List D) (i : Nat) (d : D), (enm lo xs)[i]? = some d → ∃ x, xs[i]? = some x ∧ d = .tup [.int (lo + i), x]
  | _, [], i, d, h => by unfold enm at h; simp at h
  | lo, x :: xs, i, d, h => by
    unfold enm at h
    cases i with
    | zero => simp at h; subst h; exact ⟨x, rfl, by simp⟩
    | succ i =>
      obtain ⟨y, h1, h2⟩ := enm_get (lo + 1) xs i d (by simpa using h)
      exact ⟨y, by simpa using h1, by rw [h2]; congr 3; push_cast; omega⟩
theorem zpd_get : ∀ (xs ys : List D) (i : Nat) (d : D), (zpd xs ys)[i]? = some d → ∃ x y, xs[i]? = some x ∧ ys[i]? = some y ∧ d = .tup [x, y]
  | x :: xs, y :: ys, i, d, h => by
    unfold zpd at h
    cases i with
    | zero => simp at h; subst h; exact ⟨x, y, rfl, rfl, rfl⟩
    | succ i =>
      obtain ⟨a, b, h1, h2, h3⟩ := zpd_get xs ys i d (by simpa using h)
      exact ⟨a, b, by simpa using h1, by simpa using h2, h3⟩
  | [], _, i, d, h => by unfold zpd at h; simp at h
  | _ :: _, [], i, d, h => by unfold zpd at h; simp at h
theorem zpd_length : ∀ (xs ys : List D), (zpd xs ys).length = min xs.length ys.length
  | x :: xs, y :: ys => by unfold zpd; rw [List.length_cons, zpd_length, List.length_cons, List.length_cons]; omega
  | [], ys => by unfold zpd; simp
  | _ :: _, [] => by unfold zpd; simp
theorem newTup {K : PySem.W.Frag} {F H : Hp} {S : Sto} {ds : List D} {vs : List V} {p : Addr} (r : RelH K F H S) (rs : Rs K F ds vs) (hp : H p = none) : ∃ F', Go F H S F' (upd H p (.tup vs)) S ∧ RelH K F' (upd H p (.tup vs)) S ∧ R K F' (.tup ds) (.ref p) := by
  obtain ⟨n1, n2⟩ := r.newF (o := .tup vs) hp
  exact ⟨_, Go.newF n2 hp, n1, by unfold R; exact ⟨p, vs, rfl, SqT.of upd_same, Rs.mono n2 _ _ rs⟩⟩
def iEn (t : TAD) : TID := fun wd ρ S k => t wd ρ S fun ds S1 => match ds with | [d] => (match vl S1 d with | some xs => xs.length ≤ sizeLine ∧ k (enm 0 xs) (grd d xs) S1 | none => False) | _ => False
def iZp (t : TAD) : TID := fun wd ρ S k => t wd ρ S fun ds S1 => match ds with
  | [.tup xs, .tup ys] => xs.length ≤ sizeLine ∧ k (zpd xs ys) gT S1
  | [d, e] => (match vl S1 d, vl S1 e with | some xs, some ys => xs.length ≤ sizeLine ∧ k (zpd xs ys) (fun S => grd d xs S ∧ grd e ys S) S1 | _, _ => False)
  | _ => False
section
variable {X : Cx} {wd : WD} {elts : List Expr} {kk : Nat} {tpos p pos : Pos} {t : TAD} {e e2 : Expr}
theorem pid_enum (hm : X.mg "enumerate" = none) (ha : PAD X wd [e] t) (hg : Gl X "enumerate" := by rfl) (hs : starEach [e] X.env = [(false, eval e X.env)] := by rfl) :
    PID X wd (.Tuple elts kk tpos) (.Call (.Name "enumerate" p) [e] [] pos) (iEn t) := by
  refine ⟨_, pi_enum hg hm ha.pa hs, fun σ H F ρ S k P r h hP => ⟨F, ρ, S, _, r, h, fun F1 vs H1 ds S1 g1 r1 rs q => ?_⟩⟩
  split at q
  · rename_i d
    obtain ⟨v, rfl, rd⟩ := rs.one
    split at q
    · rename_i xs hl
      obtain ⟨a, e, hk⟩ := keep_l r1.h rd hl
      obtain ⟨vs, h1, h2⟩ := hk F1 H1 S1 (Evl.Ex.refl _) r1.h (grdS hl)
      subst e
      refine ⟨a, vs, rfl, h1, hP _ H1 F1 _ _ S1 g1 r1 ?_ (by rw [enm_length]; exact q.1) q.2⟩
      intro F' H' S' i e r g
      obtain ⟨ws, h1, h2⟩ := hk F' H' S' e r g
      refine ⟨fun hi => ⟨ws, h1, by rw [h2.length]; rw [enm_length] at hi; omega⟩, fun d hd => ?_⟩
      obtain ⟨x, e1, e2⟩ := enm_get 0 xs i d hd
      obtain ⟨v, q1, q2⟩ := h2.get e1
      refine ⟨⟨ws, v, h1, q1⟩, fun z H2 ⟨T, y, ez, hT, eH, hx⟩ => ?_⟩
      have := hx ws h1
      rw [q1] at this
      cases this
      subst ez eH e2
      obtain ⟨F2, g2, r2, rd2⟩ := newTup r (Rs.cons (d := .int (i : Nat)) (v := .int (i : Nat)) (by unfold R; rfl) (Rs.cons q2 Rs.nil)) hT
      exact ⟨F2, g2, r2, by rw [Int.zero_add]; exact rd2⟩
    · exact q.elim
  · exact q.elim
theorem pid_zip (hm : X.mg "zip" = none) (ha : PAD X wd [e, e2] t) (hg : Gl X "zip" := by rfl) (hs : starEach [e, e2] X.env = (false, eval e X.env) :: starEach [e2] X.env := by rfl) (hpl : (backTo pos (starEach [e2] X.env)).any (·.1) = false := by rfl) :
    PID X wd (.Tuple elts kk tpos) (.Call (.Name "zip" p) [e, e2] [] pos) (iZp t) := by
  refine ⟨_, RZ.pi_zipA hg hm ha.pa hs hpl, fun σ H F ρ S k P r h hP => ⟨F, ρ, S, _, r, h, fun F1 vs H1 ds S1 g1 r1 rs q => ?_⟩⟩
  split at q
  · rename_i xs ys
    obtain ⟨v, w, rfl, rd, re⟩ := rs.two
    obtain ⟨a, e, hk⟩ := keep_t rd
    obtain ⟨b, e', hk'⟩ := keep_t re
    subst e e'
    obtain ⟨vs, h1, h2⟩ := hk F1 H1 S1 (Evl.Ex.refl _) r1.h
    obtain ⟨ws, h1', h2'⟩ := hk' F1 H1 S1 (Evl.Ex.refl _) r1.h
    refine ⟨a, b, vs, ws, rfl, .inr ⟨h1, h1', hP _ H1 F1 _ _ S1 g1 r1 ?_ (by rw [zpd_length]; have := q.1; omega) q.2⟩⟩
    intro F' H' S' i e r g
    obtain ⟨us, h1, h2⟩ := hk F' H' S' e r
    obtain ⟨ws, h1', h2'⟩ := hk' F' H' S' e r
    refine ⟨fun hi => ⟨us, ws, h1, h1', by rw [h2.length, h2'.length]; rw [zpd_length] at hi; omega⟩, fun d hd => ?_⟩
    obtain ⟨x, y, e1, e1', e2⟩ := zpd_get xs ys i d hd
    obtain ⟨v, q1, q2⟩ := h2.get e1
    obtain ⟨w, q1', q2'⟩ := h2'.get e1'
    refine ⟨⟨us, ws, v, w, h1, h1', q1, q1'⟩, fun z H2 ⟨T, x2, y2, ez, hT, eH, hx, hy⟩ => ?_⟩
    have := hx us h1
    rw [q1] at this
    cases this
    have := hy ws h1'
    rw [q1'] at this
    cases this
    subst ez eH e2
    exact newTup r (Rs.cons q2 (Rs.cons q2' Rs.nil)) hT
  · rename_i d d'
    obtain ⟨v, w, rfl, rd, re⟩ := rs.two
    split at q
    · rename_i xs ys hl hl'
      obtain ⟨a, e, hk⟩ := keep_l r1.h rd hl
      obtain ⟨b, e', hk'⟩ := keep_l r1.h re hl'
      subst e e'
      obtain ⟨vs, h1, h2⟩ := hk F1 H1 S1 (Evl.Ex.refl _) r1.h (grdS hl)
      obtain ⟨ws, h1', h2'⟩ := hk' F1 H1 S1 (Evl.Ex.refl _) r1.h (grdS hl')
      refine ⟨a, b, vs, ws, rfl, .inl ⟨h1, h1', hP _ H1 F1 _ _ S1 g1 r1 ?_ (by rw [zpd_length]; have := q.1; omega) q.2⟩⟩
      intro F' H' S' i e r ⟨g, g'⟩
      obtain ⟨us, h1, h2⟩ := hk F' H' S' e r g
      obtain ⟨ws, h1', h2'⟩ := hk' F' H' S' e r g'
      refine ⟨fun hi => ⟨us, ws, h1, h1', by rw [h2.length, h2'.length]; rw [zpd_length] at hi; omega⟩, fun d hd => ?_⟩
      obtain ⟨x, y, e1, e1', e2⟩ := zpd_get xs ys i d hd
      obtain ⟨v, q1, q2⟩ := h2.get e1
      obtain ⟨w, q1', q2'⟩ := h2'.get e1'
      refine ⟨⟨us, ws, v, w, h1, h1', q1, q1'⟩, fun z H2 ⟨T, x2, y2, ez, hT, eH, hx, hy⟩ => ?_⟩
      have := hx us h1
      rw [q1] at this
      cases this
      have := hy ws h1'
      rw [q1'] at this
      cases this
      subst ez eH e2
      exact newTup r (Rs.cons q2 (Rs.cons q2' Rs.nil)) hT
    · exact q.elim
  · exact q.elim
end

/-! ### isinstance -/
def tyN (S : Sto) : D → Option String
  | .non => some "NoneType"
  | .bl _ => some "bool"
  | .int _ => some "int"
  | .str _ => some "str"
  | .tup _ => some "tuple"
  | .lst _ => some "list"
  | .frl _ => some "list"
  | .dic _ _ => some "dict"
  | .dlk _ _ => some "dict"
  | .set _ => some "set"
  | .adr a => (match S a with | some (.lst _) => some "list" | some (.dic _ _) => some "dict" | some (.set _) => some "set" | _ => none)
  | _ => none
theorem dic_ty {K : PySem.W.Frag} {H : Hp} {a : Addr} {ks : List D} {vs : List V} (h : DicAt H a ks vs) : TyX K H (.ref a) (.type "dict") := by
  obtain ⟨kvs, h, _⟩ := h
  exact .base (.dK h)
theorem sqt_ty {K : PySem.W.Frag} {H : Hp} {a : Addr} {vs : List V} (h : SqT K H a vs) : TyX K H (.ref a) (.type "tuple") := by
  rcases h with h | ⟨o, its, n, h1, h2, _⟩
  · rcases h with h | ⟨o, h⟩
    · exact .base (.tup h)
    · exact .fTuple h
  · exact .kTuple h1 h2
theorem sql_ty {K : PySem.W.Frag} {H : Hp} {a : Addr} {vs : List V} (h : SqL K H a vs) : TyX K H (.ref a) (.type "list") := by
  rcases h with h | ⟨o, its, n, h1, h2, _⟩
  · rcases h with h | ⟨o, h⟩
    · exact .base (.lst h)
    · exact .base (.frz h)
  · exact .kList h1 h2
theorem ty_of {K : PySem.W.Frag} {F H : Hp} {S : Sto} {d : D} {v : V} {T : String} (r : RelH K F H S) (rd : R K F d v) (h : tyN S d = some T) : TyX K H v (.type T) := by
  cases d with
  | non => cases h; unfold R at rd; subst rd; exact .base .non
  | bl => cases h; unfold R at rd; subst rd; exact .base (.bl _)
  | int => cases h; unfold R at rd; subst rd; exact .base (.int _)
  | str => cases h; unfold R at rd; subst rd; exact .base (.str _)
  | tup => cases h; obtain ⟨a, vs, e, h1, _⟩ := tup_at r rd; subst e; exact sqt_ty h1
  | lst ys => cases h; obtain ⟨a, vs, e, h1, _⟩ := vl_at (xs := ys) r rd rfl; subst e; exact sql_ty h1
  | frl ys => cases h; obtain ⟨a, vs, e, h1, _⟩ := vl_at (xs := ys) r rd rfl; subst e; exact sql_ty h1
  | dic ks vs => cases h; unfold R at rd; obtain ⟨a, vs, e, h1, _⟩ := rd; subst e; exact dic_ty (h1.mono r.ex)
  | set xs => cases h; unfold R at rd; obtain ⟨a, vs, e, h1, _⟩ := rd; subst e; exact .set (r.ex _ _ h1)
  | dlk ks vs => cases h; unfold R at rd; obtain ⟨a, o, vs, e, h1, _⟩ := rd; subst e; obtain ⟨kvs, h1, _⟩ := h1; exact .fDict (r.ex _ _ h1)
  | adr a =>
    unfold R at rd
    subst rd
    unfold tyN at h
    dsimp only at h
    split at h
    · rename_i ys q; cases h; obtain ⟨_, vs, h1, _⟩ := r.so a _ q; exact .base (.lst h1)
    · rename_i ks ys q; cases h; obtain ⟨_, vs, h1, _⟩ := r.so a _ q; exact dic_ty h1
    · rename_i ys q; cases h; obtain ⟨_, vs, h1, _⟩ := r.so a _ q; exact .set h1
    · cases h
  | _ => exact nomatch h
/-- isinstance(x, T), isinstance(x, (T, U)): built-in types -/
def tys : List D → Option (List String)
  | [] => some []
  | .ty n :: ds => (tys ds).map (n :: ·)
  | _ :: _ => none
def kitA (a : String) : List String → Option Bool
  | [] => some false
  | b :: bs => match kitB a b with | some true => some true | some false => kitA a bs | none => none
theorem kitA_ok {K : PySem.W.Frag} {a : String} : ∀ {bs : List String} {r : Bool}, kitA a bs = some r → PySem.W.kitAny K (.type a) (bs.map Value.type) = some r
  | [], r, h => by cases h; rfl
  | b :: bs, r, h => by
    unfold kitA at h
    rw [List.map_cons]
    split at h
    · rename_i e; cases h; exact kitAny_cons (kit_ty e) (fun z => nomatch z) (fun _ => rfl)
    · rename_i e; exact kitAny_cons (kit_ty e) (fun _ => kitA_ok h) (fun z => nomatch z)
    · cases h
theorem tys_eq : ∀ {ds : List D} {ns : List String}, tys ds = some ns → ds = ns.map D.ty
  | [], ns, h => by unfold tys at h; cases h; rfl
  | .ty i :: ds, ns, h => by
    unfold tys at h
    rw [Option.map_eq_some_iff] at h
    obtain ⟨ms, e1, e2⟩ := h
    subst e2
    rw [tys_eq e1]; rfl
  | .non :: _, _, h => nomatch h
  | .bl _ :: _, _, h => nomatch h
  | .int _ :: _, _, h => nomatch h
  | .str _ :: _, _, h => nomatch h
  | .adr _ :: _, _, h => nomatch h
  | .tup _ :: _, _, h => nomatch h
  | .lst _ :: _, _, h => nomatch h
  | .frl _ :: _, _, h => nomatch h
  | .dic _ _ :: _, _, h => nomatch h
  | .set _ :: _, _, h => nomatch h
  | .obj _ _ _ :: _, _, h => nomatch h
theorem Rs.tys {K : PySem.W.Frag} {F : Hp} : ∀ {ns : List String} {vs : List V}, Rs K F (ns.map D.ty) vs → vs = ns.map V.ty
  | [], vs, h => by rw [List.map_nil] at h; unfold Rs at h; exact h
  | n :: ns, vs, h => by
    rw [List.map_cons] at h
    unfold Rs at h
    obtain ⟨v, vs', e, h1, h2⟩ := h
    unfold R at h1
    rw [e, h1, Rs.tys h2]; rfl
def cIsi (ds : List D) (S : Sto) (k : KD) : Prop := match ds with
  | [d, .ty T] => (match tyN S d with | some t => (match kitB t T with | some b => k (.bl b) S | none => False) | none => False)
  | [d, .tup cs] => (match tyN S d, tys cs with | some t, some ts => (match kitA t ts with | some b => k (.bl b) S | none => False) | _, _ => False)
  | _ => False
section
variable {X : Cx}
theorem vals_ty : ∀ {ns : List String} {us : List Value}, Vals (ns.map V.ty) us → us = ns.map Value.type
  | [], us, h => by rw [List.map_nil] at h; cases h; rfl
  | n :: ns, us, h => by
    rw [List.map_cons] at h
    cases h with
    | cons r t =>
      rw [vals_ty t]
      have : _ = Value.type n := r
      rw [this]; rfl
theorem call_isiSq : CallR X (.builtin "isinstance") (fun xs H Q => ∃ (x : V) (tp : Addr) (ns : List String) (t : Value) (b : Bool), xs = [x, .ref tp] ∧ SqT X.K H tp (ns.map V.ty) ∧ TyX X.K H x t ∧ PySem.W.kitAny X.K t (ns.map Value.type) = some b ∧ Q (.bl b) H) := by
  intro pins s σ H xs us Q I r h
  obtain ⟨x, tp, ns, t, b, rfl, hT, ty, e, q⟩ := h
  obtain ⟨u1, u2, rfl, r1, r2⟩ := vals2 r
  cases (show u2 = Value.ref tp from r2)
  obtain ⟨P, Z, p, hx⟩ := kit_of I r1 ty
  obtain ⟨its, rv, ⟨o, h1, h2, n, h3⟩, _⟩ := I.tuple hT
  have e3 := vals_ty rv
  subst e3
  obtain ⟨oc, od, dt, sl⟩ := o
  simp only at h2 h3
  subst h2 h3
  exact PySem.W.kia_tup Z I.kIn p h1 e hx fun tk => ⟨.bl b, H, I.tok tk, rfl, q⟩
theorem cd_isi : ClD X (.builtin "isinstance") cIsi := by
  intro F H S vs ds k Q rh rs h hk
  unfold cIsi at h
  split at h
  · obtain ⟨v, w, rfl, rd, re⟩ := rs.two
    unfold R at re
    subst re
    split at h
    · rename_i t ht
      split at h
      · rename_i b hb
        exact ⟨_, call_isi, v, _, _, _, b, rfl, .ty _, ty_of rh rd ht, kit_ty hb, hk F _ H (.bl b) S Go.refl rh (by unfold R; rfl) h⟩
      · exact h.elim
    · exact h.elim
  · rename_i cs
    obtain ⟨v, w, rfl, rd, re⟩ := rs.two
    split at h
    · rename_i t ts ht hts
      split at h
      · rename_i b hb
        obtain ⟨tp, us, e, h1, h2⟩ := tup_at rh re
        rw [tys_eq hts] at h2
        rw [h2.tys] at h1
        exact ⟨_, call_isiSq, v, tp, ts, _, b, by rw [e], h1, ty_of rh rd ht, kitA_ok hb, hk F _ H (.bl b) S Go.refl rh (by unfold R; rfl) h⟩
      · exact h.elim
    · exact h.elim
  · exact h.elim
end
end Z

set_option Elab.async false
set_option linter.all false
set_option maxRecDepth 100000
set_option maxHeartbeats 4000000
namespace Z
open PySem PySem.Spec PyProof.Rows L2

section
variable {prog : Program} {w : World} {A : Around} {E : Value → Shared → Prop} {s : Shared}
theorem draw_list {it t : Addr} {items : Array Value} (hne : t ≠ it) : ∀ (n i : Nat) (s : Shared) (Q : List Value → Shared → Prop), s.heap.IsListIter it t i → s.heap.IsList t items → i + n ≤ items.size →
    (∀ h', h'.IsListIter it t (i + n) → Heap.SameBut it s.heap h' → Q ((items.toList.drop i).take n) { s with heap := h' }) → wpAny (model prog w) A (draw (.ref it) n) Q E s
  | 0, i, s, Q, hit, _, _, hQ => by
    show wpAny _ _ (pure []) Q E s
    exact wpAny_pure (by simpa using hQ s.heap hit (Heap.SameBut.refl ..))
  | n + 1, i, s, Q, hit, ht, hle, hQ => by
    have hlt : i < items.size := by omega
    show wpAny _ _ (pyNext (.ref it) >>= _) Q E s
    refine wpAny_bind (wpAny_pyNext_list_item hit ht (x := items[i]) (by simp [hlt]) fun h₁ hit₁ hs₁ => ?_)
    refine wpAny_bind (wpAny_holding (draw_list hne n (i + 1) _ _ hit₁ (ht.extBut hs₁.extBut hne) (by omega) fun h₂ hit₂ hs₂ => wpAny_pure ?_))
    have hd : items.toList.drop i = items[i] :: items.toList.drop (i + 1) := by simp [List.drop_eq_getElem_cons, hlt]
    have := hQ h₂ (by rw [show i + (n + 1) = i + 1 + n by omega]; exact hit₂) (hs₁.trans hs₂)
    rw [hd, List.take_succ_cons] at this
    exact this
theorem unpackItems_list {t : Addr} {items : Array Value} {Q : List Value → Shared → Prop} (hh : A.handled = none) (ht : s.heap.IsList t items)
    (hQ : ∀ h', Heap.ExtBut s.heap.objs.size s.heap h' → Q items.toList { s with heap := h' }) : wpAny (model prog w) A (unpackItems (.ref t) items.size none) Q E s := by
  have hlt : t ≠ s.heap.objs.size := by obtain ⟨o, ho, _⟩ := ht; exact Nat.ne_of_lt (Heap.lt_size ho)
  unfold unpackItems
  refine wpAny_bind ?_
  · unfold notIterableAtAll
    refine wpAny_bind (wpAny_specialOf ht.typeIs PySem.slot_list_iter.lookup ?_)
    refine wpAny_pure ?_
    simp only [Bool.false_eq_true, if_false]
    refine wpAny_bind (wpAny_holding (wpAny_pyIter_list ht ?_))
    refine wpAny_bind (wpAny_holding (draw_list hlt items.size 0 _ _ ⟨_, Heap.get?_push_size _ rfl, rfl, rfl⟩ (ht.push _) (by omega) fun h₁ hit₁ hs₁ => ?_))
    have hall : List.take items.size (List.drop 0 items.toList) = items.toList := by
      rw [List.drop_zero]; exact List.take_of_length_le (by simp)
    rw [hall]
    rw [if_neg (by simp)]
    have ht₁ : h₁.IsList t items := (ht.push _).extBut hs₁.extBut hlt
    refine wpAny_bind (wpAny_holding (wpAny_pyNext_list_end hh hit₁ ht₁ (by simp) fun h₂ he₂ => ?_))
    simp only [Option.isSome_none, Bool.false_eq_true, if_false]
    refine wpAny_pure (hQ h₂ fun b o hb e => he₂ b o hb (hs₁.extBut b o hb (Heap.get?_push_of_some _ e)))
theorem assign_Tuple_list {env : Env} {elts : List Expr} {x1} {pos : Pos} {t : Addr} {items : Array Value} {Q : Unit → Shared → Prop} (hh : A.handled = none) (ht : s.heap.IsList t items)
    (hn : (assignEach elts env).length = items.size) (hstar : (assignEach elts env).findIdx? (·.1) = none)
    (h : ∀ h', Heap.ExtBut s.heap.objs.size s.heap h' → wpAny (model prog w) A (assignInOrder ((assignEach elts env).map (·.2)) items.toList) Q E { s with heap := h' }) :
    wpAny (model prog w) A (assign (.Tuple elts x1 pos) env (.ref t)) Q E s := by
  rw [assign_Tuple]
  refine wpAny_bind (wpAny_standAt ?_)
  unfold unpack
  rw [hn, hstar]
  exact wpAny_bind (wpAny_holding (unpackItems_list hh ht h))
/-- a walk from its k-th turn on -/
theorem walks_from {I : Addr} {fp wr : List Addr} {n : Nat} {P : Nat → Value → Prop} {St : Nat → Heap → Prop} (W : Walks prog w A I fp wr n P St) (k : Nat) (hk : k ≤ n) : Walks prog w A I fp wr (n - k) (fun i => P (k + i)) (fun i => St (k + i)) where
  sub := W.sub
  frame := fun i => W.frame (k + i)
  item := fun i s Q E hi st hQ => W.item (k + i) s Q E (by omega) st hQ
  done := fun s Q E st hQ => W.done s Q E (by have e : k + (n - k) = n := by omega
                                              rw [e] at st; exact st) hQ
  self := fun i => W.self (k + i)
theorem items_rest {P : Nat → Value → Prop} {acc : Array Value} {items : Array Value} {k : Nat} (hk : k ≤ items.size) (hP : ∀ i v, P i v → items[k + i]? = some v) (h : ItemsOf P acc (items.size - k)) : acc.toList = items.toList.drop k := by
  obtain ⟨h1, h2⟩ := h
  apply List.ext_getElem?
  intro i
  rw [List.getElem?_drop, Array.getElem?_toList, Array.getElem?_toList]
  cases e : acc[i]? with
  | some v => exact (hP i v (h2 i v e)).symm
  | none =>
    have hi : acc.size ≤ i := by simpa using e
    exact (Array.getElem?_eq_none (by omega)).symm
/-- x, *rest = a list, a tuple -/
theorem unpackItems_starL {t : Addr} {items : Array Value} {x : Value} {Q : List Value → Shared → Prop} (hh : A.handled = none) (ht : s.heap.IsList t items) (h0 : items[0]? = some x) (hz : items.size ≤ sizeLine)
    (hQ : ∀ (h' : Heap) (tk : Nat), (∀ b o, s.heap.get? b = some o → h'.get? b = some o) → Q [x, .ref h'.objs.size] { s with heap := h'.push { cls := .type "list", data := .seq (items.toList.drop 1).toArray }, toks := tk }) :
    wpAny (model prog w) A (unpackItems (.ref t) 2 (some 1)) Q E s := by
  have hlt : t ≠ s.heap.objs.size := by obtain ⟨o, ho, _⟩ := ht; exact Nat.ne_of_lt (Heap.lt_size ho)
  have hsz : 0 < items.size := by
    rcases Nat.lt_or_ge 0 items.size with h | h
    · exact h
    · rw [Array.getElem?_eq_none h] at h0; cases h0
  unfold unpackItems
  refine wpAny_bind ?_
  · unfold notIterableAtAll
    refine wpAny_bind (wpAny_specialOf ht.typeIs PySem.slot_list_iter.lookup ?_)
    refine wpAny_pure ?_
    simp only [Bool.false_eq_true, if_false]
    refine wpAny_bind (wpAny_holding (wpAny_pyIter_list ht ?_))
    refine wpAny_bind (wpAny_holding (draw_list hlt 1 0 _ _ ⟨_, Heap.get?_push_size _ rfl, rfl, rfl⟩ (ht.push _) (by omega) fun h₁ hit₁ hs₁ => ?_))
    have hone : List.take 1 (List.drop 0 items.toList) = [x] := by
      rw [List.drop_zero]
      have : items.toList[0]? = some x := by rw [Array.getElem?_toList]; exact h0
      cases e : items.toList with
      | nil => rw [e] at this; simp at this
      | cons y l => rw [e] at this; simp at this; subst this; rfl
    rw [hone]
    rw [if_neg (by simp)]
    have ht₁ : h₁.IsList t items := (ht.push _).extBut hs₁.extBut hlt
    have hI : s.heap.objs.size < h₁.objs.size := by obtain ⟨o, ho, _⟩ := hit₁; exact Heap.lt_size ho
    have htl : t < h₁.objs.size := by obtain ⟨o, ho, _⟩ := ht₁; exact Heap.lt_size ho
    refine wpAny_bind (wpAny_holding (wpAny_collect_iter (T := "list_iterator") (.inr (.inr (.inl rfl))) (walks_from (Walks.list (A := A.in1) hh s.heap.objs.size t hlt items) 1 hsz).toS
      (fun i s' st => st.1.typeIs) ⟨hit₁, ht₁⟩ (fun b hb => ?_) (by simp) (fun s' acc hm hacc => ?_) (by omega)))
    · have e : b = s.heap.objs.size ∨ b = t := by simpa using hb
      rcases e with e | e
      · rw [e]; exact hI
      · rw [e]; exact htl
    · have hrest := items_rest hsz (fun i v h => h) hacc
      rw [hrest]
      simp only [Nat.sub_self, Nat.sub_zero, Nat.not_lt_zero, if_false]
      have keep : ∀ b o, s.heap.get? b = some o → s'.heap.get? b = some o := fun b o e => hm.heap b o (by simp only [List.mem_singleton]; exact Nat.ne_of_lt (Heap.lt_size e)) (hs₁.extBut b o (Nat.ne_of_lt (Heap.lt_size e)) (Heap.get?_push_of_some _ e))
      have es : s' = { s with heap := s'.heap, toks := s'.toks } := by
        obtain ⟨_, q1, q2, q3, _⟩ := hm
        cases s'
        cases s
        simp only at q1 q2 q3
        subst q1 q2 q3
        rfl
      rw [es]
      refine wpAny_bind (wpAny_newList ?_)
      refine wpAny_pure ?_
      have := hQ s'.heap s'.toks keep
      have e1 : ∀ l : List Value, List.take l.length l = l := fun l => List.take_length
      have e2 : ∀ l : List Value, List.drop l.length l = [] := fun l => List.drop_length
      rw [e1, e2, List.append_nil]
      exact this
theorem unpackItems_starT {t : Addr} {items : Array Value} {x : Value} {Q : List Value → Shared → Prop} (hh : A.handled = none) (ht : s.heap.IsTuple t items) (h0 : items[0]? = some x) (hz : items.size ≤ sizeLine)
    (hQ : ∀ (h' : Heap) (tk : Nat), (∀ b o, s.heap.get? b = some o → h'.get? b = some o) → Q [x, .ref h'.objs.size] { s with heap := h'.push { cls := .type "list", data := .seq (items.toList.drop 1).toArray }, toks := tk }) :
    wpAny (model prog w) A (unpackItems (.ref t) 2 (some 1)) Q E s := by
  have hlt : t ≠ s.heap.objs.size := by obtain ⟨o, ho, _⟩ := ht; exact Nat.ne_of_lt (Heap.lt_size ho)
  have hsz : 0 < items.size := by
    rcases Nat.lt_or_ge 0 items.size with h | h
    · exact h
    · rw [Array.getElem?_eq_none h] at h0; cases h0
  unfold unpackItems
  refine wpAny_bind ?_
  · unfold notIterableAtAll
    refine wpAny_bind (wpAny_specialOf ht.typeIs slot_tuple_iter.lookup ?_)
    refine wpAny_pure ?_
    simp only [Bool.false_eq_true, if_false]
    refine wpAny_bind (wpAny_holding (wpAny_pyIter_tuple ht ?_))
    refine wpAny_bind (wpAny_holding (wpAny_draw_tuple hlt 1 0 _ _ ⟨_, Heap.get?_push_size _ rfl, rfl, rfl⟩ (ht.push _) (by omega) fun h₁ hit₁ hs₁ => ?_))
    have hone : List.take 1 (List.drop 0 items.toList) = [x] := by
      rw [List.drop_zero]
      have : items.toList[0]? = some x := by rw [Array.getElem?_toList]; exact h0
      cases e : items.toList with
      | nil => rw [e] at this; simp at this
      | cons y l => rw [e] at this; simp at this; subst this; rfl
    rw [hone]
    rw [if_neg (by simp)]
    have ht₁ : h₁.IsTuple t items := (ht.push _).extBut hs₁.extBut hlt
    have hI : s.heap.objs.size < h₁.objs.size := by obtain ⟨o, ho, _⟩ := hit₁; exact Heap.lt_size ho
    have htl : t < h₁.objs.size := by obtain ⟨o, ho, _⟩ := ht₁; exact Heap.lt_size ho
    refine wpAny_bind (wpAny_holding (wpAny_collect_iter (T := "tuple_iterator") (.inr (.inr (.inr rfl))) (walks_from (Walks.tuple (A := A.in1) hh s.heap.objs.size t hlt items) 1 hsz).toS
      (fun i s' st => st.1.typeIs) ⟨hit₁, ht₁⟩ (fun b hb => ?_) (by simp) (fun s' acc hm hacc => ?_) (by omega)))
    · have e : b = s.heap.objs.size ∨ b = t := by simpa using hb
      rcases e with e | e
      · rw [e]; exact hI
      · rw [e]; exact htl
    · have hrest := items_rest hsz (fun i v h => h) hacc
      rw [hrest]
      simp only [Nat.sub_self, Nat.sub_zero, Nat.not_lt_zero, if_false]
      have keep : ∀ b o, s.heap.get? b = some o → s'.heap.get? b = some o := fun b o e => hm.heap b o (by simp only [List.mem_singleton]; exact Nat.ne_of_lt (Heap.lt_size e)) (hs₁.extBut b o (Nat.ne_of_lt (Heap.lt_size e)) (Heap.get?_push_of_some _ e))
      have es : s' = { s with heap := s'.heap, toks := s'.toks } := by
        obtain ⟨_, q1, q2, q3, _⟩ := hm
        cases s'
        cases s
        simp only at q1 q2 q3
        subst q1 q2 q3
        rfl
      rw [es]
      refine wpAny_bind (wpAny_newList ?_)
      refine wpAny_pure ?_
      have := hQ s'.heap s'.toks keep
      have e1 : ∀ l : List Value, List.take l.length l = l := fun l => List.take_length
      have e2 : ∀ l : List Value, List.drop l.length l = [] := fun l => List.drop_length
      rw [e1, e2, List.append_nil]
      exact this
theorem assign_Tuple_starL {env : Env} {elts : List Expr} {x1} {pos : Pos} {t : Addr} {items : Array Value} {x : Value} {Q : Unit → Shared → Prop} (hh : A.handled = none) (ht : s.heap.IsList t items) (h0 : items[0]? = some x) (hz : items.size ≤ sizeLine)
    (hn : (assignEach elts env).length = 2) (hstar : (assignEach elts env).findIdx? (·.1) = some 1)
    (h : ∀ (h' : Heap) (tk : Nat), (∀ b o, s.heap.get? b = some o → h'.get? b = some o) → wpAny (model prog w) A (assignInOrder ((assignEach elts env).map (·.2)) [x, .ref h'.objs.size]) Q E { s with heap := h'.push { cls := .type "list", data := .seq (items.toList.drop 1).toArray }, toks := tk }) :
    wpAny (model prog w) A (assign (.Tuple elts x1 pos) env (.ref t)) Q E s := by
  rw [assign_Tuple]
  refine wpAny_bind (wpAny_standAt ?_)
  unfold unpack
  rw [hn, hstar]
  exact wpAny_bind (wpAny_holding (unpackItems_starL hh ht h0 hz h))
theorem assign_Tuple_starT {env : Env} {elts : List Expr} {x1} {pos : Pos} {t : Addr} {items : Array Value} {x : Value} {Q : Unit → Shared → Prop} (hh : A.handled = none) (ht : IsTup s.heap t items) (h0 : items[0]? = some x) (hz : items.size ≤ sizeLine)
    (hn : (assignEach elts env).length = 2) (hstar : (assignEach elts env).findIdx? (·.1) = some 1)
    (h : ∀ (h' : Heap) (tk : Nat), (∀ b o, s.heap.get? b = some o → h'.get? b = some o) → wpAny (model prog w) A (assignInOrder ((assignEach elts env).map (·.2)) [x, .ref h'.objs.size]) Q E { s with heap := h'.push { cls := .type "list", data := .seq (items.toList.drop 1).toArray }, toks := tk }) :
    wpAny (model prog w) A (assign (.Tuple elts x1 pos) env (.ref t)) Q E s := by
  rw [assign_Tuple]
  refine wpAny_bind (wpAny_standAt ?_)
  unfold unpack
  rw [hn, hstar]
  exact wpAny_bind (wpAny_holding (unpackItems_starT hh ht h0 hz h))
end

/-! ### targets: a, b = a list or a tuple; a, *b = -/
def gSeqD (n : Nat) (t : TGsD) : TGD := fun d ρ S k => match vq S d with | some ds => ds.length = n ∧ t ds ρ S k | none => False
def gStarD (m : Bool) (i j : Nat) : TGD := fun d ρ S k => match vq S d with | some (x :: xs) => mkL m xs S fun y S1 => k ((ρ.set i (some x)).set j (some y)) S1 | _ => False
section
variable {X : Cx} {wd : WD} {pos : Pos}
theorem pgd_seq {es : List Expr} {kk : Nat} {ws : List Nat} {t : TGsD} {n : Nat} (hc : X.calm = true) (h : PGsD X wd es ws t)
    (hn : (assignEach es X.env).length = n := by rfl) (hst : (assignEach es X.env).findIdx? (·.1) = none := by rfl) : PGD X wd (.Tuple es kk pos) ws (gSeqD n t) := by
  refine ⟨fun pins s σ H F ρ S v d u k I r rv rd hw => ?_⟩
  unfold gSeqD at hw
  split at hw
  · rename_i ds hq
    obtain ⟨hl, hw⟩ := hw
    obtain ⟨a, vs, e0, hq, rds⟩ := vq_at r.h rd hq
    subst e0
    cases rv
    rcases hq with hq | hq
    · obtain ⟨its, rvs, ht, hz⟩ := I.list hq
      refine assign_Tuple_list (I.ok.hd hc) ht.isList (by simp [hn, ← hl, ← rds.length, rvs.length]) hst fun h' hx => ?_
      have I1 : Inv X pins σ H { s with heap := h' } := I.kept (t' := s.toks) fun b o e => hx b o (Nat.ne_of_lt (Heap.lt_size e)) e
      exact h.run pins _ σ H F ρ S vs ds _ k I1 r (by simpa using rvs) rds hw
    · obtain ⟨its, rvs, ht, hz⟩ := I.tuple hq
      refine assign_Tuple_tuple (I.ok.hd hc) ht (by simp [hn, ← hl, ← rds.length, rvs.length]) hst fun h' hx => ?_
      have I1 : Inv X pins σ H { s with heap := h' } := I.kept (t' := s.toks) fun b o e => hx b o (Nat.ne_of_lt (Heap.lt_size e)) e
      exact h.run pins _ σ H F ρ S vs ds _ k I1 r (by simpa using rvs) rds hw
  · exact hw.elim
theorem pgd_star {m : Bool} {i j : Nat} {x y : Str} {p1 p2 p3 : Pos} {kk : Nat} (hc : X.calm = true) (hN : X.N.Nodup) (hi : X.N[i]? = some x := by rfl) (hj : X.N[j]? = some y := by rfl)
    (hx : Loc X.env.scope x := by first | exact Or.inl rfl | exact Or.inr rfl) (hf : X.fn x = true ∨ X.env.scope.names.lookup x = some .local := by first | exact .inl rfl | exact .inr rfl | assumption)
    (hy : Loc X.env.scope y := by first | exact Or.inl rfl | exact Or.inr rfl) (hfy : X.fn y = true ∨ X.env.scope.names.lookup y = some .local := by first | exact .inl rfl | exact .inr rfl | assumption)
    (ha : (assignEach [.Name x p1, .Starred (.Name y p2) p3] X.env).map (·.2) = [assign (.Name x p1) X.env, assign (.Name y p2) X.env] := by rfl)
    (hn : (assignEach [.Name x p1, .Starred (.Name y p2) p3] X.env).length = 2 := by rfl) (hst : (assignEach [.Name x p1, .Starred (.Name y p2) p3] X.env).findIdx? (·.1) = some 1 := by rfl) :
    PGD X wd (.Tuple [.Name x p1, .Starred (.Name y p2) p3] kk pos) [i, j] (gStarD m i j) := by
  refine ⟨fun pins s σ H F ρ S v d u k I r rv rd hw => ?_⟩
  unfold gStarD at hw
  split at hw
  · rename_i x0 xs hq
    obtain ⟨a, vs, e0, hq, rds⟩ := vq_at r.h rd hq
    subst e0
    cases rv
    unfold Rs at rds
    obtain ⟨v0, vs', e1, rd0, rds⟩ := rds
    subst e1
    have fin : ∀ (its : List Value) (u0 : Value) (us : List Value), its = u0 :: us → RelV v0 u0 → Vals vs' us → its.length ≤ sizeLine → ∀ (h' : Heap) (tk : Nat), (∀ b o, s.heap.get? b = some o → h'.get? b = some o) →
        wpAny (model X.prog X.w) X.A (assignInOrder ((assignEach [.Name x p1, .Starred (.Name y p2) p3] X.env).map (·.2)) [u0, .ref h'.objs.size]) (fun _ s' => GPd X wd [i, j] pins σ H F S k s') X.xe { s with heap := h'.push { cls := .type "list", data := .seq (its.drop 1).toArray }, toks := tk } := by
      intro its u0 us e2 r0 rus hz h' tk hk
      subst e2
      rw [ha]
      have I1 : Inv X pins σ (upd H h'.objs.size (.lst vs')) { s with heap := h'.push { cls := .type "list", data := .seq ((u0 :: us).drop 1).toArray }, toks := tk } := by
        refine (I.kept (t' := tk) hk).laid (t' := tk) (o := .lst vs') (fun b o e => Heap.get?_push_of_some _ e) (Nat.le_refl _) ?_
        exact ⟨by rw [rus.length]; simp at hz; omega, us, 0, rus, Heap.get?_push_size _ rfl⟩
      have hfr : H h'.objs.size = none := (I.kept (t' := tk) hk).hok.fresh (Nat.le_refl _)
      have key : ∃ F' d' S', Go F H S F' (upd H h'.objs.size (.lst vs')) S' ∧ RelH X.K F' (upd H h'.objs.size (.lst vs')) S' ∧ R X.K F' d' (.ref h'.objs.size) ∧ k ((ρ.set i (some x0)).set j (some d')) S' :=
        mkL_ok (Q := fun v H' => ∃ F' d' S', Go F H S F' H' S' ∧ RelH X.K F' H' S' ∧ R X.K F' d' v ∧ k ((ρ.set i (some x0)).set j (some d')) S') r.h rds hfr hw fun F' v H' d' S' g r' rd' hk => ⟨F', d', S', g, r', rd', hk⟩
      obtain ⟨F', d', S', g, r', rd', hk'⟩ := key
      refine assignInOrder_cons (wpAny_assign_Name (store_ok I1 hN hi hx r0 (fun s2 I2 => ?_) hf))
      refine assignInOrder_cons (wpAny_assign_Name (store_ok I2 hN hj hy (show RelV (.ref h'.objs.size) (.ref h'.objs.size) from rfl) (fun s3 I3 => ?_) hfy))
      refine assignInOrder_nil ⟨_, _, F', _, S', I3, g, ((r.up g r').set i (R.mono g.ex _ _ rd0)).set j rd', ⟨by simp, fun l hl => ?_⟩, hk'⟩
      rw [List.getElem?_set_ne (fun z => hl (by simp [z])), List.getElem?_set_ne (fun z => hl (by simp [z]))]
    rcases hq with hq | hq
    · obtain ⟨its, rvs, ht, hz⟩ := I.list hq
      cases rvs with
      | cons r0 rus =>
        rename_i u0 us
        refine assign_Tuple_starL (I.ok.hd hc) ht.isList rfl (by simpa [rus.length] using hz) hn hst fun h' tk hk => ?_
        exact fin _ u0 us rfl r0 rus (by simpa [rus.length] using hz) h' tk hk
    · obtain ⟨its, rvs, ht, hz⟩ := I.tuple hq
      cases rvs with
      | cons r0 rus =>
        rename_i u0 us
        refine assign_Tuple_starT (I.ok.hd hc) ht rfl (by simpa [rus.length] using hz) hn hst fun h' tk hk => ?_
        exact fin _ u0 us rfl r0 rus (by simpa [rus.length] using hz) h' tk hk
  · exact hw.elim
end
end Z

set_option Elab.async false
set_option linter.all false
set_option maxRecDepth 100000
set_option maxHeartbeats 4000000
namespace Z
open PySem PySem.Spec PyProof.Rows L2

/-! ### repr -/
mutual
theorem plain_noDict : ∀ d : PyData, d.plain = true → d.hasDict = false
  | .none, _ => rfl
  | .bool _, _ => rfl
  | .int _, _ => rfl
  | .str _, _ => rfl
  | .list xs, h => by unfold PyData.plain at h; unfold PyData.hasDict; exact plain_noDicts xs h
  | .tuple xs, h => by unfold PyData.plain at h; unfold PyData.hasDict; exact plain_noDicts xs h
  | .dict _, h => by unfold PyData.plain at h; cases h
theorem plain_noDicts : ∀ xs : List PyData, PyData.plainAll xs = true → PyData.hasDictAll xs = false
  | [], _ => rfl
  | x :: xs, h => by
    unfold PyData.plainAll at h
    rw [Bool.and_eq_true] at h
    unfold PyData.hasDictAll
    rw [plain_noDict x h.1, plain_noDicts xs h.2]; rfl
end
/-- a text of a thing -/
def shw (d : D) : Str := match d with | .dic [] [] => "{}" | d => (toPy d).shown
def isE : D → Bool
  | .dic [] [] => true
  | _ => false
/-- can be shown, not too long -/
def okR (d : D) : Prop := isE d = true ∨ (pln 60 d ∧ (toPy d).showable = true ∧ (toPy d).shown.length ≤ sizeLine)
def cRepr (ds : List D) (S : Sto) (k : KD) : Prop := match ds with | [d] => okR (tr S d) ∧ k (.str (shw (tr S d))) S | _ => False
section
variable {X : Cx}
theorem dic0_at {K : PySem.W.Frag} {F H : Hp} {S : Sto} {d : D} {v : V} (r : RelH K F H S) (rd : R K F d v) (h : isE (tr S d) = true) : ∃ a, v = .ref a ∧ H a = some (.dK []) := by
  have key : ∀ F' v, Ex F' H → R K F' (.dic [] []) v → ∃ a, v = .ref a ∧ H a = some (.dK []) := by
    intro F' v ex rd
    unfold R at rd
    obtain ⟨a, vs, e, h1, h2⟩ := rd
    unfold Rs at h2
    subst h2
    refine ⟨a, e, ?_⟩
    obtain ⟨kvs, h1, h2, h3⟩ := h1
    have : kvs = [] := by cases kvs with | nil => rfl | cons _ _ => simp at h3
    subst this
    exact ex _ _ h1
  have isE_eq : ∀ d, isE d = true → d = .dic [] [] := by
    intro d h
    unfold isE at h
    split at h
    · rfl
    · cases h
  cases d with
  | adr a =>
    cases q : S a with
    | none =>
      have e : tr S (.adr a) = .adr a := by unfold tr; dsimp only; rw [q]
      rw [e] at h
      cases h
    | some u =>
      have e : tr S (.adr a) = u.toD := by unfold tr; dsimp only; rw [q]
      rw [e] at h
      obtain ⟨F', g, r', rd'⟩ := r.frz q
      unfold R at rd
      subst rd
      rw [isE_eq _ h] at rd'
      exact key F' _ r'.ex rd'
  | dic ks vs =>
    have e : D.dic ks vs = .dic [] [] := isE_eq _ h
    rw [e] at rd
    exact key F v r.ex rd
  | _ => exact nomatch h
/-- what repr asks of the room -/
structure RmU (A : Around) : Prop where
  g : A.guards = some []
  un : A.units + 200 < cLine
theorem Rm.u {k : Nat} {A : Around} (r : Rm k A) : RmU A := ⟨r.g, by have := r.r.un; omega⟩
theorem RmU.mark {A : Around} (r : RmU A) (h : Option Value) : RmU (A.mark h) := ⟨r.g, r.un⟩
theorem cd_reprU (hr : RmU X.A) : ClD X (.builtin "repr") cRepr := by
  intro F H S vs ds k Q rh rs h hk
  unfold cRepr at h
  split at h
  · rename_i d
    obtain ⟨v, rfl, rd⟩ := rs.one
    obtain ⟨ho, h⟩ := h
    rcases ho with he | ⟨hp, hs, hz⟩
    · have e : shw (tr S d) = "{}" := by
        unfold isE at he
        split at he
        · rename_i e; rw [e]; rfl
        · cases he
      rw [e] at h
      obtain ⟨a, e1, h1⟩ := dic0_at rh rd he
      refine ⟨fun xs H Q => ∃ a, xs = [.ref a] ∧ H a = some (.dK []) ∧ Q (.str "{}") H, ?_, a, by rw [e1], h1, hk F _ H (.str _) S Go.refl rh (by unfold R; rfl) h⟩
      intro pins s σ H xs us Q I r ⟨a, ex, h1, q⟩
      subst ex
      obtain ⟨u, rfl, rx⟩ := vals1 r
      cases rx
      have hu := hr.un
      have key : ∃ o es ep, s.heap.get? a = some o ∧ o.cls = .type "dict" ∧ o.data = .dict es ep ∧ es.toList = [] ∧ a ≠ sysModules := by
        obtain ⟨_, hsm, vs, kv, o, es, ep, q1, q2, q3, q4, q5, q6⟩ := dk_of I.hok h1
        cases kv
        refine ⟨o, es, ep, q1, q2.1, q3, ?_, by simpa using hsm⟩
        cases e : es.toList with
        | nil => rfl
        | cons x l => rw [e] at q5; cases q5
      obtain ⟨o, es, ep, q1, q2, q3, q4, q5⟩ := key
      have rr : Reads s.heap (.ref a) (.dict []) [a] := Reads.dict (as := []) (bs := []) (kvs := []) q1 q2 q3 (by rw [q4]; exact ReadsAll.nil) (by rw [q4]; exact ReadsAll.nil)
      exact repr_of_reads' rr rfl (fun _ => by simpa using fun e => q5 e.symm) hr.g (by show X.A.units + (_ + 1) < cLine; simp only [PyData.depth, PyData.depthKv]; omega) (fun _ _ e => e) (fun h' u tk hk => ⟨.str _, H, I.kept hk, ⟨_, rfl⟩, q⟩) (by decide)
    · have hp' := pln_dep _ _ hp
      have e : shw (tr S d) = (toPy (tr S d)).shown := by
        unfold shw
        split
        · rename_i e
          rw [e] at hp
          unfold pln at hp
          exact hp.elim
        · rfl
      rw [e] at h
      refine ⟨fun xs H Q => ∃ x p, xs = [x] ∧ Dp X.K H x p ∧ p.plain = true ∧ p.depth ≤ 60 ∧ p.showable = true ∧ p.shown.length ≤ sizeLine ∧ Q (.str p.shown) H, ?_, v, toPy (tr S d), rfl, tr_dp rh rd hp, hp'.1, hp'.2, hs, hz, hk F _ H (.str _) S Go.refl rh (by unfold R; rfl) h⟩
      intro pins s σ H xs us Q I r ⟨x, p, ex, hd, pp, pd, ps, pz, q⟩
      subst ex
      obtain ⟨u, rfl, rx⟩ := vals1 r
      obtain ⟨as, rr⟩ := Dp.reads I p x u hd rx
      have hu := hr.un
      cases rr with
      | none => exact PySem.P.repr_of_none ⟨.str _, H, I.tok _, ⟨_, rfl⟩, q⟩
      | bool b => exact PySem.P.repr_of_bool ⟨.str _, H, I.tok _, ⟨_, rfl⟩, q⟩
      | int i t => exact PySem.P.repr_of_int (by simpa [PyData.showable] using ps) ⟨.str _, H, I.tok _, ⟨_, rfl⟩, q⟩
      | str y t => exact PySem.P.repr_of_str ⟨.str _, H, I.tok _, ⟨_, rfl⟩, q⟩ (hsz := pz)
      | list h1 h2 h3 h4 =>
        exact repr_of_reads' (Reads.list h1 h2 h3 h4) ps (PyData.noDict_hsm (plain_noDict _ pp)) hr.g (by omega) (fun _ _ e => e) (fun h' u tk hk => ⟨.str _, H, I.kept hk, ⟨_, rfl⟩, q⟩) pz
      | tuple h1 h2 h3 h4 =>
        exact repr_of_reads' (Reads.tuple h1 h2 h3 h4) ps (PyData.noDict_hsm (plain_noDict _ pp)) hr.g (by omega) (fun _ _ e => e) (fun h' u tk hk => ⟨.str _, H, I.kept hk, ⟨_, rfl⟩, q⟩) pz
      | dict h1 h2 h3 h4 h5 => unfold PyData.plain at pp; cases pp
  · exact h.elim
theorem cd_repr {kk : Nat} (hr : Rm kk X.A) : ClD X (.builtin "repr") cRepr := cd_reprU hr.u
end

/-! ### {} -/
def dDic0 : TD := fun _ _ S k => k (.dic [] []) S
def dDic0M : TD := fun _ _ S k => ∀ p, S p = none → k (.adr p) (supd S p (.dic [] []))
section
variable {X : Cx} {wd : WD} {pos : Pos}
/-- {}; T: its keys will be tuples -/
theorem pd_dic0 : PD X wd (.Dict [] [] pos) dDic0 := PE.pd pe_dnewK fun σ H F ρ S k r h p hp => by
  obtain ⟨n1, n2⟩ := r.h.newF (o := .dK []) hp
  exact ⟨_, .dic [] [], S, Go.newF n2 hp, r.up (Go.newF n2 hp) n1, by unfold R; exact ⟨p, [], rfl, ⟨[], upd_same, rfl, rfl⟩, Rs.nil⟩, h⟩
theorem pd_dic0K : PD X wd (.Dict [] [] pos) dDic0M := PE.pd pe_dnewK fun σ H F ρ S k r h p hp =>
  ⟨F, .adr p, supd S p (.dic [] []), Go.newS hp, r.up (Go.newS hp) (r.h.newS (o := .dK []) (u := .dic [] []) hp ⟨[], ⟨[], upd_same, rfl, rfl⟩, Rs.nil⟩), by unfold R; rfl, h p (r.h.fresh hp).2⟩
end

/-! ### a, b = x, y -/
def dPar (i j : Nat) (t : TAD) : TSD := fun wd E ρ S => t wd ρ S fun ds S1 => match ds with | [d, e] => E.nx ((ρ.set i (some d)).set j (some e)) S1 | _ => False

/-! ### len of an instance with its own __len__ -/
structure LenO (P : Program) (w : World) (K : PySem.W.Frag) (mg : Str → Option Value) (base : Heap) (k : Nat) (C : Addr) (sp : SpD) : Prop where
  ex : ∃ (f : Addr) (fd : FuncData) (ps : List Str), FnZ P w K mg base k f fd ps sp ∧ PySem.W.findIn K (.ref C) "__len__" = some (some (.ref f)) ∧ PySem.W.isFn K (.ref f) = true ∧ Binds K fd ps []
def lenK (k : KD) : KD := fun d S => match d with | .int n => 0 ≤ n ∧ n < 2 ^ 63 ∧ k (.int n) S | _ => False
def cLenO (C : Addr) (ns : List Str) (sp : SpD) (ds : List D) (S : Sto) (k : KD) : Prop := match ds with | [d] => IsIn C ns S d ∧ sp [d] S (lenK k) fun _ _ _ => False | _ => False
section
variable {X : Cx} {wd : WD} {C : Addr} {ns : List Str} {sp : SpD} {kk : Nat}
theorem own_special {M : Model} {A : Around} {E : Value → Shared → Prop} {s : Shared} {K : PySem.W.Frag} {x f : Addr} {ox : Obj} {od : Option Obj} {name : Str} {args : List Value} {Q : Option Value → Shared → Prop} (hX : K.In s.heap) (I : PySem.W.InstAt s.heap x ox C od)
    (hs : PySem.W.findIn K (.ref C) name = some (some (.ref f))) (hf : PySem.W.isFn K (.ref f) = true) (h : wpAny M A (call (.ref f) (.ref x :: args)) (fun v => Q (some v)) E s) : wpAny M A (callSpecial? (.ref x) name args) Q E s := by
  simp only [callSpecial?]
  refine wpAny_bind ((I.type.andThen (PySem.W.looks_findIn hX hs)).here ?_)
  exact wpAny_holding (wpAny_bind ((PySem.W.bind_fn hX _ (beq_iff_eq.mp hf)).here (wpAny_bind (wpAny_mono h (fun v s' h' => wpAny_pure h') fun _ _ h' => h'))))
theorem cd_lenO (L : LenO X.prog X.w X.K X.mg X.base kk C sp) (hr : Rm (kk + 1) X.A) : ClD X (.builtin "len") (cLenO C ns sp) := by
  intro F H S vs ds k Q rh rs h hk
  unfold cLenO at h
  split at h
  · rename_i d
    obtain ⟨v, rfl, rd⟩ := rs.one
    obtain ⟨hi, h⟩ := h
    obtain ⟨f, fd, ps, Fn, hs, hf, hb⟩ := L.ex
    obtain ⟨a, dx, fs, ev, ha, _⟩ := isIn_at rh rd hi
    subst ev
    refine ⟨fun xs H Q => xs = [.ref a] ∧ (∃ dx fs, H a = some (.ins C dx fs)) ∧ ∃ F S, RelH X.K F H S ∧ R X.K F d (.ref a) ∧ sp [d] S (lenK k) (fun _ _ _ => False) ∧ (∀ F' v H' d' S', Go F H S F' H' S' → RelH X.K F' H' S' → R X.K F' d' v → k d' S' → Q v H'), ?_, rfl, ⟨dx, fs, ha⟩, F, S, rh, rd, h, hk⟩
    intro pins s σ H xs us Q I r ⟨ex, ⟨dx, fs, ha⟩, F, S, rh, rd, h, hk⟩
    subst ex
    obtain ⟨u, rfl, rx⟩ := vals1 r
    cases rx
    obtain ⟨mA, J, _⟩ := ins_get I.hok ha
    obtain ⟨od, J, _⟩ := J.look
    refine Calls.call_function_entry kind_len plain_len entry_len (args_len1 _) ?_
    unfold Builtin.«len»
    refine wpAny_bind (m := oneArg "len" _) (wpAny_pure ?_)
    have e0 : Env0 X.prog X.w X.K X.mg X.base X.A.in1 X.stack s H := by
      have e := I.env0
      exact ⟨e.frames, e.mod, e.bs, e.bsz, e.funs, e.frf, e.hok, e.bare⟩
    have hl : [d].length = ps.length := Fn.len _ _ _ _ h
    refine wpAny_bind (own_special I.kIn J hs hf (wpAny_call (codeAny_mono (Fn.run X.A.in1 X.stack s H ⟨[.ref a], []⟩ [.ref a] [.ref a] (fun v H' => ∃ F' d' S', Go F H S F' H' S' ∧ RelH X.K F' H' S' ∧ R X.K F' d' v ∧ lenK k d' S') (fun _ _ _ => False) hr.g hr.r.in1 e0 (by
      have := hb s [.ref a] I.kIn (by simpa using hl)
      simpa using this) (.cons rfl .nil) ⟨F, S, [d], _, _, rh, Rs.cons rd Rs.nil, h, fun F' v H' d' S' g r' rd' q => ⟨F', d', S', g, r', rd', q⟩, fun _ _ _ _ _ _ _ _ _ z => z⟩) fun rr s' hq => ?_)))
    cases rr with
    | error er =>
      obtain ⟨_, _, _, _, _, _, _, _, _, _, _, _, z⟩ := hq
      exact z.elim
    | ok fl =>
      cases fl with
      | ret w =>
        obtain ⟨z, H', I', rz, F', d', S', g, r', rd', q⟩ := I.after hq
        unfold lenK at q
        split at q
        · rename_i n
          unfold R at rd'
          subst rd'
          obtain ⟨t, rfl⟩ := rz
          refine wpAny_bind (wpAny_holding (wpAny_pure ?_))
          refine wpAny_bind (wpAny_letGo ?_)
          show wpAny _ _ (if n < 0 then _ else _) _ _ _
          rw [if_neg (by omega)]
          show wpAny _ _ (if n ≥ 2 ^ 63 then _ else _) _ _ _
          rw [if_neg (by omega)]
          exact wpAny_bind (wpAny_mkInt (wpAny_pure ⟨_, rfl, .int n, H', I'.tok _, ⟨_, rfl⟩, hk F' (.int n) H' (.int n) S' g r' (by unfold R; rfl) q.2.2⟩))
        · exact q.elim
      | next => exact False.elim hq
      | brk => exact False.elim hq
      | cont => exact False.elim hq
  · exact h.elim
end
end Z

set_option Elab.async false
set_option linter.all false
set_option maxRecDepth 100000
set_option maxHeartbeats 4000000
namespace Z
open PySem PySem.Spec PyProof.Rows L2
theorem law_callZ {P : Program} {w : World} {K : PySem.W.Frag} {mg mb : Str → Option Value} {k : Nat} {fa a : Addr} {fd : FuncData} {x : Str} {sp : SpD} {s₁ : Shared} {vs : List Value} {ns : List Int}
    (KX : K.In s₁.heap) (hns : s₁.heap.Ns mainGlobals mg) (hb : s₁.heap.Ns builtinsNs mb) (hbb : ∀ x : Str, x ≠ "__name__" → mb x = bootBuiltins x) (hlim : s₁.heap.NoLimit) (hg : s₁.gens = #[])
    (ha : s₁.heap.get? a = some { cls := .type "list", data := .seq vs.toArray }) (hi : IntsAre vs ns) (hl : ns.length ≤ sizeLine) (hr : Room k callerA)
    (F : ∀ base : Heap, K.In base → base.Ns mainGlobals mg → FnZ P w K mg base k fa fd [x] sp) (hbind : ∀ (s : Shared) (u : Value), BindsTo s fd ⟨[u], []⟩ [(x, u)])
    (hsp : ∀ S, sp [.frl (ns.map .int)] S (fun d _ => d = .bl true) fun _ _ _ => False) :
    codeAny (model P w) callerA (.call (.ref fa) ⟨[.ref a], []⟩) (fun r s' => r = .ok (.ret (.bool true)) ∧ OldK s₁.heap s'.heap ∧ s'.os = s₁.os ∧ AllBare s'.gens) s₁ := by
  have rv := vals_ints hi
  have lenV := hi.length
  -- from an abstract heap in which nothing but the script may be tracked
  have core : ∀ H : Hp, Only H → SqL K H a (ns.map V.int) → HOk P w H s₁.heap → (∀ b, H b ≠ none → b = a) → (H a ≠ none → K.lookup a = none) →
      codeAny (model P w) callerA (.call (.ref fa) ⟨[.ref a], []⟩) (fun r s' => r = .ok (.ret (.bool true)) ∧ OldK s₁.heap s'.heap ∧ s'.os = s₁.os ∧ AllBare s'.gens) s₁ := by
    intro H hO hS hok hA hK
    have base_of : ∀ {b : Addr} {o : Obj}, s₁.heap.get? b = some o → H b = none → (hidT s₁.heap H).get? b = some o := fun e n => hidT_get e n
    have noA : ∀ {b : Addr} {o : Obj} {es : Array DictEntry} {ep : Nat}, s₁.heap.get? b = some o → o.data = .dict es ep → H b = none := fun {b o es ep} e d => by
      cases q : H b with
      | none => rfl
      | some u =>
        have e' : b = a := hA b (by rw [q]; simp)
        subst e'
        rw [ha] at e; cases e
        have d' : Data.seq vs.toArray _ = Data.dict es ep := d
        cases d'
    have nsK : ∀ {b : Addr} {m : Str → Option Value}, s₁.heap.Ns b m → (hidT s₁.heap H).Ns b m := fun {b m} ⟨o, es, ep, e, d, r⟩ => ⟨o, es, ep, base_of e (noA e d), d, r⟩
    have hKb : K.In (hidT s₁.heap H) := fun b o e => base_of (KX b o e) (by
      cases q : H b with
      | none => rfl
      | some u =>
        have e' : b = a := hA b (by rw [q]; simp)
        subst e'
        rw [hK (by rw [q]; simp)] at e; cases e)
    have hM : Mod K mg (hidT s₁.heap H) := ⟨hKb, nsK hns, ⟨mb, nsK hb, hbb⟩, let ⟨mc, h1, h2⟩ := hlim; ⟨mc, nsK h1, h2⟩⟩
    have e0 : Env0 P w K mg (hidT s₁.heap H) callerA [] s₁ H := ⟨rfl, hM, fun b o e => of_hidT e, Nat.le_of_eq (hidT_size _ _), trivial, fun b hb => absurd (show b ∈ ([] : List Addr) from hb) (by simp), hok, .of_eq hg⟩
    refine codeAny_mono ((F _ hKb (nsK hns)).run callerA [] s₁ H ⟨[.ref a], []⟩ [.ref a] [.ref a] (fun v _ => v = .bl true) (fun _ _ _ => False) rfl hr e0 (hbind s₁ (.ref a)) (.cons rfl .nil) ⟨H, fun _ => none, [.frl (ns.map .int)], _, _, ⟨Evl.Ex.refl H, fun _ _ z => nomatch z⟩, Rs.cons (by unfold R; exact ⟨a, _, rfl, hS, Rs.of_ints ns⟩) Rs.nil, hsp _, fun F' v H' d S' _ _ rd q => by subst q; unfold R at rd; exact rd, fun _ _ _ _ _ _ _ _ _ z => z⟩) fun r s' h => ?_
    cases r with
    | error e => obtain ⟨_, _, _, _, _, _, _, _, _, _, _, _, z⟩ := h; exact False.elim z
    | ok fl =>
      cases fl with
      | next => exact False.elim h
      | brk => exact False.elim h
      | cont => exact False.elim h
      | ret u =>
        obtain ⟨v, H', os, bare, un, hok', r', q⟩ := h
        have q' : v = .bl true := q
        subst q'
        obtain rfl : u = Value.bool true := r'
        refine ⟨rfl, OldK.of_keep fun b o e => ?_, os, bare⟩
        cases q : H b with
        | none => exact un.keep b o e q (by intro z; exact absurd (show b ∈ ([] : List Addr) from z) (by simp)) (by simp)
        | some u =>
          rcases hO b with z | ⟨ob, xs, z⟩
          · rw [q] at z; cases z
          · have z2 := un.frzs b ob _ z
            obtain ⟨e1, _⟩ := hok b _ z
            obtain ⟨e2, _⟩ := hok' b _ z2
            rw [e] at e1; cases e1
            exact e2
  cases hk : K.lookup a with
  | some o =>
    -- the script is one of the module's own objects
    have e := KX a o hk
    rw [ha] at e
    cases e
    refine core (fun _ => none) (fun _ => .inl rfl) (.inr ⟨_, vs.toArray, _, hk, rfl, rfl, rfl, by rw [List.size_toArray, lenV]; exact hl, by simpa using rv⟩) (fun b u z => by have z' : (none : Option HO) = some u := z; cases z') (fun b z => absurd rfl z) fun z => absurd rfl z
  | none =>
    refine core (fun b => if b = a then some (.frz { cls := .type "list", data := .seq vs.toArray } (.lst (ns.map V.int))) else none) (fun b => ?_) (.inl (.inr ⟨{ cls := .type "list", data := .seq vs.toArray }, if_pos rfl⟩)) (fun b u z => ?_) (fun b z => ?_) fun _ => hk
    · by_cases hb : b = a
      · exact .inr ⟨_, _, if_pos hb⟩
      · exact .inl (if_neg hb)
    · by_cases hb : b = a
      · have z' := (if_pos hb).symm.trans z
        cases z'
        subst hb
        exact ⟨ha, by rw [List.length_map]; exact hl, vs, _, rv, ha⟩
      · have z' := (if_neg hb).symm.trans z
        cases z'
    · by_cases hb : b = a
      · exact hb
      · exact absurd (if_neg hb) z

theorem walk_ofZ {l : PySem.W.OpenLaw} {n k : Nat} {q : Program} {loose : List Str} {XP : (Str → Option Value) → Heap → Prop} {YP : World → Heap → Prop} {d : DefRec} {x : Str}
    (hn : l.most = some n) (hn2 : n ≤ sizeLine) (hdf : d.params.defaults = []) (hr : Room k callerA)
    (F : ∀ (w : World) (mg : Str → Option Value) (fa : Addr) (h : Heap), YP w h → h.Ns mainGlobals mg → mg d.name = some (.ref fa) →
      ∃ (K : PySem.W.Frag) (fd : FuncData) (sp : SpD), K.In h ∧ (∀ (s : Shared) (u : Value), BindsTo s fd ⟨[u], []⟩ [(x, u)]) ∧
        (∀ (ns : List Int), ns.length ≤ n → ∀ S, sp [.frl (ns.map .int)] S (fun v _ => v = .bl true) fun _ _ _ => False) ∧
        ∀ base : Heap, K.In base → base.Ns mainGlobals mg → FnZ l.prog w K mg base k fa fd [x] sp) :
    PySem.W.WalkO q loose XP YP l.row.toRowW d [] (fun f vs => PySem.call f vs) := by
  refine Att.attach_call hn hdf fun w s₀ s₁ mg mb fa o pm cd doc a vs ns G Y ho hd hcd hmg hobj hints hlen hg => ?_
  obtain ⟨K, fd, sp, KX, hb, hsp, hF⟩ := F w mg fa _ Y G.T.g hmg
  exact law_callZ KX G.T.g G.T.b G.T.builtins G.T.nolimit hg hobj hints (Nat.le_trans hlen hn2) hr hF hb (hsp ns hlen)
theorem map3 {α β γ δ : Type} {X : Option α} {f : α → β} {g : α → γ} {h : α → δ} {a : β} {b : γ} {c : δ} (h1 : X.map f = some a) (h2 : X.map g = some b) (h3 : X.map h = some c) : X.map (fun s => (f s, g s, h s)) = some (a, b, c) := by
  cases X with
  | none => cases h1
  | some s =>
    rw [Option.map_some] at h1 h2 h3 ⊢
    cases h1
    cases h2
    cases h3
    rfl
section
open HandSHeadRun PySem.W
def Run1 (r : OpenRow) (M : Nat) (w : World) : Prop := ∀ os : OsState, (endF (stepQ (denQ tabQ) r.prog w) M r.prog w os).map (fun s => looksF r.prog (boot_heap w.params) s.abs) = some true
def Run2 (r : OpenRow) (q : Program) (M : Nat) (loose : List PySem.Str) (w : World) : Prop := ∀ os : OsState, (endF (stepQ (denQ tabQ) r.prog w) M r.prog w os).map (fun s => seenQ q loose (importedModules r.prog.main.body) (fun s => xlAt q [] s && recOk r.toRowW.records s) s.abs) = some (openGood q loose)
def Run3 (r : OpenRow) (H : Hook) (ob : SharedT → H.α) (M : Nat) (w : World) : Prop := ∀ os : OsState, (endF (stepQ (denQ tabQ) r.prog w) M r.prog w os).map (fun s => ob s) = some (H.val w)
theorem runEq_of {r : OpenRow} {q : Program} {H : Hook} {ob : SharedT → H.α} {M : Nat} {loose : List PySem.Str} {w : World} (h1 : Run1 r M w) (h2 : Run2 r q M loose w) (h3 : Run3 r H ob M w) : RunEq r q H ob M loose w := fun os => map3 (h1 os) (h2 os) (h3 os)
end
end Z

set_option Elab.async false
set_option linter.all false
set_option maxRecDepth 100000
set_option maxHeartbeats 4000000
namespace Z
open PySem PySem.Spec PyProof.Rows L2
/-- where the text's classes stand -/
structure Ad where
  RopeError : Addr
  NoMany : Addr
  NoRope : Addr
  NoNumber : Addr
  TooMany : Addr
  Rig : Addr
  NoOrder : Addr
  NoHeights : Addr
  NoKnot : Addr
  NoClimber : Addr
  NoChain : Addr
  NoSlips : Addr
  NoLeads : Addr
  NoDeeds : Addr
  NoMost : Addr
  NoHow : Addr
  Unlike : Addr
  NoText : Addr
  NoRow : Addr
  NoName : Addr
  NoDeed : Addr
  NotLet : Addr
  NoStand : Addr
  Held : Addr
  Taut : Addr
  NoGoing : Addr
  Barred : Addr
  Walk : Addr
  Table : Addr
  Climb : Addr
  Hands : Addr
  Wall : Addr
  Desk : Addr
  /-- the table of a def's code objects -/
  tb : Str → Addr

abbrev fLt := fCmp fun i j => decide (i < j)
abbrev fLe := fCmp fun i j => decide (i ≤ j)
abbrev fGt := fCmp fun i j => decide (j < i)
abbrev fGe := fCmp fun i j => decide (j ≤ i)
theorem boot_len : bootBuiltins "len" = some (.builtin "len") := by decide +kernel
theorem boot_abs : bootBuiltins "abs" = some (.builtin "abs") := by decide +kernel

/-! ### a, b = x, y; o[i] = v -/
theorem psd_par {X : Cx} {wd : WD} {pos : Pos} {i j : Nat} {x y : Str} {a b : Expr} {t : TAD} {px py pt : Pos} {kt k2 pt2} (hc : X.calm = true) (hN : X.N.Nodup) (ha : PAD X wd [a, b] t) (hi : X.N[i]? = some x := by rfl) (hj : X.N[j]? = some y := by rfl) (hij : i ≠ j := by decide)
    (hx : X.env.scope.names.lookup x = some .local := by rfl) (hy : X.env.scope.names.lookup y = some .local := by rfl)
    (hw : swappedStores [.Tuple [.Name x px, .Name y py] kt pt] (.Tuple [a, b] k2 pt2) X.env = pure (some [x, y]) := by rfl)
    (hs : swapsWithSole [.Tuple [.Name x px, .Name y py] kt pt] (.Tuple [a, b] k2 pt2) pos.line X.env = pure false := by rfl) : PSD X wd (.Assign [.Tuple [.Name x px, .Name y py] kt pt] (.Tuple [a, b] k2 pt2) pos) (dPar i j t) :=
  PS.psd (ps_par hc hN hi hj hij hx hy ha.pa hw hs) fun σ H F ρ S E r h => ⟨F, ρ, S, _, r, h, fun F1 vs H1 ds S1 g1 r1 rs q => by
    split at q
    · rename_i d e
      obtain ⟨v, w, rfl, rd, re⟩ := rs.two
      exact ⟨v, w, rfl, F1, _, S1, g1, (r1.set i rd).set j re, q⟩
    · exact q.elim⟩
def dAsgS (te to ti : TD) (f : D → D → D → Sto → (Sto → Prop) → Prop) : TSD := fun wd E ρ S => te wd ρ S fun u S1 => to wd ρ S1 fun d S2 => ti wd ρ S2 fun e S3 => f d e u S3 fun S4 => E.nx ρ S4
theorem psd_asgS {X : Cx} {wd : WD} {pos tpos : Pos} {o i e : Expr} {te to ti : TD} {f : D → D → D → Sto → (Sto → Prop) → Prop} (hs : StD X f) (he : PD X wd e te) (ho : PD X wd o to) (hi : PD X wd i ti)
    (ha : ∀ v, assign (.Subscript o i tpos) X.env v = (do
      let ov ← holding [v] (eval o X.env)
      let iv ← holding [v, ov] (eval i X.env)
      standAt tpos
      holding [v, ov, iv] (setItem ov iv v)
      release [v, ov, iv] []) := by intro _; rfl)
    (hs1 : swapsWithSole [.Subscript o i tpos] e pos.line X.env = pure false := by rfl) (hw : swappedStores [.Subscript o i tpos] e X.env = pure none := by rfl)
    (h1 : (assignEach [.Subscript o i tpos] X.env).map (·.2) = [assign (.Subscript o i tpos) X.env] := by rfl) : PSD X wd (.Assign [.Subscript o i tpos] e pos) (dAsgS te to ti f) :=
  ⟨(psd_asg he (pgd_sub hs ho hi ha) hs1 hw h1).run⟩

/-! ### isinstance(x, C), C a class of the text -/
structure ClsIs (K : PySem.W.Frag) (C : Addr) : Prop where
  own : PySem.W.kitOne K (.ref C) (.ref C) = some true
  ty : ∀ T ∈ ["NoneType", "bool", "int", "str", "tuple", "list", "dict", "set"], PySem.W.kitOne K (.type T) (.ref C) = some false
  ha : PySem.W.findIn K (.ref C) "__class__" = some (some (.builtin "object.__class__"))
  hn : PySem.W.specialIn K (.builtin "object.__class__") "__get__" = some (some (.builtin "getset_descriptor.__get__"))
  htk : PySem.W.takesIn K (.builtin "object.__class__") = some true
  hm : PySem.W.mroIn K C (.type "object") = some true
def isC (C : Addr) (S : Sto) : D → Bool
  | .obj C' _ _ => C' == C
  | .adr a => (match S a with | some (.obj C' _ _) => C' == C | _ => false)
  | _ => false
def cIsC (C : Addr) (ds : List D) (S : Sto) (k : KD) : Prop := match ds with
  | [d, .adr C'] => C' = C ∧ ((isC C S d = true ∧ k (.bl true) S) ∨ ((tyN S d).isSome = true ∧ k (.bl false) S))
  | _ => False
theorem tyN_mem {S : Sto} {d : D} {T : String} (h : tyN S d = some T) : T ∈ ["NoneType", "bool", "int", "str", "tuple", "list", "dict", "set"] := by
  cases d with
  | adr a =>
    unfold tyN at h
    dsimp only at h
    split at h <;> cases h <;> decide
  | ty => cases h
  | obj => cases h
  | tab => cases h
  | clo => cases h
  | _ => cases h; decide
theorem cd_isC {X : Cx} {C : Addr} (i : ClsIs X.K C) (c : Cls X.K C) : ClD X (.builtin "isinstance") (cIsC C) := by
  intro F H S vs ds k Q rh rs h hk
  unfold cIsC at h
  split at h
  · rename_i d C'
    obtain ⟨v, w, rfl, rd, re⟩ := rs.two
    obtain ⟨e, h⟩ := h
    subst e
    unfold R at re
    subst re
    rcases h with ⟨h1, h⟩ | ⟨h1, h⟩
    · have key : ∃ a dx fs, v = .ref a ∧ H a = some (.ins C' dx fs) := by
        cases d with
        | obj C2 ns vs =>
          have e : C2 = C' := by simpa [isC] using h1
          subst e
          obtain ⟨a, dx, fs, e, h, _⟩ := isIn_at (ns := ns) rh rd ⟨rfl, rfl⟩
          exact ⟨a, dx, fs, e, h⟩
        | adr a =>
          unfold isC at h1
          dsimp only at h1
          split at h1
          · rename_i C2 ns vs q
            have e : C2 = C' := by simpa using h1
            subst e
            obtain ⟨a, dx, fs, e, h, _⟩ := isIn_at (C := C2) (ns := ns) rh rd (by unfold IsIn; dsimp only; rw [q]; exact ⟨rfl, rfl⟩)
            exact ⟨a, dx, fs, e, h⟩
          · cases h1
        | _ => cases h1
      obtain ⟨a, dx, fs, e, hH⟩ := key
      subst e
      exact ⟨_, call_isi, .ref a, .ref C', _, _, true, rfl, .own C', .base (.ins hH c i.ha i.hn i.htk i.hm), i.own, hk F _ H (.bl true) S Go.refl rh (by unfold R; rfl) h⟩
    · cases hT : tyN S d with
      | none => rw [hT] at h1; cases h1
      | some T => exact ⟨_, call_isi, v, .ref C', _, _, false, rfl, .own C', ty_of rh rd hT, i.ty T (tyN_mem hT), hk F _ H (.bl false) S Go.refl rh (by unfold R; rfl) h⟩
  · exact h.elim
end Z

set_option Elab.async false
set_option linter.all false
set_option maxRecDepth 100000
set_option maxHeartbeats 4000000
namespace Z
open PySem PySem.Spec PyProof.Rows L2

/-! ### dicts -/
/-- two keys are the same -/
def keq : D → D → Bool
  | .int i, .int j => decide (i = j)
  | .str x, .str y => decide (x = y)
  | _, _ => false
/-- what a dict holds at a key; the dict with a key put -/
def dgo : List D → List D → D → Option D
  | k :: ks, v :: vs, d => if keq k d = true then some v else dgo ks vs d
  | _, _, _ => none
def dptK (ks : List D) (d : D) : List D := if (ks.any fun k => keq k d) = true then ks else ks ++ [d]
def dptV (ks vs : List D) (d u : D) : List D := if (ks.any fun k => keq k d) = true then (ks.zip vs).map (fun p => if keq p.1 d = true then u else p.2) else vs ++ [u]
def vd (S : Sto) : D → Option (List D × List D)
  | .dic ks vs => some (ks, vs)
  | .dlk ks vs => some (ks, vs)
  | .adr a => (match S a with | some (.dic ks vs) => some (ks, vs) | _ => none)
  | _ => none
/-- a dict, locked or not -/
def DicR (H : Hp) (a : Addr) (ks : List D) (vs : List V) : Prop := ∃ kvs : List (Key × V), Rd H a (.dK kvs) ∧ ks = kvs.map (fun p => keyD p.1) ∧ vs = kvs.map (·.2)
theorem DicAt.r {H : Hp} {a : Addr} {ks : List D} {vs : List V} (h : DicAt H a ks vs) : DicR H a ks vs := by
  obtain ⟨kvs, h1, h2⟩ := h
  exact ⟨kvs, .inl h1, h2⟩
theorem DicL.r {H : Hp} {a : Addr} {o : Obj} {ks : List D} {vs : List V} (h : DicL H a o ks vs) : DicR H a ks vs := by
  obtain ⟨kvs, h1, h2⟩ := h
  exact ⟨kvs, .inr ⟨o, h1⟩, h2⟩
def isK : D → Bool
  | .int _ => true
  | .str _ => true
  | _ => false
theorem vd_at {K : PySem.W.Frag} {F H : Hp} {S : Sto} {d : D} {v : V} {p : List D × List D} (r : RelH K F H S) (rd : R K F d v) (h : vd S d = some p) : ∃ a vs, v = .ref a ∧ DicR H a p.1 vs ∧ Rs K F p.2 vs := by
  cases d with
  | dic ks ds =>
    cases h
    unfold R at rd
    obtain ⟨a, vs, e, h1, h2⟩ := rd
    exact ⟨a, vs, e, (h1.mono r.ex).r, h2⟩
  | dlk ks ds =>
    cases h
    unfold R at rd
    obtain ⟨a, o, vs, e, h1, h2⟩ := rd
    exact ⟨a, vs, e, (h1.mono r.ex).r, h2⟩
  | adr a =>
    unfold vd at h
    dsimp only at h
    split at h
    · rename_i ks ds q
      cases h
      unfold R at rd
      obtain ⟨_, vs, h1, h2⟩ := r.so a _ q
      exact ⟨a, vs, rd, h1.r, h2⟩
    · cases h
  | _ => cases h
theorem keq_key {j : Key} {d : D} : keq (keyD j) d = true ↔ keyD j = d := by
  cases j with
  | inl i => cases d <;> simp [keq, keyD]
  | inr x => cases d <;> simp [keq, keyD]
theorem keyD_inj {j k : Key} (h : keyD j = keyD k) : j = k := by
  cases j <;> cases k <;> simp_all [keyD]
theorem isK_key {K : PySem.W.Frag} {F : Hp} {d : D} {y : V} (rd : R K F d y) (h : isK d = true) : ∃ k : Key, d = keyD k ∧ y = kV k := by
  cases d with
  | int i => unfold R at rd; exact ⟨.inl i, rfl, rd⟩
  | str x => unfold R at rd; exact ⟨.inr x, rfl, rd⟩
  | _ => cases h
theorem dgo_val {K : PySem.W.Frag} {F : Hp} (k : Key) : ∀ {kvs : List (Key × V)} {ds : List D}, Rs K F ds (kvs.map (·.2)) →
    (∀ v, valV kvs k = some v → ∃ d, dgo (kvs.map fun p => keyD p.1) ds (keyD k) = some d ∧ R K F d v) ∧ (valV kvs k = none → dgo (kvs.map fun p => keyD p.1) ds (keyD k) = none)
  | [], ds, r => by
    have := r.nil_iff.mp rfl
    subst this
    refine ⟨fun v h => ?_, fun _ => rfl⟩
    rw [valV_nil] at h
    cases h
  | p :: kvs, ds, r => by
    cases ds with
    | nil => unfold Rs at r; cases r
    | cons d ds =>
      unfold Rs at r
      obtain ⟨v, vs, e, h1, h2⟩ := r
      rw [List.map_cons] at e ⊢
      injection e with e1 e2
      subst e1 e2
      by_cases hk : p.1 = k
      · have hq : keq (keyD p.1) (keyD k) = true := by rw [hk]; exact keq_key.mpr rfl
        unfold dgo
        rw [if_pos hq, valV_pos hk]
        refine ⟨fun v h => ?_, fun h => ?_⟩
        · cases h; exact ⟨d, rfl, h1⟩
        · cases h
      · have hq : ¬ keq (keyD p.1) (keyD k) = true := fun h => hk (keyD_inj (keq_key.mp h))
        unfold dgo
        rw [if_neg hq, valV_neg hk]
        exact dgo_val k h2
theorem any_keq (k : Key) : ∀ kvs : List (Key × V), ((kvs.map fun p => keyD p.1).any fun j => keq j (keyD k)) = kvs.any fun p => decide (p.1 = k)
  | [] => rfl
  | p :: kvs => by
    rw [List.map_cons, List.any_cons, List.any_cons, any_keq k kvs]
    congr 1
    by_cases h : p.1 = k
    · rw [decide_eq_true h, h]; exact keq_key.mpr rfl
    · rw [decide_eq_false h]
      cases q : keq (keyD p.1) (keyD k) with
      | false => rfl
      | true => exact absurd (keyD_inj (keq_key.mp q)) h
theorem rs_repl {K : PySem.W.Frag} {F : Hp} (k : Key) {u : D} {y : V} (ru : R K F u y) : ∀ {kvs : List (Key × V)} {ds : List D}, Rs K F ds (kvs.map (·.2)) →
    (kvs.map fun kv => if kv.1 = k then (kv.1, y) else kv).map (fun p => keyD p.1) = kvs.map (fun p => keyD p.1) ∧
    Rs K F (((kvs.map fun p => keyD p.1).zip ds).map fun p => if keq p.1 (keyD k) = true then u else p.2) ((kvs.map fun kv => if kv.1 = k then (kv.1, y) else kv).map (·.2))
  | [], ds, r => by
    have := r.nil_iff.mp rfl
    subst this
    exact ⟨rfl, Rs.nil⟩
  | p :: kvs, ds, r => by
    cases ds with
    | nil => unfold Rs at r; cases r
    | cons d ds =>
      unfold Rs at r
      obtain ⟨v, vs, e, h1, h2⟩ := r
      rw [List.map_cons] at e
      injection e with e1 e2
      subst e1 e2
      obtain ⟨i1, i2⟩ := rs_repl k ru h2
      simp only [List.map_cons, List.zip_cons_cons]
      by_cases hk : p.1 = k
      · have hq : keq (keyD p.1) (keyD k) = true := by rw [hk]; exact keq_key.mpr rfl
        rw [if_pos hk, if_pos hq]
        exact ⟨by rw [i1], Rs.cons ru i2⟩
      · have hq : ¬ keq (keyD p.1) (keyD k) = true := fun h => hk (keyD_inj (keq_key.mp h))
        rw [if_neg hk, if_neg hq]
        exact ⟨by rw [i1], Rs.cons h1 i2⟩
theorem dpt_put {K : PySem.W.Frag} {F : Hp} (k : Key) {u : D} {y : V} (ru : R K F u y) {kvs : List (Key × V)} {ds : List D} (r : Rs K F ds (kvs.map (·.2))) :
    (putK kvs k y).map (fun p => keyD p.1) = dptK (kvs.map fun p => keyD p.1) (keyD k) ∧ Rs K F (dptV (kvs.map fun p => keyD p.1) ds (keyD k) u) ((putK kvs k y).map (·.2)) := by
  unfold putK dptK dptV
  rw [any_keq]
  by_cases h : (kvs.any fun p => decide (p.1 = k)) = true
  · rw [if_pos h, if_pos h, if_pos h]
    exact rs_repl k ru r
  · rw [if_neg h, if_neg h, if_neg h]
    exact ⟨by simp, by rw [List.map_append]; exact r.append (Rs.cons ru Rs.nil)⟩
theorem dic_get {K : PySem.W.Frag} {F H : Hp} {a : Addr} {ks ds : List D} {vs : List V} {d : D} {y : V} (h : DicR H a ks vs) (rs : Rs K F ds vs) (rd : R K F d y) (hk : isK d = true) :
    ∃ o, DGet H a y o ∧ (∀ v, o = some v → ∃ x, dgo ks ds d = some x ∧ R K F x v) ∧ (o = none → dgo ks ds d = none) := by
  obtain ⟨k, rfl, rfl⟩ := isK_key rd hk
  obtain ⟨kvs, h1, h2, h3⟩ := h
  subst h2 h3
  obtain ⟨q1, q2⟩ := dgo_val k rs
  exact ⟨_, .inl ⟨kvs, k, h1, rfl, rfl⟩, q1, q2⟩
def fGet (d e : D) (S : Sto) (k : KD) : Prop := match vd S d with | some (ks, vs) => isK e = true ∧ (match dgo ks vs e with | some x => k x S | none => False) | none => False
def fInD (d e : D) (S : Sto) (k : KD) : Prop := match vd S e with | some (ks, vs) => isK d = true ∧ k (.bl (dgo ks vs d).isSome) S | none => False
def fNotInD (d e : D) (S : Sto) (k : KD) : Prop := match vd S e with | some (ks, vs) => isK d = true ∧ k (.bl (!(dgo ks vs d).isSome)) S | none => False
def sSetD (d e u : D) (S : Sto) (k : Sto → Prop) : Prop := match d with | .adr a => (match S a with | some (.dic ks vs) => isK e = true ∧ ks.length < sizeLine ∧ k (supd S a (.dic (dptK ks e) (dptV ks vs e u))) | _ => False) | _ => False
section
variable {X : Cx} {wd : WD}
theorem ixR_dic (hu : X.A.units + 1 < cLine) : IxR X (fun x y H Q => ∃ a v, x = .ref a ∧ DGet H a y (some v) ∧ Q v H) := by
  intro value slice pins s σ H x y v u Q I rx ry ⟨a, w, ex, g, q⟩ hs
  subst ex
  cases rx
  exact tail_any (dict_typeIs I g) PySem.F.slot_dict_getitem.lookup (d_getItem hu I g ry fun w' s' I' rw' => ⟨w, H, I', rw', q⟩) hs
theorem ixdD {kk : Nat} (hr : Rm kk X.A) : IxD X fGet := by
  intro F H S x y d e k Q rh rd re h hk
  unfold fGet at h
  split at h
  · rename_i ks ds q
    obtain ⟨hK, h⟩ := h
    obtain ⟨a, vs, e1, h1, rs⟩ := vd_at rh rd q
    obtain ⟨o, g, q1, q2⟩ := dic_get h1 rs re hK
    cases o with
    | none => rw [q2 rfl] at h; exact h.elim
    | some v =>
      obtain ⟨z, ez, rz⟩ := q1 v rfl
      rw [ez] at h
      exact ⟨_, ixR_dic (by have := units_of hr; omega), a, v, e1, g, hk F v H z S Go.refl rh rz h⟩
  · exact h.elim
theorem get_bl {K : PySem.W.Frag} {F : Hp} {o : Option V} {r : Option D} (h1 : ∀ v, o = some v → ∃ x, r = some x ∧ R K F x v) (h2 : o = none → r = none) : o.isSome = r.isSome := by
  cases o with
  | none => rw [h2 rfl]; rfl
  | some v => obtain ⟨x, e, _⟩ := h1 v rfl; rw [e]; rfl
theorem od_inD {kk : Nat} (hr : Rm kk X.A) : OpD X (compareOp .In) fInD := by
  intro F H S x y d e k Q rh rd re h hk
  unfold fInD at h
  split at h
  · rename_i ks ds q
    obtain ⟨hK, h⟩ := h
    obtain ⟨a, vs, e1, h1, rs⟩ := vd_at rh re q
    obtain ⟨o, g, q1, q2⟩ := dic_get h1 rs rd hK
    refine ⟨fun x y H Q => ∃ a o, y = .ref a ∧ DGet H a x o ∧ Q (.bl o.isSome) H, ?_, a, o, e1, g, hk F _ H (.bl (dgo ks ds d).isSome) S Go.refl rh (by unfold R; rw [get_bl q1 q2]) h⟩
    intro pins s σ H x y v u Q I rx ry ⟨a, o, ey, g, q⟩
    subst ey
    cases ry
    exact d_in (by have := units_of hr; omega) I g rx fun s' I' => ⟨.bl o.isSome, H, I', rfl, q⟩
  · exact h.elim
theorem od_notInD {kk : Nat} (hr : Rm kk X.A) : OpD X (compareOp .NotIn) fNotInD := by
  intro F H S x y d e k Q rh rd re h hk
  unfold fNotInD at h
  split at h
  · rename_i ks ds q
    obtain ⟨hK, h⟩ := h
    obtain ⟨a, vs, e1, h1, rs⟩ := vd_at rh re q
    obtain ⟨o, g, q1, q2⟩ := dic_get h1 rs rd hK
    refine ⟨fun x y H Q => ∃ a o, y = .ref a ∧ DGet H a x o ∧ Q (.bl (!o.isSome)) H, ?_, a, o, e1, g, hk F _ H (.bl (!(dgo ks ds d).isSome)) S Go.refl rh (by unfold R; rw [get_bl q1 q2]) h⟩
    intro pins s σ H x y v u Q I rx ry ⟨a, o, ey, g, q⟩
    subst ey
    cases ry
    exact d_notIn (by have := units_of hr; omega) I g rx fun s' I' => ⟨.bl (!o.isSome), H, I', rfl, q⟩
  · exact h.elim
theorem sd_dic {kk : Nat} (hr : Rm kk X.A) : StD X sSetD := by
  intro F H S x y z d e u k Q rh rd re ru h hk
  unfold sSetD at h
  split at h
  · rename_i a
    split at h
    · rename_i ks ds q
      obtain ⟨hK, hz, h⟩ := h
      unfold R at rd
      subst rd
      obtain ⟨f1, vs, ⟨kvs, h1, h2, h3⟩, rs⟩ := rh.so a _ q
      subst h2 h3
      obtain ⟨j, rfl, rfl⟩ := isK_key re hK
      obtain ⟨p1, p2⟩ := dpt_put j ru rs
      refine ⟨_, set_dict (by have := units_of hr; omega), a, _, rfl, DPut.k h1 (by simpa using hz), ?_⟩
      refine hk _ _ _ (Go.putS q) (rh.putS (u := .dic (dptK (kvs.map fun p => keyD p.1) (keyD j)) (dptV (kvs.map fun p => keyD p.1) ds (keyD j) u)) q ?_) h
      exact ⟨_, ⟨putK kvs j z, upd_same, p1.symm, rfl⟩, p2⟩
    · exact h.elim
  · exact h.elim
end
end Z

set_option Elab.async false
set_option linter.all false
set_option maxRecDepth 100000
set_option maxHeartbeats 4000000
namespace Z
open PySem PySem.Spec PyProof.Rows L2

/-! ### dict comprehensions -/
def compDD (wd : WD) (g : TGD) (tt : TTD) (tk tv : TD) (ρ : Envd) (G : Sto → Prop) : List D → Sto → List D → List D → (List D → List D → Sto → Prop) → Prop
  | [], S, ks, vs, k => G S ∧ k ks vs S
  | d :: ds, S, ks, vs, k => G S ∧ g d ρ S fun ρ1 S1 => tt wd ρ1 S1 fun b S2 => if b = true then tk wd ρ1 S2 fun y S3 => tv wd ρ1 S3 fun z S4 => isK y = true ∧ compDD wd g tt tk tv ρ G ds S4 (dptK ks y) (dptV ks vs y z) k else compDD wd g tt tk tv ρ G ds S2 ks vs k
def dDc (wi : TID) (g : TGD) (tt : TTD) (tk tv : TD) (vs : List Nat) : TD := fun wd ρ S k => wi wd ρ S fun ds G S1 => compDD wd0 g tt tk tv (wipeD ρ vs) G ds S1 [] [] fun ks ys S2 => k (.dic ks ys) S2
def dDcM (wi : TID) (g : TGD) (tt : TTD) (tk tv : TD) (vs : List Nat) : TD := fun wd ρ S k => wi wd ρ S fun ds G S1 => compDD wd0 g tt tk tv (wipeD ρ vs) G ds S1 [] [] fun ks ys S2 => ∀ p, S2 p = none → k (.adr p) (supd S2 p (.dic ks ys))
theorem compDD_ind {wd : WD} {g : TGD} {tt : TTD} {tk tv : TD} {ρ : Envd} {G : Sto → Prop} {k : List D → List D → Sto → Prop} (P : List D → Sto → List D → List D → Prop) (h0 : ∀ S ks vs, P [] S ks vs → G S ∧ k ks vs S)
    (h1 : ∀ d ds S ks vs (cont : Sto → List D → List D → Prop), P (d :: ds) S ks vs → (∀ S ks vs, P ds S ks vs → cont S ks vs) → G S ∧ g d ρ S fun ρ1 S1 => tt wd ρ1 S1 fun b S2 => if b = true then tk wd ρ1 S2 fun y S3 => tv wd ρ1 S3 fun z S4 => isK y = true ∧ cont S4 (dptK ks y) (dptV ks vs y z) else cont S2 ks vs) :
    ∀ ds S ks vs, P ds S ks vs → compDD wd g tt tk tv ρ G ds S ks vs k := by
  intro ds
  induction ds with
  | nil => intro S ks vs h; exact h0 S ks vs h
  | cons d ds ih => intro S ks vs h; exact h1 d ds S ks vs (fun S ks vs => compDD wd g tt tk tv ρ G ds S ks vs k) h ih
section
variable {X : Cx} {wd : WD} {pos : Pos}
theorem dc_run {K : PySem.W.Frag} {w : TI} {wi : TID} {ws vs : List Nat} {g : TGD} {tt : TTD} {tk tv : TD} {σ : L2.St} {H F : Hp} {ρ : Envd} {S : Sto} {Q : VK} {kk : List D → List D → Sto → Prop}
    (hw : ∀ σ H F ρ S k (P : It → Hp → Prop), Rel K wd F σ H ρ S → wi wd ρ S k → (∀ J H' F' ds G S', Go F H S F' H' S' → Rel K wd F' σ H' ρ S' → ItOk K J F' ds G → ds.length ≤ sizeLine → k ds G S' → P J H') → w σ H P)
    (hws : ∀ i ∈ ws, i ∈ vs) (r : Rel K wd F σ H ρ S) (h : wi wd ρ S fun ds G S1 => compDD wd0 g tt tk tv (wipeD ρ vs) G ds S1 [] [] kk)
    (hk : ∀ Dl F' H' S' ys kvs, H Dl = none → Go F H S F' H' S' → RelH K F' H' S' → H' Dl = some (.dK kvs) → F' Dl = none → S' Dl = none → Rs K F' ys (kvs.map (·.2)) → kk (kvs.map fun p => keyD p.1) ys S' → Q (.ref Dl) H') :
    tDc w (liftG K wd0 ws g) (liftT K wd0 (tt wd0)) (lift K wd0 (tk wd0)) (lift K wd0 (tv wd0)) vs σ H Q := by
  refine hw σ H F ρ S _ _ r h fun J H1 F1 ds G S1 g1 r1 it hz hc Dl hD => ?_
  obtain ⟨hF1, hS1⟩ := r1.h.fresh hD
  have hHD : H Dl = none := g1.dm Dl hD
  refine ⟨fun i m H' => m = ds.length - i ∧ i ≤ ds.length ∧ ∃ F' S' acc kvs, Go F H S F' H' S' ∧ Ex F1 F' ∧ RelH K F' H' S' ∧ H' Dl = some (.dK kvs) ∧ F' Dl = none ∧ S' Dl = none ∧ Rs K F' acc (kvs.map (·.2)) ∧ kvs.length ≤ i ∧ compDD wd0 g tt tk tv (wipeD ρ vs) G (ds.drop i) S' (kvs.map fun p => keyD p.1) acc kk,
    ⟨ds.length, by simp, Nat.zero_le _, F1, S1, [], [], ?_, Evl.Ex.refl _, r1.h.other hF1 hS1, upd_same, hF1, hS1, Rs.nil, Nat.le_refl _, hc⟩, ?_⟩
  · exact g1.trans ⟨Evl.Ex.refl _, fun a o ha n f => ⟨by rw [upd_ne (ne_of_none ha hD)]; exact ha, n, f⟩, fun _ ha => upd_none ha⟩
  rintro i m H' ⟨rfl, hi, F2, S2, acc, kvs, g2, e2, r2, hD2, hF2, hS2, rs2, hl2, hc2⟩
  by_cases hlt : i < ds.length
  · obtain ⟨d, hd, hdrop⟩ := drop_get hlt
    rw [hdrop] at hc2
    obtain ⟨hG, hc2⟩ := hc2
    obtain ⟨it1, it2⟩ := it F2 H' S2 i e2 r2 hG
    obtain ⟨it3, it4⟩ := it2 d hd
    refine .inr ⟨it3, fun H3 => ∃ F' S' acc kvs, Go F H S F' H3 S' ∧ Ex F1 F' ∧ RelH K F' H3 S' ∧ H3 Dl = some (.dK kvs) ∧ F' Dl = none ∧ S' Dl = none ∧ Rs K F' acc (kvs.map (·.2)) ∧ kvs.length ≤ i + 1 ∧ compDD wd0 g tt tk tv (wipeD ρ vs) G (ds.drop (i + 1)) S' (kvs.map fun p => keyD p.1) acc kk,
      fun H3 n => ⟨ds.length - (i + 1), by omega, rfl, hlt, n⟩, fun x H3 y => ?_⟩
    obtain ⟨F3, g3, r3, rd⟩ := it4 x H3 y
    have rw3 : Rel K wd0 F3 (L2.wipe σ vs) H3 (wipeD ρ vs) S2 := (((r.wipe vs).up g2 r2).up g3 r3).to0
    refine ⟨F3, wipeD ρ vs, S2, d, _, rw3, rd, hc2, fun F4 σ4 H4 ρ4 S4 g4 r4 k4 q4 => ⟨wipe_keeps k4 hws, ?_⟩⟩
    refine ⟨F4, ρ4, S4, _, r4, q4, fun F5 b H5 S5 g5 r5 q5 => ?_⟩
    have gD : Go F2 H' S2 F5 H5 S5 := (g3.trans g4).trans g5
    cases b with
    | true =>
      rw [if_pos rfl] at q5
      dsimp only
      rw [if_pos rfl]
      refine ⟨F5, ρ4, S5, _, r5, q5, fun F6 v H6 d6 S6 g6 r6 rd6 q6 => ?_⟩
      refine ⟨F6, ρ4, S6, _, r6, q6, fun F7 u H7 d7 S7 g7 r7 rd7 q7 => ?_⟩
      obtain ⟨hK, q7⟩ := q7
      obtain ⟨kk', ek, ev⟩ := isK_key (R.mono g7.ex _ _ rd6) hK
      subst ek
      have gD7 := (gD.trans g6).trans g7
      obtain ⟨hD7, hS7, hF7⟩ := gD7.fr Dl _ hD2 hS2 hF2
      have eF : Ex F2 F7 := gD7.ex
      obtain ⟨p1, p2⟩ := dpt_put kk' rd7 (Rs.mono eF _ _ rs2)
      have hlen := length_putK kvs kk' u
      refine ⟨kvs, kk', ev, hD7, ?_, F7, S7, _, putK kvs kk' u, ?_, e2.trans eF, r7.h.other hF7 hS7, upd_same, hF7, hS7, p2, ?_, by rw [p1]; exact q7⟩
      · omega
      · have z := g2.trans gD7
        refine ⟨z.ex, fun a o ha n f => ?_, fun a ha => z.dm a (upd_none ha)⟩
        obtain ⟨h1, h2, h3⟩ := z.fr a o ha n f
        exact ⟨by rw [upd_ne (ne_of_none ha hHD)]; exact h1, h2, h3⟩
      · omega
    | false =>
      rw [if_neg (by decide)] at q5
      dsimp only
      rw [if_neg (by decide)]
      obtain ⟨hD5, hS5, hF5⟩ := gD.fr Dl _ hD2 hS2 hF2
      exact ⟨F5, S5, acc, kvs, g2.trans gD, e2.trans gD.ex, r5.h, hD5, hF5, hS5, Rs.mono gD.ex _ _ rs2, by omega, q5⟩
  · have ei : i = ds.length := by omega
    subst ei
    rw [List.drop_length] at hc2
    obtain ⟨it1, _⟩ := it F2 H' S2 _ e2 r2 hc2.1
    exact .inl ⟨it1 rfl, hk Dl F2 H' S2 acc kvs hHD g2 r2 hD2 hF2 hS2 rs2 hc2.2⟩
/-- an object kept aside is frozen; becomes one of the store -/
theorem asideO_frz {K : PySem.W.Frag} {F H F' H' : Hp} {S S' : Sto} {Dl : Addr} {o : HO} (h0 : H Dl = none) (g : Go F H S F' H' S') (r : RelH K F' H' S') (h1 : H' Dl = some o) (f1 : F' Dl = none) (n1 : S' Dl = none) :
    ∃ F2, Go F H S F2 H' S' ∧ RelH K F2 H' S' ∧ Ex F' F2 ∧ F2 Dl = some o := by
  have eF : Ex F' (upd F' Dl o) := Evl.Ex.new f1
  refine ⟨upd F' Dl o, ⟨g.ex.trans eF, fun a o ha n f => ?_, g.dm⟩, ⟨fun a v e => ?_, fun a v e => ?_⟩, eF, upd_same⟩
  · obtain ⟨q1, q2, q3⟩ := g.fr a o ha n f
    exact ⟨q1, q2, by rw [upd_ne (ne_of_none ha h0)]; exact q3⟩
  · by_cases ha : a = Dl
    · subst ha; rw [upd_same] at e; cases e; exact h1
    · rw [upd_ne ha] at e; exact r.ex a v e
  · have ha : a ≠ Dl := fun z => by rw [z, n1] at e; cases e
    obtain ⟨q1, q2⟩ := r.so a v e
    exact ⟨by rw [upd_ne ha]; exact q1, q2.mono eF rfl⟩
theorem asideO_sto {K : PySem.W.Frag} {F H F' H' : Hp} {S S' : Sto} {Dl : Addr} {u : DO} (h0 : H Dl = none) (g : Go F H S F' H' S') (r : RelH K F' H' S') (f1 : F' Dl = none) (ro : RO K F' H' Dl u) :
    Go F H S F' H' (supd S' Dl u) ∧ RelH K F' H' (supd S' Dl u) := by
  refine ⟨⟨g.ex, fun a o ha n f => ?_, g.dm⟩, ⟨r.ex, fun a v e => ?_⟩⟩
  · obtain ⟨q1, q2, q3⟩ := g.fr a o ha n f
    exact ⟨q1, by rw [supd_ne (ne_of_none ha h0)]; exact q2, q3⟩
  · by_cases ha : a = Dl
    · subst ha; rw [supd_same] at e; cases e; exact ⟨f1, ro⟩
    · rw [supd_ne ha] at e; exact r.so a v e
variable {kx vx tg iter : Expr} {ifs : List Expr} {scope : Scope} {own : List (Str × Nat)} {ws : List Nat} {wi : TID} {g : TGD} {tt : TTD} {tk tv : TD}
theorem pd_dc (hc : X.calm = true) (hN : X.N.Nodup) (ok : BlkOk X.N X.env.scope scope own) (hi : PID X wd tg iter wi)
    (hg : ∀ (s : Shared) (H : Hp) (C : Addr) (cl : List (Str × Addr)) (fp : List Addr), PGD (X.blk s H scope (compEnvC scope cl C X.env) fp) wd0 tg ws g) (ht : ∀ (s : Shared) (H : Hp) (C : Addr) (cl : List (Str × Addr)) (fp : List Addr), PTsD (X.blk s H scope (compEnvC scope cl C X.env) fp) wd0 ifs tt)
    (hk : ∀ (s : Shared) (H : Hp) (C : Addr) (cl : List (Str × Addr)) (fp : List Addr), PD (X.blk s H scope (compEnvC scope cl C X.env) fp) wd0 kx tk)
    (he : ∀ (s : Shared) (H : Hp) (C : Addr) (cl : List (Str × Addr)) (fp : List Addr), PD (X.blk s H scope (compEnvC scope cl C X.env) fp) wd0 vx tv) (hws : ∀ i ∈ ws, i ∈ own.map (·.2) := by decide) (hs : ∀ x, foldedSetIterable iter X.env x = pure x := by intro _; rfl) :
    PD X wd (.DictComp kx vx [⟨tg, iter, ifs, 0⟩] scope pos) (dDc wi g tt tk tv (own.map (·.2))) := by
  obtain ⟨w, pi, hw⟩ := hi.pi
  refine PE.pd (pe_dc (g := liftG X.K wd0 ws g) (tt := liftT X.K wd0 (tt wd0)) (tk := lift X.K wd0 (tk wd0)) (tv := lift X.K wd0 (tv wd0)) hc hN pi ok (fun s H C cl fp => (hg s H C cl fp).pg) (fun s H C cl fp => (ht s H C cl fp).pts) (fun s H C cl fp => (hk s H C cl fp).pe) (fun s H C cl fp => (he s H C cl fp).pe) hs) fun σ H F ρ S k r h => ?_
  refine dc_run hw hws r h fun Dl F' H' S' ys kvs h0 gg rr h1 f1 n1 rs hk => ?_
  obtain ⟨F2, g2, r2, e2, rd⟩ := asideO_frz h0 gg rr h1 f1 n1
  refine ⟨F2, .dic (kvs.map fun p => keyD p.1) ys, S', g2, r.up g2 r2, ?_, hk⟩
  unfold R
  exact ⟨Dl, _, rfl, ⟨kvs, rd, rfl, rfl⟩, Rs.mono e2 _ _ rs⟩
theorem pd_dcM (hc : X.calm = true) (hN : X.N.Nodup) (ok : BlkOk X.N X.env.scope scope own) (hi : PID X wd tg iter wi)
    (hg : ∀ (s : Shared) (H : Hp) (C : Addr) (cl : List (Str × Addr)) (fp : List Addr), PGD (X.blk s H scope (compEnvC scope cl C X.env) fp) wd0 tg ws g) (ht : ∀ (s : Shared) (H : Hp) (C : Addr) (cl : List (Str × Addr)) (fp : List Addr), PTsD (X.blk s H scope (compEnvC scope cl C X.env) fp) wd0 ifs tt)
    (hk : ∀ (s : Shared) (H : Hp) (C : Addr) (cl : List (Str × Addr)) (fp : List Addr), PD (X.blk s H scope (compEnvC scope cl C X.env) fp) wd0 kx tk)
    (he : ∀ (s : Shared) (H : Hp) (C : Addr) (cl : List (Str × Addr)) (fp : List Addr), PD (X.blk s H scope (compEnvC scope cl C X.env) fp) wd0 vx tv) (hws : ∀ i ∈ ws, i ∈ own.map (·.2) := by decide) (hs : ∀ x, foldedSetIterable iter X.env x = pure x := by intro _; rfl) :
    PD X wd (.DictComp kx vx [⟨tg, iter, ifs, 0⟩] scope pos) (dDcM wi g tt tk tv (own.map (·.2))) := by
  obtain ⟨w, pi, hw⟩ := hi.pi
  refine PE.pd (pe_dc (g := liftG X.K wd0 ws g) (tt := liftT X.K wd0 (tt wd0)) (tk := lift X.K wd0 (tk wd0)) (tv := lift X.K wd0 (tv wd0)) hc hN pi ok (fun s H C cl fp => (hg s H C cl fp).pg) (fun s H C cl fp => (ht s H C cl fp).pts) (fun s H C cl fp => (hk s H C cl fp).pe) (fun s H C cl fp => (he s H C cl fp).pe) hs) fun σ H F ρ S k r h => ?_
  refine dc_run hw hws r h fun Dl F' H' S' ys kvs h0 gg rr h1 f1 n1 rs hk => ?_
  obtain ⟨g2, r2⟩ := asideO_sto (u := .dic (kvs.map fun p => keyD p.1) ys) h0 gg rr f1 ⟨_, ⟨kvs, h1, rfl, rfl⟩, rs⟩
  exact ⟨F', .adr Dl, _, g2, r.up g2 r2, rfl, hk Dl n1⟩
end
end Z

set_option Elab.async false
set_option linter.all false
set_option maxRecDepth 100000
set_option maxHeartbeats 4000000
namespace Z
open PySem PySem.Spec PyProof.Rows L2

/-! ### isinstance, evaluated -/
def tyS : D → String
  | .non => "NoneType" | .bl _ => "bool" | .int _ => "int" | .str _ => "str" | .tup _ => "tuple" | .lst _ => "list" | .frl _ => "list" | .dic _ _ => "dict" | .set _ => "set" | _ => ""
/-- a tree of plain data, or {} -/
def okT (d : D) : Prop := pln 60 d ∨ isE d = true
theorem isE_eq {d : D} (h : isE d = true) : d = .dic [] [] := by
  unfold isE at h
  split at h
  · rfl
  · cases h
def isInt : D → Bool
  | .int _ => true
  | _ => false
theorem kit1 : kitB "NoneType" "int" = some false := by decide +kernel
theorem kit2 : kitB "bool" "int" = some true := by decide +kernel
theorem kit3 : kitB "int" "int" = some true := by decide +kernel
theorem kit4 : kitB "str" "int" = some false := by decide +kernel
theorem kit5 : kitB "tuple" "int" = some false := by decide +kernel
theorem kit6 : kitB "list" "int" = some false := by decide +kernel
theorem kit7 : kitB "dict" "int" = some false := by decide +kernel
theorem kit8 : kitB "set" "int" = some false := by decide +kernel
theorem kjt1 : kitB "NoneType" "bool" = some false := by decide +kernel
theorem kjt2 : kitB "bool" "bool" = some true := by decide +kernel
theorem kjt3 : kitB "int" "bool" = some false := by decide +kernel
theorem kjt4 : kitB "str" "bool" = some false := by decide +kernel
theorem kjt5 : kitB "tuple" "bool" = some false := by decide +kernel
theorem kjt6 : kitB "list" "bool" = some false := by decide +kernel
theorem kjt7 : kitB "dict" "bool" = some false := by decide +kernel
theorem kjt8 : kitB "set" "bool" = some false := by decide +kernel
theorem klt1 : kitB "NoneType" "list" = some false := by decide +kernel
theorem klt2 : kitB "bool" "list" = some false := by decide +kernel
theorem klt3 : kitB "int" "list" = some false := by decide +kernel
theorem klt4 : kitB "str" "list" = some false := by decide +kernel
theorem klt5 : kitB "tuple" "list" = some false := by decide +kernel
theorem klt6 : kitB "list" "list" = some true := by decide +kernel
theorem klt7 : kitB "dict" "list" = some false := by decide +kernel
theorem klt8 : kitB "set" "list" = some false := by decide +kernel
theorem ktt1 : kitB "NoneType" "tuple" = some false := by decide +kernel
theorem ktt2 : kitB "bool" "tuple" = some false := by decide +kernel
theorem ktt3 : kitB "int" "tuple" = some false := by decide +kernel
theorem ktt4 : kitB "str" "tuple" = some false := by decide +kernel
theorem ktt5 : kitB "tuple" "tuple" = some true := by decide +kernel
theorem ktt6 : kitB "list" "tuple" = some false := by decide +kernel
theorem ktt7 : kitB "dict" "tuple" = some false := by decide +kernel
theorem ktt8 : kitB "set" "tuple" = some false := by decide +kernel
theorem kst1 : kitB "NoneType" "str" = some false := by decide +kernel
theorem kst2 : kitB "bool" "str" = some false := by decide +kernel
theorem kst3 : kitB "int" "str" = some false := by decide +kernel
theorem kst4 : kitB "str" "str" = some true := by decide +kernel
theorem kst5 : kitB "tuple" "str" = some false := by decide +kernel
theorem kst6 : kitB "list" "str" = some false := by decide +kernel
theorem kst7 : kitB "dict" "str" = some false := by decide +kernel
theorem kst8 : kitB "set" "str" = some false := by decide +kernel
def isBl : D → Bool
  | .bl _ => true
  | _ => false
def isLst (S : Sto) (d : D) : Bool := (vl S d).isSome
def isTup : D → Bool
  | .tup _ => true
  | _ => false
def isStr : D → Bool
  | .str _ => true
  | _ => false
theorem isi_int {S : Sto} {d : D} {k : KD} (h : (tyN S d).isSome = true) : cIsi [d, .ty "int"] S k ↔ k (.bl (isInt d || isBl d)) S := by
  cases d with
  | adr a =>
    unfold tyN at h
    dsimp only at h
    split at h <;> first | (exact absurd h (by decide)) | (rename_i q; simp [cIsi, tyN, q, kit6, kit7, kit8, isInt, isBl])
  | ty => cases h
  | obj => cases h
  | tab => cases h
  | clo => cases h
  | _ => simp [cIsi, tyN, kit1, kit2, kit3, kit4, kit5, kit6, kit7, kit8, isInt, isBl]
theorem isi_bool {S : Sto} {d : D} {k : KD} (h : (tyN S d).isSome = true) : cIsi [d, .ty "bool"] S k ↔ k (.bl (isBl d)) S := by
  cases d with
  | adr a =>
    unfold tyN at h
    dsimp only at h
    split at h <;> first | (exact absurd h (by decide)) | (rename_i q; simp [cIsi, tyN, q, kjt6, kjt7, kjt8, isBl])
  | ty => cases h
  | obj => cases h
  | tab => cases h
  | clo => cases h
  | _ => simp [cIsi, tyN, kjt1, kjt2, kjt3, kjt4, kjt5, kjt6, kjt7, kjt8, isBl]
theorem isi_list {S : Sto} {d : D} {k : KD} (h : (tyN S d).isSome = true) : cIsi [d, .ty "list"] S k ↔ k (.bl (isLst S d)) S := by
  cases d with
  | adr a =>
    unfold tyN at h
    dsimp only at h
    split at h <;> first | (exact absurd h (by decide)) | (rename_i q; simp [cIsi, tyN, q, klt6, klt7, klt8, isLst, vl])
  | ty => cases h
  | obj => cases h
  | tab => cases h
  | clo => cases h
  | _ => simp [cIsi, tyN, klt1, klt2, klt3, klt4, klt5, klt6, klt7, klt8, isLst, vl]
theorem isi_tup {S : Sto} {d : D} {k : KD} (h : (tyN S d).isSome = true) : cIsi [d, .ty "tuple"] S k ↔ k (.bl (isTup d)) S := by
  cases d with
  | adr a =>
    unfold tyN at h
    dsimp only at h
    split at h <;> first | (exact absurd h (by decide)) | (rename_i q; simp [cIsi, tyN, q, ktt6, ktt7, ktt8, isTup])
  | ty => cases h
  | obj => cases h
  | tab => cases h
  | clo => cases h
  | _ => simp [cIsi, tyN, ktt1, ktt2, ktt3, ktt4, ktt5, ktt6, ktt7, ktt8, isTup]
theorem isi_lt {S : Sto} {d : D} {k : KD} (h : (tyN S d).isSome = true) : cIsi [d, .tup [.ty "list", .ty "tuple"]] S k ↔ k (.bl (isLst S d || isTup d)) S := by
  cases d with
  | adr a =>
    unfold tyN at h
    dsimp only at h
    split at h <;> first | (exact absurd h (by decide)) | (rename_i q; simp [cIsi, tyN, tys, kitA, q, klt6, klt7, klt8, ktt6, ktt7, ktt8, isLst, vl, isTup])
  | ty => cases h
  | obj => cases h
  | tab => cases h
  | clo => cases h
  | _ => simp [cIsi, tyN, tys, kitA, klt1, klt2, klt3, klt4, klt5, klt6, klt7, klt8, ktt1, ktt2, ktt3, ktt4, ktt5, ktt6, ktt7, ktt8, isLst, vl, isTup]
theorem isi_str {S : Sto} {d : D} {k : KD} (h : (tyN S d).isSome = true) : cIsi [d, .ty "str"] S k ↔ k (.bl (isStr d)) S := by
  cases d with
  | adr a =>
    unfold tyN at h
    dsimp only at h
    split at h <;> first | (exact absurd h (by decide)) | (rename_i q; simp [cIsi, tyN, q, kst6, kst7, kst8, isStr])
  | ty => cases h
  | obj => cases h
  | tab => cases h
  | clo => cases h
  | _ => simp [cIsi, tyN, kst1, kst2, kst3, kst4, kst5, kst6, kst7, kst8, isStr]
theorem pln_ty {n : Nat} {d : D} {S : Sto} (h : pln n d) : (tyN S d).isSome = true := by
  cases d <;> first | rfl | (cases n <;> (unfold pln at h; exact h.elim))
theorem okT_ty {d : D} {S : Sto} (h : okT d) : (tyN S d).isSome = true := by
  rcases h with h | h
  · exact pln_ty h
  · rw [isE_eq h]; rfl
theorem tr_pln {n : Nat} {d : D} {S : Sto} (h : pln n d) : tr S d = d := by
  cases d with
  | adr a => cases n <;> (unfold pln at h; exact h.elim)
  | _ => rfl
theorem pln_mono : ∀ {m n : Nat} {d : D}, m ≤ n → pln m d → pln n d := by
  intro m
  induction m with
  | zero =>
    intro n d _ h
    cases d <;> first | (unfold pln at h; exact h.elim) | (cases n <;> (unfold pln; trivial))
  | succ m ih =>
    intro n d hn h
    cases n with
    | zero => omega
    | succ n =>
      cases d <;> first | (unfold pln at h; exact h.elim) | (unfold pln; trivial) | (unfold pln at h ⊢; exact fun x hx => ih (by omega) (h x hx))
end Z

set_option Elab.async false
set_option linter.all false
set_option maxRecDepth 100000
set_option maxHeartbeats 4000000
namespace Z
open PySem PySem.Spec PyProof.Rows L2
/-- what stands in the slot i is frozen: nothing is done -/
def dFz (i : Nat) (t : TSD) : TSD := fun wd E ρ S => match ρ[i]? with
  | some (some (.adr p)) => (match S p with | some u => t wd E (ρ.set i (some u.toD)) (sdel S p) | none => False)
  | _ => False
theorem Rel.slot {K : PySem.W.Frag} {wd : WD} {F : Hp} {σ : L2.St} {H : Hp} {ρ : Envd} {S : Sto} (r : Rel K wd F σ H ρ S) {i : Nat} {v : V} {d : D} (hv : σ[i]? = some (some v)) (h : R K F d v) : Rel K wd F σ H (ρ.set i (some d)) S := by
  refine ⟨r.h, fun j x e => ?_, by rw [List.length_set]; exact r.len, r.go⟩
  by_cases hj : i = j
  · subst hj
    have hl : i < ρ.length := by
      have := (List.getElem?_eq_some_iff.mp e).1
      rwa [List.length_set] at this
    rw [List.getElem?_set_self hl] at e; cases e
    exact ⟨v, hv, h⟩
  · rw [List.getElem?_set_ne hj] at e
    exact r.sl j x e
section
variable {X : Cx} {wd : WD} {sts : List Stmt} {t : TSD} {i : Nat}
theorem pssd_fz (nd : X.N.Nodup) (h : PSsD X wd sts t) : PSsD X wd sts (dFz i t) := by
  refine ⟨fun pins s σ H F ρ S E I r q => ?_⟩
  unfold dFz at q
  split at q
  · rename_i p e
    split at q
    · rename_i u eu
      obtain ⟨F', g, rr, rd⟩ := r.h.frz eu
      obtain ⟨v, hv, hr⟩ := r.sl i _ e
      unfold R at hr
      subst hr
      exact thn (h.run pins s σ H F' (ρ.set i (some u.toD)) (sdel S p) E I ((r.up g rr).slot hv rd) q) fun _ _ z => SPd.trans g z
    · exact q.elim
  · exact q.elim
end
end Z

set_option Elab.async false
set_option linter.all false
set_option maxRecDepth 100000
set_option maxHeartbeats 4000000
/-! own exception classes with an __init__ of their own, over any built-in one: raised -/
namespace PySem
namespace ZX
open PySem.W PySem.Calls PyProof.Rows PySem.HandSPX Builtin Builtin.ObjectAttr
/-- what the written part tells of such a class: B the built-in one below it -/
structure OexB (K : W.Frag) (C : Addr) (B newId initId : String) (bmB : List Value) : Prop where
  cls : ∃ nm q N bs bm sn sub ab col dd k0 k1 k2 k3 k5, K.lookup C = some (excClassObj nm q C N bs bm true sn sub ab col dd k0 k1 k2 k3 k5 newId) ∧ excTail bmB bm = true
  sa : findIn K (.ref C) "__setattr__" = some (some (.builtin "object.__setattr__"))
  exC : subIn K (.ref C) (.type "BaseException") = some true
  tyC : typeIn K (.ref C) = some (.type "type")
  kC : keepIn K (.ref C) = true
  noF : findIn K (.ref C) "what" = some none
  base : ExcBaseFacts B newId initId bmB
  pass : ∀ self, refuseLoop self "__setattr__" bmB = pure ()
  ob : bmB.contains (.type "object") = true
theorem OexB.mro {K : W.Frag} {C : Addr} {B newId initId : String} {bmB : List Value} {bm : List Value} (T : OexB K C B newId initId bmB) (h : excTail bmB bm = true) : excTail bmB (.ref C :: bm) = true := h
section
variable {prog : Program} {w : World} {A : Around} {E : Value → Shared → Prop} {R : Result → Shared → Prop} {hp : Heap} {g : Array GenState} {d : Drawn} {t : Nat} {os : OsState}
/-- the first field of an exception -/
theorem osa_new {K : W.Frag} {name : Str} {tk : Tok} {v : Value} {x C : Addr} {fv : Array Value} {cd : ClassData} {bmB : List Value}
    (X : K.In hp) (hx : hp.get? x = some { cls := .ref C, data := .fields fv }) (hcd : clsIn K C = some cd) (hm : excTail bmB cd.mro = true) (hob : bmB.contains (.type "object") = true) (hps : ∀ self, refuseLoop self "__setattr__" bmB = pure ())
    (hh : cd.hasDict = true) (ha : findIn K (.ref C) name = some none)
    (hq : ∀ h' tk' dx, (∀ b o, b ≠ x → hp.get? b = some o → h'.get? b = some o) → hp.objs.size ≤ dx → dx ≠ x → h'.get? x = some { cls := .ref C, dict := some dx, data := .fields fv } →
      h'.Ns1 dx (fun y => if y = name then some v else none) → R (.ok (.ret .none)) ⟨h', g, d, tk', os⟩) :
    codeAny (model prog w) A (.call (.builtin "object.__setattr__") ⟨[.ref x, .str name tk, v], []⟩) R ⟨hp, g, d, t, os⟩ := by
  have I : InstAt hp x { cls := .ref C, data := .fields fv } C none := ⟨hx, rfl, rfl, trivial⟩
  have SF := F.store_object
  have hob : cd.mro.contains (.type "object") = true := (excTail_contains "object" _ hm).trans hob
  have ne : cd.mro.isEmpty = false := by
    cases e : cd.mro with
    | nil => rw [e] at hob; cases hob
    | cons _ _ => rfl
  have hxs : x ≠ hp.objs.size := Nat.ne_of_lt (Heap.lt_size hx)
  have sub : Looks (model prog w) hp (isInstance (.ref x) (.type "object")) true := I.type.andThen (looks_mroIn X (by unfold mroIn; rw [hcd, Option.bind_some, if_neg (by rw [ne]; decide), hob]))
  refine codeAny_call_builtin SF.slot.plain SF.entry (@check_slot (model prog w) _ _ ⟨hp, g, d, t, os⟩ "object.__setattr__" "object" "__setattr__" (.ref x) [.str name tk, v] [] _ SF.kind SF.split sub (SF.args (.ref x) (.str name tk) v) ?_)
  have hmr : Looks (model prog w) hp (mroOf (.ref C)) cd.mro := (looks_clsIn X hcd).andThen .now
  have L3 : Looks (model prog w) hp (storeTaker? none) none := .now
  have hcls : Looks (model prog w) hp (classData C) cd := looks_clsIn X hcd
  rw [osa_eq, refuse_eq]
  refine wpAny_bind (wpAny_bind (I.type.at (wpAny_bind (hmr.at ?_))))
  rw [excTail_pass _ (hps _) _ hm]
  refine wpAny_pure (wpAny_bind (I.type.at (wpAny_bind ((looks_findIn X ha).at (wpAny_bind (L3.at ?_))))))
  show wpAny _ _ (storeInOwnDict (.ref x) (.ref C) (.str name tk) name v false) _ _ _
  obtain ⟨nm, bs, mro, ns, qn, hd, sn, sb, ab, col, del⟩ := cd
  dsimp only at hh
  subst hh
  unfold storeInOwnDict ownDictForStores
  repeat (first | with_reducible refine store_in_new ?_ ?_ | with_reducible refine wpAny_loadPart_at hx ?_ | with_reducible refine hcls.at ?_ | wp_step)
  · exact ⟨_, #[], _, (Heap.get?_update_ne _ _ _ _ hxs.symm).trans (Heap.get?_push_at rfl rfl), rfl, fun e he => absurd he (by simp), fun _ => rfl⟩
  · intro h' tk' hn' hs
    have hx₁ : (hp.push { cls := .type "dict", data := .dict #[] }).get? x = some { cls := .ref C, data := .fields fv } := Heap.get?_push_of_some _ hx
    refine hq h' tk' hp.objs.size (fun b o hb ho => ?_) (Nat.le_refl _) hxs.symm ?_ hn'
    · exact (hs.2 b (Nat.ne_of_lt (Heap.lt_size ho))).trans ((Heap.get?_update_ne _ _ _ _ hb).trans (Heap.get?_push_of_some _ ho))
    · exact (hs.2 x hxs).trans (Heap.get?_update_self _ hx₁ rfl)
/-- C.name of a class of the text, found as a value -/
theorem method_cls {K : W.Frag} {s : Shared} {C : Addr} {name : Str} {v : Value} {pl : Sem Bool} {Q : Value × List Value → Shared → Prop} (X : K.In s.heap) (ht : typeIn K (.ref C) = some (.type "type")) (hop : nsIn K cStatics "thirdparty.any" = some none)
    (e : findCls K (.ref C) (.type "type") name = some (.val v)) (hh : handedIn v = true) (h : Q (v, []) { s with toks := s.toks + 1 }) : wpAny (model prog w) A (getMethod (.ref C) name pl) Q E s := by
  have L0 : Looks (model prog w) s.heap (typeOf (.ref C)) (.type "type") := looks_typeIn X ht
  have hg : findIn K (.type "type") "__getattribute__" = some (some (.builtin "type.__getattribute__")) := type_tga
  unfold getMethod specialOf
  refine wpAny_bind (wpAny_bind (L0.here ((looks_findIn X hg).here ?_)))
  dsimp only
  rw [if_pos canon_tga]
  refine wpAny_bind (wpAny_mono (Q := fun v => Q (v, [])) (E := E) ?_ (fun _ _ z => wpAny_pure z) fun _ _ z => z)
  refine cls_open X (looks_opaque X hop) L0 hg (looks_hook X (r := none) (by rfl)) (by show subIn K _ _ = _; rfl) e
    (wpAny_pure (by show wpAny _ _ (handedOut v) _ _ _; rw [handedOut_of hh]; exact wpAny_pure h))
end
end ZX
end PySem
namespace Z
open PySem PySem.Spec PyProof.Rows L2 PySem.ZX PySem.W
section
variable {X : Cx} {pins : List (Addr × Obj)} {σ : L2.St} {H : Hp} {s : Shared} {a C dx : Addr} {y : V} {u : Value} {fs : List (Str × V)} {B newId initId : String} {bmB : List Value}
theorem stB {f : Str} {Q : Unit → Shared → Prop} {E : Value → Shared → Prop} {A : Around} (T : OexB X.K C B newId initId bmB) (I : Inv X pins σ H s) (e : H a = some (exo a C none)) (hno : findIn X.K (.ref C) f = some none) (ry : RelV y u)
    (h : ∀ dx s', H dx = none → dx ≠ a → Inv X pins σ (upd (upd H dx (exd dx [(f, y)])) a (exo a C (some dx))) s' → Q () s') : wpAny (model X.prog X.w) A (setAttr (.ref a) f u) Q E s := by
  obtain ⟨nm, q, N, bs, bm, sn, sub, ab, col, dd, k0, k1, k2, k3, k5, hC, hbm⟩ := T.cls
  have hcl : clsIn X.K C = some { name := nm, bases := bs, mro := .ref C :: bm, ns := N, qualname := q, hasDict := true, slotNames := sn, subclasses := sub, abstract := ab, collection := col, hasDel := false } := by unfold clsIn; rw [hC] <;> rfl
  obtain ⟨t1, ho⟩ := exo_at I.hok e
  obtain ⟨hp, g, d, t, os⟩ := s
  refine set_plain I.kIn (ox := { cls := .ref C, dict := none, data := .fields #[.ref t1, .none, .none, .none, .bool false, .none] }) (od := none) ⟨ho, rfl, rfl, trivial⟩ T.sa ?_
  refine osa_new I.kIn ho hcl (T.mro hbm) T.ob T.pass rfl hno (fun h' tk' dx k dn dne hx hn => ?_)
  have hnd : H dx = none := I.hok.fresh dn
  have nd : ∀ {b : Addr} {o : Obj}, hp.get? b = some o → b ≠ dx := fun {b o} q => Nat.ne_of_lt (Nat.lt_of_lt_of_le (Heap.lt_size q) dn)
  have na : ∀ {b : Addr}, H b = none → b ≠ a := fun {b} n z => by
    rw [z, e] at n
    cases n
  have Un1 : Un X.fs [] H (upd (upd H dx (exd dx [(f, y)])) a (exo a C (some dx))) hp h' := {
    keep := fun b o q n _ _ => k b o (na n) q
    slot := fun b o q n _ _ => ⟨o.slots, k b o (na n) q⟩
    free := fun b o q n _ => by rw [upd_ne (na n), upd_ne (nd q)]; exact n
    there := fun b o q _ => by
      by_cases hb : b = a
      · exact ⟨_, by rw [hb]; exact hx⟩
      · exact ⟨o, k b o hb q⟩
    tups := fun b xs q => by rw [upd_ne (at_ne e q exo_tup), upd_ne (ne_of_none q hnd)]; exact q
    frzs := fun b o v q => by rw [upd_ne (at_ne e q exo_frz), upd_ne (ne_of_none q hnd)]; exact q
    tbls := fun b ps q => ⟨#[], by rw [upd_ne (at_ne e q exo_tbl), upd_ne (ne_of_none q hnd), q]; simp⟩ }
  refine h dx _ hnd dne (I.un (t' := tk') Un1 fun b o q => ?_)
  by_cases hb : b = a
  · subst hb
    rw [upd_same] at q
    cases q
    exact exo_ok hx
  · rw [upd_ne hb] at q
    by_cases hd : b = dx
    · subst hd
      rw [upd_same] at q
      cases q
      exact exd_ok hn (relO_put (fs := []) ry fun g => True.intro)
    · rw [upd_ne hd] at q
      exact (I.hok b o q).stay (fun c v hc z => k c v (by
          rcases hc with hc | hc
          · rw [hc]
            exact hb
          · exact at_ne e hc exo_own) z)
        (fun c hc => by rw [upd_ne (at_ne e hc exo_own), upd_ne (ne_of_none hc hnd)]; exact hc) (fun c xs hc => by rw [upd_ne (at_ne e hc exo_tup), upd_ne (ne_of_none hc hnd)]; exact hc)
theorem inB {us : List Value} {Q : Value → Shared → Prop} {E : Value → Shared → Prop} {A : Around} (T : OexB X.K C B newId initId bmB) (I : Inv X pins σ H s) (e : H a = some (exo a C none)) (hl : us.length ≤ sizeLine) (h : ∀ s', Inv X pins σ H s' → Q .none s') :
    wpAny (model X.prog X.w) A (call (.builtin initId) (.ref a :: us)) Q E s := by
  obtain ⟨nm, q, N, bs, bm, sn, sub, ab, col, dd, k0, k1, k2, k3, k5, hC, hbm⟩ := T.cls
  obtain ⟨t1, ho⟩ := exo_at I.hok e
  obtain ⟨hp, g, d, t, os⟩ := s
  refine wpAny_call (HandSPX.init_base T.base (fun Y => excTail_contains Y bm hbm) (I.kIn _ _ hC) ho hl fun h' t2 k hx => ?_)
  have J := I.write (t' := t) (x := a) (e := a) (o := exo a C none) (by rw [e]; exact True.intro) (.inl rfl) k ⟨_, hx⟩ (exo_ok hx)
  have eu : upd H a (exo a C none) = H := by
    funext b
    by_cases hb : b = a
    · rw [hb, upd_same, e]
    · rw [upd_ne hb]
  rw [eu] at J
  exact h _ J
end
/-- how the __init__ of the class below is found under the name b -/
def InitBy (K : Frag) (mg : Str → Option Value) (b : Str) (initId : String) : Prop :=
  (∃ T : String, b = Str.ofString T ∧ mg b = none ∧ bootBuiltins b = some (.type T) ∧ typeOf (.type T) = pure (.type "type") ∧ Manifest.isStub T = false ∧ findCls K (.type T) (.type "type") "__init__" = some (.val (.builtin initId))) ∨
  (∃ R : Addr, mg b = some (.ref R) ∧ typeIn K (.ref R) = some (.type "type") ∧ nsIn K cStatics "thirdparty.any" = some none ∧ findCls K (.ref R) (.type "type") "__init__" = some (.val (.builtin initId)))
/-- B.__init__(self, ..) -/
def tBi (K : Frag) (B newId initId : String) (bmB : List Value) (ta : TA) : TE := fun σ H Q => ta σ H fun vs H1 => ∃ (a C : Addr) (ws : List V), vs = .ref a :: ws ∧ ws.length ≤ 1000 ∧ OexB K C B newId initId bmB ∧ H1 a = some (exo a C none) ∧ Q .non H1
/-- self.f = e, the first field -/
def tOstB (K : Frag) (B newId initId : String) (bmB : List Value) (f : Str) (to te : TE) : TS := fun D σ H => te σ H fun y H1 => to σ H1 fun x H2 => ∃ a C : Addr, x = .ref a ∧ OexB K C B newId initId bmB ∧ findIn K (.ref C) f = some none ∧
  H2 a = some (exo a C none) ∧ ∀ dx, H2 dx = none → dx ≠ a → D.nx σ (upd (upd H2 dx (exd dx [(f, y)])) a (exo a C (some dx)))
section
variable {X : Cx} {o e : Expr} {es : List Expr} {to te : TE} {ta : TA} {f b : Str} {p p' p1 p2 pos : Pos} {B newId initId : String} {bmB : List Value}
theorem pe_binit {pl : Sem Bool} (hg : Gl X b) (hi : InitBy X.K X.mg b initId) (hh : handedIn (.builtin initId) = true) (hdb : (b == ("__debug__" : Str)) = false) (hnn : b ≠ "__name__") (ha : PA X (e :: es) ta)
    (hc : eval (.Call (.Attribute (.Name b p1) "__init__" p2) (e :: es) [] pos) X.env = (do
      let ov ← eval (.Name b p1) X.env
      standAt p2.atName
      let (f, first) ← holding [ov] (getMethod ov "__init__" pl)
      callWith pos f first (backTo pos (starEach (e :: es) X.env)) (backToKw pos (keywordEach [] X.env))) := by rfl)
    (he : starEach (e :: es) X.env = (false, eval e X.env) :: starEach es X.env := by rfl) (hpl : (backTo pos (starEach es X.env)).any (·.1) = false := by rfl) :
    PE X (.Call (.Attribute (.Name b p1) "__init__" p2) (e :: es) [] pos) (tBi X.K B newId initId bmB ta) := by
  refine ⟨fun pins s σ H Q I h => ?_⟩
  have fin : ∀ s1 : Shared, Inv X pins σ H s1 → wpAny (model X.prog X.w) X.A (callWith pos (Value.builtin initId) [] (backTo pos (starEach (e :: es) X.env)) (backToKw pos (keywordEach [] X.env))) (fun u s' => ∃ v H', Inv X pins σ H' s' ∧ RelV v u ∧ Q v H') X.xe s1 := fun s1 I1 => by
    show wpAny _ _ (callWith pos (Value.builtin initId) [] (backTo pos (starEach (e :: es) X.env)) []) _ _ _
    refine PyProof.Rows.callWith_method1 (thn (ha.run pos pins _ σ H _ I1 h) fun us s1 ⟨vs, H1, I1, r1, a, C, ws, ev, hl, T, ea, q⟩ => ?_) he hpl
    subst ev
    cases r1 with
    | @cons _ u0 _ ur ra rw' =>
      obtain rfl : u0 = Value.ref a := ra
      have hlen : ur.length ≤ sizeLine := by
        rw [← Paired.length rw', sizeLine_eq]
        omega
      exact inB T I1 ea hlen fun s' J => ⟨.non, H1, J, rfl, q⟩
  rcases hi with ⟨T, eb, hm, hv, ht, hs, hf⟩ | ⟨R, hm, ht, hop, hf⟩
  · refine methodCall_KW (ld_blt I hg hm hv ?_ hnn hdb) hc
    obtain ⟨m, fr⟩ := I.fr
    exact method_type fr I.ok.mod.kin ht hs hf hh (fin _ (I.tok _))
  · refine methodCall_KW (ld_glob I hg hm ?_ hdb) hc
    exact method_cls I.kIn ht hop hf hh (fin _ (I.tok _))
theorem ps_ostB (ho : PE X o to) (he : PE X e te) (hs : swapsWith e (some (.Attribute o f p')) pos.line X.env = pure false := by rfl) : PS X (.Assign [.Attribute o f p'] e pos) (tOstB X.K B newId initId bmB f to te) := by
  refine ⟨fun pins s σ H D I h => ?_⟩
  refine plainObj_wpAny_Assign_Attribute (thn (he.run pins s σ H _ I h) fun v s1 ⟨y, H1, I1, r1, q1⟩ => thn (ho.run pins s1 σ H1 _ I1 q1) fun u s2 ⟨x, H2, I2, r2, a, C, ex, T, hno, ea, q⟩ => ?_) hs
  subst ex
  obtain rfl : u = Value.ref a := r2
  exact stB T I2 ea hno r1 fun dx s' n ne J => ⟨σ, _, J, q dx n ne⟩
end
/-- what such an __init__ does -/
def spOex (K : Frag) (B newId initId : String) (bmB : List Value) : Sp := fun vs H Q E => ∃ (a C : Addr) (y : V), vs = [.ref a, y] ∧ OexB K C B newId initId bmB ∧ H a = some (exo a C none) ∧ ∀ dx, H dx = none → dx ≠ a → Q .non (upd (upd H dx (exd dx [(Str.ofString "what", y)])) a (exo a C (some dx)))
section
variable {P : Program} {w : World} {K : Frag} {mg : Str → Option Value} {base : Heap}
abbrev tOex (K : Frag) (B newId initId : String) (bmB : List Value) : TS := tSeq (tDrop (tBi K B newId initId bmB (tCons (tVar 0) (tCons (tVar 1) tNil)))) (tOstB K B newId initId bmB (Str.ofString "what") (tVar 0) (tVar 1))
theorem fn_oex {B newId initId : String} {bmB : List Value} {qual : Str} {params : Arguments} {body : List Stmt} {scope : Scope} {f : Addr} {fd : FuncData} (F : FunD K "__init__" qual params body scope [] [] f fd) (Sc : FnScope ["self", "what"] ["self", "what"] scope)
    (hbody : ∀ (cdv : Value) (A : Around) (outer : List Env) (s : Shared) (H : Hp) (E : XK), PSs (CxD P w K mg base ["self", "what"] qual scope f cdv A outer s H E) body (tOex K B newId initId bmB)) :
    FnOk P w K mg base (L2.CX P w) 1 f fd ["self", "what"] (spOex K B newId initId bmB) :=
  FunD.ok F Sc (fun vs H Q E ⟨a, C, y, e, _⟩ => by rw [e]; rfl) fun cdv A outer s H vs Q E hr ⟨a, C, y, e, T, ha, q⟩ => ⟨tOex K B newId initId bmB, hbody cdv A outer s H E, by
    subst e
    exact ⟨.ref a, rfl, y, rfl, a, C, [y], rfl, by simp, T, ha, y, rfl, .ref a, rfl, a, C, rfl, T, T.noF, ha, fun dx n ne => q dx n ne⟩⟩
/-- a class of the text that can be raised: with its own __init__ -/
structure CalX (P : Program) (w : World) (K : Frag) (mg : Str → Option Value) (base : Heap) (x : Str) (C : Addr) : Prop where
  hm : mg x = some (.ref C)
  ex : ∃ (B newId initId : String) (bmB : List Value) (fI : Addr) (fd : FuncData), OexB K C B newId initId bmB ∧ findIn K (.ref C) "__init__" = some (some (.ref fI)) ∧ typeIn K (.ref fI) = some (.type "function") ∧
    FnOk P w K mg base (L2.CX P w) 1 fI fd ["self", "what"] (spOex K B newId initId bmB) ∧ Binds K fd ["self", "what"] []
end
theorem Go.other {F H : Hp} {S : Sto} {p : Addr} {o : HO} (hp : H p = none) : Go F H S F (upd H p o) S :=
  ⟨Evl.Ex.refl F, fun a u h n f => ⟨by rw [upd_ne (ne_of_none h hp)]; exact h, n, f⟩, fun _ h => upd_none h⟩
section
variable {X : Cx} {x : Str} {C : Addr} {e : Expr} {es : List Expr} {p pos pos' : Pos} {ta : TA} {te : TD} {wd : WD}
theorem pmk_oexB {fI : Addr} {fd : FuncData} {B newId initId : String} {bmB : List Value} {ps : List Str} {sp : Sp} {ds : List Value} {dvs : List V} (T : OexB X.K C B newId initId bmB) (iC : findIn X.K (.ref C) "__init__" = some (some (.ref fI))) (tI : typeIn X.K (.ref fI) = some (.type "function"))
    (F1 : FnOk X.prog X.w X.K X.mg X.base (L2.CX X.prog X.w) 1 fI fd ps sp) (hr : Room 2 X.A) (hb : L2.Binds X.K fd ps ds) (hd : Vals dvs ds) (hx : Passes (L2.CX X.prog X.w) X (fun _ _ _ => False)) (hg : Gl X x) (hm : X.mg x = some (.ref C)) (ha : PA X (e :: es) ta)
    (hdb : (x == ("__debug__" : Str)) = false := by decide) (he : starEach (e :: es) X.env = (false, eval e X.env) :: starEach es X.env := by rfl) (hpl : (backTo pos (starEach es X.env)).any (·.1) = false := by rfl) :
    PMk X (.Call (.Name x p) (e :: es) [] pos) (tMkO C sp dvs ta) := by
  intro pins s σ H Q I h
  obtain ⟨nm, q, N, bs, bm, sn, sub, ab, col, dd, k0, k1, k2, k3, k5, hC, hbm⟩ := T.cls
  refine wpAny_Call_Name_kw (ld_glob I hg hm ?_ hdb)
  refine callWith_K (h₀ := X.base) I.ok.mod.kin T.kC (thn (ha.run pos pins s σ H _ I h) fun us s1 ⟨vs, H1, I1, r1, hz, q1⟩ => ⟨I1.kIn, ?_⟩) he hpl
  show wpAny _ _ (call (.ref C) us) _ _ _
  obtain ⟨hp, g, dr, tk, os⟩ := s1
  have hsz : hp.objs.size ≤ hp.objs.size + 1 := Nat.le_succ _
  have hn : H1 (hp.objs.size + 1) = none := I1.hok.fresh hsz
  have hq := q1 (hp.objs.size + 1) hn
  have kk : ∀ b o, hp.get? b = some o → ((hp.push (kdv_tup us)).push (HandSPX.excO C hp.objs.size)).get? b = some o := fun b o e => Heap.get?_push_of_some _ (Heap.get?_push_of_some _ e)
  have hget : ((hp.push (kdv_tup us)).push (HandSPX.excO C hp.objs.size)).get? (hp.objs.size + 1) = some (HandSPX.excO C hp.objs.size) := by heap_get
  have I2 : Inv X pins σ (upd H1 (hp.objs.size + 1) (exo (hp.objs.size + 1) C none)) ⟨(hp.push (kdv_tup us)).push (HandSPX.excO C hp.objs.size), g, dr, tk, os⟩ :=
    I1.laid (t' := tk) (a := hp.objs.size + 1) (o := exo (hp.objs.size + 1) C none) (h' := (hp.push (kdv_tup us)).push (HandSPX.excO C hp.objs.size)) kk hsz (exo_ok hget)
  have r2 : Vals (V.ref (hp.objs.size + 1) :: (vs ++ dvs)) (Value.ref (hp.objs.size + 1) :: (us ++ ds)) := .cons rfl (r1.append hd)
  have hl : (Value.ref (hp.objs.size + 1) :: us ++ ds).length = ps.length := by
    have e := r2.length
    rw [F1.len _ _ _ _ hq] at e
    exact e.symm
  have hus : us.length ≤ sizeLine := by
    rw [← Paired.length r1, sizeLine_eq]
    omega
  refine wpAny_call (HandSPX.call_own T.base (fun Y => excTail_contains Y bm hbm) (I1.kIn _ _ hC) (looks_findIn I1.kIn iC) (fun self => bind_fn I1.kIn self tI) hus
    (codeAny_mono (F1.run _ X.stack _ _ ⟨Value.ref (hp.objs.size + 1) :: us, []⟩ (Value.ref (hp.objs.size + 1) :: (us ++ ds)) _ _ (fun _ _ _ => False) (hr.make C us []) (I2.env0.make C us []) (hb _ (Value.ref (hp.objs.size + 1) :: us) I2.kIn hl) r2 hq) fun r s' hq' => ?_))
  cases r with
  | error er => exact hx pins σ _ _ er s' I2 hq'
  | ok fl =>
    cases fl with
    | ret u =>
      obtain ⟨v, H2, os2, bare2, un2, hok2, rv, ev, d, fs, ea, ed, hd1, q2⟩ := hq'
      subst ev
      obtain ⟨h2, g2, d2, t2, os'⟩ := s'
      exact ⟨rv, mk_end (raises_own T.exC T.tyC) I1 hsz kk un2 hok2 os2 bare2 ea ed hd1 q2⟩
    | next => exact False.elim hq'
    | brk => exact False.elim hq'
    | cont => exact False.elim hq'
/-- raise C(e) -/
def dRaise (C : Addr) (te : TD) : TSD := fun wd _ ρ S => te wd ρ S fun d S1 => wd.f C d ρ S1
theorem psd_raise (c : CalX X.prog X.w X.K X.mg X.base x C) (hc : X.calm = true) (hr : Rm 2 X.A) (tk : TkD X wd) (he : PD X wd e te) (hg : Gl X x := by rfl) (hdb : (x == ("__debug__" : Str)) = false := by decide)
    (hst : starEach [e] X.env = (false, eval e X.env) :: starEach [] X.env := by rfl) (hpl : (backTo pos (starEach [] X.env)).any (·.1) = false := by rfl) :
    PSD X wd (.Raise (some (.Call (.Name x p) [e] [] pos)) none pos') (dRaise C te) := by
  obtain ⟨hm, B, newId, initId, bmB, fI, fd, T, iC, tI, F1, hb⟩ := c
  refine PS.psd (ps_raise hc tk (pmk_oexB T iC tI F1 hr.r hb .nil (passes_call tk fun _ _ _ _ h => h.elim) hg hm (pa_cons he.pe pa_nil hst) hdb hst hpl)) fun σ H F ρ S E r h => ?_
  refine ⟨F, ρ, S, _, r, h, fun F1 v H1 d S1 g1 r1 rd q => ⟨by simp, fun a ha => ⟨a, C, v, rfl, T, upd_same, fun dx hdx hne => ?_⟩⟩⟩
  have hd1 : H1 dx = none := by rw [upd_ne hne] at hdx; exact hdx
  refine ⟨rfl, dx, [(Str.ofString "what", v)], upd_same, by rw [upd_ne hne, upd_same], hd1, ?_⟩
  have e1 : upd (del (upd (upd (upd H1 a (exo a C none)) dx (exd dx [(Str.ofString "what", v)])) a (exo a C (some dx))) a) dx (.xd [(Str.ofString "what", v)]) = upd H1 dx (.xd [(Str.ofString "what", v)]) := by
    funext b
    by_cases hb : b = dx
    · rw [hb, upd_same, upd_same]
    · rw [upd_ne hb, upd_ne hb]
      by_cases hba : b = a
      · rw [hba, del_same, ha]
      · rw [del_ne hba, upd_ne hba, upd_ne hb, upd_ne hba]
  rw [e1]
  obtain ⟨f2, s2⟩ := r1.h.fresh hd1
  exact ⟨F1, ρ, S1, C, d, rfl, r1.up (Go.other hd1) (r1.h.other f2 s2), .inl ⟨dx, v, rfl, upd_same, rd⟩, q⟩
end
end Z

set_option Elab.async false
set_option linter.all false
set_option maxRecDepth 100000
set_option maxHeartbeats 4000000
/-! try: body, except C as e: suite -/
namespace Z
open PySem PySem.Spec PyProof.Rows L2 PySem.ZX PySem.W
def wdOut : Addr → D → Envd → Sto → Prop := fun _ _ _ _ => False
/-- E, the slot i let go first -/
def endG (i : Nat) (E : EndsD) : EndsD := { nx := fun ρ S => E.nx (ρ.set i none) S, rt := E.rt, bk := fun ρ S => E.bk (ρ.set i none) S, ct := fun ρ S => E.ct (ρ.set i none) S }
def tryX (i : Nat) (ms : List (Addr × Bool)) (ts : Addr → D → TSD) (wd : WD) (E : EndsD) : Addr → D → Envd → Sto → Prop := fun C x ρ S =>
  ∃ b, (C, b) ∈ ms ∧ (b = true → ∀ xa, S xa = none → ∀ F H, ts xa x ⟨wdOut, F, H, S⟩ (endG i E) (ρ.set i (some (.adr xa))) S) ∧ (b = false → wd.f C x ρ S)
def dTryAs (i : Nat) (ms : List (Addr × Bool)) (tb : TSD) (ts : Addr → D → TSD) : TSD := fun wd E ρ S => ∀ F H, tb ⟨tryX i ms ts wd E, F, H, S⟩ E ρ S
def exmB (K : Frag) (c : Addr) (ms : List (Addr × Bool)) : Bool := ms.all fun p => decide (exmOne K (.ref p.1) (.ref c) = some p.2) && (!p.2 || (xfB K p.1 && decide (findIn K (.ref p.1) "what" = some none)))
/-- what the written part tells of the clause's class c beside the classes ms -/
structure ExM (K : Frag) (c : Addr) (ms : List (Addr × Bool)) : Prop where
  m : ∀ p ∈ ms, exmOne K (.ref p.1) (.ref c) = some p.2
  f : ∀ p ∈ ms, p.2 = true → XfC K p.1 ∧ findIn K (.ref p.1) "what" = some none
theorem exm_of {K : Frag} {c : Addr} {ms : List (Addr × Bool)} (h : exmB K c ms = true) : ExM K c ms := by
  have h' := List.all_eq_true.mp h
  refine ⟨fun p hp => of_decide_eq_true (Bool.and_eq_true_iff.mp (h' p hp)).1, fun p hp e => ?_⟩
  have q := (Bool.and_eq_true_iff.mp (h' p hp)).2
  rw [e] at q
  obtain ⟨q1, q2⟩ := Bool.and_eq_true_iff.mp (show (xfB K p.1 && decide (findIn K (.ref p.1) "what" = some none)) = true from q)
  exact ⟨xfB_ok q1, of_decide_eq_true q2⟩
theorem Rel.wd {K : Frag} {wd wd' : WD} {F : Hp} {σ : L2.St} {H : Hp} {ρ : Envd} {S : Sto} (r : Rel K wd F σ H ρ S) (g : Go wd'.F wd'.H wd'.S F H S) : Rel K wd' F σ H ρ S := ⟨r.h, r.sl, r.len, g⟩
theorem Rel.gone {K : Frag} {wd : WD} {F : Hp} {σ : L2.St} {H : Hp} {ρ : Envd} {S : Sto} (r : Rel K wd F σ H ρ S) (i : Nat) : Rel K wd F (σ.set i none) H (ρ.set i none) S := by
  refine ⟨r.h, fun j x e => ?_, by rw [List.length_set, List.length_set]; exact r.len, r.go⟩
  by_cases hj : i = j
  · subst hj
    have hl : i < ρ.length := by
      have := (List.getElem?_eq_some_iff.mp e).1
      rwa [List.length_set] at this
    rw [List.getElem?_set_self hl] at e; cases e
  · rw [List.getElem?_set_ne hj] at e ⊢
    exact r.sl j x e
/-- what holds in a suite that took an exception a of the class at C, its dict d -/
structure Sui (K : Frag) (wd : WD) (C : Addr) (d : Option Addr) (x : D) : Prop where
  rh : RelH K wd.F wd.H wd.S
  fl : Fld K wd.F wd.H d x
  T : XfC K C
  no : findIn K (.ref C) "what" = some none
def tsK (K : Frag) (ts : Addr → D → TSD) (a : Addr) (cls : Value) (d : Option Addr) : TS := fun Dn σ H => ∃ C F ρ S E x, cls = .ref C ∧ Sui K ⟨wdOut, F, H, S⟩ C d x ∧ Rel K ⟨wdOut, F, H, S⟩ F σ H ρ S ∧ ts a x ⟨wdOut, F, H, S⟩ E ρ S ∧
  (∀ F' σ' H' ρ' S', Go F H S F' H' S' → Rel K ⟨wdOut, F, H, S⟩ F' σ' H' ρ' S' → E.nx ρ' S' → Dn.nx σ' H') ∧ (∀ F' σ' H' ρ' S', Go F H S F' H' S' → Rel K ⟨wdOut, F, H, S⟩ F' σ' H' ρ' S' → E.bk ρ' S' → Dn.bk σ' H') ∧
  (∀ F' σ' H' ρ' S', Go F H S F' H' S' → Rel K ⟨wdOut, F, H, S⟩ F' σ' H' ρ' S' → E.ct ρ' S' → Dn.ct σ' H') ∧ (∀ F' v H' d S', Go F H S F' H' S' → RelH K F' H' S' → R K F' d v → E.rt d S' → Dn.rt v H')
def tbK (K : Frag) (tb : TSD) (W : WX) : TS := fun Dn σ H => ∃ wd, (∀ c d σ H, WL K wd c d σ H → W c d σ H) ∧ liftS K wd (tb wd) Dn σ H
section
variable {X : Cx} {wd : WD} {x n : Str} {c : Addr} {i : Nat} {body suite : List Stmt} {b₀ : Stmt} {np pos pos' : Pos} {tb : TSD} {ts : Addr → D → TSD} {ms : List (Addr × Bool)}
theorem psd_try_as (hs : X.stack = X.env :: X.outer) (hf : X.env.frame = some X.env.locals) (hN : X.N.Nodup) (hi : X.N[i]? = some n) (hln : X.env.kindOf n = some .local) (hc : Names X x (.ref c)) (hm : ExM X.K c ms) (tk : TkD X wd)
    (hb : ∀ (wd' : WD) (pn : List (Addr × Obj)) (xe : Value → Shared → Prop), TkD (X.tr pn xe) wd' → PassesOwn (model X.prog X.w) X.A X.env xe → PSsD (X.tr pn xe) wd' body tb)
    (hsu : ∀ (a : Addr) (oe : Obj) (C : Addr) (d : Option Addr) (pn : List (Addr × Obj)) (wd' : WD) (xx : D), Zc (.ref C) d oe → (∃ vs, oe.data = .fields vs) → Sui X.K wd' C d xx → PSsD (X.suite a ((a, oe) :: pn)) wd' (b₀ :: suite) (ts a xx)) :
    PSD X wd (.Try body [.ExceptHandler (some (.Name x np)) (some n) (b₀ :: suite) pos'] [] [] pos) (dTryAs i ms tb ts) := by
  refine PS.psd (ps_try_as (tb := tbK X.K tb) (ts := tsK X.K ts) (i := i) (c := .ref c) hs hf hN hi hln hc tk (fun W pn xe tk' hp => ⟨fun pins s σ H Dn I ⟨wd', sub, hl⟩ => (hb wd' pn xe (Takes.imp tk' sub) hp).pss.run pins s σ H Dn I hl⟩)
    (fun a oe cls d pn hz hfl => ⟨fun pins s σ H Dn I ⟨C, F, ρ, S, E, xx, ec, su, r, h, c1, c2, c3, c4⟩ => by
      subst ec
      exact (hsu a oe C d pn _ xx hz hfl su).pss.run pins s σ H Dn I ⟨F, ρ, S, E, r, h, c1, c2, c3, c4⟩⟩)) fun σ H F ρ S E r h => ?_
  refine ⟨⟨tryX i ms ts wd E, F, H, S⟩, fun cls d σ1 H1 ⟨F1, ρ1, S1, C, xx, ec, r1, fl, b, hmem, h1, h2⟩ => ?_, F, ρ, S, E, r.wd Go.refl, h F H, ?_, ?_, ?_, ?_⟩
  · have g1 : Go F H S F1 H1 S1 := r1.go
    subst ec
    refine ⟨b, hm.m _ hmem, fun hb a ha => ?_, fun hb => ⟨F1, ρ1, S1, C, xx, rfl, r1.wd (r.go.trans g1), fl, h2 hb⟩⟩
    obtain ⟨T, no⟩ := hm.f _ hmem hb
    obtain ⟨_, sa⟩ := r1.h.fresh ha
    refine ⟨C, F1, ρ1.set i (some (.adr a)), S1, endG i E, xx, rfl, ⟨r1.h, fl, T, no⟩, (r1.set i (by unfold R; rfl)).wd Go.refl, h1 hb a sa F1 H1, ?_, ?_, ?_, ?_⟩
    · exact fun F2 σ2 H2 ρ2 S2 g2 r2 q => ⟨F2, _, S2, g1.trans g2, (r2.wd (r.go.trans (g1.trans g2))).gone i, q⟩
    · exact fun F2 σ2 H2 ρ2 S2 g2 r2 q => ⟨F2, _, S2, g1.trans g2, (r2.wd (r.go.trans (g1.trans g2))).gone i, q⟩
    · exact fun F2 σ2 H2 ρ2 S2 g2 r2 q => ⟨F2, _, S2, g1.trans g2, (r2.wd (r.go.trans (g1.trans g2))).gone i, q⟩
    · exact fun F2 v H2 d2 S2 g2 r2 rd q => ⟨F2, d2, S2, g1.trans g2, r2, rd, q⟩
  · exact fun F2 σ2 H2 ρ2 S2 g2 r2 q => ⟨F2, ρ2, S2, g2, r2.wd (r.go.trans g2), q⟩
  · exact fun F2 σ2 H2 ρ2 S2 g2 r2 q => ⟨F2, ρ2, S2, g2, r2.wd (r.go.trans g2), q⟩
  · exact fun F2 σ2 H2 ρ2 S2 g2 r2 q => ⟨F2, ρ2, S2, g2, r2.wd (r.go.trans g2), q⟩
  · exact fun F2 v H2 d2 S2 g2 r2 rd q => ⟨F2, d2, S2, g2, r2, rd, q⟩
end
/-- e.what -/
def noTy : D → Bool
  | .ty _ => false
  | _ => true
def dExW (i : Nat) (xa : Addr) (xx : D) : TD := fun _ ρ S k => ρ[i]? = some (some (.adr xa)) ∧ noTy xx = true ∧ k xx S
theorem pd_exw {X : Cx} {a C : Addr} {oe : Obj} {d : Option Addr} {pn : List (Addr × Obj)} {wd : WD} {xx : D} {i : Nat} {n : Str} {p pos : Pos} (hz : Zc (.ref C) d oe) (hf : ∃ vs, oe.data = .fields vs) (su : Sui X.K wd C d xx)
    (hi : X.N[i]? = some n := by rfl) (hv : Vis X.env.scope n := by first | exact Or.inl rfl | exact Or.inr rfl) (hd : (n == ("__debug__" : Str)) = false := by decide) (hcd : (n == ("__classdict__" : Str)) = false := by decide)
    (hb : attributeBase (.Name n p) "what" (X.suite a ((a, oe) :: pn)).env (eval (.Name n p) (X.suite a ((a, oe) :: pn)).env) = eval (.Name n p) (X.suite a ((a, oe) :: pn)).env := by rfl) :
    PD (X.suite a ((a, oe) :: pn)) wd (.Attribute (.Name n p) "what" pos) (dExW i a xx) := by
  refine PE.pd (pe_xf su.T su.no hz hf (pe_var (i := i) hi hv hd hcd) hb) fun σ H F ρ S k r h => ?_
  obtain ⟨h1, h2, h3⟩ := h
  obtain ⟨v, q1, q2⟩ := r.sl i _ h1
  unfold R at q2
  subst q2
  rcases su.fl with ⟨dx, v, ed, hx, rx⟩ | ⟨_, ex⟩
  · have key : H dx = some (.xd [(Str.ofString "what", v)]) := by
      cases e : wd.F dx with
      | some o =>
        have e1 := su.rh.ex dx o e
        rw [hx] at e1
        cases e1
        exact r.h.ex _ _ (r.go.ex _ _ e)
      | none =>
        have e2 : wd.S dx = none := by
          cases e3 : wd.S dx with
          | none => rfl
          | some o =>
            obtain ⟨_, q⟩ := su.rh.so dx o e3
            cases o with
            | lst ds => obtain ⟨vs, h, _⟩ := q; rw [hx] at h; cases h
            | dic ks ds => obtain ⟨vs, ⟨kvs, h, _⟩, _⟩ := q; rw [hx] at h; cases h
            | set xs => obtain ⟨S', h, _⟩ := q; rw [hx] at h; cases h
            | obj C' ns ds => obtain ⟨dd, fs, h, _⟩ := q; rw [hx] at h; cases h
            | tab q' => obtain ⟨ps, h, _⟩ := q; rw [hx] at h; cases h
        exact (r.go.fr dx _ hx e2 e).1
    exact ⟨.ref a, q1, rfl, rfl, dx, _, v, ed, key, by simp [List.lookup], F, xx, S, Go.refl, r, R.mono r.go.ex _ _ rx, h3⟩
  · subst ex
    cases h2
end Z

set_option Elab.async false
set_option linter.all false
set_option maxRecDepth 100000
set_option maxHeartbeats 4000000
/-! what is looked up in the frozen part beside the kit's facts -/
namespace Z
open PySem PySem.Spec PyProof.Rows L2 PySem.ZX PySem.W
abbrev AlX : Type := He.AlD × Bool
abbrev XFs : Type := List (Frag → Bool)
def obsX (n : Nat) (fa : List He.Fa) (fn : List He.DefD) (xs : XFs) (g : Addr → Option Obj) : AlX := (fun K => (He.obsD fa fn K, xs.all fun f => f K)) (He.frG g (cStatics :: He.asD g n))
def hookX (n : Nat) (fa : List He.Fa) (fn : List He.DefD) (xs : XFs) : PySem.W.Hook where
  α := AlX
  obs := fun s => obsX n fa fn xs s.heap.get?
  val := fun _ => (He.valD fn, true)
  says := fun _ h => ∃ K : Frag, K.In h ∧ He.SaysD fa fn K ∧ (xs.all fun f => f K) = true
  of := fun _ _ e => ⟨_, He.frG_in, (Prod.mk.inj e).1, (Prod.mk.inj e).2⟩
  keeps := fun _ _ _ ⟨K, hK, c⟩ k => ⟨K, PySem.W.Frag.In.keeps hK k, c⟩
theorem obsX_eq {n : Nat} {fa : List He.Fa} {fn : List He.DefD} {xs : XFs} {g : Addr → Option Obj} {s : Shared} (h : ∀ a, g a = s.heap.get? a) : obsX n fa fn xs g = (hookX n fa fn xs).obs s := by
  have e : g = s.heap.get? := funext h
  rw [e] <;> rfl
theorem xs_at {xs : XFs} {K : Frag} (h : (xs.all fun f => f K) = true) (i : Nat) {f : Frag → Bool} (e : xs[i]? = some f) : f K = true := List.all_eq_true.mp h f (List.mem_of_getElem? e)
/-- an own exception class over a built-in one -/
def oexBB (newId : String) (bmB : List Value) (x : Str) (K : Frag) : Bool := (match K.lookup (He.ga K x) with
  | some ⟨.type "type", _, .cls cd, sl⟩ => (match cd.mro, sl.toList with
    | .ref C' :: bm, [_, _, _, _, some (.builtin n), _] => C' == He.ga K x && (n == newId && (!cd.hasDel && (cd.hasDict && excTail bmB bm)))
    | _, _ => false)
  | _ => false) && (decide (findIn K (.ref (He.ga K x)) "__setattr__" = some (some (.builtin "object.__setattr__"))) && (decide (subIn K (.ref (He.ga K x)) (.type "BaseException") = some true) && (decide (typeIn K (.ref (He.ga K x)) = some (.type "type")) &&
  (keepIn K (.ref (He.ga K x)) && decide (findIn K (.ref (He.ga K x)) "what" = some none)))))
theorem oexBB_ok {B newId initId : String} {bmB : List Value} {x : Str} {K : Frag} (h : oexBB newId bmB x K = true) (b : ExcBaseFacts B newId initId bmB) (p : ∀ self, PySem.refuseLoop self "__setattr__" bmB = pure ()) (o : bmB.contains (.type "object") = true) : OexB K (He.ga K x) B newId initId bmB := by
  obtain ⟨h1, h⟩ := Bool.and_eq_true_iff.mp h
  obtain ⟨h2, h⟩ := Bool.and_eq_true_iff.mp h
  obtain ⟨h3, h⟩ := Bool.and_eq_true_iff.mp h
  obtain ⟨h4, h⟩ := Bool.and_eq_true_iff.mp h
  obtain ⟨h5, h6⟩ := Bool.and_eq_true_iff.mp h
  refine ⟨?_, of_decide_eq_true h2, of_decide_eq_true h3, of_decide_eq_true h4, h5, of_decide_eq_true h6, b, p, o⟩
  split at h1
  · rename_i dd cd sl ho
    split at h1
    · rename_i C' bm k0 k1 k2 k3 n k5 hm hs
      simp only [Bool.and_eq_true, beq_iff_eq, Bool.not_eq_true'] at h1
      obtain ⟨e1, e2, hdel, hdi, ht⟩ := h1
      subst e2
      obtain ⟨nm, bs, mro, ns, qn, hd, sn, sub, ab, col, del⟩ := cd
      dsimp only at hm hdel hdi
      subst hm hdel hdi
      have hsl : sl = #[k0, k1, k2, k3, some (.builtin n), k5] := by
        obtain ⟨l⟩ := sl
        simp only at hs
        rw [hs]
      subst hsl
      rw [← e1] at ho ⊢
      exact ⟨nm, qn, ns, bs, bm, sn, sub, ab, col, dd, k0, k1, k2, k3, k5, ho, ht⟩
    · cases h1
  · cases h1
def initT (T initId : String) (K : Frag) : Bool := match findCls K (.type T) (.type "type") "__init__" with
  | some (.val (.builtin n)) => n == initId
  | _ => false
def initC (b : Str) (initId : String) (K : Frag) : Bool := decide (typeIn K (.ref (He.ga K b)) = some (.type "type")) && (decide (nsIn K cStatics "thirdparty.any" = some none) && (match findCls K (.ref (He.ga K b)) (.type "type") "__init__" with
  | some (.val (.builtin n)) => n == initId
  | _ => false))
theorem initT_ok {T initId : String} {K : Frag} {mg : Str → Option Value} (h : initT T initId K = true) (hm : mg (Str.ofString T) = none) (hb : bootBuiltins (Str.ofString T) = some (.type T)) (ht : typeOf (.type T) = pure (.type "type")) (hs : Manifest.isStub T = false) : InitBy K mg (Str.ofString T) initId := by
  refine .inl ⟨T, rfl, hm, hb, ht, hs, ?_⟩
  unfold initT at h
  split at h
  · rename_i n e
    rw [e, beq_iff_eq.mp h]
  · cases h
theorem initC_ok {b : Str} {initId : String} {K : Frag} {mg : Str → Option Value} (h : initC b initId K = true) (hm : mg b = some (.ref (He.ga K b))) : InitBy K mg b initId := by
  obtain ⟨h1, h⟩ := Bool.and_eq_true_iff.mp h
  obtain ⟨h2, h3⟩ := Bool.and_eq_true_iff.mp h
  refine .inr ⟨_, hm, of_decide_eq_true h1, of_decide_eq_true h2, ?_⟩
  split at h3
  · rename_i n e
    rw [e, beq_iff_eq.mp h3]
  · cases h3
abbrev bmVE : List Value := [.type "ValueError", .type "Exception", .type "BaseException", .type "object"]
abbrev bmRE : List Value := [.type "RuntimeError", .type "Exception", .type "BaseException", .type "object"]
abbrev bmLE : List Value := [.type "LookupError", .type "Exception", .type "BaseException", .type "object"]
abbrev bmOE : List Value := [.type "OverflowError", .type "ArithmeticError", .type "Exception", .type "BaseException", .type "object"]
theorem oexVE {x : Str} {K : Frag} (h : oexBB "ValueError.__new__" bmVE x K = true) : OexB K (He.ga K x) "ValueError" "ValueError.__new__" "ValueError.__init__" bmVE := oexBB_ok h PySem.F.excBase_ValueError PySem.F.store_ValueError.passes (by decide +kernel)
theorem oexRE {x : Str} {K : Frag} (h : oexBB "RuntimeError.__new__" bmRE x K = true) : OexB K (He.ga K x) "RuntimeError" "RuntimeError.__new__" "RuntimeError.__init__" bmRE := oexBB_ok h PySem.F.excBase_RuntimeError PySem.F.store_RuntimeError.passes (by decide +kernel)
theorem oexLE {x : Str} {K : Frag} (h : oexBB "LookupError.__new__" bmLE x K = true) : OexB K (He.ga K x) "LookupError" "LookupError.__new__" "LookupError.__init__" bmLE := oexBB_ok h PySem.F.excBase_LookupError PySem.F.store_LookupError.passes (by decide +kernel)
theorem oexOE {x : Str} {K : Frag} (h : oexBB "OverflowError.__new__" bmOE x K = true) : OexB K (He.ga K x) "OverflowError" "OverflowError.__new__" "OverflowError.__init__" bmOE := oexBB_ok h PySem.F.excBase_OverflowError PySem.F.store_OverflowError.passes (by decide +kernel)
theorem tyRE : typeOf (.type "RuntimeError") = pure (.type "type") := by kernel_rfl
theorem tyLE : typeOf (.type "LookupError") = pure (.type "type") := by kernel_rfl
theorem tyOE : typeOf (.type "OverflowError") = pure (.type "type") := by kernel_rfl
theorem boRE : bootBuiltins "RuntimeError" = some (.type "RuntimeError") := by decide +kernel
theorem boLE : bootBuiltins "LookupError" = some (.type "LookupError") := by decide +kernel
theorem boOE : bootBuiltins "OverflowError" = some (.type "OverflowError") := by decide +kernel
theorem calX_of {P : Program} {w : World} {K : Frag} {mg : Str → Option Value} {base : Heap} {x : Str} {C fI : Addr} {fd : FuncData} {B newId initId : String} {bmB : List Value} (hm : mg x = some (.ref C)) (T : OexB K C B newId initId bmB) (m : Meth K C "__init__" fI)
    (F : FnOk P w K mg base (L2.CX P w) 1 fI fd ["self", "what"] (spOex K B newId initId bmB)) (hb : L2.Binds K fd ["self", "what"] []) : CalX P w K mg base x C :=
  ⟨hm, B, newId, initId, bmB, fI, fd, T, m.at_, beq_iff_eq.mp m.fn, F, hb⟩
/-- reading and derivation of such an __init__ -/
theorem oe_body {X : Cx} {b : Str} {p1 p2 p3 p4 p5 p6 p7 p8 p9 p10 : Pos} {B newId initId : String} {bmB : List Value} (h0 : PE X (.Name "self" p3) (tVar 0)) (h1 : PE X (.Name "what" p4) (tVar 1)) (h2 : PE X (.Name "self" p7) (tVar 0)) (h3 : PE X (.Name "what" p9) (tVar 1))
    (hi : PE X (.Call (.Attribute (.Name b p1) "__init__" p2) [.Name "self" p3, .Name "what" p4] [] p5) (tBi X.K B newId initId bmB (tCons (tVar 0) (tCons (tVar 1) tNil))))
    (hs1 : swapsWith (.Call (.Attribute (.Name b p1) "__init__" p2) [.Name "self" p3, .Name "what" p4] [] p5) none p6.line X.env = pure false := by rfl)
    (hs2 : swapsWith (.Name "what" p9) (some (.Attribute (.Name "self" p7) "what" p8)) p10.line X.env = pure false := by rfl) :
    PSs X [.Expr (.Call (.Attribute (.Name b p1) "__init__" p2) [.Name "self" p3, .Name "what" p4] [] p5) p6, .Assign [.Attribute (.Name "self" p7) "what" p8] (.Name "what" p9) p10] (tOex X.K B newId initId bmB) :=
  pss_cons (ps_expr hi hs1) (pss_one (ps_ostB h2 h3 hs2))
end Z

set_option Elab.async false
set_option linter.all false
set_option maxRecDepth 100000
set_option maxHeartbeats 4000000
/-! or by truth: of None, whole numbers, lists -/
namespace Z
open PySem PySem.Spec PyProof.Rows L2
def truB (S : Sto) : D → Option Bool
  | .non => some false
  | .bl b => some b
  | .int i => some (i != 0)
  | d => (vl S d).map fun xs => !xs.isEmpty
theorem truV_of {K : PySem.W.Frag} {F H : Hp} {S : Sto} {d : D} {v : V} {b : Bool} (r : RelH K F H S) (rd : R K F d v) (h : truB S d = some b) : TruV K v H b := by
  have key : ∀ xs, vl S d = some xs → b = !xs.isEmpty → TruV K v H b := by
    intro xs hl e
    obtain ⟨a, e0, hk⟩ := keep_l r rd hl
    obtain ⟨vs, h1, h2⟩ := hk F H S (Evl.Ex.refl _) r (grdS hl)
    subst e0
    refine .inl ⟨vs, h1, ?_⟩
    rw [e]
    have := h2.length
    cases xs <;> cases vs <;> simp at this ⊢
  cases d with
  | non => unfold R at rd; subst rd; cases h; rfl
  | bl c => unfold R at rd; subst rd; cases h; rfl
  | int i => unfold R at rd; subst rd; cases h; rfl
  | _ =>
    unfold truB at h
    rw [Option.map_eq_some_iff] at h
    obtain ⟨xs, h1, h2⟩ := h
    exact key xs h1 h2.symm
def dOrL (ta tb : TD) : TD := fun wd ρ S k => ta wd ρ S fun d S1 => match truB S1 d with
  | some b => if b = true then k d S1 else tb wd ρ S1 k
  | none => False
theorem pd_orL {X : Cx} {wd : WD} {a b : Expr} {rest : List Expr} {pos : Pos} {ta tb : TD} (ha : PD X wd a ta) (hb : PD X wd (.BoolOp .Or (b :: rest) pos) tb) : PD X wd (.BoolOp .Or (a :: b :: rest) pos) (dOrL ta tb) := by
  refine ⟨fun pins s σ H F ρ S k I r h => ?_⟩
  refine BoolOp_or (thn (ha.run pins s σ H F ρ S _ I r h) fun v s1 ⟨x, H1, F1, d, S1, I1, r1, e1, q1, rd, hk⟩ => ?_)
  dsimp only at hk
  split at hk
  · rename_i c hc
    refine thn (tru_ok pins s1 σ H1 x v (fun c' H2 => c' = c ∧ H2 = H1) I1 r1 ⟨c, truV_of q1.h rd hc, rfl, rfl⟩) fun c' s2 hc' => ?_
    obtain ⟨H2, I2, e2, e3⟩ := hc'
    subst e2 e3
    cases c' with
    | false => exact thn (hb.run pins s2 σ H2 F1 ρ S1 k I2 q1 hk) fun _ _ q => EPd.trans e1 q
    | true => exact ⟨x, H2, F1, d, S1, I2, r1, e1, q1, rd, hk⟩
  · exact hk.elim
end Z

set_option Elab.async false
set_option linter.all false
set_option maxRecDepth 100000
set_option maxHeartbeats 4000000
/-! calls with a keyword -/
namespace Z
open PySem PySem.Spec PyProof.Rows L2
/-- a def that stands under a global name, called with n values and keywords ks (its last parameters) -/
structure CalK (P : Program) (w : World) (K : PySem.W.Frag) (mg : Str → Option Value) (base : Heap) (k : Nat) (x : Str) (n : Nat) (ks : List Str) (sp : SpD) : Prop where
  ex : ∃ (f : Addr) (fd : FuncData) (ps : List Str), FnZ P w K mg base k f fd ps sp ∧ mg x = some (.ref f) ∧ PySem.W.keepIn K (.ref f) = true ∧ KBn K fd ps n ks (fun us ws => us ++ ws) (fun vs zs => vs ++ zs)
def dCallK (n : Nat) (sp : SpD) (t : TAD) (tv : TD) : TD := fun wd ρ S k => t wd ρ S fun ds S1 => tv wd ρ S1 fun d S2 => ds.length = n ∧ sp (ds ++ [d]) S2 k fun C y S3 => wd.f C y ρ S3
section
variable {X : Cx} {wd : WD} {k n : Nat} {sp : SpD} {x nm : Str} {p pos kpos : Pos} {e v : Expr} {es : List Expr} {tv : TD} {t : TAD}
theorem pd_callK (F : CalK X.prog X.w X.K X.mg X.base k x n [nm] sp) (hr : Rm k X.A) (tk : TkD X wd) (ha : PAD X wd (e :: es) t) (hv : PD X wd v tv) (hg : Gl X x := by rfl) (hdb : (x == ("__debug__" : Str)) = false := by decide)
    (hall : (backToKw pos (keywordEach [⟨some nm, v, kpos⟩] X.env)).all (·.1.isSome) = true := by rfl) (hks : (backToKw pos (keywordEach [⟨some nm, v, kpos⟩] X.env)).filterMap (·.1) = [nm] := by rfl)
    (he : starEach (e :: es) X.env = (false, eval e X.env) :: starEach es X.env := by rfl) (hpl : ((backTo pos (starEach (e :: es) X.env)).any (·.1) || (backToKw pos (keywordEach [⟨some nm, v, kpos⟩] X.env)).any (·.1.isNone)) = false := by rfl) :
    PD X wd (.Call (.Name x p) (e :: es) [⟨some nm, v, kpos⟩] pos) (dCallK n sp t tv) := by
  obtain ⟨f, fd, ps, F, hm, hk, hb⟩ := F.ex
  refine ⟨fun pins s σ H F0 ρ S kk I r h => ?_⟩
  refine wpAny_Call_Name_kw (ld_glob I hg hm ?_ hdb)
  refine PySem.W.callWith_KW (h₀ := X.base) I.ok.mod.kin hk hall (thn (ha.run pos pins s σ H F0 ρ S _ I r h) fun us s1 ⟨vs, H1, F1, dd, S1, I1, rv, g1, r1, rd, q⟩ => ?_) hpl he
  refine thn ((pk_cons hv.pe pk_nil).run pos pins s1 σ H1 (fun zs H2 => ∃ F2 dy S2, Go F1 H1 S1 F2 H2 S2 ∧ Rel X.K wd F2 σ H2 ρ S2 ∧ Rs X.K F2 [dy] zs ∧ zs.length = 1 ∧ dd.length = n ∧ sp (dd ++ [dy]) S2 kk fun C y S3 => wd.f C y ρ S3) I1
    ⟨F1, ρ, S1, _, r1, q, fun F2 y H2 dy S2 g2 r2 ry hq => ⟨F2, dy, S2, g2, r2, Rs.cons ry Rs.nil, rfl, hq.1, hq.2⟩⟩) fun ws s2 ⟨zs, H2, I2, rz, F2, dy, S2, g2, r2, rdz, l2, l1, q2⟩ => ⟨I2.kIn, ?_⟩
  rw [hks]
  have rd2 : Rs X.K F2 (dd ++ [dy]) (vs ++ zs) := (Rs.mono g2.ex _ _ rd).append rdz
  have l3 : us.length = n := by rw [← rv.length, rd.length]; exact l1
  exact thn (run_fnz F hr tk I2 r2 (hb.to s2 us ws I2.kIn l3 (rz.length.symm.trans l2)) (hb.rel rv rz) rd2 q2) fun _ _ z => EPd.trans (g1.trans g2) z
end
end Z

set_option Elab.async false
set_option linter.all false
set_option maxRecDepth 100000
set_option maxHeartbeats 4000000
/-! enumerate(list, start) -/
namespace Z
open PySem PySem.Spec PyProof.Rows L2
/-- the list at a as it stands at each turn, each item in a new pair, counted from c -/
def IteS (K : PySem.W.Frag) (c : Int) (a : Addr) : It :=
  ⟨fun i H => ∃ (xs : List V) (x : V), SqL K H a xs ∧ xs[i]? = some x, fun i H v H' => ∃ T x, v = .ref T ∧ H T = none ∧ H' = upd H T (.tup [.int (c + (i : Nat)), x]) ∧ ∀ xs, SqL K H a xs → xs[i]? = some x, fun i H => ∃ xs : List V, SqL K H a xs ∧ i = xs.length⟩
theorem turn_enumS {P : Program} {w : World} {K : PySem.W.Frag} {elts : List Expr} {kk : Nat} {tpos : Pos} (c : Int) (a e it : Addr) :
    Turn P w K (.Tuple elts kk tpos) (IteS K c a) [e, it] e (fun i h => (∃ old, IsEnum h e it (c + ((i : Nat) : Int)) old) ∧ h.IsListIter it a i ∧ e ≠ it ∧ e ≠ a ∧ a ≠ it) where
  mem := by simp
  obj := fun i h st b hb => by
    obtain ⟨⟨old, he⟩, ⟨o, ho, hc, hd⟩, _⟩ := st
    have e' : b = e ∨ b = it := by simpa using hb
    rcases e' with z | z
    · rw [z]; exact ⟨_, he, fun v q => nomatch q⟩
    · rw [z]; exact ⟨o, ho, fun v q => by rw [hd] at q; cases q⟩
  keep := fun i h h' st k => let ⟨⟨old, he⟩, hi, hne⟩ := st; ⟨⟨old, k e (by simp) _ he⟩, hi.at fun o q => k it (by simp) o q, hne⟩
  item := by
    intro X hP hw hK hc i pins s σ H E I hf st hg
    subst hP hw hK
    obtain ⟨⟨old, he⟩, hit, hne, hna, hia⟩ := st
    obtain ⟨xs, x, hq, hx⟩ := hg
    obtain ⟨its, rv, p, hz⟩ := I.list hq
    obtain ⟨u, hu, ru⟩ := rv.get hx
    have hel : e < s.heap.objs.size := Heap.lt_size he
    have hil : it < s.heap.objs.size := by obtain ⟨_, q, _⟩ := hit; exact Heap.lt_size q
    have hlt : i < its.toArray.size := by
      have := (List.getElem?_eq_some_iff.mp hu).1
      simpa using this
    have D := Draws.list (prog := X.prog) (w := X.w) (A := X.A.in1) (show X.A.in1.handled = none from I.ok.hd hc) it a hia its.toArray
    refine wpAny_pyNext_enum_itemC D he ⟨hit, p.isList⟩ hlt hne (by simp only [List.mem_cons, List.not_mem_nil, or_false, not_or]; exact ⟨hne, hna⟩) fun u' h' tk hP ho hs' hT hsz hk => ?_
    obtain rfl : u' = u := by
      have hu' : its.toArray[i]? = some u := by simpa using hu
      have hP' : its.toArray[i]? = some u' := hP
      rw [hu'] at hP'
      exact (Option.some.inj hP').symm
    refine ⟨_, rfl, wpAny_letOwnedTupleGo_enum (s := { s with heap := h', toks := tk + 1 }) ho fun h'' he' sb => ?_⟩
    have hT2 : h''.get? s.heap.objs.size = some { cls := .type "tuple", data := .seq #[.int (c + (i : Nat)) tk, u'] } := (sb.2 _ (Nat.ne_of_gt hel)).trans hT
    have new : ObjOk X.prog X.w (upd H s.heap.objs.size (.tup [.int (c + (i : Nat)), x])) h'' s.heap.objs.size (.tup [.int (c + (i : Nat)), x]) :=
      ⟨by show 2 ≤ sizeLine; decide, [.int (c + (i : Nat)) tk, u'], .cons ⟨_, rfl⟩ (.cons ru .nil), ⟨_, hT2, rfl, _, rfl⟩⟩
    have I1 : Inv X pins σ (upd H s.heap.objs.size (.tup [.int (c + (i : Nat)), x])) { s with heap := h'', toks := tk + 1 } :=
      I.turnedNew (ch := [e, it]) (fun b ob hb q => (sb.2 b (fun z => hb (by simp [z]))).trans (hk b ob (fun z => hb (by simp [z])) (fun z => hb (by simp [z])) q)) hf (Nat.le_refl _) new
    refine ⟨.ref s.heap.objs.size, _, I1, rfl, ⟨_, x, rfl, I.hok.fresh (Nat.le_refl _), rfl, fun ys hy => by rw [I.list_inj hy hq]; exact hx⟩, ⟨⟨u', ?_⟩, hs'.1.at fun o q => (sb.2 it (Ne.symm hne)).trans q, hne, hna, hia⟩, fun b hb => ?_⟩
    · have e1 : c + ((i + 1 : Nat) : Int) = c + (i : Int) + 1 := by omega
      rw [e1]; exact he'
    · have hb' : b < s.heap.objs.size := by
        have e' : b = e ∨ b = it := by simpa using hb
        rcases e' with z | z
        · rw [z]; exact hel
        · rw [z]; exact hil
      rw [upd_ne (Nat.ne_of_lt hb')]
      exact (hf b hb).1
  done := by
    intro X hP hw hK hc i pins s σ H E I hf st hg
    subst hP hw hK
    obtain ⟨⟨old, he⟩, hit, hne, hna, hia⟩ := st
    obtain ⟨xs, hq, hx⟩ := hg
    obtain ⟨its, rv, p, hz⟩ := I.list hq
    obtain ⟨f0, f1, f2, f3, f4, f5⟩ := hf it (by simp)
    have hl := rv.length
    have D := Draws.list (prog := X.prog) (w := X.w) (A := X.A.in1) (show X.A.in1.handled = none from I.ok.hd hc) it a hia its.toArray
    have hi : i = its.toArray.size := by simp; omega
    refine wpAny_pyNext_enum_endD D he ⟨hi ▸ hit, p.isList⟩ fun h' eb => ⟨rfl, I.turned (t' := s.toks) (fun b o hb q => eb b o hb q) f0 f1 f3 f4 f5⟩
  self := fun A i s Q E st h => let ⟨⟨_, he⟩, _⟩ := st; wpAny_pyIter_enum he h
def iEnumS (K : PySem.W.Frag) (ta : TA) : TI := fun σ H R => ta σ H fun vs H1 => ∃ a xs c, vs = [.ref a, .int c] ∧ SqL K H1 a xs ∧ -(2 ^ 62) ≤ c ∧ c < 2 ^ 62 ∧ R (IteS K c a) H1
theorem pi_enumS {X : Cx} {e e2 : Expr} {ta : TA} {p pos tpos : Pos} {elts : List Expr} {kk : Nat} (hg : Gl X "enumerate") (hm : X.mg "enumerate" = none) (ha : PA X [e, e2] ta)
    (hs : starEach [e, e2] X.env = (false, eval e X.env) :: starEach [e2] X.env := by rfl) (hpl : (backTo pos (starEach [e2] X.env)).any (·.1) = false := by rfl) :
    PI X (.Tuple elts kk tpos) (.Call (.Name "enumerate" p) [e, e2] [] pos) (iEnumS X.K ta) := by
  refine ⟨fun pins s σ H R I h => ?_⟩
  refine Call_ (ld_blt I hg hm boot_enumerate (PyProof.Rows.callWith_type1 (thn (ha.run pos pins s σ H _ I h) fun us s1 ⟨vs, H1, I1, r1, q1⟩ => ?_) hs hpl))
  obtain ⟨a, xs, c, ex, hq, hc0, hc1, q⟩ := q1
  subst ex
  cases r1 with
  | cons r rr =>
    cases rr with
    | cons r' rr =>
      cases rr
      cases r
      obtain ⟨t, rfl⟩ := r'
      obtain ⟨its, rv, p', hz⟩ := I1.list hq
      have la : a < s1.heap.objs.size := p'.lt
      refine PySem.enum_begins (PySem.begins_list a its.toArray) p'.isList (by omega) (by omega) fun h' he hit hsz hk => wpAny_pyIter_enum he ?_
      have I2 : Inv X pins σ H1 { s1 with heap := h' } := I1.kept (t' := s1.toks) hk
      refine ⟨s1.heap.objs.size + 1, [s1.heap.objs.size + 1, s1.heap.objs.size], _, _, H1, rfl, I2, turn_enumS c a (s1.heap.objs.size + 1) s1.heap.objs.size, ⟨⟨.none, by simpa using he⟩, ⟨_, hit, rfl, rfl⟩, Nat.succ_ne_self _, (Nat.ne_of_lt (Nat.lt_succ_of_lt la)).symm, Nat.ne_of_lt la⟩, fun b hb => ?_, q⟩
      have e' : b = s1.heap.objs.size + 1 ∨ b = s1.heap.objs.size := by simpa using hb
      have hle : s1.heap.objs.size ≤ b := by
        rcases e' with z | z
        · rw [z]; exact Nat.le_add_right _ _
        · rw [z]; exact Nat.le_refl _
      exact I1.fpOk hle (I1.hok.fresh hle)
def iEnS (t : TAD) : TID := fun wd ρ S k => t wd ρ S fun ds S1 => match ds with
  | [d, .int c] => (match vl S1 d with | some xs => xs.length ≤ sizeLine ∧ -(2 ^ 62) ≤ c ∧ c < 2 ^ 62 ∧ k (enm c xs) (grd d xs) S1 | none => False)
  | _ => False
theorem pid_enumS {X : Cx} {wd : WD} {elts : List Expr} {kk : Nat} {tpos p pos : Pos} {t : TAD} {e e2 : Expr} (hm : X.mg "enumerate" = none) (ha : PAD X wd [e, e2] t) (hg : Gl X "enumerate" := by rfl)
    (hs : starEach [e, e2] X.env = (false, eval e X.env) :: starEach [e2] X.env := by rfl) (hpl : (backTo pos (starEach [e2] X.env)).any (·.1) = false := by rfl) :
    PID X wd (.Tuple elts kk tpos) (.Call (.Name "enumerate" p) [e, e2] [] pos) (iEnS t) := by
  refine ⟨_, pi_enumS hg hm ha.pa hs hpl, fun σ H F ρ S k P r h hP => ⟨F, ρ, S, _, r, h, fun F1 vs H1 ds S1 g1 r1 rs q => ?_⟩⟩
  split at q
  · rename_i d c
    obtain ⟨v, v2, rfl, rd, rc⟩ := rs.two
    split at q
    · rename_i xs hl
      obtain ⟨a, e, hk⟩ := keep_l r1.h rd hl
      obtain ⟨vs, h1, h2⟩ := hk F1 H1 S1 (Evl.Ex.refl _) r1.h (grdS hl)
      subst e
      unfold R at rc
      subst rc
      obtain ⟨q0, q1, q2, q⟩ := q
      refine ⟨a, vs, c, rfl, h1, q1, q2, hP _ H1 F1 _ _ S1 g1 r1 ?_ (by rw [enm_length]; exact q0) q⟩
      intro F' H' S' i e r g
      obtain ⟨ws, h1, h2⟩ := hk F' H' S' e r g
      refine ⟨fun hi => ⟨ws, h1, by rw [h2.length]; rw [enm_length] at hi; omega⟩, fun d hd => ?_⟩
      obtain ⟨x, e1, e2⟩ := enm_get c xs i d hd
      obtain ⟨v, q1, q2⟩ := h2.get e1
      refine ⟨⟨ws, v, h1, q1⟩, fun z H2 ⟨T, y, ez, hT, eH, hx⟩ => ?_⟩
      have := hx ws h1
      rw [q1] at this
      cases this
      subst ez eH e2
      obtain ⟨F2, g2, r2, rd2⟩ := newTup r (Rs.cons (d := .int (c + (i : Nat))) (v := .int (c + (i : Nat))) (by unfold R; rfl) (Rs.cons q2 Rs.nil)) hT
      exact ⟨F2, g2, r2, rd2⟩
    · exact q.elim
  · exact q.elim
end Z

set_option Elab.async false
set_option linter.all false
set_option maxRecDepth 100000
set_option maxHeartbeats 4000000
/-! an object of the store is frozen together with an object that its j-th field holds -/
namespace Z
open PySem PySem.Spec PyProof.Rows L2
def frz2K (j : Nat) (k : KD) : KD := fun d S => match d with
  | .adr a => (match S a with
    | some (.obj C ns vs) => (match vs[j]? with
      | some (.adr q) => (match S q with
        | some u => q ≠ a ∧ k (.obj C ns (vs.set j u.toD)) (sdel (sdel S q) a)
        | none => False)
      | _ => False)
    | _ => False)
  | _ => False
def dFrz2 (j : Nat) (t : TD) : TD := fun wd ρ S k => t wd ρ S (frz2K j k)
theorem Rs.set_at {K : PySem.W.Frag} {F : Hp} {ds : List D} {vs : List V} {j : Nat} {q : Addr} {u : D} (h : Rs K F ds vs) (hj : ds[j]? = some (.adr q)) (r : R K F u (.ref q)) : Rs K F (ds.set j u) vs := by
  obtain ⟨v, h1, h2⟩ := h.get hj
  unfold R at h2
  subst h2
  have e : vs.set j (.ref q) = vs := by
    refine List.ext_getElem? fun i => ?_
    by_cases hi : j = i
    · subst hi
      have hl := (List.getElem?_eq_some_iff.mp h1).1
      rw [List.getElem?_set_self hl, h1]
    · rw [List.getElem?_set_ne hi]
  rw [← e]
  exact h.set r
theorem pd_frz2 {X : Cx} {wd : WD} {e : Expr} {j : Nat} {t : TD} (h : PD X wd e t) : PD X wd e (dFrz2 j t) := by
  refine ⟨fun pins s σ H F ρ S k I r hw => thn (h.run pins s σ H F ρ S _ I r hw) fun u s1 ⟨v, H1, F1, d, S1, I1, rv, e1, q1, rd, hk⟩ => ?_⟩
  unfold frz2K at hk
  split at hk
  · rename_i a
    split at hk
    · rename_i C ns vs ha
      split at hk
      · rename_i q hq
        split at hk
        · rename_i o ho
          obtain ⟨hne, hk⟩ := hk
          unfold R at rd
          subst rd
          obtain ⟨F2, g2, r2, rq⟩ := q1.h.frz ho
          have ha2 : sdel S1 q a = some (.obj C ns vs) := by unfold sdel; rw [if_neg (fun z => hne z.symm)]; exact ha
          obtain ⟨F3, g3, r3, ra⟩ := r2.frz ha2
          have rq3 := R.mono g3.ex _ _ rq
          refine ⟨_, H1, F3, _, _, I1, rv, e1.trans (g2.trans g3), q1.up (g2.trans g3) r3, ?_, hk⟩
          unfold DO.toD at ra
          dsimp only at ra
          unfold R at ra ⊢
          obtain ⟨a', dx, fs, e0, f1, f2, f3⟩ := ra
          exact ⟨a', dx, fs, e0, f1, f2, Rs.set_at f3 hq rq3⟩
        · exact hk.elim
      · exact hk.elim
    · exact hk.elim
  · exact hk.elim
/-- d.get(e, f) -/
def dget2K (y z : D) (d : D) (S : Sto) (k : KD) : Prop := match vd S d with
  | some p => isK y = true ∧ k ((dgo p.1 p.2 y).getD z) S
  | none => False
def dDGet2 (to ti tx : TD) : TD := fun wd ρ S k => to wd ρ S fun d S1 => (vd S1 d).isSome = true ∧ ti wd ρ S1 fun y S2 => tx wd ρ S2 fun z S3 => dget2K y z d S3 k
theorem pd_dget2 {X : Cx} {wd : WD} {kk : Nat} {o e f : Expr} {to ti tx : TD} {apos cpos : Pos} (hr : Rm kk X.A) (ho : PD X wd o to) (hi : PD X wd e ti) (hf : PD X wd f tx) (m : M2 X o "get" apos e f cpos) :
    PD X wd (.Call (.Attribute o "get" apos) [e, f] [] cpos) (dDGet2 to ti tx) := by
  refine PE.pd (pe_dget2 (by have := hr.u.un; omega) ho.pe hi.pe hf.pe m) fun σ H F ρ S k r h => ?_
  refine ⟨F, ρ, S, _, r, h, fun F1 x H1 d S1 g1 r1 rd ⟨hd, hk⟩ => ?_⟩
  cases hv : vd S1 d with
  | none => rw [hv] at hd; cases hd
  | some p =>
    obtain ⟨a, vs, e0, hD, _⟩ := vd_at r1.h rd hv
    obtain ⟨kvs, hH, _⟩ := hD
    refine ⟨a, e0, .inl ⟨kvs, hH⟩, F1, ρ, S1, _, r1, hk, fun F2 y H2 dy S2 g2 r2 ry hk2 => ⟨F2, ρ, S2, _, r2, hk2, fun F3 z H3 dz S3 g3 r3 rz hk3 => ?_⟩⟩
    unfold dget2K at hk3
    split at hk3
    · rename_i p3 hv3
      obtain ⟨h1, h2⟩ := hk3
      obtain ⟨a3, vs3, e3, hD3, rs3⟩ := vd_at r3.h (R.mono (g2.trans g3).ex _ _ rd) hv3
      rw [e0] at e3
      cases e3
      obtain ⟨ov, q1, q2, q3⟩ := dic_get hD3 rs3 (R.mono g3.ex _ _ ry) h1
      refine ⟨ov, q1, ?_⟩
      cases ov with
      | none =>
        rw [q3 rfl] at h2
        exact ⟨F3, _, S3, g1.trans (g2.trans g3), r3, rz, h2⟩
      | some v =>
        obtain ⟨x', f1, f2⟩ := q2 v rfl
        rw [f1] at h2
        exact ⟨F3, _, S3, g1.trans (g2.trans g3), r3, f2, h2⟩
    · exact hk3.elim
/-- {k: v}, of the store -/
def dDic1M (tk tv : TD) : TD := fun wd ρ S k => tk wd ρ S fun d S1 => tv wd ρ S1 fun e S2 => isK d = true ∧ ∀ p, S2 p = none → k (.adr p) (supd S2 p (.dic [d] [e]))
theorem RelH.addS {K : PySem.W.Frag} {F H : Hp} {S : Sto} (r : RelH K F H S) {p : Addr} {o : HO} {u : DO} (f1 : F p = none) (ho : RO K F (upd H p o) p u) : RelH K F (upd H p o) (supd S p u) := by
  refine ⟨fun a v e => ?_, fun a v e => ?_⟩
  · have ha : a ≠ p := fun z => by rw [z, f1] at e; cases e
    rw [upd_ne ha]; exact r.ex a v e
  · by_cases ha : a = p
    · subst ha; rw [supd_same] at e; cases e; exact ⟨f1, ho⟩
    · rw [supd_ne ha] at e
      obtain ⟨q1, q2⟩ := r.so a v e
      exact ⟨q1, q2.mono (Evl.Ex.refl F) (upd_ne ha)⟩
theorem pd_dic1M {X : Cx} {wd : WD} {a b : Expr} {ta tb : TD} {pos : Pos} (ha : PD X wd a ta) (hb : PD X wd b tb) : PD X wd (.Dict [some a] [b] pos) (dDic1M ta tb) := by
  refine PE.pd (pe_disp (pps_cons ha.pe hb.pe pps_nil) rfl rfl (by simp) (by simp)) fun σ H F ρ S k r h => ?_
  intro p hp
  obtain ⟨f0, s0⟩ := r.h.fresh hp
  refine ⟨F, ρ, S, _, r.up (Go.other hp) (r.h.other f0 s0), h, fun F1 x H1 d S1 g1 r1 rd q => ⟨F1, ρ, S1, _, r1, q, fun F2 y H2 e S2 g2 r2 re q2 => ?_⟩⟩
  obtain ⟨hk, q2⟩ := q2
  obtain ⟨h2, s2, f2⟩ := (g1.trans g2).fr p _ upd_same s0 f0
  obtain ⟨ky, e1, e2⟩ := isK_key (R.mono g2.ex _ _ rd) hk
  subst e1 e2
  refine ⟨h2, [(ky, y)], rfl, by simp, F2, .adr p, supd S2 p (.dic [keyD ky] [e]), ?_, ?_, by unfold R; rfl, q2 p s2⟩
  · refine ⟨(g1.trans g2).ex, fun a o h n f => ?_, fun a h => ?_⟩
    · have ne : a ≠ p := ne_of_none h hp
      obtain ⟨w1, w2, w3⟩ := (g1.trans g2).fr a o (by rw [upd_ne ne]; exact h) n f
      exact ⟨by rw [upd_ne ne]; exact w1, by rw [supd_ne ne]; exact w2, w3⟩
    · exact upd_none ((g1.trans g2).dm a (upd_none h))
  · have rh : RelH X.K F2 (upd H2 p (.dK (mergeK [] [(ky, y)]))) (supd S2 p (.dic [keyD ky] [e])) := r2.h.addS f2 ⟨[y], ⟨[(ky, y)], by rw [upd_same]; rfl, rfl, rfl⟩, Rs.cons re Rs.nil⟩
    refine ⟨rh, r2.sl, r2.len, ?_⟩
    refine ⟨r2.go.ex, fun a o h n f => ?_, fun a h => ?_⟩
    · have ne : a ≠ p := fun z => by
        subst z
        obtain ⟨w1, _, _⟩ := r.go.fr a o h n f
        rw [hp] at w1; cases w1
      obtain ⟨w1, w2, w3⟩ := r2.go.fr a o h n f
      exact ⟨by rw [upd_ne ne]; exact w1, by rw [supd_ne ne]; exact w2, w3⟩
    · exact r2.go.dm a (upd_none h)
end Z

set_option Elab.async false
set_option linter.all false
set_option maxRecDepth 100000
set_option maxHeartbeats 4000000
/-! enumerate(zip(xs, ys), start) -/
namespace PySem
open Sem (wp)
/-- a zip in any state: what is handed out, whether it is known to be held -/
abbrev ZqAt (h : Heap) (z TI TO : Addr) (f0 : Value) (f : Bool) : Prop :=
  h.get? z = some { cls := .type "zip", dict := none, data := .fields #[f0, .bool f, .bool false, .ref TI, .ref TO], slots := #[] }
section
variable {prog : Program} {w : World} {A : Around} {E : Value → Shared → Prop} {s : Shared}
theorem zq_aliveAny {a : Addr} {Q : Option Obj → Shared → Prop} (q : Q (s.heap.get? a) s) : wpAny (model prog w) A (loadIfAlive a) Q E s := fun _ _ _ => q
/-- the way of a zip whose tuple is free -/
theorem zq_item_free {z TI TO i1 i2 l1 l2 : Addr} {k1 k2 : Nat} {xs ys : Array Value} {x y a b f0 : Value} {f : Bool} {Q : Value → Shared → Prop} (P : ZipApart z TI TO i1 i2 l1 l2)
    (gz : ZqAt s.heap z TI TO f0 f) (gI : IsPair s.heap TI (.ref i1) (.ref i2)) (gO : IsPair s.heap TO a b)
    (free : ∀ R : Bool → Shared → Prop, R true s → wpAny (model prog w) A (Builtin.SmallTypes.ownedTupleIsFree (.ref z)) R E s)
    (g1 : s.heap.IsListIter i1 l1 k1) (g2 : s.heap.IsListIter i2 l2 k2) (m1 : s.heap.IsList l1 xs) (m2 : s.heap.IsList l2 ys) (ex : xs[k1]? = some x) (ey : ys[k2]? = some y)
    (done : ∀ h', ZqAt h' z TI TO (rawInt s.heap.objs.size) false → IsPair h' TO x y → h'.IsListIter i1 l1 (k1 + 1) → h'.IsListIter i2 l2 (k2 + 1) → IsPair h' s.heap.objs.size x y → h'.objs.size = s.heap.objs.size + 1 →
      (∀ c o, c ≠ z → c ≠ TO → c ≠ i1 → c ≠ i2 → s.heap.get? c = some o → h'.get? c = some o) → Q (.ref s.heap.objs.size) { s with heap := h' }) :
    wpAny (model prog w) A (Builtin.«zip.__next__» ⟨[.ref z], []⟩) (fun fin s' => ∃ v, fin = .done (.ret v) ∧ Q v s') E s := by
  show wpAny _ _ (field (.ref z) 2 >>= _) _ _ _
  refine wpAny_bind (wpAny_field gz rfl (x := .bool false) rfl ?_)
  show wpAny _ _ (field (.ref z) 3 >>= _) _ _ _
  refine wpAny_bind (wpAny_field gz rfl (x := .ref TI) rfl ?_)
  refine wpAny_bind (wpAny_seqItems gI rfl ?_)
  refine wpAny_bind (free _ ?_)
  simp only [if_true]
  refine wpAny_bind (wpAny_rule ?_)
  refine wpAny_bind (wpAny_field gz rfl (x := .ref TO) rfl ?_)
  refine wpAny_bind (wpAny_setField_rec gz (by simp) fun ha za sa => ?_)
  replace za : ZqAt ha z TI TO .ellipsis f := za
  refine wpAny_bind ?_
  simp only [List.zipIdx_cons, List.zipIdx_nil, List.forIn_cons, List.forIn_nil]
  refine wpAny_bind (wpAny_bind (wpAny_onRaise ?_))
  show wpAny _ _ (Builtin.SmallTypes.nextOf (.ref i1) >>= _) _ _ _
  refine wpAny_bind (wpAny_nextOf_list_item (g1.extBut sa.extBut P.i1z) (m1.extBut sa.extBut P.l1z) ex fun hb gb sb => wpAny_pure ?_)
  have Ob : IsPair hb TO a b := sb.extBut _ _ P.TOi1 (sa.extBut _ _ P.TOz gO)
  refine wpAny_bind (wpAny_seqItems Ob rfl ?_)
  refine wpAny_bind (wpAny_updateSeq_pair Ob fun hc Oc sc => ?_)
  replace Oc : IsPair hc TO x b := Oc
  refine wpAny_bind (wpAny_letGo (wpAny_pure ?_))
  refine wpAny_bind (wpAny_bind (wpAny_onRaise ?_))
  show wpAny _ _ (Builtin.SmallTypes.nextOf (.ref i2) >>= _) _ _ _
  refine wpAny_bind (wpAny_nextOf_list_item (((g2.extBut sa.extBut P.i2z).extBut sb.extBut P.i12.symm).extBut sc.extBut P.TOi2.symm) (((m2.extBut sa.extBut P.l2z).extBut sb.extBut P.l2i1).extBut sc.extBut P.l2TO) ey fun hd gd sd => wpAny_pure ?_)
  have Od : IsPair hd TO x b := sd.extBut _ _ P.TOi2 Oc
  refine wpAny_bind (wpAny_seqItems Od rfl ?_)
  refine wpAny_bind (wpAny_updateSeq_pair Od fun he Oe se => ?_)
  replace Oe : IsPair he TO x y := Oe
  refine wpAny_bind (wpAny_letGo (wpAny_pure (wpAny_pure ?_)))
  refine wpAny_bind (wpAny_seqItems Oe rfl ?_)
  refine wpAny_bind (wpAny_newTuple ?_)
  have sz : he.objs.size = s.heap.objs.size := by rw [se.1, sd.1, sc.1, sb.1, sa.1]
  have ze : ZqAt he z TI TO .ellipsis f := se.extBut _ _ P.TOz.symm (sd.extBut _ _ P.i2z.symm (sc.extBut _ _ P.TOz.symm (sb.extBut _ _ P.i1z.symm za)))
  have kept : ∀ c o, c ≠ z → c ≠ TO → c ≠ i1 → c ≠ i2 → s.heap.get? c = some o → he.get? c = some o := fun c o n1 n2 n3 n4 q => se.extBut _ _ n2 (sd.extBut _ _ n4 (sc.extBut _ _ n2 (sb.extBut _ _ n3 (sa.extBut _ _ n1 q))))
  have g1e : he.IsListIter i1 l1 (k1 + 1) := ((gb.extBut sc.extBut P.TOi1.symm).extBut sd.extBut P.i12).extBut se.extBut P.TOi1.symm
  have g2e : he.IsListIter i2 l2 (k2 + 1) := gd.extBut se.extBut P.TOi2.symm
  have lz : z < he.objs.size := Heap.lt_size ze
  show wpAny _ _ (Builtin.SmallTypes.ownedTupleHandOut (.ref z) (.ref he.objs.size) >>= _) _ _ _
  refine wpAny_bind ?_
  unfold Builtin.SmallTypes.ownedTupleHandOut
  have zp : ZqAt (he.push { cls := .type "tuple", data := .seq #[x, y] }) z TI TO .ellipsis f := Heap.get?_push_of_some _ ze
  refine wpAny_bind (wpAny_setField_rec zp (by simp) fun hg zg sg => ?_)
  replace zg : ZqAt hg z TI TO (rawInt he.objs.size) f := zg
  refine wpAny_setField_rec zg (by simp) fun hh zh sh => ?_
  replace zh : ZqAt hh z TI TO (rawInt he.objs.size) false := zh
  have up : ∀ c o, c ≠ z → he.get? c = some o → hh.get? c = some o := fun c o n q => sh.extBut _ _ n (sg.extBut _ _ n (Heap.get?_push_of_some _ q))
  have Th : IsPair hh he.objs.size x y := sh.extBut _ _ (Nat.ne_of_gt lz) (sg.extBut _ _ (Nat.ne_of_gt lz) (Heap.get?_push_size _ rfl))
  have szh : hh.objs.size = he.objs.size + 1 := by rw [sh.1, sg.1, Heap.size_push]
  rw [sz] at zh Th szh
  refine wpAny_pure ⟨_, rfl, ?_⟩
  show Q (.ref he.objs.size) _
  rw [sz]
  exact done hh zh (up _ _ P.TOz Oe) (g1e.at fun o q => up _ o P.i1z q) (g2e.at fun o q => up _ o P.i2z q) Th szh fun c o n1 n2 n3 n4 q => up c o n1 (kept c o n1 n2 n3 n4 q)
theorem zq_end_free {z TI TO i1 i2 l1 l2 : Addr} {k1 k2 : Nat} {xs ys : Array Value} {a b f0 : Value} {f : Bool} {Q : Fin → Shared → Prop} (hn : A.handled = none) (P : ZipApart z TI TO i1 i2 l1 l2)
    (gz : ZqAt s.heap z TI TO f0 f) (gI : IsPair s.heap TI (.ref i1) (.ref i2)) (gO : IsPair s.heap TO a b)
    (free : ∀ R : Bool → Shared → Prop, R true s → wpAny (model prog w) A (Builtin.SmallTypes.ownedTupleIsFree (.ref z)) R E s)
    (g1 : s.heap.IsListIter i1 l1 k1) (g2 : s.heap.IsListIter i2 l2 k2) (m1 : s.heap.IsList l1 xs) (m2 : s.heap.IsList l2 ys) (stop : xs[k1]? = none ∨ ys[k2]? = none)
    (bad : ∀ h' e, (∀ c o, c ≠ z → c ≠ TO → c ≠ i1 → c ≠ i2 → s.heap.get? c = some o → h'.get? c = some o) → (∃ o, h'.get? e = some o ∧ o.cls = .type "StopIteration") → E (.ref e) { s with heap := h' }) :
    wpAny (model prog w) A (Builtin.«zip.__next__» ⟨[.ref z], []⟩) Q E s := by
  show wpAny _ _ (field (.ref z) 2 >>= _) _ _ _
  refine wpAny_bind (wpAny_field gz rfl (x := .bool false) rfl ?_)
  show wpAny _ _ (field (.ref z) 3 >>= _) _ _ _
  refine wpAny_bind (wpAny_field gz rfl (x := .ref TI) rfl ?_)
  refine wpAny_bind (wpAny_seqItems gI rfl ?_)
  refine wpAny_bind (free _ ?_)
  simp only [if_true]
  refine wpAny_bind (wpAny_rule ?_)
  refine wpAny_bind (wpAny_field gz rfl (x := .ref TO) rfl ?_)
  refine wpAny_bind (wpAny_setField_rec gz (by simp) fun ha za sa => ?_)
  replace za : ZqAt ha z TI TO .ellipsis f := za
  refine wpAny_bind ?_
  simp only [List.zipIdx_cons, List.zipIdx_nil, List.forIn_cons, List.forIn_nil]
  refine wpAny_bind (wpAny_bind (wpAny_onRaise ?_))
  show wpAny _ _ (Builtin.SmallTypes.nextOf (.ref i1) >>= _) _ _ _
  cases ex : xs[k1]? with
  | none =>
    refine wpAny_bind (wpAny_nextOf_list_end hn (g1.extBut sa.extBut P.i1z) (m1.extBut sa.extBut P.l1z) ex fun hb e sb oe => ?_)
    obtain ⟨ob, gob, cob⟩ := oe
    have zb : ZqAt hb z TI TO .ellipsis f := sb _ _ P.i1z.symm za
    have nez : e ≠ z := fun q => by subst q; rw [zb] at gob; cases gob; simp at cob
    refine wpAny_setField_rec zb (by simp) fun hc _ sc => bad hc e (fun c o n1 _ n3 _ q => sc.extBut _ _ n1 (sb _ _ n3 (sa.extBut _ _ n1 q))) ⟨ob, sc.extBut _ _ nez gob, cob⟩
  | some x =>
    have ey : ys[k2]? = none := by rcases stop with q | q; rw [ex] at q; cases q; exact q
    refine wpAny_bind (wpAny_nextOf_list_item (g1.extBut sa.extBut P.i1z) (m1.extBut sa.extBut P.l1z) ex fun hb gb sb => wpAny_pure ?_)
    have Ob : IsPair hb TO a b := sb.extBut _ _ P.TOi1 (sa.extBut _ _ P.TOz gO)
    refine wpAny_bind (wpAny_seqItems Ob rfl ?_)
    refine wpAny_bind (wpAny_updateSeq_pair Ob fun hc Oc sc => ?_)
    refine wpAny_bind (wpAny_letGo (wpAny_pure ?_))
    refine wpAny_bind (wpAny_bind (wpAny_onRaise ?_))
    show wpAny _ _ (Builtin.SmallTypes.nextOf (.ref i2) >>= _) _ _ _
    refine wpAny_bind (wpAny_nextOf_list_end hn (((g2.extBut sa.extBut P.i2z).extBut sb.extBut P.i12.symm).extBut sc.extBut P.TOi2.symm) (((m2.extBut sa.extBut P.l2z).extBut sb.extBut P.l2i1).extBut sc.extBut P.l2TO) ey fun hd e sd oe => ?_)
    obtain ⟨ob, gob, cob⟩ := oe
    have zd : ZqAt hd z TI TO .ellipsis f := sd _ _ P.i2z.symm (sc.extBut _ _ P.TOz.symm (sb.extBut _ _ P.i1z.symm za))
    have nez : e ≠ z := fun q => by subst q; rw [zd] at gob; cases gob; simp at cob
    refine wpAny_setField_rec zd (by simp) fun he _ se => bad he e (fun c o n1 n2 n3 n4 q => se.extBut _ _ n1 (sd _ _ n4 (sc.extBut _ _ n2 (sb.extBut _ _ n3 (sa.extBut _ _ n1 q))))) ⟨ob, se.extBut _ _ nez gob, cob⟩
/-- the states that a zip passes -/
def ZqSt (h : Heap) (z TI TO i1 i2 l1 l2 : Addr) (i : Nat) : Prop :=
  (∃ f0 f, ZqAt h z TI TO f0 f ∧ (f0 = .none ∨ ∃ T : Addr, f0 = rawInt T)) ∧ IsPair h TI (.ref i1) (.ref i2) ∧ (∃ x y, IsPair h TO x y) ∧ h.IsListIter i1 l1 i ∧ h.IsListIter i2 l2 i
theorem zq_free {z TI TO : Addr} {f0 : Value} {f : Bool} (gz : ZqAt s.heap z TI TO f0 f) (h0 : f0 = .none ∨ ∃ T : Addr, f0 = rawInt T ∧ s.heap.get? T = none) (R : Bool → Shared → Prop) (q : R true s) :
    wpAny (model prog w) A (Builtin.SmallTypes.ownedTupleIsFree (.ref z)) R E s := by
  unfold Builtin.SmallTypes.ownedTupleIsFree
  rcases h0 with rfl | ⟨T, rfl, hT⟩
  · exact wpAny_bind (wpAny_field gz rfl (x := .none) rfl (wpAny_pure q))
  · refine wpAny_bind (wpAny_field gz rfl (x := rawInt T) rfl ?_)
    show wpAny _ _ (loadIfAlive ((T : Int).toNat) >>= _) _ _ _
    rw [Int.toNat_natCast]
    refine wpAny_bind (zq_aliveAny ?_)
    rw [hT]
    simp only [Option.isNone_none, if_true]
    exact wpAny_pure q
theorem zq_next {z TI TO i1 i2 l1 l2 : Addr} {i : Nat} {xs ys : Array Value} {x y : Value} {Q : Value → Shared → Prop} (P : ZipApart z TI TO i1 i2 l1 l2) (st : ZqSt s.heap z TI TO i1 i2 l1 l2 i)
    (m1 : s.heap.IsList l1 xs) (m2 : s.heap.IsList l2 ys) (ex : xs[i]? = some x) (ey : ys[i]? = some y)
    (done : ∀ h', ZqSt h' z TI TO i1 i2 l1 l2 (i + 1) → IsPair h' s.heap.objs.size x y → h'.objs.size = s.heap.objs.size + 1 →
      (∀ c o, c ≠ z → c ≠ TO → c ≠ i1 → c ≠ i2 → s.heap.get? c = some o → h'.get? c = some o) → Q (.ref s.heap.objs.size) { s with heap := h' }) :
    wpAny (model prog w) A (Builtin.SmallTypes.nextOf (.ref z)) Q E s := by
  obtain ⟨⟨f0, f, gz, hf⟩, gI, ⟨a, b, gO⟩, g1, g2⟩ := st
  have hTy : s.TypeIs (.ref z) "zip" := ⟨_, gz, rfl⟩
  have hz : z < s.heap.objs.size := Heap.lt_size gz
  unfold Builtin.SmallTypes.nextOf
  have fr : (f0 = .none ∨ ∃ T : Addr, f0 = rawInt T ∧ s.heap.get? T = none) ∨ ∃ (T : Addr) (oT : Obj), f0 = rawInt T ∧ s.heap.get? T = some oT := by
    rcases hf with h | ⟨T, h⟩
    · exact .inl (.inl h)
    · cases e : s.heap.get? T with
      | none => exact .inl (.inr ⟨T, h, e⟩)
      | some oT => exact .inr ⟨T, oT, h, e⟩
  have TIlt : TI ≠ z := P.TIz
  rcases fr with fr | ⟨T, oT, rfl, hT⟩
  · refine wpAny_bind (wpAny_callSpecial?_slot (name := Str.ofString "__next__") hTy F.slot_zip_next (wpAny_call_entry F.slot_zip_next hTy F.entry_zip_next
      (zq_item_free P gz gI gO (zq_free gz fr) g1 g2 m1 m2 ex ey fun h' a1 a2 a3 a4 a5 a6 a7 => wpAny_pure (done h' ⟨⟨_, _, a1, .inr ⟨_, rfl⟩⟩, a7 _ _ P.TIz P.TITO P.TIi1 P.TIi2 gI, ⟨_, _, a2⟩, a3, a4⟩ a5 a6 a7)) (F.args_zip_next_1 _)))
  · refine wpAny_bind (wpAny_callSpecial?_slot (name := Str.ofString "__next__") hTy F.slot_zip_next (wpAny_call_entry F.slot_zip_next hTy F.entry_zip_next
      (zip_next_item_held P gz hT gI g1 g2 m1 m2 ex ey fun h' a1 a3 a4 a5 a6 a7 => wpAny_pure (done h' ⟨⟨_, _, a1, .inr ⟨_, rfl⟩⟩, a7 _ _ P.TIz P.TIi1 P.TIi2 gI, ⟨a, b, a7 _ _ P.TOz P.TOi1 P.TOi2 gO⟩, a3, a4⟩ a5 a6 fun c o n1 _ n3 n4 q => a7 c o n1 n3 n4 q)) (F.args_zip_next_1 _)))
theorem zq_stop {z TI TO i1 i2 l1 l2 : Addr} {i : Nat} {xs ys : Array Value} {Q : Value → Shared → Prop} (hn : A.handled = none) (P : ZipApart z TI TO i1 i2 l1 l2) (st : ZqSt s.heap z TI TO i1 i2 l1 l2 i)
    (m1 : s.heap.IsList l1 xs) (m2 : s.heap.IsList l2 ys) (stop : xs[i]? = none ∨ ys[i]? = none)
    (bad : ∀ h' e, (∀ c o, c ≠ z → c ≠ TO → c ≠ i1 → c ≠ i2 → s.heap.get? c = some o → h'.get? c = some o) → (∃ o, h'.get? e = some o ∧ o.cls = .type "StopIteration") → E (.ref e) { s with heap := h' }) :
    wpAny (model prog w) A (Builtin.SmallTypes.nextOf (.ref z)) Q E s := by
  obtain ⟨⟨f0, f, gz, hf⟩, gI, ⟨a, b, gO⟩, g1, g2⟩ := st
  have hTy : s.TypeIs (.ref z) "zip" := ⟨_, gz, rfl⟩
  unfold Builtin.SmallTypes.nextOf
  have fr : (f0 = .none ∨ ∃ T : Addr, f0 = rawInt T ∧ s.heap.get? T = none) ∨ ∃ (T : Addr) (oT : Obj), f0 = rawInt T ∧ s.heap.get? T = some oT := by
    rcases hf with h | ⟨T, h⟩
    · exact .inl (.inl h)
    · cases e : s.heap.get? T with
      | none => exact .inl (.inr ⟨T, h, e⟩)
      | some oT => exact .inr ⟨T, oT, h, e⟩
  rcases fr with fr | ⟨T, oT, rfl, hT⟩
  · exact wpAny_bind (wpAny_callSpecial?_slot (name := Str.ofString "__next__") hTy F.slot_zip_next (wpAny_call_entry F.slot_zip_next hTy F.entry_zip_next
      (zq_end_free hn P gz gI gO (zq_free gz fr) g1 g2 m1 m2 stop bad) (F.args_zip_next_1 _)))
  · exact wpAny_bind (wpAny_callSpecial?_slot (name := Str.ofString "__next__") hTy F.slot_zip_next (wpAny_call_entry F.slot_zip_next hTy F.entry_zip_next
      (zip_next_end_held hn P gz hT gI g1 g2 m1 m2 stop fun h' e hk he => bad h' e (fun c o n1 _ n3 n4 q => hk c o n1 n3 n4 q) he) (F.args_zip_next_1 _)))
end
end PySem

set_option Elab.async false
set_option linter.all false
set_option maxRecDepth 100000
set_option maxHeartbeats 4000000
/-! enumerate(zip(xs, ys), start): walked -/
namespace PySem
open Sem (wp)
section
variable {prog : Program} {w : World} {A : Around} {E : Value → Shared → Prop} {s : Shared}
theorem ez_next {e z TI TO i1 i2 l1 l2 : Addr} {i : Nat} {c : Int} {xs ys : Array Value} {x y old : Value} {Q : Option Value → Shared → Prop} (P : ZipApart z TI TO i1 i2 l1 l2) (st : ZqSt s.heap z TI TO i1 i2 l1 l2 i)
    (ge : IsEnum s.heap e z c old) (nz : e ≠ z) (nO : e ≠ TO) (n1 : e ≠ i1) (n2 : e ≠ i2) (m1 : s.heap.IsList l1 xs) (m2 : s.heap.IsList l2 ys) (ex : xs[i]? = some x) (ey : ys[i]? = some y)
    (done : ∀ ha hh tk, ZqSt ha z TI TO i1 i2 l1 l2 (i + 1) → IsPair ha s.heap.objs.size x y → ha.objs.size = s.heap.objs.size + 1 → (∀ b o, b ≠ z → b ≠ TO → b ≠ i1 → b ≠ i2 → s.heap.get? b = some o → ha.get? b = some o) →
      IsEnumOut hh e z (c + 1) (.ref s.heap.objs.size) (s.heap.objs.size + 1) → hh.get? (s.heap.objs.size + 1) = some { cls := .type "tuple", data := .seq #[.int c tk, .ref s.heap.objs.size] } → hh.objs.size = s.heap.objs.size + 2 →
      (∀ b o, b ≠ e → ha.get? b = some o → hh.get? b = some o) → Q (some (.ref (s.heap.objs.size + 1))) { s with heap := hh, toks := tk + 1 }) :
    wpAny (model prog w) A (pyNext (.ref e)) Q E s := by
  obtain ⟨hp, g, d, tk0, os⟩ := s
  have hTy : Shared.TypeIs ⟨hp, g, d, tk0, os⟩ (.ref e) "enumerate" := ⟨_, ge, rfl⟩
  unfold pyNext
  refine wpAny_bind (wpAny_attempt (wpAny_callSpecial?_slot (name := Str.ofString "__next__") hTy F.slot_enumerate_next (wpAny_call_entry F.slot_enumerate_next hTy F.entry_enumerate_next ?_ (F.args_enumerate_next_1 _))))
  show wpAny _ _ (field (.ref e) 2 >>= _) _ _ _
  refine wpAny_bind (wpAny_field ge rfl (x := .ref z) rfl ?_)
  refine wpAny_bind (zq_next P st m1 m2 ex ey fun ha sta pa sza ka => ?_)
  have ea : IsEnum ha e z c old := ka _ _ nz nO n1 n2 ge
  show wpAny _ _ (field (.ref e) 3 >>= _) _ _ ⟨ha, g, d, tk0, os⟩
  refine wpAny_bind (wpAny_field ea rfl (x := rawInt c) rfl ?_)
  show wpAny _ _ (field (.ref e) 4 >>= _) _ _ ⟨ha, g, d, tk0, os⟩
  refine wpAny_bind (wpAny_field ea rfl (x := .none) rfl ?_)
  show wpAny _ _ (mkInt c >>= _) _ _ ⟨ha, g, d, tk0, os⟩
  refine wpAny_bind (wpAny_mkInt ?_)
  show wpAny _ _ (setField (.ref e) 3 (rawInt (c + 1)) >>= _) _ _ ⟨ha, g, d, tk0 + 1, os⟩
  refine wpAny_bind (wpAny_setField_rec ea (by simp) fun hb eb sb => ?_)
  replace sb : Heap.SameBut e ha hb := sb
  replace eb : IsEnum hb e z (c + 1) old := eb
  show wpAny _ _ (setField (.ref e) 4 .none >>= _) _ _ ⟨hb, g, d, tk0 + 1, os⟩
  refine wpAny_bind (wpAny_setField_rec eb (by simp) fun hc ec sc => ?_)
  replace sc : Heap.SameBut e hb hc := sc
  replace ec : IsEnum hc e z (c + 1) old := ec
  show wpAny _ _ (newTuple [.int c tk0, .ref hp.objs.size] >>= _) _ _ ⟨hc, g, d, tk0 + 1, os⟩
  refine wpAny_bind (wpAny_newTuple ?_)
  have szc : hc.objs.size = hp.objs.size + 1 := by rw [sc.1, sb.1]; exact sza
  have ed : IsEnum (hc.push { cls := .type "tuple", data := .seq #[.int c tk0, .ref hp.objs.size] }) e z (c + 1) old := Heap.get?_push_of_some _ ec
  generalize qd : hc.push { cls := .type "tuple", data := .seq #[.int c tk0, .ref hp.objs.size] } = hd at ed
  have el : e < hp.objs.size := Heap.lt_size ge
  have td : hd.get? (hp.objs.size + 1) = some { cls := .type "tuple", data := .seq #[.int c tk0, .ref hp.objs.size] } := by rw [← qd, ← szc]; exact Heap.get?_push_size _ rfl
  have szd : hd.objs.size = hp.objs.size + 2 := by rw [← qd, Heap.size_push, szc]
  have kd : ∀ b o, b ≠ e → ha.get? b = some o → hd.get? b = some o := fun b o n q => by
    rw [← qd]; exact Heap.get?_push_of_some _ (sc.extBut b o n (sb.extBut b o n q))
  show wpAny _ _ (Builtin.SmallTypes.ownedTupleIsFree (.ref e) >>= _) _ _ ⟨hd, g, d, tk0 + 1, os⟩
  rw [szc]
  refine wpAny_bind ?_
  unfold Builtin.SmallTypes.ownedTupleIsFree
  refine wpAny_bind (wpAny_field ed rfl (x := .none) rfl (wpAny_pure ?_))
  simp only [if_true]
  refine wpAny_bind (wpAny_rule ?_)
  refine wpAny_bind (wpAny_field ed rfl (x := old) rfl ?_)
  refine wpAny_bind (wpAny_setField_rec ed (by simp) fun hf ef sf => ?_)
  replace sf : Heap.SameBut e hd hf := sf
  replace ef : IsEnum hf e z (c + 1) (.ref hp.objs.size) := ef
  show wpAny _ _ (Builtin.SmallTypes.ownedTupleHandOut (.ref e) (.ref (hp.objs.size + 1)) >>= _) _ _ ⟨hf, g, d, tk0 + 1, os⟩
  refine wpAny_bind ?_
  unfold Builtin.SmallTypes.ownedTupleHandOut
  refine wpAny_bind (wpAny_setField_rec ef (by simp) fun hg eg sg => ?_)
  replace sg : Heap.SameBut e hf hg := sg
  replace eg : IsEnumOut hg e z (c + 1) (.ref hp.objs.size) (hp.objs.size + 1) := eg
  refine wpAny_setField_rec eg (by simp) fun hh eh sh => ?_
  replace sh : Heap.SameBut e hg hh := sh
  replace eh : IsEnumOut hh e z (c + 1) (.ref hp.objs.size) (hp.objs.size + 1) := eh
  have up : ∀ b o, b ≠ e → hd.get? b = some o → hh.get? b = some o := fun b o n q => sh.extBut b o n (sg.extBut b o n (sf.extBut b o n q))
  refine wpAny_bind (wpAny_letGo (wpAny_pure ⟨_, rfl, wpAny_pure ?_⟩))
  exact done ha hh tk0 sta pa sza ka eh (up _ _ (by have : e < hp.objs.size := el; exact Nat.ne_of_gt (Nat.lt_succ_of_lt this)) td) (by rw [sh.1, sg.1, sf.1, szd]) fun b o n q => up b o n (kd b o n q)
theorem ez_stop {e z TI TO i1 i2 l1 l2 : Addr} {i : Nat} {c : Int} {xs ys : Array Value} {old : Value} {Q : Option Value → Shared → Prop} (hn : A.in1.handled = none) (P : ZipApart z TI TO i1 i2 l1 l2) (st : ZqSt s.heap z TI TO i1 i2 l1 l2 i)
    (ge : IsEnum s.heap e z c old) (m1 : s.heap.IsList l1 xs) (m2 : s.heap.IsList l2 ys) (stop : xs[i]? = none ∨ ys[i]? = none)
    (done : ∀ h', (∀ b o, b ≠ z → b ≠ TO → b ≠ i1 → b ≠ i2 → s.heap.get? b = some o → h'.get? b = some o) → Q none { s with heap := h' }) : wpAny (model prog w) A (pyNext (.ref e)) Q E s := by
  have hTy : s.TypeIs (.ref e) "enumerate" := ⟨_, ge, rfl⟩
  unfold pyNext
  refine wpAny_bind (wpAny_attempt (wpAny_callSpecial?_slot (name := Str.ofString "__next__") hTy F.slot_enumerate_next (wpAny_call_entry F.slot_enumerate_next hTy F.entry_enumerate_next ?_ (F.args_enumerate_next_1 _))))
  show wpAny _ _ (field (.ref e) 2 >>= _) _ _ _
  refine wpAny_bind (wpAny_field ge rfl (x := .ref z) rfl ?_)
  refine wpAny_bind (zq_stop hn P st m1 m2 stop fun h' x k ox => ?_)
  obtain ⟨o, ho, hc⟩ := ox
  refine wpAny_bind (wpAny_isInstance (T := "StopIteration") (b := true) ⟨o, ho, hc⟩ isSubtype_stop ?_)
  exact wpAny_pure (done _ k)
end
end PySem
namespace Z
open PySem PySem.Spec PyProof.Rows L2 RZ
/-- the pairs of the lists at a and b, counted from c -/
def IteZ (K : PySem.W.Frag) (c : Int) (a b : Addr) : It :=
  ⟨fun i H => ∃ (xs ys : List V) (x y : V), SqL K H a xs ∧ SqL K H b ys ∧ xs[i]? = some x ∧ ys[i]? = some y,
    fun i H v H' => ∃ T U x y, v = .ref U ∧ H T = none ∧ (upd H T (.tup [x, y])) U = none ∧ H' = upd (upd H T (.tup [x, y])) U (.tup [.int (c + (i : Nat)), .ref T]) ∧ (∀ xs, SqL K H a xs → xs[i]? = some x) ∧ ∀ ys, SqL K H b ys → ys[i]? = some y,
    fun i H => ∃ xs ys : List V, SqL K H a xs ∧ SqL K H b ys ∧ (xs.length ≤ i ∨ ys.length ≤ i)⟩
theorem fp_upd {X : Cx} {pins : List (Addr × Obj)} {H : Hp} {b T : Addr} {o : HO} (h : FpOk X pins H b) (n : b ≠ T) : FpOk X pins (upd H T o) b := by
  obtain ⟨h1, h2⟩ := h
  exact ⟨by rw [upd_ne n]; exact h1, h2⟩
theorem turn_ez {P : Program} {w : World} {K : PySem.W.Frag} {elts : List Expr} {kk : Nat} {tpos : Pos} (c : Int) {a b e z TI TO i1 i2 : Addr} (D : ZipApart z TI TO i1 i2 a b) (nz : e ≠ z) (nI : e ≠ TI) (nO : e ≠ TO) (n1 : e ≠ i1) (n2 : e ≠ i2) :
    Turn P w K (.Tuple elts kk tpos) (IteZ K c a b) [e, z, TI, TO, i1, i2] e (fun i h => (∃ old, IsEnum h e z (c + ((i : Nat) : Int)) old) ∧ ZqSt h z TI TO i1 i2 a b i) where
  mem := by simp
  obj := fun i h st q hq => by
    obtain ⟨⟨old, he⟩, ⟨f0, f, hz, _⟩, hTI, ⟨x, y, hTO⟩, ⟨o1, e1, _, d1⟩, ⟨o2, e2, _, d2⟩⟩ := st
    have e' : q = e ∨ q = z ∨ q = TI ∨ q = TO ∨ q = i1 ∨ q = i2 := by simpa using hq
    rcases e' with u | u | u | u | u | u
    · rw [u]; exact ⟨_, he, fun v t => nomatch t⟩
    · rw [u]; exact ⟨_, hz, fun v t => nomatch t⟩
    · rw [u]; exact ⟨_, hTI, fun v t => nomatch t⟩
    · rw [u]; exact ⟨_, hTO, fun v t => nomatch t⟩
    · rw [u]; exact ⟨o1, e1, fun v t => by rw [d1] at t; cases t⟩
    · rw [u]; exact ⟨o2, e2, fun v t => by rw [d2] at t; cases t⟩
  keep := fun i h h' st k => by
    obtain ⟨⟨old, he⟩, ⟨f0, f, hz, hf⟩, hTI, ⟨x, y, hTO⟩, g1, g2⟩ := st
    exact ⟨⟨old, k e (by simp) _ he⟩, ⟨f0, f, k z (by simp) _ hz, hf⟩, k TI (by simp) _ hTI, ⟨x, y, k TO (by simp) _ hTO⟩, g1.at fun o t => k i1 (by simp) o t, g2.at fun o t => k i2 (by simp) o t⟩
  item := by
    intro X hP hw hK hc i pins s σ H E I hf st hg
    subst hP hw hK
    obtain ⟨⟨old, he⟩, zs⟩ := st
    obtain ⟨xs, ys, x, y, hqx, hqy, hx, hy⟩ := hg
    obtain ⟨its, rv, p, _⟩ := I.list hqx
    obtain ⟨its2, rv2, p2, _⟩ := I.list hqy
    obtain ⟨u, hu, ru⟩ := rv.get hx
    obtain ⟨u2, hu2, ru2⟩ := rv2.get hy
    have hel : e < s.heap.objs.size := Heap.lt_size he
    refine ez_next D zs he nz nO n1 n2 p.isList p2.isList (x := u) (y := u2) (by simpa using hu) (by simpa using hu2) fun ha hh tk sta pa sza ka eh th szh kh => ?_
    refine ⟨_, rfl, wpAny_letOwnedTupleGo_enum (s := { s with heap := hh, toks := tk + 1 }) eh fun hi ei si => ?_⟩
    have new1 : ObjOk X.prog X.w (upd H s.heap.objs.size (.tup [x, y])) ha s.heap.objs.size (.tup [x, y]) := ⟨by show 2 ≤ sizeLine; decide, [u, u2], .cons ru (.cons ru2 .nil), ⟨_, pa, rfl, _, rfl⟩⟩
    have I1 : Inv X pins σ (upd H s.heap.objs.size (.tup [x, y])) { s with heap := ha } :=
      I.turnedNew (t' := s.toks) (ch := [z, TO, i1, i2]) (fun q o hb t => ka q o (fun r => hb (by simp [r])) (fun r => hb (by simp [r])) (fun r => hb (by simp [r])) (fun r => hb (by simp [r])) t) (fun q hq => hf q (by
        have : q = z ∨ q = TO ∨ q = i1 ∨ q = i2 := by simpa using hq
        simp only [List.mem_cons, List.not_mem_nil, or_false]
        rcases this with r | r | r | r <;> simp [r])) (Nat.le_refl _) new1
    have hi1 : hi.get? (s.heap.objs.size + 1) = some { cls := .type "tuple", data := .seq #[.int (c + (i : Nat)) tk, .ref s.heap.objs.size] } := (si.2 _ (Nat.ne_of_gt (Nat.lt_succ_of_lt hel))).trans th
    have new2 : ObjOk X.prog X.w (upd (upd H s.heap.objs.size (.tup [x, y])) (s.heap.objs.size + 1) (.tup [.int (c + (i : Nat)), .ref s.heap.objs.size])) hi (s.heap.objs.size + 1) (.tup [.int (c + (i : Nat)), .ref s.heap.objs.size]) :=
      ⟨by show 2 ≤ sizeLine; decide, [.int (c + (i : Nat)) tk, .ref s.heap.objs.size], .cons ⟨_, rfl⟩ (.cons rfl .nil), ⟨_, hi1, rfl, _, rfl⟩⟩
    have I2 : Inv X pins σ (upd (upd H s.heap.objs.size (.tup [x, y])) (s.heap.objs.size + 1) (.tup [.int (c + (i : Nat)), .ref s.heap.objs.size])) { s with heap := hi, toks := tk + 1 } :=
      I1.turnedNew (t' := tk + 1) (h' := hi) (ch := [e]) (fun q o hb t => (si.2 q (fun r => hb (by simp [r]))).trans (kh q o (fun r => hb (by simp [r])) t)) (fun q hq => by
        rw [List.mem_singleton.mp hq]; exact fp_upd (hf e (by simp)) (Nat.ne_of_lt hel)) (by show ha.objs.size ≤ _; rw [sza]; exact Nat.le_refl _) new2
    have hnone : H s.heap.objs.size = none := I.hok.fresh (Nat.le_refl _)
    have hnone1 : H (s.heap.objs.size + 1) = none := I.hok.fresh (Nat.le_succ _)
    obtain ⟨⟨f0, f, az, af⟩, aI, ⟨ax, ay, aO⟩, a1, a2⟩ := sta
    have kz : ∀ q o, q ≠ e → ha.get? q = some o → hi.get? q = some o := fun q o n t => (si.2 q n).trans (kh q o n t)
    refine ⟨.ref (s.heap.objs.size + 1), _, I2, rfl, ⟨_, _, x, y, rfl, hnone, by rw [upd_ne (Nat.succ_ne_self _)]; exact hnone1, rfl, fun l hl => by rw [I.list_inj hl hqx]; exact hx, fun l hl => by rw [I.list_inj hl hqy]; exact hy⟩,
      ⟨⟨_, by have e1 : c + ((i + 1 : Nat) : Int) = c + (i : Int) + 1 := by omega
              rw [e1]; exact ei⟩, ⟨f0, f, kz _ _ nz.symm az, af⟩, kz _ _ nI.symm aI, ⟨ax, ay, kz _ _ nO.symm aO⟩, a1.at fun o t => kz _ o n1.symm t, a2.at fun o t => kz _ o n2.symm t⟩, fun q hq => ?_⟩
    have hlt : q < s.heap.objs.size := by
      obtain ⟨⟨_, _, gz, _⟩, gI, ⟨_, _, gO⟩, ⟨_, g1, _⟩, ⟨_, g2, _⟩⟩ := zs
      have e' : q = e ∨ q = z ∨ q = TI ∨ q = TO ∨ q = i1 ∨ q = i2 := by simpa using hq
      rcases e' with r | r | r | r | r | r
      · rw [r]; exact hel
      · rw [r]; exact Heap.lt_size gz
      · rw [r]; exact Heap.lt_size gI
      · rw [r]; exact Heap.lt_size gO
      · rw [r]; exact Heap.lt_size g1
      · rw [r]; exact Heap.lt_size g2
    rw [upd_ne (Nat.ne_of_lt (Nat.lt_succ_of_lt hlt)), upd_ne (Nat.ne_of_lt hlt)]
    exact (hf q hq).1
  done := by
    intro X hP hw hK hc i pins s σ H E I hf st hg
    subst hP hw hK
    obtain ⟨⟨old, he⟩, zs⟩ := st
    obtain ⟨xs, ys, hqx, hqy, hend⟩ := hg
    obtain ⟨its, rv, p, _⟩ := I.list hqx
    obtain ⟨its2, rv2, p2, _⟩ := I.list hqy
    have l1 := rv.length
    have l2 := rv2.length
    have hstop : its.toArray[i]? = none ∨ its2.toArray[i]? = none := by
      rcases hend with q | q
      · exact .inl (by simp; omega)
      · exact .inr (by simp; omega)
    exact ez_stop (show X.A.in1.handled = none from I.ok.hd hc) D zs he p.isList p2.isList hstop fun h' hk => ⟨rfl, I.turnedL (t' := s.toks) (ch := [e, z, TI, TO, i1, i2]) (fun q o hb t =>
      hk q o (fun r => hb (by simp [r])) (fun r => hb (by simp [r])) (fun r => hb (by simp [r])) (fun r => hb (by simp [r])) t) hf⟩
  self := fun A i s Q E st h => let ⟨⟨_, he⟩, _⟩ := st; wpAny_pyIter_enum he h
end Z

set_option Elab.async false
set_option linter.all false
set_option maxRecDepth 100000
set_option maxHeartbeats 4000000
/-! enumerate(zip(xs, ys), start): the call -/
namespace PySem
open Sem (wp)
theorem ez_meets (z TI TO : Addr) (k : Int) (t : Tok) (hfit : Builtin.SmallTypes.fitsIndex k = true) :
    Meets (Builtin.«enumerate.__new__» ⟨[.type "enumerate", .ref z, .int k t], []⟩) (fun _ R s => IsZip s.heap z TI TO .none ∧
      R (.ok (.ret (.ref s.heap.objs.size))) { s with heap := s.heap.push { cls := .type "enumerate", data := .fields #[.none, .bool false, .ref z, rawInt k, .none, .none] } }) :=
  .of_wp fun prog w A R s h => by
    obtain ⟨hp, g, d, tk, os⟩ := s; obtain ⟨h1, h⟩ := h
    have hsub := sub_enumerate
    have hnf : (!Builtin.SmallTypes.fitsIndex k) = false := by rw [hfit]; rfl
    have q1 : ∀ {A' : Around} {E : Value → Shared → Prop} {Q : Value → Shared → Prop}, Q (.ref z) ⟨hp, g, d, tk, os⟩ → wpAny (model prog w) A' (pyIter (.ref z)) Q E ⟨hp, g, d, tk, os⟩ :=
      fun q => wpAny_pyIter_zip (s := ⟨hp, g, d, tk, os⟩) h1 q
    wp_walk using q1
    refine wpAny_stack_any fun st => wpAny_pure ?_
    split
    · rename_i c _ _ _ _ _
      cases (c == Value.type "enumerate")
      · wp_walk using q1
        exact ⟨_, rfl, h⟩
      · wp_walk using q1
        exact ⟨_, rfl, h⟩
    · wp_walk using q1
      exact ⟨_, rfl, h⟩
section
variable {prog : Program} {w : World} {A : Around} {E : Value → Shared → Prop} {s : Shared}
theorem ez_call {z TI TO : Addr} {k : Int} {t : Tok} {Q : Value → Shared → Prop} (h1 : IsZip s.heap z TI TO .none) (hk0 : -(2 ^ 63) ≤ k) (hk1 : k < 2 ^ 63)
    (h : ∀ h', IsEnum h' s.heap.objs.size z k .none → (∀ b o, s.heap.get? b = some o → h'.get? b = some o) → Q (.ref s.heap.objs.size) { s with heap := h' }) :
    wpAny (model prog w) A (call (.type "enumerate") [.ref z, .int k t]) Q E s := by
  refine callType_new F.called_enumerate (by decide) (F.typeCall_enumerate_2 _ _) (F.newCall_enumerate_2 _ _) (fun obj => F.args_object_init_3 obj _ _) F.entry_enumerate_new (ez_meets z TI TO k t (fits_start hk0 hk1)) ⟨h1, ?_⟩
  have he : IsEnum (s.heap.push { cls := .type "enumerate", data := .fields #[.none, .bool false, .ref z, rawInt k, .none, .none] }) s.heap.objs.size z k .none := Heap.get?_push_size s.heap rfl
  exact ⟨⟨_, he, rfl⟩, h _ he fun b o x => Heap.get?_push_of_some _ x⟩
end
end PySem
namespace Z
open PySem PySem.Spec PyProof.Rows L2 RZ
def iEz (K : PySem.W.Frag) (c : Int) (ta : TA) : TI := fun σ H R => ta σ H fun vs H1 => ∃ a b xs ys, vs = [.ref a, .ref b] ∧ SqL K H1 a xs ∧ SqL K H1 b ys ∧ R (IteZ K c a b) H1
theorem pi_ez {X : Cx} {e e2 : Expr} {ta : TA} {p p2 pos pos2 pos3 tpos : Pos} {elts : List Expr} {kk : Nat} {c : Int} {j : Nat} (hg : Gl X "enumerate") (hm : X.mg "enumerate" = none) (hg2 : Gl X "zip") (hm2 : X.mg "zip" = none) (ha : PA X [e, e2] ta) (hc0 : -(2 ^ 62) ≤ c) (hc1 : c < 2 ^ 62)
    (hs : starEach [e, e2] X.env = (false, eval e X.env) :: starEach [e2] X.env := by rfl) (hpl : (backTo pos2 (starEach [e2] X.env)).any (·.1) = false := by rfl)
    (hs3 : starEach [.Call (.Name "zip" p2) [e, e2] [] pos2, .Constant (.int c) j pos3] X.env = (false, eval (.Call (.Name "zip" p2) [e, e2] [] pos2) X.env) :: starEach [.Constant (.int c) j pos3] X.env := by rfl)
    (hs4 : backTo pos (starEach [.Constant (.int c) j pos3] X.env) = [(false, eval (.Constant (.int c) j pos3) X.env)] := by rfl)
    (hpl2 : (backTo pos (starEach [.Constant (.int c) j pos3] X.env)).any (·.1) = false := by rfl) :
    PI X (.Tuple elts kk tpos) (.Call (.Name "enumerate" p) [.Call (.Name "zip" p2) [e, e2] [] pos2, .Constant (.int c) j pos3] [] pos) (iEz X.K c ta) := by
  refine ⟨fun pins s σ H R I h => ?_⟩
  refine Call_ (ld_blt I hg hm boot_enumerate (PyProof.Rows.callWith_type1 ?_ hs3 hpl2))
  rw [hs3]
  show wpAny _ _ (spliced ((false, eval (.Call (.Name "zip" p2) [e, e2] [] pos2) X.env) :: backTo pos (starEach [.Constant (.int c) j pos3] X.env))) _ _ s
  refine Calls.spliced_cons (Call_ (ld_blt I hg2 hm2 PyProof.Rows.boot_zip (PyProof.Rows.callWith_type1 (thn (ha.run pos2 pins s σ H _ I h) fun us s1 ⟨vs, H1, I1, r1, q1⟩ => ?_) hs hpl)))
  obtain ⟨a, b, xs, ys, ev, hqx, hqy, q⟩ := q1
  subst ev
  cases r1 with
  | cons r rr =>
    cases rr with
    | cons r' rr =>
      cases rr
      cases r
      cases r'
      obtain ⟨its, rv, p1, _⟩ := I1.list hqx
      obtain ⟨its2, rv2, p2', _⟩ := I1.list hqy
      refine call_zip_2 p1.isList p2'.isList fun h' hz hTI hTO h1 h2 hsz hk => ?_
      rw [hs4]
      refine Calls.spliced_cons (wpAny_Constant_int (Calls.spliced_nil ?_))
      have I2 : Inv X pins σ H1 { s1 with heap := h' } := I1.kept (t' := s1.toks) hk
      have I3 := I2.tok (s1.toks + 1)
      refine ez_call (s := { s1 with heap := h', toks := s1.toks + 1 }) hz (by omega) (by omega) fun h'' he hk2 => wpAny_pyIter_enum he ?_
      have I4 : Inv X pins σ H1 { s1 with heap := h'', toks := s1.toks + 1 } := I3.kept (t' := s1.toks + 1) hk2
      have e5 : h'.objs.size = s1.heap.objs.size + 5 := hsz
      have la : a < s1.heap.objs.size := p1.lt
      have lb : b < s1.heap.objs.size := p2'.lt
      refine ⟨h'.objs.size, [h'.objs.size, s1.heap.objs.size + 4, s1.heap.objs.size + 2, s1.heap.objs.size + 3, s1.heap.objs.size, s1.heap.objs.size + 1], _, _, H1, rfl, I4,
        turn_ez c (PySem.W.ktu_apart s1.heap.objs.size a b la lb) (Nat.ne_of_gt (by rw [e5]; exact Nat.lt_add_of_pos_right (by decide : 0 < 1))) (Nat.ne_of_gt (by rw [e5]; exact Nat.add_lt_add_left (by decide) _)) (Nat.ne_of_gt (by rw [e5]; exact Nat.add_lt_add_left (by decide) _)) (Nat.ne_of_gt (by rw [e5]; exact Nat.lt_add_of_pos_right (by decide))) (Nat.ne_of_gt (by rw [e5]; exact Nat.add_lt_add_left (by decide) _)),
        ⟨⟨.none, by simpa using he⟩, ⟨.none, false, hk2 _ _ hz, .inl rfl⟩, hk2 _ _ hTI, ⟨_, _, hk2 _ _ hTO⟩, h1.at fun o t => hk2 _ o t, h2.at fun o t => hk2 _ o t⟩, fun d hd => ?_, q⟩
      have e' : d = h'.objs.size ∨ d = s1.heap.objs.size + 4 ∨ d = s1.heap.objs.size + 2 ∨ d = s1.heap.objs.size + 3 ∨ d = s1.heap.objs.size ∨ d = s1.heap.objs.size + 1 := by simpa using hd
      have hle : s1.heap.objs.size ≤ d := by
        rcases e' with u | u | u | u | u | u
        · rw [u, e5]; exact Nat.le_add_right _ _
        · rw [u]; exact Nat.le_add_right _ _
        · rw [u]; exact Nat.le_add_right _ _
        · rw [u]; exact Nat.le_add_right _ _
        · rw [u]; exact Nat.le_refl _
        · rw [u]; exact Nat.le_add_right _ _
      exact I1.fpOk hle (I1.hok.fresh hle)
/-- the pairs counted -/
def iEnZ (c : Int) (t : TAD) : TID := fun wd ρ S k => t wd ρ S fun ds S1 => match ds with
  | [d, e] => (match vl S1 d, vl S1 e with | some xs, some ys => xs.length ≤ sizeLine ∧ k (enm c (zpd xs ys)) (fun S => grd d xs S ∧ grd e ys S) S1 | _, _ => False)
  | _ => False
theorem pid_enumZ {X : Cx} {wd : WD} {elts : List Expr} {kk j : Nat} {tpos p p2 pos pos2 pos3 : Pos} {t : TAD} {e e2 : Expr} {c : Int} (hm : X.mg "enumerate" = none) (hm2 : X.mg "zip" = none) (ha : PAD X wd [e, e2] t) (hc0 : -(2 ^ 62) ≤ c := by decide) (hc1 : c < 2 ^ 62 := by decide) (hg : Gl X "enumerate" := by rfl) (hg2 : Gl X "zip" := by rfl)
    (hs : starEach [e, e2] X.env = (false, eval e X.env) :: starEach [e2] X.env := by rfl) (hpl : (backTo pos2 (starEach [e2] X.env)).any (·.1) = false := by rfl)
    (hs3 : starEach [.Call (.Name "zip" p2) [e, e2] [] pos2, .Constant (.int c) j pos3] X.env = (false, eval (.Call (.Name "zip" p2) [e, e2] [] pos2) X.env) :: starEach [.Constant (.int c) j pos3] X.env := by rfl)
    (hs4 : backTo pos (starEach [.Constant (.int c) j pos3] X.env) = [(false, eval (.Constant (.int c) j pos3) X.env)] := by rfl)
    (hpl2 : (backTo pos (starEach [.Constant (.int c) j pos3] X.env)).any (·.1) = false := by rfl) :
    PID X wd (.Tuple elts kk tpos) (.Call (.Name "enumerate" p) [.Call (.Name "zip" p2) [e, e2] [] pos2, .Constant (.int c) j pos3] [] pos) (iEnZ c t) := by
  refine ⟨_, pi_ez hg hm hg2 hm2 ha.pa hc0 hc1 hs hpl hs3 hs4 hpl2, fun σ H F ρ S k P r h hP => ⟨F, ρ, S, _, r, h, fun F1 vs H1 ds S1 g1 r1 rs q => ?_⟩⟩
  split at q
  · rename_i d d'
    obtain ⟨v, w, rfl, rd, re⟩ := rs.two
    split at q
    · rename_i xs ys hl hl'
      obtain ⟨a, e, hk⟩ := keep_l r1.h rd hl
      obtain ⟨b, e', hk'⟩ := keep_l r1.h re hl'
      subst e e'
      obtain ⟨vs, h1, h2⟩ := hk F1 H1 S1 (Evl.Ex.refl _) r1.h (grdS hl)
      obtain ⟨ws, h1', h2'⟩ := hk' F1 H1 S1 (Evl.Ex.refl _) r1.h (grdS hl')
      refine ⟨a, b, vs, ws, rfl, h1, h1', hP _ H1 F1 _ _ S1 g1 r1 ?_ (by rw [enm_length, zpd_length]; have := q.1; omega) q.2⟩
      intro F' H' S' i ex r ⟨g, g'⟩
      obtain ⟨us, h1, h2⟩ := hk F' H' S' ex r g
      obtain ⟨ws, h1', h2'⟩ := hk' F' H' S' ex r g'
      refine ⟨fun hi => ⟨us, ws, h1, h1', by rw [h2.length, h2'.length]; rw [enm_length, zpd_length] at hi; omega⟩, fun d hd => ?_⟩
      obtain ⟨u, e0, e2⟩ := enm_get c (zpd xs ys) i d hd
      obtain ⟨x, y, e1, e1', e3⟩ := zpd_get xs ys i u e0
      obtain ⟨v, q1, q2⟩ := h2.get e1
      obtain ⟨w, q1', q2'⟩ := h2'.get e1'
      refine ⟨⟨us, ws, v, w, h1, h1', q1, q1'⟩, fun z H2 ⟨T, U, x2, y2, ez, hT, hU, eH, hx, hy⟩ => ?_⟩
      have := hx us h1
      rw [q1] at this
      cases this
      have := hy ws h1'
      rw [q1'] at this
      cases this
      subst ez eH e2 e3
      obtain ⟨F2, g2, r2, rd2⟩ := newTup r (Rs.cons q2 (Rs.cons q2' Rs.nil)) hT
      obtain ⟨F3, g3, r3, rd3⟩ := newTup r2 (Rs.cons (d := .int (c + (i : Nat))) (v := .int (c + (i : Nat))) (by unfold R; rfl) (Rs.cons rd2 Rs.nil)) hU
      exact ⟨F3, g2.trans g3, r3, rd3⟩
    · exact q.elim
  · exact q.elim
end Z

set_option Elab.async false
set_option linter.all false
set_option maxRecDepth 100000
set_option maxHeartbeats 4000000
/-! try: body, except C: suite -/
namespace Z
open PySem PySem.Spec PyProof.Rows L2 PySem.ZX PySem.W
def tryO (ms : List (Addr × Bool)) (ts : TSD) (wd : WD) (E : EndsD) : Addr → D → Envd → Sto → Prop := fun C x ρ S =>
  ∃ b, (C, b) ∈ ms ∧ (b = true → ∀ F H, ts ⟨wdOut, F, H, S⟩ E ρ S) ∧ (b = false → wd.f C x ρ S)
def dTryO (ms : List (Addr × Bool)) (tb : TSD) (ts : TSD) : TSD := fun wd E ρ S => ∀ F H, tb ⟨tryO ms ts wd E, F, H, S⟩ E ρ S
def tsOK (K : Frag) (ts : TSD) (_ : Addr) (_ : Value) (_ : Option Addr) : TS := fun Dn σ H => ∃ wd, liftS K wd (ts wd) Dn σ H
section
variable {X : Cx} {wd : WD} {x : Str} {c : Addr} {body suite : List Stmt} {b₀ : Stmt} {np pos pos' : Pos} {tb : TSD} {ts : TSD} {ms : List (Addr × Bool)}
theorem psd_try_only (hs : X.stack = X.env :: X.outer) (hf : X.env.frame = some X.env.locals) (hc : Names X x (.ref c)) (hm : ExM X.K c ms) (tk : TkD X wd)
    (hb : ∀ (wd' : WD) (pn : List (Addr × Obj)) (xe : Value → Shared → Prop), TkD (X.tr pn xe) wd' → PassesOwn (model X.prog X.w) X.A X.env xe → PSsD (X.tr pn xe) wd' body tb)
    (hsu : ∀ (a : Addr) (oe : Obj) (pn : List (Addr × Obj)) (wd' : WD), PSsD (X.suite a ((a, oe) :: pn)) wd' (b₀ :: suite) ts) :
    PSD X wd (.Try body [.ExceptHandler (some (.Name x np)) none (b₀ :: suite) pos'] [] [] pos) (dTryO ms tb ts) := by
  refine PS.psd (ps_try_only (tb := tbK X.K tb) (ts := tsOK X.K ts) (c := .ref c) hs hf hc tk (fun W pn xe tk' hp => ⟨fun pins s σ H Dn I ⟨wd', sub, hl⟩ => (hb wd' pn xe (Takes.imp tk' sub) hp).pss.run pins s σ H Dn I hl⟩)
    (fun a oe cls d pn hz hfl => ⟨fun pins s σ H Dn I ⟨wd', hl⟩ => (hsu a oe pn wd').pss.run pins s σ H Dn I hl⟩)) fun σ H F ρ S E r h => ?_
  refine ⟨⟨tryO ms ts wd E, F, H, S⟩, fun cls d σ1 H1 ⟨F1, ρ1, S1, C, xx, ec, r1, fl, b, hmem, h1, h2⟩ => ?_, F, ρ, S, E, r.wd Go.refl, h F H, ?_, ?_, ?_, ?_⟩
  · have g1 : Go F H S F1 H1 S1 := r1.go
    subst ec
    refine ⟨b, hm.m _ hmem, fun hb a ha => ?_, fun hb => ⟨F1, ρ1, S1, C, xx, rfl, r1.wd (r.go.trans g1), fl, h2 hb⟩⟩
    refine ⟨⟨wdOut, F1, H1, S1⟩, F1, ρ1, S1, E, r1.wd Go.refl, h1 hb F1 H1, ?_, ?_, ?_, ?_⟩
    · exact fun F2 σ2 H2 ρ2 S2 g2 r2 q => ⟨F2, _, S2, g1.trans g2, r2.wd (r.go.trans (g1.trans g2)), q⟩
    · exact fun F2 σ2 H2 ρ2 S2 g2 r2 q => ⟨F2, _, S2, g1.trans g2, r2.wd (r.go.trans (g1.trans g2)), q⟩
    · exact fun F2 σ2 H2 ρ2 S2 g2 r2 q => ⟨F2, _, S2, g1.trans g2, r2.wd (r.go.trans (g1.trans g2)), q⟩
    · exact fun F2 v H2 d2 S2 g2 r2 rd q => ⟨F2, d2, S2, g1.trans g2, r2, rd, q⟩
  · exact fun F2 σ2 H2 ρ2 S2 g2 r2 q => ⟨F2, ρ2, S2, g2, r2.wd (r.go.trans g2), q⟩
  · exact fun F2 σ2 H2 ρ2 S2 g2 r2 q => ⟨F2, ρ2, S2, g2, r2.wd (r.go.trans g2), q⟩
  · exact fun F2 σ2 H2 ρ2 S2 g2 r2 q => ⟨F2, ρ2, S2, g2, r2.wd (r.go.trans g2), q⟩
  · exact fun F2 v H2 d2 S2 g2 r2 rd q => ⟨F2, d2, S2, g2, r2, rd, q⟩
end
end Z

set_option Elab.async false
set_option linter.all false
set_option maxRecDepth 100000
set_option maxHeartbeats 4000000
/-! the parts of a tuple or list are frozen -/
namespace Z
open PySem PySem.Spec PyProof.Rows L2
def frzA : List D → Sto → (List D → Sto → Prop) → Prop
  | [], S, k => k [] S
  | .adr p :: ds, S, k => match S p with
    | some u => frzA ds (sdel S p) fun es S' => k (u.toD :: es) S'
    | none => False
  | d :: ds, S, k => frzA ds S fun es S' => k (d :: es) S'
def frzTK (k : KD) : KD := fun d S => match d with
  | .tup ds => frzA ds S fun es S' => k (.tup es) S'
  | .lst ds => frzA ds S fun es S' => k (.lst es) S'
  | .adr p => (match S p with
    | some (.lst ds) => frzA ds (sdel S p) fun es S' => k (.lst es) S'
    | _ => False)
  | d => k d S
def dFrzT (t : TD) : TD := fun wd ρ S k => t wd ρ S (frzTK k)
theorem SqT_mono {K : PySem.W.Frag} {F F' : Hp} (e : Ex F F') {a : Addr} {vs : List V} (h : SqT K F a vs) : SqT K F' a vs := Evl.ex_t e h
theorem frzA_run {K : PySem.W.Frag} {H : Hp} : ∀ {ds : List D} {F : Hp} {S : Sto} {vs : List V} {k : List D → Sto → Prop}, RelH K F H S → Rs K F ds vs → frzA ds S k → ∃ F' S' es, Go F H S F' H S' ∧ RelH K F' H S' ∧ Rs K F' es vs ∧ k es S'
  | [], F, S, vs, k, r, rs, h => ⟨F, S, [], Go.refl, r, rs, h⟩
  | d :: ds, F, S, vs, k, r, rs, h => by
    obtain ⟨v, vs', rfl, rd, rs'⟩ := rs
    have keep : (frzA ds S fun es S' => k (d :: es) S') → ∃ F' S' es, Go F H S F' H S' ∧ RelH K F' H S' ∧ Rs K F' es (v :: vs') ∧ k es S' := fun h => by
      obtain ⟨F2, S2, es, g2, r2, rs2, h2⟩ := frzA_run r rs' h
      exact ⟨F2, S2, d :: es, g2, r2, Rs.cons (R.mono g2.ex _ _ rd) rs2, h2⟩
    cases d with
    | adr p =>
      unfold frzA at h
      split at h
      · rename_i u hu
        unfold R at rd
        subst rd
        obtain ⟨F2, g2, r2, ru⟩ := r.frz hu
        obtain ⟨F3, S3, es, g3, r3, rs3, h3⟩ := frzA_run r2 (Rs.mono g2.ex _ _ rs') h
        exact ⟨F3, S3, u.toD :: es, g2.trans g3, r3, Rs.cons (R.mono g3.ex _ _ ru) rs3, h3⟩
      · exact h.elim
    | _ => exact keep h
theorem pd_frzT {X : Cx} {wd : WD} {e : Expr} {t : TD} (h : PD X wd e t) : PD X wd e (dFrzT t) := by
  refine ⟨fun pins s σ H F ρ S k I r hw => thn (h.run pins s σ H F ρ S _ I r hw) fun u s1 ⟨v, H1, F1, d, S1, I1, rv, e1, q1, rd, hk⟩ => ?_⟩
  cases d with
  | tup ds =>
    unfold frzTK at hk
    unfold R at rd
    obtain ⟨a, vs, e0, hS, rs⟩ := rd
    obtain ⟨F2, S2, es, g2, r2, rs2, h2⟩ := frzA_run q1.h rs hk
    refine ⟨v, H1, F2, _, S2, I1, rv, e1.trans g2, q1.up g2 r2, ?_, h2⟩
    unfold R
    exact ⟨a, vs, e0, SqT_mono g2.ex hS, rs2⟩
  | lst ds =>
    unfold frzTK at hk
    unfold R at rd
    obtain ⟨a, vs, e0, hS, rs⟩ := rd
    obtain ⟨F2, S2, es, g2, r2, rs2, h2⟩ := frzA_run q1.h rs hk
    refine ⟨v, H1, F2, _, S2, I1, rv, e1.trans g2, q1.up g2 r2, ?_, h2⟩
    unfold R
    exact ⟨a, vs, e0, g2.ex _ _ hS, rs2⟩
  | adr p =>
    unfold frzTK at hk
    dsimp only at hk
    split at hk
    · rename_i ds hp
      unfold R at rd
      subst rd
      obtain ⟨F2, g2, r2, ru⟩ := q1.h.frz hp
      unfold DO.toD at ru
      dsimp only at ru
      unfold R at ru
      obtain ⟨a, vs, e0, hS, rs⟩ := ru
      obtain ⟨F3, S3, es, g3, r3, rs3, h3⟩ := frzA_run r2 rs hk
      refine ⟨_, H1, F3, _, S3, I1, rv, (e1.trans g2).trans g3, q1.up (g2.trans g3) r3, ?_, h3⟩
      unfold R
      exact ⟨a, vs, e0, g3.ex _ _ hS, rs3⟩
    · exact hk.elim
  | _ => exact ⟨v, H1, F1, _, S1, I1, rv, e1, q1, rd, hk⟩
end Z

set_option Elab.async false
set_option linter.all false
set_option maxRecDepth 100000
set_option maxHeartbeats 4000000
/-! len(set(..)) -/
namespace Z
open PySem PySem.Spec PyProof.Rows L2
def cntI (ns : List Int) : Nat := (PyProof.Rows.firstMet (fun i => ns.getD i 0) ns.length).length
def tLenSetG (K : PySem.W.Frag) (ta : TE) : TE := fun σ H Q => ta σ H fun x H1 => ∃ (l : Addr) (ns : List Int), x = .ref l ∧ SqL K H1 l (ns.map V.int) ∧ ns.length ≤ 4000 ∧ Q (.int (cntI ns)) H1
theorem pe_lenSetG {X : Cx} {a : Expr} {ta : TE} {p p2 q pos : Pos} (hg : Gl X "len") (hm : X.mg "len" = none) (hg2 : Gl X "set") (hm2 : X.mg "set" = none) (ha : PE X a ta) (hc : X.calm = true := by rfl)
    (na : starEach [a] X.env = (false, eval a X.env) :: starEach [] X.env := by rfl) : PE X (.Call (.Name "len" p) [.Call (.Name "set" p2) [a] [] q] [] pos) (tLenSetG X.K ta) := by
  refine ⟨fun pins s σ H Q I h => ?_⟩
  refine Call_ (ld_blt I hg hm boot_len ?_)
  refine PyProof.Rows.callWith_builtin1 (PyProof.Rows.args_cons ?_ rfl) rfl rfl
  refine Call_ (ld_blt I hg2 hm2 boot_set ?_)
  refine PyProof.Rows.callWith_type1 (PyProof.Rows.args_cons (thn (ha.run pins s σ H _ I h) fun v s1 ⟨x, H1, I1, r1, q1⟩ => PyProof.Rows.args_nil ?_) na) na rfl
  obtain ⟨l, ns, rfl, hq, hl, q1⟩ := q1
  cases r1
  obtain ⟨its, r, pl, hz⟩ := I1.list hq
  have hlen : its.toArray.size = ns.length := by rw [List.size_toArray, ← r.length, List.length_map]
  refine call_set_list (I1.ok.hd hc) pl.isList (by simpa using RZ.intsAre_vals r) (by rw [hlen]; unfold scanBound; omega) fun h' tk hS hk => ?_
  refine PyProof.Rows.args_nil ?_
  rw [hlen] at hS
  obtain ⟨o, es, ep, t, ho, hex, hd, _, _, _, hf, hn⟩ := hS
  have hle := PyProof.Rows.firstMet_length_le (fun i => ns.getD i 0) ns.length
  have I2 : Inv X pins σ H1 { s1 with heap := h', toks := tk } := I1.kept fun b o e => hk b o (Heap.lt_size e) e
  exact call_len_set ho hex hd hf (by rw [hn] <;> omega) ⟨.int (cntI ns), H1, I2.tok _, ⟨_, by rw [hn]; rfl⟩, q1⟩
def dLenSet (t : TD) : TD := fun wd ρ S k => t wd ρ S fun d S1 => onInts (fun ns S k => ns.length ≤ 4000 ∧ k (.int (cntI ns)) S) [d] S1 k
theorem pd_lenSet {X : Cx} {wd : WD} {e : Expr} {t : TD} {p p2 q pos : Pos} (hm : X.mg "len" = none) (hm2 : X.mg "set" = none) (h : PD X wd e t) (hg : Gl X "len" := by exact rfl) (hg2 : Gl X "set" := by exact rfl) (hc : X.calm = true := by rfl)
    (na : starEach [e] X.env = (false, eval e X.env) :: starEach [] X.env := by rfl) : PD X wd (.Call (.Name "len" p) [.Call (.Name "set" p2) [e] [] q] [] pos) (dLenSet t) := by
  refine PE.pd (pe_lenSetG hg hm hg2 hm2 h.pe hc na) fun σ H F ρ S k r hw => ?_
  refine ⟨F, ρ, S, _, r, hw, fun F1 x H1 d S1 g1 r1 rd q => ?_⟩
  obtain ⟨l, ns, e0, hq, hl, q2⟩ := onInts_at r1.h (Rs.cons rd Rs.nil) q
  cases e0
  exact ⟨l, ns, rfl, hq, hl, F1, _, S1, g1, r1, by unfold R; rfl, q2⟩
theorem cnt_one {ns : List Int} {x : Int} (hne : ns ≠ []) (h : ∀ y ∈ ns, y = x) : cntI ns = 1 := by
  have key : ∀ k, k ≤ ns.length → 1 ≤ k → PyProof.Rows.firstMet (fun i => ns.getD i 0) k = [x] := by
    intro k
    induction k with
    | zero => intro _ h0; omega
    | succ k ih =>
      intro hk _
      have e : ns.getD k 0 = x := by
        rw [List.getD_eq_getElem?_getD, List.getElem?_eq_getElem (by omega)]
        exact h _ (List.getElem_mem _)
      rw [PyProof.Rows.firstMet_succ]
      by_cases h0 : k = 0
      · subst h0
        show (if ([] : List Int).any (· == ns.getD 0 0) then [] else [] ++ [ns.getD 0 0]) = [x]
        rw [e]
        rfl
      · have := ih (by omega) (by omega)
        rw [this]
        show (if [x].any (· == ns.getD k 0) then [x] else [x] ++ [ns.getD k 0]) = [x]
        rw [e]
        simp
  have hl : 1 ≤ ns.length := List.length_pos_iff.mpr hne
  unfold cntI
  rw [key ns.length (Nat.le_refl _) hl]
  rfl
end Z

set_option Elab.async false
set_option linter.all false
set_option maxRecDepth 100000
set_option maxHeartbeats 4000000
/-! x == [] -/
namespace Z
open PySem PySem.Spec PyProof.Rows L2
def fEqE (d e : D) (S : Sto) (k : KD) : Prop := ∃ xs, vl S d = some xs ∧ (∀ ys, d ≠ .frl ys) ∧ e = .lst [] ∧ k (.bl xs.isEmpty) S
theorem od_eqE {X : Cx} {kk : Nat} (hr : Rm kk X.A) : OpD X (compareOp .Eq) fEqE := by
  intro F H S x y d e k Q rh rd re h hk
  obtain ⟨xs, h1, hnf, rfl, h⟩ := h
  by_cases hx : xs = []
  · subst hx
    refine od_eq hr F H S x y d (.lst []) k Q rh rd re ?_ hk
    have ht : tr S d = .lst [] := by
      cases d with
      | lst ys => unfold vl at h1; dsimp only at h1; cases h1; rfl
      | adr p =>
        unfold vl at h1
        dsimp only at h1
        split at h1
        · rename_i ys q
          cases h1
          show (match S p with | some u => u.toD | none => .adr p) = _
          rw [q]; rfl
        · cases h1
      | frl ys => exact absurd rfl (hnf ys)
      | _ => cases h1
    have hp : pln 60 (.lst []) := by unfold pln; intro x hx; cases hx
    unfold fEq
    rw [ht, tr_pln hp]
    exact ⟨hp, hp, h⟩
  · obtain ⟨a, ws, e0, hq, rs⟩ := vl_at rh rd h1
    have h2 : vl S (.lst []) = some [] := rfl
    obtain ⟨b, ws2, e2, hq2, rs2⟩ := vl_at rh re h2
    unfold Rs at rs2
    subst rs2
    have hws : ws ≠ [] := fun e => by
      rw [e] at rs
      have := rs.length
      rw [List.length_nil] at this
      exact hx (List.length_eq_zero_iff.mp this.symm)
    have hb : xs.isEmpty = false := by cases xs with | nil => exact absurd rfl hx | cons _ _ => rfl
    rw [hb] at h
    refine ⟨fun x y H Q => ∃ a b ws, x = V.ref a ∧ y = V.ref b ∧ SqL X.K H a ws ∧ SqL X.K H b [] ∧ ws ≠ [] ∧ Q (.bl false) H, ?_, a, b, ws, e0, e2, hq, hq2, hws, hk F _ H (.bl false) S Go.refl rh (by unfold R; rfl) h⟩
    intro pins s σ H x y v u Q I rx ry ⟨a, b, ws, e1, e2, ha, hb, hne, q⟩
    subst e1 e2
    cases rx
    cases ry
    obtain ⟨its, r, pl, hz⟩ := I.list ha
    obtain ⟨its2, r2, pl2, hz2⟩ := I.list hb
    have := units_of hr
    have hl1 := r.length
    have hl2 := r2.length
    have hpos : 0 < ws.length := List.length_pos_iff.mpr hne
    refine PySem.SeqAt.eq_list_lengthsAt pl.isList pl2.isList ?_ (by omega) ⟨.bl false, H, I, rfl, q⟩
    simp only [List.size_toArray]
    rw [← hl1, ← hl2, List.length_nil]
    simp
    omega
end Z

set_option Elab.async false
set_option linter.all false
set_option maxRecDepth 100000
set_option maxHeartbeats 4000000
/-! sorted(set(..)) of a list of ints -/
namespace Z
open PySem PySem.Spec PyProof.Rows L2
section
variable {P : Program} {w : World} {A : Around} {E : Value → Shared → Prop} {s : Shared}
abbrev O0 (w : World) : Obj := { cls := .type "set", dict := none, data := .set #[] 0 (.fresh 0 0 (!w.params.followText "set-order")) }
theorem set_listR {l : Addr} {items : Array Value} (ns : List Int) {Q : Value → Shared → Prop} (hh : A.handled = none) (hl : s.heap.IsList l items) (hit : IntsAre items.toList ns) (hb : ns.length + 1 < scanBound)
    (h : ∀ (h' : Heap) (tk c : Nat), SetR w h' s.heap.objs.size (fun j => decide (j ∈ ns)) c → c ≤ ns.length → (∀ b o, s.heap.get? b = some o → h'.get? b = some o) → Q (.ref s.heap.objs.size) { s with heap := h', toks := tk }) :
    wpAny (model P w) A (call (.type "set") [.ref l]) Q E s := by
  have size : items.size = ns.length := (Array.length_toList (xs := items)).symm.trans (IntsAre.length hit)
  obtain ⟨_, _, hmro⟩ := F.called_set.mro
  have m1 := F.called_set.made
  have m2 := F.called_set.sub
  have m3 := F.called_set.notType
  have m4 := F.called_set.canCreate
  have m5 := F.typeCall_set_1 (.ref l)
  refine wpAny_call (codeAny_of_tree ?_)
  show wpAny _ _ (callAny (.type "set") _) _ _ _
  refine wpAny_pure ⟨Code.quiet_builtin _ (by decide +kernel), codeAny_builtin F.entry_type_call ?_⟩
  rw [Around.under_plain (weight_type_call_type "set" [.ref l] []) rfl]
  repeat (any_goals (first | assumption | wp_step))
  refine codeAny_mono (code_set_led1 (.ref l) (E := E) (Q₁ := fun x t => x = .ref s.heap.objs.size ∧ t = { s with heap := s.heap.push (O0 w) }) ⟨rfl, rfl⟩) fun r t hr => ?_
  match r, hr with
  | .error e, hr => exact hr
  | .ok .next, hr => exact hr.elim
  | .ok .brk, hr => exact hr.elim
  | .ok .cont, hr => exact hr.elim
  | .ok (.ret x), hr =>
    obtain ⟨rfl, rfl⟩ := hr
    have there : (s.heap.push (O0 w)).get? s.heap.objs.size = some (O0 w) := Heap.get?_push_size _ rfl
    have ty : Shared.TypeIs { s with heap := s.heap.push (O0 w) } (.ref s.heap.objs.size) "set" := ⟨_, there, rfl⟩
    have i1 := F.called_set.init.lookup
    have i2 := F.called_set.init.bind (.ref s.heap.objs.size)
    repeat (any_goals (first | assumption | wp_step))
    refine codeAny_mono (codeAny_call_builtin (R := wants (fun x t => x = .none ∧ ∃ h' tk c, t = { s with heap := h', toks := tk } ∧ SetR w h' s.heap.objs.size (fun j => decide (j ∈ ns)) c ∧ c ≤ ns.length ∧ ∀ b o, s.heap.get? b = some o → h'.get? b = some o) E)
      F.called_set.init.plain F.entry_set_init (check_set_init_1 ty ?_)) fun r2 t2 hr2 => ?_
    rotate_left
    · match r2, hr2 with
      | .error e, hr2 => exact hr2
      | .ok .next, hr2 => exact hr2.elim
      | .ok .brk, hr2 => exact hr2.elim
      | .ok .cont, hr2 => exact hr2.elim
      | .ok (.ret x), hr2 =>
        obtain ⟨rfl, h', tk, c, rfl, g1, g2, g3⟩ := hr2
        repeat (any_goals (first | assumption | wp_step))
        exact h _ _ _ g1 g2 g3
    have sub1 := F.sub_list_set
    have sub2 := F.sub_list_frozenset
    have nod : (Value.type "list" == Value.type "dict") = false := by decide
    have hl1 : (s.heap.push (O0 w)).IsList l items := hl.push _
    obtain ⟨⟨k0, k1, k2, k3⟩, e1, e2, nl, e3⟩ := hl
    simp only at e2 e3
    subst e2 e3
    have old : (s.heap.push (O0 w)).get? l = some { cls := .type "list", dict := k1, data := .seq items nl, slots := k3 } := Heap.get?_push_of_some _ e1
    unfold Builtin.«set.__init__» noKeywords Builtin.Frozenset.updateFrom
    generalize hPI : pyIter = PI
    wp_walk
    subst hPI
    refine wpAny_pyIter_list (s := { s with heap := s.heap.push (O0 w) }) hl1 ?_
    refine wpAny_bind (wpAny_runValue ?_)
    have lt : l < s.heap.objs.size := Heap.lt_size e1
    have sz : (s.heap.push (O0 w)).objs.size = s.heap.objs.size + 1 := Heap.size_push ..
    have hh3 : A.in1.in1.in1.handled = none := by simp [hh]
    have d1 : l ≠ (s.heap.push (O0 w)).objs.size := by rw [sz]; exact Nat.ne_of_lt (Nat.lt_succ_of_lt lt)
    have d2 : s.heap.objs.size ∉ [(s.heap.push (O0 w)).objs.size, l] := by
      rw [sz]
      simp only [List.mem_cons, List.not_mem_nil, or_false, not_or]
      exact ⟨Nat.ne_of_lt (Nat.lt_succ_self _), Nat.ne_of_gt lt⟩
    have hval : ∀ (i : Nat) (v : Value), items[i]? = some v → ∃ k t, ns[i]? = some k ∧ v = .int k t := fun i v hv => by
      have hi : i < ns.length := by rw [← size]; exact (Array.getElem?_eq_some_iff.mp hv).1
      obtain ⟨t, e⟩ := PyProof.Rows.IntsAre.int_at hit i v (by rw [Array.getElem?_toList]; exact hv)
      refine ⟨ns[i], t, List.getElem?_eq_getElem hi, ?_⟩
      rw [e, List.getD_eq_getElem?_getD, List.getElem?_eq_getElem hi]
      rfl
    refine set_update_ints ((Walks.list hh3 _ l d1 items).toS) s.heap.objs.size d2 ns size hb hval (items.size - 0) 0 _ (by omega) (Nat.zero_le _)
      ⟨⟨_, Heap.get?_push_size _ rfl, rfl, rfl⟩, (hl1.push _)⟩ ⟨0, Nat.le_refl 0, setR_new_at (Heap.get?_push_of_some _ there)⟩ fun s' c hm hc hS => ?_
    obtain ⟨h', x1, x2, tk, x3⟩ := s'
    have y1 : x1 = s.gens := hm.gens
    have y2 : x2 = s.drawn := hm.drawn
    have y3 : x3 = s.os := hm.os
    subst y1 y2 y3
    refine wpAny_pure ?_
    show wpAny _ _ (ret Value.none) _ _ _
    refine wpAny_pure ⟨rfl, h', tk, c, rfl, hS, by omega, fun b o e => ?_⟩
    have b0 : b < s.heap.objs.size := Heap.lt_size e
    refine hm.heap b o ?_ (Heap.get?_push_of_some _ (Heap.get?_push_of_some _ e))
    rw [sz]
    simp only [List.mem_cons, List.not_mem_nil, or_false, not_or]
    exact ⟨Nat.ne_of_lt b0, Nat.ne_of_lt (Nat.lt_succ_of_lt b0)⟩
end
theorem nodup_in : ∀ {xs ys : List Int}, xs.Nodup → (∀ x ∈ xs, x ∈ ys) → xs.length ≤ ys.length
  | [], _, _, _ => Nat.zero_le _
  | x :: xs, ys, h, s => by
    rw [List.nodup_cons] at h
    have hx := s x List.mem_cons_self
    have ih := nodup_in (ys := ys.erase x) h.2 fun y hy => by
      have hne : y ≠ x := fun e => h.1 (e ▸ hy)
      exact (List.mem_erase_of_ne hne).mpr (s y (List.mem_cons_of_mem _ hy))
    rw [List.length_erase_of_mem hx] at ih
    have : 0 < ys.length := List.length_pos_of_mem hx
    rw [List.length_cons]
    omega
theorem nodup63 {xs : List Int} (h : xs.Nodup) (s : ∀ x ∈ xs, 0 ≤ x ∧ x < 63) : xs.length ≤ 63 := by
  have := nodup_in (ys := (List.range 63).map Int.ofNat) h fun x hx => by
    obtain ⟨h0, h1⟩ := s x hx
    exact List.mem_map.mpr ⟨x.toNat, List.mem_range.mpr (by omega), by simp only [Int.ofNat_eq_natCast]; omega⟩
  simpa using this
theorem setR_small {w : World} {h : Heap} {a : Addr} {ns : List Int} {c : Nat} (R : SetR w h a (fun j => decide (j ∈ ns)) c) (s : ∀ x ∈ ns, 0 ≤ x ∧ x < 63) : c < 64 := by
  obtain ⟨o, es, ep, t, _, _, _, _, nd, hm, _, _, hn, _⟩ := R
  have := nodup63 nd fun x hx => s x (by have := (hm x).mpr hx; simpa using this)
  rw [List.length_map, Array.length_toList] at this
  omega
def tSortSet (K : PySem.W.Frag) (ta : TE) : TE := fun σ H Q => ta σ H fun x H1 => ∃ (l : Addr) (ns : List Int), x = .ref l ∧ SqL K H1 l (ns.map V.int) ∧ (ns.length ≤ 4000 ∧ ∀ x ∈ ns, 0 ≤ x ∧ x < 63) ∧ ∀ (ms : List Int) (p : Addr), ms.Pairwise (· < ·) → (∀ k, k ∈ ms ↔ k ∈ ns) → H1 p = none → Q (.ref p) (upd H1 p (.lst (ms.map V.int)))
theorem pe_sortSet {X : Cx} {a : Expr} {ta : TE} {p p2 q pos : Pos} (hg : Gl X "sorted") (hm : X.mg "sorted" = none) (hg2 : Gl X "set") (hm2 : X.mg "set" = none) (ha : PE X a ta) (hc : X.calm = true := by rfl)
    (na : starEach [a] X.env = (false, eval a X.env) :: starEach [] X.env := by rfl) : PE X (.Call (.Name "sorted" p) [.Call (.Name "set" p2) [a] [] q] [] pos) (tSortSet X.K ta) := by
  refine ⟨fun pins s σ H Q I h => ?_⟩
  refine Call_ (ld_blt I hg hm boot_sorted ?_)
  refine PyProof.Rows.callWith_builtin1 (PyProof.Rows.args_cons ?_ rfl) rfl rfl
  refine Call_ (ld_blt I hg2 hm2 boot_set ?_)
  refine PyProof.Rows.callWith_type1 (PyProof.Rows.args_cons (thn (ha.run pins s σ H _ I h) fun v s1 ⟨x, H1, I1, r1, q1⟩ => PyProof.Rows.args_nil ?_) na) na rfl
  obtain ⟨l, ns, rfl, hq, ⟨hl, hsm⟩, q1⟩ := q1
  cases r1
  obtain ⟨its, r, pl, hz⟩ := I1.list hq
  refine set_listR ns (I1.ok.hd hc) pl.isList (by simpa using RZ.intsAre_vals r) (by unfold scanBound; omega) fun h' tk c hS hcl hk => ?_
  refine PyProof.Rows.args_nil ?_
  have I2 : Inv X pins σ H1 { s1 with heap := h', toks := tk } := I1.kept fun b o e => hk b o e
  refine sorted_set hS (I1.ok.hd hc) (setR_small hS hsm) fun s' p out c' ms k g o hp hg3 hi hs hmm hl2 => ?_
  have hlen : (ms.map V.int).length ≤ sizeLine := by rw [List.length_map, hl2, sizeLine_eq]; omega
  have hn : H1 p = none := I2.hok.fresh hp
  have J : Inv X pins σ (upd H1 p (.lst (ms.map V.int))) { ({ s1 with heap := h', toks := tk } : Shared) with heap := s'.heap, gens := s'.gens, drawn := s'.drawn, toks := s'.toks } :=
    I2.call (ch := []) (Un.laid k hp hn) (I2.hok.laid k hp ⟨hlen, out.toList, c', vals_of_ints hi, hg3⟩) (by rw [g]; exact I2.bare) (fun _ z => nomatch z)
  have e : s' = { ({ s1 with heap := h', toks := tk } : Shared) with heap := s'.heap, gens := s'.gens, drawn := s'.drawn, toks := s'.toks } := by
    cases s'
    cases o
    rfl
  rw [e]
  exact ⟨.ref p, _, J, rfl, q1 ms p hs (fun k => by rw [hmm k]; simp) hn⟩
def dSortSet (t : TD) : TD := fun wd ρ S k => t wd ρ S fun d S1 => onInts (fun ns S k => (ns.length ≤ 4000 ∧ ∀ x ∈ ns, 0 ≤ x ∧ x < 63) ∧ ∀ ms : List Int, ms.Pairwise (· < ·) → (∀ k, k ∈ ms ↔ k ∈ ns) → k (.lst (ms.map D.int)) S) [d] S1 k
theorem pd_sortSet {X : Cx} {wd : WD} {e : Expr} {t : TD} {p p2 q pos : Pos} (hm : X.mg "sorted" = none) (hm2 : X.mg "set" = none) (h : PD X wd e t) (hg : Gl X "sorted" := by exact rfl) (hg2 : Gl X "set" := by exact rfl) (hc : X.calm = true := by rfl)
    (na : starEach [e] X.env = (false, eval e X.env) :: starEach [] X.env := by rfl) : PD X wd (.Call (.Name "sorted" p) [.Call (.Name "set" p2) [e] [] q] [] pos) (dSortSet t) := by
  refine PE.pd (pe_sortSet hg hm hg2 hm2 h.pe hc na) fun σ H F ρ S k r hw => ?_
  refine ⟨F, ρ, S, _, r, hw, fun F1 x H1 d S1 g1 r1 rd q => ?_⟩
  obtain ⟨l, ns, e0, hq, hl, q2⟩ := onInts_at r1.h (Rs.cons rd Rs.nil) q
  cases e0
  refine ⟨l, ns, rfl, hq, hl, fun ms p h1 h2 hp => ?_⟩
  obtain ⟨n1, n2⟩ := r1.h.newF (o := .lst (ms.map V.int)) hp
  refine ⟨_, .lst (ms.map D.int), S1, g1.trans (Go.newF n2 hp), r1.up (Go.newF n2 hp) n1, ?_, q2 ms h1 h2⟩
  unfold R
  exact ⟨p, _, rfl, upd_same, Rs.of_ints ms⟩
end Z

set_option Elab.async false
set_option linter.all false
set_option maxRecDepth 100000
set_option maxHeartbeats 4000000
/-! try: body, several except clauses, with names or without -/
namespace Z
open PySem PySem.Spec PyProof.Rows L2 PySem.ZX PySem.W
def gonE (o : Option Nat) (D : Ends) : Ends := match o with
  | none => D
  | some i => { nx := fun σ' H' => D.nx (σ'.set i none) H', rt := D.rt, bk := fun σ' H' => D.bk (σ'.set i none) H', ct := fun σ' H' => D.ct (σ'.set i none) H' }
def putE (o : Option Nat) (σ : L2.St) (a : Addr) : L2.St := match o with
  | none => σ
  | some i => σ.set i (some (.ref a))
abbrev HdL := List (Value × Option Nat × (Addr → Value → Option Addr → TS))
def wManyA (K : Frag) (Wout : WX) (D : Ends) : HdL → WX
  | [] => Wout
  | (c, o, ts) :: r => fun cls d σ H => ∃ b, exmOne K cls c = some b ∧ (b = true → ∀ a, H a = none → ts a cls d (gonE o D) (putE o σ a) H) ∧ (b = false → wManyA K Wout D r cls d σ H)
inductive HdsA (X : Cx) : List ExceptHandler → HdL → Prop
  | nil : HdsA X [] []
  | cons {x : Str} {c : Value} {ts : Addr → Value → Option Addr → TS} {b₀ : Stmt} {suite : List Stmt} {np pos' : Pos} {hds : List ExceptHandler} {l : HdL} (hc : Names X x c)
      (hsu : ∀ (a : Addr) (oe : Obj) (cls : Value) (d : Option Addr) (pn : List (Addr × Obj)), Zc cls d oe → (∃ vs, oe.data = .fields vs) → PSs (X.suite a ((a, oe) :: pn)) (b₀ :: suite) (ts a cls d)) (r : HdsA X hds l) :
      HdsA X (.ExceptHandler (some (.Name x np)) none (b₀ :: suite) pos' :: hds) ((c, none, ts) :: l)
  | consA {x n : Str} {i : Nat} {c : Value} {ts : Addr → Value → Option Addr → TS} {b₀ : Stmt} {suite : List Stmt} {np pos' : Pos} {hds : List ExceptHandler} {l : HdL} (hc : Names X x c) (hi : X.N[i]? = some n) (hln : X.env.kindOf n = some .local)
      (hsu : ∀ (a : Addr) (oe : Obj) (cls : Value) (d : Option Addr) (pn : List (Addr × Obj)), Zc cls d oe → (∃ vs, oe.data = .fields vs) → PSs (X.suite a ((a, oe) :: pn)) (b₀ :: suite) (ts a cls d)) (r : HdsA X hds l) :
      HdsA X (.ExceptHandler (some (.Name x np)) (some n) (b₀ :: suite) pos' :: hds) ((c, some i, ts) :: l)
section
variable {X : Cx} {body : List Stmt} {h₀ : ExceptHandler} {hds : List ExceptHandler} {l : HdL} {pos : Pos} {tb : WX → TS} {Wout : WX}
theorem ps_try_manyA (hs : X.stack = X.env :: X.outer) (hf : X.env.frame = some X.env.locals) (hN : X.N.Nodup) (tk : Takes X Wout)
    (hb : ∀ (W : WX) (pn : List (Addr × Obj)) (xe : Value → Shared → Prop), Takes (X.tr pn xe) W → PassesOwn (model X.prog X.w) X.A X.env xe → PSs (X.tr pn xe) body (tb W))
    (hh : HdsA X (h₀ :: hds) l) : PS X (.Try body (h₀ :: hds) [] [] pos) (fun D σ H => tb (wManyA X.K Wout D l) D σ H) := by
  refine ⟨fun pins s σ H D I h => ?_⟩
  have ok := I.ok
  have hfr : X.A.frames = some (X.env :: X.outer) := by rw [ok.frames, hs]
  refine wpAny_Try_except ?_
  refine wpAny_mono ((hb (wManyA X.K Wout D l) (X.pn ++ pins) (fun e s₁ => wpAny (model X.prog X.w) X.A (noteFrame e X.env) (fun _ s₂ => wpAny (model X.prog X.w) X.A (setFlight e none) (fun _ s₃ =>
    wpAny (model X.prog X.w) X.A (handleBy e X.env (h₀ :: hds)) (SP X pins D) X.xe s₃) X.xe s₂) X.xe s₁) (fun u s' xx => ?_) PassesOwn.looking).run [] s σ H D (I.toTry _) h) (fun f s1 hsp => ?_) (fun e s1 he => he)
  · obtain ⟨a, B, sI, pins', σ', H', cls, d, rfl, J', nb, up, sky, na, os, ag, w⟩ := xx
    have J : Inv X pins σ' H' sI := J'.ofTry ok
    have sky' : Sky B (X.env :: X.outer) a (Zc cls d) X.env.locals s'.heap := by rw [← hs]; exact sky
    show wpAny _ X.A (noteFrame (.ref a) X.env) _ _ _
    refine Sky.land Zc.steady hfr hf sky' fun h3 fl3 up3 => ?_
    have J3 : Inv X pins σ' H' { s' with heap := h3 } := J.landed nb fl3.1 (up.trans up3) os ag
    obtain ⟨oe3, vs3, he3, hz3, hd3⟩ := fl3.there
    have notFr : ∀ {h : Heap} {o : Obj} {vs : Array Value}, h.FunFrames B (X.env :: X.outer) → h.get? a = some o → o.data = .fields vs → a ∉ frs (X.env :: X.outer) := fun {h o vs} ff e dd hm => by
      obtain ⟨_, o', e', hnf⟩ := ff.mem hm
      rw [e] at e'; cases e'
      exact hnf _ dd
    have nfr := notFr fl3.2.2.1 he3 hd3
    have nL : a ≠ X.env.locals := fun z => nfr (List.mem_filterMap.mpr ⟨X.env, List.mem_cons_self, by rw [hf, z]⟩)
    have nF : a ∉ X.fs := fun hm => by
      obtain ⟨e, he, q⟩ := List.mem_filterMap.mp hm
      exact nfr (List.mem_filterMap.mpr ⟨e, List.mem_cons_of_mem _ he, q⟩)
    have S3 := J3.suite he3 hd3 na nL nF
    have LT : PySem.W.Looks (model X.prog X.w) h3 (typeOf (.ref a)) cls := fun A Q E s k q => wpAny_typeOf_ref (k _ _ he3) (by rw [hz3.1]; exact q)
    have test : ∀ {x : Str} {c : Value} {np : Pos} {Q : Value → Shared → Prop} {E : Value → Shared → Prop}, Names X x c → Q c { s' with heap := h3 } → wpAny (model X.prog X.w) (X.A.mark (some (.ref a))) (eval (.Name x np) X.env) Q E { s' with heap := h3 } := fun {x c np Q E} hc q => by
      obtain ⟨hg, hdbg, hm | ⟨hm, hv, hnn⟩⟩ := hc
      · exact ld_glob (X := X.suite a ((a, oe3) :: (X.pn ++ pins))) S3 hg hm q hdbg
      · exact ld_blt (X := X.suite a ((a, oe3) :: (X.pn ++ pins))) S3 hg hm hv q hnn hdbg
    have go : ∀ {hds' : List ExceptHandler} {l' : HdL}, HdsA X hds' l' → wManyA X.K Wout D l' cls d σ' H' →
        wpAny (model X.prog X.w) X.A (handleBy (.ref a) X.env hds') (SP X pins D) X.xe { s' with heap := h3 } := by
      intro hds' l' hk
      induction hk with
      | nil =>
        intro w
        refine wpAny_handleBy_nil ?_
        obtain ⟨k1, k2, k3, oe, vs, T, oT, ts', he, hz, hd, h1, hr⟩ := id fl3
        unfold PySem.passOn
        refine wpAny_bind (wpAny_field he hd h1 ?_)
        rw [if_neg (show ¬ ((Value.ref T == Value.none) = true) from by simp)]
        have fin : wpAny (model X.prog X.w) X.A (setFlight (.ref a) X.env.frame) (fun _ s4 => wpAny (model X.prog X.w) X.A (throw (.ref a) : Sem Flow) (SP X pins D) X.xe s4) X.xe { s' with heap := h3 } := by
          rw [hf]
          refine HandSPX.setFlight_upZ fl3 fun h4 hh4 up4 => wpAny_throw (tk _ _ ?_)
          exact ⟨a, B, sI, pins, σ', H', cls, d, rfl, J, nb, (up.trans up3).trans up4, .inr (.inr (by rw [hs]; exact hh4)), na, os, ag, w⟩
        first
          | exact wpAny_bind (wpAny_pure (wpAny_bind fin))
          | exact wpAny_bind fin
      | @cons x c ts b₀ suite np pos' hds2 l2 hc hsu r ih =>
        intro w
        obtain ⟨b, hb1, hyes, hno⟩ := w
        refine wpAny_handleBy_cons (codeAny_handlers_test ?_) (by intro q; cases q)
        have LM := PySem.W.exm_one (M := model X.prog X.w) (J3.kIn) LT hb1
        refine test hc (LM.here ?_)
        cases b with
        | true =>
          refine codeAny_handlers_suite ?_
          refine HandSPX.lands_againZ fl3 fun h4 fl4 up4 => ?_
          have J4 : Inv X pins σ' H' { s' with heap := h4 } := J.landed nb fl4.1 ((up.trans up3).trans up4) os ag
          obtain ⟨oe4, vs4, he4, hz4, hd4⟩ := fl4.there
          have S4 := J4.suite he4 hd4 na nL nF
          refine wpAny_mono ((hsu a oe4 cls d (X.pn ++ pins) hz4 ⟨_, hd4⟩).run [] _ _ H' _ S4 (hyes rfl a na)) (fun f s6 hsp => ?_) (fun _ _ z => False.elim z)
          cases f with
          | next =>
            obtain ⟨σ6, H6, S6, q6⟩ := hsp
            exact ⟨_, _, S6.unsuite ok, q6⟩
          | brk =>
            obtain ⟨σ6, H6, S6, q6⟩ := hsp
            exact ⟨_, _, S6.unsuite ok, q6⟩
          | cont =>
            obtain ⟨σ6, H6, S6, q6⟩ := hsp
            exact ⟨_, _, S6.unsuite ok, q6⟩
          | ret u =>
            obtain ⟨v6, σ6, H6, S6, r6, q6⟩ := hsp
            exact ⟨_, _, _, S6.unsuite ok, r6, q6⟩
        | false =>
          show wpAny _ X.A (handleBy (.ref a) X.env hds2) _ _ _
          exact ih (hno rfl)
      | @consA x n i c ts b₀ suite np pos' hds2 l2 hc hi hln hsu r ih =>
        intro w
        have hloc : Loc X.env.scope n := .inl hln
        obtain ⟨b, hb1, hyes, hno⟩ := w
        refine wpAny_handleBy_cons (codeAny_handlers_test ?_) (by intro q; cases q)
        have LM := PySem.W.exm_one (M := model X.prog X.w) (J3.kIn) LT hb1
        refine test hc (LM.here ?_)
        cases b with
        | true =>
          refine codeAny_handlers_suite_as ?_
          refine HandSPX.lands_againZ fl3 fun h4 fl4 up4 => ?_
          have J4 : Inv X pins σ' H' { s' with heap := h4 } := J.landed nb fl4.1 ((up.trans up3).trans up4) os ag
          obtain ⟨oe4, vs4, he4, hz4, hd4⟩ := fl4.there
          have S4 := J4.suite he4 hd4 na nL nF
          refine store_ok (X := X.suite a ((a, oe4) :: (X.pn ++ pins))) (v := .ref a) S4 hN hi hloc rfl (fun s5 S5 => ?_) (.inr hln)
          refine wpAny_mono ((hsu a oe4 cls d (X.pn ++ pins) hz4 ⟨_, hd4⟩).run [] s5 _ H' _ S5 (hyes rfl a na)) (fun f s6 hsp => ?_) (fun _ _ z => False.elim z)
          have end_ : ∀ {σ6 : L2.St} {H6 : Hp} {Q : Shared → Prop}, Inv (X.suite a ((a, oe4) :: (X.pn ++ pins))) [] σ6 H6 s6 → (∀ s7, Inv X pins (σ6.set i none) H6 s7 → Q s7) →
              wpAny (model X.prog X.w) X.A (do bindName X.env n .none; unbindBehindTheSuite X.env n pos') (fun _ s7 => Q s7) X.xe s6 := fun {σ6 H6 Q} S6 hq => gone_ok (S6.unsuite ok) hN hi hln hq
          cases f with
          | next =>
            obtain ⟨σ6, H6, S6, q6⟩ := hsp
            exact end_ S6 fun s7 J7 => ⟨_, _, J7, q6⟩
          | brk =>
            obtain ⟨σ6, H6, S6, q6⟩ := hsp
            exact end_ S6 fun s7 J7 => ⟨_, _, J7, q6⟩
          | cont =>
            obtain ⟨σ6, H6, S6, q6⟩ := hsp
            exact end_ S6 fun s7 J7 => ⟨_, _, J7, q6⟩
          | ret u =>
            obtain ⟨v6, σ6, H6, S6, r6, q6⟩ := hsp
            exact end_ S6 fun s7 J7 => ⟨_, _, _, J7, r6, q6⟩
        | false =>
          show wpAny _ X.A (handleBy (.ref a) X.env hds2) _ _ _
          exact ih (hno rfl)
    exact go hh w
  · cases f with
    | next =>
      obtain ⟨σ', H', J', q⟩ := hsp
      exact wpAny_execs_nil ⟨σ', H', J'.ofTry ok, q⟩
    | brk =>
      obtain ⟨σ', H', J', q⟩ := hsp
      exact ⟨σ', H', J'.ofTry ok, q⟩
    | cont =>
      obtain ⟨σ', H', J', q⟩ := hsp
      exact ⟨σ', H', J'.ofTry ok, q⟩
    | ret u =>
      obtain ⟨v, σ', H', J', r, q⟩ := hsp
      exact ⟨v, σ', H', J'.ofTry ok, r, q⟩
end
/-! the same over data -/
def endO (o : Option Nat) (E : EndsD) : EndsD := match o with
  | none => E
  | some i => endG i E
def putO (o : Option Nat) (ρ : Envd) (xa : Addr) : Envd := match o with
  | none => ρ
  | some i => ρ.set i (some (.adr xa))
abbrev HdD := List (Option Nat × List (Addr × Bool) × (Addr → Addr → D → TSD))
def tryM (wd : WD) (E : EndsD) : HdD → Addr → D → Envd → Sto → Prop
  | [] => fun C x ρ S => wd.f C x ρ S
  | (o, ms, ts) :: r => fun C x ρ S => ∃ b, (C, b) ∈ ms ∧ (b = true → ∀ xa, S xa = none → ∀ F H, ts C xa x ⟨wdOut, F, H, S⟩ (endO o E) (putO o ρ xa) S) ∧ (b = false → tryM wd E r C x ρ S)
def dTryM (l : HdD) (tb : TSD) : TSD := fun wd E ρ S => ∀ F H, tb ⟨tryM wd E l, F, H, S⟩ E ρ S
def tsKC (K : Frag) (ts : Addr → Addr → D → TSD) (a : Addr) (cls : Value) (d : Option Addr) : TS := fun Dn σ H => ∃ C F ρ S E x, cls = .ref C ∧ Sui K ⟨wdOut, F, H, S⟩ C d x ∧ Rel K ⟨wdOut, F, H, S⟩ F σ H ρ S ∧ ts C a x ⟨wdOut, F, H, S⟩ E ρ S ∧
  (∀ F' σ' H' ρ' S', Go F H S F' H' S' → Rel K ⟨wdOut, F, H, S⟩ F' σ' H' ρ' S' → E.nx ρ' S' → Dn.nx σ' H') ∧ (∀ F' σ' H' ρ' S', Go F H S F' H' S' → Rel K ⟨wdOut, F, H, S⟩ F' σ' H' ρ' S' → E.bk ρ' S' → Dn.bk σ' H') ∧
  (∀ F' σ' H' ρ' S', Go F H S F' H' S' → Rel K ⟨wdOut, F, H, S⟩ F' σ' H' ρ' S' → E.ct ρ' S' → Dn.ct σ' H') ∧ (∀ F' v H' d S', Go F H S F' H' S' → RelH K F' H' S' → R K F' d v → E.rt d S' → Dn.rt v H')
/-- the clauses of the text, and what they do -/
inductive HdsD (X : Cx) : List ExceptHandler → HdD → HdL → Prop
  | nil : HdsD X [] [] []
  | cons {x : Str} {c : Addr} {ms : List (Addr × Bool)} {ts : Addr → Addr → D → TSD} {b₀ : Stmt} {suite : List Stmt} {np pos' : Pos} {hds : List ExceptHandler} {l : HdD} {l' : HdL} (hc : Names X x (.ref c)) (hm : ExM X.K c ms)
      (hsu : ∀ (a : Addr) (oe : Obj) (C : Addr) (d : Option Addr) (pn : List (Addr × Obj)) (wd' : WD) (xx : D), Zc (.ref C) d oe → (∃ vs, oe.data = .fields vs) → Sui X.K wd' C d xx → PSsD (X.suite a ((a, oe) :: pn)) wd' (b₀ :: suite) (ts C a xx)) (r : HdsD X hds l l') :
      HdsD X (.ExceptHandler (some (.Name x np)) none (b₀ :: suite) pos' :: hds) ((none, ms, ts) :: l) ((.ref c, none, tsKC X.K ts) :: l')
  | consA {x n : Str} {i : Nat} {c : Addr} {ms : List (Addr × Bool)} {ts : Addr → Addr → D → TSD} {b₀ : Stmt} {suite : List Stmt} {np pos' : Pos} {hds : List ExceptHandler} {l : HdD} {l' : HdL} (hc : Names X x (.ref c)) (hm : ExM X.K c ms) (hi : X.N[i]? = some n) (hln : X.env.kindOf n = some .local)
      (hsu : ∀ (a : Addr) (oe : Obj) (C : Addr) (d : Option Addr) (pn : List (Addr × Obj)) (wd' : WD) (xx : D), Zc (.ref C) d oe → (∃ vs, oe.data = .fields vs) → Sui X.K wd' C d xx → PSsD (X.suite a ((a, oe) :: pn)) wd' (b₀ :: suite) (ts C a xx)) (r : HdsD X hds l l') :
      HdsD X (.ExceptHandler (some (.Name x np)) (some n) (b₀ :: suite) pos' :: hds) ((some i, ms, ts) :: l) ((.ref c, some i, tsKC X.K ts) :: l')
theorem hdsD_below {X : Cx} {hds : List ExceptHandler} {l : HdD} {l' : HdL} (h : HdsD X hds l l') : HdsA X hds l' := by
  induction h with
  | nil => exact .nil
  | cons hc hm hsu r ih => exact .cons hc (fun a oe cls d pn hz hfl => ⟨fun pins s σ H Dn I ⟨C, F, ρ, S, E, xx, ec, su, r, h, c1, c2, c3, c4⟩ => by
      subst ec
      exact (hsu a oe C d pn _ xx hz hfl su).pss.run pins s σ H Dn I ⟨F, ρ, S, E, r, h, c1, c2, c3, c4⟩⟩) ih
  | consA hc hm hi hln hsu r ih => exact .consA hc hi hln (fun a oe cls d pn hz hfl => ⟨fun pins s σ H Dn I ⟨C, F, ρ, S, E, xx, ec, su, r, h, c1, c2, c3, c4⟩ => by
      subst ec
      exact (hsu a oe C d pn _ xx hz hfl su).pss.run pins s σ H Dn I ⟨F, ρ, S, E, r, h, c1, c2, c3, c4⟩⟩) ih
theorem hdsD_wish {X : Cx} {hds : List ExceptHandler} {l : HdD} {l' : HdL} (h : HdsD X hds l l') {wd : WD} {E : EndsD} {Dn : Ends} {F H : Hp} {S : Sto} {cls : Value} {d : Option Addr} {σ1 : L2.St} {H1 F1 : Hp} {ρ1 : Envd} {S1 : Sto} {C : Addr} {xx : D}
    (g0 : Go wd.F wd.H wd.S F H S) (ec : cls = .ref C) (r1 : Rel X.K ⟨wdOut, F, H, S⟩ F1 σ1 H1 ρ1 S1) (fl : Fld X.K F1 H1 d xx)
    (d1 : ∀ F2 σ2 H2 ρ2 S2, Go F H S F2 H2 S2 → Rel X.K wd F2 σ2 H2 ρ2 S2 → E.nx ρ2 S2 → Dn.nx σ2 H2) (d2 : ∀ F2 σ2 H2 ρ2 S2, Go F H S F2 H2 S2 → Rel X.K wd F2 σ2 H2 ρ2 S2 → E.bk ρ2 S2 → Dn.bk σ2 H2)
    (d3 : ∀ F2 σ2 H2 ρ2 S2, Go F H S F2 H2 S2 → Rel X.K wd F2 σ2 H2 ρ2 S2 → E.ct ρ2 S2 → Dn.ct σ2 H2) (d4 : ∀ F2 v H2 dd S2, Go F H S F2 H2 S2 → RelH X.K F2 H2 S2 → R X.K F2 dd v → E.rt dd S2 → Dn.rt v H2)
    (hw : tryM wd E l C xx ρ1 S1) : wManyA X.K (WL X.K wd) Dn l' cls d σ1 H1 := by
  have g1 : Go F H S F1 H1 S1 := r1.go
  induction h with
  | nil => exact ⟨F1, ρ1, S1, C, xx, ec, r1.wd (g0.trans g1), fl, hw⟩
  | cons hc hm hsu r ih =>
    obtain ⟨b, hmem, h1, h2⟩ := hw
    subst ec
    refine ⟨b, hm.m _ hmem, fun hb a ha => ?_, fun hb => ih (h2 hb)⟩
    obtain ⟨T, no⟩ := hm.f _ hmem hb
    obtain ⟨_, sa⟩ := r1.h.fresh ha
    refine ⟨C, F1, ρ1, S1, E, xx, rfl, ⟨r1.h, fl, T, no⟩, r1.wd Go.refl, h1 hb a sa F1 H1, ?_, ?_, ?_, ?_⟩
    · exact fun F2 σ2 H2 ρ2 S2 g2 r2 q => d1 _ _ _ _ _ (g1.trans g2) (r2.wd (g0.trans (g1.trans g2))) q
    · exact fun F2 σ2 H2 ρ2 S2 g2 r2 q => d2 _ _ _ _ _ (g1.trans g2) (r2.wd (g0.trans (g1.trans g2))) q
    · exact fun F2 σ2 H2 ρ2 S2 g2 r2 q => d3 _ _ _ _ _ (g1.trans g2) (r2.wd (g0.trans (g1.trans g2))) q
    · exact fun F2 v H2 dd S2 g2 r2 rd q => d4 _ _ _ _ _ (g1.trans g2) r2 rd q
  | @consA x n i c ms ts b₀ suite np pos' hds l l' hc hm hi hln hsu r ih =>
    obtain ⟨b, hmem, h1, h2⟩ := hw
    subst ec
    refine ⟨b, hm.m _ hmem, fun hb a ha => ?_, fun hb => ih (h2 hb)⟩
    obtain ⟨T, no⟩ := hm.f _ hmem hb
    obtain ⟨_, sa⟩ := r1.h.fresh ha
    refine ⟨C, F1, ρ1.set i (some (.adr a)), S1, endG i E, xx, rfl, ⟨r1.h, fl, T, no⟩, (r1.set i (by unfold R; rfl)).wd Go.refl, h1 hb a sa F1 H1, ?_, ?_, ?_, ?_⟩
    · exact fun F2 σ2 H2 ρ2 S2 g2 r2 q => d1 _ _ _ _ _ (g1.trans g2) ((r2.wd (g0.trans (g1.trans g2))).gone i) q
    · exact fun F2 σ2 H2 ρ2 S2 g2 r2 q => d2 _ _ _ _ _ (g1.trans g2) ((r2.wd (g0.trans (g1.trans g2))).gone i) q
    · exact fun F2 σ2 H2 ρ2 S2 g2 r2 q => d3 _ _ _ _ _ (g1.trans g2) ((r2.wd (g0.trans (g1.trans g2))).gone i) q
    · exact fun F2 v H2 dd S2 g2 r2 rd q => d4 _ _ _ _ _ (g1.trans g2) r2 rd q
section
variable {X : Cx} {wd : WD} {body : List Stmt} {h₀ : ExceptHandler} {hds : List ExceptHandler} {l : HdD} {l' : HdL} {pos : Pos} {tb : TSD}
theorem psd_try_many (hs : X.stack = X.env :: X.outer) (hf : X.env.frame = some X.env.locals) (hN : X.N.Nodup) (tk : TkD X wd)
    (hb : ∀ (wd' : WD) (pn : List (Addr × Obj)) (xe : Value → Shared → Prop), TkD (X.tr pn xe) wd' → PassesOwn (model X.prog X.w) X.A X.env xe → PSsD (X.tr pn xe) wd' body tb)
    (hh : HdsD X (h₀ :: hds) l l') : PSD X wd (.Try body (h₀ :: hds) [] [] pos) (dTryM l tb) := by
  refine PS.psd (ps_try_manyA (tb := tbK X.K tb) hs hf hN tk (fun W pn xe tk' hp => ⟨fun pins s σ H Dn I ⟨wd', sub, hl⟩ => (hb wd' pn xe (Takes.imp tk' sub) hp).pss.run pins s σ H Dn I hl⟩) (hdsD_below hh)) fun σ H F ρ S E r h => ?_
  refine ⟨⟨tryM wd E l, F, H, S⟩, fun cls d σ1 H1 ⟨F1, ρ1, S1, C, xx, ec, r1, fl, hw⟩ => ?_, F, ρ, S, E, r.wd Go.refl, h F H, ?_, ?_, ?_, ?_⟩
  · exact hdsD_wish hh r.go ec (r1.wd r1.go) fl (fun F2 σ2 H2 ρ2 S2 g2 r2 q => ⟨F2, ρ2, S2, g2, r2, q⟩) (fun F2 σ2 H2 ρ2 S2 g2 r2 q => ⟨F2, ρ2, S2, g2, r2, q⟩) (fun F2 σ2 H2 ρ2 S2 g2 r2 q => ⟨F2, ρ2, S2, g2, r2, q⟩) (fun F2 v H2 d2 S2 g2 r2 rd q => ⟨F2, d2, S2, g2, r2, rd, q⟩) hw
  · exact fun F2 σ2 H2 ρ2 S2 g2 r2 q => ⟨F2, ρ2, S2, g2, r2.wd (r.go.trans g2), q⟩
  · exact fun F2 σ2 H2 ρ2 S2 g2 r2 q => ⟨F2, ρ2, S2, g2, r2.wd (r.go.trans g2), q⟩
  · exact fun F2 σ2 H2 ρ2 S2 g2 r2 q => ⟨F2, ρ2, S2, g2, r2.wd (r.go.trans g2), q⟩
  · exact fun F2 v H2 d2 S2 g2 r2 rd q => ⟨F2, d2, S2, g2, r2, rd, q⟩
end
/-! isinstance(e, T), e the caught exception -/
structure IsXC (K : Frag) (C : Addr) : Prop where
  hcl : (clsIn K C).isSome = true
  ga : findIn K (.ref C) "__getattribute__" = some (some (.builtin "BaseException.__getattribute__"))
  gg : findIn K (.ref C) "__getattr__" = some none
  exC : subIn K (.ref C) (.type "BaseException") = some true
  ha : findIn K (.ref C) "__class__" = some (some (.builtin "object.__class__"))
  hn : specialIn K (.builtin "object.__class__") "__get__" = some (some (.builtin "getset_descriptor.__get__"))
  ht : takesIn K (.builtin "object.__class__") = some true
  hm : mroIn K C (.type "object") = some true
def isxB (K : Frag) (cv : Value) (ms : List (Addr × Bool)) : Bool := ms.all fun p => (clsIn K p.1).isSome && (decide (findIn K (.ref p.1) "__getattribute__" = some (some (.builtin "BaseException.__getattribute__"))) && (decide (findIn K (.ref p.1) "__getattr__" = some none) &&
  (decide (subIn K (.ref p.1) (.type "BaseException") = some true) && (decide (findIn K (.ref p.1) "__class__" = some (some (.builtin "object.__class__"))) && (decide (specialIn K (.builtin "object.__class__") "__get__" = some (some (.builtin "getset_descriptor.__get__"))) &&
  (decide (takesIn K (.builtin "object.__class__") = some true) && (decide (mroIn K p.1 (.type "object") = some true) && decide (kitOne K (.ref p.1) cv = some p.2))))))))
structure IsXM (K : Frag) (cv : Value) (ms : List (Addr × Bool)) : Prop where
  h : ∀ p ∈ ms, IsXC K p.1 ∧ kitOne K (.ref p.1) cv = some p.2
theorem isx_of {K : Frag} {cv : Value} {ms : List (Addr × Bool)} (h : isxB K cv ms = true) : IsXM K cv ms := ⟨fun p hp => by
  have q := List.all_eq_true.mp h p hp
  simp only [Bool.and_eq_true, decide_eq_true_eq] at q
  obtain ⟨a1, a2, a3, a4, a5, a6, a7, a8, a9⟩ := q
  exact ⟨⟨a1, a2, a3, a4, a5, a6, a7, a8⟩, a9⟩⟩
def rIsX (K : Frag) (C a : Addr) (d : Option Addr) : List V → Hp → VK → Prop := fun xs H Q => ∃ (c : V) (cv : Value) (b : Bool), xs = [.ref a, c] ∧ (∀ u, RelV c u → u = cv) ∧ kitOne K (.ref C) cv = some b ∧ (d = none ∨ ∃ dx fs, d = some dx ∧ H dx = some (.xd fs)) ∧ Q (.bl b) H
theorem call_isX {X : Cx} {a C : Addr} {oe : Obj} {d : Option Addr} {pn : List (Addr × Obj)} (T : IsXC X.K C) (hz : Zc (.ref C) d oe) (hf : ∃ vs, oe.data = .fields vs) : CallR (X.suite a ((a, oe) :: pn)) (.builtin "isinstance") (rIsX X.K C a d) := by
  intro pins s σ H xs us Q I r h
  obtain ⟨c, cv, b, rfl, hcv, e, hd, q⟩ := h
  cases r with
  | cons rx rr =>
    cases rr with
    | cons rt rr =>
      cases rr
      cases rx
      have ec := hcv _ rt
      subst ec
      obtain ⟨hget, _⟩ := I.pin (a, oe) (List.mem_append.mpr (.inl List.mem_cons_self))
      obtain ⟨vs, hv⟩ := hf
      have J : ∃ od, InstAt s.heap a oe C od := by
        rcases hd with e0 | ⟨dx, fs, e0, hx⟩
        · exact ⟨none, hget, hz.1, by unfold notCls; rw [hv] <;> rfl, by rw [hz.2, e0]; trivial⟩
        · have hx : ObjOk X.prog X.w H s.heap dx (.xd fs) := I.hok dx _ hx
          obtain ⟨mA, hns, hr⟩ := hx
          obtain ⟨od, ho, hl⟩ := lookIn_ns hns
          exact ⟨some od, hget, hz.1, by unfold notCls; rw [hv] <;> rfl, by rw [hz.2, e0]; exact ho⟩
      obtain ⟨od, J⟩ := J
      exact kia_one (kitx_exc T.hcl T.ga T.gg T.exC T.ha T.hn T.ht T.hm) I.kIn J e (fun z => nomatch z) fun tk => ⟨.bl b, H, I.kept (t' := tk) fun _ _ z => z, rfl, q⟩
theorem Sui.dx {K : Frag} {wd : WD} {C : Addr} {d : Option Addr} {xx : D} (su : Sui K wd C d xx) {F : Hp} {σ : L2.St} {H : Hp} {ρ : Envd} {S : Sto} (r : Rel K wd F σ H ρ S) : d = none ∨ ∃ dx fs, d = some dx ∧ H dx = some (.xd fs) := by
  rcases su.fl with ⟨dx, v, ed, hx, rx⟩ | ⟨e, _⟩
  · refine .inr ⟨dx, [(Str.ofString "what", v)], ed, ?_⟩
    cases e : wd.F dx with
    | some o =>
      have e1 := su.rh.ex dx o e
      rw [hx] at e1
      cases e1
      exact r.h.ex _ _ (r.go.ex _ _ e)
    | none =>
      have e2 : wd.S dx = none := by
        cases e3 : wd.S dx with
        | none => rfl
        | some o =>
          obtain ⟨_, q⟩ := su.rh.so dx o e3
          cases o with
          | lst ds => obtain ⟨vs, h, _⟩ := q; rw [hx] at h; cases h
          | dic ks ds => obtain ⟨vs, ⟨kvs, h, _⟩, _⟩ := q; rw [hx] at h; cases h
          | set xs => obtain ⟨S', h, _⟩ := q; rw [hx] at h; cases h
          | obj C' ns ds => obtain ⟨dd, fs, h, _⟩ := q; rw [hx] at h; cases h
          | tab q' => obtain ⟨ps, h, _⟩ := q; rw [hx] at h; cases h
      exact (r.go.fr dx _ hx e2 e).1
  · exact .inl e
def dIsX (i : Nat) (C xa : Addr) (c : D) (ms : List (Addr × Bool)) : TD := fun _ ρ S k => ρ[i]? = some (some (.adr xa)) ∧ ∃ b, (C, b) ∈ ms ∧ k (.bl b) S
theorem pd_isX {X : Cx} {a C : Addr} {oe : Obj} {d : Option Addr} {pn : List (Addr × Obj)} {wd : WD} {xx : D} {i : Nat} {c : D} {cv : Value} {ms : List (Addr × Bool)} {e : Expr} {es : List Expr} {p pos : Pos} (hz : Zc (.ref C) d oe) (hf : ∃ vs, oe.data = .fields vs) (su : Sui X.K wd C d xx)
    (fx : IsXM X.K cv ms) (hm : X.mg "isinstance" = none) (hcv : ∀ F w, R X.K F c w → ∀ u, RelV w u → u = cv) (ha : PAD (X.suite a ((a, oe) :: pn)) wd (e :: es) (dCons (dVar i) (dCons (dC c) dNil)))
    (hg : Gl (X.suite a ((a, oe) :: pn)) "isinstance" := by rfl) (hv : bootBuiltins "isinstance" = some (.builtin "isinstance") := by first | rfl | decide +kernel)
    (he : starEach (e :: es) (X.suite a ((a, oe) :: pn)).env = (false, eval e (X.suite a ((a, oe) :: pn)).env) :: starEach es (X.suite a ((a, oe) :: pn)).env := by rfl) (hpl : (backTo pos (starEach es (X.suite a ((a, oe) :: pn)).env)).any (·.1) = false := by rfl) :
    PD (X.suite a ((a, oe) :: pn)) wd (.Call (.Name "isinstance" p) (e :: es) [] pos) (dIsX i C a c ms) := by
  refine PE.pd (pe_callB callR_any hg hm hv ha.pa (by decide) (by decide) he hpl) fun σ H F ρ S k r h => ?_
  obtain ⟨h1, b, hmem, hk⟩ := h
  refine ⟨F, ρ, S, fun ds S1 => ds = [.adr a, c] ∧ k (.bl b) S1, r, ?_, fun F1 vs H1 ds S1 g1 r1 rs q => ?_⟩
  · unfold dCons dVar
    simp only [h1]
    exact ⟨rfl, hk⟩
  · obtain ⟨rfl, hk⟩ := q
    obtain ⟨v, w, rfl, rv, rw'⟩ := rs.two
    unfold R at rv
    subst rv
    obtain ⟨T, hb⟩ := fx.h _ hmem
    exact ⟨rIsX X.K C a d, call_isX T hz hf, w, cv, b, rfl, hcv F1 w rw', hb, su.dx r1, F1, .bl b, S1, g1, r1, by unfold R; rfl, hk⟩
theorem cv_ty {K : Frag} {T : String} : ∀ F w, R K F (.ty T) w → ∀ u, RelV w u → u = .type T := fun F w h u ru => by
  unfold R at h
  subst h
  exact ru
theorem cv_adr {K : Frag} {A : Addr} : ∀ F w, R K F (.adr A) w → ∀ u, RelV w u → u = .ref A := fun F w h u ru => by
  unfold R at h
  subst h
  exact ru
end Z
namespace Z
open PySem PySem.Spec PyProof.Rows L2
theorem boot_ValueError : bootBuiltins "ValueError" = some (.type "ValueError") := by decide +kernel
theorem boot_RuntimeError : bootBuiltins "RuntimeError" = some (.type "RuntimeError") := by decide +kernel
theorem boot_LookupError : bootBuiltins "LookupError" = some (.type "LookupError") := by decide +kernel
theorem boot_OverflowError : bootBuiltins "OverflowError" = some (.type "OverflowError") := by decide +kernel
theorem boot_KeyError : bootBuiltins "KeyError" = some (.type "KeyError") := by decide +kernel
theorem boot_IndexError : bootBuiltins "IndexError" = some (.type "IndexError") := by decide +kernel
end Z

set_option Elab.async false
set_option linter.all false
set_option maxRecDepth 100000
set_option maxHeartbeats 4000000
/-! dicts frozen and locked; walks over them; list(d.values()), list(range(..)) -/
namespace Z
open PySem PySem.Spec PyProof.Rows L2
/-- a dict of the store, frozen and locked -/
theorem RelH.lock {K : PySem.W.Frag} {F H : Hp} {S : Sto} (r : RelH K F H S) {p : Addr} {ks ds : List D} (hp : S p = some (.dic ks ds)) : ∃ kvs : List (Key × V), H p = some (.dK kvs) ∧ ∀ o, ∃ F', Go F H S F' (upd H p (.frz o (.dK kvs))) (sdel S p) ∧ RelH K F' (upd H p (.frz o (.dK kvs))) (sdel S p) ∧ R K F' (.dlk ks ds) (.ref p) := by
  obtain ⟨f1, vs, ⟨kvs, hh, hk, hv⟩, rs⟩ := r.so p _ hp
  refine ⟨kvs, hh, fun o => ?_⟩
  have eF : Ex F (upd F p (.frz o (.dK kvs))) := Evl.Ex.new f1
  refine ⟨upd F p (.frz o (.dK kvs)), ⟨eF, fun a u h n f => ?_, fun a h => upd_none h⟩, ⟨fun a v e => ?_, fun a v e => ?_⟩, ?_⟩
  · have ha : a ≠ p := fun z => by rw [z, hp] at n; cases n
    exact ⟨by rw [upd_ne ha]; exact h, sdel_none n, by rw [upd_ne ha]; exact f⟩
  · by_cases ha : a = p
    · subst ha; rw [upd_same] at e ⊢; exact e
    · rw [upd_ne ha] at e ⊢; exact r.ex a v e
  · have ha : a ≠ p := fun z => by unfold sdel at e; rw [if_pos z] at e; cases e
    have e' : S a = some v := SSub.del a v e
    obtain ⟨q1, q2⟩ := r.so a v e'
    exact ⟨by rw [upd_ne ha]; exact q1, q2.mono eF (upd_ne ha)⟩
  · unfold R
    exact ⟨p, o, vs, rfl, ⟨kvs, upd_same, hk, hv⟩, Rs.mono eF _ _ rs⟩
/-- what te gives, a dict of the store, is frozen and locked -/
def frzLK (k : KD) : KD := fun d S => match d with
  | .adr p => (match S p with | some (.dic ks vs) => k (.dlk ks vs) (sdel S p) | _ => False)
  | _ => False
def dFrzL (t : TD) : TD := fun wd ρ S k => t wd ρ S (frzLK k)
/-- the same of what stands in the slot i: nothing is done -/
def dFzL (i : Nat) (t : TSD) : TSD := fun wd E ρ S => match ρ[i]? with
  | some (some (.adr p)) => (match S p with | some (.dic ks vs) => t wd E (ρ.set i (some (.dlk ks vs))) (sdel S p) | _ => False)
  | _ => False
section
variable {X : Cx} {wd : WD} {e : Expr} {sts : List Stmt}
theorem pd_frzL {t : TD} (h : PD X wd e t) : PD X wd e (dFrzL t) := by
  refine ⟨fun pins s σ H F ρ S k I r hw => thn (h.run pins s σ H F ρ S _ I r hw) fun u s1 ⟨v, H1, F1, d, S1, I1, rv, e1, q1, rd, hk⟩ => ?_⟩
  unfold frzLK at hk
  split at hk
  · rename_i p
    split at hk
    · rename_i ks vs q
      unfold R at rd
      subst rd
      obtain ⟨kvs, hh, hl⟩ := q1.h.lock q
      obtain ⟨od, I2⟩ := I1.lock hh True.intro
      obtain ⟨F2, g2, r2, rd2⟩ := hl od
      exact ⟨_, _, F2, _, _, I2, rv, e1.trans g2, q1.up g2 r2, rd2, hk⟩
    · exact hk.elim
  · exact hk.elim
theorem pssd_fzL {t : TSD} {i : Nat} (nd : X.N.Nodup) (h : PSsD X wd sts t) : PSsD X wd sts (dFzL i t) := by
  refine ⟨fun pins s σ H F ρ S E I r q => ?_⟩
  unfold dFzL at q
  split at q
  · rename_i p e
    split at q
    · rename_i ks vs eu
      obtain ⟨kvs, hh, hl⟩ := r.h.lock eu
      obtain ⟨od, I2⟩ := I.lock hh True.intro
      obtain ⟨F', g, rr, rd⟩ := hl od
      obtain ⟨v, hv, hr⟩ := r.sl i _ e
      unfold R at hr
      subst hr
      exact thn (h.run pins s σ _ F' (ρ.set i (some (.dlk ks vs))) (sdel S p) E I2 ((r.up g rr).slot hv rd) q) fun _ _ z => SPd.trans g z
    · exact q.elim
  · exact q.elim
end
/-! ### walks -/
theorem dlk_at {K : PySem.W.Frag} {F : Hp} {ks ds : List D} {v : V} (rd : R K F (.dlk ks ds) v) : ∃ a o kvs, v = .ref a ∧ F a = some (.frz o (.dK kvs)) ∧ ks = kvs.map (fun p => keyD p.1) ∧ Rs K F ds (kvs.map (·.2)) := by
  unfold R at rd
  obtain ⟨a, o, vs, e, ⟨kvs, h1, h2, h3⟩, rs⟩ := rd
  subst h3
  exact ⟨a, o, kvs, e, h1, h2, rs⟩
theorem R.key {K : PySem.W.Frag} {F : Hp} (k : Key) : R K F (keyD k) (kV k) := by
  cases k with
  | inl i => show R K F (.int i) (.int i); unfold R; rfl
  | inr x => show R K F (.str x) (.str x); unfold R; rfl
def iDk (te : TD) : TID := fun wd ρ S k => te wd ρ S fun d S1 => match d with
  | .dlk ks _ => ks.length ≤ sizeLine ∧ k ks gT S1
  | _ => False
def iDv (te : TD) : TID := fun wd ρ S k => te wd ρ S fun d S1 => match d with
  | .dlk _ vs => vs.length ≤ sizeLine ∧ k vs gT S1
  | _ => False
def prs : List D → List D → List D
  | x :: xs, y :: ys => .tup [x, y] :: prs xs ys
  | _, _ => []
theorem prs_length : ∀ {xs ys : List D}, xs.length = ys.length → (prs xs ys).length = xs.length
  | [], _, _ => by unfold prs; rfl
  | x :: xs, [], h => by cases h
  | x :: xs, y :: ys, h => by unfold prs; rw [List.length_cons, prs_length (Nat.succ.inj h), List.length_cons]
theorem prs_get : ∀ {xs ys : List D} {i : Nat} {d : D}, (prs xs ys)[i]? = some d → ∃ x y, xs[i]? = some x ∧ ys[i]? = some y ∧ d = .tup [x, y]
  | [], _, i, d, h => by unfold prs at h; simp at h
  | x :: xs, [], i, d, h => by unfold prs at h; simp at h
  | x :: xs, y :: ys, i, d, h => by
    unfold prs at h
    cases i with
    | zero => simp at h; exact ⟨x, y, rfl, rfl, h.symm⟩
    | succ i => obtain ⟨a, b, h1, h2, h3⟩ := prs_get (i := i) (by simpa using h); exact ⟨a, b, by simpa using h1, by simpa using h2, h3⟩
def iDi (te : TD) : TID := fun wd ρ S k => te wd ρ S fun d S1 => match d with
  | .dlk ks vs => ks.length ≤ sizeLine ∧ k (prs ks vs) gT S1
  | _ => False
section
variable {X : Cx} {wd : WD} {tg e : Expr} {te : TD} {apos cpos : Pos}
theorem pid_keys (he : PD X wd e te) : PID X wd tg e (iDk te) := by
  refine ⟨_, pi_keys he.pe, fun σ H F ρ S k P r h hP => ⟨F, ρ, S, _, r, h, fun F1 v H1 d S1 g1 r1 rd q => ?_⟩⟩
  split at q
  · rename_i ks vs
    obtain ⟨a, o, kvs, rfl, h1, h2, rs⟩ := dlk_at rd
    refine ⟨a, o, rfl, .inl ⟨kvs, r1.h.ex _ _ h1, hP _ H1 F1 ks _ S1 g1 r1 ?_ q.1 q.2⟩⟩
    intro F' H' S' i e r g
    have hH := r.ex _ _ (e _ _ h1)
    subst h2
    refine ⟨fun hi => ⟨hH, by rw [hi, List.length_map]; exact Nat.le_refl _⟩, fun d hd => ?_⟩
    rw [List.getElem?_map] at hd
    cases ek : kvs[i]? with
    | none => rw [ek] at hd; cases hd
    | some p =>
      rw [ek] at hd
      cases hd
      refine ⟨⟨hH, (List.getElem?_eq_some_iff.mp ek).1⟩, fun x H2 ⟨e2, k2, v2, e3, e4⟩ => ?_⟩
      rw [ek] at e3
      cases e3
      subst e2 e4
      exact ⟨F', Go.refl, r, R.key _⟩
  · exact q.elim
theorem pid_values (he : PD X wd e te) (hbase : attributeBase e "values" X.env (eval e X.env) = eval e X.env := by rfl) (hline : (apos.endLine == cpos.line) = true := by rfl) : PID X wd tg (.Call (.Attribute e "values" apos) [] [] cpos) (iDv te) := by
  refine ⟨_, pi_values he.pe hbase hline, fun σ H F ρ S k P r h hP => ⟨F, ρ, S, _, r, h, fun F1 v H1 d S1 g1 r1 rd q => ?_⟩⟩
  split at q
  · rename_i ks vs
    obtain ⟨a, o, kvs, rfl, h1, h2, rs⟩ := dlk_at rd
    refine ⟨a, o, kvs, rfl, r1.h.ex _ _ h1, hP _ H1 F1 vs _ S1 g1 r1 ?_ q.1 q.2⟩
    intro F' H' S' i e r g
    have hH := r.ex _ _ (e _ _ h1)
    have rs' := Rs.mono e _ _ rs
    have hl := rs.length
    rw [List.length_map] at hl
    refine ⟨fun hi => ⟨hH, by omega⟩, fun d hd => ?_⟩
    obtain ⟨v, q1, q2⟩ := rs'.get hd
    refine ⟨⟨hH, by have := (List.getElem?_eq_some_iff.mp hd).1; omega⟩, fun x H2 ⟨e2, k2, e3⟩ => ?_⟩
    rw [List.getElem?_map, e3] at q1
    cases q1
    subst e2
    exact ⟨F', Go.refl, r, q2⟩
  · exact q.elim
theorem pid_items {elts : List Expr} {kk : Nat} {tpos : Pos} (he : PD X wd e te) (hbase : attributeBase e "items" X.env (eval e X.env) = eval e X.env := by rfl) (hline : (apos.endLine == cpos.line) = true := by rfl) : PID X wd (.Tuple elts kk tpos) (.Call (.Attribute e "items" apos) [] [] cpos) (iDi te) := by
  refine ⟨_, pi_items he.pe hbase hline, fun σ H F ρ S k P r h hP => ⟨F, ρ, S, _, r, h, fun F1 v H1 d S1 g1 r1 rd q => ?_⟩⟩
  split at q
  · rename_i ks vs
    obtain ⟨a, o, kvs, rfl, h1, h2, rs⟩ := dlk_at rd
    have hl := rs.length
    rw [List.length_map] at hl
    have hkl : ks.length = vs.length := by rw [h2, List.length_map]; exact hl
    refine ⟨a, o, kvs, rfl, r1.h.ex _ _ h1, hP _ H1 F1 _ _ S1 g1 r1 ?_ (by rw [prs_length hkl]; exact q.1) q.2⟩
    intro F' H' S' i e r g
    have hH := r.ex _ _ (e _ _ h1)
    have rs' := Rs.mono e _ _ rs
    refine ⟨fun hi => ⟨hH, by rw [prs_length hkl] at hi; omega⟩, fun d hd => ?_⟩
    obtain ⟨x, y, d1, d2, rfl⟩ := prs_get hd
    obtain ⟨w, q1, q2⟩ := rs'.get d2
    refine ⟨⟨hH, by have := (List.getElem?_eq_some_iff.mp d2).1; omega⟩, fun z H2 ⟨T, k2, v2, e3, ez, eT, eH⟩ => ?_⟩
    rw [List.getElem?_map, e3] at q1
    cases q1
    rw [h2, List.getElem?_map, e3] at d1
    cases d1
    subst ez eH
    obtain ⟨F2, g2, r2, rd2⟩ := newTup r (Rs.cons (R.key k2) (Rs.cons q2 Rs.nil)) eT
    exact ⟨F2, g2, r2, rd2⟩
  · exact q.elim
end
/-! ### list(range(..)) -/
theorem rs_rng {K : PySem.W.Frag} {F : Hp} : ∀ (n : Nat) (lo : Int), Rs K F (rng lo n) ((List.range n).map fun i => V.int (lo + (i : Nat)))
  | 0, lo => Rs.nil
  | n + 1, lo => by
    unfold rng
    rw [List.range_succ_eq_map, List.map_cons, List.map_map]
    refine Rs.cons (by unfold R; simp) ?_
    have := rs_rng (K := K) (F := F) n (lo + 1)
    have e : ((List.range n).map ((fun i : Nat => V.int (lo + (i : Nat))) ∘ Nat.succ)) = (List.range n).map fun i : Nat => V.int (lo + 1 + (i : Nat)) := List.map_congr_left fun i _ => by rw [Function.comp_apply]; congr 1; omega
    rw [e]
    exact this
def dLstRg1 (m : Bool) (ta : TD) : TD := fun wd ρ S k => ta wd ρ S fun d S1 => match d with
  | .int b => (-(2 ^ 62) ≤ b ∧ b < 2 ^ 62 ∧ b.toNat ≤ 2 ^ 24) ∧ mkL m (rng 0 b.toNat) S1 k
  | _ => False
def dLstRg2 (m : Bool) (ta tb : TD) : TD := fun wd ρ S k => ta wd ρ S fun d S1 => tb wd ρ S1 fun e S2 => match d, e with
  | .int a, .int b => (-(2 ^ 62) ≤ a ∧ a < 2 ^ 62 ∧ -(2 ^ 62) ≤ b ∧ b < 2 ^ 62 ∧ (b - a).toNat ≤ 2 ^ 24) ∧ mkL m (rng a (b - a).toNat) S2 k
  | _, _ => False
section
variable {X : Cx} {wd : WD} {a b : Expr} {ta tb : TD} {m : Bool} {p p2 pos pos2 : Pos}
theorem pd_lstRg1 (hc : X.calm = true) (hl : X.mg "list" = none) (hm : X.mg "range" = none) (ha : PD X wd a ta) (hg : Gl X "list" := by rfl) (hg2 : Gl X "range" := by rfl)
    (na : starEach [a] X.env = (false, eval a X.env) :: starEach [] X.env := by rfl) (nl : starEach [.Call (.Name "range" p2) [a] [] pos2] X.env = (false, eval (.Call (.Name "range" p2) [a] [] pos2) X.env) :: starEach [] X.env := by rfl) :
    PD X wd (.Call (.Name "list" p) [.Call (.Name "range" p2) [a] [] pos2] [] pos) (dLstRg1 m ta) := by
  refine PE.pd (pe_listRg hc hg hl (prg_1 hg2 hm ha.pe na) nl) fun σ H F ρ S k r h => ?_
  refine ⟨F, ρ, S, _, r, h, fun F1 x H1 d S1 g1 r1 rd q => ?_⟩
  split at q
  · rename_i j
    unfold R at rd
    subst rd
    obtain ⟨⟨q1, q2, q3⟩, q⟩ := q
    refine ⟨j, rfl, ⟨by omega, by omega, q1, q2, by omega⟩, fun l hl => ?_⟩
    have e : rgV 0 j = (List.range j.toNat).map fun i => V.int (0 + (i : Nat)) := by unfold rgV; rw [show j - 0 = j by omega]
    rw [e]
    exact mkL_ok (Q := fun v H' => ∃ F' d S', Go F H S F' H' S' ∧ Rel X.K wd F' σ H' ρ S' ∧ R X.K F' d v ∧ k d S') r1.h (rs_rng _ _) hl q fun F' v H' d' S' g r' rd hk => ⟨F', d', S', g1.trans g, r1.up g r', rd, hk⟩
  · exact q.elim
theorem pd_lstRg2 (hc : X.calm = true) (hl : X.mg "list" = none) (hm : X.mg "range" = none) (ha : PD X wd a ta) (hb : PD X wd b tb) (hg : Gl X "list" := by rfl) (hg2 : Gl X "range" := by rfl)
    (na : starEach [a, b] X.env = (false, eval a X.env) :: starEach [b] X.env := by rfl) (nb : starEach [b] X.env = (false, eval b X.env) :: starEach [] X.env := by rfl) (hp : (backTo pos2 (starEach [b] X.env)).any (·.1) = false := by rfl)
    (nl : starEach [.Call (.Name "range" p2) [a, b] [] pos2] X.env = (false, eval (.Call (.Name "range" p2) [a, b] [] pos2) X.env) :: starEach [] X.env := by rfl) :
    PD X wd (.Call (.Name "list" p) [.Call (.Name "range" p2) [a, b] [] pos2] [] pos) (dLstRg2 m ta tb) := by
  refine PE.pd (pe_listRg hc hg hl (prg_2 hg2 hm ha.pe hb.pe na nb hp) nl) fun σ H F ρ S k r h => ?_
  refine ⟨F, ρ, S, _, r, h, fun F1 x H1 d S1 g1 r1 rd q => ⟨F1, ρ, S1, _, r1, q, fun F2 y H2 e S2 g2 r2 re q2 => ?_⟩⟩
  split at q2
  · rename_i i j
    unfold R at rd re
    subst rd re
    obtain ⟨⟨b1, b2, b3, b4, b5⟩, q2⟩ := q2
    refine ⟨i, j, rfl, rfl, ⟨b1, b2, b3, b4, b5⟩, fun l hl => ?_⟩
    exact mkL_ok (Q := fun v H' => ∃ F' d S', Go F H S F' H' S' ∧ Rel X.K wd F' σ H' ρ S' ∧ R X.K F' d v ∧ k d S') r2.h (rs_rng _ _) hl q2 fun F' v H' d' S' g r' rd hk => ⟨F', d', S', (g1.trans g2).trans g, r2.up g r', rd, hk⟩
  · exact q2.elim
end
/-! ### list(d.values()) -/
def tListVals (te : TE) : TE := fun σ H Q => te σ H fun x H1 => ∃ (d : Addr) (kvs : List (Key × V)), x = .ref d ∧ Rd H1 d (.dK kvs) ∧ ∀ p, H1 p = none → Q (.ref p) (upd H1 p (.lst (kvs.map (·.2))))
theorem kv_vals : ∀ {kvs : List (Key × V)} {vs : List (Key × Value)}, KV kvs vs → Vals (kvs.map (·.2)) (vs.map (·.2)) := by
  intro kvs vs h
  unfold KV at h
  induction h with
  | nil => exact .nil
  | cons r t ih => exact .cons r.2 ih
theorem items_vals {vs : List (Key × Value)} {acc : Array Value} (h : ItemsOf (fun i v => ∃ k, vs[i]? = some (k, v)) acc vs.length) : acc.toList = vs.map (·.2) := by
  refine List.ext_getElem? fun i => ?_
  rw [List.getElem?_map]
  cases e : acc.toList[i]? with
  | none =>
    have hi : vs.length ≤ i := by
      have := List.getElem?_eq_none_iff.mp e
      rw [Array.length_toList, h.1] at this
      exact this
    rw [List.getElem?_eq_none_iff.mpr hi]; rfl
  | some v =>
    obtain ⟨k, hk⟩ := h.2 i v (by rw [← e, Array.getElem?_toList])
    rw [hk]; rfl
section
variable {X : Cx} {wd : WD} {e : Expr} {te : TE} {p apos cpos pos : Pos}
theorem pe_listVals (hc : X.calm = true) (he : PE X e te) (hg : Gl X "list") (hm : X.mg "list" = none) (hv : bootBuiltins "list" = some (.type "list")) (hbase : attributeBase e "values" X.env (eval e X.env) = eval e X.env := by rfl) (hline : (apos.endLine == cpos.line) = true := by rfl)
    (hs : starEach [.Call (.Attribute e "values" apos) [] [] cpos] X.env = (false, eval (.Call (.Attribute e "values" apos) [] [] cpos) X.env) :: starEach [] X.env := by rfl) :
    PE X (.Call (.Name "list" p) [.Call (.Attribute e "values" apos) [] [] cpos] [] pos) (tListVals te) := by
  refine ⟨fun pins s σ H Q I hq => ?_⟩
  refine wpAny_Call_Name_kw (ld_blt I hg hm hv ?_)
  refine PyProof.Rows.callWith_type1 ?_ hs rfl
  rw [hs]
  show wpAny _ _ (spliced ((false, eval (.Call (.Attribute e "values" apos) [] [] cpos) X.env) :: backTo pos (starEach [] X.env))) _ _ s
  refine Calls.spliced_cons ?_
  refine wpAny_Call_method (T := "dict") (id := "dict.values") hbase rfl hline F.plainAttrs_dict F.slot_dict_values F.type_dict_values (thn (he.run pins s σ H _ I hq) fun u s1 ⟨x, H1, I1, rx, d, kvs, ex, hd, q⟩ => ?_)
  subst ex
  obtain rfl : u = Value.ref d := rx
  obtain ⟨hz, hs0, vs, kv, hdo⟩ := dk_rd I1.hok hd
  obtain ⟨ep, hat⟩ := hdo.dictAt
  have lk : kvs.length = vs.length := Paired.length kv
  have I2 : Inv X pins σ H1 { s1 with heap := s1.heap.push { cls := .type "dict_values", data := .fields #[.ref d] } } := I1.kept (t' := s1.toks) fun b ob q => Heap.get?_push_of_some _ q
  refine ⟨hdo.typeIs, hdo.mapOf.noDict, ?_⟩
  show wpAny _ _ (callWith cpos (.builtin "dict.values") [.ref d] [] []) _ X.xe s1
  refine method_meetsIn F.slot_dict_values F.entry_dict_values rfl (PySem.evalArgs_none ⟨rfl, hdo.typeIs, F.args_dict_values_1 _, _, meets_dict_values (mixKind X.prog X.w) d hs0, ⟨vs, hdo⟩, ?_⟩)
  refine Calls.spliced_nil ?_
  refine PySem.W.kdl_call (PySem.W.kdl_values (knd := mixKind X.prog X.w) (kvs := vs) (ep := ep)) (I1.ok.hd hc) ⟨⟨_, Heap.get?_push_size _ rfl, rfl, rfl⟩, hat.push _⟩ (by omega) fun h' tk acc c hk hS hi => ?_
  refine ⟨.ref _, upd H1 _ (.lst (kvs.map (·.2))), I2.laid (t' := tk) hk (Nat.le_refl _) (show ObjOk X.prog X.w _ _ _ (.lst (kvs.map (·.2))) from ⟨?_, acc.toList, c, ?_, ?_⟩), rfl, q _ (I2.hok.fresh (Nat.le_refl _))⟩
  · rw [List.length_map]; omega
  · rw [items_vals hi]; exact kv_vals kv
  · rw [Array.toArray_toList]; exact hS
end
def dLstV (m : Bool) (t : TD) : TD := fun wd ρ S k => t wd ρ S fun d S1 => match vd S1 d with
  | some (_, vs) => mkL m vs S1 k
  | none => False
theorem pd_lstV {X : Cx} {wd : WD} {e : Expr} {t : TD} {m : Bool} {p apos cpos pos : Pos} (hc : X.calm = true) (hm : X.mg "list" = none) (he : PD X wd e t) (hg : Gl X "list" := by rfl) (hv : bootBuiltins "list" = some (.type "list") := by first | rfl | decide +kernel) (hbase : attributeBase e "values" X.env (eval e X.env) = eval e X.env := by rfl) (hline : (apos.endLine == cpos.line) = true := by rfl)
    (hs : starEach [.Call (.Attribute e "values" apos) [] [] cpos] X.env = (false, eval (.Call (.Attribute e "values" apos) [] [] cpos) X.env) :: starEach [] X.env := by rfl) :
    PD X wd (.Call (.Name "list" p) [.Call (.Attribute e "values" apos) [] [] cpos] [] pos) (dLstV m t) := by
  refine PE.pd (pe_listVals hc he.pe hg hm hv hbase hline hs) fun σ H F ρ S k r h => ?_
  refine ⟨F, ρ, S, _, r, h, fun F1 x H1 d S1 g1 r1 rd q => ?_⟩
  split at q
  · rename_i ks vs hd
    obtain ⟨a, ws, e1, ⟨kvs, h1, h2, h3⟩, rs⟩ := vd_at r1.h rd hd
    subst h3
    exact ⟨a, kvs, e1, h1, fun l hl => mkL_ok (Q := fun v H' => ∃ F' d S', Go F H S F' H' S' ∧ Rel X.K wd F' σ H' ρ S' ∧ R X.K F' d v ∧ k d S') r1.h rs hl q fun F' v H' d' S' g r' rd hk => ⟨F', d', S', g1.trans g, r1.up g r', rd, hk⟩⟩
  · exact q.elim
end Z

set_option Elab.async false
set_option linter.all false
set_option maxRecDepth 100000
set_option maxHeartbeats 4000000
/-! == of live nested lists -/
namespace Z
open PySem PySem.Spec PyProof.Rows L2
/-- what stands there, n steps into the store -/
def trF : Nat → Sto → D → D
  | 0, _, d => d
  | n + 1, S, .adr a => (match S a with | some (.lst xs) => .lst (xs.map (trF n S)) | _ => .adr a)
  | n + 1, S, .tup xs => .tup (xs.map (trF n S))
  | n + 1, S, .lst xs => .lst (xs.map (trF n S))
  | _ + 1, _, d => d
theorem trF_dp {K : PySem.W.Frag} {F H : Hp} {S : Sto} (r : RelH K F H S) : ∀ (n m : Nat) (d : D) (v : V), R K F d v → pln m (trF n S d) → Dp K H v (toPy (trF n S d)) := by
  have all : ∀ (n : Nat), (∀ m d v, R K F d v → pln m (trF n S d) → Dp K H v (toPy (trF n S d))) → ∀ (m : Nat) (xs : List D) (vs : List V), (∀ x ∈ xs.map (trF n S), pln m x) → Rs K F xs vs → DpAll K H vs (toPys (xs.map (trF n S))) := by
    intro n ih m xs
    induction xs with
    | nil => intro vs _ r; unfold Rs at r; subst r; exact .nil
    | cons x xs ih2 =>
      intro vs h r
      unfold Rs at r
      obtain ⟨v, vs', e, h1, h2⟩ := r
      subst e
      exact .cons (ih m x v h1 (h _ List.mem_cons_self)) (ih2 vs' (fun y hy => h y (List.mem_cons_of_mem _ hy)) h2)
  intro n
  induction n with
  | zero => intro m d v rd h; exact pln_dp r.ex m d v h rd
  | succ n ih =>
    intro m d v rd h
    have no : ∀ a, ¬ pln m (.adr a) := fun a h => by cases m <;> (unfold pln at h; exact h)
    cases d with
    | adr a =>
      unfold trF at h ⊢
      split at h
      · rename_i ys q
        obtain ⟨_, vs, h1, h2⟩ := r.so a _ q
        unfold R at rd
        subst rd
        cases m with
        | zero => unfold pln at h; exact h.elim
        | succ m =>
          unfold pln at h
          exact .lst (SqL.of h1) (all n ih m ys vs h h2)
      · exact (no _ h).elim
    | tup ys =>
      unfold trF at h ⊢
      unfold R at rd
      obtain ⟨a, vs, e, h1, h2⟩ := rd
      subst e
      cases m with
      | zero => unfold pln at h; exact h.elim
      | succ m =>
        unfold pln at h
        exact .tup (Evl.ex_t r.ex h1) (all n ih m ys vs h h2)
    | lst ys =>
      unfold trF at h ⊢
      unfold R at rd
      obtain ⟨a, vs, e, h1, h2⟩ := rd
      subst e
      cases m with
      | zero => unfold pln at h; exact h.elim
      | succ m =>
        unfold pln at h
        exact .lst (SqL.of (r.ex _ _ h1)) (all n ih m ys vs h h2)
    | _ => exact pln_dp r.ex m _ _ h rd
def fEqN (d e : D) (S : Sto) (k : KD) : Prop := pln 60 (trF 5 S d) ∧ pln 60 (trF 5 S e) ∧ k (.bl (deq (trF 5 S d) (trF 5 S e))) S
def fNeN (d e : D) (S : Sto) (k : KD) : Prop := pln 60 (trF 5 S d) ∧ pln 60 (trF 5 S e) ∧ k (.bl (!deq (trF 5 S d) (trF 5 S e))) S
section
variable {X : Cx}
theorem od_eqN {kk : Nat} (hr : Rm kk X.A) : OpD X (compareOp .Eq) fEqN := by
  intro F H S x y d e k Q rh rd re h hk
  obtain ⟨h1, h2, h⟩ := h
  obtain ⟨p1, d1⟩ := pln_dep _ _ h1
  obtain ⟨p2, d2⟩ := pln_dep _ _ h2
  refine ⟨fun x y H Q => ∃ a b, Dp X.K H x a ∧ Dp X.K H y b ∧ a.plain = true ∧ b.plain = true ∧ a.depth ≤ 60 ∧ Q (.bl (PyData.eqv a b)) H, ?_, _, _, trF_dp rh 5 _ _ _ rd h1, trF_dp rh 5 _ _ _ re h2, p1, p2, d1, hk F _ H (.bl (deq (trF 5 S d) (trF 5 S e))) S Go.refl rh (by unfold R; rfl) h⟩
  intro pins s σ H x y v u Q I rx ry ⟨a, b, ha, hb, pa, pb, da, q⟩
  obtain ⟨as, r1⟩ := Dp.reads I a x v ha rx
  obtain ⟨bs, r2⟩ := Dp.reads I b y u hb ry
  have := units_of hr
  have hm : min a.depth b.depth ≤ a.depth := Nat.min_le_left _ _
  exact SeqAt.eq_plain r1 r2 pa pb (by omega) ⟨.bl _, H, I, rfl, q⟩
theorem od_neN {kk : Nat} (hr : Rm kk X.A) : OpD X (compareOp .NotEq) fNeN := by
  intro F H S x y d e k Q rh rd re h hk
  obtain ⟨h1, h2, h⟩ := h
  obtain ⟨p1, d1⟩ := pln_dep _ _ h1
  obtain ⟨p2, d2⟩ := pln_dep _ _ h2
  refine ⟨fun x y H Q => ∃ a b, Dp X.K H x a ∧ Dp X.K H y b ∧ a.plain = true ∧ b.plain = true ∧ a.depth ≤ 60 ∧ Q (.bl (!PyData.eqv a b)) H, ?_, _, _, trF_dp rh 5 _ _ _ rd h1, trF_dp rh 5 _ _ _ re h2, p1, p2, d1, hk F _ H (.bl (!deq (trF 5 S d) (trF 5 S e))) S Go.refl rh (by unfold R; rfl) h⟩
  intro pins s σ H x y v u Q I rx ry ⟨a, b, ha, hb, pa, pb, da, q⟩
  obtain ⟨as, r1⟩ := Dp.reads I a x v ha rx
  obtain ⟨bs, r2⟩ := Dp.reads I b y u hb ry
  have := units_of hr
  have hm : min a.depth b.depth ≤ a.depth := Nat.min_le_left _ _
  exact SeqAt.ne_plain r1 r2 pa pb (by omega) ⟨.bl _, H, I, rfl, q⟩
end
theorem fEqN_ok {d e d' e' : D} {S : Sto} {k : KD} (h1 : trF 5 S d = d') (h2 : trF 5 S e = e') (p1 : pln 60 d') (p2 : pln 60 e') (q : k (.bl (deq d' e')) S) : fEqN d e S k := by
  subst h1 h2; exact ⟨p1, p2, q⟩
theorem fNeN_ok {d e d' e' : D} {S : Sto} {k : KD} (h1 : trF 5 S d = d') (h2 : trF 5 S e = e') (p1 : pln 60 d') (p2 : pln 60 e') (q : k (.bl (!deq d' e')) S) : fNeN d e S k := by
  subst h1 h2; exact ⟨p1, p2, q⟩
theorem trF_pln (S : Sto) : ∀ (n m : Nat) (d : D), pln m d → trF n S d = d := by
  intro n
  induction n with
  | zero => intro m d _; rfl
  | succ n ih =>
    intro m d h
    have all : ∀ (m : Nat) (xs : List D), (∀ x ∈ xs, pln m x) → xs.map (trF n S) = xs := fun m xs hx => by
      conv => rhs; rw [← List.map_id xs]
      exact List.map_congr_left fun x hx2 => ih m x (hx x hx2)
    cases d with
    | adr a => cases m <;> (unfold pln at h; exact h.elim)
    | tup xs =>
      cases m with
      | zero => unfold pln at h; exact h.elim
      | succ m => unfold pln at h; unfold trF; rw [all m xs h]
    | lst xs =>
      cases m with
      | zero => unfold pln at h; exact h.elim
      | succ m => unfold pln at h; unfold trF; rw [all m xs h]
    | _ => rfl
theorem trF_adr {S : Sto} {n : Nat} {p : Addr} {xs : List D} (h : S p = some (.lst xs)) : trF (n + 1) S (.adr p) = .lst (xs.map (trF n S)) := by
  unfold trF; rw [h]
theorem trF_tup {S : Sto} {n : Nat} {xs : List D} : trF (n + 1) S (.tup xs) = .tup (xs.map (trF n S)) := rfl
theorem trF_lst {S : Sto} {n : Nat} {xs : List D} : trF (n + 1) S (.lst xs) = .lst (xs.map (trF n S)) := rfl
theorem trF_map {α} {S : Sto} {n m : Nat} {enc : α → D} (xs : List α) (h : ∀ x, pln m (enc x)) : (xs.map enc).map (trF n S) = xs.map enc := by
  rw [List.map_map]; exact List.map_congr_left fun x _ => trF_pln S n m _ (h x)
/-! an int as a test -/
def dTstI (t : TD) : TTD := fun wd ρ S k => t wd ρ S fun d S1 => match d with | .bl b => k b S1 | .int i => k (i != 0) S1 | _ => False
section
variable {X : Cx} {wd : WD} {e : Expr}
theorem pt_valI {t : TD} (h : PD X wd e t) (he : ∀ whole, isTrue e X.env whole = (do let v ← whole; standAt e.pos; holding [v] (truthy v)) := by intro _; rfl) : PTD X wd e (dTstI t) := by
  refine ⟨fun pins s σ H F ρ S k I r hw => ?_⟩
  refine isTrue_plain (thn (h.run pins s σ H F ρ S _ I r hw) fun v s1 ⟨x, H1, F1, d, S1, I1, r1, e1, q1, rd, hk⟩ => ?_) (he _)
  cases d with
  | bl b =>
    unfold R at rd
    subst rd
    cases r1
    exact wpAny_truthy_bool ⟨H1, F1, S1, I1, e1, q1, hk⟩
  | int i =>
    unfold R at rd
    subst rd
    obtain ⟨tk, rfl⟩ := r1
    refine truthy_int ?_
    exact ⟨H1, F1, S1, I1, e1, q1, hk⟩
  | _ => exact (show False from hk).elim
end
end Z

set_option Elab.async false
set_option linter.all false
set_option maxRecDepth 100000
set_option maxHeartbeats 4000000
/-! set comprehensions of ints -/
namespace Z
open PySem PySem.Spec PyProof.Rows L2
section
variable {X : Cx}
theorem addI_ok {pins : List (Addr × Obj)} {σ : L2.St} {H : Hp} {s : Shared} {E : Value → Shared → Prop} {D : Addr} {S : Int → Bool} {n : Nat} {y : Int} {tk : Tok} {Q : Value → Shared → Prop} (I : L2.Inv X pins σ H s) (hD : H D = some (SetO X.w D S n)) (room : n + 1 < scanBound)
    (h : ∀ s', L2.Inv X pins σ (upd H D (SetO X.w D (fun j => S j || decide (j = y)) (if S y = true then n else n + 1))) s' → Q .none s') : wpAny (model X.prog X.w) X.A (call (.builtin "set.add") [.ref D, .int y tk]) Q E s := by
  have R := setO_get I hD
  refine setR_add R room fun h' sb new => ?_
  have he : ∃ u, h'.get? D = some u := by
    have ⟨o, _, _, _, ho, _⟩ := new
    exact ⟨o, ho⟩
  exact h _ (I.write (e := D) (t' := s.toks + 1) (by rw [hD]; trivial) (.inl rfl) (fun b u hb hu => (sb.2 b hb).trans hu) he (setO_new new))
/-- kept as a set of the tracked kind -/
theorem setI_done {pins : List (Addr × Obj)} {σ : L2.St} {H : Hp} {s : Shared} {D : Addr} {S : Int → Bool} {n : Nat} (I : L2.Inv X pins σ H s) (hD : H D = some (SetO X.w D S n)) : L2.Inv X pins σ (upd H D (.set S n)) s := by
  have R := setO_get I hD
  have he : ∃ u, s.heap.get? D = some u := by
    have ⟨o, _, _, _, ho, _⟩ := R
    exact ⟨o, ho⟩
  exact I.write (e := D) (h' := s.heap) (t' := s.toks) (by rw [hD]; trivial) (.inl rfl) (fun b u hb hu => hu) he (show s.heap.SetOf (intKind X.prog X.w) D S n from R.setOf)
def tSci (w : World) (wi : TI) (g : TG) (tt : TT) (te : TE) (vs : List Nat) : TE := fun σ H Q => wi σ H fun J H1 => ∀ D, H1 D = none → ∃ W : Nat → Nat → Hp → Prop, (∃ m, W 0 m (upd H1 D (SetO w D (fun _ => false) 0))) ∧ ∀ i m H, W i m H →
  (J.stop i H ∧ ∃ S n, H D = some (SetO w D S n) ∧ Q (.ref D) (upd H D (.set S n))) ∨ (J.go i H ∧ ∃ Nx : Hp → Prop, (∀ H', Nx H' → ∃ m', m' < m ∧ W (i + 1) m' H') ∧ ∀ x H', J.yld i H x H' → g x (wipe σ vs) H' fun σ2 H2 => wipe σ2 vs = wipe σ vs ∧ tt σ2 H2 fun b H3 =>
    if b = true then te σ2 H3 fun y H4 => ∃ (c : Int) (S : Int → Bool) (n : Nat), y = .int c ∧ H4 D = some (SetO w D S n) ∧ n + 1 < scanBound ∧ Nx (upd H4 D (SetO w D (fun j => S j || decide (j = c)) (if S c = true then n else n + 1))) else Nx H3)
theorem pe_sci {elt tg iter : Expr} {ifs : List Expr} {scope : Scope} {own : List (Str × Nat)} {pos : Pos} {wi : TI} {g : TG} {tt : TT} {te : TE} (hc : X.calm = true) (hN : X.N.Nodup) (hi : PI X tg iter wi) (ok : BlkOk X.N X.env.scope scope own)
    (hg : ∀ (s : Shared) (H : Hp) (C : Addr) (cl : List (Str × Addr)) (fp : List Addr), PG (X.blk s H scope (compEnvC scope cl C X.env) fp) tg g) (ht : ∀ (s : Shared) (H : Hp) (C : Addr) (cl : List (Str × Addr)) (fp : List Addr), PTs (X.blk s H scope (compEnvC scope cl C X.env) fp) ifs tt)
    (he : ∀ (s : Shared) (H : Hp) (C : Addr) (cl : List (Str × Addr)) (fp : List Addr), PE (X.blk s H scope (compEnvC scope cl C X.env) fp) elt te) (hs : ∀ x, foldedSetIterable iter X.env x = pure x := by intro _; rfl) :
    PE X (.SetComp elt [⟨tg, iter, ifs, 0⟩] scope pos) (tSci X.w wi g tt te (own.map (·.2))) := by
  refine ⟨fun pins s σ H Q I h => ?_⟩
  have hfree : ∀ y ∈ scope.names, y.2 = .free → ∃ c, X.env.cells.lookup y.1 = some c := fun y hy e => (ok.free y hy e).elim (fun k => I.ok.has _ (.inl k)) fun k => I.ok.has _ (.inr k)
  rw [PpSet.eval_SetComp]
  refine wpAny_comprehension_free (use := none) rfl hs (closure_ok hfree) ok.kind (fun y hy e => by rw [ok.uniq y hy, e]) (thn (hi.run pins s σ H _ I h) fun xv s1 hx => thn hx fun itv s2 h2 => ?_)
  obtain ⟨it, fp, tn, J, H2, e, I2, T, st2, f2, q⟩ := h2
  subst e
  refine PpSet.newSet_ok (newEnv_comp ?_)
  generalize hD : s2.heap.objs.size = D
  obtain ⟨W, ⟨m0, w0⟩, turn⟩ := q D (I2.hok.fresh (Nat.le_of_eq hD))
  generalize hs3 : ({ s2 with heap := s2.heap.push { cls := .type "set", dict := none, data := .set #[] 0 (.fresh 0 0 (!X.w.params.followText "set-order")) } } : Shared) = s3
  have h3 : s3.heap = s2.heap.push { cls := .type "set", dict := none, data := .set #[] 0 (.fresh 0 0 (!X.w.params.followText "set-order")) } := by rw [← hs3]
  generalize hH3 : upd H2 D (SetO X.w D (fun _ => false) 0) = H3 at w0
  have I3 : L2.Inv X pins σ H3 s3 := by
    rw [← hs3, ← hH3, ← hD]
    exact I2.laid (t' := s2.toks) (fun b o e => Heap.get?_push_of_some _ e) (Nat.le_refl _) (setO_new (setR_fresh X.w))
  have f3 : ∀ b ∈ fp, FpOk X pins H3 b ∧ b < s3.heap.objs.size := fun b hb => by
    obtain ⟨o, e, _⟩ := T.obj _ _ st2 b hb
    have hlt := Heap.lt_size e
    refine ⟨⟨?_, (f2 b hb).2⟩, by rw [h3, Heap.size_push]; exact Nat.lt_succ_of_lt hlt⟩
    rw [← hH3, upd_ne (by rw [← hD]; exact Nat.ne_of_lt hlt)]
    exact (f2 b hb).1
  have st3 : tn 0 s3.heap := T.keep _ _ _ st2 fun b _ o e => by rw [h3]; exact Heap.get?_push_of_some _ e
  have I4 := block_start I3 ok hN f3
  have pg := hg s3 H3 s3.heap.objs.size (cellsFrom (s3.heap.objs.size + 1) scope.names (cloFrom X.env.cells scope.names [])) fp
  have pt := ht s3 H3 s3.heap.objs.size (cellsFrom (s3.heap.objs.size + 1) scope.names (cloFrom X.env.cells scope.names [])) fp
  have pe := he s3 H3 s3.heap.objs.size (cellsFrom (s3.heap.objs.size + 1) scope.names (cloFrom X.env.cells scope.names [])) fp
  show codeAny _ _ (.compStart (.SetComp elt [⟨tg, iter, ifs, 0⟩] scope pos) 0 (.ref it) (.ref D) (compEnvC scope (cellsFrom (s3.heap.objs.size + 1) scope.names (cloFrom X.env.cells scope.names [])) s3.heap.objs.size X.env)) (compPost (model X.prog X.w) X.A X.xe none _ (.ref D) s3.heap.objs.size) { s3 with heap := pushCells (s3.heap.push { cls := .type "dict", data := .dict #[] }) scope.names }
  generalize hce : compEnvC scope (cellsFrom (s3.heap.objs.size + 1) scope.names (cloFrom X.env.cells scope.names [])) s3.heap.objs.size X.env = ce at I4 pg pt pe ⊢
  have cL : ce.locals = s3.heap.objs.size := by subst hce; rfl
  generalize hs4 : ({ s3 with heap := pushCells (s3.heap.push { cls := .type "dict", data := .dict #[] }) scope.names } : Shared) = s4 at I4 ⊢
  have st4 : tn 0 s4.heap := T.keep _ _ _ st3 fun b _ o e => by rw [← hs4]; exact pushCells_keeps _ _ _ _ (Heap.get?_push_of_some _ e)
  -- what the walk stands on is no tracked thing
  have stat : ∀ {σ' : L2.St} {H' : Hp} {s' : Shared}, L2.Inv (X.blk s3 H3 scope ce fp) [] σ' H' s' → (∀ b ∈ fp, H' b = none) → ∀ b ∈ fp, FpOk (X.blk s3 H3 scope ce fp) [] H' b := fun {σ' H' s'} I' hn b hb =>
    ⟨hn b hb, (I'.ok.exf b hb).1, I'.ok.exfs b hb, .inl hb, fun x c e => (I'.ok.exf b hb).2 x c e, fun p hp => absurd (show p ∈ ([] : List (Addr × Obj)) ++ [] from hp) (by simp)⟩
  refine PpSet.codeAny_compStart_set ?_ (T.self X.A 0 _ _ _ st4 ?_)
  all_goals
    refine PpSet.compLoopS_any (fun n s' => ∃ i H', L2.Inv (X.blk s3 H3 scope ce fp) [] (wipe σ (own.map (·.2))) H' s' ∧ tn i s'.heap ∧ (∀ b ∈ fp, H' b = none) ∧ W i n H') ?_ m0 ⟨0, H3, I4, st4, fun b hb => (f3 b hb).1.1, w0⟩
    rintro n s5 ⟨i, H5, I5, st5, n5, w5⟩
    rcases turn i n H5 w5 with ⟨stop, S, sn, hDs, qq⟩ | ⟨go, Nx, hNx, step⟩
    · refine thnF (T.done (X.blk s3 H3 scope ce fp) rfl rfl rfl hc i [] s5 _ H5 (fun _ _ => False) I5 (stat I5 n5) st5 stop) fun r s6 ⟨hr, I6⟩ => ?_
      subst hr
      have I7 : L2.Inv X pins σ H5 s6 := I3.call' (ch := fp) I6.os I6.base I6.hok I6.bare fun b hb => ⟨(f3 b hb).1.2.2.2.1, (f3 b hb).1.2.1, (f3 b hb).1.2.2.2.2.1, (f3 b hb).1.2.2.2.2.2⟩
      have nC : H5 s3.heap.objs.size = none := by
        have z : H5 ce.locals = none := I6.free
        rwa [cL] at z
      obtain ⟨m, hn, _⟩ := I6.loc
      have hn : s6.heap.Ns ce.locals m := hn
      rw [cL] at hn
      have nCD : s3.heap.objs.size ≠ D := fun e => by rw [e, hDs] at nC; cases nC
      obtain ⟨f0, f1, f2', f3', f4, f5⟩ := I3.fpOk (Nat.le_refl _) (show (upd H5 D (.set S sn)) s3.heap.objs.size = none by rw [upd_ne nCD]; exact nC)
      exact ⟨m, hn, fun h'' sb => ⟨.ref D, upd H5 D (.set S sn), (setI_done I7 hDs).turned (t' := s6.toks) (fun b o hb e => (sb.2 b hb).trans e) f0 f1 f3' f4 f5, rfl, qq⟩⟩
    · refine thnF (T.item (X.blk s3 H3 scope ce fp) rfl rfl rfl hc i [] s5 _ H5 (fun _ _ => False) I5 (stat I5 n5) st5 go) fun r s6 ⟨u, hr, h6⟩ => ?_
      subst hr
      refine thnF h6 fun _ s7 ⟨x, H7, I7, r7, y7, st7, n7⟩ => ?_
      refine thnF (pg.run _ s7 _ H7 x u _ (I7.pinned (stat I7 n7) (T.obj _ _ st7)) r7 (step x H7 y7)) fun _ s8 ⟨σ8, H8, I8, hw8, q8⟩ => ?_
      refine thnF (pt.run _ s8 σ8 H8 _ I8 q8) fun b s9 ⟨H9, I9, q9⟩ => ?_
      have fin : ∀ {s' : Shared} {H' : Hp}, L2.Inv (X.blk s3 H3 scope ce fp) ([] ++ pinsAt fp s7.heap) σ8 H' s' → Nx H' → ∃ m, m < n ∧ ∃ i H', L2.Inv (X.blk s3 H3 scope ce fp) [] (wipe σ (own.map (·.2))) H' s' ∧ tn i s'.heap ∧ (∀ b ∈ fp, H' b = none) ∧ W i m H' := fun {s' H'} I' nx => by
        obtain ⟨m', hm, w'⟩ := hNx H' nx
        have pin' : ∀ b ∈ fp, ∀ o, s7.heap.get? b = some o → s'.heap.get? b = some o ∧ H' b = none := fun b hb o e =>
          have z := I'.pin (b, o) (List.mem_append_right _ (List.mem_append_right _ (mem_pinsAt hb e)))
          ⟨z.1, z.2.1⟩
        refine ⟨m', hm, i + 1, H', (I'.unpinned (pins := [])).weak (by rw [← hw8, wipe_length]) (fun j v e => ?_), T.keep _ _ _ st7 fun b hb o e => (pin' b hb o e).1, fun b hb => ?_, w'⟩
        · rw [← hw8] at e
          exact (wipe_some e).1
        · obtain ⟨o, e, _⟩ := T.obj _ _ st7 b hb
          exact (pin' b hb o e).2
      cases b with
      | false =>
        simp only [Bool.false_eq_true, if_false] at q9 ⊢
        exact fin I9 q9
      | true =>
        simp only [if_true] at q9 ⊢
        refine thnF (pe.run _ s9 σ8 H9 _ I9 q9) fun z s10 ⟨yv, H10, I10, r10, cb, S0, k0, ey, hD10, hz10, nx⟩ => ?_
        subst ey
        obtain ⟨tk, rfl⟩ := r10
        exact addI_ok (X := X.blk s3 H3 scope ce fp) I10 hD10 hz10 fun s11 I11 => fin I11 nx
end
/-! by data -/
def compSD (wd : WD) (g : TGD) (tt : TTD) (te : TD) (ρ : Envd) (G : Sto → Prop) : List D → Sto → List Int → (List Int → Sto → Prop) → Prop
  | [], S, acc, k => G S ∧ k acc S
  | d :: ds, S, acc, k => G S ∧ g d ρ S fun ρ1 S1 => tt wd ρ1 S1 fun b S2 => if b = true then te wd ρ1 S2 fun y S3 => (match y with | .int c => compSD wd g tt te ρ G ds S3 (acc ++ [c]) k | _ => False) else compSD wd g tt te ρ G ds S2 acc k
def dSc (wi : TID) (g : TGD) (tt : TTD) (te : TD) (vs : List Nat) : TD := fun wd ρ S k => wi wd ρ S fun ds G S1 => ds.length ≤ 4000 ∧ compSD wd0 g tt te (wipeD ρ vs) G ds S1 [] fun ns S2 => ∀ xs : List Int, xs.Nodup → (∀ i, i ∈ xs ↔ i ∈ ns) → k (.set xs) S2
theorem aside_set {K : PySem.W.Frag} {F H F' H' : Hp} {S S' : Sto} {Dl : Addr} {xs : List Int} {Sf : Int → Bool} (h0 : H Dl = none) (g : Go F H S F' H' S') (r : RelH K F' H' S') (f1 : F' Dl = none) (n1 : S' Dl = none) (hn : xs.Nodup) (hs : ∀ i, Sf i = decide (i ∈ xs)) :
    ∃ F2, Go F H S F2 (upd H' Dl (.set Sf xs.length)) S' ∧ RelH K F2 (upd H' Dl (.set Sf xs.length)) S' ∧ R K F2 (.set xs) (.ref Dl) := by
  have r2 := r.other (o := .set Sf xs.length) f1 n1
  have eF : Ex F' (upd F' Dl (.set Sf xs.length)) := Evl.Ex.new f1
  refine ⟨upd F' Dl (.set Sf xs.length), ⟨g.ex.trans eF, fun a o ha n f => ?_, fun a ha => g.dm a ?_⟩, ⟨fun a v e => ?_, fun a v e => ?_⟩, ?_⟩
  · obtain ⟨q1, q2, q3⟩ := g.fr a o ha n f
    have hne := ne_of_none ha h0
    exact ⟨by rw [upd_ne hne]; exact q1, q2, by rw [upd_ne hne]; exact q3⟩
  · exact upd_none ha
  · by_cases ha : a = Dl
    · subst ha; rw [upd_same] at e; cases e; exact upd_same
    · rw [upd_ne ha] at e; exact r2.ex a v e
  · have ha : a ≠ Dl := fun z => by rw [z, n1] at e; cases e
    obtain ⟨q1, q2⟩ := r2.so a v e
    exact ⟨by rw [upd_ne ha]; exact q1, q2.mono eF rfl⟩
  · unfold R
    exact ⟨Dl, Sf, rfl, upd_same, hs, hn⟩
theorem sc_run {K : PySem.W.Frag} {W0 : World} {w : TI} {wd : WD} {wi : TID} {ws vs : List Nat} {g : TGD} {tt : TTD} {te : TD} {σ : L2.St} {H F : Hp} {ρ : Envd} {S : Sto} {Q : VK} {kk : List Int → Sto → Prop}
    (hw : ∀ σ H F ρ S k (P : It → Hp → Prop), Rel K wd F σ H ρ S → wi wd ρ S k → (∀ J H' F' ds G S', Go F H S F' H' S' → Rel K wd F' σ H' ρ S' → ItOk K J F' ds G → ds.length ≤ sizeLine → k ds G S' → P J H') → w σ H P)
    (hws : ∀ i ∈ ws, i ∈ vs) (r : Rel K wd F σ H ρ S) (h : wi wd ρ S fun ds G S1 => ds.length ≤ 4000 ∧ compSD wd0 g tt te (wipeD ρ vs) G ds S1 [] kk)
    (hk : ∀ (Dl : Addr) (F' H' : Hp) (S' : Sto) (ns xs : List Int) (Sf : Int → Bool), H Dl = none → Go F H S F' H' S' → RelH K F' H' S' → F' Dl = none → S' Dl = none → xs.Nodup → (∀ i, i ∈ xs ↔ i ∈ ns) → (∀ i, Sf i = decide (i ∈ xs)) → kk ns S' → Q (.ref Dl) (upd H' Dl (.set Sf xs.length))) :
    tSci W0 w (liftG K wd0 ws g) (liftT K wd0 (tt wd0)) (lift K wd0 (te wd0)) vs σ H Q := by
  refine hw σ H F ρ S _ _ r h fun J H1 F1 ds G S1 g1 r1 it hz hc Dl hD => ?_
  obtain ⟨hroom, hc⟩ := hc
  obtain ⟨hF1, hS1⟩ := r1.h.fresh hD
  have hHD : H Dl = none := g1.dm Dl hD
  refine ⟨fun i m H' => m = ds.length - i ∧ i ≤ ds.length ∧ ∃ (F' : Hp) (S' : Sto) (ns xs : List Int) (Sf : Int → Bool), Go F H S F' H' S' ∧ Ex F1 F' ∧ RelH K F' H' S' ∧ H' Dl = some (SetO W0 Dl Sf xs.length) ∧ F' Dl = none ∧ S' Dl = none ∧ xs.Nodup ∧ (∀ i, i ∈ xs ↔ i ∈ ns) ∧ (∀ i, Sf i = decide (i ∈ xs)) ∧ xs.length ≤ i ∧ compSD wd0 g tt te (wipeD ρ vs) G (ds.drop i) S' ns kk,
    ⟨ds.length, by simp, Nat.zero_le _, F1, S1, [], [], fun _ => false, ?_, Evl.Ex.refl _, r1.h.other hF1 hS1, upd_same, hF1, hS1, List.nodup_nil, by simp, by simp, Nat.le_refl _, hc⟩, ?_⟩
  · exact g1.trans ⟨Evl.Ex.refl _, fun a o ha n f => ⟨by rw [upd_ne (ne_of_none ha hD)]; exact ha, n, f⟩, fun _ ha => upd_none ha⟩
  rintro i m H' ⟨rfl, hi, F2, S2, ns, xs, Sf, g2, e2, r2, hD2, hF2, hS2, nd, hm, hs, hl2, hc2⟩
  by_cases hlt : i < ds.length
  · obtain ⟨d, hd, hdrop⟩ := drop_get hlt
    rw [hdrop] at hc2
    obtain ⟨hG, hc2⟩ := hc2
    obtain ⟨it1, it2⟩ := it F2 H' S2 i e2 r2 hG
    obtain ⟨it3, it4⟩ := it2 d hd
    refine .inr ⟨it3, fun H3 => ∃ (F' : Hp) (S' : Sto) (ns xs : List Int) (Sf : Int → Bool), Go F H S F' H3 S' ∧ Ex F1 F' ∧ RelH K F' H3 S' ∧ H3 Dl = some (SetO W0 Dl Sf xs.length) ∧ F' Dl = none ∧ S' Dl = none ∧ xs.Nodup ∧ (∀ i, i ∈ xs ↔ i ∈ ns) ∧ (∀ i, Sf i = decide (i ∈ xs)) ∧ xs.length ≤ i + 1 ∧ compSD wd0 g tt te (wipeD ρ vs) G (ds.drop (i + 1)) S' ns kk,
      fun H3 n => ⟨ds.length - (i + 1), by omega, rfl, hlt, n⟩, fun x H3 y => ?_⟩
    obtain ⟨F3, g3, r3, rd⟩ := it4 x H3 y
    have rw3 : Rel K wd0 F3 (L2.wipe σ vs) H3 (wipeD ρ vs) S2 := (((r.wipe vs).up g2 r2).up g3 r3).to0
    refine ⟨F3, wipeD ρ vs, S2, d, _, rw3, rd, hc2, fun F4 σ4 H4 ρ4 S4 g4 r4 k4 q4 => ⟨wipe_keeps k4 hws, ?_⟩⟩
    refine ⟨F4, ρ4, S4, _, r4, q4, fun F5 b H5 S5 g5 r5 q5 => ?_⟩
    have gD : Go F2 H' S2 F5 H5 S5 := (g3.trans g4).trans g5
    cases b with
    | true =>
      rw [if_pos rfl] at q5
      dsimp only
      rw [if_pos rfl]
      refine ⟨F5, ρ4, S5, _, r5, q5, fun F6 v H6 d6 S6 g6 r6 rd6 q6 => ?_⟩
      have gD6 := gD.trans g6
      obtain ⟨hD6, hS6, hF6⟩ := gD6.fr Dl _ hD2 hS2 hF2
      have eF : Ex F2 F6 := gD6.ex
      cases d6 with
      | int c =>
        unfold R at rd6
        subst rd6
        have z := g2.trans gD6
        have gz : ∀ o : HO, Go F H S F6 (upd H6 Dl o) S6 := fun o => ⟨z.ex, fun a o ha n f => by
          obtain ⟨h1, h2, h3⟩ := z.fr a o ha n f
          exact ⟨by rw [upd_ne (ne_of_none ha hHD)]; exact h1, h2, h3⟩, fun a ha => z.dm a (upd_none ha)⟩
        refine ⟨c, Sf, xs.length, rfl, hD6, by unfold scanBound; omega, ?_⟩
        by_cases hcx : c ∈ xs
        · rw [if_pos (by rw [hs]; exact decide_eq_true hcx)]
          refine ⟨F6, S6, ns ++ [c], xs, _, gz _, e2.trans eF, r6.h.other hF6 hS6, upd_same, hF6, hS6, nd, fun j => ?_, fun j => ?_, by omega, q6⟩
          · rw [List.mem_append, List.mem_singleton, hm j]
            exact ⟨fun h => .inl h, fun h => h.elim id fun e => by rw [e]; exact (hm c).mp hcx⟩
          · rw [hs j]
            by_cases hj : j = c
            · subst hj; simp [hcx]
            · simp [hj]
        · rw [if_neg (by rw [hs]; simpa using hcx)]
          refine ⟨F6, S6, ns ++ [c], xs ++ [c], _, gz _, e2.trans eF, r6.h.other hF6 hS6, by rw [upd_same, List.length_append]; rfl, hF6, hS6, ?_, fun j => ?_, fun j => ?_, by rw [List.length_append]; simp; omega, q6⟩
          · rw [List.nodup_append]
            exact ⟨nd, by simp, fun a ha b hb e => by rw [List.mem_singleton.mp hb] at e; rw [e] at ha; exact hcx ha⟩
          · rw [List.mem_append, List.mem_append, hm j]
          · rw [hs j]
            by_cases hj : j = c
            · subst hj; simp [hcx]
            · simp [hj]
      | _ => exact (show False from q6).elim
    | false =>
      rw [if_neg (by decide)] at q5
      dsimp only
      rw [if_neg (by decide)]
      obtain ⟨hD5, hS5, hF5⟩ := gD.fr Dl _ hD2 hS2 hF2
      exact ⟨F5, S5, ns, xs, Sf, g2.trans gD, e2.trans gD.ex, r5.h, hD5, hF5, hS5, nd, hm, hs, by omega, q5⟩
  · have ei : i = ds.length := by omega
    subst ei
    rw [List.drop_length] at hc2
    obtain ⟨it1, _⟩ := it F2 H' S2 _ e2 r2 hc2.1
    exact .inl ⟨it1 rfl, Sf, xs.length, hD2, hk Dl F2 H' S2 ns xs Sf hHD g2 r2 hF2 hS2 nd hm hs hc2.2⟩
section
variable {X : Cx} {wd : WD} {pos : Pos} {elt tg iter : Expr} {ifs : List Expr} {scope : Scope} {own : List (Str × Nat)} {ws : List Nat} {wi : TID} {g : TGD} {tt : TTD} {te : TD}
theorem pd_sc (hc : X.calm = true) (hN : X.N.Nodup) (ok : BlkOk X.N X.env.scope scope own) (hi : PID X wd tg iter wi)
    (hg : ∀ (s : Shared) (H : Hp) (C : Addr) (cl : List (Str × Addr)) (fp : List Addr), PGD (X.blk s H scope (compEnvC scope cl C X.env) fp) wd0 tg ws g) (ht : ∀ (s : Shared) (H : Hp) (C : Addr) (cl : List (Str × Addr)) (fp : List Addr), PTsD (X.blk s H scope (compEnvC scope cl C X.env) fp) wd0 ifs tt)
    (he : ∀ (s : Shared) (H : Hp) (C : Addr) (cl : List (Str × Addr)) (fp : List Addr), PD (X.blk s H scope (compEnvC scope cl C X.env) fp) wd0 elt te) (hws : ∀ i ∈ ws, i ∈ own.map (·.2) := by decide) (hs : ∀ x, foldedSetIterable iter X.env x = pure x := by intro _; rfl) :
    PD X wd (.SetComp elt [⟨tg, iter, ifs, 0⟩] scope pos) (dSc wi g tt te (own.map (·.2))) := by
  obtain ⟨w, pi, hw⟩ := hi.pi
  refine PE.pd (pe_sci (g := liftG X.K wd0 ws g) (tt := liftT X.K wd0 (tt wd0)) (te := lift X.K wd0 (te wd0)) hc hN pi ok (fun s H C cl fp => (hg s H C cl fp).pg) (fun s H C cl fp => (ht s H C cl fp).pts) (fun s H C cl fp => (he s H C cl fp).pe) hs) fun σ H F ρ S k r h => ?_
  refine sc_run hw hws r h fun Dl F' H' S' ns xs Sf h0 gg rr f1 n1 nd hm hs hk => ?_
  obtain ⟨F2, g2, r2, rd⟩ := aside_set h0 gg rr f1 n1 nd hs
  exact ⟨F2, .set xs, S', g2, r.up g2 r2, rd, hk xs nd hm⟩
end
/-! what a set is asked -/
theorem set_at {K : PySem.W.Frag} {F H : Hp} {S : Sto} {xs : List Int} {v : V} (r : RelH K F H S) (rd : R K F (.set xs) v) : ∃ a Sf, v = .ref a ∧ H a = some (.set Sf xs.length) ∧ ∀ i, Sf i = decide (i ∈ xs) := by
  unfold R at rd
  obtain ⟨a, Sf, e, h1, h2, _⟩ := rd
  exact ⟨a, Sf, e, r.ex _ _ h1, h2⟩
def fInS (d e : D) (S : Sto) (k : KD) : Prop := match d, e with | .int i, .set xs => k (.bl (decide (i ∈ xs))) S | _, _ => False
def fNotInS (d e : D) (S : Sto) (k : KD) : Prop := match d, e with | .int i, .set xs => k (.bl (!decide (i ∈ xs))) S | _, _ => False
def cLenS (ds : List D) (S : Sto) (k : KD) : Prop := match ds with | [.set xs] => k (.int xs.length) S | _ => False
section
variable {X : Cx}
theorem od_inS : OpD X (compareOp .In) fInS := by
  intro F H S x y d e k Q rh rd re h hk
  unfold fInS at h
  split at h
  · rename_i i xs
    obtain ⟨a, Sf, e1, h1, h2⟩ := set_at rh re
    unfold R at rd
    refine ⟨fun x y H Q => ∃ i a Sf n, x = .int i ∧ y = .ref a ∧ H a = some (.set Sf n) ∧ Q (.bl (Sf i)) H, ?_, i, a, Sf, _, rd, e1, h1, hk F _ H (.bl (decide (i ∈ xs))) S Go.refl rh (by rw [h2]; unfold R; rfl) h⟩
    intro pins s σ H x y v u Q I rx ry ⟨i, a, Sf, n, ex, ey, ha, q⟩
    subst ex ey
    obtain ⟨tk, rfl⟩ := rx
    cases ry
    have hS : s.heap.SetOf (intKind X.prog X.w) a Sf n := I.hok a _ ha
    exact wpAny_inSet_of (intKind_is _ _ _ _) rfl hS ⟨.bl _, H, I.tok _, rfl, q⟩
  · exact h.elim
theorem od_notInS : OpD X (compareOp .NotIn) fNotInS := by
  intro F H S x y d e k Q rh rd re h hk
  unfold fNotInS at h
  split at h
  · rename_i i xs
    obtain ⟨a, Sf, e1, h1, h2⟩ := set_at rh re
    unfold R at rd
    refine ⟨fun x y H Q => ∃ i a Sf n, x = .int i ∧ y = .ref a ∧ H a = some (.set Sf n) ∧ Q (.bl (!Sf i)) H, ?_, i, a, Sf, _, rd, e1, h1, hk F _ H (.bl (!decide (i ∈ xs))) S Go.refl rh (by rw [h2]; unfold R; rfl) h⟩
    intro pins s σ H x y v u Q I rx ry ⟨i, a, Sf, n, ex, ey, ha, q⟩
    subst ex ey
    obtain ⟨tk, rfl⟩ := rx
    cases ry
    have hS : s.heap.SetOf (intKind X.prog X.w) a Sf n := I.hok a _ ha
    exact wpAny_notInSet_of (intKind_is _ _ _ _) rfl hS ⟨.bl _, H, I.tok _, rfl, q⟩
  · exact h.elim
theorem cd_lenS : ClD X (.builtin "len") cLenS := by
  intro F H S vs ds k Q rh rs h hk
  unfold cLenS at h
  split at h
  · rename_i xs
    obtain ⟨v, rfl, rd⟩ := rs.one
    obtain ⟨a, Sf, e1, h1, h2⟩ := set_at rh rd
    refine ⟨fun xs H Q => ∃ a Sf n, xs = [.ref a] ∧ H a = some (.set Sf n) ∧ Q (.int n) H, ?_, a, Sf, _, by rw [e1], h1, hk F _ H (.int xs.length) S Go.refl rh (by unfold R; rfl) h⟩
    intro pins s σ H xs us Q I r ⟨a, Sf, n, ex, ha, q⟩
    subst ex
    obtain ⟨u, rfl, rx⟩ := vals1 r
    cases rx
    have hS : s.heap.SetOf (intKind X.prog X.w) a Sf n := I.hok a _ ha
    obtain ⟨o, es, ep, t, ho, hex, hd, _, _, hb, hf, hn⟩ := hS
    have hfit : (es.size : Int) < 2 ^ 63 := by unfold scanBound at hb; omega
    exact call_len_set ho hex hd hf hfit ⟨.int n, H, I.tok _, ⟨_, by rw [hn]⟩, q⟩
  · exact h.elim
end
end Z

set_option Elab.async false
set_option linter.all false
set_option maxRecDepth 100000
set_option maxHeartbeats 4000000
/-! == and != of two instances with an own __eq__ -/
namespace Z
open PySem PySem.Spec PyProof.Rows L2
structure EqO (P : Program) (w : World) (K : PySem.W.Frag) (mg : Str → Option Value) (base : Heap) (k : Nat) (C : Addr) (sp : SpD) : Prop where
  ex : ∃ (f : Addr) (fd : FuncData) (ps : List Str), FnZ P w K mg base k f fd ps sp ∧ PySem.W.findIn K (.ref C) "__eq__" = some (some (.ref f)) ∧ PySem.W.isFn K (.ref f) = true ∧ Binds K fd ps []
structure NeX (K : PySem.W.Frag) (C : Addr) : Prop where
  ne : PySem.W.findIn K (.ref C) "__ne__" = some (some (.builtin "object.__ne__"))
  hm : PySem.W.mroIn K C (.type "object") = some true
def nexB (K : PySem.W.Frag) (C : Addr) : Bool := decide (PySem.W.findIn K (.ref C) "__ne__" = some (some (.builtin "object.__ne__"))) && decide (PySem.W.mroIn K C (.type "object") = some true)
theorem nex_of {K : PySem.W.Frag} {C : Addr} (h : nexB K C = true) : NeX K C := by
  unfold nexB at h
  simp only [Bool.and_eq_true, decide_eq_true_eq] at h
  exact ⟨h.1, h.2⟩
def clsIsB (K : PySem.W.Frag) (C : Addr) : Bool := decide (PySem.W.kitOne K (.ref C) (.ref C) = some true) && ["NoneType", "bool", "int", "str", "tuple", "list", "dict", "set"].all (fun T => decide (PySem.W.kitOne K (.type T) (.ref C) = some false)) && decide (PySem.W.findIn K (.ref C) "__class__" = some (some (.builtin "object.__class__"))) &&
  decide (PySem.W.specialIn K (.builtin "object.__class__") "__get__" = some (some (.builtin "getset_descriptor.__get__"))) && decide (PySem.W.takesIn K (.builtin "object.__class__") = some true) && decide (PySem.W.mroIn K C (.type "object") = some true)
theorem clsIs_of {K : PySem.W.Frag} {C : Addr} (h : clsIsB K C = true) : ClsIs K C := by
  unfold clsIsB at h
  simp only [Bool.and_eq_true, decide_eq_true_eq, List.all_eq_true] at h
  obtain ⟨⟨⟨⟨⟨h1, h2⟩, h3⟩, h4⟩, h5⟩, h6⟩ := h
  exact ⟨h1, h2, h3, h4, h5, h6⟩
def eqK (k : KD) : KD := fun d S => match d with | .bl b => k (.bl b) S | _ => False
def neK (k : KD) : KD := fun d S => match d with | .bl b => k (.bl (!b)) S | _ => False
def fEqO (C : Addr) (ns : List Str) (sp : SpD) (d e : D) (S : Sto) (k : KD) : Prop := IsIn C ns S d ∧ IsIn C ns S e ∧ sp [d, e] S (eqK k) fun _ _ _ => False
def fNeO (C : Addr) (ns : List Str) (sp : SpD) (d e : D) (S : Sto) (k : KD) : Prop := IsIn C ns S d ∧ IsIn C ns S e ∧ sp [d, e] S (neK k) fun _ _ _ => False
section
variable {X : Cx} {wd : WD} {C : Addr} {ns : List Str} {sp : SpD} {kk : Nat}
/-- the own == run, at any A with room -/
theorem ownEq_run {f : Addr} {fd : FuncData} {ps : List Str} (Fn : FnZ X.prog X.w X.K X.mg X.base kk f fd ps sp) (hb : Binds X.K fd ps []) {A : Around} (hg : A.guards = some []) (hR : Room kk A) (hfr : A.frames = X.A.frames) {pins : List (Addr × Obj)} {σ : L2.St} {H : Hp} {s : Shared} (I : Inv X pins σ H s) {F : Hp} {S : Sto}
    {d e : D} {a b : Addr} {k' : KD} (rh : RelH X.K F H S) (rd : R X.K F d (.ref a)) (re : R X.K F e (.ref b)) (h : sp [d, e] S k' fun _ _ _ => False) {Q : Value → Shared → Prop}
    (hk : ∀ v z H' F' d' S' s', RelV z v → Inv X pins σ H' s' → Go F H S F' H' S' → RelH X.K F' H' S' → R X.K F' d' z → k' d' S' → Q v s') :
    wpAny (model X.prog X.w) A (call (.ref f) [.ref a, .ref b]) Q X.xe s := by
  have e0 : Env0 X.prog X.w X.K X.mg X.base A X.stack s H := by
    have e := I.env0
    exact ⟨by rw [hfr]; exact e.frames, e.mod, e.bs, e.bsz, e.funs, e.frf, e.hok, e.bare⟩
  have hl : [d, e].length = ps.length := Fn.len _ _ _ _ h
  refine wpAny_call (codeAny_mono (Fn.run A X.stack s H ⟨[.ref a, .ref b], []⟩ [.ref a, .ref b] [.ref a, .ref b] (fun v H' => ∃ F' d' S', Go F H S F' H' S' ∧ RelH X.K F' H' S' ∧ R X.K F' d' v ∧ k' d' S') (fun _ _ _ => False) hg hR e0 (by
    have := hb s [.ref a, .ref b] I.kIn (by simpa using hl)
    simpa using this) (.cons rfl (.cons rfl .nil)) ⟨F, S, [d, e], _, _, rh, Rs.cons rd (Rs.cons re Rs.nil), h, fun F' v H' d' S' g r' rd' q => ⟨F', d', S', g, r', rd', q⟩, fun _ _ _ _ _ _ _ _ _ z => z⟩) fun rr s' hq => ?_)
  cases rr with
  | error er =>
    obtain ⟨_, _, _, _, _, _, _, _, _, _, _, _, z⟩ := hq
    exact z.elim
  | ok fl =>
    cases fl with
    | ret w =>
      obtain ⟨z, H', I', rz, F', d', S', g, r', rd', q⟩ := I.after hq
      exact hk _ _ _ _ _ _ _ rz I' g r' rd' q
    | next => exact False.elim hq
    | brk => exact False.elim hq
    | cont => exact False.elim hq
theorem od_eqO (L : EqO X.prog X.w X.K X.mg X.base kk C sp) (hr : Rm kk X.A) : OpD X (compareOp .Eq) (fEqO C ns sp) := by
  intro F H S x y d e k Q rh rd re h hk
  obtain ⟨hi, hj, h⟩ := h
  obtain ⟨f, fd, ps, Fn, hs, hf, hb⟩ := L.ex
  obtain ⟨a, dx, fs, ev, ha, _⟩ := isIn_at rh rd hi
  obtain ⟨b, dy, gs, ew, hb', _⟩ := isIn_at rh re hj
  subst ev ew
  refine ⟨fun x y H Q => x = .ref a ∧ y = .ref b ∧ (∃ dx fs, H a = some (.ins C dx fs)) ∧ (∃ dx fs, H b = some (.ins C dx fs)) ∧ ∃ F S, RelH X.K F H S ∧ R X.K F d (.ref a) ∧ R X.K F e (.ref b) ∧ sp [d, e] S (eqK k) (fun _ _ _ => False) ∧ (∀ F' v H' d' S', Go F H S F' H' S' → RelH X.K F' H' S' → R X.K F' d' v → k d' S' → Q v H'), ?_, rfl, rfl, ⟨dx, fs, ha⟩, ⟨dy, gs, hb'⟩, F, S, rh, rd, re, h, hk⟩
  intro pins s σ H x y v u Q I rx ry ⟨ex, ey, ⟨dx, fs, ha⟩, ⟨dy, gs, hb'⟩, F, S, rh, rd, re, h, hk⟩
  subst ex ey
  cases rx
  cases ry
  obtain ⟨mA, J, _⟩ := ins_get I.hok ha
  obtain ⟨mB, J', _⟩ := ins_get I.hok hb'
  obtain ⟨od, J, _⟩ := J.look
  obtain ⟨od', J', _⟩ := J'.look
  obtain ⟨m, hF⟩ := I.fr
  refine PySem.W.cmp_K (op := .Eq) (tb := .ref C) hr.r.units0 hF I.ok.mod.kin J J'.type (by simp [PySem.W.notFirst]) hs hf ?_
  refine ownEq_run Fn hb hr.g hr.r rfl I rh rd re h fun v z H' F' d' S' s' rz I' g r' rd' q => ?_
  unfold eqK at q
  split at q
  · rename_i t
    unfold R at rd'
    subst rd'
    cases rz
    exact ⟨.bl t, H', I', rfl, hk F' (.bl t) H' (.bl t) S' g r' (by unfold R; rfl) q⟩
  · exact q.elim
theorem od_neO (L : EqO X.prog X.w X.K X.mg X.base kk C sp) (N : NeX X.K C) (hr : Rm (kk + 1) X.A) : OpD X (compareOp .NotEq) (fNeO C ns sp) := by
  intro F H S x y d e k Q rh rd re h hk
  obtain ⟨hi, hj, h⟩ := h
  obtain ⟨f, fd, ps, Fn, hs, hf, hb⟩ := L.ex
  obtain ⟨a, dx, fs, ev, ha, _⟩ := isIn_at rh rd hi
  obtain ⟨b, dy, gs, ew, hb', _⟩ := isIn_at rh re hj
  subst ev ew
  refine ⟨fun x y H Q => x = .ref a ∧ y = .ref b ∧ (∃ dx fs, H a = some (.ins C dx fs)) ∧ (∃ dx fs, H b = some (.ins C dx fs)) ∧ ∃ F S, RelH X.K F H S ∧ R X.K F d (.ref a) ∧ R X.K F e (.ref b) ∧ sp [d, e] S (neK k) (fun _ _ _ => False) ∧ (∀ F' v H' d' S', Go F H S F' H' S' → RelH X.K F' H' S' → R X.K F' d' v → k d' S' → Q v H'), ?_, rfl, rfl, ⟨dx, fs, ha⟩, ⟨dy, gs, hb'⟩, F, S, rh, rd, re, h, hk⟩
  intro pins s σ H x y v u Q I rx ry ⟨ex, ey, ⟨dx, fs, ha⟩, ⟨dy, gs, hb'⟩, F, S, rh, rd, re, h, hk⟩
  subst ex ey
  cases rx
  cases ry
  obtain ⟨mA, J, _⟩ := ins_get I.hok ha
  obtain ⟨mB, J', _⟩ := ins_get I.hok hb'
  obtain ⟨od, J, _⟩ := J.look
  obtain ⟨od', J', _⟩ := J'.look
  obtain ⟨m, hF⟩ := I.fr
  have hu1 : X.A.units + 1 < cLine := by have := units_of hr; omega
  have hrun := ownEq_run (A := X.A.in1) Fn hb hr.g hr.r.in1 rfl I rh rd re h (Q := fun v s' => ∃ t, v = .bool t ∧ EP X pins σ Q (.bool (!t)) s') fun v z H' F' d' S' s' rz I' g r' rd' q => by
    unfold neK at q
    split at q
    · rename_i t
      unfold R at rd'
      subst rd'
      cases rz
      exact ⟨t, rfl, .bl (!t), H', I', rfl, hk F' (.bl (!t)) H' (.bl (!t)) S' g r' (by unfold R; rfl) q⟩
    · exact q.elim
  have hK := I.kIn
  obtain ⟨hp, g, dd, tk, os⟩ := s
  show wpAny _ _ (richCompare .NotEq (.ref a) (.ref b)) _ _ _
  unfold richCompare
  simp only [oneThing_ref]
  refine wpAny_holding ?_
  refine wpAny_bind (wpAny_cRoomFor (by omega) ?_)
  rw [cmpInfo_NotEq]
  dsimp only
  refine wpAny_bind (J.type.here ?_)
  refine wpAny_bind (J'.type.here ?_)
  rw [show (Value.ref C != Value.ref C) = false from by simp]
  simp only [Bool.false_eq_true, if_false]
  refine wpAny_bind (wpAny_pure ?_)
  simp only [Bool.false_eq_true, if_false]
  refine wpAny_bind (wpAny_mono (Q := fun r s' => ∃ t, r = some (.bool t) ∧ EP X pins σ Q (.bool t) s') ?_ (fun r s' hv => ?_) fun _ _ e => e)
  · simp only [tryCompare]
    refine wpAny_bind (NtL.csib (J.type.andThen (PySem.W.looks_findIn hK N.ne)) (PySem.F.cmp_object.ne.bind _) ?_)
    refine wpAny_call (codeAny_call_builtin PySem.F.cmp_object.ne.plain PySem.F.cmpEntry_ne (PySem.W.check_slot PySem.F.cmpKind_ne PySem.F.cmpSplit_ne (J.type.andThen (PySem.W.looks_mroIn hK N.hm)) (PySem.F.cmpArgs_ne _ _) ?_))
    unfold Builtin.«object.__ne__»
    repeat (first
    | with_reducible refine wpAny_cRoomFor (A := X.A.in1) (by exact hu1) ?_
    | (refine wpAny_bind (m := callSpecialIfBound? (.ref a) (Str.ofString "__eq__") [.ref b])
        (PySem.W.ifBound_K hK J hs hf (wpAny_mono hrun (fun r s' hr => ?_) fun _ _ e => e)))
    | wp_step)
    obtain ⟨b, rfl, hq⟩ := hr
    repeat (first | exact wpAny_pure ⟨_, rfl, hq⟩ | exact wpAny_pure hq | (refine wpAny_bind (m := truthy (.bool _)) (wpAny_truthy_bool ?_)) | wp_step)
  · obtain ⟨t, rfl, hq⟩ := hv
    first | exact hq | exact wpAny_pure hq | exact wpAny_pure (wpAny_pure hq)
end
end Z

set_option Elab.async false
set_option linter.all false
set_option maxRecDepth 100000
set_option maxHeartbeats 4000000
/-! a lambda without parameters, handed to a def that calls it -/
namespace Z
open PySem PySem.Spec PyProof.Rows L2 LamX
/-- what the call of a door does -/
abbrev ActD := Sto → KD → XD → Prop
def dAct (i : Nat) (c : D) (act : ActD) : TD := fun wd ρ S k => ρ[i]? = some (some c) ∧ act S k fun C y S' => wd.f C y ρ S'
/-- the slots, as data; what is in none is None -/
def cloD (ρ : Envd) : List D := ρ.map fun o => o.getD .non
def cloV (ρ : Envd) (σ : L2.St) : List V := (ρ.zip σ).map fun p => match p.1 with | some _ => p.2.getD .non | none => .non
theorem cloRs {K : PySem.W.Frag} {F : Hp} : ∀ {ρ : Envd} {σ : L2.St}, (∀ (i : Nat) d, ρ[i]? = some (some d) → ∃ v, σ[i]? = some (some v) ∧ R K F d v) → ρ.length = σ.length → Rs K F (cloD ρ) (cloV ρ σ)
  | [], _, _, _ => by unfold cloD cloV; exact Rs.nil
  | x :: ρ, [], _, hl => by cases hl
  | x :: ρ, y :: σ, h, hl => by
    have ih := cloRs (ρ := ρ) (σ := σ) (fun i d e => h (i + 1) d (by rw [List.getElem?_cons_succ]; exact e)) (by simpa using hl)
    unfold cloD cloV at ih ⊢
    rw [List.zip_cons_cons, List.map_cons, List.map_cons]
    refine Rs.cons ?_ ih
    cases x with
    | none => show R K F .non .non; unfold R; rfl
    | some d =>
      obtain ⟨v, e, r⟩ := h 0 d rfl
      have e : some y = some (some v) := e
      cases e
      exact r
theorem cloAt {K : PySem.W.Frag} {F : Hp} {ρ : Envd} {σ : L2.St} (h : Rs K F (cloD ρ) (cloV ρ σ)) (hl : ρ.length = σ.length) (hd : ∀ (i : Nat) d, ρ[i]? = some (some d) → ∃ v, σ[i]? = some (some v)) (i : Nat) (d : D) (e : ρ[i]? = some (some d)) : ∃ v, σ[i]? = some (some v) ∧ R K F d v := by
  obtain ⟨v, hv⟩ := hd i d e
  have e1 : (cloD ρ)[i]? = some d := by unfold cloD; rw [List.getElem?_map, e]; rfl
  obtain ⟨u, e2, r⟩ := h.get e1
  have e3 : (cloV ρ σ)[i]? = some v := by
    unfold cloV
    rw [List.getElem?_map, (List.getElem?_zip_eq_some (z := (some d, some v))).mpr ⟨e, hv⟩]; rfl
  rw [e2] at e3
  cases e3
  exact ⟨v, hv, r⟩
section
variable {X : Cx} {pins : List (Addr × Obj)} {σ : L2.St} {H : Hp} {s : Shared}
theorem codeO_no {c : Addr} {q : Str} (ps : Array Value) : CodeO c q ≠ .tbl ps := fun z => by unfold CodeO at z; cases z
/-- a lambda is made: its code object is new, or stands in the table -/
theorem lam_mk {F : Hp} {S : Sto} {c P : Addr} {params : Arguments} {body : Expr} {scope : Scope} {pos : Pos} {E Q : Value → Shared → Prop} (I : Inv X pins σ H s) (r : RelH X.K F H S) (hS : S P = some (.tab (X.env.qual ++ "<lambda>")))
    (TB : TabB X.base X.mg c P) (hcode : X.env.code = .ref c) (hdef : defaultsOf params X.env = ([], [])) (hfree : ∀ y ∈ scope.names, y.2 = .free → ∃ c, X.env.cells.lookup y.1 = some c)
    (h : ∀ (f c' : Addr) (pm ctv : Value) (F1 H1 : Hp) (s' : Shared), Inv X pins σ H1 s' → Go F H S F1 H1 S → RelH X.K F1 H1 S → F1 c' = some (CodeO c' (X.env.qual ++ "<lambda>")) →
      s'.heap.get? f = some (PySem.W.kla_obj "<lambda>" (X.env.qual ++ "<lambda>") params body scope (cloFrom X.env.cells scope.names []) pm c' ctv) → H1 f = none → f ∉ frs X.stack → Q (.ref f) s') :
    wpAny (model X.prog X.w) X.A (eval (.Lambda params body scope pos) X.env) Q E s := by
  obtain ⟨fP, ps, hP, ht, ha⟩ := r.so P _ hS
  refine PySem.W.kla_eval hdef ?_
  have bP : s.heap.BuiltinsAt X.mg P := TB.bm.keeps I.bk
  have hP' : s.heap.get? P = some { cls := .none, data := .fields ps } := I.hok P _ hP
  have nofr : ∀ f, s.heap.objs.size ≤ f → f ∉ frs X.stack := by
    intro f hf z
    rcases List.mem_cons.mp (I.stkSub _ z) with e | e
    · have h1 := I.lt
      rw [← e] at h1
      exact absurd (Nat.lt_of_lt_of_le h1 hf) (Nat.lt_irrefl _)
    · exact I.nofs hf e
  cases hc : codeAmong pos ps.toList with
  | some cv =>
    obtain ⟨c', e, hco⟩ := ha pos cv hc
    subst e
    refine PySem.W.kla_makeFunctionHit (mg := X.mg) (c := c) (P := P) (ps := ps) (closure_ok hfree) I.ok.glob (I.mod.glob.keeps I.bk) hcode (TB.code.keeps I.bk) hP' ht hc bP fun ctv h' tk hx hsz => ?_
    exact h _ c' ((X.mg "__name__").getD .none) ctv F H _ (I.kept fun b o e => Heap.get?_push_of_some _ (hx b o e)) Go.refl r hco (Heap.get?_push_size _ rfl) (I.hok.fresh hsz) (nofr _ hsz)
  | none =>
    refine PySem.W.kla_makeFunction (mg := X.mg) (c := c) (P := P) (ps := ps) (closure_ok hfree) I.ok.glob (I.mod.glob.keeps I.bk) hcode (TB.code.keeps I.bk) hP' ht hc TB.gP bP fun c' ctv h' tk hx hge hlt hrec htb => ?_
    obtain ⟨c2, oc, vs, t, e2, hoc, hd, hv⟩ := hrec
    cases e2
    have nC : H c' = none := I.hok.fresh hge
    have hsz : s.heap.objs.size ≤ h'.objs.size := by omega
    have PC : P ≠ c' := ne_of_none hP nC
    have I1 := inv_table (q := X.env.qual ++ "<lambda>") (t' := tk) (more := #[rawInt pos.line, rawInt pos.col, .ref c']) (c := c') (h' := h'.push (PySem.W.kla_obj "<lambda>" (X.env.qual ++ "<lambda>") params body scope (cloFrom X.env.cells scope.names []) ((X.mg "__name__").getD .none) c' ctv)) I hP
      (fun b o hb e => Heap.get?_push_of_some _ (hx b o hb e)) (Heap.get?_push_of_some _ htb) hge ⟨oc, vs, t, Heap.get?_push_of_some _ hoc, hd, hv⟩
    obtain ⟨fC, sC⟩ := r.fresh nC
    have eF : Ex F (upd F c' (CodeO c' (X.env.qual ++ "<lambda>"))) := Evl.Ex.new fC
    have at_ : ∀ b, b ≠ P → b ≠ c' → upd (upd H P (.tbl (ps ++ #[rawInt pos.line, rawInt pos.col, .ref c']))) c' (CodeO c' (X.env.qual ++ "<lambda>")) b = H b := fun b h1 h2 => by rw [upd_ne h2, upd_ne h1]
    have notP : ∀ b, S b = none → b ≠ P := fun b n z => by rw [z, hS] at n; cases n
    have g : Go F H S (upd F c' (CodeO c' (X.env.qual ++ "<lambda>"))) (upd (upd H P (.tbl (ps ++ #[rawInt pos.line, rawInt pos.col, .ref c']))) c' (CodeO c' (X.env.qual ++ "<lambda>"))) S :=
      ⟨eF, fun a o ho n f => ⟨by rw [at_ a (notP a n) (ne_of_none ho nC)]; exact ho, n, by rw [upd_ne (ne_of_none ho nC)]; exact f⟩, fun a ho => upd_none (upd_none ho)⟩
    have r1 : RelH X.K (upd F c' (CodeO c' (X.env.qual ++ "<lambda>"))) (upd (upd H P (.tbl (ps ++ #[rawInt pos.line, rawInt pos.col, .ref c']))) c' (CodeO c' (X.env.qual ++ "<lambda>"))) S := by
      refine ⟨fun a o e => ?_, fun a o e => ?_⟩
      · by_cases hac : a = c'
        · subst hac; rw [upd_same] at e ⊢; exact e
        · rw [upd_ne hac] at e
          have hap : a ≠ P := fun z => by rw [z, fP] at e; cases e
          rw [at_ a hap hac]
          exact r.ex a o e
      · have hac : a ≠ c' := fun z => by rw [z, sC] at e; cases e
        refine ⟨by rw [upd_ne hac]; exact (r.so a o e).1, ?_⟩
        by_cases hap : a = P
        · subst hap
          rw [hS] at e
          cases e
          have eL : (ps ++ #[rawInt pos.line, rawInt pos.col, .ref c']).toList = ps.toList ++ [rawInt pos.line, rawInt pos.col, .ref c'] := by simp
          refine ⟨_, by rw [upd_ne PC, upd_same], by rw [eL]; exact PySem.TriplesOk_snoc _ _ _ _ ht, fun p' cv hcv => ?_⟩
          rw [eL] at hcv
          rcases among_app _ ht hcv with z | z
          · obtain ⟨c0, e1, e2⟩ := ha p' cv z
            exact ⟨c0, e1, eF _ _ e2⟩
          · exact ⟨c', z, upd_same⟩
        · exact (r.so a o e).2.mono eF (at_ a hap hac)
    have n1 : h'.objs.size ≠ c' := by omega
    have n2 : h'.objs.size ≠ P := Nat.ne_of_gt (Nat.lt_of_lt_of_le (Heap.lt_size hP') hsz)
    exact h _ c' ((X.mg "__name__").getD .none) ctv _ _ _ I1 g r1 upd_same (Heap.get?_push_size _ rfl) (by rw [at_ _ n2 n1]; exact I.hok.fresh hsz) (nofr _ hsz)
/-- the door's call, in the def that got it -/
theorem pd_act {wm wd : WD} {F : Hp} {ρ : Envd} {S : Sto} {Eg : XK} {Ng : List Str} {qg : Str} {sg : Scope} {g f c' : Addr} {cdg pm ctv : Value} {params : Arguments} {body : Expr} {scope : Scope} {k i : Nat} {a : Str} {pn : List (Addr × Obj)} {xe : Value → Shared → Prop} {tb : TD} {p1 p2 : Pos}
    (I : Inv X pins σ H s) (r : Rel X.K wm F σ H ρ S) (L : LamS X.env.scope scope) (hf : s.heap.get? f = some (PySem.W.kla_obj "<lambda>" (X.env.qual ++ "<lambda>") params body scope (cloFrom X.env.cells scope.names []) pm c' ctv)) (hfn : H f = none) (hfr : f ∉ frs X.stack)
    (hbind : bindArgs (PySem.W.kla_fn "<lambda>" (X.env.qual ++ "<lambda>") params body scope (cloFrom X.env.cells scope.names []) pm (.ref c') ctv) ⟨[], []⟩ = pure [])
    (hr : Rm (k + 1) (X.A.deeper (envOfC qg sg s.heap.objs.size g cdg)))
    (tk : TkD ((CxD X.prog X.w X.K X.mg X.base Ng qg sg g cdg X.A X.stack s H Eg).tr pn xe) wd)
    (hbody : ∀ (A : Around) (outer : List Env) (s : Shared) (H : Hp) (E : XK) (wl : WD), Rm k (lamCx X A outer s H E scope f c').A → TkD (lamCx X A outer s H E scope f c') wl → PD (lamCx X A outer s H E scope f c') wl body tb)
    (hN : Ng[i]? = some a) (hv : Vis sg a) (hd : (a == ("__debug__" : Str)) = false := by decide) (hcd : (a == ("__classdict__" : Str)) = false := by decide) :
    PD ((CxD X.prog X.w X.K X.mg X.base Ng qg sg g cdg X.A X.stack s H Eg).tr pn xe) wd (.Call (.Name a p1) [] [] p2) (dAct i (.clo f c' (X.env.qual ++ "<lambda>") (cloD ρ) (cloV ρ σ)) fun S1 k1 ex1 => ∀ F H, tb ⟨fun C y _ S2 => ex1 C y S2, F, H, S1⟩ ρ S1 k1) := by
  refine ⟨fun pinsZ sZ σZ HZ FZ ρZ SZ kk IZ rZ h => ?_⟩
  obtain ⟨hs, ht⟩ := h
  obtain ⟨vf, hsv, hR⟩ := rZ.sl i _ hs
  unfold R at hR
  obtain ⟨rfl, hco, hRs⟩ := hR
  have relL : Rel X.K ⟨fun C y _ S2 => wd.f C y ρZ S2, FZ, HZ, SZ⟩ FZ σ HZ ρ SZ := ⟨rZ.h, cloAt hRs r.len fun j d e => let ⟨v, e1, _⟩ := r.sl j d e; ⟨v, e1⟩, r.len, Go.refl⟩
  refine wpAny_Call_Name_kw (thn ((pe_var (pos := p1) (i := i) hN hv hd hcd).run pinsZ sZ σZ HZ (fun v H1 => v = .ref f ∧ H1 = HZ) IZ ⟨.ref f, hsv, rfl, rfl⟩) fun u s1 ⟨v, H1, I1, r1, q1⟩ => ?_)
  obtain ⟨ev, eH⟩ := q1
  subst ev
  subst eH
  obtain rfl : u = Value.ref f := r1
  have of1 := I1.base.keep f _ hf hfn hfr (fun z => nomatch (show f ∈ ([] : List Addr) from z))
  refine PySem.W.callWith_F0 ⟨_, _, _, _, of1⟩ ?_
  have un : Un (frs X.stack) [] H H1 s.heap s1.heap := I1.base
  obtain ⟨⟨oc, vs, t, hoc, hdc, hvc⟩, _, _⟩ := I1.hok c' _ (rZ.h.ex _ _ hco)
  have rc : codeAny (model X.prog X.w) (X.A.deeper (envOfC qg sg s.heap.objs.size g cdg)) (.call (.ref f) ⟨[], []⟩) (CR (L2.CX X.prog X.w) (envOfC qg sg s.heap.objs.size g cdg :: X.stack) X.prog X.w H1 s1
      (fun v H' => ∃ F' d S', Go FZ H1 SZ F' H' S' ∧ Rel X.K wd F' σZ H' ρZ S' ∧ R X.K F' d v ∧ kk d S') (fun cls d H' => WL X.K wd cls d σZ H')) s1 := by
    refine PySem.W.kla_callFunE hr.r.depth of1 rfl L.co L.gen rfl ⟨c', oc, vs, t, rfl, hoc, hdc, hvc⟩ ?_
    rw [hbind]
    refine wpAny_pure (wpAny_newFunctionEnv (fun y hy => (L.own y hy).2) (fun y hy => absurd hy (by simp)) (fun h₁ hns hsb => ⟨I1.nolimit.fresh _ hsb, ?_⟩) L.kind)
    show codeAny _ _ (.expr body (lamEnv X scope s1.heap.objs.size f c')) _ _
    have kp : ∀ b o, s1.heap.get? b = some o → h₁.get? b = some o := fun b o e => hsb.extBut b o (Nat.ne_of_lt (Heap.lt_size e)) (Heap.get?_push_of_some _ e)
    have J : Inv (lamCx X (X.A.deeper (envOfC qg sg s.heap.objs.size g cdg)) (envOfC qg sg s.heap.objs.size g cdg :: X.stack) s1 H1 (fun cls d H' => WL X.K wd cls d σZ H') scope f c') [] σ H1 { s1 with heap := h₁, toks := s1.toks + ([] : List (Str × Value)).length } :=
      lam_start2 I L I1.env0 hr.r.hd un hns kp
    have tkk : Takes (lamCx X (X.A.deeper (envOfC qg sg s.heap.objs.size g cdg)) (envOfC qg sg s.heap.objs.size g cdg :: X.stack) s1 H1 (fun cls d H' => WL X.K wd cls d σZ H') scope f c') (fun cls d _ H' => WL X.K wd cls d σZ H') := takes_of rfl rfl rfl rfl
    have tkl : TkD (lamCx X (X.A.deeper (envOfC qg sg s.heap.objs.size g cdg)) (envOfC qg sg s.heap.objs.size g cdg :: X.stack) s1 H1 (fun cls d H' => WL X.K wd cls d σZ H') scope f c') ⟨fun C y _ S2 => wd.f C y ρZ S2, FZ, H1, SZ⟩ := tk_of (tkk.imp fun cls d σ' H' ⟨F', ρ', S', C, y, e1, r', fl, q⟩ => ⟨F', ρZ, S', C, y, e1, rZ.up r'.go r'.h, fl, q⟩)
    refine PySem.W.kla_codeExpr (wpAny_mono ((hbody (X.A.deeper (envOfC qg sg s.heap.objs.size g cdg)) (envOfC qg sg s.heap.objs.size g cdg :: X.stack) s1 H1 (fun cls d H' => WL X.K wd cls d σZ H') _ ⟨hr.g, hr.r.deeper _⟩ tkl).run [] _ σ H1 FZ ρ SZ kk J relL (ht FZ H1)) (fun v s' hq => ?_) fun e s' hq => hq)
    obtain ⟨w', H', F', d, S', J', rv, g', r', rd, q⟩ := hq
    exact ⟨w', H', J'.os, J'.bare, J'.base, J'.hok, rv, F', d, S', g', rZ.up g' r'.h, rd, q⟩
  refine wpAny_call (codeAny_mono rc fun rr s' hq => ?_)
  cases rr with
  | error e => exact tk.at σZ pinsZ H1 s1 e s' I1 hq
  | ok fl =>
    cases fl with
    | ret u =>
      obtain ⟨v, H', I', rv', F', d, S', g, r', rd', q⟩ := I1.after hq
      exact ⟨v, H', F', d, S', I', rv', g, r', rd', q⟩
    | next => exact False.elim hq
    | brk => exact False.elim hq
    | cont => exact False.elim hq
end
/-- a def's body is run once -/
theorem run_one {P : Program} {w : World} {K : PySem.W.Frag} {mg : Str → Option Value} {base : Heap} {x qual : Str} {params : Arguments} {body : List Stmt} {scope : Scope} {dV kV doc pm cdv ct oc : Value} {an od : Option Addr} {osl : Array (Option Value)} {f : Addr} {N ps : List Str} {k : Nat} {t : TSD} {A : Around} {outer : List Env} {s : Shared} {H F0 : Hp} {args : Args} {us : List Value} {vs : List V} {Q : VK} {E : XK} {S : Sto} {ds : List D} {kk : KD} {ex : XD}
    (lk : K.lookup f = some ⟨oc, od, .func (PySem.W.fnOf x qual params body scope dV kV doc pm an cdv ct), osl⟩) (hcd : PySem.W.codeIn K cdv qual = true) (Sc : FnScope N ps scope) (hg : A.guards = some []) (hr : Room (k + 1) A) (e0 : Env0 P w K mg base A outer s H) (hb : BindsTo s (PySem.W.fnOf x qual params body scope dV kV doc pm an cdv ct) args (ps.zip us)) (r : Vals vs us)
    (rH : RelH K F0 H S) (rds : Rs K F0 ds vs) (hl : ds.length = ps.length)
    (hbody : ∀ wd : WD, Rm k (CxD P w K mg base N qual scope f cdv A outer s H E).A → TkD (CxD P w K mg base N qual scope f cdv A outer s H E) wd →
      PassesOwn (model P w) (CxD P w K mg base N qual scope f cdv A outer s H E).A (CxD P w K mg base N qual scope f cdv A outer s H E).env (CxD P w K mg base N qual scope f cdv A outer s H E).xe →
      PSsD (CxD P w K mg base N qual scope f cdv A outer s H E) wd body t)
    (vc : t (wdX ex F0 H S) (endX kk) (startD N.length ds) S) (hQ : ∀ F' v H' d S', Go F0 H S F' H' S' → RelH K F' H' S' → R K F' d v → kk d S' → Q v H')
    (hE : ∀ F' H' S' C x d, Go F0 H S F' H' S' → RelH K F' H' S' → Fld K F' H' d x → ex C x S' → E (.ref C) d H') :
    codeAny (model P w) A (.call (.ref f) args) (CR (L2.CX P w) outer P w H s Q E) s := by
  have hl : vs.length = ps.length := by rw [rds.length]; exact hl
  have KX : K.In s.heap := e0.mod.kin.keeps fun b o e => (e0.bs b o e).1
  have lim : s.heap.NoLimit := e0.mod.nolimit.keeps fun b o e => (e0.bs b o e).1
  have hkind : ∀ y ∈ ps.zip us, scope.names.lookup y.1 = some .local ∨ (scope.names.lookup y.1 = some .cell ∧ ((cellsFrom (s.heap.objs.size + 1) scope.names []).lookup y.1).isSome = true) := fun ⟨n, v⟩ hy => by
    rcases Sc.par n (List.of_mem_zip hy).1 with q | q
    · exact .inl q
    · exact .inr ⟨q, PySem.W.cellsFrom_some _ _ _ (.inl q)⟩
  refine codeAny_call_function hr.depth (KX _ _ lk) rfl Sc.co Sc.gen rfl (PySem.W.codeRec_of KX hcd) (hb _ _ _ _ ?_)
  refine wpAny_newFunctionEnv_cells Sc.kind hkind fun env he s1 x => ?_
  subst he
  refine ⟨lim.keeps x.toInCall.keep, codeAny_func ?_⟩
  have I : Inv (CxD P w K mg base N qual scope f cdv A outer s H E) [] (start N vs) H s1 := inv_start Sc hr.hd e0 hl r x
  have rel : Rel K (wdX ex F0 H S) F0 (start N vs) H (startD N.length ds) S := rel_start rH rds Go.refl
  have tkk : Takes (CxD P w K mg base N qual scope f cdv A outer s H E) (fun cls d _ H' => E cls d H') := takes_of rfl rfl rfl rfl
  have tk : TkD (CxD P w K mg base N qual scope f cdv A outer s H E) (wdX ex F0 H S) := tk_of (tkk.imp fun cls d σ' H' ⟨F', ρ', S', C, y, e1, r', fl, S0, sub, q⟩ => by
    subst e1
    exact hE F' H' S0 C y d (r'.go.sub sub) (r'.h.sub sub) fl q)
  have hp : PassesOwn (model P w) (CxD P w K mg base N qual scope f cdv A outer s H E).A (CxD P w K mg base N qual scope f cdv A outer s H E).env (CxD P w K mg base N qual scope f cdv A outer s H E).xe := passes_of rfl
  refine wpAny_mono ((hbody _ ⟨deeper_guards hg, hr.deeper _⟩ tk hp).run [] s1 (start N vs) H F0 (startD N.length ds) S (endX kk) I rel vc) (fun fl s' hz => ?_) fun e s' hz => hz
  have fin : ∀ {σ' : L2.St} {H' F' : Hp} {S' : Sto} {v : V} {u : Value} {d : D}, Inv (CxD P w K mg base N qual scope f cdv A outer s H E) [] σ' H' s' → RelV v u → Go F0 H S F' H' S' → RelH K F' H' S' → R K F' d v → (∃ S0, SSub S0 S' ∧ kk d S0) → CE outer P w H s Q u s' :=
    fun {σ' H' F' S' v u d} J rv g rr rd ⟨S0, sub, q⟩ => ⟨v, H', J.os, J.bare, J.base, J.hok, rv, hQ F' v H' d S0 (g.sub sub) (rr.sub sub) rd q⟩
  cases fl with
  | ret u =>
    obtain ⟨v, σ', H', F', d, S', J, rv, g, rr, rd, q⟩ := hz
    exact fin J rv g rr rd q
  | next =>
    obtain ⟨σ', H', F', ρ', S', J, g, rr, q⟩ := hz
    exact fin (v := V.non) (u := Value.none) (d := .non) J rfl g rr.h (by unfold R; rfl) q
  | brk =>
    obtain ⟨_, _, _, _, _, _, _, _, q⟩ := hz
    exact False.elim q
  | cont =>
    obtain ⟨_, _, _, _, _, _, _, _, q⟩ := hz
    exact False.elim q
/-- a def that gets a door, by what it makes of it -/
structure CalL (P : Program) (w : World) (K : PySem.W.Frag) (mg : Str → Option Value) (base : Heap) (k : Nat) (x : Str) (sp : D → ActD → SpD) : Prop where
  ex : ∃ (a : Str) (g : Addr) (fd : FuncData) (params : Arguments) (body : List Stmt) (scope : Scope) (N : List Str) (t : D → ActD → TSD), mg x = some (.ref g) ∧ FunD K x x params body scope [] [] g fd ∧ FnScope N [a] scope ∧ N[0]? = some a ∧ Vis scope a ∧ (a == ("__debug__" : Str)) = false ∧ (a == ("__classdict__" : Str)) = false ∧
    L2.Binds K fd [a] [] ∧
    (∀ c act ds S kk ex, sp c act ds S kk ex → ds.length = 1) ∧
    (∀ (cdv : Value) (A : Around) (outer : List Env) (s : Shared) (H : Hp) (E : XK) (wd : WD) (c : D) (act : ActD), Rm k (CxD P w K mg base N x scope g cdv A outer s H E).A → TkD (CxD P w K mg base N x scope g cdv A outer s H E) wd →
      PassesOwn (model P w) (CxD P w K mg base N x scope g cdv A outer s H E).A (CxD P w K mg base N x scope g cdv A outer s H E).env (CxD P w K mg base N x scope g cdv A outer s H E).xe →
      (∀ (wd : WD) (pn : List (Addr × Obj)) (xe : Value → Shared → Prop) (p1 p2 : Pos), TkD ((CxD P w K mg base N x scope g cdv A outer s H E).tr pn xe) wd → PD ((CxD P w K mg base N x scope g cdv A outer s H E).tr pn xe) wd (.Call (.Name a p1) [] [] p2) (dAct 0 c act)) →
      PSsD (CxD P w K mg base N x scope g cdv A outer s H E) wd body (t c act)) ∧
    (∀ c act ds S kk ex F H, sp c act ds S kk ex → t c act (wdX ex F H S) (endX kk) (startD N.length ds) S)
/-- x(lambda: ..): tb what the lambda's body does, with the maker's slots -/
def dLam (P : Addr) (q : Str) (sp : D → ActD → SpD) (tb : TD) : TD := fun wd ρ S k => S P = some (.tab q) ∧ ∀ c : D, sp c (fun S1 k1 ex1 => ∀ F H, tb ⟨fun C y _ S2 => ex1 C y S2, F, H, S1⟩ ρ S1 k1) [c] S k fun C y S2 => wd.f C y ρ S2
section
variable {X : Cx}
theorem pd_lam {wd : WD} {k : Nat} {x : Str} {c P : Addr} {sp : D → ActD → SpD} {tb : TD} {params : Arguments} {body : Expr} {scope : Scope} {p lpos pos : Pos} (C : CalL X.prog X.w X.K X.mg X.base (k + 1) x sp) (TB : TabB X.base X.mg c P) (hcode : X.env.code = .ref c) (hr : Rm (k + 2) X.A) (tk : TkD X wd)
    (L : LamS X.env.scope scope) (hdef : defaultsOf params X.env = ([], []))
    (hbind : ∀ (q : Str) (cl : List (Str × Addr)) (pm cv ctv : Value), bindArgs (PySem.W.kla_fn "<lambda>" q params body scope cl pm cv ctv) ⟨[], []⟩ = pure [])
    (hbody : ∀ (A : Around) (outer : List Env) (s : Shared) (H : Hp) (E : XK) (f c' : Addr) (wl : WD), Rm k (lamCx X A outer s H E scope f c').A → TkD (lamCx X A outer s H E scope f c') wl → PD (lamCx X A outer s H E scope f c') wl body tb)
    (hg : Gl X x := by rfl) (hdb : (x == ("__debug__" : Str)) = false := by decide) :
    PD X wd (.Call (.Name x p) [.Lambda params body scope lpos] [] pos) (dLam P (X.env.qual ++ "<lambda>") sp tb) := by
  obtain ⟨a, g, fd, pg, bg, sg, Ng, t, hm, F, Sg, hNg, hva, hd, hcd, hb, hlen, hbg, hvc⟩ := C.ex
  have hkp := F.kp
  obtain ⟨oc, od, dV, kV, doc, pm, an, cdv, ct, osl, rfl, lk, hcg, hdV, hkV⟩ := F.ex
  refine ⟨fun pins s σ H F0 ρ S kk I r h => ?_⟩
  obtain ⟨hP, h⟩ := h
  refine wpAny_Call_Name_kw (ld_glob I hg hm ?_ hdb)
  refine PySem.W.callWith_K (h₀ := X.base) I.ok.mod.kin hkp ?_ (by rfl) (by rfl)
  show wpAny _ _ (spliced ((false, eval (.Lambda params body scope lpos) X.env) :: backTo pos (starEach [] X.env))) _ _ s
  refine Calls.spliced_cons (lam_mk I r.h hP TB hcode hdef (L.has I.ok) fun f c' pm' ctv F1 H1 s' I1 g1 r1 hco hf hfn hfr => ?_)
  refine Calls.spliced_nil ⟨I1.kIn, ?_⟩
  have rel := r.up g1 r1
  have hs := h (.clo f c' (X.env.qual ++ "<lambda>") (cloD ρ) (cloV ρ σ))
  have hR : R X.K F1 (.clo f c' (X.env.qual ++ "<lambda>") (cloD ρ) (cloV ρ σ)) (.ref f) := by
    unfold R
    exact ⟨rfl, hco, cloRs rel.sl rel.len⟩
  have rc : codeAny (model X.prog X.w) X.A (.call (.ref g) ⟨[.ref f], []⟩) (CR (L2.CX X.prog X.w) X.stack X.prog X.w H1 s' (fun v H' => ∃ F' d S', Go F1 H1 S F' H' S' ∧ Rel X.K wd F' σ H' ρ S' ∧ R X.K F' d v ∧ kk d S') (fun cls d H' => WL X.K wd cls d σ H')) s' := by
    refine run_one (N := Ng) (ps := [a]) (us := [.ref f]) (vs := [.ref f]) (k := k + 1) lk hcg Sg hr.g hr.r I1.env0 (hb s' [.ref f] I1.kIn rfl) (.cons rfl .nil) r1 (Rs.cons hR Rs.nil) rfl (fun wd' hr' tk' hp' => hbg cdv X.A X.stack s' H1 _ wd' _ _ hr' tk' hp' fun wd2 pn xe p1 p2 tk2 => ?_) (hvc _ _ _ _ _ _ F1 H1 hs) (fun F' v H' d S' g' r' rd' q => ⟨F', d, S', g', rel.up g' r', rd', q⟩) (fun F' H' S' C y d g' r' fl q => ⟨F', ρ, S', C, y, rfl, rel.up g' r', fl, q⟩)
    exact pd_act (i := 0) I1 rel L hf hfn hfr (hbind _ _ _ _ _) hr' tk2 (fun A outer s H E wl h1 h2 => hbody A outer s H E f c' wl h1 h2) hNg hva hd hcd
  refine wpAny_call (codeAny_mono rc fun rr s2 hq => ?_)
  cases rr with
  | error e => exact tk.at σ pins H1 s' e s2 I1 hq
  | ok fl =>
    cases fl with
    | ret u =>
      obtain ⟨v, H', I', rv', F', d, S', g', r', rd', q⟩ := I1.after hq
      exact ⟨v, H', F', d, S', I', rv', g1.trans g', r', rd', q⟩
    | next => exact False.elim hq
    | brk => exact False.elim hq
    | cont => exact False.elim hq
end
theorem CalL.mono {P : Program} {w : World} {K : PySem.W.Frag} {mg : Str → Option Value} {base : Heap} {j k : Nat} {x : Str} {sp : D → ActD → SpD} (C : CalL P w K mg base j x sp) (h : j ≤ k) : CalL P w K mg base k x sp := by
  obtain ⟨a, g, fd, pg, bg, sg, Ng, t, hm, F, Sg, hNg, hva, hd, hcd, hb, hlen, hbg, hvc⟩ := C.ex
  exact ⟨a, g, fd, pg, bg, sg, Ng, t, hm, F, Sg, hNg, hva, hd, hcd, hb, hlen, fun cdv A outer s H E wd c act hr tk hp => hbg cdv A outer s H E wd c act (hr.mono h) tk hp, hvc⟩
/-! ### defs that make lambdas -/
abbrev lamQ (x : Str) : Str := (x ++ ".<locals>.") ++ "<lambda>"
def tabA (K : PySem.W.Frag) (x : Str) : Addr := ((PySem.W.tabIn K x).getD (0, 0)).2
def tabC (K : PySem.W.Frag) (x : Str) : Addr := ((PySem.W.tabIn K x).getD (0, 0)).1
section
variable {P : Program} {w : World} {K : PySem.W.Frag} {mg : Str → Option Value} {base : Heap} {x qual : Str} {params : Arguments} {body : List Stmt} {scope : Scope} {dvs : List V} {kws : List (Str × V)} {f : Addr} {fd : FuncData}
theorem fnz_ofT {N ps : List Str} {k : Nat} {sp : SpD} {t : TSD} {cdv : Value} (F : FunD K x qual params body scope dvs kws f fd) (hcv : fd.code = cdv) (Sc : FnScope N ps scope) (len : ∀ ds S kk ex, sp ds S kk ex → ds.length = ps.length)
    (hbody : ∀ (A : Around) (outer : List Env) (s : Shared) (H : Hp) (E : XK) (wd : WD), Rm k (CxD P w K mg base N qual scope f cdv A outer s H E).A → TkD (CxD P w K mg base N qual scope f cdv A outer s H E) wd →
      PassesOwn (model P w) (CxD P w K mg base N qual scope f cdv A outer s H E).A (CxD P w K mg base N qual scope f cdv A outer s H E).env (CxD P w K mg base N qual scope f cdv A outer s H E).xe →
      PSsD (CxD P w K mg base N qual scope f cdv A outer s H E) wd body t)
    (vc : ∀ ds S kk ex F H, sp ds S kk ex → t (wdX ex F H S) (endX kk) (startD N.length ds) S) : FnZ P w K mg base (k + 1) f fd ps sp := by
  obtain ⟨oc, od, dV, kV, doc, pm, an, cdv', ct, osl, rfl, lk, hcd, _, _⟩ := F.ex
  cases hcv
  refine ⟨len, fun A outer s H args us vs Q E hg hr e0 hb r hsp => ?_⟩
  obtain ⟨F0, S, ds, kk, ex, rH, rds, hs, hQ, hE⟩ := hsp
  exact run_one lk hcd Sc hg hr e0 hb r rH rds (len _ _ _ _ hs) (fun wd h1 h2 h3 => hbody A outer s H E wd h1 h2 h3) (vc ds S kk ex F0 H hs) hQ hE
theorem codeT {h : Heap} {c Pt : Addr} (F : FunD K x qual params body scope dvs kws f fd) (X : K.In h) (G : h.Ns mainGlobals mg) (hm : mg x = some (.ref f)) (ht : PySem.W.tabIn K x = some (c, Pt)) : fd.code = .ref c := by
  obtain ⟨oc, od, dV, kV, doc, pm, an, cdv', ct, osl, rfl, lk, _⟩ := F.ex
  exact PySem.W.law_code X G ht hm (X _ _ lk) rfl
end
/-- so many makers, each with a table of its own that is none of the kept objects -/
def tabsB (xs : List Str) (K : PySem.W.Frag) : Bool := xs.all (fun x => (PySem.W.tabIn K x).isSome && (K.lookup (tabA K x)).isNone) && decide ((xs.map (tabA K)).Nodup)
theorem tabsB_in {xs : List Str} {K : PySem.W.Frag} (h : tabsB xs K = true) {x : Str} (hx : x ∈ xs) : PySem.W.tabIn K x = some (tabC K x, tabA K x) ∧ K.lookup (tabA K x) = none := by
  unfold tabsB at h
  rw [Bool.and_eq_true, List.all_eq_true] at h
  have h1 := h.1 x hx
  rw [Bool.and_eq_true] at h1
  obtain ⟨h1, h2⟩ := h1
  unfold tabA tabC
  cases e : PySem.W.tabIn K x with
  | none => rw [e] at h1; cases h1
  | some p =>
    refine ⟨rfl, ?_⟩
    unfold tabA at h2
    rw [e] at h2
    exact Option.isNone_iff_eq_none.mp h2
/-- the store at the law's start: the makers' tables -/
def tabS (xs : List Str) (K : PySem.W.Frag) : Sto := fun b => (xs.find? fun x => tabA K x == b).map fun x => .tab (lamQ x)
theorem tabS_at {xs : List Str} {K : PySem.W.Frag} (h : tabsB xs K = true) {x : Str} (hx : x ∈ xs) : tabS xs K (tabA K x) = some (.tab (lamQ x)) := by
  unfold tabsB at h
  rw [Bool.and_eq_true, decide_eq_true_iff] at h
  have hn := h.2
  unfold tabS
  have : xs.find? (fun y => tabA K y == tabA K x) = some x := by
    induction xs with
    | nil => cases hx
    | cons y ys ih =>
      rw [List.map_cons, List.nodup_cons] at hn
      rw [List.find?_cons]
      by_cases e : tabA K y = tabA K x
      · rw [beq_iff_eq.mpr e]
        rcases List.mem_cons.mp hx with rfl | hx
        · rfl
        · exact absurd (List.mem_map.mpr ⟨x, hx, e.symm⟩) hn.1
      · rw [beq_eq_false_iff_ne.mpr e]
        refine ih ⟨?_, hn.2⟩ ?_ hn.2
        · have := h.1
          rw [List.all_cons, Bool.and_eq_true] at this
          exact this.2
        · rcases List.mem_cons.mp hx with rfl | hx
          · exact absurd rfl e
          · exact hx
  rw [this]; rfl
theorem tabS_mem {xs : List Str} {K : PySem.W.Frag} {b : Addr} {o : DO} (h : tabS xs K b = some o) : ∃ x ∈ xs, tabA K x = b ∧ o = .tab (lamQ x) := by
  unfold tabS at h
  cases e : xs.find? (fun y => tabA K y == b) with
  | none => rw [e] at h; cases h
  | some x =>
    rw [e] at h
    cases h
    have := List.find?_some e
    exact ⟨x, List.mem_of_find?_eq_some e, by simpa using this, rfl⟩
/-- the law's call, from a heap with the makers' empty tables -/
theorem law_callZT {P : Program} {w : World} {K : PySem.W.Frag} {mg mb : Str → Option Value} {k : Nat} {fa a : Addr} {fd : FuncData} {x : Str} {sp : SpD} {s₁ : Shared} {vs : List Value} {ns : List Int} {ms : List Str} (hms : tabsB ms K = true)
    (KX : K.In s₁.heap) (hns : s₁.heap.Ns mainGlobals mg) (hb : s₁.heap.Ns builtinsNs mb) (hbb : ∀ x : Str, x ≠ "__name__" → mb x = bootBuiltins x) (hlim : s₁.heap.NoLimit) (hg : s₁.gens = #[])
    (hTC : ∀ x ∈ ms, PySem.W.CodeHd s₁.heap (tabC K x) (tabA K x) ∧ s₁.heap.get? (tabA K x) = some (PySem.W.tabObj #[]))
    (hbm : ∃ (bm : Addr) (ob : Obj), mg "__builtins__" = some (.ref bm) ∧ bm ≠ builtinsNs ∧ s₁.heap.get? bm = some ob ∧ ob.cls = .type "module" ∧ ob.dict = some builtinsNs ∧ ob.data = .plain)
    (ha : s₁.heap.get? a = some { cls := .type "list", data := .seq vs.toArray }) (hi : IntsAre vs ns) (hl : ns.length ≤ sizeLine) (hr : Room k callerA)
    (F : ∀ base : Heap, K.In base → base.Ns mainGlobals mg → (∀ x ∈ ms, TabB base mg (tabC K x) (tabA K x)) → FnZ P w K mg base k fa fd [x] sp) (hbind : ∀ (s : Shared) (u : Value), BindsTo s fd ⟨[u], []⟩ [(x, u)])
    (hsp : sp [.frl (ns.map .int)] (tabS ms K) (fun d _ => d = .bl true) fun _ _ _ => False) :
    codeAny (model P w) callerA (.call (.ref fa) ⟨[.ref a], []⟩) (fun r s' => r = .ok (.ret (.bool true)) ∧ OldK s₁.heap s'.heap ∧ s'.os = s₁.os ∧ AllBare s'.gens) s₁ := by
  have lenV := hi.length
  have rv := vals_ints hi
  have tabO : ∀ b, b ∈ ms.map (tabA K) → s₁.heap.get? b = some (PySem.W.tabObj #[]) ∧ K.lookup b = none := by
    intro b hb
    obtain ⟨y, hy, rfl⟩ := List.mem_map.mp hb
    exact ⟨(hTC y hy).2, (tabsB_in hms hy).2⟩
  have aNo : a ∉ ms.map (tabA K) := by
    intro z
    have q := (tabO a z).1
    rw [ha] at q
    cases congrArg Obj.data (Option.some.inj q)
  let oA : Obj := { cls := .type "list", data := .seq vs.toArray }
  obtain ⟨Hd, dT, dA, dN⟩ : ∃ Hd : Hp, (∀ b, b ∈ ms.map (tabA K) → Hd b = some (.tbl #[])) ∧ (Hd a = if (K.lookup a).isNone = true then some (.frz oA (.lst (ns.map V.int))) else none) ∧ (∀ b, b ∉ ms.map (tabA K) → b ≠ a → Hd b = none) :=
    ⟨fun b => if b ∈ ms.map (tabA K) then some (.tbl #[]) else if b = a then (if (K.lookup a).isNone = true then some (.frz oA (.lst (ns.map V.int))) else none) else none,
      fun b hb => if_pos hb, (if_neg aNo).trans (if_pos rfl), fun b h1 h2 => (if_neg h1).trans (if_neg h2)⟩
  have which : ∀ b u, Hd b = some u → (b ∈ ms.map (tabA K) ∧ u = .tbl #[]) ∨ (b = a ∧ K.lookup a = none ∧ u = .frz oA (.lst (ns.map V.int))) := by
    intro b u e
    by_cases h1 : b ∈ ms.map (tabA K)
    · rw [dT b h1] at e; cases e; exact .inl ⟨h1, rfl⟩
    · by_cases h2 : b = a
      · subst h2
        rw [dA] at e
        split at e
        · rename_i h3; cases e; exact .inr ⟨rfl, Option.isNone_iff_eq_none.mp h3, rfl⟩
        · cases e
      · rw [dN b h1 h2] at e; cases e
  have okD : HOk P w Hd s₁.heap := by
    intro b u e
    rcases which b u e with ⟨h1, rfl⟩ | ⟨rfl, _, rfl⟩
    · exact (tabO b h1).1
    · exact ⟨ha, by rw [List.length_map]; exact hl, vs, _, rv, ha⟩
  have sqA : SqL K Hd a (ns.map V.int) := by
    cases e : K.lookup a with
    | none => exact .inl (.inr ⟨oA, by rw [dA, e]; rfl⟩)
    | some o =>
      have e2 := KX a o e
      rw [ha] at e2
      cases e2
      exact .inr ⟨_, vs.toArray, _, e, rfl, rfl, rfl, by rw [List.size_toArray, lenV]; exact hl, by simpa using rv⟩
  -- what is not tracked stands in the hidden heap
  have seen : ∀ {b : Addr} {o : Obj}, s₁.heap.get? b = some o → (∀ ys n, o.data ≠ .seq ys n) → o.data ≠ .fields #[] → (hidT s₁.heap Hd).get? b = some o := by
    intro b o e n1 n2
    refine hidT_get e ?_
    cases q : Hd b with
    | none => rfl
    | some u =>
      rcases which b u q with ⟨h1, _⟩ | ⟨rfl, _, _⟩
      · rw [(tabO b h1).1] at e; cases e; exact absurd rfl n2
      · rw [ha] at e; cases e; exact absurd rfl (n1 _ _)
  have seenD : ∀ {b : Addr} {o : Obj} {es : Array DictEntry} {ep : Nat}, s₁.heap.get? b = some o → o.data = .dict es ep → (hidT s₁.heap Hd).get? b = some o := fun {b o es ep} e d => seen e (fun ys n z => by rw [d] at z; cases z) (fun z => by rw [d] at z; cases z)
  have nsD : ∀ {b : Addr} {m : Str → Option Value}, s₁.heap.Ns b m → (hidT s₁.heap Hd).Ns b m := fun {b m} ⟨o, es, ep, e, d, r⟩ => ⟨o, es, ep, seenD e d, d, r⟩
  have inD : K.In (hidT s₁.heap Hd) := fun b o e => hidT_get (KX b o e) (by
    cases q : Hd b with
    | none => rfl
    | some u =>
      rcases which b u q with ⟨h1, _⟩ | ⟨rfl, h2, _⟩
      · rw [(tabO b h1).2] at e; cases e
      · rw [h2] at e; cases e)
  have hM : Mod K mg (hidT s₁.heap Hd) := ⟨inD, nsD hns, ⟨mb, nsD hb, hbb⟩, let ⟨mc, h1, h2⟩ := hlim; ⟨mc, nsD h1, h2⟩⟩
  have glob : ∃ o es ep, s₁.heap.get? mainGlobals = some o ∧ o.data = .dict es ep := let ⟨o, es, ep, e, d, _⟩ := hns; ⟨o, es, ep, e, d⟩
  have TB : ∀ x ∈ ms, TabB (hidT s₁.heap Hd) mg (tabC K x) (tabA K x) := by
    intro y hy
    obtain ⟨hC, hP⟩ := hTC y hy
    obtain ⟨og, eg, eq, g1, g2⟩ := glob
    obtain ⟨bm, ob, b1, b2, b3, b4, b5, b6⟩ := hbm
    refine ⟨?_, ⟨bm, ob, b1, b2, fun q => ?_, fun q => ?_, seen b3 (fun ys n z => by rw [b6] at z; cases z) (fun z => by rw [b6] at z; cases z), b4, b5, b6⟩, fun z => ?_⟩
    · obtain ⟨o, us, file, tf, flags, tg, inF, text, tt, e1, r1, r2, r3, rest⟩ := hC
      exact ⟨o, us, file, tf, flags, tg, inF, text, tt, seen e1 (fun ys n z => by rw [r2] at z; cases z) (fun z => by rw [r2] at z; cases z; simp at r3), r1, r2, r3, rest⟩
    · rw [q, g1] at b3; cases b3; rw [g2] at b6; cases b6
    · rw [q, hP] at b3; cases b3; cases b6
    · rw [z, hP] at g1; cases g1; cases g2
  have e0 : Env0 P w K mg (hidT s₁.heap Hd) callerA [] s₁ Hd := ⟨rfl, hM, fun b o e => of_hidT e, Nat.le_of_eq (hidT_size _ _), trivial, fun b hb => (nomatch (show b ∈ ([] : List Addr) from hb)), okD, .of_eq hg⟩
  have rel : RelH K (fun b => if b ∈ ms.map (tabA K) then none else Hd b) Hd (tabS ms K) := by
    refine ⟨fun b u e => ?_, fun b u e => ?_⟩
    · split at e
      · cases e
      · exact e
    · obtain ⟨y, hy, rfl, rfl⟩ := tabS_mem e
      have hb : tabA K y ∈ ms.map (tabA K) := List.mem_map.mpr ⟨y, hy, rfl⟩
      refine ⟨if_pos hb, #[], dT _ hb, True.intro, fun pos cv z => ?_⟩
      have z : codeAmong pos [] = some cv := z
      simp [codeAmong] at z
  have sqF : SqL K (fun b => if b ∈ ms.map (tabA K) then none else Hd b) a (ns.map V.int) := by
    rcases sqA with (z | ⟨o, z⟩) | z
    · exact .inl (.inl ((if_neg aNo).trans z))
    · exact .inl (.inr ⟨o, (if_neg aNo).trans z⟩)
    · exact .inr z
  refine codeAny_mono ((F _ inD (nsD hns) TB).run callerA [] s₁ Hd ⟨[.ref a], []⟩ [.ref a] [.ref a] (fun v _ => v = .bl true) (fun _ _ _ => False) rfl hr e0 (hbind s₁ (.ref a)) (.cons rfl .nil)
    ⟨_, tabS ms K, [.frl (ns.map .int)], _, _, rel, Rs.cons (by unfold R; exact ⟨a, _, rfl, sqF, Rs.of_ints ns⟩) Rs.nil, hsp, fun F' v H' d S' _ _ rd q => by subst q; unfold R at rd; exact rd, fun _ _ _ _ _ _ _ _ _ z => z⟩) fun r s' h => ?_
  cases r with
  | error e => obtain ⟨_, _, _, _, _, _, _, _, _, _, _, _, z⟩ := h; exact False.elim z
  | ok fl =>
    cases fl with
    | next => exact False.elim h
    | brk => exact False.elim h
    | cont => exact False.elim h
    | ret u =>
      obtain ⟨v, H', os, bare, un, ok', ru, qv⟩ := h
      have qv : v = .bl true := qv
      subst qv
      obtain rfl : u = Value.bool true := ru
      have stays : ∀ b o, b ∉ ms.map (tabA K) → s₁.heap.get? b = some o → s'.heap.get? b = some o := by
        intro b o nb e
        cases q : Hd b with
        | none => exact un.keep b o e q (fun z => nomatch (show b ∈ ([] : List Addr) from z)) (by simp)
        | some u =>
          rcases which b u q with ⟨h1, _⟩ | ⟨rfl, _, rfl⟩
          · exact absurd h1 nb
          · have z2 := un.frzs b _ _ q
            obtain ⟨e1, _⟩ := okD b _ q
            obtain ⟨e2, _⟩ := ok' b _ z2
            rw [e] at e1; cases e1
            exact e2
      have grown : ∀ y ∈ ms, ∃ more : Array Value, s'.heap.get? (tabA K y) = some (PySem.W.tabObj more) := by
        intro y hy
        obtain ⟨more, z⟩ := un.tbls _ #[] (dT _ (List.mem_map.mpr ⟨y, hy, rfl⟩))
        exact ⟨_, ok' _ _ z⟩
      refine ⟨rfl, ⟨fun b o e => ?_, fun b o e => ?_⟩, os, bare⟩
      · by_cases hb : b ∈ ms.map (tabA K)
        · obtain ⟨y, hy, rfl⟩ := List.mem_map.mp hb
          obtain ⟨more, hm⟩ := grown y hy
          obtain ⟨hC, hP⟩ := hTC y hy
          rw [hP] at e
          cases e
          exact .inr (.inl ⟨(hC.tab hP).isCodeTable, rfl, #[], more, rfl, by rw [Array.empty_append]; exact hm⟩)
        · exact .inl (stays b o hb e)
      · by_cases hb : b ∈ ms.map (tabA K)
        · obtain ⟨y, hy, rfl⟩ := List.mem_map.mp hb
          obtain ⟨more, hm⟩ := grown y hy
          exact ⟨_, hm⟩
        · exact ⟨o, stays b o hb e⟩
theorem hq_of {q : Program} {ms : List Str} (h : (ms.all fun x => ((recsOf q).find? (fun e => e.name == x)).isSome) = true) : ∀ x ∈ ms, ∃ dr, (recsOf q).find? (fun e => e.name == x) = some dr := fun x hx => Option.isSome_iff_exists.mp (List.all_eq_true.mp h x hx)
theorem walk_ofZT {l : PySem.W.OpenLaw} {n k : Nat} {q : Program} {loose : List Str} {XP : (Str → Option Value) → Heap → Prop} {YP : World → Heap → Prop} {d : DefRec} {x : Str} {ms : List Str}
    (hq : ∀ x ∈ ms, ∃ dr, (recsOf q).find? (fun e => e.name == x) = some dr)
    (hn : l.most = some n) (hn2 : n ≤ sizeLine) (hdf : d.params.defaults = []) (hr : Room k callerA)
    (F : ∀ (w : World) (mg : Str → Option Value) (fa : Addr) (h : Heap), YP w h → h.Ns mainGlobals mg → mg d.name = some (.ref fa) →
      ∃ (K : PySem.W.Frag) (fd : FuncData) (sp : SpD), K.In h ∧ tabsB ms K = true ∧ (∀ (s : Shared) (u : Value), BindsTo s fd ⟨[u], []⟩ [(x, u)]) ∧
        (∀ (ns : List Int), ns.length ≤ n → sp [.frl (ns.map .int)] (tabS ms K) (fun v _ => v = .bl true) fun _ _ _ => False) ∧
        ∀ base : Heap, K.In base → base.Ns mainGlobals mg → (∀ x ∈ ms, TabB base mg (tabC K x) (tabA K x)) → FnZ l.prog w K mg base k fa fd [x] sp) :
    PySem.W.WalkO q loose XP YP l.row.toRowW d [] (fun f vs => PySem.call f vs) := by
  refine Att.attach_call hn hdf fun w s₀ s₁ mg mb fa o pm cd doc a vs ns G Y ho hd hcd hmg hobj hints hlen hg => ?_
  obtain ⟨K, fd, sp, KX, hms, hb, hsp, hF⟩ := F w mg fa _ Y G.T.g hmg
  exact law_callZT hms KX G.T.g G.T.b G.T.builtins G.T.nolimit hg (fun y hy => let ⟨dr, h1⟩ := hq y hy; PySem.W.tab_of G.T KX h1 (tabsB_in hms hy).1) G.T.bmain hobj hints (Nat.le_trans hlen hn2) hr hF hb (hsp ns hlen)
/-! the frozen part without the tables -/
open PySem.W in
def noTab (g : Addr → Option Obj) (a : Addr) : Bool := match g a with
  | some o => (match o.data with | .fields vs => !vs.isEmpty | _ => true)
  | none => true
open PySem.W in
def obsY (n : Nat) (fa : List He.Fa) (fn : List He.DefD) (xs : XFs) (g : Addr → Option Obj) : AlX := (fun K => (He.obsD fa fn K, xs.all fun f => f K)) (He.frG g ((cStatics :: He.asD g n).filter (noTab g)))
open PySem.W in
def hookY (n : Nat) (fa : List He.Fa) (fn : List He.DefD) (xs : XFs) : PySem.W.Hook where
  α := AlX
  obs := fun s => obsY n fa fn xs s.heap.get?
  val := fun _ => (He.valD fn, true)
  says := fun _ h => ∃ K : Frag, K.In h ∧ He.SaysD fa fn K ∧ (xs.all fun f => f K) = true
  of := fun _ _ e => ⟨_, He.frG_in, (Prod.mk.inj e).1, (Prod.mk.inj e).2⟩
  keeps := fun _ _ _ ⟨K, hK, c⟩ k => ⟨K, PySem.W.Frag.In.keeps hK k, c⟩
theorem obsY_eq {n : Nat} {fa : List He.Fa} {fn : List He.DefD} {xs : XFs} {g : Addr → Option Obj} {s : Shared} (h : ∀ a, g a = s.heap.get? a) : obsY n fa fn xs g = (hookY n fa fn xs).obs s := by
  have e : g = s.heap.get? := funext h
  rw [e] <;> rfl
end Z

set_option Elab.async false
set_option linter.all false
set_option maxRecDepth 100000
set_option maxHeartbeats 4000000
namespace Z
open PySem PySem.Spec PyProof.Rows L2

theorem out1 {k : Sto → Prop} {S : Sto} (h : k S) : ∃ S0, SSub S0 S ∧ k S0 := ⟨S, SSub.refl S, h⟩
theorem tr_int {S : Sto} {i : Int} : tr S (.int i) = .int i := rfl
theorem tr_bl {S : Sto} {i : Bool} : tr S (.bl i) = .bl i := rfl
theorem tr_str {S : Sto} {i : Str} : tr S (.str i) = .str i := rfl
theorem tr_non {S : Sto} : tr S .non = .non := rfl
theorem tr_lst {S : Sto} {i : List D} : tr S (.lst i) = .lst i := rfl
theorem tr_tup {S : Sto} {i : List D} : tr S (.tup i) = .tup i := rfl
theorem tr_adr {S : Sto} {p : Addr} {u : DO} (h : S p = some u) : tr S (.adr p) = u.toD := by unfold tr; dsimp only; rw [h]
theorem pln_int {n : Nat} {i : Int} : pln n (.int i) = True := by cases n <;> (unfold pln; rfl)
theorem pln_bl {n : Nat} {i : Bool} : pln n (.bl i) = True := by cases n <;> (unfold pln; rfl)
theorem pln_str {n : Nat} {i : Str} : pln n (.str i) = True := by cases n <;> (unfold pln; rfl)
theorem pln_non {n : Nat} : pln n .non = True := by cases n <;> (unfold pln; rfl)
theorem pln_lst {n : Nat} {xs : List D} : pln (n + 1) (.lst xs) = ∀ x ∈ xs, pln n x := by rw [pln]
theorem pln_tup {n : Nat} {xs : List D} : pln (n + 1) (.tup xs) = ∀ x ∈ xs, pln n x := by rw [pln]
theorem deq_int {i j : Int} : deq (.int i) (.int j) = (i == j) := by unfold deq toPy PyData.eqv; rfl
theorem deq_str {i j : Str} : deq (.str i) (.str j) = (i == j) := by unfold deq toPy PyData.eqv; rfl
def deqs : List D → List D → Bool
  | [], [] => true
  | x :: xs, y :: ys => deq x y && deqs xs ys
  | _, _ => false
theorem eqvAll_deqs : ∀ xs ys : List D, PyData.eqvAll (toPys xs) (toPys ys) = deqs xs ys
  | [], [] => by unfold toPys PyData.eqvAll deqs; rfl
  | x :: xs, y :: ys => by unfold toPys PyData.eqvAll deqs; rw [eqvAll_deqs xs ys]; rfl
  | [], y :: ys => by unfold toPys PyData.eqvAll deqs; rfl
  | x :: xs, [] => by unfold toPys PyData.eqvAll deqs; rfl
theorem deq_lst {xs ys : List D} : deq (.lst xs) (.lst ys) = deqs xs ys := by
  rw [← eqvAll_deqs]; unfold deq; unfold toPy; unfold PyData.eqv; rfl
theorem deq_tup {xs ys : List D} : deq (.tup xs) (.tup ys) = deqs xs ys := by
  rw [← eqvAll_deqs]; unfold deq; unfold toPy; unfold PyData.eqv; rfl
/-- == of data of one kind that is told apart by == -/
theorem deqs_map {α : Type} [DecidableEq α] (f : α → D) (hf : ∀ x y, deq (f x) (f y) = decide (x = y)) : ∀ xs ys : List α, deqs (xs.map f) (ys.map f) = decide (xs = ys)
  | [], [] => by simp [deqs]
  | x :: xs, y :: ys => by
    rw [List.map_cons, List.map_cons]
    unfold deqs
    rw [hf, deqs_map f hf xs ys]
    by_cases h1 : x = y <;> by_cases h2 : xs = ys <;> simp [h1, h2]
  | [], y :: ys => by simp [deqs]
  | x :: xs, [] => by simp [deqs]
theorem deqs_nil (xs : List D) : deqs xs [] = xs.isEmpty := by cases xs <;> (unfold deqs; rfl)
theorem atI_nat {α : Type} {xs : List α} {i : Int} {x : α} (h0 : 0 ≤ i) (h : xs[i.toNat]? = some x) : atI xs i = some x := by
  have hl : i.toNat < xs.length := (List.getElem?_eq_some_iff.mp h).1
  unfold atI ixN
  rw [if_pos h0, if_pos (by omega)]
  exact h
/-! ### a reading, step by step -/
class Stp (P : Prop) (Q : outParam Prop) : Prop where
  go : Q → P
theorem stp {P Q : Prop} [h : Stp P Q] (q : Q) : P := h.go q
/-- the slot i; a slot set; short lists; the item at i -/
class Lk (ρ : Envd) (i : Nat) (d : outParam D) : Prop where
  h : ρ[i]? = some (some d)
instance {d : D} {ρ : Envd} : Lk (some d :: ρ) 0 d := ⟨rfl⟩
instance {x : Option D} {d : D} {ρ : Envd} {i : Nat} [h : Lk ρ i d] : Lk (x :: ρ) (i + 1) d := ⟨by rw [List.getElem?_cons_succ]; exact h.h⟩
class SetL (ρ : Envd) (i : Nat) (x : Option D) (ρ' : outParam Envd) : Prop where
  h : ρ.set i x = ρ'
instance {y x : Option D} {ρ : Envd} : SetL (y :: ρ) 0 x (x :: ρ) := ⟨rfl⟩
instance {y x : Option D} {ρ ρ' : Envd} {i : Nat} [h : SetL ρ i x ρ'] : SetL (y :: ρ) (i + 1) x (y :: ρ') := ⟨by rw [List.set_cons_succ, h.h]⟩
class LenLe (ds : List D) (n : Nat) : Prop where
  h : ds.length ≤ n
instance {n : Nat} : LenLe [] n := ⟨Nat.zero_le _⟩
instance {d : D} {ds : List D} {n : Nat} [h : LenLe ds n] : LenLe (d :: ds) (n + 1) := ⟨by have := h.h; rw [List.length_cons]; omega⟩
class LenIs (ds : List D) (n : outParam Nat) : Prop where
  h : ds.length = n
instance : LenIs [] 0 := ⟨rfl⟩
instance {d : D} {ds : List D} {n : Nat} [h : LenIs ds n] : LenIs (d :: ds) (n + 1) := ⟨by rw [List.length_cons, h.h]⟩
class App (ds es : List D) (fs : outParam (List D)) : Prop where
  h : ds ++ es = fs
instance {es : List D} : App [] es es := ⟨rfl⟩
instance {d : D} {ds es fs : List D} [h : App ds es fs] : App (d :: ds) es (d :: fs) := ⟨by rw [List.cons_append, h.h]⟩
class LkV (ds : List D) (i : Nat) (d : outParam D) : Prop where
  h : ds[i]? = some d
instance {d : D} {ds : List D} : LkV (d :: ds) 0 d := ⟨rfl⟩
instance {x : D} {d : D} {ds : List D} {i : Nat} [h : LkV ds i d] : LkV (x :: ds) (i + 1) d := ⟨by rw [List.getElem?_cons_succ]; exact h.h⟩
class AtL (ds : List D) (i : Int) (d : outParam D) : Prop where
  h : atI ds i = some d
instance {x : D} {ds : List D} : AtL (x :: ds) 0 x := ⟨atI_nat (by decide) rfl⟩
instance {x y : D} {ds : List D} : AtL (x :: y :: ds) 1 y := ⟨atI_nat (by decide) rfl⟩
instance {x y z : D} {ds : List D} : AtL (x :: y :: z :: ds) 2 z := ⟨atI_nat (by decide) rfl⟩
instance {x y z u : D} {ds : List D} : AtL (x :: y :: z :: u :: ds) 3 u := ⟨atI_nat (by decide) rfl⟩

section
variable {wd : WD} {E : EndsD} {ρ ρ' ρ'' : Envd} {S : Sto} {k : KD} {kb : Bool → Sto → Prop} {ka : List D → Sto → Prop} {ko : Option Int → Sto → Prop} {ke : Envd → Sto → Prop} {t u : TSD} {te ta tb tc to ti : TD} {tt t1 t2 : TTD} {tA : TAD} {i j n : Nat} {d e : D} {ds es fs xs ys : List D} {g : TGD} {gs : TGsD} {b c m : Bool} {x y : Int} {P Q : Prop}
/-! ends -/
instance {a a' a'' : Envd → Sto → Prop} {r : D → Sto → Prop} : Stp (EndsD.nx ⟨a, r, a', a''⟩ ρ S) (a ρ S) := ⟨id⟩
instance {a a' a'' : Envd → Sto → Prop} {r : D → Sto → Prop} : Stp (EndsD.bk ⟨a, r, a', a''⟩ ρ S) (a' ρ S) := ⟨id⟩
instance {a a' a'' : Envd → Sto → Prop} {r : D → Sto → Prop} : Stp (EndsD.ct ⟨a, r, a', a''⟩ ρ S) (a'' ρ S) := ⟨id⟩
instance {a a' a'' : Envd → Sto → Prop} {r : D → Sto → Prop} : Stp (EndsD.rt ⟨a, r, a', a''⟩ d S) (r d S) := ⟨id⟩
instance : Stp (EndsD.rt (endX k) d S) (∃ S0, SSub S0 S ∧ k d S0) := ⟨id⟩
instance : Stp (EndsD.nx (endX k) ρ S) (∃ S0, SSub S0 S ∧ k .non S0) := ⟨id⟩
/-! if -/
instance {inst : Decidable (true = true)} : Stp (@ite Prop (true = true) inst P Q) P := ⟨fun h => by rw [if_pos rfl]; exact h⟩
instance {inst : Decidable (false = true)} : Stp (@ite Prop (false = true) inst P Q) Q := ⟨fun h => by rw [if_neg Bool.false_ne_true]; exact h⟩
/-! statements -/
instance : Stp (dNext wd E ρ S) (E.nx ρ S) := ⟨id⟩
instance : Stp (dSeq t u wd E ρ S) (t wd ⟨u wd E, E.rt, E.bk, E.ct⟩ ρ S) := ⟨id⟩
instance : Stp (dRet te wd E ρ S) (te wd ρ S E.rt) := ⟨id⟩
instance : Stp (dRetN wd E ρ S) (E.rt .non S) := ⟨id⟩
instance : Stp (dDrop te wd E ρ S) (te wd ρ S fun _ S1 => E.nx ρ S1) := ⟨id⟩
instance : Stp (dIfS tt t u wd E ρ S) (tt wd ρ S fun b S1 => if b = true then t wd E ρ S1 else u wd E ρ S1) := ⟨id⟩
def setK (E : EndsD) (ρ : Envd) (i : Nat) : KD := fun d S1 => E.nx (ρ.set i (some d)) S1
instance : Stp (dSet i te wd E ρ S) (te wd ρ S (setK E ρ i)) := ⟨id⟩
instance [h : SetL ρ i (some d) ρ'] : Stp (setK E ρ i d S) (E.nx ρ' S) := ⟨fun q => by unfold setK; rw [h.h]; exact q⟩
instance : Stp (dBrk wd E ρ S) (E.bk ρ S) := ⟨id⟩
instance : Stp (dCont wd E ρ S) (E.ct ρ S) := ⟨id⟩
instance : Stp (dNev wd E ρ S) False := ⟨id⟩
instance : Stp (dAsg te g wd E ρ S) (te wd ρ S fun d S1 => g d ρ S1 E.nx) := ⟨id⟩
instance [h : SetL ρ i (some d) ρ'] : Stp (gNameD i d ρ S ke) (ke ρ' S) := ⟨fun q => by unfold gNameD; rw [h.h]; exact q⟩
instance [h : LenIs ds n] : Stp (gSeqD n gs (.tup ds) ρ S ke) (gs ds ρ S ke) := ⟨fun q => ⟨h.h, q⟩⟩
instance [h : LenIs ds n] : Stp (gSeqD n gs (.lst ds) ρ S ke) (gs ds ρ S ke) := ⟨fun q => ⟨h.h, q⟩⟩
instance : Stp (gConsD g gs (d :: ds) ρ S ke) (g d ρ S fun ρ1 S1 => gs ds ρ1 S1 ke) := ⟨id⟩
instance : Stp (gNilD [] ρ S ke) (ke ρ S) := ⟨id⟩
def starK (k : Envd → Sto → Prop) (ρ : Envd) (i j : Nat) (x : D) : KD := fun y S1 => k ((ρ.set i (some x)).set j (some y)) S1
instance : Stp (gStarD m i j (.lst (d :: ds)) ρ S ke) (mkL m ds S (starK ke ρ i j d)) := ⟨id⟩
instance : Stp (gStarD m i j (.tup (d :: ds)) ρ S ke) (mkL m ds S (starK ke ρ i j d)) := ⟨id⟩
instance [h : SetL ρ i (some d) ρ'] [h' : SetL ρ' j (some e) ρ''] : Stp (starK ke ρ i j d e S) (ke ρ'' S) := ⟨fun q => by unfold starK; rw [h.h, h'.h]; exact q⟩
instance {f : D → D → D → Sto → (Sto → Prop) → Prop} : Stp (dAsgS te to ti f wd E ρ S) (te wd ρ S fun u S1 => to wd ρ S1 fun d S2 => ti wd ρ S2 fun e S3 => f d e u S3 fun S4 => E.nx ρ S4) := ⟨id⟩
def parK (E : EndsD) (ρ : Envd) (i j : Nat) : List D → Sto → Prop := fun ds S1 => match ds with | [d, e] => E.nx ((ρ.set i (some d)).set j (some e)) S1 | _ => False
instance : Stp (dPar i j tA wd E ρ S) (tA wd ρ S (parK E ρ i j)) := ⟨id⟩
instance [h : SetL ρ i (some d) ρ'] [h' : SetL ρ' j (some e) ρ''] : Stp (parK E ρ i j [d, e] S) (E.nx ρ'' S) := ⟨fun q => by unfold parK; dsimp only; rw [h.h, h'.h]; exact q⟩
instance {wi : TID} : Stp (dFor wi g t wd E ρ S) (wi wd ρ S fun ds G S1 => forD wd g t E G ds ρ S1) := ⟨id⟩
/-! expressions -/
instance [h : Lk ρ i d] : Stp (dVar i wd ρ S k) (k d S) := ⟨fun q => by unfold dVar; rw [h.h]; exact q⟩
instance : Stp (dC d wd ρ S k) (k d S) := ⟨id⟩
instance {f : D → D → Sto → KD → Prop} : Stp (dBin f ta tb wd ρ S k) (ta wd ρ S fun d S1 => tb wd ρ S1 fun e S2 => f d e S2 k) := ⟨id⟩
def chK (g : D → D → Sto → KD → Prop) (e : D) (tc : TD) (wd : WD) (ρ : Envd) (k : KD) : KD := fun z S3 => match z with
  | .bl c => if c = true then tc wd ρ S3 fun w S4 => g e w S4 k else k (.bl false) S3
  | _ => False
instance {f g : D → D → Sto → KD → Prop} : Stp (dChain f g ta tb tc wd ρ S k) (ta wd ρ S fun d S1 => tb wd ρ S1 fun e S2 => f d e S2 (chK g e tc wd ρ k)) := ⟨id⟩
instance {g : D → D → Sto → KD → Prop} : Stp (chK g e tc wd ρ k (.bl c) S) (if c = true then tc wd ρ S fun w S4 => g e w S4 k else k (.bl false) S) := ⟨id⟩
def tstK (k : Bool → Sto → Prop) : KD := fun d S1 => match d with | .bl b => k b S1 | _ => False
instance : Stp (dTest te wd ρ S kb) (te wd ρ S (tstK kb)) := ⟨id⟩
instance : Stp (tstK kb (.bl b) S) (kb b S) := ⟨id⟩
instance : Stp (dAnd t1 t2 wd ρ S kb) (t1 wd ρ S fun c S1 => if c = true then t2 wd ρ S1 kb else kb false S1) := ⟨id⟩
instance : Stp (dOr t1 t2 wd ρ S kb) (t1 wd ρ S fun c S1 => if c = true then kb true S1 else t2 wd ρ S1 kb) := ⟨id⟩
def notB (k : Bool → Sto → Prop) : Bool → Sto → Prop := fun c S1 => k (!c) S1
instance : Stp (dNot t1 wd ρ S kb) (t1 wd ρ S (notB kb)) := ⟨id⟩
instance : Stp (notB kb true S) (kb false S) := ⟨id⟩
instance : Stp (notB kb false S) (kb true S) := ⟨id⟩
def andK (tb : TD) (wd : WD) (ρ : Envd) (k : KD) : KD := fun d S1 => match d with | .bl c => if c = true then tb wd ρ S1 k else k (.bl false) S1 | _ => False
def orK (tb : TD) (wd : WD) (ρ : Envd) (k : KD) : KD := fun d S1 => match d with | .bl c => if c = true then k (.bl true) S1 else tb wd ρ S1 k | _ => False
def notK (k : KD) : KD := fun d S1 => match d with | .bl c => k (.bl (!c)) S1 | _ => False
instance : Stp (dAndV ta tb wd ρ S k) (ta wd ρ S (andK tb wd ρ k)) := ⟨id⟩
instance : Stp (dOrV ta tb wd ρ S k) (ta wd ρ S (orK tb wd ρ k)) := ⟨id⟩
instance : Stp (dNotV ta wd ρ S k) (ta wd ρ S (notK k)) := ⟨id⟩
instance : Stp (andK tb wd ρ k (.bl c) S) (if c = true then tb wd ρ S k else k (.bl false) S) := ⟨id⟩
instance : Stp (orK tb wd ρ k (.bl c) S) (if c = true then k (.bl true) S else tb wd ρ S k) := ⟨id⟩
instance : Stp (notK k (.bl true) S) (k (.bl false) S) := ⟨id⟩
instance : Stp (notK k (.bl false) S) (k (.bl true) S) := ⟨id⟩
instance : Stp (dIf tt ta tb wd ρ S k) (tt wd ρ S fun c S1 => if c = true then ta wd ρ S1 k else tb wd ρ S1 k) := ⟨id⟩
instance : Stp (dNil wd ρ S ka) (ka [] S) := ⟨id⟩
instance : Stp (dCons ta tA wd ρ S ka) (ta wd ρ S fun d S1 => tA wd ρ S1 fun ds S2 => ka (d :: ds) S2) := ⟨id⟩
def tupK (k : KD) : List D → Sto → Prop := fun ds S1 => Short ds.length ∧ k (.tup ds) S1
def lstK (k : KD) : List D → Sto → Prop := fun ds S1 => Short ds.length ∧ k (.lst ds) S1
def lstM (k : KD) : List D → Sto → Prop := fun ds S1 => Short ds.length ∧ ∀ p, S1 p = none → k (.adr p) (supd S1 p (.lst ds))
instance : Stp (dTup tA wd ρ S k) (tA wd ρ S (tupK k)) := ⟨id⟩
instance : Stp (dLst tA wd ρ S k) (tA wd ρ S (lstK k)) := ⟨id⟩
instance : Stp (dLstM tA wd ρ S k) (tA wd ρ S (lstM k)) := ⟨id⟩
theorem short64 {ds : List D} (h : LenLe ds 64) : Short ds.length := by have := h.h; unfold Short; omega
instance [h : LenLe ds 64] : Stp (tupK k ds S) (k (.tup ds) S) := ⟨fun q => ⟨short64 h, q⟩⟩
instance [h : LenLe ds 64] : Stp (lstK k ds S) (k (.lst ds) S) := ⟨fun q => ⟨short64 h, q⟩⟩
instance [h : LenLe ds 64] : Stp (lstM k ds S) (∀ p, S p = none → k (.adr p) (supd S p (.lst ds))) := ⟨fun q => ⟨short64 h, q⟩⟩
def frzK (k : KD) : KD := fun d S1 => match d with | .adr p => (match S1 p with | some u => k u.toD (sdel S1 p) | none => False) | d => k d S1
instance : Stp (dFrz te wd ρ S k) (te wd ρ S (frzK k)) := ⟨id⟩
instance : Stp (frzK k (.lst xs) S) (k (.lst xs) S) := ⟨id⟩
instance : Stp (frzK k (.tup xs) S) (k (.tup xs) S) := ⟨id⟩
instance : Stp (frzK k (.int x) S) (k (.int x) S) := ⟨id⟩
instance : Stp (frzK k .non S) (k .non S) := ⟨id⟩
instance : Stp (frzK k (.bl b) S) (k (.bl b) S) := ⟨id⟩
theorem frz_adr {p : Addr} {o : DO} (h : S p = some o) (q : k o.toD (sdel S p)) : frzK k (.adr p) S := by unfold frzK; dsimp only; rw [h]; exact q
def callK (sp : SpD) (dvs : List D) (wd : WD) (ρ : Envd) (k : KD) : List D → Sto → Prop := fun ds S1 => sp (ds ++ dvs) S1 k fun C y S2 => wd.f C y ρ S2
def callKK (m : Nat) (sp : SpD) (wd : WD) (ρ : Envd) (k : KD) (ds : List D) : KD := fun d S2 => ds.length = m ∧ sp (ds ++ [d]) S2 k fun C y S3 => wd.f C y ρ S3
instance {m : Nat} {sp : SpD} {tv : TD} : Stp (dCallK m sp tA tv wd ρ S k) (tA wd ρ S fun ds S1 => tv wd ρ S1 (callKK m sp wd ρ k ds)) := ⟨id⟩
instance {m : Nat} {sp : SpD} [l : LenIs ds m] [h : App ds [d] es] : Stp (callKK m sp wd ρ k ds d S) (sp es S k fun C y S3 => wd.f C y ρ S3) := ⟨fun q => by unfold callKK; rw [h.h]; exact ⟨l.h, q⟩⟩
instance {sp : SpD} {dvs : List D} : Stp (dCall sp dvs tA wd ρ S k) (tA wd ρ S (callK sp dvs wd ρ k)) := ⟨id⟩
instance {sp : SpD} {dvs : List D} [h : App ds dvs es] : Stp (callK sp dvs wd ρ k ds S) (sp es S k fun C y S2 => wd.f C y ρ S2) := ⟨fun q => by unfold callK; rw [h.h]; exact q⟩
def methK (sp : SpD) (dvs : List D) (wd : WD) (ρ : Envd) (k : KD) (d : D) : List D → Sto → Prop := fun ds S2 => sp (d :: (ds ++ dvs)) S2 k fun C y S2 => wd.f C y ρ S2
instance {sp : SpD} {dvs : List D} {C : Addr} {ns : List Str} : Stp (dMeth C ns sp dvs ta tA wd ρ S k) (ta wd ρ S fun d S1 => IsIn C ns S1 d ∧ tA wd ρ S1 (methK sp dvs wd ρ k d)) := ⟨id⟩
instance {C : Addr} {ns : List Str} {vs : List D} : Stp (IsIn C ns S (.obj C ns vs) ∧ P) P := ⟨fun q => ⟨⟨rfl, rfl⟩, q⟩⟩
instance {sp : SpD} {dvs : List D} [h : App ds dvs es] : Stp (methK sp dvs wd ρ k d ds S) (sp (d :: es) S k fun C y S2 => wd.f C y ρ S2) := ⟨fun q => by unfold methK; rw [h.h]; exact q⟩
instance {C : Addr} {ns : List Str} : Stp (dFld C ns i ta wd ρ S k) (ta wd ρ S fun d S1 => fldK C ns i d S1 k) := ⟨id⟩
instance {C : Addr} {ns : List Str} {vs : List D} [h : LkV vs i d] : Stp (fldK C ns i (.obj C ns vs) S k) (k d S) := ⟨fun q => ⟨rfl, rfl, by rw [h.h]; exact q⟩⟩
instance {sp : SpD} {dvs : List D} {C : Addr} : Stp (dMake C sp dvs tA wd ρ S k) (tA wd ρ S fun ds S1 => ∀ x, S1 x = none → sp (.adr x :: (ds ++ dvs)) (supd S1 x (.obj C [] [])) (fun d S2 => match d with | .non => k (.adr x) S2 | _ => False) fun C y S2 => wd.f C y ρ S2) := ⟨id⟩
instance {gg : List D → Sto → KD → Prop} : Stp (dCB gg tA wd ρ S k) (tA wd ρ S fun ds S1 => gg ds S1 k) := ⟨id⟩
def negK (k : KD) : KD := fun d S1 => match d with | .int i => k (.int (-i)) S1 | _ => False
instance : Stp (dNeg ta wd ρ S k) (ta wd ρ S (negK k)) := ⟨id⟩
instance : Stp (negK k (.int x) S) (k (.int (-x)) S) := ⟨id⟩
/-! operators -/
instance : Stp (fAdd m (.int x) (.int y) S k) (k (.int (x + y)) S) := ⟨id⟩
instance : Stp (fAdd m (.lst xs) (.lst ys) S k) (xs.length + ys.length ≤ sizeLine ∧ mkL m (xs ++ ys) S k) := ⟨id⟩
instance : Stp (fSub (.int x) (.int y) S k) (k (.int (x - y)) S) := ⟨id⟩
instance : Stp (fMul m (.int x) (.int y) S k) (CMul x y ∧ k (.int (x * y)) S) := ⟨id⟩
instance : Stp (fMod (.int x) (.int y) S k) (0 < y ∧ k (.int (x % y)) S) := ⟨id⟩
instance : Stp (fFdv (.int x) (.int y) S k) (CDiv x y ∧ k (.int (x / y)) S) := ⟨id⟩
instance : Stp (fPow (.int x) (.int y) S k) (CPow x y ∧ k (.int (x ^ y.toNat)) S) := ⟨id⟩
instance {p : Int → Int → Bool} : Stp (fCmp p (.int x) (.int y) S k) (k (.bl (p x y)) S) := ⟨id⟩
instance : Stp (fEq (.int x) (.int y) S k) (k (.bl (x == y)) S) := ⟨fun q => ⟨by rw [tr_int, pln_int]; trivial, by rw [tr_int, pln_int]; trivial, by rw [tr_int, tr_int, deq_int]; exact q⟩⟩
instance : Stp (fNe (.int x) (.int y) S k) (k (.bl (!(x == y))) S) := ⟨fun q => ⟨by rw [tr_int, pln_int]; trivial, by rw [tr_int, pln_int]; trivial, by rw [tr_int, tr_int, deq_int]; exact q⟩⟩
instance {x y : Str} : Stp (fEq (.str x) (.str y) S k) (k (.bl (x == y)) S) := ⟨fun q => ⟨by rw [tr_str, pln_str]; trivial, by rw [tr_str, pln_str]; trivial, by rw [tr_str, tr_str, deq_str]; exact q⟩⟩
instance {x y : Str} : Stp (fNe (.str x) (.str y) S k) (k (.bl (!(x == y))) S) := ⟨fun q => ⟨by rw [tr_str, pln_str]; trivial, by rw [tr_str, pln_str]; trivial, by rw [tr_str, tr_str, deq_str]; exact q⟩⟩
instance [h : AtL xs x d] : Stp (fIx (.tup xs) (.int x) S k) (k d S) := ⟨fun q => by unfold fIx; simp only [vq, h.h]; exact q⟩
instance [h : AtL xs x d] : Stp (fIx (.lst xs) (.int x) S k) (k d S) := ⟨fun q => by unfold fIx; simp only [vq, h.h]; exact q⟩
theorem ix_q (hv : vq S d = some xs) (h : atI xs x = some e) (q : k e S) : fIx d (.int x) S k := by
  unfold fIx
  cases d <;> first | (simp only [hv, h]; exact q) | cases hv
/-! lists -/
instance : Stp (mkL false ds S k) (k (.lst ds) S) := ⟨id⟩
instance : Stp (mkL true ds S k) (∀ p, S p = none → k (.adr p) (supd S p (.lst ds))) := ⟨id⟩
instance {tl th : TOD} : Stp (dSl m te tl th wd ρ S k) (te wd ρ S fun d S1 => tl wd ρ S1 fun lo S2 => th wd ρ S2 fun hi S3 => fSl m d lo hi S3 k) := ⟨id⟩
instance : Stp (dNoP wd ρ S ko) (ko none S) := ⟨id⟩
def pK (k : Option Int → Sto → Prop) : KD := fun d S1 => match d with | .int i => k (some i) S1 | _ => False
instance : Stp (dP te wd ρ S ko) (te wd ρ S (pK ko)) := ⟨id⟩
instance : Stp (pK ko (.int x) S) (ko (some x) S) := ⟨id⟩
instance {lo hi : Option Int} : Stp (fSl m (.lst xs) lo hi S k) (mkL m (cutD xs lo hi) S k) := ⟨id⟩
instance {lo hi : Option Int} : Stp (fSl m (.tup xs) lo hi S k) (k (.tup (cutD xs lo hi)) S) := ⟨id⟩
def revK (m : Bool) (k : KD) : KD := fun d S1 => match vl S1 d with | some xs => mkL m xs.reverse S1 k | none => False
instance : Stp (dRev m te wd ρ S k) (te wd ρ S (revK m k)) := ⟨id⟩
instance : Stp (revK m k (.lst xs) S) (mkL m xs.reverse S k) := ⟨id⟩
instance : Stp (cLen [.lst xs] S k) (k (.int xs.length) S) := ⟨id⟩
instance : Stp (cLen [.tup xs] S k) (k (.int xs.length) S) := ⟨id⟩
instance : Stp (cLen [.frl xs] S k) (k (.int xs.length) S) := ⟨id⟩
instance : Stp (cMax2 [.int x, .int y] S k) (k (.int (if y > x then y else x)) S) := ⟨id⟩
instance : Stp (cMin2 [.int x, .int y] S k) (k (.int (if y < x then y else x)) S) := ⟨id⟩
instance : Stp (cTup [.lst xs] S k) (k (.tup xs) S) := ⟨id⟩
instance : Stp (cTup [.tup xs] S k) (k (.tup xs) S) := ⟨id⟩
instance : Stp (cList m [.lst xs] S k) (mkL m xs S k) := ⟨id⟩
instance : Stp (cList m [.tup xs] S k) (mkL m xs S k) := ⟨id⟩
instance : Stp (cAbs [.int x] S k) (k (.int (if x < 0 then -x else x)) S) := ⟨id⟩
instance : Stp (dDic0 wd ρ S k) (k (.dic [] []) S) := ⟨id⟩
instance : Stp (dDic0M wd ρ S k) (∀ p, S p = none → k (.adr p) (supd S p (.dic [] []))) := ⟨id⟩
/-! walks -/
def iSqK (k : List D → (Sto → Prop) → Sto → Prop) : KD := fun d S1 => match vq S1 d with | some xs => k xs (grd d xs) S1 | none => False
variable {kI : List D → (Sto → Prop) → Sto → Prop}
instance : Stp (iSq te wd ρ S kI) (te wd ρ S (iSqK kI)) := ⟨id⟩
instance : Stp (iSqK kI (.lst xs) S) (kI xs gT S) := ⟨id⟩
instance : Stp (iSqK kI (.tup xs) S) (kI xs gT S) := ⟨id⟩
theorem iSq_adr {p : Addr} (h : S p = some (.lst xs)) (q : kI xs (fun S => S p = some (.lst xs)) S) : iSqK kI (.adr p) S := by
  unfold iSqK; simp only [vq, h]; exact q
def rg1K (k : List D → (Sto → Prop) → Sto → Prop) : List D → Sto → Prop := fun ds S1 => match ds with | [.int j] => -(2 ^ 62) ≤ j ∧ j ≤ 16777216 ∧ k (rng 0 j.toNat) gT S1 | _ => False
def rg2K (k : List D → (Sto → Prop) → Sto → Prop) : List D → Sto → Prop := fun ds S1 => match ds with | [.int i, .int j] => -(2 ^ 62) ≤ i ∧ i < 2 ^ 62 ∧ -(2 ^ 62) ≤ j ∧ j < 2 ^ 62 ∧ j - i ≤ 16777216 ∧ k (rng i (j - i).toNat) gT S1 | _ => False
instance : Stp (iRg1 tA wd ρ S kI) (tA wd ρ S (rg1K kI)) := ⟨id⟩
instance : Stp (iRg2 tA wd ρ S kI) (tA wd ρ S (rg2K kI)) := ⟨id⟩
instance : Stp (rg1K kI [.int x] S) (-(2 ^ 62) ≤ x ∧ x ≤ 16777216 ∧ kI (rng 0 x.toNat) gT S) := ⟨id⟩
instance : Stp (rg2K kI [.int x, .int y] S) (-(2 ^ 62) ≤ x ∧ x < 2 ^ 62 ∧ -(2 ^ 62) ≤ y ∧ y < 2 ^ 62 ∧ y - x ≤ 16777216 ∧ kI (rng x (y - x).toNat) gT S) := ⟨id⟩
def enK (k : List D → (Sto → Prop) → Sto → Prop) : List D → Sto → Prop := fun ds S1 => match ds with | [d] => (match vl S1 d with | some xs => xs.length ≤ sizeLine ∧ k (enm 0 xs) (grd d xs) S1 | none => False) | _ => False
instance : Stp (iEn tA wd ρ S kI) (tA wd ρ S (enK kI)) := ⟨id⟩
instance : Stp (enK kI [.lst xs] S) (xs.length ≤ sizeLine ∧ kI (enm 0 xs) gT S) := ⟨id⟩
def enzK (c : Int) (k : List D → (Sto → Prop) → Sto → Prop) : List D → Sto → Prop := fun ds S1 => match ds with
  | [d, e] => (match vl S1 d, vl S1 e with | some xs, some ys => xs.length ≤ sizeLine ∧ k (enm c (zpd xs ys)) (fun S => grd d xs S ∧ grd e ys S) S1 | _, _ => False)
  | _ => False
instance {c : Int} : Stp (iEnZ c tA wd ρ S kI) (tA wd ρ S (enzK c kI)) := ⟨id⟩
/-! comprehensions -/
instance {wi : TID} {vs : List Nat} : Stp (dLc wi g tt te vs wd ρ S k) (wi wd ρ S fun ds G S1 => compD wd0 g tt te (wipeD ρ vs) G ds S1 [] fun ys S2 => k (.lst ys) S2) := ⟨id⟩
instance {wi : TID} {vs : List Nat} : Stp (dLcM wi g tt te vs wd ρ S k) (wi wd ρ S fun ds G S1 => compD wd0 g tt te (wipeD ρ vs) G ds S1 [] fun ys S2 => ∀ p, S2 p = none → k (.adr p) (supd S2 p (.lst ys))) := ⟨id⟩
instance : Stp (dYes wd ρ S kb) (kb true S) := ⟨id⟩
/-! methods of lists -/
instance {f : D → List D → Sto → KD → Prop} : Stp (dMt f ta tA wd ρ S k) (ta wd ρ S fun d S1 => isLs d S1 ∧ tA wd ρ S1 fun ds S2 => f d ds S2 k) := ⟨id⟩
theorem isLs_ok {p : Addr} (h : S p = some (.lst xs)) : isLs (.adr p) S := by unfold isLs; dsimp only; rw [h]; trivial
theorem onL_ok {p : Addr} {f : Addr → List D → Prop} (h : S p = some (.lst xs)) (q : f p xs) : onL (.adr p) S f := by unfold onL; dsimp only; rw [h]; exact q
end
section
variable {wd : WD} {E : EndsD} {ρ ρ' : Envd} {S S0 : Sto} {k : KD} {t : TSD} {ts : Addr → D → TSD} {te : TD} {i : Nat} {d x : D} {C xa : Addr} {ms : List (Addr × Bool)} {F H : Hp}
/-! raising, try -/
instance : Stp (dRaise C te wd E ρ S) (te wd ρ S fun d S1 => wd.f C d ρ S1) := ⟨id⟩
instance {ex : XD} : Stp (WD.f (wdX ex F H S0) C d ρ S) (∃ S1, SSub S1 S ∧ ex C d S1) := ⟨id⟩
instance {f : Addr → D → Envd → Sto → Prop} : Stp (WD.f ⟨f, F, H, S0⟩ C d ρ S) (f C d ρ S) := ⟨id⟩
instance : Stp (dTryAs i ms t ts wd E ρ S) (∀ F H, t ⟨tryX i ms ts wd E, F, H, S⟩ E ρ S) := ⟨id⟩
def suiK (i : Nat) (ts : Addr → D → TSD) (x : D) (xa : Addr) (F H : Hp) (E : EndsD) (ρ : Envd) (S : Sto) : Prop := ts xa x ⟨wdOut, F, H, S⟩ (endG i E) (ρ.set i (some (.adr xa))) S
instance [h : SetL ρ i (some (.adr xa)) ρ'] : Stp (suiK i ts x xa F H E ρ S) (ts xa x ⟨wdOut, F, H, S⟩ (endG i E) ρ' S) := ⟨fun q => by unfold suiK; rw [h.h]; exact q⟩
theorem try_hit (h : ∀ xa, S xa = none → ∀ F H, suiK i ts x xa F H E ρ S) : tryX i ((C, true) :: ms) ts wd E C x ρ S := ⟨true, List.mem_cons_self, fun _ => h, fun q => by cases q⟩
instance : Stp (tryX i ((C, true) :: ms) ts wd E C x ρ S) (∀ xa, S xa = none → ∀ F H, suiK i ts x xa F H E ρ S) := ⟨try_hit⟩
instance [h : SetL ρ i none ρ'] : Stp (EndsD.nx (endG i E) ρ S) (E.nx ρ' S) := ⟨fun q => by unfold endG; dsimp only; rw [h.h]; exact q⟩
instance [h : SetL ρ i none ρ'] : Stp (EndsD.bk (endG i E) ρ S) (E.bk ρ' S) := ⟨fun q => by unfold endG; dsimp only; rw [h.h]; exact q⟩
instance [h : SetL ρ i none ρ'] : Stp (EndsD.ct (endG i E) ρ S) (E.ct ρ' S) := ⟨fun q => by unfold endG; dsimp only; rw [h.h]; exact q⟩
instance : Stp (EndsD.rt (endG i E) d S) (E.rt d S) := ⟨id⟩
class NoT (d : D) : Prop where
  h : noTy d = true
instance {i : Int} : NoT (.int i) := ⟨rfl⟩
instance {i : Bool} : NoT (.bl i) := ⟨rfl⟩
instance {i : Str} : NoT (.str i) := ⟨rfl⟩
instance : NoT .non := ⟨rfl⟩
instance {i : Addr} : NoT (.adr i) := ⟨rfl⟩
instance {i : List D} : NoT (.lst i) := ⟨rfl⟩
instance {i : List D} : NoT (.tup i) := ⟨rfl⟩
instance [h : Lk ρ i (.adr xa)] [n : NoT x] : Stp (dExW i xa x wd ρ S k) (k x S) := ⟨fun q => ⟨by have := h.h; first | exact this | simpa using this, n.h, q⟩⟩
def orLK (tb : TD) (wd : WD) (ρ : Envd) (k : KD) : KD := fun d S1 => match truB S1 d with
  | some b => if b = true then k d S1 else tb wd ρ S1 k
  | none => False
instance {ta tb : TD} : Stp (dOrL ta tb wd ρ S k) (ta wd ρ S (orLK tb wd ρ k)) := ⟨id⟩
instance {tb : TD} : Stp (orLK tb wd ρ k .non S) (tb wd ρ S k) := ⟨id⟩
instance {tb : TD} {b : Bool} : Stp (orLK tb wd ρ k (.bl b) S) (if b = true then k (.bl b) S else tb wd ρ S k) := ⟨id⟩
instance {tb : TD} {x : Int} : Stp (orLK tb wd ρ k (.int x) S) (if (x != 0) = true then k (.int x) S else tb wd ρ S k) := ⟨id⟩
instance {tb : TD} {xs : List D} : Stp (orLK tb wd ρ k (.lst xs) S) (if (!xs.isEmpty) = true then k (.lst xs) S else tb wd ρ S k) := ⟨id⟩
end
section
variable {wd : WD} {ρ : Envd} {S : Sto} {k : KD} {to ti tx : TD} {d e y z : D} {ks vs : List D} {j : Nat}
instance : Stp (dDGet2 to ti tx wd ρ S k) (to wd ρ S fun d S1 => (vd S1 d).isSome = true ∧ ti wd ρ S1 fun y S2 => tx wd ρ S2 fun z S3 => dget2K y z d S3 k) := ⟨id⟩
instance : Stp (dget2K y z (.dic ks vs) S k) (isK y = true ∧ k ((dgo ks vs y).getD z) S) := ⟨id⟩
instance : Stp (dDic1M to ti wd ρ S k) (to wd ρ S fun d S1 => ti wd ρ S1 fun e S2 => isK d = true ∧ ∀ p, S2 p = none → k (.adr p) (supd S2 p (.dic [d] [e]))) := ⟨id⟩
instance : Stp (dFrz2 j to wd ρ S k) (to wd ρ S (frz2K j k)) := ⟨id⟩
end
end Z

set_option Elab.async false
set_option linter.all false
set_option maxRecDepth 100000
set_option maxHeartbeats 4000000
namespace Z
open PySem PySem.Spec PyProof.Rows L2

theorem grd_ok {d : D} {xs : List D} {S : Sto} (h : vq S d = some xs) : grd d xs S := by
  cases d with
  | adr a =>
    unfold vq at h
    dsimp only at h
    split at h
    · rename_i ys q
      cases h
      exact q
    · cases h
  | _ => exact True.intro
theorem vq_ty {d : D} {xs : List D} {S : Sto} (h : vq S d = some xs) : (tyN S d).isSome = true ∧ (isLst S d || isTup d) = true := by
  cases d with
  | adr a =>
    unfold vq at h
    dsimp only at h
    split at h
    · rename_i ys q
      cases h
      constructor
      · unfold tyN; dsimp only; rw [q]; rfl
      · unfold isLst vl; dsimp only; rw [q]; rfl
    · cases h
  | lst => exact ⟨rfl, rfl⟩
  | frl => exact ⟨rfl, rfl⟩
  | tup => exact ⟨rfl, rfl⟩
  | _ => cases h
theorem cLen_vq {d : D} {xs : List D} {S : Sto} {k : KD} (h : vq S d = some xs) (hk : k (.int xs.length) S) : cLen [d] S k := by
  cases d with
  | str => cases h
  | _ => unfold cLen; dsimp only; rw [h]; exact hk
theorem vq_supd {S : Sto} {d : D} {xs : List D} {x : Addr} {o u : DO} (h : vq S d = some xs) (hx : S x = some o) (ho : ∀ ys, o ≠ .lst ys) : vq (supd S x u) d = some xs := by
  cases d with
  | adr a =>
    unfold vq at h ⊢
    dsimp only at h ⊢
    split at h
    · rename_i ys q
      have : a ≠ x := fun e => by subst e; rw [hx] at q; cases q; exact ho _ rfl
      rw [supd_ne this, q]
      exact h
    · cases h
  | _ => exact h
theorem cTup_vq {d : D} {xs : List D} {S : Sto} {k : KD} (h : vq S d = some xs) (hk : k (.tup xs) S) : cTup [d] S k := by
  rcases vq_cases h with rfl | h2
  · exact hk
  · cases d with
    | tup => cases h2
    | _ => unfold cTup; dsimp only; rw [h2]; exact hk
theorem comp_map {wd : WD} {g : TGD} {te : TD} {ρ : Envd} {G : Sto → Prop} {k : List D → Sto → Prop} {S : Sto} (f : D → D) (hG : G S) : ∀ (ds acc : List D),
    (∀ d ∈ ds, ∀ (c1 : D → Sto → Prop), c1 (f d) S → g d ρ S fun ρ1 S1 => te wd ρ1 S1 c1) → k (acc ++ ds.map f) S → compD wd g dYes te ρ G ds S acc k := by
  intro ds acc h hk
  refine comp_pure (fun _ => true) f hG ds acc (fun d hd c1 c2 h1 _ => ?_) (by rw [List.filter_eq_self.mpr (fun _ _ => rfl)]; exact hk)
  simp only [dYes, if_true]
  exact h d hd c1 (h1 rfl)
theorem zpd_map {α β : Type} (f : α → D) (g : β → D) : ∀ (xs : List α) (ys : List β), zpd (xs.map f) (ys.map g) = (xs.zip ys).map fun p => .tup [f p.1, g p.2]
  | [], _ => by simp [zpd]
  | _ :: _, [] => by simp [zpd]
  | x :: xs, y :: ys => by
    rw [List.map_cons, List.map_cons]
    unfold zpd
    rw [zpd_map f g xs ys]; simp
theorem cutD_from (xs : List D) (k : Nat) : cutD xs (some (k : Int)) none = xs.drop k := by
  unfold cutD
  rw [HT.sIx_nat, HT.sIx_none]
  rcases Nat.le_total k xs.length with h | h
  · rw [Nat.min_eq_left h]
    exact List.take_of_length_le (by simp)
  · rw [Nat.min_eq_right h, List.drop_of_length_le h]
    simp
theorem cutD_to (xs : List D) (k : Nat) : cutD xs none (some (k : Int)) = xs.take k := by
  unfold cutD
  rw [HT.sIx_nat, HT.sIx_none]
  simp only [List.drop_zero, Nat.sub_zero]
  rcases Nat.le_total k xs.length with h | h
  · rw [Nat.min_eq_left h]
  · rw [Nat.min_eq_right h, List.take_of_length_le h, List.take_of_length_le (Nat.le_refl _)]
theorem blsOf_map' {α : Type} (f : α → Bool) (xs : List α) : blsOf (xs.map fun x => D.bl (f x)) = some (xs.map f) := by
  rw [← bls_map (xs.map f), List.map_map]; rfl
theorem intsOf_map' {α : Type} (f : α → Int) (xs : List α) : intsOf (xs.map fun x => D.int (f x)) = some (xs.map f) := by
  rw [← ints_map (xs.map f), List.map_map]; rfl


theorem fEq_ok {d e : D} {S : Sto} {k : KD} (h1 : pln 60 d) (h2 : pln 60 e) (q : k (.bl (deq d e)) S) : fEq d e S k := ⟨by rw [tr_pln h1]; exact h1, by rw [tr_pln h2]; exact h2, by rw [tr_pln h1, tr_pln h2]; exact q⟩
theorem fNe_ok {d e : D} {S : Sto} {k : KD} (h1 : pln 60 d) (h2 : pln 60 e) (q : k (.bl (!deq d e)) S) : fNe d e S k := ⟨by rw [tr_pln h1]; exact h1, by rw [tr_pln h2]; exact h2, by rw [tr_pln h1, tr_pln h2]; exact q⟩
theorem pln_nil : pln 60 (.lst []) := by rw [pln_lst]; simp
theorem cAll_ok {xs : List D} {bs : List Bool} {S : Sto} {k : KD} (h : blsOf xs = some bs) (q : k (.bl (bs.all id)) S) : cAll [.lst xs] S k := by
  unfold cAll onBls; simp only [vl, Option.bind_some, h]; exact q
/-- the loop: the first n ropes are walked -/
theorem atI_last {α : Type} {xs : List α} {x : α} : atI (xs ++ [x]) (-1) = some x := by
  unfold atI ixN
  have hl : (xs ++ [x]).length = xs.length + 1 := by simp
  rw [if_neg (by omega), hl, if_pos (by omega)]
  have : ((-1 : Int) + ((xs.length + 1 : Nat) : Int)).toNat = xs.length := by omega
  rw [this, Option.bind_some, List.getElem?_append_right (Nat.le_refl _)]
  simp
theorem cSum_ok {xs : List D} {ns : List Int} {S : Sto} {k : KD} (h : intsOf xs = some ns) (q : k (.int ns.sum) S) : cSum [.lst xs] S k := by
  unfold cSum onInts; simp only [vl, Option.bind_some, h]; exact q
theorem pln_ints {n : Nat} (ns : List Int) : pln (n + 1) (.lst (ns.map D.int)) := by
  rw [pln_lst]
  intro x hx
  rw [List.mem_map] at hx
  obtain ⟨i, _, rfl⟩ := hx
  rw [pln_int]; trivial
/-! ### the store, step by step -/
class Sv (S : Sto) (p : Addr) (o : outParam DO) : Prop where
  h : S p = some o
class Nq (a b : Addr) : Prop where
  h : a ≠ b
instance svOld {S : Sto} {p q : Addr} {o u : DO} [n : Nq q p] [h : Sv S q o] : Sv (supd S p u) q o := ⟨by rw [supd_ne n.h]; exact h.h⟩
instance svNew {S : Sto} {p : Addr} {o : DO} : Sv (supd S p o) p o := ⟨supd_same⟩
section
variable {S : Sto} {k : KD} {xs ys : List D} {p : Addr} {d e u : D} {x y : Int} {o : DO} {P : Prop} {ks : Sto → Prop} {kI : List D → (Sto → Prop) → Sto → Prop} {m : Bool}
instance [h : Sv S p (.lst xs)] [a : AtL xs x d] : Stp (fIx (.adr p) (.int x) S k) (k d S) := ⟨fun q => ix_q (by unfold vq; simp only [h.h]) a.h q⟩
theorem ix_adr (h : Sv S p (.lst xs)) (a : atI xs x = some d) (q : k d S) : fIx (.adr p) (.int x) S k := ix_q (by unfold vq; simp only [h.h]) a q
instance [h : Sv S p (.lst xs)] : Stp (isLs (.adr p) S ∧ P) P := ⟨fun q => ⟨isLs_ok h.h, q⟩⟩
instance [h : Sv S p (.lst xs)] : Stp (mAppend (.adr p) [d] S k) (xs.length < sizeLine ∧ k .non (supd S p (.lst (xs ++ [d])))) := ⟨fun q => by unfold mAppend; exact onL_ok h.h q⟩
instance [h : Sv S p (.lst xs)] : Stp (mClear (.adr p) [] S k) (k .non (supd S p (.lst []))) := ⟨fun q => by unfold mClear; exact onL_ok h.h q⟩
instance [h : Sv S p (.lst (d :: xs))] : Stp (sSetL (.adr p) (.int 0) u S ks) (ks (supd S p (.lst (u :: xs)))) := ⟨fun q => by
  unfold sSetL
  refine onL_ok h.h ?_
  have : ixN (d :: xs).length 0 = some 0 := by unfold ixN; rw [if_pos (by decide), if_pos (by rw [List.length_cons]; omega)]; rfl
  simp only [this, List.set_cons_zero]
  exact q⟩
instance [h : Sv S p (.lst (d :: e :: xs))] : Stp (sSetL (.adr p) (.int 1) u S ks) (ks (supd S p (.lst (d :: u :: xs)))) := ⟨fun q => by
  unfold sSetL
  refine onL_ok h.h ?_
  have : ixN (d :: e :: xs).length 1 = some 1 := by unfold ixN; rw [if_pos (by decide), if_pos (by rw [List.length_cons, List.length_cons]; omega)]; rfl
  simp only [this, List.set_cons_zero, List.set_cons_succ]
  exact q⟩
instance [h : Sv S p (.lst xs)] : Stp (cLen [.adr p] S k) (k (.int xs.length) S) := ⟨fun q => cLen_vq (by unfold vq; simp only [h.h]) q⟩
instance [h : Sv S p o] : Stp (frzK k (.adr p) S) (k o.toD (sdel S p)) := ⟨fun q => frz_adr h.h q⟩
instance [h : Sv S p (.lst xs)] : Stp (iSqK kI (.adr p) S) (kI xs (fun S => S p = some (.lst xs)) S) := ⟨fun q => iSq_adr h.h q⟩
end
/-- what is behind a def that keeps a list of its own at q and turns the one at p -/
theorem sto_out {S S' : Sto} {p q : Addr} {o : DO} (hq : S q = none) (hn : p ≠ q) (hp : S' p = some o) (hr : ∀ x, x ≠ p → x ≠ q → S' x = S x) : sdel S' q = supd S p o := by
  funext x
  unfold sdel supd
  by_cases h1 : x = q
  · subst h1
    rw [if_pos rfl, if_neg (fun e => hn e.symm), hq]
  · rw [if_neg h1]
    by_cases h2 : x = p
    · subst h2; rw [if_pos rfl, hp]
    · rw [if_neg h2, hr x h2 h1]



/-! ### lists, trees or of the store -/
class Ls (S : Sto) (d : D) (xs : outParam (List D)) : Prop where
  h : d = .lst xs ∨ ∃ p, d = .adr p ∧ S p = some (.lst xs)
instance {S : Sto} {xs : List D} : Ls S (.lst xs) xs := ⟨.inl rfl⟩
instance {S : Sto} {p : Addr} {xs : List D} [h : Sv S p (.lst xs)] : Ls S (.adr p) xs := ⟨.inr ⟨p, rfl, h.h⟩⟩
section
variable {S : Sto} {d e : D} {xs ys : List D} {k : KD} {kI : List D → (Sto → Prop) → Sto → Prop} {m : Bool} {x : Int} {lo hi : Option Int}
theorem Ls.vq (h : Ls S d xs) : vq S d = some xs := by
  rcases h.h with rfl | ⟨p, rfl, q⟩
  · rfl
  · unfold Z.vq; simp only [q]
theorem Ls.vl (h : Ls S d xs) : vl S d = some xs := by
  rcases h.h with rfl | ⟨p, rfl, q⟩
  · rfl
  · unfold Z.vl; simp only [q]
theorem Ls.vx (h : Ls S d xs) : vx S d = some xs := by
  rcases h.h with rfl | ⟨p, rfl, q⟩
  · rfl
  · unfold Z.vx; simp only [q]
theorem Ls.vi (h : Ls S d xs) : vi S d = some xs := by
  rcases h.h with rfl | ⟨p, rfl, q⟩
  · rfl
  · unfold Z.vi; simp only [q]
theorem Ls.tr (h : Ls S d xs) : tr S d = .lst xs := by
  rcases h.h with rfl | ⟨p, rfl, q⟩
  · rfl
  · exact tr_adr q
theorem Ls.ty (h : Ls S d xs) : (tyN S d).isSome = true := (vq_ty h.vq).1
theorem Ls.isL (h : Ls S d xs) : isLst S d = true := by unfold isLst; rw [h.vl]; rfl
theorem Ls.grd (h : Ls S d xs) : grd d xs S := grd_ok h.vq
instance (priority := 50) ls_sq [h : Ls S d xs] : Stp (iSqK kI d S) (kI xs (grd d xs) S) := ⟨fun q => by unfold iSqK; rw [h.vq]; exact q⟩
instance (priority := 50) ls_en [h : Ls S d xs] : Stp (enK kI [d] S) (xs.length ≤ sizeLine ∧ kI (enm 0 xs) (grd d xs) S) := ⟨fun q => by unfold enK; simp only [h.vl]; exact q⟩
def enSK (k : List D → (Sto → Prop) → Sto → Prop) : List D → Sto → Prop := fun ds S1 => match ds with
  | [d, .int c] => (match vl S1 d with | some xs => xs.length ≤ sizeLine ∧ -(2 ^ 62) ≤ c ∧ c < 2 ^ 62 ∧ k (enm c xs) (Z.grd d xs) S1 | none => False)
  | _ => False
instance {tA : TAD} {wd : WD} {ρ : Envd} : Stp (iEnS tA wd ρ S kI) (tA wd ρ S (enSK kI)) := ⟨id⟩
instance (priority := 50) ls_enS [h : Ls S d xs] : Stp (enSK kI [d, .int x] S) (xs.length ≤ sizeLine ∧ -(2 ^ 62) ≤ x ∧ x < 2 ^ 62 ∧ kI (enm x xs) (Z.grd d xs) S) := ⟨fun q => by unfold enSK; simp only [h.vl]; exact q⟩
def zpK (k : List D → (Sto → Prop) → Sto → Prop) : List D → Sto → Prop := fun ds S1 => match ds with
  | [.tup xs, .tup ys] => xs.length ≤ sizeLine ∧ k (zpd xs ys) gT S1
  | [d, e] => (match vl S1 d, vl S1 e with | some xs, some ys => xs.length ≤ sizeLine ∧ k (zpd xs ys) (fun S => Z.grd d xs S ∧ Z.grd e ys S) S1 | _, _ => False)
  | _ => False
instance {tA : TAD} {wd : WD} {ρ : Envd} : Stp (iZp tA wd ρ S kI) (tA wd ρ S (zpK kI)) := ⟨id⟩
instance (priority := 50) ls_zp [h : Ls S d xs] [g : Ls S e ys] : Stp (zpK kI [d, e] S) (xs.length ≤ sizeLine ∧ kI (zpd xs ys) (fun S => Z.grd d xs S ∧ Z.grd e ys S) S) := ⟨fun q => by
  have a := h.vl
  have b := g.vl
  rcases h.h with rfl | ⟨p, rfl, e1⟩ <;> rcases g.h with rfl | ⟨p', rfl, e2⟩ <;> (unfold zpK; simp only [a, b]; exact q)⟩
instance (priority := 50) ls_enz {c : Int} [h : Ls S d xs] [g : Ls S e ys] : Stp (enzK c kI [d, e] S) (xs.length ≤ sizeLine ∧ kI (enm c (zpd xs ys)) (fun S => Z.grd d xs S ∧ Z.grd e ys S) S) := ⟨fun q => by
  have a := h.vl
  have b := g.vl
  unfold enzK; simp only [a, b]; exact q⟩
instance (priority := 50) ls_len [h : Ls S d xs] : Stp (cLen [d] S k) (k (.int xs.length) S) := ⟨fun q => cLen_vq h.vq q⟩
instance (priority := 50) ls_ix [h : Ls S d xs] [a : AtL xs x e] : Stp (fIx d (.int x) S k) (k e S) := ⟨fun q => ix_q h.vq a.h q⟩
instance (priority := 50) ls_tup [h : Ls S d xs] : Stp (cTup [d] S k) (k (.tup xs) S) := ⟨fun q => cTup_vq h.vq q⟩
instance (priority := 50) ls_lst [h : Ls S d xs] : Stp (cList m [d] S k) (mkL m xs S k) := ⟨fun q => by unfold cList; simp only [h.vq]; exact q⟩
instance (priority := 50) ls_sl [h : Ls S d xs] : Stp (fSl m d lo hi S k) (mkL m (cutD xs lo hi) S k) := ⟨fun q => by
  rcases h.h with rfl | ⟨p, rfl, e⟩
  · exact q
  · unfold fSl; simp only [h.vl]; exact q⟩
instance (priority := 50) ls_add [h : Ls S d xs] [g : Ls S e ys] : Stp (fAdd m d e S k) (xs.length + ys.length ≤ sizeLine ∧ mkL m (xs ++ ys) S k) := ⟨fun q => by
  have a := h.vx
  have b := g.vx
  rcases h.h with rfl | ⟨p, rfl, e1⟩ <;> rcases g.h with rfl | ⟨p', rfl, e2⟩ <;> (unfold fAdd; simp only [a, b]; exact q)⟩
instance (priority := 50) ls_mul [h : Ls S d xs] : Stp (fMul m d (.int x) S k) (-(2 ^ 63) ≤ x ∧ x < 2 ^ 63 ∧ xs.length * x.toNat ≤ sizeLine ∧ mkL m (List.replicate x.toNat xs).flatten S k) := ⟨fun q => by
  have a := h.vx
  rcases h.h with rfl | ⟨p, rfl, e1⟩ <;> (unfold fMul; simp only [a]; exact q)⟩
theorem ls_sum {ns : List Int} (h : Ls S d xs) (hn : intsOf xs = some ns) (q : k (.int ns.sum) S) : cSum [d] S k := by
  unfold cSum onInts; simp only [h.vl, Option.bind_some, hn]; exact q
theorem ls_all {bs : List Bool} (h : Ls S d xs) (hn : blsOf xs = some bs) (q : k (.bl (bs.all id)) S) : cAll [d] S k := by
  unfold cAll onBls; simp only [h.vl, Option.bind_some, hn]; exact q
theorem ls_eq (h : Ls S d xs) (g : Ls S e ys) (hp : pln 60 (.lst xs)) (hq : pln 60 (.lst ys)) (q : k (.bl (deqs xs ys)) S) : fEq d e S k := by
  refine ⟨by rw [h.tr]; exact hp, by rw [g.tr]; exact hq, ?_⟩
  rw [h.tr, g.tr, deq_lst]; exact q
theorem ls_ne (h : Ls S d xs) (g : Ls S e ys) (hp : pln 60 (.lst xs)) (hq : pln 60 (.lst ys)) (q : k (.bl (!deqs xs ys)) S) : fNe d e S k := by
  refine ⟨by rw [h.tr]; exact hp, by rw [g.tr]; exact hq, ?_⟩
  rw [h.tr, g.tr, deq_lst]; exact q
end
class AppS (xs ys : List Str) (zs : outParam (List Str)) : Prop where
  h : xs ++ ys = zs
instance {ys : List Str} : AppS [] ys ys := ⟨rfl⟩
instance {x : Str} {xs ys zs : List Str} [h : AppS xs ys zs] : AppS (x :: xs) ys (x :: zs) := ⟨by rw [List.cons_append, h.h]⟩
section
variable {S : Sto} {k : KD} {ks : Sto → Prop} {a C : Addr} {ns ns2 : List Str} {fn : Str} {vs vs2 : List D} {y d : D} {i : Nat} {to te : TD} {wd : WD} {E : EndsD} {ρ : Envd}
instance : Stp (dSfldN C ns fn to te wd E ρ S) (te wd ρ S fun y S1 => to wd ρ S1 fun d S2 => sfldNew C ns fn d y S2 fun S3 => E.nx ρ S3) := ⟨id⟩
instance [h : Sv S a (.obj C ns vs)] [n : AppS ns [fn] ns2] [v : App vs [y] vs2] : Stp (sfldNew C ns fn (.adr a) y S ks) (ks (supd S a (.obj C ns2 vs2))) := ⟨fun q => by unfold sfldNew; simp only [h.h]; exact ⟨trivial, trivial, by rw [n.h, v.h]; exact q⟩⟩
instance [h : Sv S a (.obj C ns vs)] [e : LkV vs i d] : Stp (fldK C ns i (.adr a) S k) (k d S) := ⟨fun q => by unfold fldK; simp only [h.h, e.h]; exact ⟨trivial, trivial, q⟩⟩
instance : Stp (dSfldO C ns i to te wd E ρ S) (te wd ρ S fun y S1 => to wd ρ S1 fun d S2 => sfldOld C ns i d y S2 fun S3 => E.nx ρ S3) := ⟨id⟩
class SetV (vs : List D) (i : Nat) (y : D) (vs' : outParam (List D)) : Prop where
  h : vs.set i y = vs'
instance {x y : D} {vs : List D} : SetV (x :: vs) 0 y (y :: vs) := ⟨rfl⟩
instance {x y : D} {vs vs' : List D} {i : Nat} [h : SetV vs i y vs'] : SetV (x :: vs) (i + 1) y (x :: vs') := ⟨by rw [List.set_cons_succ, h.h]⟩
instance [h : Sv S a (.obj C ns vs)] [e : SetV vs i y vs2] : Stp (sfldOld C ns i (.adr a) y S ks) (ks (supd S a (.obj C ns vs2))) := ⟨fun q => by unfold sfldOld; simp only [h.h]; exact ⟨trivial, trivial, by rw [e.h]; exact q⟩⟩
theorem fldK_at (h : S a = some (.obj C ns vs)) (e : vs[i]? = some d) (q : k d S) : fldK C ns i (.adr a) S k := by unfold fldK; simp only [h, e]; exact ⟨trivial, trivial, q⟩
end
section
variable {wd : WD} {E : EndsD} {ρ : Envd} {S : Sto} {t ts : TSD} {x : D} {C : Addr} {ms : List (Addr × Bool)}
instance : Stp (dTryO ms t ts wd E ρ S) (∀ F H, t ⟨tryO ms ts wd E, F, H, S⟩ E ρ S) := ⟨id⟩
instance : Stp (tryO ((C, true) :: ms) ts wd E C x ρ S) (∀ F H, ts ⟨wdOut, F, H, S⟩ E ρ S) := ⟨fun h => ⟨true, List.mem_cons_self, fun _ => h, fun q => by cases q⟩⟩
end
section
variable {wd : WD} {ρ : Envd} {S : Sto} {t : TD} {k : KD} {p : Addr} {o : DO} {x : Int} {b : Bool} {z : Str} {ds xs : List D} {kA : List D → Sto → Prop}
instance : Stp (dFrzT t wd ρ S k) (t wd ρ S (frzTK k)) := ⟨id⟩
instance : Stp (frzTK k (.tup ds) S) (frzA ds S fun es S' => k (.tup es) S') := ⟨id⟩
instance : Stp (frzTK k (.int x) S) (k (.int x) S) := ⟨id⟩
instance : Stp (frzTK k (.bl b) S) (k (.bl b) S) := ⟨id⟩
instance : Stp (frzTK k (.str z) S) (k (.str z) S) := ⟨id⟩
instance : Stp (frzTK k .non S) (k .non S) := ⟨id⟩
instance : Stp (frzA [] S kA) (kA [] S) := ⟨id⟩
instance : Stp (frzA (.int x :: ds) S kA) (frzA ds S fun es S' => kA (.int x :: es) S') := ⟨id⟩
instance : Stp (frzA (.bl b :: ds) S kA) (frzA ds S fun es S' => kA (.bl b :: es) S') := ⟨id⟩
instance : Stp (frzA (.str z :: ds) S kA) (frzA ds S fun es S' => kA (.str z :: es) S') := ⟨id⟩
instance : Stp (frzA (.non :: ds) S kA) (frzA ds S fun es S' => kA (.non :: es) S') := ⟨id⟩
instance : Stp (frzA (.lst xs :: ds) S kA) (frzA ds S fun es S' => kA (.lst xs :: es) S') := ⟨id⟩
instance : Stp (frzA (.tup xs :: ds) S kA) (frzA ds S fun es S' => kA (.tup xs :: es) S') := ⟨id⟩
instance [h : Sv S p o] : Stp (frzA (.adr p :: ds) S kA) (frzA ds (sdel S p) fun es S' => kA (o.toD :: es) S') := ⟨fun q => by unfold frzA; rw [h.h]; exact q⟩
end
section
variable {wd : WD} {ρ : Envd} {S : Sto} {t : TD} {k : KD}
def lenSetK (d : D) (S1 : Sto) (k : KD) : Prop := onInts (fun ns S k => ns.length ≤ 4000 ∧ k (.int (cntI ns)) S) [d] S1 k
instance : Stp (dLenSet t wd ρ S k) (t wd ρ S fun d S1 => lenSetK d S1 k) := ⟨id⟩
instance {ns : List Int} : Stp (lenSetK (.lst (ns.map D.int)) S k) (ns.length ≤ 4000 ∧ k (.int (cntI ns)) S) := ⟨fun q => by
  unfold lenSetK onInts
  dsimp only
  rw [show vl S (.lst (ns.map D.int)) = some (ns.map D.int) from rfl, Option.bind_some, ints_map]
  exact q⟩
end
section
variable {S : Sto} {k : KD} {p : Addr} {xs : List D}
instance : Stp (fEqE (.lst xs) (.lst []) S k) (k (.bl xs.isEmpty) S) := ⟨fun q => ⟨xs, rfl, (fun _ e => by cases e), rfl, q⟩⟩
instance [h : Sv S p (.lst xs)] : Stp (fEqE (.adr p) (.lst []) S k) (k (.bl xs.isEmpty) S) := ⟨fun q => ⟨xs, by show (match S p with | some (.lst ys) => some ys | _ => none) = _; rw [h.h], (fun _ e => by cases e), rfl, q⟩⟩
instance [h : Sv S p (.lst xs)] : Stp (frzTK k (.adr p) S) (frzA xs (sdel S p) fun es S' => k (.lst es) S') := ⟨fun q => by unfold frzTK; dsimp only; rw [h.h]; exact q⟩
end
section
variable {wd : WD} {ρ : Envd} {S : Sto} {t : TD} {k : KD} {p : Addr}
def sortSetK (d : D) (S1 : Sto) (k : KD) : Prop := onInts (fun ns S k => (ns.length ≤ 4000 ∧ ∀ x ∈ ns, 0 ≤ x ∧ x < 63) ∧ ∀ ms : List Int, ms.Pairwise (· < ·) → (∀ k, k ∈ ms ↔ k ∈ ns) → k (.lst (ms.map D.int)) S) [d] S1 k
instance : Stp (dSortSet t wd ρ S k) (t wd ρ S fun d S1 => sortSetK d S1 k) := ⟨id⟩
instance {ns : List Int} : Stp (sortSetK (.lst (ns.map D.int)) S k) ((ns.length ≤ 4000 ∧ ∀ x ∈ ns, 0 ≤ x ∧ x < 63) ∧ ∀ ms : List Int, ms.Pairwise (· < ·) → (∀ k, k ∈ ms ↔ k ∈ ns) → k (.lst (ms.map D.int)) S) := ⟨fun q => by
  unfold sortSetK onInts
  dsimp only
  rw [show vl S (.lst (ns.map D.int)) = some (ns.map D.int) from rfl, Option.bind_some, ints_map]
  exact q⟩
end
/-! several clauses -/
class MemX (C : Addr) (ms : List (Addr × Bool)) (b : outParam Bool) : Prop where
  h : (C, b) ∈ ms
instance (priority := 2000) {C : Addr} {b : Bool} {ms : List (Addr × Bool)} : MemX C ((C, b) :: ms) b := ⟨List.mem_cons_self⟩
instance {C C' : Addr} {b b' : Bool} {ms : List (Addr × Bool)} [h : MemX C ms b] : MemX C ((C', b') :: ms) b := ⟨List.mem_cons_of_mem _ h.h⟩
section
variable {wd : WD} {E : EndsD} {ρ ρ' : Envd} {S : Sto} {k : KD} {t : TSD} {ts : Addr → Addr → D → TSD} {i : Nat} {o : Option Nat} {c x : D} {C xa : Addr} {ms : List (Addr × Bool)} {F H : Hp} {r : HdD}
instance : Stp (dTryM r t wd E ρ S) (∀ F H, t ⟨tryM wd E r, F, H, S⟩ E ρ S) := ⟨id⟩
def suiM (o : Option Nat) (ts : Addr → Addr → D → TSD) (C : Addr) (x : D) (xa : Addr) (F H : Hp) (E : EndsD) (ρ : Envd) (S : Sto) : Prop := ts C xa x ⟨wdOut, F, H, S⟩ (endO o E) (putO o ρ xa) S
instance : Stp (suiM none ts C x xa F H E ρ S) (ts C xa x ⟨wdOut, F, H, S⟩ E ρ S) := ⟨id⟩
instance [h : SetL ρ i (some (.adr xa)) ρ'] : Stp (suiM (some i) ts C x xa F H E ρ S) (ts C xa x ⟨wdOut, F, H, S⟩ (endG i E) ρ' S) := ⟨fun q => by unfold suiM endO putO; dsimp only; rw [h.h]; exact q⟩
instance tryHit [h : MemX C ms true] : Stp (tryM wd E ((o, ms, ts) :: r) C x ρ S) (∀ xa, S xa = none → ∀ F H, suiM o ts C x xa F H E ρ S) := ⟨fun q => ⟨true, h.h, fun _ => q, fun z => by cases z⟩⟩
instance tryMiss [h : MemX C ms false] : Stp (tryM wd E ((o, ms, ts) :: r) C x ρ S) (tryM wd E r C x ρ S) := ⟨fun q => ⟨false, h.h, (fun z => by cases z), fun _ => q⟩⟩
instance : Stp (tryM wd E [] C x ρ S) (wd.f C x ρ S) := ⟨id⟩
instance {b : Bool} [l : Lk ρ i (.adr xa)] [h : MemX C ms b] : Stp (dIsX i C xa c ms wd ρ S k) (k (.bl b) S) := ⟨fun q => ⟨by have := l.h; first | exact this | simpa using this, b, h.h, q⟩⟩
instance {ks vs : List D} : NoT (.dic ks vs) := ⟨rfl⟩
instance {xs : List D} : NoT (.frl xs) := ⟨rfl⟩
end
/-! locked dicts -/
section
variable {wd : WD} {E : EndsD} {ρ ρ' : Envd} {S : Sto} {t : TD} {ta tb : TD} {te : TD} {ts : TSD} {k : KD} {p : Addr} {ks vs : List D} {i : Nat} {a b : Int} {m : Bool} {d z : D} {kI : List D → (Sto → Prop) → Sto → Prop}
instance : Stp (dFrzL t wd ρ S k) (t wd ρ S (frzLK k)) := ⟨id⟩
instance [h : Sv S p (.dic ks vs)] : Stp (frzLK k (.adr p) S) (k (.dlk ks vs) (sdel S p)) := ⟨fun q => by unfold frzLK; dsimp only; rw [h.h]; exact q⟩
instance [l : Lk ρ i (.adr p)] [h : Sv S p (.dic ks vs)] [b : SetL ρ i (some (.dlk ks vs)) ρ'] : Stp (dFzL i ts wd E ρ S) (ts wd E ρ' (sdel S p)) := ⟨fun q => by
  unfold dFzL
  rw [l.h]
  dsimp only
  rw [h.h]
  dsimp only
  rw [b.h]
  exact q⟩
def dkK (kI : List D → (Sto → Prop) → Sto → Prop) : KD := fun d S1 => match d with | .dlk ks _ => ks.length ≤ sizeLine ∧ kI ks gT S1 | _ => False
def dvK (kI : List D → (Sto → Prop) → Sto → Prop) : KD := fun d S1 => match d with | .dlk _ vs => vs.length ≤ sizeLine ∧ kI vs gT S1 | _ => False
def diK (kI : List D → (Sto → Prop) → Sto → Prop) : KD := fun d S1 => match d with | .dlk ks vs => ks.length ≤ sizeLine ∧ kI (prs ks vs) gT S1 | _ => False
instance : Stp (iDk te wd ρ S kI) (te wd ρ S (dkK kI)) := ⟨id⟩
instance : Stp (iDv te wd ρ S kI) (te wd ρ S (dvK kI)) := ⟨id⟩
instance : Stp (iDi te wd ρ S kI) (te wd ρ S (diK kI)) := ⟨id⟩
instance : Stp (dkK kI (.dlk ks vs) S) (ks.length ≤ sizeLine ∧ kI ks gT S) := ⟨id⟩
instance : Stp (dvK kI (.dlk ks vs) S) (vs.length ≤ sizeLine ∧ kI vs gT S) := ⟨id⟩
instance : Stp (diK kI (.dlk ks vs) S) (ks.length ≤ sizeLine ∧ kI (prs ks vs) gT S) := ⟨id⟩
def lr1K (m : Bool) (k : KD) : KD := fun d S1 => match d with | .int b => (-(2 ^ 62) ≤ b ∧ b < 2 ^ 62 ∧ b.toNat ≤ 2 ^ 24) ∧ mkL m (rng 0 b.toNat) S1 k | _ => False
def lr2K (m : Bool) (k : KD) : D → KD := fun d e S2 => match d, e with | .int a, .int b => (-(2 ^ 62) ≤ a ∧ a < 2 ^ 62 ∧ -(2 ^ 62) ≤ b ∧ b < 2 ^ 62 ∧ (b - a).toNat ≤ 2 ^ 24) ∧ mkL m (rng a (b - a).toNat) S2 k | _, _ => False
instance : Stp (dLstRg1 m ta wd ρ S k) (ta wd ρ S (lr1K m k)) := ⟨id⟩
instance : Stp (lr1K m k (.int b) S) ((-(2 ^ 62) ≤ b ∧ b < 2 ^ 62 ∧ b.toNat ≤ 2 ^ 24) ∧ mkL m (rng 0 b.toNat) S k) := ⟨id⟩
instance : Stp (dLstRg2 m ta tb wd ρ S k) (ta wd ρ S fun d S1 => tb wd ρ S1 (lr2K m k d)) := ⟨id⟩
instance : Stp (lr2K m k (.int a) (.int b) S) ((-(2 ^ 62) ≤ a ∧ a < 2 ^ 62 ∧ -(2 ^ 62) ≤ b ∧ b < 2 ^ 62 ∧ (b - a).toNat ≤ 2 ^ 24) ∧ mkL m (rng a (b - a).toNat) S k) := ⟨id⟩
def lvK (m : Bool) (k : KD) : KD := fun d S1 => match vd S1 d with | some (_, vs) => mkL m vs S1 k | none => False
instance : Stp (dLstV m t wd ρ S k) (t wd ρ S (lvK m k)) := ⟨id⟩
instance : Stp (lvK m k (.dlk ks vs) S) (mkL m vs S k) := ⟨id⟩
instance : Stp (lvK m k (.dic ks vs) S) (mkL m vs S k) := ⟨id⟩
instance {y : D} : Stp (dget2K y z (.dlk ks vs) S k) (isK y = true ∧ k ((dgo ks vs y).getD z) S) := ⟨id⟩
theorem dgo_map (F : Int → D) (v : Int) : ∀ xs : List Int, dgo (xs.map D.int) (xs.map F) (.int v) = if v ∈ xs then some (F v) else none
  | [] => by simp [dgo]
  | x :: xs => by
    rw [List.map_cons, List.map_cons]
    unfold dgo
    have hq : keq (.int x) (.int v) = decide (x = v) := rfl
    rw [hq, dgo_map F v xs]
    by_cases h : x = v
    · subst h; simp
    · have h2 : ¬ v = x := fun e => h e.symm
      simp [h, h2]
instance {xs : List Int} {F : Int → D} {v : Int} : Stp (fGet (.dlk (xs.map D.int) (xs.map F)) (.int v) S k) (v ∈ xs ∧ k (F v) S) := ⟨fun q => by
  unfold fGet vd
  dsimp only
  rw [dgo_map, if_pos q.1]
  exact ⟨rfl, q.2⟩⟩
theorem prs_map {α : Type} (f g : α → D) : ∀ xs : List α, prs (xs.map f) (xs.map g) = xs.map fun x => .tup [f x, g x]
  | [] => rfl
  | x :: xs => by rw [List.map_cons, List.map_cons, List.map_cons]; unfold prs; rw [prs_map f g xs]
end
/-! an int as a test -/
section
variable {wd : WD} {ρ : Envd} {S : Sto} {te : TD} {kb : Bool → Sto → Prop} {i : Int} {b : Bool}
def tsiK (k : Bool → Sto → Prop) : KD := fun d S1 => match d with | .bl b => k b S1 | .int i => k (i != 0) S1 | _ => False
instance : Stp (dTstI te wd ρ S kb) (te wd ρ S (tsiK kb)) := ⟨id⟩
instance : Stp (tsiK kb (.bl b) S) (kb b S) := ⟨id⟩
instance : Stp (tsiK kb (.int i) S) (kb (i != 0) S) := ⟨id⟩
end
/-! sets of ints -/
section
variable {wd : WD} {ρ : Envd} {S : Sto} {wi : TID} {g : TGD} {tt : TTD} {te : TD} {vs : List Nat} {k : KD} {i : Int} {xs : List Int}
instance : Stp (dSc wi g tt te vs wd ρ S k) (wi wd ρ S fun ds G S1 => ds.length ≤ 4000 ∧ compSD wd0 g tt te (wipeD ρ vs) G ds S1 [] fun ns S2 => ∀ xs : List Int, xs.Nodup → (∀ i, i ∈ xs ↔ i ∈ ns) → k (.set xs) S2) := ⟨id⟩
instance : Stp (fInS (.int i) (.set xs) S k) (k (.bl (decide (i ∈ xs))) S) := ⟨id⟩
instance : Stp (fNotInS (.int i) (.set xs) S k) (k (.bl (!decide (i ∈ xs))) S) := ⟨id⟩
instance : Stp (cLenS [.set xs] S k) (k (.int xs.length) S) := ⟨id⟩
end
/-! doors -/
section
variable {wd : WD} {ρ : Envd} {S : Sto} {k : KD} {i : Nat} {c : D} {act : ActD} {P : Addr} {q : Str} {sp : D → ActD → SpD} {tb : TD}
instance [h : Lk ρ i c] : Stp (dAct i c act wd ρ S k) (act S k fun C y S' => wd.f C y ρ S') := ⟨fun z => ⟨h.h, z⟩⟩
instance [h : Sv S P (.tab q)] : Stp (dLam P q sp tb wd ρ S k) (∀ c : D, sp c (fun S1 k1 ex1 => ∀ F H, tb ⟨fun C y _ S2 => ex1 C y S2, F, H, S1⟩ ρ S1 k1) [c] S k fun C y S2 => wd.f C y ρ S2) := ⟨fun z => ⟨h.h, z⟩⟩
end
section
variable {S : Sto} {k : KD} {C : Addr} {ns : List Str} {vs vs' : List D} {sp : SpD} {b : Bool}
instance : Stp (fEqO C ns sp (.obj C ns vs) (.obj C ns vs') S k) (sp [.obj C ns vs, .obj C ns vs'] S (eqK k) fun _ _ _ => False) := ⟨fun q => ⟨⟨rfl, rfl⟩, ⟨rfl, rfl⟩, q⟩⟩
instance : Stp (fNeO C ns sp (.obj C ns vs) (.obj C ns vs') S k) (sp [.obj C ns vs, .obj C ns vs'] S (neK k) fun _ _ _ => False) := ⟨fun q => ⟨⟨rfl, rfl⟩, ⟨rfl, rfl⟩, q⟩⟩
instance : Stp (eqK k (.bl b) S) (k (.bl b) S) := ⟨id⟩
instance : Stp (neK k (.bl b) S) (k (.bl (!b)) S) := ⟨id⟩
end
end Z

set_option Elab.async false
set_option linter.all false
set_option maxRecDepth 100000
set_option maxHeartbeats 4000000
namespace Z
open PySem PySem.Spec PyProof.Rows L2

theorem cm1 {i j : Int} (h1 : -(2 ^ 64) < i) (h2 : i < 2 ^ 64) : CMul i j := .inl ⟨h1, h2⟩
theorem cm2 {i j : Int} (h1 : -(2 ^ 64) < j) (h2 : j < 2 ^ 64) : CMul i j := .inr ⟨h1, h2⟩
/-! ### frames of stores -/
class Fr (S : outParam Sto) (p : Addr) : Prop where
  h : S p = none
class NotIn (x : Addr) (ps : List Addr) : Prop where
  h : x ∉ ps
instance {x : Addr} : NotIn x [] := ⟨by simp⟩
instance {x p : Addr} {ps : List Addr} [h : Nq x p] [t : NotIn x ps] : NotIn x (p :: ps) := ⟨by simp only [List.mem_cons, not_or]; exact ⟨h.h, t.h⟩⟩
class InP (x : Addr) (ps : List Addr) : Prop where
  h : x ∈ ps
instance {x : Addr} {ps : List Addr} : InP x (x :: ps) := ⟨List.mem_cons_self⟩
instance {x p : Addr} {ps : List Addr} [h : InP x ps] : InP x (p :: ps) := ⟨List.mem_cons_of_mem _ h.h⟩
/-- S' keeps what S has, but for what stands at ps; it has no fewer objects -/
structure Keep (S S' : Sto) (ps : List Addr) : Prop where
  k : ∀ x o, S x = some o → x ∉ ps → S' x = some o
  d : ∀ x, S' x = none → S x = none
class KpL (S : outParam Sto) (S' : Sto) (ps : outParam (List Addr)) : Prop where
  h : Keep S S' ps
class Dm (S S' : Sto) : Prop where
  h : ∀ x, S' x = none → S x = none
class Nd (S : Sto) (p : Addr) : Prop where
  h : S p = none
class Kp (S S' : Sto) (ps : List Addr) : Prop where
  h : Keep S S' ps
class SubN (S : Sto) (qs ps : List Addr) : Prop where
  h : ∀ x ∈ qs, x ∈ ps ∨ S x = none
instance {S : Sto} {ps : List Addr} : SubN S [] ps := ⟨by simp⟩
instance (priority := high) {S : Sto} {x : Addr} {qs ps : List Addr} [h : InP x ps] [t : SubN S qs ps] : SubN S (x :: qs) ps := ⟨fun y hy => by
  rcases List.mem_cons.mp hy with rfl | hy
  · exact .inl h.h
  · exact t.h y hy⟩
instance {S : Sto} {x : Addr} {qs ps : List Addr} [h : Nd S x] [t : SubN S qs ps] : SubN S (x :: qs) ps := ⟨fun y hy => by
  rcases List.mem_cons.mp hy with rfl | hy
  · exact .inr h.h
  · exact t.h y hy⟩
instance {S : Sto} : Dm S S := ⟨fun _ h => h⟩
instance {S S1 : Sto} {p : Addr} {o : DO} [h : Dm S S1] : Dm S (supd S1 p o) := ⟨fun x e => by
  by_cases hx : x = p
  · subst hx; rw [supd_same] at e; cases e
  · rw [supd_ne hx] at e; exact h.h x e⟩
instance {S S1 S2 : Sto} {qs : List Addr} [k : KpL S1 S2 qs] [h : Dm S S1] : Dm S S2 := ⟨fun x e => h.h x (k.h.d x e)⟩
instance {S S1 : Sto} {q : Addr} [n : Nd S q] [h : Dm S S1] : Dm S (sdel S1 q) := ⟨fun x e => by
  by_cases hx : x = q
  · subst hx; exact n.h
  · unfold sdel at e; rw [if_neg hx] at e; exact h.h x e⟩
instance {S S0 : Sto} {p : Addr} [f : Fr S0 p] [d : Dm S S0] : Nd S p := ⟨d.h p f.h⟩
instance {S : Sto} {ps : List Addr} : Kp S S ps := ⟨⟨fun _ _ h _ => h, fun _ h => h⟩⟩
instance (priority := high) {S S1 : Sto} {p : Addr} {o : DO} {ps : List Addr} [i : InP p ps] [h : Kp S S1 ps] : Kp S (supd S1 p o) ps := ⟨⟨fun x u e hx => by
  have hne : x ≠ p := fun e' => hx (by rw [e']; exact i.h)
  rw [supd_ne hne]; exact h.h.k x u e hx, fun x e => by
  by_cases hx : x = p
  · subst hx; rw [supd_same] at e; cases e
  · rw [supd_ne hx] at e; exact h.h.d x e⟩⟩
instance {S S1 : Sto} {p : Addr} {o : DO} {ps : List Addr} [i : Nd S p] [h : Kp S S1 ps] : Kp S (supd S1 p o) ps := ⟨⟨fun x u e hx => by
  rw [supd_ne (fun e' => by rw [e', i.h] at e; cases e)]; exact h.h.k x u e hx, fun x e => by
  by_cases hx : x = p
  · subst hx; rw [supd_same] at e; cases e
  · rw [supd_ne hx] at e; exact h.h.d x e⟩⟩
instance {S S1 : Sto} {p : Addr} {ps : List Addr} [i : Nd S p] [h : Kp S S1 ps] : Kp S (sdel S1 p) ps := ⟨⟨fun x u e hx => by
  have : x ≠ p := fun e' => by rw [e', i.h] at e; cases e
  unfold sdel; rw [if_neg this]; exact h.h.k x u e hx, fun x e => by
  by_cases hx : x = p
  · subst hx; exact i.h
  · unfold sdel at e; rw [if_neg hx] at e; exact h.h.d x e⟩⟩
instance {S S1 S2 : Sto} {qs ps : List Addr} [k : KpL S1 S2 qs] [b : SubN S qs ps] [h : Kp S S1 ps] : Kp S S2 ps := by
  refine ⟨⟨fun x u e hx => k.h.k x u (h.h.k x u e hx) fun hq => ?_, fun x e => h.h.d x (k.h.d x e)⟩⟩
  rcases b.h x hq with z | z
  · exact hx z
  · rw [z] at e; cases e
theorem kp {S S' : Sto} {ps : List Addr} [h : Kp S S' ps] : KpL S S' ps := ⟨h.h⟩
theorem nd {S : Sto} {p : Addr} [h : Nd S p] : S p = none := h.h
theorem KpL.refl {S : Sto} {ps : List Addr} : KpL S S ps := ⟨⟨fun _ _ h _ => h, fun _ h => h⟩⟩
instance svDel {S : Sto} {p q : Addr} {o : DO} [n : Nq q p] [h : Sv S q o] : Sv (sdel S p) q o := ⟨by unfold sdel; rw [if_neg n.h]; exact h.h⟩
instance svKp {S S' : Sto} {x : Addr} {o : DO} {ps : List Addr} [k : KpL S S' ps] [n : NotIn x ps] [h : Sv S x o] : Sv S' x o := ⟨k.h.k x o h.h n.h⟩
class Hv (S : Sto) (x : Addr) : Prop where
  h : S x ≠ none
instance (priority := low) {S : Sto} {x : Addr} {o : DO} [h : Sv S x o] : Hv S x := ⟨by rw [h.h]; simp⟩
instance {S : Sto} {x y : Addr} {o : DO} [h : Hv S x] : Hv (supd S y o) x := ⟨fun e => by
  by_cases hx : x = y
  · subst hx; rw [supd_same] at e; cases e
  · rw [supd_ne hx] at e; exact h.h e⟩
instance {S S' : Sto} {x : Addr} {ps : List Addr} [k : KpL S S' ps] [h : Hv S x] : Hv S' x := ⟨fun e => h.h (k.h.d x e)⟩
instance {S : Sto} {x y : Addr} [n : Nq x y] [h : Hv S x] : Hv (sdel S y) x := ⟨fun e => by unfold sdel at e; rw [if_neg n.h] at e; exact h.h e⟩
instance nq1 {S : Sto} {p q : Addr} [f : Fr S p] [h : Hv S q] : Nq q p := ⟨fun e => h.h (by rw [e]; exact f.h)⟩
instance nq2 {S : Sto} {p q : Addr} [f : Fr S p] [h : Hv S q] : Nq p q := ⟨fun e => h.h (by rw [← e]; exact f.h)⟩
theorem fresh {S : Sto} {G : Addr → Prop} (h : ∀ p, Fr S p → G p) : ∀ p, S p = none → G p := fun p e => h p ⟨e⟩

/-! ### truths -/
class Bp (b : Bool) (P : outParam Prop) : Prop where
  h : b = true ↔ P
instance {P : Prop} [Decidable P] : Bp (decide P) P := ⟨decide_eq_true_iff⟩
instance {x y : Int} : Bp (x == y) (x = y) := ⟨beq_iff_eq⟩
instance {x y : Str} : Bp (x == y) (x = y) := ⟨beq_iff_eq⟩
instance {b : Bool} {P : Prop} [h : Bp b P] : Bp (!b) (¬P) := ⟨by rw [← h.h]; cases b <;> simp⟩
instance {b c : Bool} {P Q : Prop} [h : Bp b P] [g : Bp c Q] : Bp (b && c) (P ∧ Q) := ⟨by rw [← h.h, ← g.h]; cases b <;> cases c <;> simp⟩
instance {b c : Bool} {P Q : Prop} [h : Bp b P] [g : Bp c Q] : Bp (b || c) (P ∨ Q) := ⟨by rw [← h.h, ← g.h]; cases b <;> cases c <;> simp⟩
instance (priority := low) {b : Bool} : Bp b (b = true) := ⟨Iff.rfl⟩
/-- what a truth says, and what its not being so says -/
class Bq (b : Bool) (P N : outParam Prop) : Prop where
  t : b = true → P
  f : b = false → N
instance {P : Prop} [Decidable P] : Bq (decide P) P (¬P) := ⟨of_decide_eq_true, of_decide_eq_false⟩
instance {x y : Int} : Bq (x == y) (x = y) (¬x = y) := ⟨fun h => beq_iff_eq.mp h, fun h e => by rw [beq_iff_eq.mpr e] at h; cases h⟩
instance {x y : Str} : Bq (x == y) (x = y) (¬x = y) := ⟨fun h => beq_iff_eq.mp h, fun h e => by rw [beq_iff_eq.mpr e] at h; cases h⟩
instance {b : Bool} {P N : Prop} [h : Bq b P N] : Bq (!b) N P := ⟨fun e => h.f (by cases b <;> simp_all), fun e => h.t (by cases b <;> simp_all)⟩
instance {b c : Bool} {P Q N M : Prop} [h : Bq b P N] [g : Bq c Q M] : Bq (b && c) (P ∧ Q) (N ∨ M) := ⟨fun e => by rw [Bool.and_eq_true] at e; exact ⟨h.t e.1, g.t e.2⟩, fun e => by rw [Bool.and_eq_false_iff] at e; exact e.imp h.f g.f⟩
instance {b c : Bool} {P Q N M : Prop} [h : Bq b P N] [g : Bq c Q M] : Bq (b || c) (P ∨ Q) (N ∧ M) := ⟨fun e => by rw [Bool.or_eq_true] at e; exact e.imp h.t g.t, fun e => by rw [Bool.or_eq_false_iff] at e; exact ⟨h.f e.1, g.f e.2⟩⟩
instance (priority := low) {b : Bool} : Bq b (b = true) (b = false) := ⟨id, id⟩
theorem ifb {b : Bool} {P N A B : Prop} [h : Bq b P N] (h1 : P → A) (h2 : N → B) : if b = true then A else B := by
  by_cases hb : b = true
  · rw [if_pos hb]; exact h1 (h.t hb)
  · rw [if_neg hb]; exact h2 (h.f (Bool.eq_false_iff.mpr hb))
theorem ifT {b : Bool} {A B : Prop} (e : b = true) (h : A) : if b = true then A else B := by rw [if_pos e]; exact h
theorem ifF {b : Bool} {A B : Prop} (e : b = false) (h : B) : if b = true then A else B := by rw [if_neg (by rw [e]; decide)]; exact h
theorem bp_t {b : Bool} {P : Prop} [h : Bp b P] (p : P) : b = true := h.h.mpr p
theorem bp_f {b : Bool} {P : Prop} [h : Bp b P] (p : ¬P) : b = false := by
  cases b with
  | false => rfl
  | true => exact absurd (h.h.mp rfl) p
section
variable {wd : WD} {ρ : Envd} {S : Sto} {k : KD} {kb : Bool → Sto → Prop} {tb : TD} {t2 : TTD} {b c : Bool}
/-- `and`, `or` of truths, together -/
theorem andm (h1 : b = true → ∀ k' : KD, k' (.bl c) S → tb wd ρ S k') (h2 : k (.bl (b && c)) S) : if b = true then tb wd ρ S k else k (.bl false) S := by
  cases b with
  | true => rw [if_pos rfl]; exact h1 rfl k h2
  | false => rw [if_neg (by decide)]; exact h2
theorem orm (h1 : b = false → ∀ k' : KD, k' (.bl c) S → tb wd ρ S k') (h2 : k (.bl (b || c)) S) : if b = true then k (.bl true) S else tb wd ρ S k := by
  cases b with
  | true => rw [if_pos rfl]; exact h2
  | false => rw [if_neg (by decide)]; exact h1 rfl k h2
theorem andt (h1 : b = true → ∀ k' : Bool → Sto → Prop, k' c S → t2 wd ρ S k') (h2 : kb (b && c) S) : if b = true then t2 wd ρ S kb else kb false S := by
  cases b with
  | true => rw [if_pos rfl]; exact h1 rfl kb h2
  | false => rw [if_neg (by decide)]; exact h2
theorem ort (h1 : b = false → ∀ k' : Bool → Sto → Prop, k' c S → t2 wd ρ S k') (h2 : kb (b || c) S) : if b = true then kb true S else t2 wd ρ S kb := by
  cases b with
  | true => rw [if_pos rfl]; exact h2
  | false => rw [if_neg (by decide)]; exact h1 rfl kb h2
/-- the two ways of a choice come together -/
theorem ifJ {ta tb : TD} {wd : WD} {ρ : Envd} {S : Sto} {k : KD} {c : Bool} {N M : Prop} [q : Bq c N M] (P : D → Sto → Prop) (hk : ∀ d S', P d S' → k d S') (h1 : N → ∀ k' : KD, (∀ d S', P d S' → k' d S') → ta wd ρ S k') (h2 : M → ∀ k' : KD, (∀ d S', P d S' → k' d S') → tb wd ρ S k') : if c = true then ta wd ρ S k else tb wd ρ S k := ifb (fun e => h1 e k hk) (fun e => h2 e k hk)
theorem kbl (h : k (.bl b) S) (e : b = c) : k (.bl c) S := e ▸ h
theorem kint {x y : Int} (h : k (.int x) S) (e : x = y) : k (.int y) S := e ▸ h
theorem kd {x y : D} (h : k x S) (e : x = y) : k y S := e ▸ h
instance (priority := low) : Stp (notB kb b S) (kb (!b) S) := ⟨id⟩
instance (priority := low) : Stp (notK k (.bl b) S) (k (.bl (!b)) S) := ⟨id⟩
end

class WpL (ρ : Envd) (vs : List Nat) (ρ' : outParam Envd) : Prop where
  h : wipeD ρ vs = ρ'
instance {ρ : Envd} : WpL ρ [] ρ := ⟨rfl⟩
instance {ρ ρ1 ρ2 : Envd} {v : Nat} {vs : List Nat} [a : WpL ρ vs ρ1] [b : SetL ρ1 v none ρ2] : WpL ρ (v :: vs) ρ2 := ⟨by unfold wipeD; rw [a.h]; exact b.h⟩
instance {ρ ρ1 ρ2 : Envd} {vs : List Nat} {i : Nat} {x : Option D} [a : WpL ρ vs ρ1] [b : SetL ρ1 i x ρ2] : SetL (wipeD ρ vs) i x ρ2 := ⟨by rw [a.h]; exact b.h⟩
instance {P Q : Prop} {inst : Decidable ((!true) = true)} : Stp (@ite Prop ((!true) = true) inst P Q) Q := ⟨fun h => by rw [if_neg (show ¬ (!true) = true from Bool.false_ne_true)]; exact h⟩
instance {P Q : Prop} {inst : Decidable ((!false) = true)} : Stp (@ite Prop ((!false) = true) inst P Q) P := ⟨fun h => by rw [if_pos (show (!false) = true from rfl)]; exact h⟩
/-! ### a class, called -/
def nonK (k : KD) (x : Addr) : KD := fun d S2 => match d with | .non => k (.adr x) S2 | _ => False
def makeK (C : Addr) (sp : SpD) (dvs : List D) (wd : WD) (ρ : Envd) (k : KD) : List D → Sto → Prop := fun ds S1 => ∀ x, S1 x = none → sp (.adr x :: (ds ++ dvs)) (supd S1 x (.obj C [] [])) (nonK k x) fun C y S2 => wd.f C y ρ S2
section
variable {wd : WD} {ρ : Envd} {S : Sto} {k : KD} {tA : TAD} {C x : Addr} {sp : SpD} {dvs ds es : List D}
instance : Stp (nonK k x .non S) (k (.adr x) S) := ⟨id⟩
instance : Stp (dMake C sp dvs tA wd ρ S k) (tA wd ρ S (makeK C sp dvs wd ρ k)) := ⟨id⟩
instance [h : App ds dvs es] : Stp (makeK C sp dvs wd ρ k ds S) (∀ x, S x = none → sp (.adr x :: es) (supd S x (.obj C [] [])) (nonK k x) fun C y S2 => wd.f C y ρ S2) := ⟨fun q => by unfold makeK; rw [h.h]; exact q⟩
end
section
variable {S : Sto} {k : KD} {d : D} {b c : Bool}
theorem fIs_non : fIs d .non S k = k (.bl (isN d)) S := by cases d <;> rfl
theorem fIsNot_non : fIsNot d .non S k = k (.bl (!isN d)) S := by cases d <;> rfl
instance (priority := low) : Stp (fIs d .non S k) (k (.bl (isN d)) S) := ⟨fun q => by rw [fIs_non]; exact q⟩
instance (priority := low) : Stp (fIsNot d .non S k) (k (.bl (!isN d)) S) := ⟨fun q => by rw [fIsNot_non]; exact q⟩
instance : Stp (fIs (.bl b) (.bl c) S k) (k (.bl (b == c)) S) := ⟨id⟩
instance : Stp (fIsNot (.bl b) (.bl c) S k) (k (.bl (!(b == c))) S) := ⟨id⟩
instance {b c : Bool} : Bp (b == c) (b = c) := ⟨by cases b <;> cases c <;> simp⟩
instance {b c : Bool} : Bq (b == c) (b = c) (¬b = c) := ⟨by cases b <;> cases c <;> simp, by cases b <;> cases c <;> simp⟩
end
class ToD (o : DO) (d : outParam D) : Prop where
  h : o.toD = d
instance {xs : List D} : ToD (.lst xs) (.lst xs) := ⟨rfl⟩
instance {ks vs : List D} : ToD (.dic ks vs) (.dic ks vs) := ⟨rfl⟩
instance {C : Addr} {ns : List Str} {vs : List D} : ToD (.obj C ns vs) (.obj C ns vs) := ⟨rfl⟩
section
variable {S : Sto} {k : KD} {b c : Bool}
theorem deq_bl : deq (.bl b) (.bl c) = (b == c) := by unfold deq toPy PyData.eqv; rfl
instance : Stp (fEq (.bl b) (.bl c) S k) (k (.bl (b == c)) S) := ⟨fun q => ⟨by rw [tr_bl, pln_bl]; trivial, by rw [tr_bl, pln_bl]; trivial, by rw [tr_bl, tr_bl, deq_bl]; exact q⟩⟩
instance : Stp (fNe (.bl b) (.bl c) S k) (k (.bl (!(b == c))) S) := ⟨fun q => ⟨by rw [tr_bl, pln_bl]; trivial, by rw [tr_bl, pln_bl]; trivial, by rw [tr_bl, tr_bl, deq_bl]; exact q⟩⟩
end
section
variable {P Q : Prop} {α : Type}
instance {x : Int} {inst : Decidable ((x == x) = true)} : Stp (@ite Prop ((x == x) = true) inst P Q) P := ⟨fun h => by rw [if_pos (beq_self_eq_true x)]; exact h⟩
instance {x : Str} {inst : Decidable ((x == x) = true)} : Stp (@ite Prop ((x == x) = true) inst P Q) P := ⟨fun h => by rw [if_pos (beq_self_eq_true x)]; exact h⟩
instance {x : Bool} {inst : Decidable ((x == x) = true)} : Stp (@ite Prop ((x == x) = true) inst P Q) P := ⟨fun h => by rw [if_pos (beq_self_eq_true x)]; exact h⟩
instance {x : α} {d : Decidable (x = x)} {inst : Decidable ((decide (x = x)) = true)} : Stp (@ite Prop ((decide (x = x)) = true) inst P Q) P := ⟨fun h => by rw [if_pos (decide_eq_true rfl)]; exact h⟩
instance {x : Int} {inst : Decidable ((!(x == x)) = true)} : Stp (@ite Prop ((!(x == x)) = true) inst P Q) Q := ⟨fun h => by rw [if_neg (by rw [beq_self_eq_true]; decide)]; exact h⟩
instance {x : Str} {inst : Decidable ((!(x == x)) = true)} : Stp (@ite Prop ((!(x == x)) = true) inst P Q) Q := ⟨fun h => by rw [if_neg (by rw [beq_self_eq_true]; decide)]; exact h⟩
instance {x : Bool} {inst : Decidable ((!(x == x)) = true)} : Stp (@ite Prop ((!(x == x)) = true) inst P Q) Q := ⟨fun h => by rw [if_neg (by rw [beq_self_eq_true]; decide)]; exact h⟩
instance {x : α} {d : Decidable (x = x)} {inst : Decidable ((!decide (x = x)) = true)} : Stp (@ite Prop ((!decide (x = x)) = true) inst P Q) Q := ⟨fun h => by rw [if_neg (by rw [decide_eq_true rfl]; decide)]; exact h⟩
end
instance (priority := high) {k : KD} {S : Sto} {p : Addr} {o : DO} {d : D} [h : Sv S p o] [c : ToD o d] : Stp (frzK k (.adr p) S) (k d (sdel S p)) := ⟨fun q => frz_adr h.h (by rw [c.h]; exact q)⟩
/-! ### typed lists -/
class En {α : outParam Type} (d : D) (enc : outParam (α → D)) (x : outParam α) : Prop where
  h : d = enc x
class TL {α : outParam Type} (ds : List D) (enc : outParam (α → D)) (xs : outParam (List α)) : Prop where
  h : ds = xs.map enc
def encL (hs : List Int) : D := .lst (hs.map D.int)
instance {i : Int} : En (.int i) D.int i := ⟨rfl⟩
instance {i : Bool} : En (.bl i) D.bl i := ⟨rfl⟩
instance {i : Str} : En (.str i) D.str i := ⟨rfl⟩
instance {ds : List D} {xs : List Int} [h : TL ds D.int xs] : En (.lst ds) encL xs := ⟨by unfold encL; rw [h.h]⟩
instance {xs : List Int} : En (encL xs) encL xs := ⟨rfl⟩
instance {S : Sto} {xs : List Int} : Ls S (encL xs) (xs.map D.int) := ⟨.inl rfl⟩
instance (priority := low) tl_map {α : Type} {enc : α → D} {xs : List α} : TL (xs.map enc) enc xs := ⟨rfl⟩
instance tl_one {α : Type} {d : D} {enc : α → D} {x : α} [h : En d enc x] : TL [d] enc [x] := ⟨by rw [h.h]; rfl⟩
instance (priority := low) tl_cons {α : Type} {d : D} {ds : List D} {enc : α → D} {x : α} {xs : List α} [h : En d enc x] [t : TL ds enc xs] : TL (d :: ds) enc (x :: xs) := ⟨by rw [h.h, t.h]; rfl⟩
instance (priority := low) tl_nil : TL [] D.int [] := ⟨rfl⟩
instance tl_app {α : Type} {ds es : List D} {enc : α → D} {xs ys : List α} [h : TL ds enc xs] [g : TL es enc ys] : TL (ds ++ es) enc (xs ++ ys) := ⟨by rw [h.h, g.h, List.map_append]⟩
instance (priority := high) tl_app1 {α : Type} {d : D} {es : List D} {enc : α → D} {x : α} {ys : List α} [h : En d enc x] [g : TL es enc ys] : TL ([d] ++ es) enc (x :: ys) := ⟨by rw [h.h, g.h]; rfl⟩
instance tl_rev {α : Type} {ds : List D} {enc : α → D} {xs : List α} [h : TL ds enc xs] : TL ds.reverse enc xs.reverse := ⟨by rw [h.h, List.map_reverse]⟩
def cutL {α : Type} (xs : List α) (lo hi : Option Int) : List α := (xs.drop (HT.sIx xs.length 0 lo)).take (HT.sIx xs.length xs.length hi - HT.sIx xs.length 0 lo)
instance tl_cut {α : Type} {ds : List D} {enc : α → D} {xs : List α} {lo hi : Option Int} [h : TL ds enc xs] : TL (cutD ds lo hi) enc (cutL xs lo hi) := ⟨by
  rw [h.h]; unfold cutD cutL; rw [List.length_map, List.map_take, List.map_drop]⟩
theorem cutD_tail {d : D} {ds : List D} : cutD (d :: ds) (some 1) none = ds := by
  have := cutD_from (d :: ds) 1
  exact this
instance (priority := high) tl_tail {α : Type} {ds : List D} {enc : α → D} {x : α} {xs : List α} [h : TL ds enc (x :: xs)] : TL (cutD ds (some 1) none) enc xs := ⟨by rw [h.h, List.map_cons, cutD_tail]⟩
def irange (lo : Int) : Nat → List Int
  | 0 => []
  | n + 1 => lo :: irange (lo + 1) n
theorem rng_irange : ∀ (n : Nat) (lo : Int), rng lo n = (irange lo n).map D.int
  | 0, _ => rfl
  | n + 1, lo => by unfold rng irange; rw [rng_irange n, List.map_cons]
instance tl_rng {lo : Int} {n : Nat} : TL (rng lo n) D.int (irange lo n) := ⟨rng_irange n lo⟩
def enumI {α : Type} (i : Int) : List α → List (Int × α)
  | [] => []
  | x :: xs => (i, x) :: enumI (i + 1) xs
def encE {α : Type} (enc : α → D) (p : Int × α) : D := .tup [.int p.1, enc p.2]
theorem enm_enumI {α : Type} (enc : α → D) : ∀ (xs : List α) (i : Int), enm i (xs.map enc) = (enumI i xs).map (encE enc)
  | [], _ => rfl
  | x :: xs, i => by rw [List.map_cons]; unfold enm enumI; rw [enm_enumI enc xs, List.map_cons]; rfl
instance tl_enm {α : Type} {ds : List D} {enc : α → D} {xs : List α} {i : Int} [h : TL ds enc xs] : TL (enm i ds) (encE enc) (enumI i xs) := ⟨by rw [h.h, enm_enumI]⟩
def encP {α β : Type} (f : α → D) (g : β → D) (p : α × β) : D := .tup [f p.1, g p.2]
instance tl_zpd {α β : Type} {ds es : List D} {f : α → D} {g : β → D} {xs : List α} {ys : List β} [h : TL ds f xs] [t : TL es g ys] : TL (zpd ds es) (encP f g) (xs.zip ys) := ⟨by rw [h.h, t.h, zpd_map]; rfl⟩
/-- a made list's items, in a type of their own -/
class EnF {α : Type} {β : outParam Type} (f : α → D) (enc : outParam (β → D)) (g : outParam (α → β)) : Prop where
  h : ∀ x, f x = enc (g x)
instance {α : Type} {g : α → Int} : EnF (fun x => D.int (g x)) D.int g := ⟨fun _ => rfl⟩
instance {α : Type} {g : α → Bool} : EnF (fun x => D.bl (g x)) D.bl g := ⟨fun _ => rfl⟩
instance {α : Type} {g : α → List Int} : EnF (fun x => D.lst ((g x).map D.int)) encL g := ⟨fun _ => rfl⟩
instance {α : Type} {g : α → List Int} : EnF (fun x => encL (g x)) encL g := ⟨fun _ => rfl⟩
instance tl_mapF {α β : Type} {f : α → D} {enc : β → D} {g : α → β} {xs : List α} [h : EnF f enc g] : TL (xs.map f) enc (xs.map g) := ⟨by
  rw [List.map_map]; exact List.map_congr_left fun x _ => h.h x⟩
theorem Sv.tl {α : Type} {S : Sto} {q : Addr} {ds : List D} {enc : α → D} {xs : List α} [h : Sv S q (.lst ds)] [t : TL ds enc xs] : Sv S q (.lst (xs.map enc)) := ⟨by rw [h.h, t.h]⟩
theorem Sv.tl2 {α : Type} {S : Sto} {q : Addr} {ds : List D} {enc : α → D} {xs ys : List α} [h : Sv S q (.lst ds)] [t : TL ds enc xs] (e : xs = ys) : Sv S q (.lst (ys.map enc)) := ⟨by rw [h.h, t.h, e]⟩
theorem Sv.cast {S : Sto} {q : Addr} {o u : DO} (h : Sv S q o) (e : o = u) : Sv S q u := e ▸ h
/-- data told apart by == -/
class Pn {α : Type} (enc : α → D) : Prop where
  p : ∀ x, pln 50 (enc x)
  e : ∀ x y, deq (enc x) (enc y) = true ↔ x = y
instance : Pn D.int := ⟨fun x => by rw [pln_int]; trivial, fun x y => by rw [deq_int]; simp⟩
instance : Pn D.str := ⟨fun x => by rw [pln_str]; trivial, fun x y => by rw [deq_str]; simp⟩
theorem deqs_iff {α : Type} {enc : α → D} (h : ∀ x y, deq (enc x) (enc y) = true ↔ x = y) : ∀ xs ys : List α, deqs (xs.map enc) (ys.map enc) = true ↔ xs = ys
  | [], [] => by simp [deqs]
  | x :: xs, y :: ys => by
    rw [List.map_cons, List.map_cons]
    unfold deqs
    rw [Bool.and_eq_true, h, deqs_iff h xs ys, List.cons.injEq]
  | [], y :: ys => by simp [deqs]
  | x :: xs, [] => by simp [deqs]
theorem pln_map {α : Type} {enc : α → D} {n : Nat} (h : ∀ x, pln n (enc x)) (xs : List α) : pln (n + 1) (.lst (xs.map enc)) := by
  rw [pln_lst]
  intro x hx
  rw [List.mem_map] at hx
  obtain ⟨y, _, rfl⟩ := hx
  exact h y
instance : Pn encL := ⟨fun x => pln_mono (show 2 ≤ 50 by decide) (pln_ints x), fun x y => by unfold encL; rw [deq_lst]; exact deqs_iff (fun a b => by rw [deq_int]; simp) x y⟩
theorem deqs_dec {α : Type} [DecidableEq α] {enc : α → D} [P : Pn enc] (xs ys : List α) : deqs (xs.map enc) (ys.map enc) = decide (xs = ys) := by
  by_cases h : xs = ys
  · rw [decide_eq_true h]; exact (deqs_iff P.e xs ys).mpr h
  · rw [decide_eq_false h]
    cases e : deqs (xs.map enc) (ys.map enc) with
    | false => rfl
    | true => exact absurd ((deqs_iff P.e xs ys).mp e) h
theorem plnL {α : Type} {enc : α → D} [P : Pn enc] (xs : List α) : pln 60 (.lst (xs.map enc)) := pln_mono (show 51 ≤ 60 by decide) (pln_map P.p xs)
/-- the item at i -/
def gi {α : Type} [Inhabited α] (xs : List α) (i : Int) : α := xs.getD i.toNat default
theorem gi_at {α : Type} [Inhabited α] {enc : α → D} {xs : List α} {i : Int} (h0 : 0 ≤ i) (h1 : i < xs.length) : atI (xs.map enc) i = some (enc (gi xs i)) := by
  have hl : i.toNat < xs.length := by omega
  refine atI_nat h0 ?_
  rw [List.getElem?_map, List.getElem?_eq_getElem hl, Option.map_some]
  unfold gi
  rw [List.getD_eq_getElem?_getD, List.getElem?_eq_getElem hl]; rfl
theorem gi_mem {α : Type} [Inhabited α] {xs : List α} {i : Int} (h0 : 0 ≤ i) (h1 : i < xs.length) : gi xs i ∈ xs := by
  have hl : i.toNat < xs.length := by omega
  unfold gi
  rw [List.getD_eq_getElem?_getD, List.getElem?_eq_getElem hl]
  exact List.getElem_mem hl
section
variable {α β : Type} {S : Sto} {d e : D} {ds es : List D} {enc : α → D} {xs ys : List α} {ns : List Int} {bs : List Bool} {k : KD} {x i : Int}
theorem TL.len [h : TL ds enc xs] : ds.length = xs.length := by rw [h.h, List.length_map]
instance (priority := 2000) [h : Ls S d ds] [t : TL ds enc xs] : Stp (cLen [d] S k) (k (.int xs.length) S) := ⟨fun q => cLen_vq h.vq (by rw [t.len]; exact q)⟩
instance [h : TL ds D.int ns] : Stp (cSum [.lst ds] S k) (k (.int ns.sum) S) := ⟨fun q => cSum_ok (by rw [h.h, ints_map]) q⟩
instance [h : TL ds D.bl bs] : Stp (cAll [.lst ds] S k) (k (.bl (bs.all id)) S) := ⟨fun q => cAll_ok (by rw [h.h, bls_map]) q⟩
instance [h : TL ds D.bl bs] : Stp (cAny [.lst ds] S k) (k (.bl (bs.any id)) S) := ⟨fun q => by unfold cAny onBls; simp only [vl, Option.bind_some, h.h, bls_map]; exact q⟩
instance [h : TL ds D.int ns] : Stp (cMax [.lst ds] S k) (ns ≠ [] ∧ ∀ m ∈ ns, (∀ y ∈ ns, y ≤ m) → k (.int m) S) := ⟨fun q => by unfold cMax onInts; simp only [vl, Option.bind_some, h.h, ints_map]; exact q⟩
instance [h : TL ds D.int ns] : Stp (cMin [.lst ds] S k) (ns ≠ [] ∧ ∀ m ∈ ns, (∀ y ∈ ns, m ≤ y) → k (.int m) S) := ⟨fun q => by unfold cMin onInts; simp only [vl, Option.bind_some, h.h, ints_map]; exact q⟩
instance (priority := 40) [Inhabited α] [h : Ls S d ds] [t : TL ds enc xs] : Stp (fIx d (.int i) S k) ((0 ≤ i ∧ i < xs.length) ∧ k (enc (gi xs i)) S) := ⟨fun q => ix_q h.vq (by rw [t.h]; exact gi_at q.1.1 q.1.2) q.2⟩
instance (priority := 41) [Inhabited α] [t : TL ds enc xs] : Stp (fIx (.tup ds) (.int i) S k) ((0 ≤ i ∧ i < xs.length) ∧ k (enc (gi xs i)) S) := ⟨fun q => ix_q rfl (by rw [t.h]; exact gi_at q.1.1 q.1.2) q.2⟩
theorem atI_neg1 [Inhabited α] {xs : List α} (h : xs ≠ []) : atI (xs.map enc) (-1) = some (enc (xs.getLastD default)) := by
  rcases List.eq_nil_or_concat xs with e | ⟨ys, y, e⟩
  · exact absurd e h
  · rw [List.concat_eq_append] at e
    subst e
    rw [List.map_append]
    have := @atI_last D (List.map enc ys) (enc y)
    rw [List.map_singleton, this]
    simp
instance (priority := 80) [h : Ls S d (ds ++ [e])] : Stp (fIx d (.int (-1)) S k) (k e S) := ⟨fun q => ix_q h.vq atI_last q⟩
instance (priority := 60) [Inhabited α] [h : Ls S d ds] [t : TL ds enc xs] : Stp (fIx d (.int (-1)) S k) (xs ≠ [] ∧ k (enc (xs.getLastD default)) S) := ⟨fun q => ix_q h.vq (by rw [t.h]; exact atI_neg1 q.1) q.2⟩
instance (priority := 60) [h : Ls S d ds] [g : Ls S e es] [t : TL ds enc xs] [u : TL es enc ys] [Pn enc] [DecidableEq α] : Stp (fEq d e S k) (k (.bl (decide (xs = ys))) S) := ⟨fun q => ls_eq h g (by rw [t.h]; exact plnL xs) (by rw [u.h]; exact plnL ys) (by rw [t.h, u.h, deqs_dec]; exact q)⟩
instance (priority := 60) [h : Ls S d ds] [g : Ls S e es] [t : TL ds enc xs] [u : TL es enc ys] [Pn enc] [DecidableEq α] : Stp (fNe d e S k) (k (.bl (!decide (xs = ys))) S) := ⟨fun q => ls_ne h g (by rw [t.h]; exact plnL xs) (by rw [u.h]; exact plnL ys) (by rw [t.h, u.h, deqs_dec]; exact q)⟩
theorem isEmpty_map {f : α → β} {xs : List α} : (xs.map f).isEmpty = xs.isEmpty := by cases xs <;> rfl
instance (priority := 70) [h : Ls S d ds] [t : TL ds enc xs] [P : Pn enc] : Stp (fEq d (.lst []) S k) (k (.bl xs.isEmpty) S) := ⟨fun q => ls_eq h (g := ⟨.inl rfl⟩) (by rw [t.h]; exact plnL xs) pln_nil (by rw [t.h, deqs_nil, isEmpty_map]; exact q)⟩
instance (priority := 70) [h : Ls S d ds] [t : TL ds enc xs] [P : Pn enc] : Stp (fNe d (.lst []) S k) (k (.bl (!xs.isEmpty)) S) := ⟨fun q => ls_ne h (g := ⟨.inl rfl⟩) (by rw [t.h]; exact plnL xs) pln_nil (by rw [t.h, deqs_nil, isEmpty_map]; exact q)⟩
instance {xs : List D} {lo hi : Option Int} {m : Bool} : Stp (fSl m (.frl xs) lo hi S k) (mkL m (cutD xs lo hi) S k) := ⟨id⟩
instance {xs : List α} : Bp xs.isEmpty (xs = []) := ⟨by cases xs <;> simp⟩
instance {xs : List α} : Bq xs.isEmpty (xs = []) (¬xs = []) := ⟨fun h => by simpa using h, fun h e => by subst e; cases h⟩
theorem any_deq {x : Int} : ∀ ns : List Int, ((ns.map D.int).any fun y => deq y (.int x)) = decide (x ∈ ns)
  | [] => by simp
  | n :: ns => by
    rw [List.map_cons, List.any_cons, any_deq ns, deq_int]
    by_cases h : n = x
    · subst h; simp
    · have h2 : ¬ x = n := fun e => h e.symm
      have h3 : (n == x) = false := by simp [h]
      rw [h3, Bool.false_or]
      by_cases g : x ∈ ns
      · rw [decide_eq_true g, decide_eq_true (List.mem_cons_of_mem _ g)]
      · rw [decide_eq_false g, decide_eq_false (by simp [h2, g])]
instance [h : Ls S e es] [u : TL es D.int ns] : Stp (fIn (.int x) e S k) (k (.bl (decide (x ∈ ns))) S) := ⟨fun q => by
  unfold fIn; simp only [Ls.vi h, u.h]
  exact ⟨by rw [tr_int, pln_int]; trivial, fun y hy => by rw [List.mem_map] at hy; obtain ⟨z, _, rfl⟩ := hy; rw [pln_int]; trivial, by rw [tr_int, any_deq]; exact q⟩⟩
instance [h : Ls S e es] [u : TL es D.int ns] : Stp (fNotIn (.int x) e S k) (k (.bl (!decide (x ∈ ns))) S) := ⟨fun q => by
  unfold fNotIn; simp only [Ls.vi h, u.h]
  exact ⟨by rw [tr_int, pln_int]; trivial, fun y hy => by rw [List.mem_map] at hy; obtain ⟨z, _, rfl⟩ := hy; rw [pln_int]; trivial, by rw [tr_int, any_deq]; exact q⟩⟩
instance (priority := 45) [h : Ls S d ds] {m : Bool} : Stp (revK m k d S) (mkL m ds.reverse S k) := ⟨fun q => by unfold revK; rw [h.vl]; exact q⟩
/-- an item of a written list, at a drawn place -/
theorem ix_menu (h0 : 0 ≤ i) (h1 : i < ds.length) (q : ∀ d ∈ ds, k d S) : fIx (.lst ds) (.int i) S k := by
  have hl : i.toNat < ds.length := by omega
  exact ix_q rfl (atI_nat h0 (List.getElem?_eq_getElem hl)) (q _ (List.getElem_mem hl))
end
section
variable {α β : Type} {wd : WD} {g : TGD} {tb : TSD} {tt : TTD} {te : TD} {E : EndsD} {ρ : Envd} {G : Sto → Prop} {k : List D → Sto → Prop} {S : Sto} {ds : List D} {enc : α → D} {xs : List α}
class Gs (G : Sto → Prop) (S : Sto) : Prop where
  h : G S
instance {S : Sto} : Gs gT S := ⟨True.intro⟩
instance {S : Sto} {d : D} {ds : List D} [h : Ls S d ds] : Gs (grd d ds) S := ⟨h.grd⟩
instance {S : Sto} {p : Addr} {ds : List D} [h : Sv S p (.lst ds)] : Gs (fun S => S p = some (.lst ds)) S := ⟨h.h⟩
instance {S : Sto} {d e : D} {ds es : List D} [h : Ls S d ds] [g : Ls S e es] : Gs (fun S => grd d ds S ∧ grd e es S) S := ⟨h.grd, g.grd⟩
/-- for: the list behind pre, ahead of post -/
theorem forT [tl : TL ds enc xs] (P : List α → List α → Envd → Sto → Prop) (hs : P [] xs ρ S) (hG : ∀ pre post ρ S, P pre post ρ S → G S)
    (h1 : ∀ pre x post ρ S (cont : Envd → Sto → Prop), xs = pre ++ x :: post → P pre (x :: post) ρ S → (∀ ρ S, P (pre ++ [x]) post ρ S → cont ρ S) → g (enc x) ρ S fun ρ1 S1 => tb wd { nx := cont, rt := E.rt, bk := E.nx, ct := cont } ρ1 S1)
    (h0 : ∀ ρ S, P xs [] ρ S → E.nx ρ S) : forD wd g tb E G ds ρ S := by
  rw [tl.h]
  refine forD_ind (fun ds ρ S => ∃ pre post, ds = post.map enc ∧ xs = pre ++ post ∧ P pre post ρ S) ?_ ?_ _ _ _ ⟨[], xs, rfl, rfl, hs⟩
  · rintro ρ S ⟨pre, post, e1, e2, h⟩
    cases post with
    | cons _ _ => cases e1
    | nil => rw [List.append_nil] at e2; subst e2; exact ⟨hG _ _ _ _ h, h0 ρ S h⟩
  · rintro d ds ρ S cont ⟨pre, post, e1, e2, h⟩ hc
    cases post with
    | nil => cases e1
    | cons x post =>
      rw [List.map_cons] at e1
      cases e1
      exact ⟨hG _ _ _ _ h, h1 pre x post ρ S cont e2 h fun ρ S q => hc ρ S ⟨pre ++ [x], post, rfl, by rw [e2]; simp, q⟩⟩
theorem comp_tl [tl : TL ds enc xs] [gs : Gs G S] (f : α → D) (h : ∀ x ∈ xs, ∀ c1 : KD, c1 (f x) S → g (enc x) ρ S fun ρ1 S1 => te wd ρ1 S1 c1) (hk : k (xs.map f) S) : compD wd g dYes te ρ G ds S [] k := by
  have hG := gs.h
  have key : ∀ (ys : List α) (acc : List D), (∀ x ∈ ys, ∀ c1 : KD, c1 (f x) S → g (enc x) ρ S fun ρ1 S1 => te wd ρ1 S1 c1) → k (acc ++ ys.map f) S → compD wd g dYes te ρ G (ys.map enc) S acc k := by
    intro ys
    induction ys with
    | nil => intro acc _ hk; exact ⟨hG, by simpa using hk⟩
    | cons y ys ih =>
      intro acc h hk
      rw [List.map_cons]
      refine ⟨hG, h y List.mem_cons_self _ (ih _ (fun x hx => h x (List.mem_cons_of_mem _ hx)) ?_)⟩
      rw [List.append_assoc]; exact hk
  rw [tl.h]
  exact key xs [] h hk
/-- with a test -/
theorem comp_fl [tl : TL ds enc xs] [gs : Gs G S] (p : α → Bool) (f : α → D) (h : ∀ x ∈ xs, ∀ (c1 : KD) (c2 : Sto → Prop), (p x = true → c1 (f x) S) → (p x = false → c2 S) → g (enc x) ρ S fun ρ1 S1 => tt wd ρ1 S1 fun b S2 => if b = true then te wd ρ1 S2 c1 else c2 S2)
    (hk : k ((xs.filter p).map f) S) : compD wd g tt te ρ G ds S [] k := by
  have hG := gs.h
  have key : ∀ (ys : List α) (acc : List D), (∀ x ∈ ys, ∀ (c1 : KD) (c2 : Sto → Prop), (p x = true → c1 (f x) S) → (p x = false → c2 S) → g (enc x) ρ S fun ρ1 S1 => tt wd ρ1 S1 fun b S2 => if b = true then te wd ρ1 S2 c1 else c2 S2) → k (acc ++ (ys.filter p).map f) S → compD wd g tt te ρ G (ys.map enc) S acc k := by
    intro ys
    induction ys with
    | nil => intro acc _ hk; exact ⟨hG, by simpa using hk⟩
    | cons y ys ih =>
      intro acc h hk
      rw [List.map_cons]
      refine ⟨hG, h y List.mem_cons_self _ _ (fun hp => ih _ (fun x hx => h x (List.mem_cons_of_mem _ hx)) ?_) fun hp => ih _ (fun x hx => h x (List.mem_cons_of_mem _ hx)) ?_⟩
      · rw [List.filter_cons_of_pos hp, List.map_cons] at hk
        rw [List.append_assoc]; exact hk
      · rw [List.filter_cons_of_neg (by rw [hp]; decide)] at hk
        exact hk
  rw [tl.h]
  exact key xs [] h (by simpa using hk)
/-- whose items are made by what changes the store: acc stands in a type of its own -/
theorem comp_st {enc2 : β → D} [tl : TL ds enc xs] (P : List α → List α → Sto → List β → Prop) (hs : P [] xs S []) (hG : ∀ pre post S acc, P pre post S acc → G S)
    (h : ∀ pre x post S acc (cont : Sto → List D → Prop), xs = pre ++ x :: post → P pre (x :: post) S acc → (∀ S y, P (pre ++ [x]) post S (acc ++ [y]) → cont S (acc.map enc2 ++ [enc2 y])) → g (enc x) ρ S fun ρ1 S1 => te wd ρ1 S1 fun y S3 => cont S3 (acc.map enc2 ++ [y]))
    (hk : ∀ S acc, P xs [] S acc → k (acc.map enc2) S) : compD wd g dYes te ρ G ds S [] k := by
  rw [tl.h]
  refine comp_ind (fun ds S acc => ∃ pre post a2, ds = post.map enc ∧ xs = pre ++ post ∧ acc = a2.map enc2 ∧ P pre post S a2) ?_ ?_ _ _ _ ⟨[], xs, [], rfl, rfl, rfl, hs⟩
  · rintro S acc ⟨pre, post, a2, e1, e2, rfl, h⟩
    cases post with
    | cons _ _ => cases e1
    | nil => rw [List.append_nil] at e2; subst e2; exact ⟨hG _ _ _ _ h, hk S a2 h⟩
  · rintro d ds S acc cont ⟨pre, post, a2, e1, e2, rfl, hp⟩ hc
    cases post with
    | nil => cases e1
    | cons x post =>
      rw [List.map_cons] at e1
      cases e1
      refine ⟨hG _ _ _ _ hp, ?_⟩
      exact h pre x post S a2 cont e2 hp fun S y q => hc S _ ⟨pre ++ [x], post, a2 ++ [y], rfl, by rw [e2]; simp, by rw [List.map_append]; rfl, q⟩
end
section
variable {α β : Type} {wd : WD} {g : TGD} {tt : TTD} {te : TD} {ρ : Envd} {G : Sto → Prop} {k : List D → Sto → Prop} {S : Sto} {ds : List D} {enc : α → D} {enc2 : β → D} {xs : List α}
/-- with a test, both of which may change the store -/
theorem comp_ts [tl : TL ds enc xs] (P : List α → List α → Sto → List β → Prop) (hs : P [] xs S []) (hG : ∀ pre post S acc, P pre post S acc → G S)
    (h : ∀ pre x post S acc (cont : Sto → List D → Prop), xs = pre ++ x :: post → P pre (x :: post) S acc → (∀ S y, P (pre ++ [x]) post S (acc ++ [y]) → cont S (acc.map enc2 ++ [enc2 y])) → (∀ S, P (pre ++ [x]) post S acc → cont S (acc.map enc2)) →
      g (enc x) ρ S fun ρ1 S1 => tt wd ρ1 S1 fun b S2 => if b = true then te wd ρ1 S2 fun y S3 => cont S3 (acc.map enc2 ++ [y]) else cont S2 (acc.map enc2))
    (hk : ∀ S acc, P xs [] S acc → k (acc.map enc2) S) : compD wd g tt te ρ G ds S [] k := by
  rw [tl.h]
  refine comp_ind (fun ds S acc => ∃ pre post a2, ds = post.map enc ∧ xs = pre ++ post ∧ acc = a2.map enc2 ∧ P pre post S a2) ?_ ?_ _ _ _ ⟨[], xs, [], rfl, rfl, rfl, hs⟩
  · rintro S acc ⟨pre, post, a2, e1, e2, rfl, h⟩
    cases post with
    | cons _ _ => cases e1
    | nil => rw [List.append_nil] at e2; subst e2; exact ⟨hG _ _ _ _ h, hk S a2 h⟩
  · rintro d ds S acc cont ⟨pre, post, a2, e1, e2, rfl, hp⟩ hc
    cases post with
    | nil => cases e1
    | cons x post =>
      rw [List.map_cons] at e1
      cases e1
      refine ⟨hG _ _ _ _ hp, ?_⟩
      exact h pre x post S a2 cont e2 hp (fun S y q => hc S _ ⟨pre ++ [x], post, a2 ++ [y], rfl, by rw [e2]; simp, by rw [List.map_append]; rfl, q⟩) (fun S q => hc S _ ⟨pre ++ [x], post, a2, rfl, by rw [e2]; simp, rfl, q⟩)
end
section
variable {S : Sto} {k : KD} {ks : Sto → Prop} {p : Addr} {d e u v : D} {xs : List D}
instance [h : Sv S p (.lst (d :: xs))] : Stp (mPop (.adr p) [.int 0] S k) (k d (supd S p (.lst xs))) := ⟨fun q => by
  unfold mPop
  refine onL_ok h.h ⟨by decide, by decide, ?_⟩
  have : seqIndex? 0 (d :: xs).length = some 0 := by unfold seqIndex?; simp
  rw [this]
  exact q⟩
end
section
variable {S : Sto} {ks : Sto → Prop} {p : Addr} {d1 d2 d3 d4 u : D}
instance s42 [h : Sv S p (.lst [d1, d2, d3, d4])] : Stp (sSetL (.adr p) (.int 2) u S ks) (ks (supd S p (.lst [d1, d2, u, d4]))) := ⟨fun q => by unfold sSetL; exact onL_ok h.h q⟩
instance s43 [h : Sv S p (.lst [d1, d2, d3, d4])] : Stp (sSetL (.adr p) (.int 3) u S ks) (ks (supd S p (.lst [d1, d2, d3, u]))) := ⟨fun q => by unfold sSetL; exact onL_ok h.h q⟩
end
/-- the ways through t come together ahead of u -/
theorem joinE {t u : TSD} {wd : WD} {E : EndsD} {ρ : Envd} {S : Sto} (J : Envd → Sto → Prop) (hu : ∀ ρ S, J ρ S → u wd E ρ S) (ht : ∀ X : Envd → Sto → Prop, (∀ ρ S, J ρ S → X ρ S) → t wd { E with nx := X } ρ S) : dSeq t u wd E ρ S := ht _ hu
theorem joinX {c : TTD} {t u : TSD} {wd : WD} {N bk ct : Envd → Sto → Prop} {rt : D → Sto → Prop} {ρ : Envd} {S : Sto} (J : Envd → Sto → Prop) (hu : ∀ ρ S, J ρ S → N ρ S) (ht : ∀ X : Envd → Sto → Prop, (∀ ρ S, J ρ S → X ρ S) → dIfS c t u wd ⟨X, rt, bk, ct⟩ ρ S) : dIfS c t u wd ⟨N, rt, bk, ct⟩ ρ S := ht _ hu
/-- where ways are to come together -/
def dJn (t : TSD) : TSD := t
theorem psd_jn {X : Cx} {wd : WD} {st : Stmt} {t : TSD} (h : PSD X wd st t) : PSD X wd st (dJn t) := h
theorem joinJ {t : TSD} {wd : WD} {N bk ct : Envd → Sto → Prop} {rt : D → Sto → Prop} {ρ : Envd} {S : Sto} (J : Envd → Sto → Prop) (hu : ∀ ρ S, J ρ S → N ρ S) (ht : ∀ X : Envd → Sto → Prop, (∀ ρ S, J ρ S → X ρ S) → t wd ⟨X, rt, bk, ct⟩ ρ S) : dJn t wd ⟨N, rt, bk, ct⟩ ρ S := ht _ hu
theorem deq_non : deq .non .non = true := by unfold deq toPy PyData.eqv; rfl
instance {S : Sto} {k : KD} : Stp (fEq .non .non S k) (k (.bl true) S) := ⟨fun q => ⟨by rw [tr_non, pln_non]; trivial, by rw [tr_non, pln_non]; trivial, by rw [tr_non, deq_non]; exact q⟩⟩
instance {S : Sto} {k : KD} : Stp (fNe .non .non S k) (k (.bl false) S) := ⟨fun q => ⟨by rw [tr_non, pln_non]; trivial, by rw [tr_non, pln_non]; trivial, by rw [tr_non, deq_non]; exact q⟩⟩
theorem outK {S S' : Sto} {d : D} {k : KD} [h : Kp S S' []] (hk : k d S) : ∃ S0, SSub S0 S' ∧ k d S0 := ⟨S, fun x o e => h.h.k x o e (by simp), hk⟩
instance tl_set {α : Type} {ds : List D} {d : D} {enc : α → D} {xs : List α} {x : α} {i : Nat} [h : TL ds enc xs] [e : En d enc x] : TL (ds.set i d) enc (xs.set i x) := ⟨by rw [h.h, e.h, List.map_set]⟩
theorem flat_rep {α : Type} {a : α} : ∀ k : Nat, (List.replicate k [a]).flatten = List.replicate k a
  | 0 => rfl
  | k + 1 => by rw [List.replicate_succ, List.flatten_cons, flat_rep k, List.replicate_succ]; rfl
instance tl_rep {α : Type} {d : D} {enc : α → D} {x : α} {k : Nat} [e : En d enc x] : TL (List.replicate k [d]).flatten enc (List.replicate k x) := ⟨by rw [flat_rep, e.h, List.map_replicate]⟩
instance (priority := low) {S : Sto} {p : Addr} {xs : List D} {i : Int} {u : D} {ks : Sto → Prop} [h : Sv S p (.lst xs)] : Stp (sSetL (.adr p) (.int i) u S ks) ((0 ≤ i ∧ i < xs.length) ∧ ks (supd S p (.lst (xs.set i.toNat u)))) := ⟨fun q => by
  unfold sSetL
  refine onL_ok h.h ?_
  have : ixN xs.length i = some i.toNat := by unfold ixN; rw [if_pos q.1.1, if_pos (by have := q.1.2; have := q.1.1; omega)]
  simp only [this]
  exact q.2⟩
section
variable {S : Sto} {k : KD} {x y : Int} {m : Bool}
instance (priority := high) : Stp (cAbs [.int x] S k) (k (.int (x.natAbs : Int)) S) := ⟨fun q => by
  show k (.int (if x < 0 then -x else x)) S
  have : (if x < 0 then -x else x) = (x.natAbs : Int) := by split <;> omega
  rw [this]; exact q⟩
instance (priority := high) : Stp (cMin2 [.int x, .int y] S k) (k (.int (min x y)) S) := ⟨fun q => by
  show k (.int (if y < x then y else x)) S
  have : (if y < x then y else x) = min x y := by split <;> omega
  rw [this]; exact q⟩
instance (priority := high) : Stp (cMax2 [.int x, .int y] S k) (k (.int (max x y)) S) := ⟨fun q => by
  show k (.int (if y > x then y else x)) S
  have : (if y > x then y else x) = max x y := by split <;> omega
  rw [this]; exact q⟩
end
/-! lists, trees or of the store, kept -/
class NqD (d : D) (q : Addr) : Prop where
  h : d ≠ .adr q
class NotInD (d : D) (ps : List Addr) : Prop where
  h : ∀ p ∈ ps, d ≠ .adr p
instance nqDf {S : Sto} {q : Addr} {d : D} {ds : List D} [f : Fr S q] [h : Ls S d ds] : NqD d q := ⟨fun e => by
  rcases h.h with e2 | ⟨p, e2, e3⟩
  · rw [e2] at e; cases e
  · rw [e2] at e; cases e; rw [f.h] at e3; cases e3⟩
instance {p q : Addr} [n : Nq p q] : NqD (.adr p) q := ⟨fun e => by cases e; exact n.h rfl⟩
instance {xs : List D} {q : Addr} : NqD (.lst xs) q := ⟨fun e => by cases e⟩
instance {xs : List Int} {q : Addr} : NqD (encL xs) q := ⟨fun e => by unfold encL at e; cases e⟩
instance {d : D} : NotInD d [] := ⟨by simp⟩
instance {d : D} {q : Addr} {qs : List Addr} [n : NqD d q] [t : NotInD d qs] : NotInD d (q :: qs) := ⟨fun p hp => by
  rcases List.mem_cons.mp hp with rfl | hp
  · exact n.h
  · exact t.h p hp⟩
instance (priority := low) lsUpd {S : Sto} {q : Addr} {o : DO} {d : D} {ds : List D} [n : NqD d q] [h : Ls S d ds] : Ls (supd S q o) d ds := ⟨h.h.imp id fun ⟨p, e, e2⟩ => ⟨p, e, by rw [supd_ne (fun e3 => n.h (by rw [e, e3]))]; exact e2⟩⟩
instance (priority := low) lsDel {S : Sto} {q : Addr} {d : D} {ds : List D} [n : NqD d q] [h : Ls S d ds] : Ls (sdel S q) d ds := ⟨h.h.imp id fun ⟨p, e, e2⟩ => ⟨p, e, by unfold sdel; rw [if_neg (fun e3 => n.h (by rw [e, e3]))]; exact e2⟩⟩
instance (priority := low) lsKp {S S' : Sto} {ps : List Addr} {d : D} {ds : List D} [k : KpL S S' ps] [n : NotInD d ps] [h : Ls S d ds] : Ls S' d ds := ⟨h.h.imp id fun ⟨p, e, e2⟩ => ⟨p, e, k.h.k p _ e2 fun hm => n.h p hm e⟩⟩
theorem all_snoc {α : Type} {P : α → Prop} {xs : List α} {x : α} (h : ∀ r ∈ xs, P r) (hx : P x) : ∀ r ∈ xs ++ [x], P r := fun r hr => by
  rcases List.mem_append.mp hr with h' | h'
  · exact h r h'
  · rw [List.mem_singleton.mp h']; exact hx
theorem irange_mem : ∀ {n : Nat} {lo x : Int}, x ∈ irange lo n ↔ lo ≤ x ∧ x < lo + n
  | 0, lo, x => by simp [irange]
  | n + 1, lo, x => by
    unfold irange
    rw [List.mem_cons, irange_mem (n := n)]
    omega
theorem irange_length : ∀ (n : Nat) (lo : Int), (irange lo n).length = n
  | 0, _ => rfl
  | n + 1, lo => by unfold irange; rw [List.length_cons, irange_length n]
theorem enumI_length {α : Type} : ∀ (xs : List α) (i : Int), (enumI i xs).length = xs.length
  | [], _ => rfl
  | x :: xs, i => by unfold enumI; rw [List.length_cons, enumI_length xs, List.length_cons]
instance {i : Nat} {t : TSD} {wd : WD} {E : EndsD} {ρ ρ' : Envd} {S : Sto} {p : Addr} {o : DO} {d : D} [l : Lk ρ i (.adr p)] [h : Sv S p o] [c : ToD o d] [b : SetL ρ i (some d) ρ'] : Stp (dFz i t wd E ρ S) (t wd E ρ' (sdel S p)) := ⟨fun q => by
  unfold dFz
  rw [l.h]
  dsimp only
  rw [h.h]
  dsimp only
  rw [c.h, b.h]
  exact q⟩
/-- a set comprehension that changes nothing -/
theorem comp_sc {α : Type} {wd : WD} {g : TGD} {tt : TTD} {te : TD} {ρ : Envd} {G : Sto → Prop} {k : List Int → Sto → Prop} {S : Sto} {ds : List D} {enc : α → D} {xs : List α} [tl : TL ds enc xs] [gs : Gs G S] (p : α → Bool) (f : α → Int)
    (h : ∀ x ∈ xs, ∀ (c1 : KD) (c2 : Sto → Prop), (p x = true → c1 (.int (f x)) S) → (p x = false → c2 S) → g (enc x) ρ S fun ρ1 S1 => tt wd ρ1 S1 fun b S2 => if b = true then te wd ρ1 S2 c1 else c2 S2)
    (hk : k ((xs.filter p).map f) S) : compSD wd g tt te ρ G ds S [] k := by
  have hG := gs.h
  have key : ∀ (ys : List α) (acc : List Int), (∀ x ∈ ys, ∀ (c1 : KD) (c2 : Sto → Prop), (p x = true → c1 (.int (f x)) S) → (p x = false → c2 S) → g (enc x) ρ S fun ρ1 S1 => tt wd ρ1 S1 fun b S2 => if b = true then te wd ρ1 S2 c1 else c2 S2) → k (acc ++ (ys.filter p).map f) S → compSD wd g tt te ρ G (ys.map enc) S acc k := by
    intro ys
    induction ys with
    | nil => intro acc _ hk; exact ⟨hG, by simpa using hk⟩
    | cons y ys ih =>
      intro acc h hk
      refine ⟨hG, h y List.mem_cons_self (fun y S3 => match y with | .int c => compSD wd g tt te ρ G (ys.map enc) S3 (acc ++ [c]) k | _ => False) _ (fun hp => ih _ (fun x hx => h x (List.mem_cons_of_mem _ hx)) ?_) fun hp => ih _ (fun x hx => h x (List.mem_cons_of_mem _ hx)) ?_⟩
      · rw [List.filter_cons, if_pos hp] at hk
        simpa using hk
      · rw [List.filter_cons, if_neg (by rw [hp]; decide)] at hk
        exact hk
  rw [tl.h]
  exact key xs [] h (by simpa using hk)
/-- a walk over a written list, things of any kind -/
theorem forX {wd : WD} {g : TGD} {tb : TSD} {E : EndsD} {G : Sto → Prop} {ds : List D} {ρ : Envd} {S : Sto} (P : List D → List D → Envd → Sto → Prop) (hs : P [] ds ρ S) (hG : ∀ pre post ρ S, P pre post ρ S → G S)
    (h1 : ∀ pre x post ρ S (cont : Envd → Sto → Prop), ds = pre ++ x :: post → P pre (x :: post) ρ S → (∀ ρ S, P (pre ++ [x]) post ρ S → cont ρ S) → x ∈ ds → g x ρ S fun ρ1 S1 => tb wd { nx := cont, rt := E.rt, bk := E.nx, ct := cont } ρ1 S1)
    (h0 : ∀ ρ S, P ds [] ρ S → E.nx ρ S) : forD wd g tb E G ds ρ S :=
  forT (enc := id) (tl := ⟨(List.map_id _).symm⟩) P hs hG (fun pre x post ρ S cont e h hc => h1 pre x post ρ S cont e h hc (by rw [e]; simp)) h0
end Z

set_option Elab.async false
set_option linter.all false
set_option maxRecDepth 100000
set_option maxHeartbeats 4000000
namespace Z
open PySem PySem.Spec PyProof.Rows L2
def top (i : Nat) : Stmt := PySem.Challenge.pw_ropedclimbers_k14_whole_rigs_led_over.main.body.getD i (.Pass ⟨0, 0, 0, 0⟩)
abbrev s_is_whole : Stmt := (top 12)
abbrev N_is_whole : List Str := ["thing"]
abbrev P_is_whole : List Str := ["thing"]
abbrev s_is_within : Stmt := (top 13)
abbrev N_is_within : List Str := ["thing", "least", "most"]
abbrev P_is_within : List Str := ["thing", "least", "most"]
abbrev s_are_wholes : Stmt := (top 14)
abbrev N_are_wholes : List Str := ["thing", "many", "one"]
abbrev P_are_wholes : List Str := ["thing", "many"]
abbrev s_is_rope : Stmt := (top 15)
abbrev N_is_rope : List Str := ["thing", "many", "upper", "lower", "most"]
abbrev P_is_rope : List Str := ["thing", "many"]
abbrev s_look_at_ropes : Stmt := (top 16)
abbrev N_look_at_ropes : List Str := ["ropes", "many", "others", "rope"]
abbrev P_look_at_ropes : List Str := ["ropes", "many", "others"]
abbrev s_Rig___init__ : Stmt := (inClass (top 17) 0)
abbrev N_Rig___init__ : List Str := ["self", "many", "ropes"]
abbrev P_Rig___init__ : List Str := ["self", "many", "ropes"]
abbrev s_Rig_many : Stmt := (inClass (top 17) 1)
abbrev N_Rig_many : List Str := ["self"]
abbrev P_Rig_many : List Str := ["self"]
abbrev s_Rig_ropes : Stmt := (inClass (top 17) 2)
abbrev N_Rig_ropes : List Str := ["self"]
abbrev P_Rig_ropes : List Str := ["self"]
abbrev s_Rig___eq__ : Stmt := (inClass (top 17) 10)
abbrev N_Rig___eq__ : List Str := ["self", "other"]
abbrev P_Rig___eq__ : List Str := ["self", "other"]
abbrev s_is_heights : Stmt := (top 19)
abbrev N_is_heights : List Str := ["rig", "thing"]
abbrev P_is_heights : List Str := ["rig", "thing"]
abbrev s_look_at_heights : Stmt := (top 20)
abbrev N_look_at_heights : List Str := ["rig", "heights"]
abbrev P_look_at_heights : List Str := ["rig", "heights"]
abbrev s_room_by : Stmt := (top 21)
abbrev N_room_by : List Str := ["rope", "heights", "high", "upper", "lower", "most"]
abbrev P_room_by : List Str := ["rope", "heights"]
abbrev s_broken : Stmt := (top 22)
abbrev N_broken : List Str := ["rig", "heights", "number", "rope"]
abbrev P_broken : List Str := ["rig", "heights"]
abbrev s_Rig_turned : Stmt := (inClass (top 17) 6)
abbrev N_Rig_turned : List Str := ["self", "upper", "lower", "most"]
abbrev P_Rig_turned : List Str := ["self"]
abbrev s_Rig_called : Stmt := (inClass (top 17) 7)
abbrev N_Rig_called : List Str := ["self", "order", "name", "upper", "lower", "most"]
abbrev P_Rig_called : List Str := ["self", "order"]
abbrev s_Rig_measured : Stmt := (inClass (top 17) 8)
abbrev N_Rig_measured : List Str := ["self", "marks", "by", "ropes", "upper", "lower", "most"]
abbrev P_Rig_measured : List Str := ["self", "marks"]
abbrev s__law_pool : Stmt := (top 24)
abbrev N__law_pool : List Str := ["_law_script", "_law_k", "_law_cell", "_law_seed"]
abbrev P__law_pool : List Str := ["_law_script", "_law_k"]
abbrev s__law_take : Stmt := (top 25)
abbrev N__law_take : List Str := ["_law_pool_here", "_law_many", "_law_found"]
abbrev P__law_take : List Str := ["_law_pool_here", "_law_many"]
abbrev s__law_height : Stmt := (top 26)
abbrev N__law_height : List Str := ["_law_pool_here", "_law_some"]
abbrev P__law_height : List Str := ["_law_pool_here"]
abbrev s__law_high : Stmt := (top 27)
abbrev N__law_high : List Str := ["_law_pool_here", "_law_many", "_law_climber"]
abbrev P__law_high : List Str := ["_law_pool_here", "_law_many"]
abbrev s__law_letting : Stmt := (top 28)
abbrev N__law_letting : List Str := ["_law_pool_here", "_law_high_here", "_law_most", "_law_many", "_law_found", "_law_turn", "_law_upper", "_law_lower", "_law_room"]
abbrev P__law_letting : List Str := ["_law_pool_here", "_law_high_here", "_law_most"]
abbrev s__law_order : Stmt := (top 29)
abbrev N__law_order : List Str := ["_law_pool_here", "_law_many", "_law_left", "_law_found", "_law_turn"]
abbrev P__law_order : List Str := ["_law_pool_here", "_law_many"]
abbrev s__law_called : Stmt := (top 30)
abbrev N__law_called : List Str := ["_law_heights", "_law_order_here", "_law_found", "_law_at", "_law_name"]
abbrev P__law_called : List Str := ["_law_heights", "_law_order_here"]
abbrev s__law_kind : Stmt := (top 32)
abbrev N__law_kind : List Str := ["_law_door", "_law_kept", "e"]
abbrev P__law_kind : List Str := ["_law_door"]
abbrev s__law_refused : Stmt := (top 31)
abbrev N__law_refused : List Str := ["_law_pool_here", "_law_rig", "_law_many", "_law_row", "_law_at", "_law_bad", "_law_odd"]
abbrev P__law_refused : List Str := ["_law_pool_here", "_law_rig", "_law_many"]
abbrev s__law_right : Stmt := (top 33)
abbrev N__law_right : List Str := ["_law_rig", "_law_heights", "_law_order_here", "_law_marks", "_law_due", "_law_over", "_law_height_here", "_law_mark"]
abbrev P__law_right : List Str := ["_law_rig", "_law_heights", "_law_order_here", "_law_marks"]
abbrev s_law : Stmt := (top 34)
abbrev N_law : List Str := ["_law_script", "_law_k", "_law_pool_here", "_law_high_here", "_law_many", "_law_ropes", "_law_rig", "_law_turn", "_law_back", "_law_less", "_law_order_here", "_law_marks", "_law_heights", "_law_mark", "_law_climber", "_law_height_here"]
abbrev P_law : List Str := ["_law_script"]
abbrev s_NoHeights___init__ : Stmt := (inClass (top 6) 0)
abbrev s_NoOrder___init__ : Stmt := (inClass (top 5) 0)
def d_is_whole : He.DefD := ⟨("is_whole", none), "is_whole", "is_whole", defArgs s_is_whole, defBody s_is_whole, defScope s_is_whole, [], []⟩
def d_is_within : He.DefD := ⟨("is_within", none), "is_within", "is_within", defArgs s_is_within, defBody s_is_within, defScope s_is_within, [], []⟩
def d_are_wholes : He.DefD := ⟨("are_wholes", none), "are_wholes", "are_wholes", defArgs s_are_wholes, defBody s_are_wholes, defScope s_are_wholes, [], []⟩
def d_is_rope : He.DefD := ⟨("is_rope", none), "is_rope", "is_rope", defArgs s_is_rope, defBody s_is_rope, defScope s_is_rope, [], []⟩
def d_look_at_ropes : He.DefD := ⟨("look_at_ropes", none), "look_at_ropes", "look_at_ropes", defArgs s_look_at_ropes, defBody s_look_at_ropes, defScope s_look_at_ropes, [.int 0], []⟩
def d_Rig___init__ : He.DefD := ⟨("Rig", some "__init__"), "__init__", "Rig.__init__", defArgs s_Rig___init__, defBody s_Rig___init__, defScope s_Rig___init__, [.adr (He.dflAt ("Rig", some "__init__") 0)], []⟩
def d_Rig_many : He.DefD := ⟨("Rig", some "many"), "many", "Rig.many", defArgs s_Rig_many, defBody s_Rig_many, defScope s_Rig_many, [], []⟩
def d_Rig_ropes : He.DefD := ⟨("Rig", some "ropes"), "ropes", "Rig.ropes", defArgs s_Rig_ropes, defBody s_Rig_ropes, defScope s_Rig_ropes, [], []⟩
def d_Rig___eq__ : He.DefD := ⟨("Rig", some "__eq__"), "__eq__", "Rig.__eq__", defArgs s_Rig___eq__, defBody s_Rig___eq__, defScope s_Rig___eq__, [], []⟩
def d_is_heights : He.DefD := ⟨("is_heights", none), "is_heights", "is_heights", defArgs s_is_heights, defBody s_is_heights, defScope s_is_heights, [], []⟩
def d_look_at_heights : He.DefD := ⟨("look_at_heights", none), "look_at_heights", "look_at_heights", defArgs s_look_at_heights, defBody s_look_at_heights, defScope s_look_at_heights, [], []⟩
def d_room_by : He.DefD := ⟨("room_by", none), "room_by", "room_by", defArgs s_room_by, defBody s_room_by, defScope s_room_by, [], []⟩
def d_broken : He.DefD := ⟨("broken", none), "broken", "broken", defArgs s_broken, defBody s_broken, defScope s_broken, [], []⟩
def d_Rig_turned : He.DefD := ⟨("Rig", some "turned"), "turned", "Rig.turned", defArgs s_Rig_turned, defBody s_Rig_turned, defScope s_Rig_turned, [], []⟩
def d_Rig_called : He.DefD := ⟨("Rig", some "called"), "called", "Rig.called", defArgs s_Rig_called, defBody s_Rig_called, defScope s_Rig_called, [], []⟩
def d_Rig_measured : He.DefD := ⟨("Rig", some "measured"), "measured", "Rig.measured", defArgs s_Rig_measured, defBody s_Rig_measured, defScope s_Rig_measured, [], []⟩
def d__law_pool : He.DefD := ⟨("_law_pool", none), "_law_pool", "_law_pool", defArgs s__law_pool, defBody s__law_pool, defScope s__law_pool, [], []⟩
def d__law_take : He.DefD := ⟨("_law_take", none), "_law_take", "_law_take", defArgs s__law_take, defBody s__law_take, defScope s__law_take, [], []⟩
def d__law_height : He.DefD := ⟨("_law_height", none), "_law_height", "_law_height", defArgs s__law_height, defBody s__law_height, defScope s__law_height, [], []⟩
def d__law_high : He.DefD := ⟨("_law_high", none), "_law_high", "_law_high", defArgs s__law_high, defBody s__law_high, defScope s__law_high, [], []⟩
def d__law_letting : He.DefD := ⟨("_law_letting", none), "_law_letting", "_law_letting", defArgs s__law_letting, defBody s__law_letting, defScope s__law_letting, [], []⟩
def d__law_order : He.DefD := ⟨("_law_order", none), "_law_order", "_law_order", defArgs s__law_order, defBody s__law_order, defScope s__law_order, [], []⟩
def d__law_called : He.DefD := ⟨("_law_called", none), "_law_called", "_law_called", defArgs s__law_called, defBody s__law_called, defScope s__law_called, [], []⟩
def d__law_kind : He.DefD := ⟨("_law_kind", none), "_law_kind", "_law_kind", defArgs s__law_kind, defBody s__law_kind, defScope s__law_kind, [], []⟩
def d__law_refused : He.DefD := ⟨("_law_refused", none), "_law_refused", "_law_refused", defArgs s__law_refused, defBody s__law_refused, defScope s__law_refused, [], []⟩
def d__law_right : He.DefD := ⟨("_law_right", none), "_law_right", "_law_right", defArgs s__law_right, defBody s__law_right, defScope s__law_right, [], []⟩
def d_law : He.DefD := ⟨("law", none), "law", "law", defArgs s_law, defBody s_law, defScope s_law, [], []⟩
def d_NoHeights___init__ : He.DefD := ⟨("NoHeights", some "__init__"), "__init__", "NoHeights.__init__", defArgs s_NoHeights___init__, defBody s_NoHeights___init__, defScope s_NoHeights___init__, [], []⟩
def d_NoOrder___init__ : He.DefD := ⟨("NoOrder", some "__init__"), "__init__", "NoOrder.__init__", defArgs s_NoOrder___init__, defBody s_NoOrder___init__, defScope s_NoOrder___init__, [], []⟩
abbrev fa : List He.Fa := [.cls "Rig", .int "MOST_CLIMBERS" 8, .int "MOST_ROPES" 60, .glo "NoHeights", .glo "NoOrder", .glo "Rig", .free "all", .free "bool", .free "enumerate", .free "int", .free "isinstance", .free "len", .free "list", .free "max", .free "min", .free "range", .free "repr", .free "sorted", .free "tuple", .free "zip", .noat "Rig" "own_many", .noat "Rig" "own_ropes", .glo "is_whole", .glo "is_within", .glo "are_wholes", .glo "is_rope", .glo "look_at_ropes", .mkr "Rig", .meth "Rig" "many", .meth "Rig" "ropes", .meth "Rig" "__eq__", .glo "is_heights", .glo "look_at_heights", .glo "room_by", .glo "broken", .meth "Rig" "turned", .meth "Rig" "called", .meth "Rig" "measured", .glo "_law_pool", .glo "_law_take", .glo "_law_height", .glo "_law_high", .glo "_law_letting", .glo "_law_order", .glo "_law_called", .glo "_law_kind", .glo "_law_refused", .glo "_law_right", .glo "RopeError", .meth "NoHeights" "__init__", .meth "NoOrder" "__init__", .glo "law"]
abbrev fn : List He.DefD := [d_is_whole, d_is_within, d_are_wholes, d_is_rope, d_look_at_ropes, d_Rig___init__, d_Rig_many, d_Rig_ropes, d_Rig___eq__, d_is_heights, d_look_at_heights, d_room_by, d_broken, d_Rig_turned, d_Rig_called, d_Rig_measured, d__law_pool, d__law_take, d__law_height, d__law_high, d__law_letting, d__law_order, d__law_called, d__law_kind, d__law_refused, d__law_right, d_law, d_NoHeights___init__, d_NoOrder___init__]
abbrev Rw : PySem.W.OpenRow := PySem.W.OpenLaw.row PySem.Challenge.rw_ropedclimbers_k14_whole_rigs_led_over
def xs : XFs := [fun K => clsIsB K (He.ga K "Rig"), fun K => nexB K (He.ga K "Rig"), fun K => exmB K (He.ga K "NoOrder") [((He.ga K "NoOrder"), true), ((He.ga K "NoHeights"), false)], fun K => exmB K (He.ga K "NoHeights") [((He.ga K "NoHeights"), true), ((He.ga K "NoOrder"), false)], initC "RopeError" "ValueError.__init__", oexBB "ValueError.__new__" bmVE "NoHeights", initC "RopeError" "ValueError.__init__", oexBB "ValueError.__new__" bmVE "NoOrder", fun K => tabsB (["_law_refused"] : List PySem.Str) K]
abbrev hk : PySem.W.Hook := hookY 6 fa fn xs
def ob (s : PySem.W.SharedT) : AlX := obsY 6 fa fn xs (HandSHeadRun.getT s)
theorem ob_eq (s : PySem.W.SharedT) : ob s = hk.obs s.abs := obsY_eq (HandSHeadRun.getT_eq s)
abbrev lo0 : List Str := ["_wall", "__name__", "RopeError", "NoMany", "NoRope", "NoOrder", "NoHeights", "NoNumber", "TooMany", "MOST_CLIMBERS", "MOST_ROPES", "is_whole", "is_within", "are_wholes", "is_rope", "look_at_ropes", "Rig", "is_heights", "look_at_heights", "room_by", "broken", "_law_pool", "_law_take", "_law_height", "_law_high", "_law_letting", "_law_order", "_law_called", "_law_kind", "_law_right"]
abbrev loose : List Str := lo0
set_option maxHeartbeats 0 in
theorem run1 (w : World) : Run1 Rw 12000 w := by
  intro os
  kernel_rfl
set_option maxHeartbeats 0 in
theorem run2 (w : World) : Run2 Rw (PySem.W.view Rw.prog [31, 34]) 12000 loose w := by
  intro os
  kernel_rfl
set_option maxHeartbeats 0 in
theorem run3 (w : World) : Run3 Rw hk ob 12000 w := by
  intro os
  kernel_rfl
theorem run (w : World) : HandSHeadRun.RunEq Rw (PySem.W.view Rw.prog [31, 34]) hk ob 12000 loose w := runEq_of (run1 w) (run2 w) (run3 w)
end Z


set_option Elab.async false
set_option linter.all false
set_option maxRecDepth 100000
set_option maxHeartbeats 4000000
namespace Z
open PySem PySem.Spec PyProof.Rows L2

theorem no_un {α : Type} {a : Option α} (h : a.isSome = true) : ∃ x, a = some x := by
  cases a with
  | none => cases h
  | some x => exact ⟨x, rfl⟩

/-! ### whole numbers -/
def sp_is_whole (_ : Ad) : SpD := fun ds S k _ => ∃ d, ds = [d] ∧ (tyN S d).isSome = true ∧ k (.bl (isInt d)) S
def t_is_whole (a : Ad) : TSD := (dRet (dAndV (dCB cIsi (dCons (dVar 0) (dCons (dC (.ty "int")) dNil))) (dNotV (dCB cIsi (dCons (dVar 0) (dCons (dC (.ty "bool")) dNil))))))
theorem len_is_whole (a : Ad) : ∀ ds S kk ex, sp_is_whole a ds S kk ex → ds.length = 1 := by
  rintro _ S kk ex ⟨d, rfl, _⟩; rfl
theorem vc_is_whole (a : Ad) : ∀ ds S kk ex F H, sp_is_whole a ds S kk ex → t_is_whole a (wdX ex F H S) (endX kk) (startD 1 ds) S := by
  rintro _ S kk ex F H ⟨d, rfl, h, hk⟩
  simp only [t_is_whole, dSeq, dNext, dRet, dRetN, dDrop, dIfS, dSet, dBrk, dCont, dNev, dAsg, dAsgS, dPar, dVar, dC, dBin, dChain, dTest, dAnd, dOr, dNot, dAndV, dOrV, dNotV, dIf, dNil, dCons, dTup, dLst, dLstM, dFrz, dCall, dMeth, dMake, dFld, fldK, dSfldN, sfldNew, dSfldO, sfldOld, dCB, dMt, dSl, dNoP, dP, dRev, dNeg, dFor, dLc, dLcM, wipeD, gNameD, gConsD, gNilD, gSeqD, gStarD, iSq, iRg1, iRg2, iEn, iZp, dYes, dDic0, dDic0M, fAdd, fSub, fMul, fMod, fFdv, fPow, fCmp, fIs, fIsNot, fIx, isN, mkL, endX, startD, DO.toD, vq, vl, vx, vi, grd, isLs, mAppend, mPop, mClear, mExtend, onL, sSetL, cLen, cList, cTup, cMax2, cMin2, cInt, cSum, cMax, cMin, cAll, cAny, cSorted, onInts, onBls, cAbs, intsOf, blsOf, ints_map, bls_map, Option.bind_some, List.getElem?_cons_zero, List.getElem?_cons_succ, List.set_cons_zero, List.set_cons_succ, List.length_cons, List.length_nil, List.map_cons, List.map_nil, List.replicate_succ, List.replicate_zero, List.nil_append, List.cons_append, List.append_nil, Nat.reduceAdd, Nat.reduceSub, Nat.zero_add, Nat.add_zero, Nat.sub_self, if_true, if_false, ite_true, ite_false, reduceCtorEq, Bool.false_eq_true, true_and, and_true, supd_same, Bool.not_true, Bool.not_false, Bool.not_eq_true, Bool.not_eq_false, Nat.reduceSubDiff, fEq, fNe, fIn, fNotIn, tr_int, tr_bl, tr_str, tr_non, tr_lst, tr_tup, pln_int, pln_bl, pln_str, pln_non, deq_int, cRepr, isi_int h, isi_bool h]
  cases d <;> simp_all [isInt, isBl] <;> exact out1 hk
def within (l m : Int) : D → Bool
  | .int i => decide (l ≤ i ∧ i ≤ m)
  | _ => false
def sp_is_within (_ : Ad) : SpD := fun ds S k _ => ∃ d l m, ds = [d, .int l, .int m] ∧ (tyN S d).isSome = true ∧ k (.bl (within l m d)) S
def t_is_within (a : Ad) : TSD := (dRet (dAndV (dCall (sp_is_whole a) [] (dCons (dVar 0) dNil)) (dChain fLe fLe (dVar 1) (dVar 0) (dVar 2))))
theorem len_is_within (a : Ad) : ∀ ds S kk ex, sp_is_within a ds S kk ex → ds.length = 3 := by
  rintro _ S kk ex ⟨d, l, m, rfl, _⟩; rfl
theorem vc_is_within (a : Ad) : ∀ ds S kk ex F H, sp_is_within a ds S kk ex → t_is_within a (wdX ex F H S) (endX kk) (startD 3 ds) S := by
  rintro _ S kk ex F H ⟨d, l, m, rfl, h, hk⟩
  simp only [t_is_within, dSeq, dNext, dRet, dRetN, dDrop, dIfS, dSet, dBrk, dCont, dNev, dAsg, dAsgS, dPar, dVar, dC, dBin, dChain, dTest, dAnd, dOr, dNot, dAndV, dOrV, dNotV, dIf, dNil, dCons, dTup, dLst, dLstM, dFrz, dCall, dMeth, dMake, dFld, fldK, dSfldN, sfldNew, dSfldO, sfldOld, dCB, dMt, dSl, dNoP, dP, dRev, dNeg, dFor, dLc, dLcM, wipeD, gNameD, gConsD, gNilD, gSeqD, gStarD, iSq, iRg1, iRg2, iEn, iZp, dYes, dDic0, dDic0M, fAdd, fSub, fMul, fMod, fFdv, fPow, fCmp, fIs, fIsNot, fIx, isN, mkL, endX, startD, DO.toD, vq, vl, vx, vi, grd, isLs, mAppend, mPop, mClear, mExtend, onL, sSetL, cLen, cList, cTup, cMax2, cMin2, cInt, cSum, cMax, cMin, cAll, cAny, cSorted, onInts, onBls, cAbs, intsOf, blsOf, ints_map, bls_map, Option.bind_some, List.getElem?_cons_zero, List.getElem?_cons_succ, List.set_cons_zero, List.set_cons_succ, List.length_cons, List.length_nil, List.map_cons, List.map_nil, List.replicate_succ, List.replicate_zero, List.nil_append, List.cons_append, List.append_nil, Nat.reduceAdd, Nat.reduceSub, Nat.zero_add, Nat.add_zero, Nat.sub_self, if_true, if_false, ite_true, ite_false, reduceCtorEq, Bool.false_eq_true, true_and, and_true, supd_same, Bool.not_true, Bool.not_false, Bool.not_eq_true, Bool.not_eq_false, Nat.reduceSubDiff, fEq, fNe, fIn, fNotIn, tr_int, tr_bl, tr_str, tr_non, tr_lst, tr_tup, pln_int, pln_bl, pln_str, pln_non, deq_int, cRepr]
  refine ⟨d, rfl, h, ?_⟩
  cases d with
  | int i =>
    simp only [isInt, if_true, dSeq, dNext, dRet, dRetN, dDrop, dIfS, dSet, dBrk, dCont, dNev, dAsg, dAsgS, dPar, dVar, dC, dBin, dChain, dTest, dAnd, dOr, dNot, dAndV, dOrV, dNotV, dIf, dNil, dCons, dTup, dLst, dLstM, dFrz, dCall, dMeth, dMake, dFld, fldK, dSfldN, sfldNew, dSfldO, sfldOld, dCB, dMt, dSl, dNoP, dP, dRev, dNeg, dFor, dLc, dLcM, wipeD, gNameD, gConsD, gNilD, gSeqD, gStarD, iSq, iRg1, iRg2, iEn, iZp, dYes, dDic0, dDic0M, fAdd, fSub, fMul, fMod, fFdv, fPow, fCmp, fIs, fIsNot, fIx, isN, mkL, endX, startD, DO.toD, vq, vl, vx, vi, grd, isLs, mAppend, mPop, mClear, mExtend, onL, sSetL, cLen, cList, cTup, cMax2, cMin2, cInt, cSum, cMax, cMin, cAll, cAny, cSorted, onInts, onBls, cAbs, intsOf, blsOf, ints_map, bls_map, Option.bind_some, List.getElem?_cons_zero, List.getElem?_cons_succ, List.set_cons_zero, List.set_cons_succ, List.length_cons, List.length_nil, List.map_cons, List.map_nil, List.replicate_succ, List.replicate_zero, List.nil_append, List.cons_append, List.append_nil, Nat.reduceAdd, Nat.reduceSub, Nat.zero_add, Nat.add_zero, Nat.sub_self, if_true, if_false, ite_true, ite_false, reduceCtorEq, Bool.false_eq_true, true_and, and_true, supd_same, Bool.not_true, Bool.not_false, Bool.not_eq_true, Bool.not_eq_false, Nat.reduceSubDiff, fEq, fNe, fIn, fNotIn, tr_int, tr_bl, tr_str, tr_non, tr_lst, tr_tup, pln_int, pln_bl, pln_str, pln_non, deq_int, cRepr]
    by_cases h1 : l ≤ i
    · simp only [decide_eq_true h1, if_true]
      refine out1 ?_
      have : within l m (.int i) = decide (i ≤ m) := by simp [within, h1]
      rw [← this]; exact hk
    · simp only [decide_eq_false h1, dSeq, dNext, dRet, dRetN, dDrop, dIfS, dSet, dBrk, dCont, dNev, dAsg, dAsgS, dPar, dVar, dC, dBin, dChain, dTest, dAnd, dOr, dNot, dAndV, dOrV, dNotV, dIf, dNil, dCons, dTup, dLst, dLstM, dFrz, dCall, dMeth, dMake, dFld, fldK, dSfldN, sfldNew, dSfldO, sfldOld, dCB, dMt, dSl, dNoP, dP, dRev, dNeg, dFor, dLc, dLcM, wipeD, gNameD, gConsD, gNilD, gSeqD, gStarD, iSq, iRg1, iRg2, iEn, iZp, dYes, dDic0, dDic0M, fAdd, fSub, fMul, fMod, fFdv, fPow, fCmp, fIs, fIsNot, fIx, isN, mkL, endX, startD, DO.toD, vq, vl, vx, vi, grd, isLs, mAppend, mPop, mClear, mExtend, onL, sSetL, cLen, cList, cTup, cMax2, cMin2, cInt, cSum, cMax, cMin, cAll, cAny, cSorted, onInts, onBls, cAbs, intsOf, blsOf, ints_map, bls_map, Option.bind_some, List.getElem?_cons_zero, List.getElem?_cons_succ, List.set_cons_zero, List.set_cons_succ, List.length_cons, List.length_nil, List.map_cons, List.map_nil, List.replicate_succ, List.replicate_zero, List.nil_append, List.cons_append, List.append_nil, Nat.reduceAdd, Nat.reduceSub, Nat.zero_add, Nat.add_zero, Nat.sub_self, if_true, if_false, ite_true, ite_false, reduceCtorEq, Bool.false_eq_true, true_and, and_true, supd_same, Bool.not_true, Bool.not_false, Bool.not_eq_true, Bool.not_eq_false, Nat.reduceSubDiff, fEq, fNe, fIn, fNotIn, tr_int, tr_bl, tr_str, tr_non, tr_lst, tr_tup, pln_int, pln_bl, pln_str, pln_non, deq_int, cRepr]
      refine out1 ?_
      have : within l m (.int i) = false := by simp [within, h1]
      rw [← this]; exact hk
  | _ => exact out1 hk

/-! ### ropes, rigs -/
structure Rp where
  up : Int
  lo : Int
  mo : Int
  deriving DecidableEq
def Rp.d (r : Rp) : D := .tup [.int r.up, .int r.lo, .int r.mo]
def Rp.ok (n : Int) (r : Rp) : Prop := 0 ≤ r.up ∧ r.up ≤ n ∧ 0 ≤ r.lo ∧ r.lo ≤ n ∧ r.up ≠ r.lo
def isRp (n : Int) : D → Bool
  | .tup [.int u, .int l, .int _] => decide (0 ≤ u ∧ u ≤ n ∧ 0 ≤ l ∧ l ≤ n ∧ u ≠ l)
  | _ => false
theorem isRp_d {n : Int} {r : Rp} (h : r.ok n) : isRp n r.d = true := decide_eq_true h
theorem pln_rp {n : Nat} {r : Rp} : pln (n + 1) r.d := by
  unfold Rp.d
  rw [pln_tup]
  intro x hx
  simp only [List.mem_cons, List.not_mem_nil, or_false] at hx
  rcases hx with rfl | rfl | rfl <;> (rw [pln_int]; trivial)
theorem deq_rp (r s : Rp) : deq r.d s.d = decide (r = s) := by
  unfold Rp.d
  rw [deq_tup]
  unfold deqs deqs deqs deqs
  simp only [deq_int]
  obtain ⟨a1, b1, c1⟩ := r
  obtain ⟨a2, b2, c2⟩ := s
  simp only [Rp.mk.injEq]
  by_cases h1 : a1 = a2 <;> by_cases h2 : b1 = b2 <;> by_cases h3 : c1 = c2 <;> simp [h1, h2, h3]
theorem isRp_no {n : Int} {xs : List D} (h : xs.length ≠ 3) : isRp n (.tup xs) = false := by
  unfold isRp
  split
  · rename_i e
    cases e
    exact absurd rfl h
  · rfl
def sp_is_rope (_ : Ad) : SpD := fun ds S k _ => ∃ d n, ds = [d, .int n] ∧ pln 60 d ∧ k (.bl (isRp n d)) S
def t_is_rope (a : Ad) : TSD := (dSeq (dIfS (dOr (dNot (dTest (dCB cIsi (dCons (dVar 0) (dCons (dC (.ty "tuple")) dNil))))) (dTest (dBin fNe (dCB cLen (dCons (dVar 0) dNil)) (dC (.int 3))))) (dRet (dC (.bl false))) dNext) (dSeq (dAsg (dVar 0) (gSeqD 3 (gConsD (gNameD 2) (gConsD (gNameD 3) (gConsD (gNameD 4) gNilD))))) (dSeq (dIfS (dOr (dNot (dTest (dCall (sp_is_within a) [] (dCons (dVar 2) (dCons (dC (.int 0)) (dCons (dVar 1) dNil)))))) (dNot (dTest (dCall (sp_is_within a) [] (dCons (dVar 3) (dCons (dC (.int 0)) (dCons (dVar 1) dNil))))))) (dRet (dC (.bl false))) dNext) (dRet (dAndV (dBin fNe (dVar 2) (dVar 3)) (dCall (sp_is_whole a) [] (dCons (dVar 4) dNil)))))))
theorem len_is_rope (a : Ad) : ∀ ds S kk ex, sp_is_rope a ds S kk ex → ds.length = 2 := by
  rintro _ S kk ex ⟨d, n, rfl, _⟩; rfl
theorem within_int {l m i : Int} : within l m (.int i) = decide (l ≤ i ∧ i ≤ m) := rfl
theorem vc_is_rope (a : Ad) : ∀ ds S kk ex F H, sp_is_rope a ds S kk ex → t_is_rope a (wdX ex F H S) (endX kk) (startD 5 ds) S := by
  rintro _ S kk ex F H ⟨d, n, rfl, h, hk⟩
  simp only [t_is_rope, dSeq, dNext, dRet, dRetN, dDrop, dIfS, dSet, dBrk, dCont, dNev, dAsg, dAsgS, dPar, dVar, dC, dBin, dChain, dTest, dAnd, dOr, dNot, dAndV, dOrV, dNotV, dIf, dNil, dCons, dTup, dLst, dLstM, dFrz, dCall, dMeth, dMake, dFld, fldK, dSfldN, sfldNew, dSfldO, sfldOld, dCB, dMt, dSl, dNoP, dP, dRev, dNeg, dFor, dLc, dLcM, wipeD, gNameD, gConsD, gNilD, gSeqD, gStarD, iSq, iRg1, iRg2, iEn, iZp, dYes, dDic0, dDic0M, fAdd, fSub, fMul, fMod, fFdv, fPow, fCmp, fIs, fIsNot, fIx, isN, mkL, endX, startD, DO.toD, vq, vl, vx, vi, grd, isLs, mAppend, mPop, mClear, mExtend, onL, sSetL, cLen, cList, cTup, cMax2, cMin2, cInt, cSum, cMax, cMin, cAll, cAny, cSorted, onInts, onBls, cAbs, intsOf, blsOf, ints_map, bls_map, Option.bind_some, List.getElem?_cons_zero, List.getElem?_cons_succ, List.set_cons_zero, List.set_cons_succ, List.length_cons, List.length_nil, List.map_cons, List.map_nil, List.replicate_succ, List.replicate_zero, List.nil_append, List.cons_append, List.append_nil, Nat.reduceAdd, Nat.reduceSub, Nat.zero_add, Nat.add_zero, Nat.sub_self, if_true, if_false, ite_true, ite_false, reduceCtorEq, Bool.false_eq_true, true_and, and_true, supd_same, Bool.not_true, Bool.not_false, Bool.not_eq_true, Bool.not_eq_false, Nat.reduceSubDiff, fEq, fNe, fIn, fNotIn, tr_int, tr_bl, tr_str, tr_non, tr_lst, tr_tup, pln_int, pln_bl, pln_str, pln_non, deq_int, cRepr, isi_tup (pln_ty h)]
  cases d with
  | tup xs =>
    simp only [isTup, dSeq, dNext, dRet, dRetN, dDrop, dIfS, dSet, dBrk, dCont, dNev, dAsg, dAsgS, dPar, dVar, dC, dBin, dChain, dTest, dAnd, dOr, dNot, dAndV, dOrV, dNotV, dIf, dNil, dCons, dTup, dLst, dLstM, dFrz, dCall, dMeth, dMake, dFld, fldK, dSfldN, sfldNew, dSfldO, sfldOld, dCB, dMt, dSl, dNoP, dP, dRev, dNeg, dFor, dLc, dLcM, wipeD, gNameD, gConsD, gNilD, gSeqD, gStarD, iSq, iRg1, iRg2, iEn, iZp, dYes, dDic0, dDic0M, fAdd, fSub, fMul, fMod, fFdv, fPow, fCmp, fIs, fIsNot, fIx, isN, mkL, endX, startD, DO.toD, vq, vl, vx, vi, grd, isLs, mAppend, mPop, mClear, mExtend, onL, sSetL, cLen, cList, cTup, cMax2, cMin2, cInt, cSum, cMax, cMin, cAll, cAny, cSorted, onInts, onBls, cAbs, intsOf, blsOf, ints_map, bls_map, Option.bind_some, List.getElem?_cons_zero, List.getElem?_cons_succ, List.set_cons_zero, List.set_cons_succ, List.length_cons, List.length_nil, List.map_cons, List.map_nil, List.replicate_succ, List.replicate_zero, List.nil_append, List.cons_append, List.append_nil, Nat.reduceAdd, Nat.reduceSub, Nat.zero_add, Nat.add_zero, Nat.sub_self, if_true, if_false, ite_true, ite_false, reduceCtorEq, Bool.false_eq_true, true_and, and_true, supd_same, Bool.not_true, Bool.not_false, Bool.not_eq_true, Bool.not_eq_false, Nat.reduceSubDiff, fEq, fNe, fIn, fNotIn, tr_int, tr_bl, tr_str, tr_non, tr_lst, tr_tup, pln_int, pln_bl, pln_str, pln_non, deq_int, cRepr]
    match xs, h, hk with
    | [u, l, m], h, hk =>
      rw [pln_tup] at h
      have hu : pln 59 u := h u (by simp)
      have hl : pln 59 l := h l (by simp)
      have hm : pln 59 m := h m (by simp)
      simp only [dSeq, dNext, dRet, dRetN, dDrop, dIfS, dSet, dBrk, dCont, dNev, dAsg, dAsgS, dPar, dVar, dC, dBin, dChain, dTest, dAnd, dOr, dNot, dAndV, dOrV, dNotV, dIf, dNil, dCons, dTup, dLst, dLstM, dFrz, dCall, dMeth, dMake, dFld, fldK, dSfldN, sfldNew, dSfldO, sfldOld, dCB, dMt, dSl, dNoP, dP, dRev, dNeg, dFor, dLc, dLcM, wipeD, gNameD, gConsD, gNilD, gSeqD, gStarD, iSq, iRg1, iRg2, iEn, iZp, dYes, dDic0, dDic0M, fAdd, fSub, fMul, fMod, fFdv, fPow, fCmp, fIs, fIsNot, fIx, isN, mkL, endX, startD, DO.toD, vq, vl, vx, vi, grd, isLs, mAppend, mPop, mClear, mExtend, onL, sSetL, cLen, cList, cTup, cMax2, cMin2, cInt, cSum, cMax, cMin, cAll, cAny, cSorted, onInts, onBls, cAbs, intsOf, blsOf, ints_map, bls_map, Option.bind_some, List.getElem?_cons_zero, List.getElem?_cons_succ, List.set_cons_zero, List.set_cons_succ, List.length_cons, List.length_nil, List.map_cons, List.map_nil, List.replicate_succ, List.replicate_zero, List.nil_append, List.cons_append, List.append_nil, Nat.reduceAdd, Nat.reduceSub, Nat.zero_add, Nat.add_zero, Nat.sub_self, if_true, if_false, ite_true, ite_false, reduceCtorEq, Bool.false_eq_true, true_and, and_true, supd_same, Bool.not_true, Bool.not_false, Bool.not_eq_true, Bool.not_eq_false, Nat.reduceSubDiff, fEq, fNe, fIn, fNotIn, tr_int, tr_bl, tr_str, tr_non, tr_lst, tr_tup, pln_int, pln_bl, pln_str, pln_non, deq_int, cRepr]
      refine ⟨u, 0, n, rfl, pln_ty hu, ?_⟩
      cases e1 : within 0 n u with
      | false =>
        simp only [dSeq, dNext, dRet, dRetN, dDrop, dIfS, dSet, dBrk, dCont, dNev, dAsg, dAsgS, dPar, dVar, dC, dBin, dChain, dTest, dAnd, dOr, dNot, dAndV, dOrV, dNotV, dIf, dNil, dCons, dTup, dLst, dLstM, dFrz, dCall, dMeth, dMake, dFld, fldK, dSfldN, sfldNew, dSfldO, sfldOld, dCB, dMt, dSl, dNoP, dP, dRev, dNeg, dFor, dLc, dLcM, wipeD, gNameD, gConsD, gNilD, gSeqD, gStarD, iSq, iRg1, iRg2, iEn, iZp, dYes, dDic0, dDic0M, fAdd, fSub, fMul, fMod, fFdv, fPow, fCmp, fIs, fIsNot, fIx, isN, mkL, endX, startD, DO.toD, vq, vl, vx, vi, grd, isLs, mAppend, mPop, mClear, mExtend, onL, sSetL, cLen, cList, cTup, cMax2, cMin2, cInt, cSum, cMax, cMin, cAll, cAny, cSorted, onInts, onBls, cAbs, intsOf, blsOf, ints_map, bls_map, Option.bind_some, List.getElem?_cons_zero, List.getElem?_cons_succ, List.set_cons_zero, List.set_cons_succ, List.length_cons, List.length_nil, List.map_cons, List.map_nil, List.replicate_succ, List.replicate_zero, List.nil_append, List.cons_append, List.append_nil, Nat.reduceAdd, Nat.reduceSub, Nat.zero_add, Nat.add_zero, Nat.sub_self, if_true, if_false, ite_true, ite_false, reduceCtorEq, Bool.false_eq_true, true_and, and_true, supd_same, Bool.not_true, Bool.not_false, Bool.not_eq_true, Bool.not_eq_false, Nat.reduceSubDiff, fEq, fNe, fIn, fNotIn, tr_int, tr_bl, tr_str, tr_non, tr_lst, tr_tup, pln_int, pln_bl, pln_str, pln_non, deq_int, cRepr]
        refine out1 ?_
        have : isRp n (.tup [u, l, m]) = false := by
          cases u <;> first | rfl | (cases l <;> first | rfl | (cases m <;> first | rfl | (simp only [within_int, decide_eq_false_iff_not] at e1; simp only [isRp, decide_eq_false_iff_not]; omega)))
        rw [← this]; exact hk
      | true =>
        simp only [dSeq, dNext, dRet, dRetN, dDrop, dIfS, dSet, dBrk, dCont, dNev, dAsg, dAsgS, dPar, dVar, dC, dBin, dChain, dTest, dAnd, dOr, dNot, dAndV, dOrV, dNotV, dIf, dNil, dCons, dTup, dLst, dLstM, dFrz, dCall, dMeth, dMake, dFld, fldK, dSfldN, sfldNew, dSfldO, sfldOld, dCB, dMt, dSl, dNoP, dP, dRev, dNeg, dFor, dLc, dLcM, wipeD, gNameD, gConsD, gNilD, gSeqD, gStarD, iSq, iRg1, iRg2, iEn, iZp, dYes, dDic0, dDic0M, fAdd, fSub, fMul, fMod, fFdv, fPow, fCmp, fIs, fIsNot, fIx, isN, mkL, endX, startD, DO.toD, vq, vl, vx, vi, grd, isLs, mAppend, mPop, mClear, mExtend, onL, sSetL, cLen, cList, cTup, cMax2, cMin2, cInt, cSum, cMax, cMin, cAll, cAny, cSorted, onInts, onBls, cAbs, intsOf, blsOf, ints_map, bls_map, Option.bind_some, List.getElem?_cons_zero, List.getElem?_cons_succ, List.set_cons_zero, List.set_cons_succ, List.length_cons, List.length_nil, List.map_cons, List.map_nil, List.replicate_succ, List.replicate_zero, List.nil_append, List.cons_append, List.append_nil, Nat.reduceAdd, Nat.reduceSub, Nat.zero_add, Nat.add_zero, Nat.sub_self, if_true, if_false, ite_true, ite_false, reduceCtorEq, Bool.false_eq_true, true_and, and_true, supd_same, Bool.not_true, Bool.not_false, Bool.not_eq_true, Bool.not_eq_false, Nat.reduceSubDiff, fEq, fNe, fIn, fNotIn, tr_int, tr_bl, tr_str, tr_non, tr_lst, tr_tup, pln_int, pln_bl, pln_str, pln_non, deq_int, cRepr]
        refine ⟨l, 0, n, rfl, pln_ty hl, ?_⟩
        cases e2 : within 0 n l with
        | false =>
          simp only [dSeq, dNext, dRet, dRetN, dDrop, dIfS, dSet, dBrk, dCont, dNev, dAsg, dAsgS, dPar, dVar, dC, dBin, dChain, dTest, dAnd, dOr, dNot, dAndV, dOrV, dNotV, dIf, dNil, dCons, dTup, dLst, dLstM, dFrz, dCall, dMeth, dMake, dFld, fldK, dSfldN, sfldNew, dSfldO, sfldOld, dCB, dMt, dSl, dNoP, dP, dRev, dNeg, dFor, dLc, dLcM, wipeD, gNameD, gConsD, gNilD, gSeqD, gStarD, iSq, iRg1, iRg2, iEn, iZp, dYes, dDic0, dDic0M, fAdd, fSub, fMul, fMod, fFdv, fPow, fCmp, fIs, fIsNot, fIx, isN, mkL, endX, startD, DO.toD, vq, vl, vx, vi, grd, isLs, mAppend, mPop, mClear, mExtend, onL, sSetL, cLen, cList, cTup, cMax2, cMin2, cInt, cSum, cMax, cMin, cAll, cAny, cSorted, onInts, onBls, cAbs, intsOf, blsOf, ints_map, bls_map, Option.bind_some, List.getElem?_cons_zero, List.getElem?_cons_succ, List.set_cons_zero, List.set_cons_succ, List.length_cons, List.length_nil, List.map_cons, List.map_nil, List.replicate_succ, List.replicate_zero, List.nil_append, List.cons_append, List.append_nil, Nat.reduceAdd, Nat.reduceSub, Nat.zero_add, Nat.add_zero, Nat.sub_self, if_true, if_false, ite_true, ite_false, reduceCtorEq, Bool.false_eq_true, true_and, and_true, supd_same, Bool.not_true, Bool.not_false, Bool.not_eq_true, Bool.not_eq_false, Nat.reduceSubDiff, fEq, fNe, fIn, fNotIn, tr_int, tr_bl, tr_str, tr_non, tr_lst, tr_tup, pln_int, pln_bl, pln_str, pln_non, deq_int, cRepr]
          refine out1 ?_
          have : isRp n (.tup [u, l, m]) = false := by
            cases u <;> first | rfl | (cases l <;> first | rfl | (cases m <;> first | rfl | (simp only [within_int, decide_eq_false_iff_not] at e2; simp only [isRp, decide_eq_false_iff_not]; omega)))
          rw [← this]; exact hk
        | true =>
          cases u with
          | int u =>
            cases l with
            | int l =>
              simp only [dSeq, dNext, dRet, dRetN, dDrop, dIfS, dSet, dBrk, dCont, dNev, dAsg, dAsgS, dPar, dVar, dC, dBin, dChain, dTest, dAnd, dOr, dNot, dAndV, dOrV, dNotV, dIf, dNil, dCons, dTup, dLst, dLstM, dFrz, dCall, dMeth, dMake, dFld, fldK, dSfldN, sfldNew, dSfldO, sfldOld, dCB, dMt, dSl, dNoP, dP, dRev, dNeg, dFor, dLc, dLcM, wipeD, gNameD, gConsD, gNilD, gSeqD, gStarD, iSq, iRg1, iRg2, iEn, iZp, dYes, dDic0, dDic0M, fAdd, fSub, fMul, fMod, fFdv, fPow, fCmp, fIs, fIsNot, fIx, isN, mkL, endX, startD, DO.toD, vq, vl, vx, vi, grd, isLs, mAppend, mPop, mClear, mExtend, onL, sSetL, cLen, cList, cTup, cMax2, cMin2, cInt, cSum, cMax, cMin, cAll, cAny, cSorted, onInts, onBls, cAbs, intsOf, blsOf, ints_map, bls_map, Option.bind_some, List.getElem?_cons_zero, List.getElem?_cons_succ, List.set_cons_zero, List.set_cons_succ, List.length_cons, List.length_nil, List.map_cons, List.map_nil, List.replicate_succ, List.replicate_zero, List.nil_append, List.cons_append, List.append_nil, Nat.reduceAdd, Nat.reduceSub, Nat.zero_add, Nat.add_zero, Nat.sub_self, if_true, if_false, ite_true, ite_false, reduceCtorEq, Bool.false_eq_true, true_and, and_true, supd_same, Bool.not_true, Bool.not_false, Bool.not_eq_true, Bool.not_eq_false, Nat.reduceSubDiff, fEq, fNe, fIn, fNotIn, tr_int, tr_bl, tr_str, tr_non, tr_lst, tr_tup, pln_int, pln_bl, pln_str, pln_non, deq_int, cRepr]
              simp only [within_int, decide_eq_true_eq] at e1 e2
              by_cases hul : u = l
              · subst hul
                simp only [beq_self_eq_true, dSeq, dNext, dRet, dRetN, dDrop, dIfS, dSet, dBrk, dCont, dNev, dAsg, dAsgS, dPar, dVar, dC, dBin, dChain, dTest, dAnd, dOr, dNot, dAndV, dOrV, dNotV, dIf, dNil, dCons, dTup, dLst, dLstM, dFrz, dCall, dMeth, dMake, dFld, fldK, dSfldN, sfldNew, dSfldO, sfldOld, dCB, dMt, dSl, dNoP, dP, dRev, dNeg, dFor, dLc, dLcM, wipeD, gNameD, gConsD, gNilD, gSeqD, gStarD, iSq, iRg1, iRg2, iEn, iZp, dYes, dDic0, dDic0M, fAdd, fSub, fMul, fMod, fFdv, fPow, fCmp, fIs, fIsNot, fIx, isN, mkL, endX, startD, DO.toD, vq, vl, vx, vi, grd, isLs, mAppend, mPop, mClear, mExtend, onL, sSetL, cLen, cList, cTup, cMax2, cMin2, cInt, cSum, cMax, cMin, cAll, cAny, cSorted, onInts, onBls, cAbs, intsOf, blsOf, ints_map, bls_map, Option.bind_some, List.getElem?_cons_zero, List.getElem?_cons_succ, List.set_cons_zero, List.set_cons_succ, List.length_cons, List.length_nil, List.map_cons, List.map_nil, List.replicate_succ, List.replicate_zero, List.nil_append, List.cons_append, List.append_nil, Nat.reduceAdd, Nat.reduceSub, Nat.zero_add, Nat.add_zero, Nat.sub_self, if_true, if_false, ite_true, ite_false, reduceCtorEq, Bool.false_eq_true, true_and, and_true, supd_same, Bool.not_true, Bool.not_false, Bool.not_eq_true, Bool.not_eq_false, Nat.reduceSubDiff, fEq, fNe, fIn, fNotIn, tr_int, tr_bl, tr_str, tr_non, tr_lst, tr_tup, pln_int, pln_bl, pln_str, pln_non, deq_int, cRepr]
                refine out1 ?_
                have : isRp n (.tup [.int u, .int u, m]) = false := by
                  cases m <;> first | rfl | (simp only [isRp, decide_eq_false_iff_not]; omega)
                rw [← this]; exact hk
              · have : (u == l) = false := by simp [hul]
                simp only [this, dSeq, dNext, dRet, dRetN, dDrop, dIfS, dSet, dBrk, dCont, dNev, dAsg, dAsgS, dPar, dVar, dC, dBin, dChain, dTest, dAnd, dOr, dNot, dAndV, dOrV, dNotV, dIf, dNil, dCons, dTup, dLst, dLstM, dFrz, dCall, dMeth, dMake, dFld, fldK, dSfldN, sfldNew, dSfldO, sfldOld, dCB, dMt, dSl, dNoP, dP, dRev, dNeg, dFor, dLc, dLcM, wipeD, gNameD, gConsD, gNilD, gSeqD, gStarD, iSq, iRg1, iRg2, iEn, iZp, dYes, dDic0, dDic0M, fAdd, fSub, fMul, fMod, fFdv, fPow, fCmp, fIs, fIsNot, fIx, isN, mkL, endX, startD, DO.toD, vq, vl, vx, vi, grd, isLs, mAppend, mPop, mClear, mExtend, onL, sSetL, cLen, cList, cTup, cMax2, cMin2, cInt, cSum, cMax, cMin, cAll, cAny, cSorted, onInts, onBls, cAbs, intsOf, blsOf, ints_map, bls_map, Option.bind_some, List.getElem?_cons_zero, List.getElem?_cons_succ, List.set_cons_zero, List.set_cons_succ, List.length_cons, List.length_nil, List.map_cons, List.map_nil, List.replicate_succ, List.replicate_zero, List.nil_append, List.cons_append, List.append_nil, Nat.reduceAdd, Nat.reduceSub, Nat.zero_add, Nat.add_zero, Nat.sub_self, if_true, if_false, ite_true, ite_false, reduceCtorEq, Bool.false_eq_true, true_and, and_true, supd_same, Bool.not_true, Bool.not_false, Bool.not_eq_true, Bool.not_eq_false, Nat.reduceSubDiff, fEq, fNe, fIn, fNotIn, tr_int, tr_bl, tr_str, tr_non, tr_lst, tr_tup, pln_int, pln_bl, pln_str, pln_non, deq_int, cRepr]
                refine ⟨m, rfl, pln_ty hm, ?_⟩
                refine out1 ?_
                have : isRp n (.tup [.int u, .int l, m]) = isInt m := by
                  cases m <;> first | rfl | (simp only [isRp, isInt, decide_eq_true_eq]; omega)
                rw [← this]; exact hk
            | _ => cases e2
          | _ => cases e1
    | [], h, hk => rw [isRp_no (by simp)] at hk; simp only [dSeq, dNext, dRet, dRetN, dDrop, dIfS, dSet, dBrk, dCont, dNev, dAsg, dAsgS, dPar, dVar, dC, dBin, dChain, dTest, dAnd, dOr, dNot, dAndV, dOrV, dNotV, dIf, dNil, dCons, dTup, dLst, dLstM, dFrz, dCall, dMeth, dMake, dFld, fldK, dSfldN, sfldNew, dSfldO, sfldOld, dCB, dMt, dSl, dNoP, dP, dRev, dNeg, dFor, dLc, dLcM, wipeD, gNameD, gConsD, gNilD, gSeqD, gStarD, iSq, iRg1, iRg2, iEn, iZp, dYes, dDic0, dDic0M, fAdd, fSub, fMul, fMod, fFdv, fPow, fCmp, fIs, fIsNot, fIx, isN, mkL, endX, startD, DO.toD, vq, vl, vx, vi, grd, isLs, mAppend, mPop, mClear, mExtend, onL, sSetL, cLen, cList, cTup, cMax2, cMin2, cInt, cSum, cMax, cMin, cAll, cAny, cSorted, onInts, onBls, cAbs, intsOf, blsOf, ints_map, bls_map, Option.bind_some, List.getElem?_cons_zero, List.getElem?_cons_succ, List.set_cons_zero, List.set_cons_succ, List.length_cons, List.length_nil, List.map_cons, List.map_nil, List.replicate_succ, List.replicate_zero, List.nil_append, List.cons_append, List.append_nil, Nat.reduceAdd, Nat.reduceSub, Nat.zero_add, Nat.add_zero, Nat.sub_self, if_true, if_false, ite_true, ite_false, reduceCtorEq, Bool.false_eq_true, true_and, and_true, supd_same, Bool.not_true, Bool.not_false, Bool.not_eq_true, Bool.not_eq_false, Nat.reduceSubDiff, fEq, fNe, fIn, fNotIn, tr_int, tr_bl, tr_str, tr_non, tr_lst, tr_tup, pln_int, pln_bl, pln_str, pln_non, deq_int, cRepr]; exact out1 hk
    | [_], h, hk => rw [isRp_no (by simp)] at hk; simp only [dSeq, dNext, dRet, dRetN, dDrop, dIfS, dSet, dBrk, dCont, dNev, dAsg, dAsgS, dPar, dVar, dC, dBin, dChain, dTest, dAnd, dOr, dNot, dAndV, dOrV, dNotV, dIf, dNil, dCons, dTup, dLst, dLstM, dFrz, dCall, dMeth, dMake, dFld, fldK, dSfldN, sfldNew, dSfldO, sfldOld, dCB, dMt, dSl, dNoP, dP, dRev, dNeg, dFor, dLc, dLcM, wipeD, gNameD, gConsD, gNilD, gSeqD, gStarD, iSq, iRg1, iRg2, iEn, iZp, dYes, dDic0, dDic0M, fAdd, fSub, fMul, fMod, fFdv, fPow, fCmp, fIs, fIsNot, fIx, isN, mkL, endX, startD, DO.toD, vq, vl, vx, vi, grd, isLs, mAppend, mPop, mClear, mExtend, onL, sSetL, cLen, cList, cTup, cMax2, cMin2, cInt, cSum, cMax, cMin, cAll, cAny, cSorted, onInts, onBls, cAbs, intsOf, blsOf, ints_map, bls_map, Option.bind_some, List.getElem?_cons_zero, List.getElem?_cons_succ, List.set_cons_zero, List.set_cons_succ, List.length_cons, List.length_nil, List.map_cons, List.map_nil, List.replicate_succ, List.replicate_zero, List.nil_append, List.cons_append, List.append_nil, Nat.reduceAdd, Nat.reduceSub, Nat.zero_add, Nat.add_zero, Nat.sub_self, if_true, if_false, ite_true, ite_false, reduceCtorEq, Bool.false_eq_true, true_and, and_true, supd_same, Bool.not_true, Bool.not_false, Bool.not_eq_true, Bool.not_eq_false, Nat.reduceSubDiff, fEq, fNe, fIn, fNotIn, tr_int, tr_bl, tr_str, tr_non, tr_lst, tr_tup, pln_int, pln_bl, pln_str, pln_non, deq_int, cRepr]; exact out1 hk
    | [_, _], h, hk => rw [isRp_no (by simp)] at hk; simp only [dSeq, dNext, dRet, dRetN, dDrop, dIfS, dSet, dBrk, dCont, dNev, dAsg, dAsgS, dPar, dVar, dC, dBin, dChain, dTest, dAnd, dOr, dNot, dAndV, dOrV, dNotV, dIf, dNil, dCons, dTup, dLst, dLstM, dFrz, dCall, dMeth, dMake, dFld, fldK, dSfldN, sfldNew, dSfldO, sfldOld, dCB, dMt, dSl, dNoP, dP, dRev, dNeg, dFor, dLc, dLcM, wipeD, gNameD, gConsD, gNilD, gSeqD, gStarD, iSq, iRg1, iRg2, iEn, iZp, dYes, dDic0, dDic0M, fAdd, fSub, fMul, fMod, fFdv, fPow, fCmp, fIs, fIsNot, fIx, isN, mkL, endX, startD, DO.toD, vq, vl, vx, vi, grd, isLs, mAppend, mPop, mClear, mExtend, onL, sSetL, cLen, cList, cTup, cMax2, cMin2, cInt, cSum, cMax, cMin, cAll, cAny, cSorted, onInts, onBls, cAbs, intsOf, blsOf, ints_map, bls_map, Option.bind_some, List.getElem?_cons_zero, List.getElem?_cons_succ, List.set_cons_zero, List.set_cons_succ, List.length_cons, List.length_nil, List.map_cons, List.map_nil, List.replicate_succ, List.replicate_zero, List.nil_append, List.cons_append, List.append_nil, Nat.reduceAdd, Nat.reduceSub, Nat.zero_add, Nat.add_zero, Nat.sub_self, if_true, if_false, ite_true, ite_false, reduceCtorEq, Bool.false_eq_true, true_and, and_true, supd_same, Bool.not_true, Bool.not_false, Bool.not_eq_true, Bool.not_eq_false, Nat.reduceSubDiff, fEq, fNe, fIn, fNotIn, tr_int, tr_bl, tr_str, tr_non, tr_lst, tr_tup, pln_int, pln_bl, pln_str, pln_non, deq_int, cRepr]; exact out1 hk
    | x1 :: x2 :: x3 :: x4 :: xs, h, hk =>
      have e : ((((x1 :: x2 :: x3 :: x4 :: xs).length : Nat) : Int) == 3) = false := by simp; omega
      simp only [List.length_cons] at e
      rw [isRp_no (by simp)] at hk
      simp only [e, dSeq, dNext, dRet, dRetN, dDrop, dIfS, dSet, dBrk, dCont, dNev, dAsg, dAsgS, dPar, dVar, dC, dBin, dChain, dTest, dAnd, dOr, dNot, dAndV, dOrV, dNotV, dIf, dNil, dCons, dTup, dLst, dLstM, dFrz, dCall, dMeth, dMake, dFld, fldK, dSfldN, sfldNew, dSfldO, sfldOld, dCB, dMt, dSl, dNoP, dP, dRev, dNeg, dFor, dLc, dLcM, wipeD, gNameD, gConsD, gNilD, gSeqD, gStarD, iSq, iRg1, iRg2, iEn, iZp, dYes, dDic0, dDic0M, fAdd, fSub, fMul, fMod, fFdv, fPow, fCmp, fIs, fIsNot, fIx, isN, mkL, endX, startD, DO.toD, vq, vl, vx, vi, grd, isLs, mAppend, mPop, mClear, mExtend, onL, sSetL, cLen, cList, cTup, cMax2, cMin2, cInt, cSum, cMax, cMin, cAll, cAny, cSorted, onInts, onBls, cAbs, intsOf, blsOf, ints_map, bls_map, Option.bind_some, List.getElem?_cons_zero, List.getElem?_cons_succ, List.set_cons_zero, List.set_cons_succ, List.length_cons, List.length_nil, List.map_cons, List.map_nil, List.replicate_succ, List.replicate_zero, List.nil_append, List.cons_append, List.append_nil, Nat.reduceAdd, Nat.reduceSub, Nat.zero_add, Nat.add_zero, Nat.sub_self, if_true, if_false, ite_true, ite_false, reduceCtorEq, Bool.false_eq_true, true_and, and_true, supd_same, Bool.not_true, Bool.not_false, Bool.not_eq_true, Bool.not_eq_false, Nat.reduceSubDiff, fEq, fNe, fIn, fNotIn, tr_int, tr_bl, tr_str, tr_non, tr_lst, tr_tup, pln_int, pln_bl, pln_str, pln_non, deq_int, cRepr]
      exact out1 hk
  | _ => simp only [isTup, dSeq, dNext, dRet, dRetN, dDrop, dIfS, dSet, dBrk, dCont, dNev, dAsg, dAsgS, dPar, dVar, dC, dBin, dChain, dTest, dAnd, dOr, dNot, dAndV, dOrV, dNotV, dIf, dNil, dCons, dTup, dLst, dLstM, dFrz, dCall, dMeth, dMake, dFld, fldK, dSfldN, sfldNew, dSfldO, sfldOld, dCB, dMt, dSl, dNoP, dP, dRev, dNeg, dFor, dLc, dLcM, wipeD, gNameD, gConsD, gNilD, gSeqD, gStarD, iSq, iRg1, iRg2, iEn, iZp, dYes, dDic0, dDic0M, fAdd, fSub, fMul, fMod, fFdv, fPow, fCmp, fIs, fIsNot, fIx, isN, mkL, endX, startD, DO.toD, vq, vl, vx, vi, grd, isLs, mAppend, mPop, mClear, mExtend, onL, sSetL, cLen, cList, cTup, cMax2, cMin2, cInt, cSum, cMax, cMin, cAll, cAny, cSorted, onInts, onBls, cAbs, intsOf, blsOf, ints_map, bls_map, Option.bind_some, List.getElem?_cons_zero, List.getElem?_cons_succ, List.set_cons_zero, List.set_cons_succ, List.length_cons, List.length_nil, List.map_cons, List.map_nil, List.replicate_succ, List.replicate_zero, List.nil_append, List.cons_append, List.append_nil, Nat.reduceAdd, Nat.reduceSub, Nat.zero_add, Nat.add_zero, Nat.sub_self, if_true, if_false, ite_true, ite_false, reduceCtorEq, Bool.false_eq_true, true_and, and_true, supd_same, Bool.not_true, Bool.not_false, Bool.not_eq_true, Bool.not_eq_false, Nat.reduceSubDiff, fEq, fNe, fIn, fNotIn, tr_int, tr_bl, tr_str, tr_non, tr_lst, tr_tup, pln_int, pln_bl, pln_str, pln_non, deq_int, cRepr]; exact out1 hk
end Z


set_option Elab.async false
set_option linter.all false
set_option maxRecDepth 100000
set_option maxHeartbeats 4000000
namespace Z
open PySem PySem.Spec PyProof.Rows L2

abbrev ns_Rig : List Str := ["own_many", "own_ropes"]
def dfl_look_at_ropes_2 : List D := [.int 0]
def rigD (a : Ad) (n : Int) (rs : List Rp) : D := .obj a.Rig ns_Rig [.int n, .tup (rs.map Rp.d)]
instance {a : Ad} {nn : Int} {rs : List Rp} {S : Sto} {P : Prop} : Stp (IsIn a.Rig ns_Rig S (rigD a nn rs) ∧ P) P := ⟨fun q => ⟨⟨rfl, rfl⟩, q⟩⟩
def sp_look_at_ropes (_ : Ad) : SpD := fun ds S k _ => ∃ d n o rs, ds = [d, .int n, .int o] ∧ vq S d = some (List.map Rp.d rs) ∧ (∀ r ∈ rs, r.ok n) ∧ o + rs.length ≤ 60 ∧ k .non S
def t_look_at_ropes (a : Ad) : TSD := (dSeq (dIfS (dNot (dTest (dCB cIsi (dCons (dVar 0) (dCons (dTup (dCons (dC (.ty "list")) (dCons (dC (.ty "tuple")) dNil))) dNil))))) dNev dNext) (dSeq (dFor (iSq (dVar 0)) (gNameD 3) (dIfS (dNot (dTest (dCall (sp_is_rope a) [] (dCons (dVar 3) (dCons (dVar 1) dNil))))) dNev dNext)) (dIfS (dTest (dBin fGt (dBin (fAdd false) (dVar 2) (dCB cLen (dCons (dVar 0) dNil))) (dC (.int 60)))) dNev dNext)))
theorem len_look_at_ropes (a : Ad) : ∀ ds S kk ex, sp_look_at_ropes a ds S kk ex → ds.length = 3 := by
  rintro _ S kk ex ⟨d, n, o, rs, rfl, _⟩; rfl
theorem vc_look_at_ropes (a : Ad) : ∀ ds S kk ex F H, sp_look_at_ropes a ds S kk ex → t_look_at_ropes a (wdX ex F H S) (endX kk) (startD 4 ds) S := by
  rintro _ S kk ex F H ⟨d, n, o, rs, rfl, hv, hr, ho, hk⟩
  obtain ⟨h1, h2⟩ := vq_ty hv
  unfold t_look_at_ropes
  simp only [dSeq, dNext, dRet, dRetN, dDrop, dIfS, dSet, dBrk, dCont, dNev, dAsg, dAsgS, dPar, dVar, dC, dBin, dChain, dTest, dAnd, dOr, dNot, dAndV, dOrV, dNotV, dIf, dNil, dCons, dTup, dLst, dLstM, dFrz, dCall, dMeth, dMake, dFld, fldK, dSfldN, sfldNew, dSfldO, sfldOld, dCB, dMt, dSl, dNoP, dP, dRev, dNeg, dFor, dLc, dLcM, wipeD, gNameD, gConsD, gNilD, gSeqD, gStarD, iSq, iRg1, iRg2, iEn, iZp, dYes, dDic0, dDic0M, fAdd, fSub, fMul, fMod, fFdv, fPow, fCmp, fIs, fIsNot, fIx, isN, mkL, endX, startD, DO.toD, vi, grd, isLs, mAppend, mPop, mClear, mExtend, onL, sSetL, cList, cTup, cMax2, cMin2, cInt, cSum, cMax, cMin, cAll, cAny, cSorted, onInts, onBls, cAbs, intsOf, blsOf, ints_map, bls_map, Option.bind_some, List.getElem?_cons_zero, List.getElem?_cons_succ, List.set_cons_zero, List.set_cons_succ, List.length_cons, List.length_nil, List.map_cons, List.map_nil, List.replicate_succ, List.replicate_zero, List.nil_append, List.cons_append, List.append_nil, Nat.reduceAdd, Nat.reduceSub, Nat.zero_add, Nat.add_zero, Nat.sub_self, if_true, if_false, ite_true, ite_false, reduceCtorEq, Bool.false_eq_true, true_and, and_true, supd_same, Bool.not_true, Bool.not_false, Bool.not_eq_true, Bool.not_eq_false, Nat.reduceSubDiff, fEq, fNe, fIn, fNotIn, tr_int, tr_bl, tr_str, tr_non, tr_lst, tr_tup, pln_int, pln_bl, pln_str, pln_non, deq_int, cRepr, isi_lt h1, h2, hv]
  refine ⟨by unfold Short; decide, ?_⟩
  refine forD_ind (fun ds ρ S' => S' = S ∧ (∃ o3, ρ = [some d, some (.int n), some (.int o), o3]) ∧ ∃ rs', ds = List.map Rp.d rs' ∧ ∀ r ∈ rs', r.ok n) ?_ ?_ _ _ _ ⟨rfl, ⟨none, rfl⟩, rs, rfl, hr⟩
  · rintro ρ S' ⟨rfl, ⟨o3, rfl⟩, _⟩
    refine ⟨grd_ok hv, ?_⟩
    simp only [dSeq, dNext, dRet, dRetN, dDrop, dIfS, dSet, dBrk, dCont, dNev, dAsg, dAsgS, dPar, dVar, dC, dBin, dChain, dTest, dAnd, dOr, dNot, dAndV, dOrV, dNotV, dIf, dNil, dCons, dTup, dLst, dLstM, dFrz, dCall, dMeth, dMake, dFld, fldK, dSfldN, sfldNew, dSfldO, sfldOld, dCB, dMt, dSl, dNoP, dP, dRev, dNeg, dFor, dLc, dLcM, wipeD, gNameD, gConsD, gNilD, gSeqD, gStarD, iSq, iRg1, iRg2, iEn, iZp, dYes, dDic0, dDic0M, fAdd, fSub, fMul, fMod, fFdv, fPow, fCmp, fIs, fIsNot, fIx, isN, mkL, endX, startD, DO.toD, vq, vl, vx, vi, grd, isLs, mAppend, mPop, mClear, mExtend, onL, sSetL, cList, cTup, cMax2, cMin2, cInt, cSum, cMax, cMin, cAll, cAny, cSorted, onInts, onBls, cAbs, intsOf, blsOf, ints_map, bls_map, Option.bind_some, List.getElem?_cons_zero, List.getElem?_cons_succ, List.set_cons_zero, List.set_cons_succ, List.length_cons, List.length_nil, List.map_cons, List.map_nil, List.replicate_succ, List.replicate_zero, List.nil_append, List.cons_append, List.append_nil, Nat.reduceAdd, Nat.reduceSub, Nat.zero_add, Nat.add_zero, Nat.sub_self, if_true, if_false, ite_true, ite_false, reduceCtorEq, Bool.false_eq_true, true_and, and_true, supd_same, Bool.not_true, Bool.not_false, Bool.not_eq_true, Bool.not_eq_false, Nat.reduceSubDiff, fEq, fNe, fIn, fNotIn, tr_int, tr_bl, tr_str, tr_non, tr_lst, tr_tup, pln_int, pln_bl, pln_str, pln_non, deq_int, cRepr]
    refine cLen_vq hv ?_
    simp only [dSeq, dNext, dRet, dRetN, dDrop, dIfS, dSet, dBrk, dCont, dNev, dAsg, dAsgS, dPar, dVar, dC, dBin, dChain, dTest, dAnd, dOr, dNot, dAndV, dOrV, dNotV, dIf, dNil, dCons, dTup, dLst, dLstM, dFrz, dCall, dMeth, dMake, dFld, fldK, dSfldN, sfldNew, dSfldO, sfldOld, dCB, dMt, dSl, dNoP, dP, dRev, dNeg, dFor, dLc, dLcM, wipeD, gNameD, gConsD, gNilD, gSeqD, gStarD, iSq, iRg1, iRg2, iEn, iZp, dYes, dDic0, dDic0M, fAdd, fSub, fMul, fMod, fFdv, fPow, fCmp, fIs, fIsNot, fIx, isN, mkL, endX, startD, DO.toD, vq, vl, vx, vi, grd, isLs, mAppend, mPop, mClear, mExtend, onL, sSetL, cLen, cList, cTup, cMax2, cMin2, cInt, cSum, cMax, cMin, cAll, cAny, cSorted, onInts, onBls, cAbs, intsOf, blsOf, ints_map, bls_map, Option.bind_some, List.getElem?_cons_zero, List.getElem?_cons_succ, List.set_cons_zero, List.set_cons_succ, List.length_cons, List.length_nil, List.map_cons, List.map_nil, List.replicate_succ, List.replicate_zero, List.nil_append, List.cons_append, List.append_nil, Nat.reduceAdd, Nat.reduceSub, Nat.zero_add, Nat.add_zero, Nat.sub_self, if_true, if_false, ite_true, ite_false, reduceCtorEq, Bool.false_eq_true, true_and, and_true, supd_same, Bool.not_true, Bool.not_false, Bool.not_eq_true, Bool.not_eq_false, Nat.reduceSubDiff, fEq, fNe, fIn, fNotIn, tr_int, tr_bl, tr_str, tr_non, tr_lst, tr_tup, pln_int, pln_bl, pln_str, pln_non, deq_int, cRepr, List.length_map]
    have : decide ((60 : Int) < o + rs.length) = false := by simp; omega
    simp only [this, Bool.false_eq_true, if_false]
    exact out1 hk
  · rintro d' ds ρ S' cont ⟨rfl, ⟨o3, rfl⟩, rs', e, hr'⟩ hc
    refine ⟨grd_ok hv, ?_⟩
    cases rs' with
    | nil => cases e
    | cons r rs' =>
      rw [List.map_cons] at e
      cases e
      simp only [dSeq, dNext, dRet, dRetN, dDrop, dIfS, dSet, dBrk, dCont, dNev, dAsg, dAsgS, dPar, dVar, dC, dBin, dChain, dTest, dAnd, dOr, dNot, dAndV, dOrV, dNotV, dIf, dNil, dCons, dTup, dLst, dLstM, dFrz, dCall, dMeth, dMake, dFld, fldK, dSfldN, sfldNew, dSfldO, sfldOld, dCB, dMt, dSl, dNoP, dP, dRev, dNeg, dFor, dLc, dLcM, wipeD, gNameD, gConsD, gNilD, gSeqD, gStarD, iSq, iRg1, iRg2, iEn, iZp, dYes, dDic0, dDic0M, fAdd, fSub, fMul, fMod, fFdv, fPow, fCmp, fIs, fIsNot, fIx, isN, mkL, endX, startD, DO.toD, vq, vl, vx, vi, grd, isLs, mAppend, mPop, mClear, mExtend, onL, sSetL, cLen, cList, cTup, cMax2, cMin2, cInt, cSum, cMax, cMin, cAll, cAny, cSorted, onInts, onBls, cAbs, intsOf, blsOf, ints_map, bls_map, Option.bind_some, List.getElem?_cons_zero, List.getElem?_cons_succ, List.set_cons_zero, List.set_cons_succ, List.length_cons, List.length_nil, List.map_cons, List.map_nil, List.replicate_succ, List.replicate_zero, List.nil_append, List.cons_append, List.append_nil, Nat.reduceAdd, Nat.reduceSub, Nat.zero_add, Nat.add_zero, Nat.sub_self, if_true, if_false, ite_true, ite_false, reduceCtorEq, Bool.false_eq_true, true_and, and_true, supd_same, Bool.not_true, Bool.not_false, Bool.not_eq_true, Bool.not_eq_false, Nat.reduceSubDiff, fEq, fNe, fIn, fNotIn, tr_int, tr_bl, tr_str, tr_non, tr_lst, tr_tup, pln_int, pln_bl, pln_str, pln_non, deq_int, cRepr]
      refine ⟨r.d, n, rfl, pln_rp, ?_⟩
      simp only [isRp_d (hr' r List.mem_cons_self), dSeq, dNext, dRet, dRetN, dDrop, dIfS, dSet, dBrk, dCont, dNev, dAsg, dAsgS, dPar, dVar, dC, dBin, dChain, dTest, dAnd, dOr, dNot, dAndV, dOrV, dNotV, dIf, dNil, dCons, dTup, dLst, dLstM, dFrz, dCall, dMeth, dMake, dFld, fldK, dSfldN, sfldNew, dSfldO, sfldOld, dCB, dMt, dSl, dNoP, dP, dRev, dNeg, dFor, dLc, dLcM, wipeD, gNameD, gConsD, gNilD, gSeqD, gStarD, iSq, iRg1, iRg2, iEn, iZp, dYes, dDic0, dDic0M, fAdd, fSub, fMul, fMod, fFdv, fPow, fCmp, fIs, fIsNot, fIx, isN, mkL, endX, startD, DO.toD, vq, vl, vx, vi, grd, isLs, mAppend, mPop, mClear, mExtend, onL, sSetL, cLen, cList, cTup, cMax2, cMin2, cInt, cSum, cMax, cMin, cAll, cAny, cSorted, onInts, onBls, cAbs, intsOf, blsOf, ints_map, bls_map, Option.bind_some, List.getElem?_cons_zero, List.getElem?_cons_succ, List.set_cons_zero, List.set_cons_succ, List.length_cons, List.length_nil, List.map_cons, List.map_nil, List.replicate_succ, List.replicate_zero, List.nil_append, List.cons_append, List.append_nil, Nat.reduceAdd, Nat.reduceSub, Nat.zero_add, Nat.add_zero, Nat.sub_self, if_true, if_false, ite_true, ite_false, reduceCtorEq, Bool.false_eq_true, true_and, and_true, supd_same, Bool.not_true, Bool.not_false, Bool.not_eq_true, Bool.not_eq_false, Nat.reduceSubDiff, fEq, fNe, fIn, fNotIn, tr_int, tr_bl, tr_str, tr_non, tr_lst, tr_tup, pln_int, pln_bl, pln_str, pln_non, deq_int, cRepr]
      exact hc _ _ ⟨rfl, ⟨_, rfl⟩, rs', rfl, fun s hs => hr' s (List.mem_cons_of_mem _ hs)⟩

def sp_Rig___init__ (a : Ad) : SpD := fun ds S k _ => ∃ x d n rs, ds = [.adr x, .int n, d] ∧ S x = some (.obj a.Rig [] []) ∧ 1 ≤ n ∧ n ≤ 8 ∧ vq S d = some (List.map Rp.d rs) ∧ (∀ r ∈ rs, r.ok n) ∧ rs.length ≤ 60 ∧
  k .non (supd S x (.obj a.Rig ns_Rig [.int n, .tup (rs.map Rp.d)]))
def t_Rig___init__ (a : Ad) : TSD := (dSeq (dIfS (dNot (dTest (dCall (sp_is_within a) [] (dCons (dVar 1) (dCons (dC (.int 1)) (dCons (dC (.int 8)) dNil)))))) dNev dNext) (dSeq (dDrop (dCall (sp_look_at_ropes a) dfl_look_at_ropes_2 (dCons (dVar 2) (dCons (dVar 1) dNil)))) (dSeq (dSfldN a.Rig [] "own_many" (dVar 0) (dVar 1)) (dSfldN a.Rig ["own_many"] "own_ropes" (dVar 0) (dCB cTup (dCons (dVar 2) dNil))))))
theorem len_Rig___init__ (a : Ad) : ∀ ds S kk ex, sp_Rig___init__ a ds S kk ex → ds.length = 3 := by
  rintro _ S kk ex ⟨x, d, n, rs, rfl, _⟩; rfl
theorem vc_Rig___init__ (a : Ad) : ∀ ds S kk ex F H, sp_Rig___init__ a ds S kk ex → t_Rig___init__ a (wdX ex F H S) (endX kk) (startD 3 ds) S := by
  rintro _ S kk ex F H ⟨x, d, n, rs, rfl, hx, h1, h8, hv, hr, hl, hk⟩
  simp only [t_Rig___init__, dSeq, dNext, dRet, dRetN, dDrop, dIfS, dSet, dBrk, dCont, dNev, dAsg, dAsgS, dPar, dVar, dC, dBin, dChain, dTest, dAnd, dOr, dNot, dAndV, dOrV, dNotV, dIf, dNil, dCons, dTup, dLst, dLstM, dFrz, dCall, dMeth, dMake, dFld, fldK, dSfldN, sfldNew, dSfldO, sfldOld, dCB, dMt, dSl, dNoP, dP, dRev, dNeg, dFor, dLc, dLcM, wipeD, gNameD, gConsD, gNilD, gSeqD, gStarD, iSq, iRg1, iRg2, iEn, iZp, dYes, dDic0, dDic0M, fAdd, fSub, fMul, fMod, fFdv, fPow, fCmp, fIs, fIsNot, fIx, isN, mkL, endX, startD, DO.toD, vx, vi, grd, isLs, mAppend, mPop, mClear, mExtend, onL, sSetL, cLen, cList, cMax2, cMin2, cInt, cSum, cMax, cMin, cAll, cAny, cSorted, onInts, onBls, cAbs, intsOf, blsOf, ints_map, bls_map, Option.bind_some, List.getElem?_cons_zero, List.getElem?_cons_succ, List.set_cons_zero, List.set_cons_succ, List.length_cons, List.length_nil, List.map_cons, List.map_nil, List.replicate_succ, List.replicate_zero, List.nil_append, List.cons_append, List.append_nil, Nat.reduceAdd, Nat.reduceSub, Nat.zero_add, Nat.add_zero, Nat.sub_self, if_true, if_false, ite_true, ite_false, reduceCtorEq, Bool.false_eq_true, true_and, and_true, supd_same, Bool.not_true, Bool.not_false, Bool.not_eq_true, Bool.not_eq_false, Nat.reduceSubDiff, fEq, fNe, fIn, fNotIn, tr_int, tr_bl, tr_str, tr_non, tr_lst, tr_tup, pln_int, pln_bl, pln_str, pln_non, deq_int, cRepr]
  refine ⟨_, _, _, rfl, rfl, ?_⟩
  have e : within 1 8 (.int n) = true := decide_eq_true ⟨h1, h8⟩
  simp only [e, dSeq, dNext, dRet, dRetN, dDrop, dIfS, dSet, dBrk, dCont, dNev, dAsg, dAsgS, dPar, dVar, dC, dBin, dChain, dTest, dAnd, dOr, dNot, dAndV, dOrV, dNotV, dIf, dNil, dCons, dTup, dLst, dLstM, dFrz, dCall, dMeth, dMake, dFld, fldK, dSfldN, sfldNew, dSfldO, sfldOld, dCB, dMt, dSl, dNoP, dP, dRev, dNeg, dFor, dLc, dLcM, wipeD, gNameD, gConsD, gNilD, gSeqD, gStarD, iSq, iRg1, iRg2, iEn, iZp, dYes, dDic0, dDic0M, fAdd, fSub, fMul, fMod, fFdv, fPow, fCmp, fIs, fIsNot, fIx, isN, mkL, endX, startD, DO.toD, vx, vi, grd, isLs, mAppend, mPop, mClear, mExtend, onL, sSetL, cLen, cList, cMax2, cMin2, cInt, cSum, cMax, cMin, cAll, cAny, cSorted, onInts, onBls, cAbs, intsOf, blsOf, ints_map, bls_map, Option.bind_some, List.getElem?_cons_zero, List.getElem?_cons_succ, List.set_cons_zero, List.set_cons_succ, List.length_cons, List.length_nil, List.map_cons, List.map_nil, List.replicate_succ, List.replicate_zero, List.nil_append, List.cons_append, List.append_nil, Nat.reduceAdd, Nat.reduceSub, Nat.zero_add, Nat.add_zero, Nat.sub_self, if_true, if_false, ite_true, ite_false, reduceCtorEq, Bool.false_eq_true, true_and, and_true, supd_same, Bool.not_true, Bool.not_false, Bool.not_eq_true, Bool.not_eq_false, Nat.reduceSubDiff, fEq, fNe, fIn, fNotIn, tr_int, tr_bl, tr_str, tr_non, tr_lst, tr_tup, pln_int, pln_bl, pln_str, pln_non, deq_int, cRepr]
  refine ⟨d, n, 0, rs, rfl, hv, hr, by omega, ?_⟩
  simp only [hx, dSeq, dNext, dRet, dRetN, dDrop, dIfS, dSet, dBrk, dCont, dNev, dAsg, dAsgS, dPar, dVar, dC, dBin, dChain, dTest, dAnd, dOr, dNot, dAndV, dOrV, dNotV, dIf, dNil, dCons, dTup, dLst, dLstM, dFrz, dCall, dMeth, dMake, dFld, fldK, dSfldN, sfldNew, dSfldO, sfldOld, dCB, dMt, dSl, dNoP, dP, dRev, dNeg, dFor, dLc, dLcM, wipeD, gNameD, gConsD, gNilD, gSeqD, gStarD, iSq, iRg1, iRg2, iEn, iZp, dYes, dDic0, dDic0M, fAdd, fSub, fMul, fMod, fFdv, fPow, fCmp, fIs, fIsNot, fIx, isN, mkL, endX, startD, DO.toD, vx, vi, grd, isLs, mAppend, mPop, mClear, mExtend, onL, sSetL, cLen, cList, cMax2, cMin2, cInt, cSum, cMax, cMin, cAll, cAny, cSorted, onInts, onBls, cAbs, intsOf, blsOf, ints_map, bls_map, Option.bind_some, List.getElem?_cons_zero, List.getElem?_cons_succ, List.set_cons_zero, List.set_cons_succ, List.length_cons, List.length_nil, List.map_cons, List.map_nil, List.replicate_succ, List.replicate_zero, List.nil_append, List.cons_append, List.append_nil, Nat.reduceAdd, Nat.reduceSub, Nat.zero_add, Nat.add_zero, Nat.sub_self, if_true, if_false, ite_true, ite_false, reduceCtorEq, Bool.false_eq_true, true_and, and_true, supd_same, Bool.not_true, Bool.not_false, Bool.not_eq_true, Bool.not_eq_false, Nat.reduceSubDiff, fEq, fNe, fIn, fNotIn, tr_int, tr_bl, tr_str, tr_non, tr_lst, tr_tup, pln_int, pln_bl, pln_str, pln_non, deq_int, cRepr]
  refine cTup_vq (vq_supd hv hx fun ys => by simp) ?_
  simp only [dSeq, dNext, dRet, dRetN, dDrop, dIfS, dSet, dBrk, dCont, dNev, dAsg, dAsgS, dPar, dVar, dC, dBin, dChain, dTest, dAnd, dOr, dNot, dAndV, dOrV, dNotV, dIf, dNil, dCons, dTup, dLst, dLstM, dFrz, dCall, dMeth, dMake, dFld, fldK, dSfldN, sfldNew, dSfldO, sfldOld, dCB, dMt, dSl, dNoP, dP, dRev, dNeg, dFor, dLc, dLcM, wipeD, gNameD, gConsD, gNilD, gSeqD, gStarD, iSq, iRg1, iRg2, iEn, iZp, dYes, dDic0, dDic0M, fAdd, fSub, fMul, fMod, fFdv, fPow, fCmp, fIs, fIsNot, fIx, isN, mkL, endX, startD, DO.toD, vq, vl, vx, vi, grd, isLs, mAppend, mPop, mClear, mExtend, onL, sSetL, cLen, cList, cTup, cMax2, cMin2, cInt, cSum, cMax, cMin, cAll, cAny, cSorted, onInts, onBls, cAbs, intsOf, blsOf, ints_map, bls_map, Option.bind_some, List.getElem?_cons_zero, List.getElem?_cons_succ, List.set_cons_zero, List.set_cons_succ, List.length_cons, List.length_nil, List.map_cons, List.map_nil, List.replicate_succ, List.replicate_zero, List.nil_append, List.cons_append, List.append_nil, Nat.reduceAdd, Nat.reduceSub, Nat.zero_add, Nat.add_zero, Nat.sub_self, if_true, if_false, ite_true, ite_false, reduceCtorEq, Bool.false_eq_true, true_and, and_true, supd_same, Bool.not_true, Bool.not_false, Bool.not_eq_true, Bool.not_eq_false, Nat.reduceSubDiff, fEq, fNe, fIn, fNotIn, tr_int, tr_bl, tr_str, tr_non, tr_lst, tr_tup, pln_int, pln_bl, pln_str, pln_non, deq_int, cRepr, supd_supd]
  exact out1 hk


def sp_Rig_ropes (a : Ad) : SpD := fun ds S k _ => ∃ n rs, ds = [rigD a n rs] ∧ k (.lst (rs.map Rp.d)) S
def t_Rig_ropes (a : Ad) : TSD := (dRet (dCB (cList false) (dCons (dFld a.Rig ns_Rig 1 (dVar 0)) dNil)))
theorem len_Rig_ropes (a : Ad) : ∀ ds S kk ex, sp_Rig_ropes a ds S kk ex → ds.length = 1 := by
  rintro _ S kk ex ⟨n, rs, rfl, _⟩; rfl
theorem vc_Rig_ropes (a : Ad) : ∀ ds S kk ex F H, sp_Rig_ropes a ds S kk ex → t_Rig_ropes a (wdX ex F H S) (endX kk) (startD 1 ds) S := by
  rintro _ S kk ex F H ⟨n, rs, rfl, hk⟩
  simp only [t_Rig_ropes, rigD, dSeq, dNext, dRet, dRetN, dDrop, dIfS, dSet, dBrk, dCont, dNev, dAsg, dAsgS, dPar, dVar, dC, dBin, dChain, dTest, dAnd, dOr, dNot, dAndV, dOrV, dNotV, dIf, dNil, dCons, dTup, dLst, dLstM, dFrz, dCall, dMeth, dMake, dFld, fldK, dSfldN, sfldNew, dSfldO, sfldOld, dCB, dMt, dSl, dNoP, dP, dRev, dNeg, dFor, dLc, dLcM, wipeD, gNameD, gConsD, gNilD, gSeqD, gStarD, iSq, iRg1, iRg2, iEn, iZp, dYes, dDic0, dDic0M, fAdd, fSub, fMul, fMod, fFdv, fPow, fCmp, fIs, fIsNot, fIx, isN, mkL, endX, startD, DO.toD, vq, vl, vx, vi, grd, isLs, mAppend, mPop, mClear, mExtend, onL, sSetL, cLen, cList, cTup, cMax2, cMin2, cInt, cSum, cMax, cMin, cAll, cAny, cSorted, onInts, onBls, cAbs, intsOf, blsOf, ints_map, bls_map, Option.bind_some, List.getElem?_cons_zero, List.getElem?_cons_succ, List.set_cons_zero, List.set_cons_succ, List.length_cons, List.length_nil, List.map_cons, List.map_nil, List.replicate_succ, List.replicate_zero, List.nil_append, List.cons_append, List.append_nil, Nat.reduceAdd, Nat.reduceSub, Nat.zero_add, Nat.add_zero, Nat.sub_self, if_true, if_false, ite_true, ite_false, reduceCtorEq, Bool.false_eq_true, true_and, and_true, supd_same, Bool.not_true, Bool.not_false, Bool.not_eq_true, Bool.not_eq_false, Nat.reduceSubDiff, fEq, fNe, fIn, fNotIn, tr_int, tr_bl, tr_str, tr_non, tr_lst, tr_tup, pln_int, pln_bl, pln_str, pln_non, deq_int, cRepr]
  exact out1 hk

end Z

set_option Elab.async false
set_option linter.all false
set_option maxRecDepth 100000
set_option maxHeartbeats 4000000
namespace Z
open PySem PySem.Spec PyProof.Rows L2

/-! ### chains of ropes by their numbers, least sums: plain law -/
def walk (rs : List Rp) : Int → List Nat → Int → Prop
  | u, [], v => u = v
  | u, n :: c, v => ∃ r, rs[n]? = some r ∧ r.up = u ∧ walk rs r.lo c v
def upN (rs : List Rp) (n : Nat) : Int := match rs[n]? with | some r => r.up | none => 0
def loN (rs : List Rp) (n : Nat) : Int := match rs[n]? with | some r => r.lo | none => 0
def moN (rs : List Rp) (n : Nat) : Int := match rs[n]? with | some r => r.mo | none => 0
def wsum (rs : List Rp) (c : List Nat) : Int := (c.map (moN rs)).sum
theorem upN_eq {rs : List Rp} {n : Nat} {r : Rp} (h : rs[n]? = some r) : upN rs n = r.up := by unfold upN; rw [h]
theorem loN_eq {rs : List Rp} {n : Nat} {r : Rp} (h : rs[n]? = some r) : loN rs n = r.lo := by unfold loN; rw [h]
theorem moN_eq {rs : List Rp} {n : Nat} {r : Rp} (h : rs[n]? = some r) : moN rs n = r.mo := by unfold moN; rw [h]
theorem wsum_cons {rs : List Rp} {n : Nat} {c : List Nat} : wsum rs (n :: c) = moN rs n + wsum rs c := by unfold wsum; rw [List.map_cons, List.sum_cons]
theorem wsum_append {rs : List Rp} {c e : List Nat} : wsum rs (c ++ e) = wsum rs c + wsum rs e := by unfold wsum; rw [List.map_append, List.sum_append]
theorem walk_append {rs : List Rp} : ∀ {c e : List Nat} {u v : Int}, walk rs u (c ++ e) v ↔ ∃ w, walk rs u c w ∧ walk rs w e v
  | [], e, u, v => ⟨fun h => ⟨u, rfl, h⟩, fun ⟨w, h1, h2⟩ => by cases h1; exact h2⟩
  | n :: c, e, u, v => by
    constructor
    · rintro ⟨r, h1, h2, h3⟩
      obtain ⟨w, h4, h5⟩ := walk_append.mp h3
      exact ⟨w, ⟨r, h1, h2, h4⟩, h5⟩
    · rintro ⟨w, ⟨r, h1, h2, h4⟩, h5⟩
      exact ⟨r, h1, h2, walk_append.mpr ⟨w, h4, h5⟩⟩
theorem walk_fun {rs : List Rp} : ∀ {c : List Nat} {u v w : Int}, walk rs u c v → walk rs u c w → v = w
  | [], u, v, w, h1, h2 => by cases h1; exact h2
  | n :: c, u, v, w, ⟨r, a1, a2, a3⟩, ⟨s, b1, b2, b3⟩ => by
    rw [a1] at b1; cases b1
    exact walk_fun a3 b3
def kno (n : Nat) (v : Int) : Prop := 0 ≤ v ∧ v ≤ n
theorem walk_kno {rs : List Rp} {n : Nat} (hr : ∀ r ∈ rs, r.ok n) : ∀ {c : List Nat} {u v : Int}, kno n u → walk rs u c v → kno n v
  | [], u, v, h, e => by cases e; exact h
  | m :: c, u, v, h, ⟨r, h1, h2, h3⟩ => by
    have := hr r (List.mem_of_getElem? h1)
    exact walk_kno hr ⟨this.2.2.1, this.2.2.2.1⟩ h3
theorem walk_kno' {rs : List Rp} {n : Nat} (hr : ∀ r ∈ rs, r.ok n) {c : List Nat} {u v : Int} (h : kno n v) (e : walk rs u c v) : kno n u := by
  cases c with
  | nil => cases e; exact h
  | cons m c =>
    obtain ⟨r, h1, h2, h3⟩ := e
    have := hr r (List.mem_of_getElem? h1)
    subst h2
    exact ⟨this.1, this.2.1⟩
theorem walk_lt {rs : List Rp} : ∀ {c : List Nat} {u v : Int}, walk rs u c v → ∀ m ∈ c, m < rs.length
  | [], u, v, _, m, h => by cases h
  | k :: c, u, v, ⟨r, h1, h2, h3⟩, m, h => by
    rcases List.mem_cons.mp h with rfl | h
    · exact (List.getElem?_eq_some_iff.mp h1).1
    · exact walk_lt h3 m h
/-! pigeons -/
theorem nodup_sub {α : Type} [BEq α] [LawfulBEq α] : ∀ {xs ys : List α}, xs.Nodup → (∀ x ∈ xs, x ∈ ys) → xs.length ≤ ys.length
  | [], ys, _, _ => Nat.zero_le _
  | x :: xs, ys, h, s => by
    have hx : x ∈ ys := s x List.mem_cons_self
    have hn := List.nodup_cons.mp h
    have := nodup_sub (xs := xs) (ys := ys.erase x) hn.2 fun y hy => (List.mem_erase_of_ne (fun e => hn.1 (by rw [← e]; exact hy))).mpr (s y (List.mem_cons_of_mem _ hy))
    rw [List.length_erase_of_mem hx] at this
    have : 0 < ys.length := List.length_pos_of_mem hx
    rw [List.length_cons]; omega
theorem nodup_kno {n : Nat} {xs : List Int} (h : xs.Nodup) (s : ∀ x ∈ xs, kno n x) : xs.length ≤ n + 1 := by
  have := nodup_sub (ys := (List.range (n + 1)).map Int.ofNat) h fun x hx => by
    obtain ⟨h0, h1⟩ := s x hx
    exact List.mem_map.mpr ⟨x.toNat, List.mem_range.mpr (by omega), by simp only [Int.ofNat_eq_natCast]; omega⟩
  simpa using this
/-! rings cut out -/
def begs (rs : List Rp) (path : List Nat) (x : Int) : List Nat := ((path.zipIdx 0).filter fun p => upN rs p.1 == x).map (·.2)
theorem begs_nil {rs : List Rp} {path : List Nat} {x : Int} (h : begs rs path x = []) : ∀ m ∈ path, upN rs m ≠ x := by
  intro m hm e
  unfold begs at h
  rw [List.map_eq_nil_iff, List.filter_eq_nil_iff] at h
  obtain ⟨i, hi, e2⟩ := List.getElem_of_mem hm
  exact h (m, i) (List.mk_mem_zipIdx_iff_getElem?.mpr (by rw [List.getElem?_eq_getElem hi, e2])) (by simpa using e)
theorem begs_go {rs : List Rp} {x : Int} : ∀ (path : List Nat) (k b : Nat) (bs : List Nat), ((path.zipIdx k).filter fun p => upN rs p.1 == x).map (·.2) = b :: bs → k ≤ b ∧ ∃ p1 m p2, path = p1 ++ m :: p2 ∧ p1.length = b - k ∧ upN rs m = x ∧ ∀ q ∈ p1, upN rs q ≠ x
  | [], k, b, bs, h => by simp at h
  | q :: path, k, b, bs, h => by
    rw [List.zipIdx_cons, List.filter_cons] at h
    by_cases hq : upN rs q = x
    · rw [if_pos (by simpa using hq)] at h
      rw [List.map_cons] at h
      injection h with h1 h2
      dsimp only at h1
      subst h1
      exact ⟨Nat.le_refl _, [], q, path, rfl, by simp, hq, by simp⟩
    · rw [if_neg (by simpa using hq)] at h
      obtain ⟨h1, p1, m, p2, h2, h3, h4, h5⟩ := begs_go path (k + 1) b bs h
      refine ⟨by omega, q :: p1, m, p2, by rw [h2]; rfl, by rw [List.length_cons]; omega, h4, fun z hz => ?_⟩
      rcases List.mem_cons.mp hz with rfl | hz
      · exact hq
      · exact h5 z hz
theorem begs_cons {rs : List Rp} {path : List Nat} {x : Int} {b : Nat} {bs : List Nat} (h : begs rs path x = b :: bs) : b < path.length ∧ ∃ m p2, path = path.take b ++ m :: p2 ∧ path.drop b = m :: p2 ∧ upN rs m = x ∧ ∀ q ∈ path.take b, upN rs q ≠ x := by
  obtain ⟨_, p1, m, p2, h2, h3, h4, h5⟩ := begs_go path 0 b bs h
  rw [Nat.sub_zero] at h3
  have e1 : path.take b = p1 := by rw [h2, ← h3, List.take_left]
  have e2 : path.drop b = m :: p2 := by rw [h2, ← h3, List.drop_left]
  refine ⟨by rw [h2, List.length_append, List.length_cons]; omega, m, p2, by rw [e1]; exact h2, e2, h4, by rw [e1]; exact h5⟩
def ringGo (rs : List Rp) : List Nat → List Nat → Option (List Nat)
  | _, [] => none
  | path, n :: c => match begs rs (path ++ [n]) (loN rs n) with
    | [] => ringGo rs (path ++ [n]) c
    | b :: _ => if wsum rs ((path ++ [n]).drop b) < 0 then some ((path ++ [n]).drop b) else ringGo rs ((path ++ [n]).take b) c
/-- a closed chain below nought -/
def negR (rs : List Rp) (c : List Nat) : Prop := c ≠ [] ∧ wsum rs c < 0 ∧ ∃ x, walk rs x c x
theorem walk_at {rs : List Rp} {u v : Int} {m : Nat} {c : List Nat} (h : walk rs u (m :: c) v) : upN rs m = u := by
  obtain ⟨r, h1, h2, _⟩ := h
  rw [upN_eq h1]; exact h2
theorem walk_snoc {rs : List Rp} {u v : Int} {p : List Nat} {n : Nat} {r : Rp} (h : walk rs u p v) (hr : rs[n]? = some r) (hv : r.up = v) : walk rs u (p ++ [n]) r.lo :=
  walk_append.mpr ⟨v, h, r, hr, hv, rfl⟩
theorem ringGo_some {rs : List Rp} {ring : List Nat} : ∀ {c path : List Nat} {u x w : Int}, walk rs u path x → walk rs x c w → ringGo rs path c = some ring → negR rs ring ∧ ∀ m ∈ ring, m < rs.length
  | [], path, u, x, w, _, _, h => by cases h
  | n :: c, path, u, x, w, hp, ⟨r, h1, h2, h3⟩, h => by
    unfold ringGo at h
    have hp' : walk rs u (path ++ [n]) r.lo := walk_snoc hp h1 h2
    rw [loN_eq h1] at h
    split at h
    · exact ringGo_some hp' h3 h
    · rename_i b bs hb
      obtain ⟨_, m, p2, e1, e2, e3, e4⟩ := begs_cons hb
      rw [e1] at hp'
      obtain ⟨y, w1, w2⟩ := walk_append.mp hp'
      have hy : y = r.lo := (walk_at w2).symm.trans e3
      subst hy
      split at h
      · rename_i hneg
        cases h
        rw [e2] at hneg ⊢
        exact ⟨⟨by simp, hneg, r.lo, w2⟩, walk_lt w2⟩
      · exact ringGo_some w1 h3 h
theorem ringGo_none {rs : List Rp} : ∀ {c path : List Nat} {u x w : Int}, walk rs u path x → (path.map (upN rs) ++ [x]).Nodup → walk rs x c w → ringGo rs path c = none →
    ∃ p, walk rs u p w ∧ (p.map (upN rs) ++ [w]).Nodup ∧ wsum rs p ≤ wsum rs path + wsum rs c
  | [], path, u, x, w, hp, hn, hc, h => by cases hc; exact ⟨path, hp, hn, by unfold wsum; simp⟩
  | n :: c, path, u, x, w, hp, hn, ⟨r, h1, h2, h3⟩, h => by
    unfold ringGo at h
    have hp' : walk rs u (path ++ [n]) r.lo := walk_snoc hp h1 h2
    rw [loN_eq h1] at h
    have hs : wsum rs (path ++ [n]) + wsum rs c = wsum rs path + wsum rs (n :: c) := by rw [wsum_append, wsum_cons, wsum_cons]; unfold wsum; simp; omega
    have hn' : ((path ++ [n]).map (upN rs)).Nodup := by rw [List.map_append, List.map_cons, List.map_nil, upN_eq h1, h2]; exact hn
    split at h
    · rename_i hb
      have := begs_nil hb
      obtain ⟨p, p1, p2, p3⟩ := ringGo_none hp' (List.nodup_append.mpr ⟨hn', by simp, fun a ha b hb e => by
        rw [List.mem_singleton] at hb
        obtain ⟨m, hm, rfl⟩ := List.mem_map.mp ha
        exact this m hm (e.trans hb)⟩) h3 h
      exact ⟨p, p1, p2, by rw [← hs]; exact p3⟩
    · rename_i b bs hb
      obtain ⟨_, m, p2, e1, e2, e3, e4⟩ := begs_cons hb
      rw [e1] at hp'
      obtain ⟨y, w1, w2⟩ := walk_append.mp hp'
      have hy : y = r.lo := (walk_at w2).symm.trans e3
      subst hy
      split at h
      · cases h
      · rename_i hneg
        obtain ⟨p, q1, q2, q3⟩ := ringGo_none w1 (List.nodup_append.mpr ⟨(by rw [e1, List.map_append] at hn'; exact (List.nodup_append.mp hn').1), by simp, fun a ha b hb e => by
          rw [List.mem_singleton] at hb
          obtain ⟨q, hq, rfl⟩ := List.mem_map.mp ha
          exact e4 q hq (e.trans hb)⟩) h3 h
        refine ⟨p, q1, q2, ?_⟩
        have : wsum rs (path ++ [n]) = wsum rs ((path ++ [n]).take b) + wsum rs ((path ++ [n]).drop b) := by rw [← wsum_append, List.take_append_drop]
        omega
/-- no closed chain is below nought -/
def NoNeg (rs : List Rp) : Prop := ∀ c, ¬ negR rs c
/-- a chain without a ring, or a ring -/
theorem short_or {rs : List Rp} {n : Nat} (hr : ∀ r ∈ rs, r.ok n) {c : List Nat} {u w : Int} (hw : kno n w) (h : walk rs u c w) :
    (∃ ring, ringGo rs [] c = some ring ∧ negR rs ring ∧ ∀ m ∈ ring, m < rs.length) ∨ ∃ p, walk rs u p w ∧ p.length ≤ n ∧ wsum rs p ≤ wsum rs c := by
  cases e : ringGo rs [] c with
  | some ring => exact .inl ⟨ring, rfl, ringGo_some (path := []) rfl h e⟩
  | none =>
    obtain ⟨p, h1, h2, h3⟩ := ringGo_none (path := []) rfl (by simp) h e
    refine .inr ⟨p, h1, ?_, by unfold wsum at h3 ⊢; simpa using h3⟩
    have := nodup_kno h2 fun x hx => by
      rcases List.mem_append.mp hx with hx | hx
      · obtain ⟨m, hm, rfl⟩ := List.mem_map.mp hx
        have hl := walk_lt h1 m hm
        have := hr rs[m] (List.getElem_mem hl)
        rw [upN_eq (List.getElem?_eq_getElem hl)]
        exact ⟨this.1, this.2.1⟩
      · rw [List.mem_singleton] at hx; subst hx; exact hw
    simpa using this
theorem short_of {rs : List Rp} {n : Nat} (hr : ∀ r ∈ rs, r.ok n) (hN : NoNeg rs) {c : List Nat} {u w : Int} (hw : kno n w) (h : walk rs u c w) :
    ∃ p, walk rs u p w ∧ p.length ≤ n ∧ wsum rs p ≤ wsum rs c := by
  rcases short_or hr hw h with ⟨ring, _, h1, _⟩ | h
  · exact absurd h1 (hN ring)
  · exact h
/-- heights that let all ropes -/
def letF (rs : List Rp) (f : Int → Int) : Prop := ∀ r ∈ rs, f r.up - f r.lo ≤ r.mo
theorem letF_walk {rs : List Rp} {f : Int → Int} (h : letF rs f) : ∀ {c : List Nat} {u v : Int}, walk rs u c v → f u - f v ≤ wsum rs c
  | [], u, v, e => by cases e; unfold wsum; simp
  | n :: c, u, v, ⟨r, h1, h2, h3⟩ => by
    have a1 := letF_walk h h3
    have a2 := h r (List.mem_of_getElem? h1)
    rw [wsum_cons, moN_eq h1]
    subst h2
    omega
theorem letF_noNeg {rs : List Rp} {f : Int → Int} (h : letF rs f) : NoNeg rs := by
  rintro c ⟨_, h1, x, h2⟩
  have := letF_walk h h2
  omega
end Z


set_option Elab.async false
set_option synthInstance.maxHeartbeats 2000000
set_option synthInstance.maxSize 2048
set_option linter.all false
set_option maxRecDepth 100000
set_option maxHeartbeats 4000000
namespace Z
open PySem PySem.Spec PyProof.Rows L2
local macro_rules | `(tactic| tm_at "o") => `(tactic| first | (with_reducible assumption) | omega | exact cm1 (by omega) (by omega) | exact cm2 (by omega) (by omega) | (simp only [List.length_map, List.length_append, List.length_cons, List.length_nil, sizeLine_eq, irange_length, enumI_length, List.length_zip, List.length_reverse]; omega) | decide | (simp; done) | (simp only [List.length_map, List.length_append, List.length_cons, List.length_nil, sizeLine_eq, irange_length, enumI_length, List.length_zip, List.length_reverse] at *; omega) | exact ⟨by tm_at "o", by tm_at "o"⟩)
local macro_rules | `(tactic| tm_at "s") => `(tactic| repeat refine stp ?_)
local macro_rules | `(tactic| tm_at "z") => `(tactic| repeat (first | refine stp ?_ | (refine And.intro (by tm_at "o") ?_) | refine ifT (by decide) ?_ | refine ifF (by decide) ?_))


/-- a rope lets heights -/
def let1 (hs : List Int) (r : Rp) : Prop := gi (0 :: hs) r.up - gi (0 :: hs) r.lo ≤ r.mo
instance {u l m : Int} : En (.tup [.int u, .int l, .int m]) Rp.d ⟨u, l, m⟩ := ⟨rfl⟩
instance {r : Rp} : En r.d Rp.d r := ⟨rfl⟩
instance : Pn Rp.d := ⟨fun x => pln_mono (show 1 ≤ 50 by decide) pln_rp, fun x y => by rw [deq_rp]; simp⟩
instance : Inhabited Rp := ⟨⟨0, 0, 0⟩⟩

/-! ### plain data of any kind -/
class Pd (n : Nat) (d : D) : Prop where
  h : pln n d
class Ok (d : D) : Prop where
  h : okT d
class Ty (S : Sto) (d : D) : Prop where
  h : (tyN S d).isSome = true
class PdA (n : Nat) (ds : List D) : Prop where
  h : ∀ x ∈ ds, pln n x
instance {n : Nat} {i : Int} : Pd n (.int i) := ⟨by rw [pln_int]; trivial⟩
instance {n : Nat} {i : Bool} : Pd n (.bl i) := ⟨by rw [pln_bl]; trivial⟩
instance {n : Nat} {i : Str} : Pd n (.str i) := ⟨by rw [pln_str]; trivial⟩
instance {n : Nat} : Pd n .non := ⟨by rw [pln_non]; trivial⟩
instance {n : Nat} : PdA n [] := ⟨by simp⟩
instance {n : Nat} {d : D} {ds : List D} [a : Pd n d] [b : PdA n ds] : PdA n (d :: ds) := ⟨by
  intro x hx
  rcases List.mem_cons.mp hx with rfl | hx
  · exact a.h
  · exact b.h x hx⟩
instance {n : Nat} {ds es : List D} [a : PdA n ds] [b : PdA n es] : PdA n (ds ++ es) := ⟨by
  intro x hx
  rcases List.mem_append.mp hx with hx | hx
  · exact a.h x hx
  · exact b.h x hx⟩
instance {n : Nat} {ds : List D} [a : PdA n ds] : PdA n ds.reverse := ⟨by
  intro x hx
  exact a.h x (List.mem_reverse.mp hx)⟩
instance {n : Nat} {ds : List D} {lo hi : Option Int} [a : PdA n ds] : PdA n (cutD ds lo hi) := ⟨by
  intro x hx
  unfold cutD at hx
  exact a.h x (List.mem_of_mem_drop (List.mem_of_mem_take hx))⟩
class PnK {α : Type} (n : Nat) (enc : α → D) : Prop where
  p : ∀ x, pln n (enc x)
instance {n : Nat} : PnK n D.int := ⟨fun x => by rw [pln_int]; trivial⟩
instance {n : Nat} : PnK n D.bl := ⟨fun x => by rw [pln_bl]; trivial⟩
instance {n : Nat} : PnK (n + 1) encL := ⟨fun x => pln_ints x⟩
instance {n : Nat} : PnK (n + 1) Rp.d := ⟨fun x => pln_rp⟩
instance {n : Nat} {α : Type} {enc : α → D} {xs : List α} [a : PnK n enc] : PdA n (xs.map enc) := ⟨by
  intro x hx
  rw [List.mem_map] at hx
  obtain ⟨y, _, rfl⟩ := hx
  exact a.p y⟩
instance {n : Nat} {ds : List D} [a : PdA n ds] : Pd (n + 1) (.lst ds) := ⟨by rw [pln_lst]; exact a.h⟩
instance {n : Nat} {ds : List D} [a : PdA n ds] : Pd (n + 1) (.tup ds) := ⟨by rw [pln_tup]; exact a.h⟩
instance {n : Nat} {hs : List Int} : Pd (n + 1) (encL hs) := ⟨pln_ints hs⟩
instance {n : Nat} {r : Rp} : Pd (n + 1) r.d := ⟨pln_rp⟩
instance okPd {d : D} [h : Pd 60 d] : Ok d := ⟨.inl h.h⟩
instance : Ok (.dic [] []) := ⟨.inr rfl⟩
instance tyOk {S : Sto} {d : D} [h : Ok d] : Ty S d := ⟨okT_ty h.h⟩
instance {S : Sto} {p : Addr} {xs : List D} [h : Sv S p (.lst xs)] : Ty S (.adr p) := ⟨by unfold tyN; dsimp only; rw [h.h]; rfl⟩
theorem Pd.mem {n : Nat} {xs : List D} (h : Pd (n + 1) (.lst xs)) {x : D} (hx : x ∈ xs) : Pd n x := ⟨by have := h.h; rw [pln_lst] at this; exact this x hx⟩
theorem Pd.memT {n : Nat} {xs : List D} (h : Pd (n + 1) (.tup xs)) {x : D} (hx : x ∈ xs) : Pd n x := ⟨by have := h.h; rw [pln_tup] at this; exact this x hx⟩
theorem Pd.up {m n : Nat} {d : D} (h : Pd m d) (e : m ≤ n) : Pd n d := ⟨pln_mono e h.h⟩
theorem Ok.lst {xs : List D} (h : Ok (.lst xs)) : Pd 60 (.lst xs) := ⟨h.h.resolve_right (by simp [isE])⟩
theorem Ok.tup {xs : List D} (h : Ok (.tup xs)) : Pd 60 (.tup xs) := ⟨h.h.resolve_right (by simp [isE])⟩
theorem Ok.adr {p : Addr} (h : Ok (.adr p)) : False := by
  rcases h.h with h | h
  · unfold pln at h; exact h
  · cases h
theorem Ok.frl {xs : List D} (h : Ok (.frl xs)) : False := by
  rcases h.h with h | h
  · unfold pln at h; exact h
  · cases h
def isL : D → Bool
  | .lst _ => true
  | _ => false
theorem isLst_ok {S : Sto} {d : D} (h : Ok d) : isLst S d = isL d := by
  cases d with
  | adr p => exact h.adr.elim
  | frl xs => exact h.frl.elim
  | _ => rfl
section
variable {S : Sto} {d : D} {k : KD} {ex : XD} {l m : Int} {a : Ad} {xs : List D} {p : Addr}
instance [h : Ty S d] : Stp (cIsi [d, .ty "int"] S k) (k (.bl (isInt d || isBl d)) S) := ⟨(isi_int h.h).mpr⟩
instance [h : Ty S d] : Stp (cIsi [d, .ty "bool"] S k) (k (.bl (isBl d)) S) := ⟨(isi_bool h.h).mpr⟩
instance [h : Ty S d] : Stp (cIsi [d, .ty "tuple"] S k) (k (.bl (isTup d)) S) := ⟨(isi_tup h.h).mpr⟩
instance [h : Ty S d] : Stp (cIsi [d, .ty "str"] S k) (k (.bl (isStr d)) S) := ⟨(isi_str h.h).mpr⟩
instance [h : Ok d] : Stp (cIsi [d, .ty "list"] S k) (k (.bl (isL d)) S) := ⟨fun q => (isi_list (okT_ty h.h)).mpr (by rw [isLst_ok h]; exact q)⟩
instance (priority := high) [h : Sv S p (.lst xs)] : Stp (cIsi [.adr p, .ty "list"] S k) (k (.bl true) S) := ⟨fun q => (isi_list (Ty.h)).mpr (by unfold isLst vl; dsimp only; rw [h.h]; exact q)⟩
instance [h : Ok d] : Stp (cIsi [d, .tup [.ty "list", .ty "tuple"]] S k) (k (.bl (isL d || isTup d)) S) := ⟨fun q => (isi_lt (okT_ty h.h)).mpr (by rw [isLst_ok h]; exact q)⟩
instance [h : Ty S d] : Stp (sp_is_whole a [d] S k ex) (k (.bl (isInt d)) S) := ⟨fun q => ⟨d, rfl, h.h, q⟩⟩
instance [h : Ty S d] : Stp (sp_is_within a [d, .int l, .int m] S k ex) (k (.bl (within l m d)) S) := ⟨fun q => ⟨d, l, m, rfl, h.h, q⟩⟩
instance {n : Int} [h : Pd 60 d] : Stp (sp_is_rope a [d, .int n] S k ex) (k (.bl (isRp n d)) S) := ⟨fun q => ⟨d, n, rfl, h.h, q⟩⟩
instance {n : Int} {rs : List Rp} : Stp (sp_Rig_ropes a [rigD a n rs] S k ex) (k (.lst (rs.map Rp.d)) S) := ⟨fun q => ⟨n, rs, rfl, q⟩⟩
end
instance {x : Addr} {ds : List D} {rs : List Rp} {n : Int} {S : Sto} {k : KD} {ex : XD} {a : Ad} {d : D} [hx : Sv S x (.obj a.Rig [] [])] [h : Ls S d ds] [t : TL ds Rp.d rs] : Stp (sp_Rig___init__ a [.adr x, .int n, d] S k ex) ((1 ≤ n ∧ n ≤ 8 ∧ (∀ r ∈ rs, r.ok n) ∧ rs.length ≤ 60) ∧ k .non (supd S x (.obj a.Rig ns_Rig [.int n, .tup (rs.map Rp.d)]))) := ⟨fun ⟨⟨h1, h2, h3, h4⟩, h5⟩ => ⟨x, d, n, rs, rfl, hx.h, h1, h2, by rw [h.vq, t.h], h3, h4, h5⟩⟩
instance (priority := high) {S : Sto} {k : KD} {b : Bool} : Stp (cIsi [.bl b, .ty "int"] S k) (k (.bl true) S) := ⟨fun q => (isi_int rfl).mpr q⟩
instance (priority := high) {S : Sto} {k : KD} {x : Int} : Stp (cIsi [.int x, .ty "int"] S k) (k (.bl true) S) := ⟨fun q => (isi_int rfl).mpr q⟩
instance (priority := high) {S : Sto} {k : KD} {z : Str} : Stp (cIsi [.str z, .ty "int"] S k) (k (.bl false) S) := ⟨fun q => (isi_int rfl).mpr q⟩
instance (priority := high) {S : Sto} {k : KD} {xs : List D} : Stp (cIsi [.lst xs, .ty "int"] S k) (k (.bl false) S) := ⟨fun q => (isi_int rfl).mpr q⟩
instance (priority := high) {S : Sto} {k : KD} {xs : List D} : Stp (cIsi [.tup xs, .ty "int"] S k) (k (.bl false) S) := ⟨fun q => (isi_int rfl).mpr q⟩
instance (priority := high) {S : Sto} {k : KD}  : Stp (cIsi [.non, .ty "int"] S k) (k (.bl false) S) := ⟨fun q => (isi_int rfl).mpr q⟩
instance (priority := high) {S : Sto} {k : KD} {b : Bool} : Stp (cIsi [.bl b, .ty "bool"] S k) (k (.bl true) S) := ⟨fun q => (isi_bool rfl).mpr q⟩
instance (priority := high) {S : Sto} {k : KD} {x : Int} : Stp (cIsi [.int x, .ty "bool"] S k) (k (.bl false) S) := ⟨fun q => (isi_bool rfl).mpr q⟩
instance (priority := high) {S : Sto} {k : KD} {z : Str} : Stp (cIsi [.str z, .ty "bool"] S k) (k (.bl false) S) := ⟨fun q => (isi_bool rfl).mpr q⟩
instance (priority := high) {S : Sto} {k : KD} {xs : List D} : Stp (cIsi [.lst xs, .ty "bool"] S k) (k (.bl false) S) := ⟨fun q => (isi_bool rfl).mpr q⟩
instance (priority := high) {S : Sto} {k : KD} {xs : List D} : Stp (cIsi [.tup xs, .ty "bool"] S k) (k (.bl false) S) := ⟨fun q => (isi_bool rfl).mpr q⟩
instance (priority := high) {S : Sto} {k : KD}  : Stp (cIsi [.non, .ty "bool"] S k) (k (.bl false) S) := ⟨fun q => (isi_bool rfl).mpr q⟩
instance (priority := high) {S : Sto} {k : KD} {b : Bool} : Stp (cIsi [.bl b, .ty "list"] S k) (k (.bl false) S) := ⟨fun q => (isi_list rfl).mpr q⟩
instance (priority := high) {S : Sto} {k : KD} {x : Int} : Stp (cIsi [.int x, .ty "list"] S k) (k (.bl false) S) := ⟨fun q => (isi_list rfl).mpr q⟩
instance (priority := high) {S : Sto} {k : KD} {z : Str} : Stp (cIsi [.str z, .ty "list"] S k) (k (.bl false) S) := ⟨fun q => (isi_list rfl).mpr q⟩
instance (priority := high) {S : Sto} {k : KD} {xs : List D} : Stp (cIsi [.lst xs, .ty "list"] S k) (k (.bl true) S) := ⟨fun q => (isi_list rfl).mpr q⟩
instance (priority := high) {S : Sto} {k : KD} {xs : List D} : Stp (cIsi [.tup xs, .ty "list"] S k) (k (.bl false) S) := ⟨fun q => (isi_list rfl).mpr q⟩
instance (priority := high) {S : Sto} {k : KD}  : Stp (cIsi [.non, .ty "list"] S k) (k (.bl false) S) := ⟨fun q => (isi_list rfl).mpr q⟩
instance (priority := high) {S : Sto} {k : KD} {b : Bool} : Stp (cIsi [.bl b, .ty "tuple"] S k) (k (.bl false) S) := ⟨fun q => (isi_tup rfl).mpr q⟩
instance (priority := high) {S : Sto} {k : KD} {x : Int} : Stp (cIsi [.int x, .ty "tuple"] S k) (k (.bl false) S) := ⟨fun q => (isi_tup rfl).mpr q⟩
instance (priority := high) {S : Sto} {k : KD} {z : Str} : Stp (cIsi [.str z, .ty "tuple"] S k) (k (.bl false) S) := ⟨fun q => (isi_tup rfl).mpr q⟩
instance (priority := high) {S : Sto} {k : KD} {xs : List D} : Stp (cIsi [.lst xs, .ty "tuple"] S k) (k (.bl false) S) := ⟨fun q => (isi_tup rfl).mpr q⟩
instance (priority := high) {S : Sto} {k : KD} {xs : List D} : Stp (cIsi [.tup xs, .ty "tuple"] S k) (k (.bl true) S) := ⟨fun q => (isi_tup rfl).mpr q⟩
instance (priority := high) {S : Sto} {k : KD}  : Stp (cIsi [.non, .ty "tuple"] S k) (k (.bl false) S) := ⟨fun q => (isi_tup rfl).mpr q⟩
instance (priority := high) {S : Sto} {k : KD} {b : Bool} : Stp (cIsi [.bl b, .ty "str"] S k) (k (.bl false) S) := ⟨fun q => (isi_str rfl).mpr q⟩
instance (priority := high) {S : Sto} {k : KD} {x : Int} : Stp (cIsi [.int x, .ty "str"] S k) (k (.bl false) S) := ⟨fun q => (isi_str rfl).mpr q⟩
instance (priority := high) {S : Sto} {k : KD} {z : Str} : Stp (cIsi [.str z, .ty "str"] S k) (k (.bl true) S) := ⟨fun q => (isi_str rfl).mpr q⟩
instance (priority := high) {S : Sto} {k : KD} {xs : List D} : Stp (cIsi [.lst xs, .ty "str"] S k) (k (.bl false) S) := ⟨fun q => (isi_str rfl).mpr q⟩
instance (priority := high) {S : Sto} {k : KD} {xs : List D} : Stp (cIsi [.tup xs, .ty "str"] S k) (k (.bl false) S) := ⟨fun q => (isi_str rfl).mpr q⟩
instance (priority := high) {S : Sto} {k : KD}  : Stp (cIsi [.non, .ty "str"] S k) (k (.bl false) S) := ⟨fun q => (isi_str rfl).mpr q⟩
instance (priority := high) {S : Sto} {k : KD} {hs : List Int} : Stp (cIsi [encL hs, .ty "list"] S k) (k (.bl true) S) := ⟨fun q => (isi_list rfl).mpr q⟩
instance (priority := high) {a : Ad} {n : Int} {rs : List Rp} : ToD (.obj a.Rig ns_Rig [.int n, .tup (rs.map Rp.d)]) (rigD a n rs) := ⟨rfl⟩
instance {S : Sto} {d : D} {ds : List D} {k : KD} [h : Ls S d ds] : Stp (cIsi [d, .ty "list"] S k) (k (.bl true) S) := ⟨fun q => (isi_list h.ty).mpr (by rw [h.isL]; exact q)⟩
instance (priority := low) tyLs {S : Sto} {d : D} {ds : List D} [h : Ls S d ds] : Ty S d := ⟨h.ty⟩
instance : Bp (isInt (.int 0)) True := ⟨by simp [isInt]⟩
theorem int_of {d : D} (h : isInt d = true) : ∃ i, d = .int i := by
  cases d with
  | int i => exact ⟨i, rfl⟩
  | _ => cases h
theorem within_of {l m : Int} {d : D} (h : within l m d = true) : ∃ i, d = .int i ∧ l ≤ i ∧ i ≤ m := by
  cases d with
  | int i => exact ⟨i, rfl, of_decide_eq_true h⟩
  | _ => cases h
theorem within_no {l m : Int} {d : D} (h : ¬ within l m d = true) (i : Int) (e : d = .int i) : ¬ (l ≤ i ∧ i ≤ m) := fun q => h (by rw [e]; exact decide_eq_true q)

/-! ### a thing that may be of the store, seen as data -/
def VwP (S : Sto) (d d' : D) : Prop := d = d' ∨ ∃ p xs, d = .adr p ∧ S p = some (.lst xs) ∧ d' = .lst xs
class Vw (S : Sto) (d : D) (d' : outParam D) : Prop where
  h : VwP S d d'
instance (priority := low) {S : Sto} {d : D} [Ok d] : Vw S d d := ⟨.inl rfl⟩
instance (priority := 2000) {S : Sto} {p : Addr} {xs : List D} [h : Sv S p (.lst xs)] : Vw S (.adr p) (.lst xs) := ⟨.inr ⟨p, xs, rfl, h.h, rfl⟩⟩
/-- heights, as data or of the store -/
class Vh (S : Sto) (d : D) (hs : outParam (List Int)) : Prop where
  h : VwP S d (encL hs)
instance (priority := low) {S : Sto} {d : D} {hs : List Int} [h : En d encL hs] : Vh S d hs := ⟨.inl h.h⟩
instance (priority := 2000) {S : Sto} {p : Addr} {ds : List D} {hs : List Int} [h : Sv S p (.lst ds)] [t : TL ds D.int hs] : Vh S (.adr p) hs := ⟨.inr ⟨p, ds, rfl, h.h, by unfold encL; rw [t.h]⟩⟩
instance {S : Sto} {d : D} {hs : List Int} [h : Vh S d hs] : Ls S d (hs.map D.int) := by
  rcases h.h with e | ⟨p, xs, e, hS, e2⟩
  · subst e; unfold encL; infer_instance
  · subst e
    unfold encL at e2
    cases e2
    haveI : Sv S p (.lst (hs.map D.int)) := ⟨hS⟩
    infer_instance
theorem vhP {S : Sto} {d : D} {hs : List Int} (h : VwP S d (encL hs)) : Vh S d hs := ⟨h⟩

/-! ### heights -/
def sp_Rig_many (a : Ad) : SpD := fun ds S k _ => ∃ n rs, ds = [rigD a n rs] ∧ k (.int n) S
def t_Rig_many (a : Ad) : TSD := (dRet (dFld a.Rig ns_Rig 0 (dVar 0)))
theorem len_Rig_many (a : Ad) : ∀ ds S kk ex, sp_Rig_many a ds S kk ex → ds.length = 1 := by
  rintro _ S kk ex ⟨n, rs, rfl, _⟩; rfl
theorem vc_Rig_many (a : Ad) : ∀ ds S kk ex F H, sp_Rig_many a ds S kk ex → t_Rig_many a (wdX ex F H S) (endX kk) (startD 1 ds) S := by
  rintro _ S kk ex F H ⟨n, rs, rfl, hk⟩
  unfold t_Rig_many rigD
  show dRet _ _ _ [some _] _
  tm_at "s"
  exact out1 hk
instance {a : Ad} {n : Int} {rs : List Rp} {S : Sto} {k : KD} {ex : XD} : Stp (sp_Rig_many a [rigD a n rs] S k ex) (k (.int n) S) := ⟨fun q => ⟨n, rs, rfl, q⟩⟩
/-- so many whole numbers -/
def wholesB (n : Int) : D → Bool
  | .lst xs => decide ((xs.length : Int) = n) && xs.all isInt
  | _ => false
theorem wholesB_L {n : Int} {hs : List Int} : wholesB n (encL hs) = decide ((hs.length : Int) = n) := by
  unfold wholesB encL
  dsimp only
  rw [List.length_map, List.all_map]
  have : (hs.all (isInt ∘ D.int)) = true := by rw [List.all_eq_true]; intro x _; rfl
  rw [this, Bool.and_true]
theorem wholesB_of {n : Int} {d : D} (h : wholesB n d = true) : ∃ hs : List Int, d = encL hs ∧ (hs.length : Int) = n := by
  cases d with
  | lst xs =>
    unfold wholesB at h
    rw [Bool.and_eq_true, decide_eq_true_iff] at h
    obtain ⟨h1, h2⟩ := h
    have : ∀ xs : List D, xs.all isInt = true → ∃ hs : List Int, xs = hs.map D.int := by
      intro xs
      induction xs with
      | nil => intro _; exact ⟨[], rfl⟩
      | cons x xs ih =>
        intro h
        rw [List.all_cons, Bool.and_eq_true] at h
        obtain ⟨i, rfl⟩ := int_of h.1
        obtain ⟨hs, rfl⟩ := ih h.2
        exact ⟨i :: hs, rfl⟩
    obtain ⟨hs, rfl⟩ := this xs h2
    exact ⟨hs, rfl, by rw [List.length_map] at h1; exact h1⟩
  | _ => cases h
def sp_are_wholes (a : Ad) : SpD := fun ds S k _ => ∃ d d' n, ds = [d, .int n] ∧ VwP S d d' ∧ Ok d' ∧ k (.bl (wholesB n d')) S
def t_are_wholes (a : Ad) : TSD := (dRet (dAndV (dCB cIsi (dCons (dVar 0) (dCons (dC (.ty "list")) dNil))) (dAndV (dBin fEq (dCB cLen (dCons (dVar 0) dNil)) (dVar 1)) (dCB cAll (dCons (dLc (iSq (dVar 0)) (gNameD 2) dYes (dCall (sp_is_whole a) [] (dCons (dVar 2) dNil)) [2]) dNil)))))
theorem len_are_wholes (a : Ad) : ∀ ds S kk ex, sp_are_wholes a ds S kk ex → ds.length = 2 := by
  rintro _ S kk ex ⟨n, rs, _, rfl, _⟩; rfl
theorem vc_are_wholes (a : Ad) : ∀ ds S kk ex F H, sp_are_wholes a ds S kk ex → t_are_wholes a (wdX ex F H S) (endX kk) (startD 3 ds) S := by
  rintro _ S kk ex F H ⟨e, d, n, rfl, hv, hd, hk⟩
  unfold t_are_wholes
  show dRet _ _ _ [some _, some _, none] _
  rcases hv with rfl | ⟨p, ys, rfl, hS, rfl⟩
  rotate_left
  · haveI : Sv S p (.lst ys) := ⟨hS⟩
    have hp := hd.lst
    tm_at "s"
    refine andm (c := ys.all isInt) (fun _ k' h' => ?_) ?_
    · tm_at "s"
      refine comp_map (fun x => .bl (isInt x)) (Gs.h) ys [] (fun d hd c1 h1 => ?_) ?_
      · haveI := hp.mem hd
        haveI : Ty S d := ⟨pln_ty (Pd.h (n := 59))⟩
        tm_at "s"
        exact h1
      · rw [List.nil_append]
        tm_at "s"
        rw [List.all_map]
        exact h'
    · exact out1 hk
  tm_at "s"
  cases e with
  | lst xs =>
    have hp := hd.lst
    rw [show isL (.lst xs) = true from rfl]
    tm_at "s"
    refine andm (c := xs.all isInt) (fun _ k' h' => ?_) ?_
    · tm_at "s"
      refine comp_map (fun x => .bl (isInt x)) True.intro xs [] (fun d hd c1 h1 => ?_) ?_
      · haveI := hp.mem hd
        haveI : Ty S d := ⟨pln_ty (Pd.h (n := 59))⟩
        tm_at "s"
        exact h1
      · rw [List.nil_append]
        tm_at "s"
        rw [List.all_map]
        exact h'
    · exact out1 hk
  | adr p => exact hd.adr.elim
  | frl p => exact hd.frl.elim
  | _ => exact out1 hk
instance {a : Ad} {n : Int} {d d' : D} {S : Sto} {k : KD} {ex : XD} [v : Vw S d d'] [h : Ok d'] : Stp (sp_are_wholes a [d, .int n] S k ex) (k (.bl (wholesB n d')) S) := ⟨fun q => ⟨d, d', n, rfl, v.h, h, q⟩⟩
def sp_is_heights (a : Ad) : SpD := fun ds S k _ => ∃ d d' n rs, ds = [rigD a n rs, d] ∧ VwP S d d' ∧ Ok d' ∧ k (.bl (wholesB n d')) S
def t_is_heights (a : Ad) : TSD := (dRet (dCall (sp_are_wholes a) [] (dCons (dVar 1) (dCons (dMeth a.Rig ns_Rig (sp_Rig_many a) [] (dVar 0) dNil) dNil))))
theorem len_is_heights (a : Ad) : ∀ ds S kk ex, sp_is_heights a ds S kk ex → ds.length = 2 := by
  rintro _ S kk ex ⟨n, rs, _, _, rfl, _⟩; rfl
theorem vc_is_heights (a : Ad) : ∀ ds S kk ex F H, sp_is_heights a ds S kk ex → t_is_heights a (wdX ex F H S) (endX kk) (startD 2 ds) S := by
  rintro _ S kk ex F H ⟨d, d', n, rs, rfl, hv, hd, hk⟩
  haveI : Vw S d d' := ⟨hv⟩
  unfold t_is_heights
  show dRet _ _ _ [some _, some _] _
  tm_at "s"
  exact out1 hk
instance {a : Ad} {n : Int} {rs : List Rp} {d d' : D} {S : Sto} {k : KD} {ex : XD} [v : Vw S d d'] [h : Ok d'] : Stp (sp_is_heights a [rigD a n rs, d] S k ex) (k (.bl (wholesB n d')) S) := ⟨fun q => ⟨d, d', n, rs, rfl, v.h, h, q⟩⟩
def sp_look_at_heights (a : Ad) : SpD := fun ds S k ex => ∃ (d d' : D) (n : Int) (rs : List Rp), ds = [rigD a n rs, d] ∧ VwP S d d' ∧ Ok d' ∧ (wholesB n d' = true → k .non S) ∧ (wholesB n d' = false → ex a.NoHeights d S)
def t_look_at_heights (a : Ad) : TSD := (dIfS (dNot (dTest (dCall (sp_is_heights a) [] (dCons (dVar 0) (dCons (dVar 1) dNil))))) (dRaise a.NoHeights (dVar 1)) dNext)
theorem len_look_at_heights (a : Ad) : ∀ ds S kk ex, sp_look_at_heights a ds S kk ex → ds.length = 2 := by
  rintro _ S kk ex ⟨_, _, _, _, rfl, _⟩; rfl
theorem vc_look_at_heights (a : Ad) : ∀ ds S kk ex F H, sp_look_at_heights a ds S kk ex → t_look_at_heights a (wdX ex F H S) (endX kk) (startD 2 ds) S := by
  rintro _ S kk ex F H ⟨d, d', n, rs, rfl, hv, hd, h1, h2⟩
  haveI : Vw S d d' := ⟨hv⟩
  unfold t_look_at_heights
  show dIfS _ _ _ _ _ [some _, some _] _
  tm_at "s"
  cases e : wholesB n d' with
  | true =>
    tm_at "s"
    exact out1 (h1 e)
  | false =>
    tm_at "s"
    exact out1 (h2 e)
instance {a : Ad} {n : Int} {rs : List Rp} {d d' : D} {S : Sto} {k : KD} {ex : XD} [v : Vw S d d'] [h : Ok d'] : Stp (sp_look_at_heights a [rigD a n rs, d] S k ex) ((wholesB n d' = true → k .non S) ∧ (wholesB n d' = false → ex a.NoHeights d S)) := ⟨fun ⟨h1, h2⟩ => ⟨d, d', n, rs, rfl, v.h, h, h1, h2⟩⟩
instance (priority := 2000) {a : Ad} {n : Int} {rs : List Rp} {hs : List Int} {S : Sto} {k : KD} {ex : XD} {e1 : D} [he1 : Vh S e1 hs] : Stp (sp_look_at_heights a [rigD a n rs, e1] S k ex) (n = (hs.length : Nat) ∧ k .non S) := ⟨fun ⟨e, q⟩ => ⟨e1, _, n, rs, rfl, he1.h, inferInstance, fun _ => q, fun h => by rw [wholesB_L, e, decide_eq_true rfl] at h; cases h⟩⟩
/-- what a rope leaves -/
def roomBy (hs : List Int) (r : Rp) : Int := r.mo - gi (0 :: hs) r.up + gi (0 :: hs) r.lo
def sp_room_by (a : Ad) : SpD := fun ds S k _ => ∃ (hs : List Int) (r : Rp) (d : D), ds = [r.d, d] ∧ VwP S d (encL hs) ∧ r.ok hs.length ∧ hs.length ≤ 100 ∧ k (.int (roomBy hs r)) S
def t_room_by (a : Ad) : TSD := (dSeq (dAsg (dVar 0) (gSeqD 3 (gConsD (gNameD 3) (gConsD (gNameD 4) (gConsD (gNameD 5) gNilD))))) (dSeq (dSet 2 (dBin (fAdd false) (dLst (dCons (dC (.int 0)) dNil)) (dVar 1))) (dRet (dBin (fAdd false) (dBin fSub (dVar 5) (dBin fIx (dVar 2) (dVar 3))) (dBin fIx (dVar 2) (dVar 4))))))
theorem len_room_by (a : Ad) : ∀ ds S kk ex, sp_room_by a ds S kk ex → ds.length = 2 := by
  rintro _ S kk ex ⟨_, _, _, rfl, _⟩; rfl
theorem vc_room_by (a : Ad) : ∀ ds S kk ex F H, sp_room_by a ds S kk ex → t_room_by a (wdX ex F H S) (endX kk) (startD 6 ds) S := by
  rintro _ S kk ex F H ⟨hs, r, d, rfl, hv, ⟨h1, h2, h3, h4, h5⟩, hl, hk⟩
  haveI := vhP hv
  unfold t_room_by Rp.d
  show dSeq _ _ _ _ [some _, some _, none, none, none, none] _
  tm_at "z"
  exact out1 hk
instance {a : Ad} {r : Rp} {hs : List Int} {S : Sto} {k : KD} {ex : XD} {e1 : D} [he1 : Vh S e1 hs] : Stp (sp_room_by a [r.d, e1] S k ex) ((r.ok hs.length ∧ hs.length ≤ 100) ∧ k (.int (roomBy hs r)) S) :=
  ⟨fun q => ⟨hs, r, e1, rfl, he1.h, q.1.1, q.1.2, q.2⟩⟩
end Z


set_option Elab.async false
set_option synthInstance.maxHeartbeats 2000000
set_option synthInstance.maxSize 2048
set_option linter.all false
set_option maxRecDepth 100000
set_option maxHeartbeats 4000000
namespace Z
open PySem PySem.Spec PyProof.Rows L2
local macro_rules | `(tactic| tm_at "o") => `(tactic| first | (with_reducible assumption) | omega | exact cm1 (by omega) (by omega) | exact cm2 (by omega) (by omega) | (simp only [List.length_map, List.length_append, List.length_cons, List.length_nil, sizeLine_eq, irange_length, enumI_length, List.length_zip, List.length_reverse]; omega) | decide | (simp; done) | (simp only [List.length_map, List.length_append, List.length_cons, List.length_nil, sizeLine_eq, irange_length, enumI_length, List.length_zip, List.length_reverse] at *; omega) | exact ⟨by tm_at "o", by tm_at "o"⟩)
local macro_rules | `(tactic| tm_at "s") => `(tactic| repeat refine stp ?_)
local macro_rules | `(tactic| tm_at "z") => `(tactic| repeat (first | refine stp ?_ | (refine And.intro (by tm_at "o") ?_) | refine ifT (by decide) ?_ | refine ifF (by decide) ?_))


/-! ### truths of constructors -/
class BV (b : Bool) (v : outParam Bool) : Prop where
  h : b = v
instance : BV (isN .non) true := ⟨rfl⟩
instance {i : Int} : BV (isN (.int i)) false := ⟨rfl⟩
instance {i : Bool} : BV (isN (.bl i)) false := ⟨rfl⟩
instance {i : Str} : BV (isN (.str i)) false := ⟨rfl⟩
instance {i : List D} : BV (isN (.lst i)) false := ⟨rfl⟩
instance {i : List D} : BV (isN (.tup i)) false := ⟨rfl⟩
instance {i : Int} : BV (isInt (.int i)) true := ⟨rfl⟩
instance {i : Bool} : BV (isInt (.bl i)) false := ⟨rfl⟩
instance {i : Str} : BV (isInt (.str i)) false := ⟨rfl⟩
instance {i : List D} : BV (isInt (.lst i)) false := ⟨rfl⟩
instance {i : List D} : BV (isInt (.tup i)) false := ⟨rfl⟩
instance : BV (isInt .non) false := ⟨rfl⟩
instance {i : List D} : BV (isL (.lst i)) true := ⟨rfl⟩
instance {i : List D} : BV (isL (.tup i)) false := ⟨rfl⟩
instance {i : Int} : BV (isL (.int i)) false := ⟨rfl⟩
instance {i : Str} : BV (isL (.str i)) false := ⟨rfl⟩
instance {i : Bool} : BV (isL (.bl i)) false := ⟨rfl⟩
instance : BV (isL .non) false := ⟨rfl⟩
instance : BV true true := ⟨rfl⟩
instance : BV false false := ⟨rfl⟩
instance bvN1 {b : Bool} [h : BV b true] : BV (!b) false := ⟨by rw [h.h]; rfl⟩
instance bvN2 {b : Bool} [h : BV b false] : BV (!b) true := ⟨by rw [h.h]; rfl⟩
instance (priority := low) bvT {b : Bool} {P Q : Prop} {inst : Decidable (b = true)} [h : BV b true] : Stp (@ite Prop (b = true) inst P Q) P := ⟨fun q => by rw [if_pos h.h]; exact q⟩
instance (priority := low) bvF {b : Bool} {P Q : Prop} {inst : Decidable (b = true)} [h : BV b false] : Stp (@ite Prop (b = true) inst P Q) Q := ⟨fun q => by rw [if_neg (by rw [h.h]; decide)]; exact q⟩
/-! ### what can be shown -/
/-- leaves that are small, at most n deep -/
def lf : Nat → D → Prop
  | _, .non => True
  | _, .bl _ => True
  | _, .int i => i.natAbs < 10 ^ 60
  | _, .str x => ∀ c ∈ x.cps.toList, c < 16 ^ 8
  | n + 1, .tup xs => ∀ x ∈ xs, lf n x
  | n + 1, .lst xs => ∀ x ∈ xs, lf n x
  | _, _ => False
theorem lf_lst {n : Nat} {xs : List D} : lf (n + 1) (.lst xs) = ∀ x ∈ xs, lf n x := by rw [lf]
theorem lf_tup {n : Nat} {xs : List D} : lf (n + 1) (.tup xs) = ∀ x ∈ xs, lf n x := by rw [lf]
theorem lf_int {n : Nat} {i : Int} : lf n (.int i) = (i.natAbs < 10 ^ 60) := by cases n <;> rw [lf]
theorem lf_pln : ∀ {n : Nat} {d : D}, lf n d → pln n d := by
  intro n
  induction n with
  | zero => intro d h; cases d <;> first | (unfold pln; trivial) | (unfold lf at h; exact h.elim)
  | succ n ih =>
    intro d h
    cases d <;> first | (unfold pln; trivial) | (unfold lf at h; exact h.elim) | (unfold lf at h; unfold pln; exact fun x hx => ih (h x hx))
theorem lf_shows : ∀ {n : Nat} {d : D}, lf n d → (toPy d).showable = true ∧ (toPy d).leavesShort 62 = true := by
  have int : ∀ i : Int, i.natAbs < 10 ^ 60 → (PyData.int i).showable = true ∧ (PyData.int i).leavesShort 62 = true := by
    intro i h
    constructor
    · unfold PyData.showable
      refine decide_eq_true ?_
      rcases Nat.eq_zero_or_pos i.natAbs with h0 | h0
      · rw [h0]; decide
      · refine (Nat.log2_lt (by omega)).mpr (Nat.lt_of_lt_of_le h ?_)
        exact Nat.le_trans (show 10 ^ 60 ≤ 2 ^ 200 by decide) (Nat.pow_le_pow_right (by decide) (by decide))
    · unfold PyData.leavesShort
      refine decide_eq_true ?_
      have := int_text_length_le10 (a := i) (k := 60) (by decide) h
      unfold PyData.shown
      have e : (Str.ofString (toString i)).length = (toString i).length := PySem.ofString_length _
      show (Str.ofString (toString i)).length ≤ 62
      omega
  have all : ∀ (n : Nat), (∀ d, lf n d → (toPy d).showable = true ∧ (toPy d).leavesShort 62 = true) → ∀ xs : List D, (∀ x ∈ xs, lf n x) → PyData.showableAll (toPys xs) = true ∧ PyData.leavesShortAll 62 (toPys xs) = true := by
    intro n ih xs
    induction xs with
    | nil => intro _; exact ⟨rfl, rfl⟩
    | cons x xs ih2 =>
      intro h
      obtain ⟨a, b⟩ := ih x (h x List.mem_cons_self)
      obtain ⟨c, d⟩ := ih2 fun y hy => h y (List.mem_cons_of_mem _ hy)
      unfold toPys
      exact ⟨by unfold PyData.showableAll; rw [a, c]; rfl, by unfold PyData.leavesShortAll; rw [b, d]; rfl⟩
  intro n
  induction n with
  | zero =>
    intro d h
    cases d with
    | non => exact ⟨rfl, rfl⟩
    | bl => exact ⟨rfl, rfl⟩
    | int i => unfold lf at h; unfold toPy; exact int i h
    | str x => unfold lf at h; unfold toPy; exact ⟨rfl, by unfold PyData.leavesShort; rw [List.all_eq_true]; exact fun c hc => decide_eq_true (h c hc)⟩
    | _ => unfold lf at h; exact h.elim
  | succ n ih =>
    intro d h
    cases d with
    | non => exact ⟨rfl, rfl⟩
    | bl => exact ⟨rfl, rfl⟩
    | int i => unfold lf at h; unfold toPy; exact int i h
    | str x => unfold lf at h; unfold toPy; exact ⟨rfl, by unfold PyData.leavesShort; rw [List.all_eq_true]; exact fun c hc => decide_eq_true (h c hc)⟩
    | lst xs => unfold lf at h; unfold toPy; unfold PyData.showable PyData.leavesShort; exact all n (fun d => ih) xs h
    | tup xs => unfold lf at h; unfold toPy; unfold PyData.showable PyData.leavesShort; exact all n (fun d => ih) xs h
    | _ => unfold lf at h; exact h.elim
def blk (d : D) : Nat := (toPy d).bulk
theorem blk_lst {b : Nat} {xs : List D} (h : ∀ x ∈ xs, blk x ≤ b) : blk (.lst xs) ≤ xs.length * (b + 1) := by
  unfold blk
  unfold toPy
  unfold PyData.bulk
  induction xs with
  | nil => unfold toPys PyData.bulkAll; omega
  | cons x xs ih =>
    unfold toPys PyData.bulkAll
    have h1 := h x List.mem_cons_self
    have h2 := ih fun y hy => h y (List.mem_cons_of_mem _ hy)
    unfold blk at h1
    rw [List.length_cons, Nat.add_mul, Nat.one_mul]
    omega
theorem blk_tup {xs : List D} : blk (.tup xs) = blk (.lst xs) := by
  unfold blk
  conv => lhs; unfold toPy
  conv => rhs; unfold toPy
  unfold PyData.bulk; rfl
theorem okR_lf {n : Nat} {d : D} (hn : n ≤ 60) (h : lf n d) (hb : blk d ≤ 200000) : okR d := by
  obtain ⟨h1, h2⟩ := lf_shows h
  refine .inr ⟨pln_mono hn (lf_pln h), h1, ?_⟩
  have := PyData.shown_le_bulk 62 (by decide) _ h2
  unfold blk at hb
  rw [sizeLine_eq]
  omega

theorem lf_mono : ∀ {m n : Nat} {d : D}, m ≤ n → lf m d → lf n d := by
  intro m
  induction m with
  | zero =>
    intro n d _ h
    cases d <;> first | (unfold lf at h; exact h.elim) | (cases n <;> (unfold lf at h ⊢; first | trivial | exact h))
  | succ m ih =>
    intro n d hn h
    cases n with
    | zero => omega
    | succ n =>
      cases d <;> first | (unfold lf at h; exact h.elim) | (unfold lf at h ⊢; first | trivial | exact h | exact fun x hx => ih (by omega) (h x hx))
def shT (d : D) : Prop := ∀ xs, d = .lst xs → xs.length ≤ 1000000
theorem sh_no {d : D} (h : ∀ xs, d ≠ .lst xs) : shT d := fun xs e => absurd e (h xs)
/-- a thing that is handed in and shown -/
class Th (d : D) : Prop where
  ok : okT d
  sh : shT d
  re : okR d
/-- a small part of a thing -/
class Ea (x : D) : Prop where
  l : lf 2 x
  b : blk x ≤ 600
class EaL (xs : List D) : Prop where
  h : ∀ x ∈ xs, Ea x
instance {d : D} [h : Th d] : Ok d := ⟨h.ok⟩
theorem okT_tr {d : D} {S : Sto} (h : okT d) : tr S d = d := by
  rcases h with h | h
  · exact tr_pln h
  · rw [isE_eq h]; rfl
instance {d : D} {S : Sto} {k : KD} [h : Th d] : Stp (cRepr [d] S k) (k (.str (shw d)) S) := ⟨fun q => by
  unfold cRepr; dsimp only
  rw [okT_tr h.ok]; exact ⟨h.re, q⟩⟩
theorem Th.lst {xs : List D} [h : EaL xs] (hl : xs.length ≤ 300) : Th (.lst xs) := by
  have h3 : lf 3 (.lst xs) := by rw [lf_lst]; exact fun x hx => (h.h x hx).l
  refine ⟨.inl (pln_mono (by decide) (lf_pln h3)), fun ys e => by cases e; omega, okR_lf (by decide) h3 ?_⟩
  have := blk_lst fun x hx => (h.h x hx).b
  have : xs.length * (600 + 1) ≤ 300 * 601 := Nat.mul_le_mul hl (Nat.le_refl _)
  omega
theorem Th.tup {xs : List D} [h : EaL xs] (hl : xs.length ≤ 300) : Th (.tup xs) := by
  have h3 : lf 3 (.tup xs) := by rw [lf_tup]; exact fun x hx => (h.h x hx).l
  refine ⟨.inl (pln_mono (by decide) (lf_pln h3)), sh_no (by intro xs h; cases h), okR_lf (by decide) h3 ?_⟩
  rw [blk_tup]
  have := blk_lst fun x hx => (h.h x hx).b
  have : xs.length * (600 + 1) ≤ 300 * 601 := Nat.mul_le_mul hl (Nat.le_refl _)
  omega
theorem Th.ea {x : D} [h : Ea x] (hn : ∀ xs, x ≠ .lst xs) : Th x := ⟨.inl (pln_mono (by decide) (lf_pln h.l)), sh_no hn, okR_lf (by decide) h.l (by have := h.b; omega)⟩
theorem Th.dic : Th (.dic [] []) := ⟨.inr rfl, sh_no (by intro xs h; cases h), Or.inl rfl⟩
theorem cutD_mem {xs : List D} {lo hi : Option Int} {x : D} (h : x ∈ cutD xs lo hi) : x ∈ xs := by
  unfold cutD at h
  exact List.mem_of_mem_drop (List.mem_of_mem_take h)
theorem cutD_len (xs : List D) (lo hi : Option Int) : (cutD xs lo hi).length ≤ xs.length := by
  unfold cutD
  rw [List.length_take, List.length_drop]
  omega
/-- leaves that are small -/
class Sm (x : D) : Prop where
  l : lf 0 x
  b : blk x ≤ 1
instance : Sm .non := ⟨by unfold lf; trivial, by decide⟩
instance {b : Bool} : Sm (.bl b) := ⟨by unfold lf; trivial, by cases b <;> decide⟩
theorem Sm.int {i : Int} (h : i.natAbs < 10 ^ 60) : Sm (.int i) := ⟨by rw [lf_int]; exact h, by show 0 ≤ 1; decide⟩
instance : Sm (.int 0) := Sm.int (by decide)
instance : Sm (.int 1) := Sm.int (by decide)
instance : Sm (.int (-1)) := Sm.int (by decide)
instance : Sm (.int 2) := Sm.int (by decide)
instance : Sm (.int 7) := Sm.int (by decide)
instance eaSm {x : D} [h : Sm x] : Ea x := ⟨lf_mono (by decide) h.l, by have := h.b; omega⟩
class SmL (xs : List D) : Prop where
  h : ∀ x ∈ xs, Sm x
instance : SmL [] := ⟨by simp⟩
instance {x : D} {xs : List D} [a : Sm x] [b : SmL xs] : SmL (x :: xs) := ⟨by
  intro y hy
  rcases List.mem_cons.mp hy with rfl | hy
  · exact a
  · exact b.h y hy⟩
instance {xs ys : List D} [a : SmL xs] [b : SmL ys] : SmL (xs ++ ys) := ⟨by
  intro y hy
  rcases List.mem_append.mp hy with hy | hy
  · exact a.h y hy
  · exact b.h y hy⟩
instance {xs : List D} {lo hi : Option Int} [a : SmL xs] : SmL (cutD xs lo hi) := ⟨fun x hx => a.h x (cutD_mem hx)⟩
instance {xs : List D} [a : SmL xs] : SmL xs.reverse := ⟨fun x hx => a.h x (List.mem_reverse.mp hx)⟩
instance : EaL [] := ⟨by simp⟩
instance {x : D} {xs : List D} [a : Ea x] [b : EaL xs] : EaL (x :: xs) := ⟨by
  intro y hy
  rcases List.mem_cons.mp hy with rfl | hy
  · exact a
  · exact b.h y hy⟩
instance {xs ys : List D} [a : EaL xs] [b : EaL ys] : EaL (xs ++ ys) := ⟨by
  intro y hy
  rcases List.mem_append.mp hy with hy | hy
  · exact a.h y hy
  · exact b.h y hy⟩
instance {xs : List D} {lo hi : Option Int} [a : EaL xs] : EaL (cutD xs lo hi) := ⟨fun x hx => a.h x (cutD_mem hx)⟩
instance {xs : List D} [a : EaL xs] : EaL xs.reverse := ⟨fun x hx => a.h x (List.mem_reverse.mp hx)⟩
instance (priority := low) {xs : List D} [a : SmL xs] : EaL xs := ⟨fun x hx => by have := a.h x hx; exact eaSm⟩
/-- few items -/
class Few (xs : List D) : Prop where
  h : xs.length ≤ 100
instance : Few [] := ⟨by decide⟩
theorem ea_lst {xs : List D} [a : SmL xs] (hl : xs.length ≤ 100) : Ea (.lst xs) := ⟨by rw [lf_lst]; exact fun x hx => lf_mono (by decide) (a.h x hx).l, by
  have := blk_lst fun x hx => (a.h x hx).b
  omega⟩
theorem ea_tup {xs : List D} [a : SmL xs] (hl : xs.length ≤ 100) : Ea (.tup xs) := ⟨by rw [lf_tup]; exact fun x hx => lf_mono (by decide) (a.h x hx).l, by
  rw [blk_tup]
  have := blk_lst fun x hx => (a.h x hx).b
  omega⟩
instance : Ea (.tup []) := ea_tup (by simp)
instance {x : D} [a : Sm x] : Ea (.tup [x]) := ea_tup (by simp)
instance {x y : D} [a : Sm x] [b : Sm y] : Ea (.tup [x, y]) := ea_tup (by simp)
instance {x y z : D} [a : Sm x] [b : Sm y] [c : Sm z] : Ea (.tup [x, y, z]) := ea_tup (by simp)
instance : Ea (.lst []) := ea_lst (by simp)
instance {x : D} [a : Sm x] : Ea (.lst [x]) := ea_lst (by simp)
instance {x y : D} [a : Sm x] [b : Sm y] : Ea (.lst [x, y]) := ea_lst (by simp)
theorem smL_ints {hs : List Int} (h : ∀ x ∈ hs, x.natAbs < 10 ^ 60) : SmL (hs.map D.int) := ⟨fun x hx => by
  rw [List.mem_map] at hx
  obtain ⟨i, hi, rfl⟩ := hx
  exact Sm.int (h i hi)⟩
theorem ea_L {hs : List Int} (h : ∀ x ∈ hs, x.natAbs < 10 ^ 60) (hl : hs.length ≤ 100) : Ea (encL hs) := by
  haveI := smL_ints h
  exact ea_lst (by rw [List.length_map]; exact hl)
theorem Th.row : Th (.str "row") := ⟨.inl (by unfold pln; trivial), sh_no (by intro xs h; cases h), okR_lf (n := 0) (by decide) (by unfold lf; decide) (by decide)⟩
instance {d : D} [h : Ea d] : Pd 2 d := ⟨lf_pln h.l⟩
end Z


set_option Elab.async false
set_option synthInstance.maxHeartbeats 2000000
set_option synthInstance.maxSize 2048
set_option linter.all false
set_option maxRecDepth 100000
set_option maxHeartbeats 4000000
namespace Z
open PySem PySem.Spec PyProof.Rows L2
local macro_rules | `(tactic| tm_at "o") => `(tactic| first | (with_reducible assumption) | omega | exact cm1 (by omega) (by omega) | exact cm2 (by omega) (by omega) | (simp only [List.length_map, List.length_append, List.length_cons, List.length_nil, sizeLine_eq, irange_length, enumI_length, List.length_zip, List.length_reverse]; omega) | decide | (simp; done) | (simp only [List.length_map, List.length_append, List.length_cons, List.length_nil, sizeLine_eq, irange_length, enumI_length, List.length_zip, List.length_reverse] at *; omega) | exact ⟨by tm_at "o", by tm_at "o"⟩)
local macro_rules | `(tactic| tm_at "s") => `(tactic| repeat refine stp ?_)
local macro_rules | `(tactic| tm_at "z") => `(tactic| repeat (first | refine stp ?_ | (refine And.intro (by tm_at "o") ?_) | refine ifT (by decide) ?_ | refine ifF (by decide) ?_))


/-! ### lists by place -/
theorem gi_nat {α : Type} [Inhabited α] {xs : List α} {i : Int} (h0 : 0 ≤ i) : gi xs i = xs.getD i.toNat default := rfl
theorem gi_cons {α : Type} [Inhabited α] {x : α} {xs : List α} {i : Int} (h : 1 ≤ i) : gi (x :: xs) i = gi xs (i - 1) := by
  unfold gi
  obtain ⟨m, rfl⟩ : ∃ m : Nat, i = m + 1 := ⟨(i - 1).toNat, by omega⟩
  rw [show ((m : Int) + 1).toNat = m + 1 by omega, show ((m : Int) + 1 - 1).toNat = m by omega]
  rfl
theorem gi_zero {α : Type} [Inhabited α] {x : α} {xs : List α} : gi (x :: xs) 0 = x := rfl
theorem gi_map {α β : Type} [Inhabited α] [Inhabited β] (f : α → β) {xs : List α} {k : Int} (h0 : 0 ≤ k) (h1 : k < xs.length) : gi (xs.map f) k = f (gi xs k) := by
  have hl : k.toNat < xs.length := by omega
  unfold gi
  rw [List.getD_eq_getElem?_getD, List.getD_eq_getElem?_getD, List.getElem?_map, List.getElem?_eq_getElem hl]
  rfl
theorem gi_zip {α β : Type} [Inhabited α] [Inhabited β] : ∀ {xs : List α} {ys : List β} {k : Int}, 0 ≤ k → k < xs.length → k < ys.length → gi (xs.zip ys) k = (gi xs k, gi ys k)
  | [], _, k, h0, h1, _ => by simp at h1; omega
  | _ :: _, [], k, h0, _, h2 => by simp at h2; omega
  | x :: xs, y :: ys, k, h0, h1, h2 => by
    rw [List.zip_cons_cons]
    by_cases hk : k = 0
    · subst hk; rfl
    · rw [gi_cons (by omega), gi_cons (by omega), gi_cons (by omega), gi_zip (by omega) (by rw [List.length_cons] at h1; omega) (by rw [List.length_cons] at h2; omega)]
theorem irange_enum {α β : Type} [Inhabited α] (f : Int → α → β) : ∀ (xs : List α) (i : Int), (irange i xs.length).map (fun k => f k (gi xs (k - i))) = (enumI i xs).map fun p => f p.1 p.2
  | [], _ => rfl
  | x :: xs, i => by
    rw [List.length_cons]
    unfold irange enumI
    rw [List.map_cons, List.map_cons, ← irange_enum f xs (i + 1)]
    congr 1
    · rw [Int.sub_self]; rfl
    · refine List.map_congr_left fun k hk => ?_
      rw [irange_mem] at hk
      rw [gi_cons (by omega), show k - i - 1 = k - (i + 1) by omega]
theorem irange_gi {α β : Type} [Inhabited α] (f : Int → α → β) (xs : List α) : (irange 0 xs.length).map (fun k => f k (gi xs k)) = (enumI 0 xs).map fun p => f p.1 p.2 := by
  rw [← irange_enum f xs 0]
  refine List.map_congr_left fun k _ => by rw [Int.sub_zero]
theorem enumI_mem {α : Type} [Inhabited α] : ∀ {xs : List α} {i : Int} {p : Int × α}, p ∈ enumI i xs → i ≤ p.1 ∧ p.1 < i + xs.length ∧ p.2 = gi xs (p.1 - i) ∧ p.2 ∈ xs
  | [], _, _, h => by cases h
  | x :: xs, i, p, h => by
    unfold enumI at h
    rcases List.mem_cons.mp h with rfl | h
    · simp [gi]; omega
    · obtain ⟨h1, h2, h3, h4⟩ := enumI_mem h
      refine ⟨by omega, by rw [List.length_cons]; omega, ?_, List.mem_cons_of_mem _ h4⟩
      rw [h3, gi_cons (by omega), show p.1 - i - 1 = p.1 - (i + 1) by omega]
def b2i (b : Bool) : Int := if b = true then 1 else 0
section
variable {S : Sto} {k : KD} {x : Int} {b m : Bool}
instance : Stp (cInt [.bl b] S k) (k (.int (b2i b)) S) := ⟨id⟩
instance : Stp (cInt [.int x] S k) (k (.int x) S) := ⟨id⟩
instance (priority := high) : Stp (fMul m (.int x) (.int (b2i b)) S k) (k (.int (x * b2i b)) S) := ⟨fun q => ⟨cm2 (by unfold b2i; split <;> omega) (by unfold b2i; split <;> omega), q⟩⟩
end
theorem b2i_eq (x y : Int) : b2i (x == y) = if x = y then 1 else 0 := by unfold b2i; by_cases h : x = y <;> simp [h]

/-! ### stands -/
def brk (rs : List Rp) (hs : List Int) : List Int := ((enumI 0 rs).filter fun p => decide (roomBy hs p.2 < 0)).map (·.1)
theorem let1_room {hs : List Int} {r : Rp} : let1 hs r ↔ ¬ roomBy hs r < 0 := by unfold let1 roomBy; omega
theorem enumI_snd {α : Type} : ∀ (xs : List α) (i : Int), (enumI i xs).map (·.2) = xs
  | [], _ => rfl
  | x :: xs, i => by unfold enumI; rw [List.map_cons, enumI_snd xs]
theorem brk_nil {rs : List Rp} {hs : List Int} : brk rs hs = [] ↔ ∀ r ∈ rs, let1 hs r := by
  unfold brk
  rw [List.map_eq_nil_iff, List.filter_eq_nil_iff]
  constructor
  · intro h r hr
    rw [← enumI_snd rs 0, List.mem_map] at hr
    obtain ⟨p, hp, rfl⟩ := hr
    exact let1_room.mpr fun q => h p hp (decide_eq_true q)
  · intro h p hp q
    have : p.2 ∈ rs := by rw [← enumI_snd rs 0]; exact List.mem_map_of_mem hp
    exact let1_room.mp (h _ this) (of_decide_eq_true q)
def okRs (n : Nat) (rs : List Rp) : Prop := (∀ r ∈ rs, r.ok n) ∧ n ≤ 100 ∧ rs.length ≤ 100000
def sp_broken (a : Ad) : SpD := fun ds S k _ => ∃ (hs : List Int) (rs : List Rp) (d : D), ds = [rigD a (hs.length : Nat) rs, d] ∧ VwP S d (encL hs) ∧ okRs hs.length rs ∧ k (.lst ((brk rs hs).map D.int)) S
def t_broken (a : Ad) : TSD := (dSeq (dDrop (dCall (sp_look_at_heights a) [] (dCons (dVar 0) (dCons (dVar 1) dNil)))) (dRet (dLc (iEn (dCons (dMeth a.Rig ns_Rig (sp_Rig_ropes a) [] (dVar 0) dNil) dNil)) (gSeqD 2 (gConsD (gNameD 2) (gConsD (gNameD 3) gNilD))) (dTest (dBin fLt (dCall (sp_room_by a) [] (dCons (dVar 3) (dCons (dVar 1) dNil))) (dC (.int 0)))) (dVar 2) [2, 3])))
theorem len_broken (a : Ad) : ∀ ds S kk ex, sp_broken a ds S kk ex → ds.length = 2 := by
  rintro _ S kk ex ⟨_, _, _, rfl, _⟩; rfl
theorem vc_broken (a : Ad) : ∀ ds S kk ex F H, sp_broken a ds S kk ex → t_broken a (wdX ex F H S) (endX kk) (startD 4 ds) S := by
  rintro _ S kk ex F H ⟨hs, rs, d, rfl, hv, ⟨h1, h2, h3⟩, hk⟩
  haveI := vhP hv
  unfold t_broken
  show dSeq _ _ _ _ [some _, some _, none, none] _
  tm_at "z"
  apply comp_fl
  · intro p hp c1 c2 k1 k2
    obtain ⟨m1, m2, m3, m4⟩ := enumI_mem hp
    unfold encE
    tm_at "s"
    refine ⟨⟨h1 _ m4, h2⟩, ?_⟩
    tm_at "s"
    by_cases hc : roomBy hs p.2 < 0
    · rw [decide_eq_true hc]
      tm_at "s"
      exact k1 (decide_eq_true hc)
    · rw [decide_eq_false hc]
      tm_at "s"
      exact k2 (decide_eq_false hc)
  · tm_at "s"
    refine out1 (kd hk ?_)
    unfold brk
    rw [List.map_map]; rfl
instance {a : Ad} {rs : List Rp} {hs : List Int} {S : Sto} {k : KD} {ex : XD} {e1 : D} [he1 : Vh S e1 hs] : Stp (sp_broken a [rigD a (hs.length : Nat) rs, e1] S k ex) (okRs hs.length rs ∧ k (.lst ((brk rs hs).map D.int)) S) := ⟨fun q => ⟨hs, rs, e1, rfl, he1.h, q.1, q.2⟩⟩
def toI : D → Int
  | .int i => i
  | _ => 0
def hsOf (d : D) : List Int := match d with | .lst xs => xs.map toI | _ => []
theorem hsOf_L {hs : List Int} : hsOf (encL hs) = hs := by
  unfold hsOf encL
  dsimp only
  rw [List.map_map]
  exact List.map_id hs
/-- all ropes let them -/
def lets (rs : List Rp) (hs : List Int) : Bool := rs.all fun r => decide (0 ≤ roomBy hs r)
theorem lets_iff {rs : List Rp} {hs : List Int} : lets rs hs = true ↔ ∀ r ∈ rs, let1 hs r := by
  unfold lets
  rw [List.all_eq_true]
  exact forall_congr' fun r => forall_congr' fun _ => by rw [decide_eq_true_iff, let1_room]; omega
theorem lets_brk {rs : List Rp} {hs : List Int} : (brk rs hs).isEmpty = lets rs hs := by
  by_cases h : lets rs hs = true
  · rw [h, List.isEmpty_iff]; exact brk_nil.mpr (lets_iff.mp h)
  · have e : brk rs hs ≠ [] := fun e => h (lets_iff.mpr (brk_nil.mp e))
    rw [Bool.not_eq_true] at h
    rw [h]
    cases q : brk rs hs with
    | nil => exact absurd q e
    | cons _ _ => rfl
def standB (n : Nat) (rs : List Rp) (d : D) : Bool := wholesB n d && lets rs (hsOf d)
theorem standB_L {n : Nat} {rs : List Rp} {hs : List Int} (h : hs.length = n) : standB n rs (encL hs) = lets rs hs := by
  unfold standB
  rw [wholesB_L, hsOf_L, h, decide_eq_true rfl, Bool.true_and]


/-- one climber elsewhere; i: the first one's number -/
def mv (i : Int) : List Int → Int → Int → List Int
  | [], _, _ => []
  | x :: xs, c, b => (x + b * b2i (i == c)) :: mv (i + 1) xs c b
theorem mv_length : ∀ (xs : List Int) (i c b : Int), (mv i xs c b).length = xs.length
  | [], _, _, _ => rfl
  | x :: xs, i, c, b => by unfold mv; rw [List.length_cons, mv_length xs, List.length_cons]
theorem mv_enum : ∀ (xs : List Int) (i j c b : Int), (enumI i xs).map (fun p => p.2 + b * b2i (p.1 + j == c)) = mv (i + j) xs c b
  | [], _, _, _, _ => rfl
  | x :: xs, i, j, c, b => by
    unfold enumI mv
    rw [List.map_cons, mv_enum xs, show i + 1 + j = i + j + 1 by omega]
theorem mv_gi : ∀ (xs : List Int) (i c b k : Int), 0 ≤ k → k < xs.length → gi (mv i xs c b) k = gi xs k + b * b2i (i + k == c)
  | [], _, _, _, k, h0, h1 => by simp at h1; omega
  | x :: xs, i, c, b, k, h0, h1 => by
    unfold mv
    by_cases hk : k = 0
    · subst hk; rw [gi_zero, gi_zero, Int.add_zero]
    · rw [gi_cons (by omega), gi_cons (by omega), mv_gi xs _ _ _ _ (by omega) (by rw [List.length_cons] at h1; omega), show i + 1 + (k - 1) = i + k by omega]


theorem standB_of {n : Nat} {rs : List Rp} {d : D} (h : standB n rs d = true) : ∃ hs : List Int, d = encL hs ∧ hs.length = n ∧ lets rs hs = true := by
  unfold standB at h
  rw [Bool.and_eq_true] at h
  obtain ⟨hs, rfl, e⟩ := wholesB_of h.1
  exact ⟨hs, rfl, by omega, by rw [← hsOf_L (hs := hs)]; exact h.2⟩
end Z


set_option Elab.async false
set_option synthInstance.maxHeartbeats 2000000
set_option synthInstance.maxSize 2048
set_option linter.all false
set_option maxRecDepth 100000
set_option maxHeartbeats 4000000
namespace Z
open PySem PySem.Spec PyProof.Rows L2
local macro_rules | `(tactic| tm_at "o") => `(tactic| first | (with_reducible assumption) | omega | exact cm1 (by omega) (by omega) | exact cm2 (by omega) (by omega) | (simp only [List.length_map, List.length_append, List.length_cons, List.length_nil, sizeLine_eq, irange_length, enumI_length, List.length_zip, List.length_reverse]; omega) | decide | (simp; done) | (simp only [List.length_map, List.length_append, List.length_cons, List.length_nil, sizeLine_eq, irange_length, enumI_length, List.length_zip, List.length_reverse] at *; omega) | exact ⟨by tm_at "o", by tm_at "o"⟩)
local macro_rules | `(tactic| tm_at "s") => `(tactic| repeat refine stp ?_)
local macro_rules | `(tactic| tm_at "z") => `(tactic| repeat (first | refine stp ?_ | (refine And.intro (by tm_at "o") ?_) | refine ifT (by decide) ?_ | refine ifF (by decide) ?_))


/-! ### what many laws ask -/
theorem noT_ok {d : D} (h : Ok d) : noTy d = true := by
  have h := h.h
  cases d with
  | ty t =>
    rcases h with h | h
    · unfold pln at h; exact h.elim
    · cases h
  | _ => rfl
instance {d : D} [h : Th d] : NoT d := ⟨noT_ok inferInstance⟩
theorem enumI_mapF {α β : Type} (f : α → β) : ∀ (xs : List α) (i : Int), enumI i (xs.map f) = (enumI i xs).map fun p => (p.1, f p.2)
  | [], _ => rfl
  | x :: xs, i => by rw [List.map_cons]; unfold enumI; rw [enumI_mapF f xs, List.map_cons]
theorem eqv_self : ∀ {n : Nat} {d : D}, pln n d → deq d d = true := by
  have all : ∀ (xs : List D), (∀ x ∈ xs, deq x x = true) → deqs xs xs = true := by
    intro xs
    induction xs with
    | nil => intro _; unfold deqs; rfl
    | cons x xs ih => intro h; unfold deqs; rw [h x List.mem_cons_self, ih fun y hy => h y (List.mem_cons_of_mem _ hy)]; rfl
  intro n
  induction n with
  | zero =>
    intro d h
    cases d with
    | non => exact deq_non
    | bl b => rw [deq_bl]; exact beq_self_eq_true b
    | int i => rw [deq_int]; exact beq_self_eq_true i
    | str x => rw [deq_str]; exact beq_self_eq_true x
    | _ => unfold pln at h; exact h.elim
  | succ n ih =>
    intro d h
    cases d with
    | non => exact deq_non
    | bl b => rw [deq_bl]; exact beq_self_eq_true b
    | int i => rw [deq_int]; exact beq_self_eq_true i
    | str x => rw [deq_str]; exact beq_self_eq_true x
    | lst xs => rw [pln_lst] at h; rw [deq_lst]; exact all xs fun x hx => ih (h x hx)
    | tup xs => rw [pln_tup] at h; rw [deq_tup]; exact all xs fun x hx => ih (h x hx)
    | _ => unfold pln at h; exact h.elim
theorem neSame {d : D} {S : Sto} {k : KD} (h : pln 60 d) (q : k (.bl false) S) : fNe d d S k := by
  refine ⟨by rw [tr_pln h]; exact h, by rw [tr_pln h]; exact h, ?_⟩
  rw [tr_pln h, eqv_self h]; exact q
theorem neSameN {d d' : D} {S : Sto} {k : KD} (h : trF 5 S d = d') (hp : pln 60 d') (q : k (.bl false) S) : fNeN d d' S k := by
  refine fNeN_ok h (trF_pln S 5 60 d' hp) hp hp ?_
  rw [eqv_self hp]; exact q
theorem told_tr {w : Str} {p : Addr} {xs : List Int} {S : Sto} (h : S p = some (.lst (xs.map D.int))) : trF 5 S (.lst [.str w, .adr p]) = .lst [.str w, .lst (xs.map D.int)] := by
  rw [trF_lst, List.map_cons, List.map_cons, List.map_nil, trF_adr h, trF_map (m := 1) xs fun x => by rw [pln_int]; trivial]; rfl
theorem enumI_app {α : Type} : ∀ (xs ys : List α) (i : Int), enumI i (xs ++ ys) = enumI i xs ++ enumI (i + xs.length) ys
  | [], ys, i => by simp [enumI]
  | x :: xs, ys, i => by
    rw [List.cons_append]
    show (i, x) :: enumI (i + 1) (xs ++ ys) = (i, x) :: (enumI (i + 1) xs ++ enumI (i + ((x :: xs).length : Nat)) ys)
    rw [enumI_app xs ys, List.length_cons, show i + 1 + (xs.length : Int) = i + ((xs.length + 1 : Nat) : Int) by omega]
theorem brk_snoc {rs : List Rp} {hs : List Int} {r : Rp} (h : lets rs hs = true) (hr : roomBy hs r < 0) : brk (rs ++ [r]) hs = [(rs.length : Int)] := by
  unfold brk
  rw [enumI_app, List.filter_append, List.map_append, show ((enumI 0 rs).filter fun p => decide (roomBy hs p.2 < 0)).map (·.1) = brk rs hs from rfl, brk_nil.mpr (lets_iff.mp h), Int.zero_add]
  show (((((rs.length : Int), r) :: enumI _ []).filter fun p : Int × Rp => decide (roomBy hs p.2 < 0)).map (·.1)) = _
  have : decide (roomBy hs ((rs.length : Int), r).2 < 0) = true := decide_eq_true hr
  rw [List.filter_cons, if_pos this]
  rfl
theorem wholesB_len {n : Nat} {xs : List D} (h : xs.length ≠ n) : wholesB n (.lst xs) = false := by
  unfold wholesB
  dsimp only
  rw [decide_eq_false (by omega)]; rfl
theorem wholesB_mem {n : Nat} {xs : List D} {x : D} (hx : x ∈ xs) (h : isInt x = false) : wholesB n (.lst xs) = false := by
  unfold wholesB
  dsimp only
  have : xs.all isInt = false := by rw [List.all_eq_false]; exact ⟨x, hx, by rw [h]; decide⟩
  rw [this, Bool.and_false]
theorem shw_int {i : Int} : shw (.int i) = (toString i : String) := by
  unfold shw toPy PyData.shown
  rfl
theorem gi_bd2 {xs : List Int} {B : Nat} (h : ∀ x ∈ xs, x.natAbs ≤ B) (k : Int) : (gi (0 :: xs) k).natAbs ≤ B := by
  unfold gi
  rw [List.getD_eq_getElem?_getD]
  cases e : (0 :: xs)[k.toNat]? with
  | none => exact Nat.zero_le _
  | some y =>
    rcases List.mem_cons.mp (List.mem_of_getElem? e) with rfl | hy
    · exact Nat.zero_le _
    · exact h y hy
theorem gi_set {B : List Int} {u x v : Int} (hu0 : 0 ≤ u) (hu : u < B.length) (hv : 0 ≤ v) : gi (B.set u.toNat x) v = if v = u then x else gi B v := by
  unfold gi
  rw [List.getD_eq_getElem?_getD, List.getD_eq_getElem?_getD, List.getElem?_set]
  by_cases e : v = u
  · subst e
    rw [if_pos rfl, if_pos rfl, if_pos (by omega)]; rfl
  · rw [if_neg (by omega), if_neg e]
theorem enumI_pos {α : Type} : ∀ {pre post xs : List _} {i : Int} {e : Int × α}, enumI i xs = pre ++ e :: post → e.1 = i + pre.length
  | [], post, [], i, e, h => by cases h
  | [], post, x :: xs, i, e, h => by
    unfold enumI at h
    rw [List.nil_append] at h
    injection h with h1 h2
    rw [← h1]; simp
  | p :: pre, post, [], i, e, h => by cases h
  | p :: pre, post, x :: xs, i, e, h => by
    unfold enumI at h
    rw [List.cons_append] at h
    injection h with h1 h2
    have := enumI_pos h2
    rw [this, List.length_cons]; omega
/-- hs' names each climber anew -/
theorem broken_at {a : Ad} {n : Nat} {rs : List Rp} {hs : List Int} {S : Sto} {k : KD} {ex : XD} {e1 : D} [he1 : Vh S e1 hs] (hl : hs.length = n) (hr : okRs n rs) (q : k (.lst ((brk rs hs).map D.int)) S) : sp_broken a [rigD a n rs, e1] S k ex := by
  subst hl; exact ⟨hs, rs, e1, rfl, he1.h, hr, q⟩
theorem cutD_one {xs : List D} {n : Nat} (h : xs.length = n) : (cutD xs (some 1) none).length = n - 1 := by
  rw [show (some (1 : Int)) = some ((1 : Nat) : Int) from rfl, cutD_from, List.length_drop, h]
theorem cutD_init {xs : List D} : (cutD xs none (some (-1))).length = xs.length - 1 := by
  unfold cutD HT.sIx
  simp
  omega
theorem okEa {d : D} (h : Ea d) : Ok d := ⟨.inl (pln_mono (by decide) (lf_pln h.l))⟩
theorem gi_irange : ∀ {n : Nat} {l k : Int}, 0 ≤ k → k < n → gi (irange l n) k = l + k
  | 0, l, k, h0, h1 => by omega
  | n + 1, l, k, h0, h1 => by
    unfold irange
    by_cases e : k = 0
    · subst e; rw [gi_zero, Int.add_zero]
    · rw [gi_cons (by omega), gi_irange (by omega) (by omega)]; omega
end Z


set_option Elab.async false
set_option synthInstance.maxHeartbeats 2000000
set_option synthInstance.maxSize 2048
set_option linter.all false
set_option maxRecDepth 100000
set_option maxHeartbeats 4000000
namespace Z
open PySem PySem.Spec PyProof.Rows L2
local macro_rules | `(tactic| tm_at "o") => `(tactic| first | (with_reducible assumption) | omega | exact cm1 (by omega) (by omega) | exact cm2 (by omega) (by omega) | (simp only [List.length_map, List.length_append, List.length_cons, List.length_nil, sizeLine_eq, irange_length, enumI_length, List.length_zip, List.length_reverse]; omega) | decide | (simp; done) | (simp only [List.length_map, List.length_append, List.length_cons, List.length_nil, sizeLine_eq, irange_length, enumI_length, List.length_zip, List.length_reverse] at *; omega) | exact ⟨by tm_at "o", by tm_at "o"⟩)
local macro_rules | `(tactic| tm_at "s") => `(tactic| repeat refine stp ?_)
local macro_rules | `(tactic| tm_at "z") => `(tactic| repeat (first | refine stp ?_ | (refine And.intro (by tm_at "o") ?_) | refine ifT (by decide) ?_ | refine ifF (by decide) ?_))


/-! ### draws of the first kind -/
/-- the pool at p -/
class Pq (S : Sto) (p : Addr) : Prop where
  h : ∃ c s : Int, S p = some (.lst [.int c, .int s])
instance pqUpd {S : Sto} {p x : Addr} {o : DO} [a : Nq p x] [h : Pq S p] : Pq (supd S x o) p := ⟨by rw [supd_ne a.h]; exact h.h⟩
instance pqDel {S : Sto} {p x : Addr} [a : Nq p x] [h : Pq S p] : Pq (sdel S x) p := ⟨by unfold sdel; rw [if_neg a.h]; exact h.h⟩
instance pqKp {S S' : Sto} {p : Addr} {ps : List Addr} [k : KpL S S' ps] [a : NotIn p ps] [h : Pq S p] : Pq S' p := ⟨by
  obtain ⟨c, s, h1⟩ := h.h
  exact ⟨c, s, k.h.k p _ h1 a.h⟩⟩
instance pqNew {S : Sto} {p : Addr} {c s : Int} : Pq (supd S p (.lst [.int c, .int s])) p := ⟨c, s, supd_same⟩
theorem Pq.hp {S : Sto} {p : Addr} (h : Pq S p) : Hv S p := ⟨by obtain ⟨c, s, h1⟩ := h.h; rw [h1]; simp⟩
class PowV1 (x y : Int) (v : outParam Int) : Prop where
  c : CPow x y
  h : x ^ y.toNat = v
instance : PowV1 10 9 1000000000 := ⟨⟨by decide, by decide, by decide⟩, by decide⟩
instance : PowV1 10 8 100000000 := ⟨⟨by decide, by decide, by decide⟩, by decide⟩
instance : PowV1 10 12 1000000000000 := ⟨⟨by decide, by decide, by decide⟩, by decide⟩
instance : PowV1 10 18 1000000000000000000 := ⟨⟨by decide, by decide, by decide⟩, by decide⟩
instance (priority := high) {x y v : Int} {S : Sto} {k : KD} [h : PowV1 x y v] : Stp (fPow (.int x) (.int y) S k) (k (.int v) S) := ⟨fun q => ⟨h.c, by rw [h.h]; exact q⟩⟩
def sp__law_pool (_ : Ad) : SpD := fun ds S k _ => ∃ (ns : List Int) (j : Int), ds = [.frl (ns.map D.int), .int j] ∧ (0 ≤ j ∧ j ≤ 1000) ∧ ∀ p S', S p = none → KpL S S' [] → Pq S' p → k (.adr p) S'
def t__law_pool (a : Ad) : TSD := (dSeq (dSet 2 (dC (.int 0))) (dSeq (dIfS (dTest (dBin fLt (dVar 1) (dCB cLen (dCons (dVar 0) dNil)))) (dSet 2 (dBin fIx (dVar 0) (dVar 1))) dNext) (dSeq (dSet 3 (dBin fMod (dBin (fMul false) (dBin (fAdd false) (dBin (fAdd false) (dBin fMod (dVar 2) (dC (.int 2147483629))) (dBin (fMul false) (dBin (fMul false) (dC (.int 7919)) (dVar 1)) (dVar 1))) (dC (.int 13))) (dC (.int 48271))) (dC (.int 2147483647)))) (dSeq (dIfS (dTest (dBin fLt (dVar 2) (dBin fPow (dC (.int 10)) (dC (.int 18))))) (dSet 2 (dC (.int 0))) dNext) (dRet (dLstM (dCons (dVar 2) (dCons (dBin (fAdd true) (dBin fMod (dBin (fMul false) (dVar 3) (dVar 3)) (dC (.int 2147483587))) (dC (.int 1))) dNil))))))))
theorem len__law_pool (a : Ad) : ∀ ds S kk ex, sp__law_pool a ds S kk ex → ds.length = 2 := by
  rintro _ S kk ex ⟨n, j, rfl, _⟩; rfl
instance {a : Ad} {ns : List Int} {j : Int} {S : Sto} {k : KD} {ex : XD} : Stp (sp__law_pool a [.frl (ns.map D.int), .int j] S k ex) ((0 ≤ j ∧ j ≤ 1000) ∧ ∀ p S', S p = none → KpL S S' [] → Pq S' p → k (.adr p) S') := ⟨fun q => ⟨ns, j, rfl, q.1, q.2⟩⟩
theorem vc__law_pool (a : Ad) : ∀ ds S kk ex F H, sp__law_pool a ds S kk ex → t__law_pool a (wdX ex F H S) (endX kk) (startD 4 ds) S := by
  rintro _ S kk ex F H ⟨ns, j, rfl, ⟨h0, h1⟩, hk⟩
  unfold t__law_pool
  show dSeq _ _ _ _ [some _, some _, none, none] _
  iterate 5 refine stp ?_
  refine joinX (fun ρ S' => ∃ (cell : Int) (o3 : Option D), ρ = [some (.frl (ns.map D.int)), some (.int j), some (.int cell), o3] ∧ S' = S) ?_ ?_
  · rintro ρ S' ⟨cell, o3, rfl, rfl⟩
    tm_at "z"
    generalize hs : ((cell % 2147483629 + 7919 * j * j + 13) * 48271 % 2147483647) = sd
    have hs1 : 0 ≤ sd ∧ sd < 2147483647 := by omega
    refine ifb (fun h => ?_) (fun h => ?_)
    · tm_at "z"
      (refine fresh ?_; intro p fr_p)
      tm_at "z"
      exact out1 (hk p _ fr_p.h kp inferInstance)
    · tm_at "z"
      (refine fresh ?_; intro p fr_p)
      tm_at "z"
      exact out1 (hk p _ fr_p.h kp inferInstance)
  · intro X hX
    tm_at "z"
    refine ifb (fun hj => ?_) (fun hj => ?_)
    · tm_at "z"
      rw [List.length_map] at hj
      refine ix_q rfl (gi_at h0 hj) ?_
      tm_at "z"
      exact hX _ _ ⟨_, _, rfl, rfl⟩
    · tm_at "z"
      exact hX _ _ ⟨_, _, rfl, rfl⟩
def sp__law_take (_ : Ad) : SpD := fun ds S k _ => ∃ (p : Addr) (n : Int), ds = [.adr p, .int n] ∧ (0 < n ∧ n < 1073741824) ∧ Pq S p ∧ ∀ r S', 0 ≤ r → r < n → KpL S S' [p] → Pq S' p → k (.int r) S'
def t__law_take (a : Ad) : TSD := (dSeq (dIfS (dTest (dBin fGt (dBin fIx (dVar 0) (dC (.int 0))) (dC (.int 0)))) (dSeq (dSet 2 (dBin fMod (dBin fIx (dVar 0) (dC (.int 0))) (dVar 1))) (dSeq (dAsgS (dBin fFdv (dBin fIx (dVar 0) (dC (.int 0))) (dVar 1)) (dVar 0) (dC (.int 0)) sSetL) (dRet (dVar 2)))) dNext) (dSeq (dAsgS (dBin fMod (dBin (fAdd false) (dBin (fMul false) (dBin fIx (dVar 0) (dC (.int 1))) (dC (.int 48271))) (dC (.int 11))) (dC (.int 2147483647))) (dVar 0) (dC (.int 1)) sSetL) (dRet (dBin fMod (dBin fFdv (dBin fMod (dBin (fMul false) (dBin fIx (dVar 0) (dC (.int 1))) (dBin fIx (dVar 0) (dC (.int 1)))) (dC (.int 2147483629))) (dC (.int 64))) (dVar 1)))))
theorem len__law_take (a : Ad) : ∀ ds S kk ex, sp__law_take a ds S kk ex → ds.length = 2 := by
  rintro _ S kk ex ⟨_, n, rfl, _⟩; rfl
instance {a : Ad} {S : Sto} {p : Addr} {n : Int} {k : KD} {ex : XD} [h : Pq S p] : Stp (sp__law_take a [.adr p, .int n] S k ex) ((0 < n ∧ n < 1073741824) ∧ ∀ r S', 0 ≤ r → r < n → KpL S S' [p] → Pq S' p → k (.int r) S') := ⟨fun ⟨h0, h2⟩ => ⟨p, n, rfl, h0, h, h2⟩⟩
theorem vc__law_take (a : Ad) : ∀ ds S kk ex F H, sp__law_take a ds S kk ex → t__law_take a (wdX ex F H S) (endX kk) (startD 3 ds) S := by
  rintro _ S kk ex F H ⟨p, n, rfl, ⟨h0, h1⟩, hP, hk⟩
  unfold t__law_take
  show dSeq _ _ _ _ [some _, some _, none] _
  obtain ⟨c, s, hp⟩ := hP.h
  haveI : Sv S p (.lst [.int c, .int s]) := ⟨hp⟩
  tm_at "z"
  refine ifb (fun hc => ?_) (fun hc => ?_)
  · tm_at "z"
    exact out1 (hk _ _ (Int.emod_nonneg _ (by omega)) (Int.emod_lt_of_pos _ h0) kp inferInstance)
  · tm_at "z"
    generalize hs : ((s * 48271 + 11) % 2147483647) = sd
    have hs1 : 0 ≤ sd ∧ sd < 2147483647 := by omega
    tm_at "z"
    exact out1 (hk _ _ (Int.emod_nonneg _ (by omega)) (Int.emod_lt_of_pos _ h0) kp inferInstance)
def sp__law_height (_ : Ad) : SpD := fun ds S k _ => ∃ (p : Addr), ds = [.adr p] ∧ Pq S p ∧ ∀ (r : Int) S', r.natAbs ≤ 500000000 → KpL S S' [p] → Pq S' p → k (.int r) S'
def t__law_height (a : Ad) : TSD := (dSeq (dSet 1 (dLst (dCons (dBin fSub (dCall (sp__law_take a) [] (dCons (dVar 0) (dCons (dC (.int 9)) dNil))) (dC (.int 4))) (dCons (dBin fSub (dCall (sp__law_take a) [] (dCons (dVar 0) (dCons (dC (.int 9)) dNil))) (dC (.int 4))) (dCons (dC (.int 0)) (dCons (dBin fSub (dCall (sp__law_take a) [] (dCons (dVar 0) (dCons (dBin fPow (dC (.int 10)) (dC (.int 9))) dNil))) (dBin (fMul false) (dC (.int 5)) (dBin fPow (dC (.int 10)) (dC (.int 8))))) dNil)))))) (dRet (dBin fIx (dVar 1) (dCall (sp__law_take a) [] (dCons (dVar 0) (dCons (dC (.int 4)) dNil))))))
theorem len__law_height (a : Ad) : ∀ ds S kk ex, sp__law_height a ds S kk ex → ds.length = 1 := by
  rintro _ S kk ex ⟨_, rfl, _⟩; rfl
instance {a : Ad} {S : Sto} {p : Addr} {k : KD} {ex : XD} [h : Pq S p] : Stp (sp__law_height a [.adr p] S k ex) (∀ (r : Int) S', r.natAbs ≤ 500000000 → KpL S S' [p] → Pq S' p → k (.int r) S') := ⟨fun h2 => ⟨p, rfl, h, h2⟩⟩
theorem vc__law_height (a : Ad) : ∀ ds S kk ex F H, sp__law_height a ds S kk ex → t__law_height a (wdX ex F H S) (endX kk) (startD 2 ds) S := by
  rintro _ S kk ex F H ⟨p, rfl, hP, hk⟩
  unfold t__law_height
  show dSeq _ _ _ _ [some _, none] _
  haveI := hP.hp
  tm_at "z"
  intro r1 S1 h10 h11 hK1 hP1
  tm_at "z"
  intro r2 S2 h20 h21 hK2 hP2
  tm_at "z"
  intro r3 S3 h30 h31 hK3 hP3
  tm_at "z"
  intro i S4 h40 h41 hK4 hP4
  tm_at "z"
  refine out1 (hk _ _ ?_ kp inferInstance)
  have := gi_mem h40 (xs := [r1 - 4, r2 - 4, 0, r3 - 5 * 100000000]) (by simpa using h41)
  simp only [List.mem_cons, List.not_mem_nil, or_false] at this
  omega
def smI (m : Nat) (hs : List Int) : Prop := ∀ x ∈ hs, x.natAbs ≤ m
def sp__law_high (_ : Ad) : SpD := fun ds S k _ => ∃ (p : Addr) (n : Nat), ds = [.adr p, .int n] ∧ n ≤ 8 ∧ Pq S p ∧ ∀ (hs : List Int) S', hs.length = n → smI 500000000 hs → KpL S S' [p] → Pq S' p → k (encL (0 :: hs)) S'
def t__law_high (a : Ad) : TSD := (dRet (dBin (fAdd false) (dLst (dCons (dC (.int 0)) dNil)) (dLc (iRg1 (dCons (dVar 1) dNil)) (gNameD 2) dYes (dCall (sp__law_height a) [] (dCons (dVar 0) dNil)) [2])))
theorem len__law_high (a : Ad) : ∀ ds S kk ex, sp__law_high a ds S kk ex → ds.length = 2 := by
  rintro _ S kk ex ⟨_, _, rfl, _⟩; rfl
instance {a : Ad} {S : Sto} {p : Addr} {n : Nat} {k : KD} {ex : XD} [h : Pq S p] : Stp (sp__law_high a [.adr p, .int (n : Nat)] S k ex) (n ≤ 8 ∧ ∀ (hs : List Int) S', hs.length = n → smI 500000000 hs → KpL S S' [p] → Pq S' p → k (encL (0 :: hs)) S') := ⟨fun h2 => ⟨p, n, rfl, h2.1, h, h2.2⟩⟩
theorem vc__law_high (a : Ad) : ∀ ds S kk ex F H, sp__law_high a ds S kk ex → t__law_high a (wdX ex F H S) (endX kk) (startD 3 ds) S := by
  rintro _ S kk ex F H ⟨p, n, rfl, hn, hP, hk⟩
  unfold t__law_high
  show dRet _ _ _ [some _, some _, none] _
  haveI := hP.hp
  tm_at "z"
  refine comp_st (enc2 := D.int) (fun (pre post : List Int) S' (acc : List Int) => KpL S S' [p] ∧ Pq S' p ∧ acc.length = pre.length ∧ smI 500000000 acc) ⟨KpL.refl, hP, rfl, by unfold smI; simp⟩ (fun _ _ _ _ _ => True.intro) ?_ ?_
  · rintro pre t post S1 acc cont hpre ⟨hK, hP1, hl, hs⟩ hc
    tm_at "z"
    intro r S2 hr hK2 hP2
    exact hc S2 r ⟨kp, inferInstance, by simp [hl], all_snoc hs hr⟩
  · rintro S1 acc ⟨hK, hP1, hl, hs⟩
    rw [irange_length, Int.toNat_natCast] at hl
    tm_at "z"
    exact out1 (hk acc _ hl hs hK hP1)
theorem other_knot1 {u v n w : Int} (h0 : 0 ≤ u) (h1 : u < n + 1) (h2 : 0 ≤ v) (h3 : v < n) (e : (u + 1 + v) % (n + 1) = w) : 0 ≤ w ∧ w ≤ n ∧ w ≠ u := by
  have := Int.emod_nonneg (u + 1 + v) (show n + 1 ≠ 0 by omega)
  have := Int.emod_lt_of_pos (u + 1 + v) (show 0 < n + 1 by omega)
  refine ⟨by omega, by omega, fun e2 => ?_⟩
  by_cases hlt : u + 1 + v < n + 1
  · rw [Int.emod_eq_of_lt (by omega) hlt] at e; omega
  · have e2 : (u + 1 + v) % (n + 1) = u + 1 + v - (n + 1) := by
      rw [← Int.sub_emod_right]
      exact Int.emod_eq_of_lt (by omega) (by omega)
    omega
def sp__law_letting (_ : Ad) : SpD := fun ds S k _ => ∃ (p : Addr) (hs : List Int) (m : Int), ds = [.adr p, encL (0 :: hs), .int m] ∧ (1 ≤ hs.length ∧ hs.length ≤ 8 ∧ 0 ≤ m ∧ m ≤ 30 ∧ smI 500000000 hs) ∧ Pq S p ∧ ∀ (rs : List Rp) q S', S q = none → (rs.length : Int) ≤ 2 * m → (∀ r ∈ rs, r.ok hs.length ∧ let1 hs r ∧ r.mo.natAbs ≤ 2000000000) → KpL S S' [p] → Pq S' p → Sv S' q (.lst (rs.map Rp.d)) → q ≠ p → k (.adr q) S'
def t__law_letting (a : Ad) : TSD := (dSeq (dSet 3 (dBin fSub (dCB cLen (dCons (dVar 1) dNil)) (dC (.int 1)))) (dSeq (dSet 4 (dLstM dNil)) (dSeq (dFor (iRg1 (dCons (dCall (sp__law_take a) [] (dCons (dVar 0) (dCons (dBin (fAdd false) (dVar 2) (dC (.int 1))) dNil))) dNil)) (gNameD 5) (dSeq (dSet 6 (dCall (sp__law_take a) [] (dCons (dVar 0) (dCons (dBin (fAdd false) (dVar 3) (dC (.int 1))) dNil)))) (dSeq (dSet 7 (dBin fMod (dBin (fAdd false) (dBin (fAdd false) (dVar 6) (dC (.int 1))) (dCall (sp__law_take a) [] (dCons (dVar 0) (dCons (dVar 3) dNil)))) (dBin (fAdd false) (dVar 3) (dC (.int 1))))) (dSeq (dSet 8 (dBin fIx (dLst (dCons (dC (.int 0)) (dCons (dC (.int 0)) (dCons (dC (.int 0)) (dCons (dC (.int 1)) (dCons (dC (.int 2)) (dCons (dC (.int 5)) (dCons (dBin fPow (dC (.int 10)) (dC (.int 9))) dNil)))))))) (dCall (sp__law_take a) [] (dCons (dVar 0) (dCons (dC (.int 7)) dNil))))) (dSeq (dDrop (dMt mAppend (dVar 4) (dCons (dTup (dCons (dVar 6) (dCons (dVar 7) (dCons (dBin (fAdd false) (dBin fSub (dBin fIx (dVar 1) (dVar 6)) (dBin fIx (dVar 1) (dVar 7))) (dVar 8)) dNil)))) dNil))) (dIfS (dTest (dBin fEq (dCall (sp__law_take a) [] (dCons (dVar 0) (dCons (dC (.int 4)) dNil))) (dC (.int 0)))) (dDrop (dMt mAppend (dVar 4) (dCons (dTup (dCons (dVar 7) (dCons (dVar 6) (dCons (dBin fSub (dBin fIx (dVar 1) (dVar 7)) (dBin fIx (dVar 1) (dVar 6))) dNil)))) dNil))) dNext)))))) (dRet (dVar 4)))))
theorem len__law_letting (a : Ad) : ∀ ds S kk ex, sp__law_letting a ds S kk ex → ds.length = 3 := by
  rintro _ S kk ex ⟨_, _, _, rfl, _⟩; rfl
instance {a : Ad} {S : Sto} {p : Addr} {hs : List Int} {m : Int} {k : KD} {ex : XD} [h : Pq S p] {e1 : D} [he1 : En e1 encL (0 :: hs)] : Stp (sp__law_letting a [.adr p, e1, .int m] S k ex) ((1 ≤ hs.length ∧ hs.length ≤ 8 ∧ 0 ≤ m ∧ m ≤ 30 ∧ smI 500000000 hs) ∧ ∀ (rs : List Rp) q S', S q = none → (rs.length : Int) ≤ 2 * m → (∀ r ∈ rs, r.ok hs.length ∧ let1 hs r ∧ r.mo.natAbs ≤ 2000000000) → KpL S S' [p] → Pq S' p → Sv S' q (.lst (rs.map Rp.d)) → q ≠ p → k (.adr q) S') := by
  have q1 := he1.h; subst q1; exact ⟨fun h2 => ⟨p, hs, m, rfl, h2.1, h, h2.2⟩⟩
theorem vc__law_letting (a : Ad) : ∀ ds S kk ex F H, sp__law_letting a ds S kk ex → t__law_letting a (wdX ex F H S) (endX kk) (startD 9 ds) S := by
  rintro _ S kk ex F H ⟨p, hs, m, rfl, ⟨h1, h8, hm0, hm, hsm⟩, hP, hk⟩
  unfold t__law_letting
  show dSeq _ _ _ _ [some _, some _, some _, none, none, none, none, none, none] _
  haveI := hP.hp
  have hb : ∀ i : Int, 0 ≤ i → i < (0 :: hs).length → (gi (0 :: hs) i).natAbs ≤ 500000000 := fun i h0 h1 => by
    rcases List.mem_cons.mp (gi_mem h0 h1) with h | h
    · rw [h]; decide
    · exact hsm _ h
  tm_at "z"
  rw [show (((0 :: hs).length : Int) - 1) = hs.length by simp]
  (refine fresh ?_; intro x fr_x)
  tm_at "z"
  intro t S1 ht0 ht1 hK1 hP1
  tm_at "z"
  refine forT (fun pre post ρ S' => ∃ (rs : List Rp) (o5 o6 o7 o8 : Option D), ρ = [some (.adr p), some (encL (0 :: hs)), some (.int m), some (.int hs.length), some (.adr x), o5, o6, o7, o8] ∧ Sv S' x (.lst (rs.map Rp.d)) ∧ KpL S S' [p] ∧ Pq S' p ∧
    rs.length ≤ 2 * pre.length ∧ pre.length + post.length = t.toNat ∧ (∀ r ∈ rs, r.ok hs.length ∧ let1 hs r ∧ r.mo.natAbs ≤ 2000000000)) ⟨[], _, _, _, _, rfl, inferInstance, kp, hP1, by simp, by simp [irange_length], by simp⟩ (fun _ _ _ _ _ => True.intro) ?_ ?_
  · rintro pre t post ρ S3 cont hpre ⟨rs, o5, o6, o7, o8, rfl, hx, hK3, hP3, l1, l2, b1⟩ hc
    tm_at "z"
    intro u S4 hu0 hu1 hK4 hP4
    tm_at "z"
    intro v S5 hv0 hv1 hK5 hP5
    tm_at "z"
    generalize hw : (u + 1 + v) % ((hs.length : Int) + 1) = w
    have hw1 := other_knot1 hu0 hu1 hv0 hv1 hw
    tm_at "z"
    intro i S6 hi0 hi1 hK6 hP6
    tm_at "z"
    have hroom : 0 ≤ gi [(0 : Int), 0, 0, 1, 2, 5, 1000000000] i ∧ gi [(0 : Int), 0, 0, 1, 2, 5, 1000000000] i ≤ 1000000000 := by have := gi_mem hi0 (xs := [(0 : Int), 0, 0, 1, 2, 5, 1000000000]) (by simpa using hi1); generalize gi [(0 : Int), 0, 0, 1, 2, 5, 1000000000] i = z at this ⊢; simp at this; omega
    generalize gi [(0 : Int), 0, 0, 1, 2, 5, 1000000000] i = room at hroom ⊢
    have hbu := hb u hu0 (by simp; omega)
    have hbw := hb w hw1.1 (by simp; omega)
    tm_at "z"
    intro i2 S7 hj0 hj1 hK7 hP7
    tm_at "z"
    have g1 : (Rp.ok hs.length ⟨u, w, gi (0 :: hs) u - gi (0 :: hs) w + room⟩ ∧ let1 hs ⟨u, w, gi (0 :: hs) u - gi (0 :: hs) w + room⟩ ∧ (gi (0 :: hs) u - gi (0 :: hs) w + room).natAbs ≤ 2000000000) := ⟨⟨hu0, by show u ≤ _; omega, hw1.1, hw1.2.1, fun e => hw1.2.2 e.symm⟩, by unfold let1; dsimp only; omega, by omega⟩
    refine ifb (fun h0 => ?_) (fun h0 => ?_)
    · tm_at "z"
      have g2 : (Rp.ok hs.length ⟨w, u, gi (0 :: hs) w - gi (0 :: hs) u⟩ ∧ let1 hs ⟨w, u, gi (0 :: hs) w - gi (0 :: hs) u⟩ ∧ (gi (0 :: hs) w - gi (0 :: hs) u).natAbs ≤ 2000000000) := ⟨⟨hw1.1, hw1.2.1, hu0, by show u ≤ _; omega, hw1.2.2⟩, by unfold let1; dsimp only; omega, by omega⟩
      exact hc _ _ ⟨_, _, _, _, _, rfl, (Sv.tl2 (by first | rfl | simp)), kp, inferInstance, by simp; omega, by simp at l2 ⊢; omega, all_snoc (all_snoc b1 g1) g2⟩
    · tm_at "z"
      exact hc _ _ ⟨_, _, _, _, _, rfl, (Sv.tl2 (by first | rfl | simp)), kp, inferInstance, by simp; omega, by simp at l2 ⊢; omega, all_snoc b1 g1⟩
  · rintro ρ S3 ⟨rs, o5, o6, o7, o8, rfl, hx, hK3, hP3, l1, l2, b1⟩
    tm_at "z"
    rw [irange_length] at l1
    have hxp : Nq x p := inferInstance
    exact out1 (hk rs x _ nd (by omega) b1 kp inferInstance inferInstance hxp.h)
/-- all but the first -/
instance (priority := 2000) slTail {m : Bool} {x : Int} {hs : List Int} {S : Sto} {k : KD} : Stp (fSl m (encL (x :: hs)) (some 1) none S k) (mkL m (hs.map D.int) S k) := ⟨fun q => by
  refine (ls_sl (d := encL (x :: hs)) (xs := (x :: hs).map D.int)).go ?_
  rw [List.map_cons, cutD_tail]; exact q⟩
end Z


set_option Elab.async false
set_option synthInstance.maxHeartbeats 2000000
set_option synthInstance.maxSize 2048
set_option linter.all false
set_option maxRecDepth 100000
set_option maxHeartbeats 4000000
namespace Z
open PySem PySem.Spec PyProof.Rows L2
local macro_rules | `(tactic| tm_at "o") => `(tactic| first | (with_reducible assumption) | omega | exact cm1 (by omega) (by omega) | exact cm2 (by omega) (by omega) | (simp only [List.length_map, List.length_append, List.length_cons, List.length_nil, sizeLine_eq, irange_length, enumI_length, List.length_zip, List.length_reverse]; omega) | decide | (simp; done) | (simp only [List.length_map, List.length_append, List.length_cons, List.length_nil, sizeLine_eq, irange_length, enumI_length, List.length_zip, List.length_reverse] at *; omega) | exact ⟨by tm_at "o", by tm_at "o"⟩)
local macro_rules | `(tactic| tm_at "s") => `(tactic| repeat refine stp ?_)
local macro_rules | `(tactic| tm_at "z") => `(tactic| repeat (first | refine stp ?_ | (refine And.intro (by tm_at "o") ?_) | refine ifT (by decide) ?_ | refine ifF (by decide) ?_))


def rvR (rs : List Rp) : List Rp := rs.map fun r => ⟨r.lo, r.up, r.mo⟩
theorem rvR_ok {rs : List Rp} {n : Int} (h : ∀ r ∈ rs, r.ok n) : ∀ r ∈ rvR rs, r.ok n := fun r hr => by
  unfold rvR at hr
  obtain ⟨s, hs, rfl⟩ := List.mem_map.mp hr
  obtain ⟨a, b, c, d, e⟩ := h s hs
  exact ⟨c, d, a, b, fun q => e q.symm⟩
theorem rvR_rvR (rs : List Rp) : rvR (rvR rs) = rs := by unfold rvR; rw [List.map_map]; exact List.map_id rs
/-! ### rigs turned over, called otherwise, measured from marks -/
def sp_Rig_turned (a : Ad) : SpD := fun ds S k _ => ∃ (n : Int) (rs : List Rp), ds = [rigD a n rs] ∧ (1 ≤ n ∧ n ≤ 8 ∧ (∀ r ∈ rs, r.ok n) ∧ rs.length ≤ 60) ∧ k (rigD a n (rvR rs)) S
def t_Rig_turned (a : Ad) : TSD := (dRet (dFrz (dMake a.Rig (sp_Rig___init__ a) [] (dCons (dFld a.Rig ns_Rig 0 (dVar 0)) (dCons (dLc (iSq (dFld a.Rig ns_Rig 1 (dVar 0))) (gSeqD 3 (gConsD (gNameD 1) (gConsD (gNameD 2) (gConsD (gNameD 3) gNilD)))) dYes (dTup (dCons (dVar 2) (dCons (dVar 1) (dCons (dVar 3) dNil)))) [1, 2, 3]) dNil)))))
theorem len_Rig_turned (a : Ad) : ∀ ds S kk ex, sp_Rig_turned a ds S kk ex → ds.length = 1 := by
  rintro _ S kk ex ⟨_, _, rfl, _⟩; rfl
theorem vc_Rig_turned (a : Ad) : ∀ ds S kk ex F H, sp_Rig_turned a ds S kk ex → t_Rig_turned a (wdX ex F H S) (endX kk) (startD 4 ds) S := by
  rintro _ S kk ex F H ⟨n, rs, rfl, ⟨h1, h2, h3, h4⟩, hk⟩
  unfold t_Rig_turned rigD
  show dRet _ _ _ [some _, none, none, none] _
  tm_at "z"
  refine comp_tl (f := fun r => Rp.d ⟨r.lo, r.up, r.mo⟩) (fun r hr c1 h1 => ?_) ?_
  · unfold Rp.d
    tm_at "z"
    exact h1
  haveI : TL (rs.map fun r => Rp.d ⟨r.lo, r.up, r.mo⟩) Rp.d (rvR rs) := ⟨by unfold rvR; rw [List.map_map]; rfl⟩
  have hok : ∀ r ∈ rvR rs, r.ok n := rvR_ok h3
  have hlen : (rvR rs).length ≤ 60 := by unfold rvR; rw [List.length_map]; exact h4
  tm_at "z"
  (refine fresh ?_; intro x fr_x)
  tm_at "z"
  exact outK hk
instance {a : Ad} {n : Int} {rs : List Rp} {S : Sto} {k : KD} {ex : XD} : Stp (sp_Rig_turned a [rigD a n rs] S k ex) ((1 ≤ n ∧ n ≤ 8 ∧ (∀ r ∈ rs, r.ok n) ∧ rs.length ≤ 60) ∧ k (rigD a n (rvR rs)) S) := ⟨fun ⟨h1, h2⟩ => ⟨n, rs, rfl, h1, h2⟩⟩
/-! called otherwise -/
instance {m : Bool} {ns : List Int} {S : Sto} {k : KD} : Stp (cSorted m [.lst (ns.map D.int)] S k) (∀ ms : List Int, ms.Perm ns → ms.Pairwise (· ≤ ·) → mkL m (ms.map D.int) S k) := ⟨fun q => by
  unfold cSorted onInts
  dsimp only
  rw [show vl S (.lst (ns.map D.int)) = some (ns.map D.int) from rfl, Option.bind_some, ints_map]
  exact q⟩
instance {m : Bool} {ns : List Int} {S : Sto} {k : KD} : Stp (cSorted m [encL ns] S k) (∀ ms : List Int, ms.Perm ns → ms.Pairwise (· ≤ ·) → mkL m (ms.map D.int) S k) := ⟨fun q => by
  unfold cSorted onInts encL
  dsimp only
  rw [show vl S (.lst (ns.map D.int)) = some (ns.map D.int) from rfl, Option.bind_some, ints_map]
  exact q⟩
def cdR (ord : List Int) (rs : List Rp) : List Rp := rs.map fun r => ⟨gi (0 :: ord) r.up, gi (0 :: ord) r.lo, r.mo⟩
/-- an order of the climbers -/
def ordP (n : Nat) (ord : List Int) : Prop := ord.Perm (irange 1 n)
theorem ordP.len {n : Nat} {ord : List Int} (h : ordP n ord) : ord.length = n := by rw [h.length_eq, irange_length]
theorem irange_nodup2 : ∀ (n : Nat) (lo : Int), (irange lo n).Nodup
  | 0, _ => by unfold irange; exact List.nodup_nil
  | n + 1, lo => by
    unfold irange
    rw [List.nodup_cons, irange_mem]
    exact ⟨by omega, irange_nodup2 n (lo + 1)⟩
theorem ordP.nod {n : Nat} {ord : List Int} (h : ordP n ord) : (0 :: ord).Nodup := by
  rw [List.nodup_cons]
  refine ⟨fun hm => ?_, h.nodup_iff.mpr (irange_nodup2 _ _)⟩
  have := h.mem_iff.mp hm
  rw [irange_mem] at this
  omega
theorem ordP.inj {n : Nat} {ord : List Int} (h : ordP n ord) {u v : Int} (hu : kno n u) (hv : kno n v) (e : gi (0 :: ord) u = gi (0 :: ord) v) : u = v := by
  obtain ⟨a1, a2⟩ := hu
  obtain ⟨b1, b2⟩ := hv
  have hl := h.len
  have lu : u.toNat < (0 :: ord).length := by rw [List.length_cons]; omega
  have lv : v.toNat < (0 :: ord).length := by rw [List.length_cons]; omega
  unfold gi at e
  rw [List.getD_eq_getElem?_getD, List.getD_eq_getElem?_getD, List.getElem?_eq_getElem lu, List.getElem?_eq_getElem lv] at e
  have := (List.getElem_inj h.nod).mp e
  omega
theorem ordP.kn {n : Nat} {ord : List Int} (h : ordP n ord) {u : Int} (hu : kno n u) : kno n (gi (0 :: ord) u) := by
  obtain ⟨a1, a2⟩ := hu
  have hl := h.len
  have lu : u.toNat < (0 :: ord).length := by rw [List.length_cons]; omega
  have hm : gi (0 :: ord) u ∈ 0 :: ord := by
    unfold gi
    rw [List.getD_eq_getElem?_getD, List.getElem?_eq_getElem lu]
    exact List.getElem_mem lu
  rcases List.mem_cons.mp hm with e | hm
  · rw [e]; exact ⟨Int.le_refl 0, by omega⟩
  · have := h.mem_iff.mp hm
    rw [irange_mem] at this
    exact ⟨by omega, by omega⟩
theorem cdR_ok {n : Nat} {ord : List Int} {rs : List Rp} (h : ordP n ord) (hr : ∀ r ∈ rs, r.ok n) : ∀ r ∈ cdR ord rs, r.ok n := fun r hm => by
  unfold cdR at hm
  obtain ⟨s, hs, rfl⟩ := List.mem_map.mp hm
  obtain ⟨a, b, c, d, e⟩ := hr s hs
  have k1 := h.kn (u := s.up) ⟨a, b⟩
  have k2 := h.kn (u := s.lo) ⟨c, d⟩
  exact ⟨k1.1, k1.2, k2.1, k2.2, fun q => e (h.inj ⟨a, b⟩ ⟨c, d⟩ q)⟩
theorem asc_eq : ∀ {xs ys : List Int}, xs.Pairwise (· < ·) → ys.Pairwise (· < ·) → (∀ k, k ∈ xs ↔ k ∈ ys) → xs = ys
  | [], [], _, _, _ => rfl
  | [], y :: ys, _, _, h => absurd ((h y).mpr List.mem_cons_self) (by simp)
  | x :: xs, [], _, _, h => absurd ((h x).mp List.mem_cons_self) (by simp)
  | x :: xs, y :: ys, hx, hy, h => by
    rw [List.pairwise_cons] at hx hy
    have hxy : x = y := by
      rcases List.mem_cons.mp ((h x).mp List.mem_cons_self) with e | m
      · exact e
      · rcases List.mem_cons.mp ((h y).mpr List.mem_cons_self) with e | m2
        · exact e.symm
        · have a1 := hx.1 y m2
          have a2 := hy.1 x m
          omega
    subst hxy
    rw [asc_eq hx.2 hy.2 fun k => ?_]
    constructor
    · intro m
      rcases List.mem_cons.mp ((h k).mp (List.mem_cons_of_mem _ m)) with e | m2
      · have := hx.1 k m; omega
      · exact m2
    · intro m
      rcases List.mem_cons.mp ((h k).mpr (List.mem_cons_of_mem _ m)) with e | m2
      · have := hy.1 k m; omega
      · exact m2
theorem irange_asc : ∀ (n : Nat) (lo : Int), (irange lo n).Pairwise (· < ·)
  | 0, _ => by unfold irange; exact List.Pairwise.nil
  | n + 1, lo => by
    unfold irange
    rw [List.pairwise_cons]
    exact ⟨fun x hx => by rw [irange_mem] at hx; omega, irange_asc n (lo + 1)⟩
theorem ordP.sorted {n : Nat} {ord ms : List Int} (h : ordP n ord) (h1 : ms.Perm ord) (h2 : ms.Pairwise (· ≤ ·)) : ms = irange 1 n := by
  have hp : ms.Perm (irange 1 n) := h1.trans h
  have hn : ms.Nodup := hp.nodup_iff.mpr (irange_nodup2 _ _)
  refine asc_eq ?_ (irange_asc _ _) fun k => hp.mem_iff
  exact (h2.and hn).imp fun h => by omega
def sp_Rig_called (a : Ad) : SpD := fun ds S k ex => ∃ (n : Nat) (rs : List Rp) (d : D), ds = [rigD a n rs, d] ∧ (1 ≤ n ∧ n ≤ 8 ∧ (∀ r ∈ rs, r.ok n) ∧ rs.length ≤ 60) ∧ Ok d ∧ (∀ ord, d = encL ord → ordP n ord → k (rigD a n (cdR ord rs)) S) ∧ ((∀ ord, d = encL ord → ¬ ordP n ord) → ex a.NoOrder d S)
def t_Rig_called (a : Ad) : TSD := (dSeq (dIfS (dOr (dNot (dTest (dCall (sp_are_wholes a) [] (dCons (dVar 1) (dCons (dFld a.Rig ns_Rig 0 (dVar 0)) dNil))))) (dTest (dBin fNe (dCB (cSorted false) (dCons (dVar 1) dNil)) (dLstRg2 false (dC (.int 1)) (dBin (fAdd false) (dFld a.Rig ns_Rig 0 (dVar 0)) (dC (.int 1))))))) (dRaise a.NoOrder (dVar 1)) dNext) (dSeq (dSet 2 (dBin (fAdd false) (dLst (dCons (dC (.int 0)) dNil)) (dVar 1))) (dRet (dFrz (dMake a.Rig (sp_Rig___init__ a) [] (dCons (dFld a.Rig ns_Rig 0 (dVar 0)) (dCons (dLc (iSq (dFld a.Rig ns_Rig 1 (dVar 0))) (gSeqD 3 (gConsD (gNameD 3) (gConsD (gNameD 4) (gConsD (gNameD 5) gNilD)))) dYes (dTup (dCons (dBin fIx (dVar 2) (dVar 3)) (dCons (dBin fIx (dVar 2) (dVar 4)) (dCons (dVar 5) dNil)))) [3, 4, 5]) dNil)))))))
theorem len_Rig_called (a : Ad) : ∀ ds S kk ex, sp_Rig_called a ds S kk ex → ds.length = 2 := by
  rintro _ S kk ex ⟨_, _, _, rfl, _⟩; rfl
theorem vc_Rig_called (a : Ad) : ∀ ds S kk ex F H, sp_Rig_called a ds S kk ex → t_Rig_called a (wdX ex F H S) (endX kk) (startD 6 ds) S := by
  rintro _ S kk ex F H ⟨n, rs, d, rfl, ⟨h1, h2, h3, h4⟩, hd, hk, hx⟩
  unfold t_Rig_called rigD
  show dSeq _ _ _ _ [some _, some _, none, none, none, none] _
  tm_at "z"
  cases hw : wholesB n d with
  | false =>
    tm_at "z"
    refine out1 (hx fun ord e ho => ?_)
    subst e
    rw [wholesB_L, ho.len, decide_eq_true rfl] at hw
    cases hw
  | true =>
    obtain ⟨ord, rfl, hl⟩ := wholesB_of hw
    have hl : ord.length = n := by omega
    tm_at "z"
    intro ms hp hs
    tm_at "z"
    rw [show ((n : Int) + 1 - 1).toNat = n by omega]
    by_cases hq : ms = irange 1 n
    · subst hq
      have ho : ordP n ord := hp.symm
      have hk := hk ord rfl ho
      rw [show decide (irange 1 n = irange 1 n) = true by simp]
      tm_at "z"
      refine comp_tl (f := fun r => Rp.d ⟨gi (0 :: ord) r.up, gi (0 :: ord) r.lo, r.mo⟩) (fun r hr c1 k1 => ?_) ?_
      · obtain ⟨g1, g2, g3, g4, _⟩ := h3 r hr
        have hl0 : ((0 :: ord).length : Int) = n + 1 := by rw [List.length_cons]; omega
        unfold Rp.d
        tm_at "z"
        exact k1
      haveI : TL (rs.map fun r => Rp.d ⟨gi (0 :: ord) r.up, gi (0 :: ord) r.lo, r.mo⟩) Rp.d (cdR ord rs) := ⟨by unfold cdR; rw [List.map_map]; rfl⟩
      have hok : ∀ r ∈ cdR ord rs, r.ok n := cdR_ok ho h3
      have hlen : (cdR ord rs).length ≤ 60 := by unfold cdR; rw [List.length_map]; exact h4
      tm_at "z"
      (refine fresh ?_; intro x fr_x)
      tm_at "z"
      exact outK hk
    · rw [decide_eq_false hq]
      tm_at "z"
      refine out1 (hx fun ord' e ho => ?_)
      have : ord = ord' := by have := congrArg hsOf e; rwa [hsOf_L, hsOf_L] at this
      subst this
      exact hq (ho.sorted hp hs)
instance {a : Ad} {n : Nat} {rs : List Rp} {ord : List Int} {S : Sto} {k : KD} {ex : XD} {e1 : D} [he1 : En e1 encL ord] : Stp (sp_Rig_called a [rigD a n rs, e1] S k ex) ((1 ≤ n ∧ n ≤ 8 ∧ (∀ r ∈ rs, r.ok n) ∧ rs.length ≤ 60 ∧ ordP n ord) ∧ k (rigD a n (cdR ord rs)) S) := by
  rw [he1.h]; exact ⟨fun ⟨⟨h1, h2, h3, h4, h5⟩, q⟩ => ⟨n, rs, _, rfl, ⟨h1, h2, h3, h4⟩, inferInstance, fun ord' e ho => by
    have : ord = ord' := by have := congrArg hsOf e; rwa [hsOf_L, hsOf_L] at this
    subst this; exact q, fun h => (h _ rfl h5).elim⟩⟩
/-! measured from marks -/
def msR (b : List Int) (rs : List Rp) : List Rp := rs.map fun r => ⟨r.up, r.lo, r.mo + gi (0 :: b) r.up - gi (0 :: b) r.lo⟩
theorem msR_ok {n : Int} {b : List Int} {rs : List Rp} (hr : ∀ r ∈ rs, r.ok n) : ∀ r ∈ msR b rs, r.ok n := fun r hm => by
  unfold msR at hm
  obtain ⟨s, hs, rfl⟩ := List.mem_map.mp hm
  exact hr s hs
def sp_Rig_measured (a : Ad) : SpD := fun ds S k ex => ∃ (n : Nat) (rs : List Rp) (d : D), ds = [rigD a n rs, d] ∧ (1 ≤ n ∧ n ≤ 8 ∧ (∀ r ∈ rs, r.ok n) ∧ rs.length ≤ 60) ∧ Ok d ∧ (∀ b, d = encL b → b.length = n → k (rigD a n (msR b rs)) S) ∧ (wholesB n d = false → ex a.NoHeights d S)
def t_Rig_measured (a : Ad) : TSD := (dSeq (dIfS (dNot (dTest (dCall (sp_are_wholes a) [] (dCons (dVar 1) (dCons (dFld a.Rig ns_Rig 0 (dVar 0)) dNil))))) (dRaise a.NoHeights (dVar 1)) dNext) (dSeq (dSet 2 (dBin (fAdd false) (dLst (dCons (dC (.int 0)) dNil)) (dVar 1))) (dSeq (dSet 3 (dLc (iSq (dFld a.Rig ns_Rig 1 (dVar 0))) (gSeqD 3 (gConsD (gNameD 4) (gConsD (gNameD 5) (gConsD (gNameD 6) gNilD)))) dYes (dTup (dCons (dVar 4) (dCons (dVar 5) (dCons (dBin fSub (dBin (fAdd false) (dVar 6) (dBin fIx (dVar 2) (dVar 4))) (dBin fIx (dVar 2) (dVar 5))) dNil)))) [4, 5, 6])) (dRet (dFrz (dMake a.Rig (sp_Rig___init__ a) [] (dCons (dFld a.Rig ns_Rig 0 (dVar 0)) (dCons (dVar 3) dNil))))))))
theorem len_Rig_measured (a : Ad) : ∀ ds S kk ex, sp_Rig_measured a ds S kk ex → ds.length = 2 := by
  rintro _ S kk ex ⟨_, _, _, rfl, _⟩; rfl
theorem vc_Rig_measured (a : Ad) : ∀ ds S kk ex F H, sp_Rig_measured a ds S kk ex → t_Rig_measured a (wdX ex F H S) (endX kk) (startD 7 ds) S := by
  rintro _ S kk ex F H ⟨n, rs, d, rfl, ⟨h1, h2, h3, h4⟩, hd, hk, hx⟩
  unfold t_Rig_measured rigD
  show dSeq _ _ _ _ [some _, some _, none, none, none, none, none] _
  tm_at "z"
  cases hw : wholesB n d with
  | false =>
    tm_at "z"
    exact out1 (hx hw)
  | true =>
    obtain ⟨b, rfl, hl⟩ := wholesB_of hw
    have hl : b.length = n := by omega
    have hk := hk b rfl hl
    tm_at "z"
    refine comp_tl (f := fun r => Rp.d ⟨r.up, r.lo, r.mo + gi (0 :: b) r.up - gi (0 :: b) r.lo⟩) (fun r hr c1 k1 => ?_) ?_
    · obtain ⟨g1, g2, g3, g4, _⟩ := h3 r hr
      have hl0 : ((0 :: b).length : Int) = n + 1 := by rw [List.length_cons]; omega
      unfold Rp.d
      tm_at "z"
      exact k1
    haveI : TL (rs.map fun r => Rp.d ⟨r.up, r.lo, r.mo + gi (0 :: b) r.up - gi (0 :: b) r.lo⟩) Rp.d (msR b rs) := ⟨by unfold msR; rw [List.map_map]; rfl⟩
    have hok : ∀ r ∈ msR b rs, r.ok n := msR_ok h3
    have hlen : (msR b rs).length ≤ 60 := by unfold msR; rw [List.length_map]; exact h4
    tm_at "z"
    (refine fresh ?_; intro x fr_x)
    tm_at "z"
    exact outK hk
instance {a : Ad} {n : Nat} {rs : List Rp} {b : List Int} {S : Sto} {k : KD} {ex : XD} {e1 : D} [he1 : En e1 encL b] : Stp (sp_Rig_measured a [rigD a n rs, e1] S k ex) ((1 ≤ n ∧ n ≤ 8 ∧ (∀ r ∈ rs, r.ok n) ∧ rs.length ≤ 60 ∧ b.length = n) ∧ k (rigD a n (msR b rs)) S) := by
  rw [he1.h]; exact ⟨fun ⟨⟨h1, h2, h3, h4, h5⟩, q⟩ => ⟨n, rs, _, rfl, ⟨h1, h2, h3, h4⟩, inferInstance, fun b' e hb => by
    have : b = b' := by have := congrArg hsOf e; rwa [hsOf_L, hsOf_L] at this
    subst this; exact q, fun h => by rw [wholesB_L, h5, decide_eq_true rfl] at h; cases h⟩⟩
/-! the own == -/
def sp_Rig___eq__ (a : Ad) : SpD := fun ds S k _ => ∃ (n m : Int) (rs qs : List Rp), ds = [rigD a n rs, rigD a m qs] ∧ k (.bl (decide (n = m ∧ rs = qs))) S
def t_Rig___eq__ (a : Ad) : TSD := (dSeq (dIfS (dNot (dTest (dCB (cIsC a.Rig) (dCons (dVar 1) (dCons (dC (.adr a.Rig)) dNil))))) (dRet (dC (.bl false))) dNext) (dRet (dAndV (dBin fEq (dFld a.Rig ns_Rig 0 (dVar 0)) (dFld a.Rig ns_Rig 0 (dVar 1))) (dBin fEq (dFld a.Rig ns_Rig 1 (dVar 0)) (dFld a.Rig ns_Rig 1 (dVar 1))))))
theorem len_Rig___eq__ (a : Ad) : ∀ ds S kk ex, sp_Rig___eq__ a ds S kk ex → ds.length = 2 := by
  rintro _ S kk ex ⟨_, _, _, _, rfl, _⟩; rfl
theorem deqs_rp : ∀ (rs qs : List Rp), deqs (rs.map Rp.d) (qs.map Rp.d) = decide (rs = qs)
  | [], [] => by unfold deqs; simp
  | [], _ :: _ => by unfold deqs; simp
  | _ :: _, [] => by unfold deqs; simp
  | r :: rs, q :: qs => by
    rw [List.map_cons, List.map_cons]
    unfold deqs
    rw [deq_rp, deqs_rp rs qs]
    by_cases h1 : r = q <;> by_cases h2 : rs = qs <;> simp [h1, h2]
theorem vc_Rig___eq__ (a : Ad) : ∀ ds S kk ex F H, sp_Rig___eq__ a ds S kk ex → t_Rig___eq__ a (wdX ex F H S) (endX kk) (startD 2 ds) S := by
  rintro _ S kk ex F H ⟨n, m, rs, qs, rfl, hk⟩
  unfold t_Rig___eq__ rigD
  show dSeq _ _ _ _ [some _, some _] _
  tm_at "z"
  refine .inl ⟨by unfold isC; simp, ?_⟩
  tm_at "z"
  by_cases hn : n = m
  · subst hn
    rw [if_pos (by simp)]
    tm_at "s"
    have p1 : ∀ rs : List Rp, pln 60 (.tup (rs.map Rp.d)) := fun rs => by
      rw [pln_tup]
      intro x hx
      obtain ⟨r, _, rfl⟩ := List.mem_map.mp hx
      exact pln_rp
    refine ⟨by rw [tr_pln (p1 rs)]; exact p1 rs, by rw [tr_pln (p1 qs)]; exact p1 qs, ?_⟩
    rw [tr_pln (p1 rs), tr_pln (p1 qs), deq_tup, deqs_rp]
    tm_at "s"
    refine out1 (kbl hk ?_)
    simp
  · rw [if_neg (by simpa using hn)]
    tm_at "s"
    refine out1 (kbl hk ?_)
    simp [hn]
instance {a : Ad} {n m : Int} {rs qs : List Rp} {S : Sto} {k : KD} {ex : XD} : Stp (sp_Rig___eq__ a [rigD a n rs, rigD a m qs] S k ex) (k (.bl (decide (n = m ∧ rs = qs))) S) := ⟨fun q => ⟨n, m, rs, qs, rfl, q⟩⟩
end Z


set_option Elab.async false
set_option synthInstance.maxHeartbeats 2000000
set_option synthInstance.maxSize 2048
set_option linter.all false
set_option maxRecDepth 100000
set_option maxHeartbeats 4000000
namespace Z
open PySem PySem.Spec PyProof.Rows L2
local macro_rules | `(tactic| tm_at "o") => `(tactic| first | (with_reducible assumption) | omega | exact cm1 (by omega) (by omega) | exact cm2 (by omega) (by omega) | (simp only [List.length_map, List.length_append, List.length_cons, List.length_nil, sizeLine_eq, irange_length, enumI_length, List.length_zip, List.length_reverse]; omega) | decide | (simp; done) | (simp only [List.length_map, List.length_append, List.length_cons, List.length_nil, sizeLine_eq, irange_length, enumI_length, List.length_zip, List.length_reverse] at *; omega) | exact ⟨by tm_at "o", by tm_at "o"⟩)
local macro_rules | `(tactic| tm_at "s") => `(tactic| repeat refine stp ?_)
local macro_rules | `(tactic| tm_at "z") => `(tactic| repeat (first | refine stp ?_ | (refine And.intro (by tm_at "o") ?_) | refine ifT (by decide) ?_ | refine ifF (by decide) ?_))


/-! ### an order, drawn -/
theorem map_erase {α β : Type} (f : α → β) : ∀ (xs : List α) (i : Nat), (xs.map f).eraseIdx i = (xs.eraseIdx i).map f
  | [], i => by simp
  | x :: xs, 0 => rfl
  | x :: xs, i + 1 => by
    rw [List.map_cons, List.eraseIdx_cons_succ, List.eraseIdx_cons_succ, List.map_cons, map_erase f xs i]
theorem cons_erase : ∀ (xs : List Int) (i : Nat) (h : i < xs.length), (xs[i] :: xs.eraseIdx i).Perm xs
  | [], i, h => absurd h (by simp)
  | x :: xs, 0, _ => List.Perm.refl _
  | x :: xs, i + 1, h => by
    have hl : i < xs.length := by simpa using h
    have ih := cons_erase xs i hl
    show (xs[i] :: x :: xs.eraseIdx i).Perm (x :: xs)
    exact (List.Perm.swap _ _ _).trans (ih.cons x)
theorem gi_erase {xs : List Int} {i : Int} (h0 : 0 ≤ i) (h1 : i < xs.length) : (gi xs i :: xs.eraseIdx i.toNat).Perm xs := by
  have hlt : i.toNat < xs.length := by omega
  have e : gi xs i = xs[i.toNat] := by
    unfold gi
    rw [List.getD_eq_getElem?_getD, List.getElem?_eq_getElem hlt]; rfl
  rw [e]
  exact cons_erase xs _ hlt
theorem pop_at {xs : List Int} {S : Sto} {k : KD} {p : Addr} {i : Int} [h : Sv S p (.lst (xs.map D.int))] (h0 : 0 ≤ i) (h1 : i < xs.length) (hl : xs.length ≤ 100) (q : k (.int (gi xs i)) (supd S p (.lst ((xs.eraseIdx i.toNat).map D.int)))) : mPop (.adr p) [.int i] S k := by
  unfold mPop
  refine onL_ok h.h ⟨by omega, by omega, ?_⟩
  have e : seqIndex? i (xs.map D.int).length = some i.toNat := by
    unfold seqIndex?
    rw [List.length_map]
    simp
    omega
  have hlt : i.toNat < xs.length := by omega
  have e2 : (xs.map D.int)[i.toNat]? = some (.int (gi xs i)) := by
    rw [List.getElem?_map, List.getElem?_eq_getElem hlt]
    unfold gi
    rw [List.getD_eq_getElem?_getD, List.getElem?_eq_getElem hlt]; rfl
  rw [e]
  dsimp only
  rw [e2]
  dsimp only
  rw [map_erase]
  exact q
def sp__law_order (_ : Ad) : SpD := fun ds S k _ => ∃ (p : Addr) (n : Nat), ds = [.adr p, .int n] ∧ n ≤ 8 ∧ Pq S p ∧ ∀ (ord : List Int) S', ordP n ord → KpL S S' [p] → Pq S' p → k (encL ord) S'
def t__law_order (a : Ad) : TSD := (dSeq (dSet 2 (dLstRg2 true (dC (.int 1)) (dBin (fAdd false) (dVar 1) (dC (.int 1))))) (dSeq (dSet 3 (dLstM dNil)) (dSeq (dFor (iRg1 (dCons (dVar 1) dNil)) (gNameD 4) (dDrop (dMt mAppend (dVar 3) (dCons (dMt mPop (dVar 2) (dCons (dCall (sp__law_take a) [] (dCons (dVar 0) (dCons (dCB cLen (dCons (dVar 2) dNil)) dNil))) dNil)) dNil)))) (dRet (dFrz (dVar 3))))))
theorem len__law_order (a : Ad) : ∀ ds S kk ex, sp__law_order a ds S kk ex → ds.length = 2 := by
  rintro _ S kk ex ⟨_, _, rfl, _⟩; rfl
theorem vc__law_order (a : Ad) : ∀ ds S kk ex F H, sp__law_order a ds S kk ex → t__law_order a (wdX ex F H S) (endX kk) (startD 5 ds) S := by
  rintro _ S kk ex F H ⟨p, n, rfl, hn, hP, hk⟩
  unfold t__law_order
  show dSeq _ _ _ _ [some _, some _, none, none, none] _
  haveI := hP.hp
  tm_at "z"
  (refine fresh ?_; intro x fr_x)
  tm_at "z"
  (refine fresh ?_; intro y fr_y)
  tm_at "z"
  refine forT (fun pre post ρ S' => ∃ (rest ord : List Int) (o4 : Option D), ρ = [some (.adr p), some (.int n), some (.adr x), some (.adr y), o4] ∧ Sv S' x (.lst (rest.map D.int)) ∧ Sv S' y (.lst (ord.map D.int)) ∧ KpL S S' [p] ∧ Pq S' p ∧ ord.length = pre.length ∧ pre.length + post.length = n ∧ rest.length = post.length ∧ (ord ++ rest).Perm (irange 1 n)) ⟨irange 1 ((n : Int) + 1 - 1).toNat, [], _, rfl, (Sv.tl2 (by first | rfl | simp)), (Sv.tl2 (by first | rfl | simp)), kp, inferInstance, rfl, by rw [irange_length, List.length_nil]; omega, by rw [irange_length, irange_length]; omega, by rw [List.nil_append, show ((n : Int) + 1 - 1).toNat = n by omega]⟩ (fun _ _ _ _ _ => True.intro) ?_ ?_
  · rintro pre t post ρ S1 cont hpre ⟨rest, ord, o4, rfl, hx, hy, hK1, hP1, l1, l2, l3, hp⟩ hc
    rw [List.length_cons] at l2 l3
    tm_at "z"
    intro i S2 hi0 hi1 hK2 hP2
    tm_at "z"
    refine pop_at (xs := rest) hi0 (by first | exact hi1 | (rw [List.length_map] at hi1; exact hi1)) (by omega) ?_
    tm_at "z"
    refine hc _ _ ⟨rest.eraseIdx i.toNat, ord ++ [gi rest i], _, rfl, inferInstance, (Sv.tl2 (by first | rfl | simp)), kp, inferInstance, by simp; omega, by simp; omega, by rw [List.length_eraseIdx, if_pos (by omega)]; omega, ?_⟩
    rw [List.append_assoc]
    exact ((gi_erase hi0 hi1).append_left ord).trans hp
  · rintro ρ S1 ⟨rest, ord, o4, rfl, hx, hy, hK1, hP1, l1, l2, l3, hp⟩
    have hr : rest = [] := List.eq_nil_of_length_eq_zero l3
    subst hr
    rw [List.append_nil] at hp
    tm_at "z"
    exact out1 (hk ord _ hp kp inferInstance)
instance {a : Ad} {p : Addr} {n : Nat} {S : Sto} {k : KD} {ex : XD} [h : Pq S p] : Stp (sp__law_order a [.adr p, .int n] S k ex) (n ≤ 8 ∧ ∀ (ord : List Int) S', ordP n ord → KpL S S' [p] → Pq S' p → k (encL ord) S') := ⟨fun g => ⟨p, n, rfl, g.1, h, g.2⟩⟩
/-! called otherwise: the heights -/
def calP (ord hs hs' : List Int) : Prop := hs'.length = hs.length ∧ ∀ k : Int, 0 ≤ k → k < hs.length → gi hs' (gi ord k - 1) = gi hs k
theorem ordP.gi_kn {n : Nat} {ord : List Int} (h : ordP n ord) {k : Int} (h0 : 0 ≤ k) (h1 : k < n) : 1 ≤ gi ord k ∧ gi ord k ≤ n := by
  have := h.mem_iff.mp (gi_mem (xs := ord) h0 (by rw [h.len]; exact h1))
  rw [irange_mem] at this
  omega
theorem ordP.gi_inj {n : Nat} {ord : List Int} (h : ordP n ord) {k j : Int} (h0 : 0 ≤ k) (h1 : k < n) (g0 : 0 ≤ j) (g1 : j < n) (e : gi ord k = gi ord j) : k = j := by
  have := h.inj (u := k + 1) (v := j + 1) ⟨by omega, by omega⟩ ⟨by omega, by omega⟩ (by rw [gi_cons (by omega), gi_cons (by omega), Int.add_sub_cancel, Int.add_sub_cancel]; exact e)
  omega
def sp__law_called (_ : Ad) : SpD := fun ds S k _ => ∃ (hs ord : List Int), ds = [encL hs, encL ord] ∧ (hs.length ≤ 8 ∧ ordP hs.length ord) ∧ ∀ hs' S', calP ord hs hs' → KpL S S' [] → k (encL hs') S'
def t__law_called (a : Ad) : TSD := (dSeq (dSet 2 (dBin (fMul true) (dLst (dCons (dC (.int 0)) dNil)) (dCB cLen (dCons (dVar 0) dNil)))) (dSeq (dFor (iEn (dCons (dVar 1) dNil)) (gSeqD 2 (gConsD (gNameD 3) (gConsD (gNameD 4) gNilD))) (dAsgS (dBin fIx (dVar 0) (dVar 3)) (dVar 2) (dBin fSub (dVar 4) (dC (.int 1))) sSetL)) (dRet (dFrz (dVar 2)))))
theorem len__law_called (a : Ad) : ∀ ds S kk ex, sp__law_called a ds S kk ex → ds.length = 2 := by
  rintro _ S kk ex ⟨_, _, rfl, _⟩; rfl
theorem vc__law_called (a : Ad) : ∀ ds S kk ex F H, sp__law_called a ds S kk ex → t__law_called a (wdX ex F H S) (endX kk) (startD 5 ds) S := by
  rintro _ S kk ex F H ⟨hs, ord, rfl, ⟨h8, ho⟩, hk⟩
  unfold t__law_called
  show dSeq _ _ _ _ [some _, some _, none, none, none] _
  have hl := ho.len
  tm_at "z"
  (refine fresh ?_; intro x fr_x)
  tm_at "z"
  refine forT (xs := enumI 0 ord) (fun pre post ρ S' => ∃ (r : List Int) (o3 o4 : Option D), ρ = [some (encL hs), some (encL ord), some (.adr x), o3, o4] ∧ Sv S' x (.lst (r.map D.int)) ∧ KpL S S' [] ∧ r.length = hs.length ∧ ∀ k : Int, 0 ≤ k → k < pre.length → gi r (gi ord k - 1) = gi hs k) ⟨List.replicate hs.length 0, _, _, rfl, ?_, kp, by simp, fun k h0 h1 => by simp at h1; omega⟩ (fun _ _ _ _ _ => True.intro) ?_ ?_
  · refine ⟨by rw [supd_same, flat_rep, List.map_replicate]; simp⟩
  · rintro pre e post ρ S1 cont hpre ⟨r, o3, o4, rfl, hx, hK1, hrl, hinv⟩ hc
    have he : e ∈ enumI 0 ord := by rw [hpre]; simp
    obtain ⟨m1, m2, m3, m4⟩ := enumI_mem he
    have hp := enumI_pos hpre
    obtain ⟨at', nm⟩ := e
    dsimp only at m1 m2 m3 hp
    rw [Int.sub_zero] at m3
    have hat : 0 ≤ at' ∧ at' < hs.length := by omega
    have hnm := ho.gi_kn hat.1 hat.2
    rw [← m3] at hnm
    unfold encE
    tm_at "z"
    refine hc _ _ ⟨r.set (nm - 1).toNat (gi hs at'), _, _, rfl, (Sv.tl2 (by first | rfl | simp)), kp, by rw [List.length_set]; exact hrl, fun k h0 h1 => ?_⟩
    rw [List.length_append, List.length_singleton] at h1
    have hkn := ho.gi_kn h0 (by omega)
    rw [gi_set (by omega) (by omega) (by omega)]
    by_cases ek : k = at'
    · subst ek
      rw [if_pos (by omega)]
    · rw [if_neg, hinv k h0 (by omega)]
      intro e2
      exact ek (ho.gi_inj h0 (by omega) hat.1 hat.2 (by omega))
  · rintro ρ S1 ⟨r, o3, o4, rfl, hx, hK1, hrl, hinv⟩
    tm_at "z"
    refine out1 (hk r _ ⟨hrl, fun k h0 h1 => hinv k h0 ?_⟩ kp)
    rw [enumI_length]; omega
instance {a : Ad} {hs ord : List Int} {S : Sto} {k : KD} {ex : XD} {e1 e2 : D} [he1 : En e1 encL hs] [he2 : En e2 encL ord] : Stp (sp__law_called a [e1, e2] S k ex) ((hs.length ≤ 8 ∧ ordP hs.length ord) ∧ ∀ hs' S', calP ord hs hs' → KpL S S' [] → k (encL hs') S') := by
  rw [he1.h, he2.h]; exact ⟨fun q => ⟨hs, ord, rfl, q⟩⟩
/-! what is said of a door -/
def sp__law_kind (a : Ad) : D → ActD → SpD := fun c act ds S k _ => ds = [c] ∧ ∀ (k1 : KD) (ex1 : XD), (∀ d S', k .non S' → k1 d S') → (∀ y S', Th y → k (.lst [.str "order", .str (shw y)]) S' → ex1 a.NoOrder y S') → (∀ y S', Th y → k (.lst [.str "heights", .str (shw y)]) S' → ex1 a.NoHeights y S') → act S k1 ex1
def t__law_kind (a : Ad) (c : D) (act : ActD) : TSD := (dSeq (dSet 1 (dC .non)) (dSeq (dTryM [(some 2, [(a.NoOrder, true), (a.NoHeights, false)], fun C xa xx => (dSet 1 (dLst (dCons (dC (.str "order")) (dCons (dCB cRepr (dCons (dExW 2 xa xx) dNil)) dNil))))), (some 2, [(a.NoHeights, true), (a.NoOrder, false)], fun C xa xx => (dSet 1 (dLst (dCons (dC (.str "heights")) (dCons (dCB cRepr (dCons (dExW 2 xa xx) dNil)) dNil)))))] (dDrop (dAct 0 c act))) (dRet (dVar 1))))
theorem len__law_kind (a : Ad) : ∀ c act ds S kk ex, sp__law_kind a c act ds S kk ex → ds.length = 1 := by
  rintro c act _ S kk ex ⟨rfl, _⟩; rfl
theorem vc__law_kind (a : Ad) : ∀ c act ds S kk ex F H, sp__law_kind a c act ds S kk ex → t__law_kind a c act (wdX ex F H S) (endX kk) (startD 3 ds) S := by
  rintro c act _ S kk ex F H ⟨rfl, h⟩
  unfold t__law_kind
  show dSeq _ _ _ _ [some _, none, none] _
  tm_at "z"
  intro F1 H1
  tm_at "z"
  refine h _ _ (fun d S' hk => ?_) (fun y S' hy hk => ?_) (fun y S' hy hk => ?_)
  · tm_at "z"
    exact out1 hk
  · tm_at "z"
    intro xa hxa F2 H2
    tm_at "z"
    exact out1 hk
  · tm_at "z"
    intro xa hxa F2 H2
    tm_at "z"
    exact out1 hk
/-! the same ropes tell -/
theorem brk_map {rs : List Rp} {f : Rp → Rp} {hs hs' : List Int} (h : ∀ r ∈ rs, roomBy hs' (f r) = roomBy hs r) : brk (rs.map f) hs' = brk rs hs := by
  unfold brk
  rw [enumI_mapF, List.filter_map, List.map_map]
  have : (enumI 0 rs).filter ((fun p : Int × Rp => decide (roomBy hs' p.2 < 0)) ∘ fun p => (p.1, f p.2)) = (enumI 0 rs).filter fun p => decide (roomBy hs p.2 < 0) := List.filter_congr fun p hp => by
    obtain ⟨_, _, _, m⟩ := enumI_mem hp
    show decide (roomBy hs' (f p.2) < 0) = _
    rw [h _ m]
  rw [this]
  exact List.map_congr_left fun p _ => rfl
theorem calP.gi {n : Nat} {ord hs hs' : List Int} (h : calP ord hs hs') (ho : ordP n ord) (hl : hs.length = n) {u : Int} (hu : kno n u) : gi (0 :: hs') (gi (0 :: ord) u) = gi (0 :: hs) u := by
  obtain ⟨h0, h1⟩ := hu
  by_cases e : u = 0
  · subst e; rw [gi_zero, gi_zero, gi_zero]
  · have hk := ho.gi_kn (k := u - 1) (by omega) (by omega)
    rw [gi_cons (xs := ord) (by omega), gi_cons (xs := hs') hk.1, gi_cons (xs := hs) (by omega)]
    exact h.2 _ (by omega) (by omega)
theorem brk_cd {n : Nat} {ord hs hs' : List Int} {rs : List Rp} (h : calP ord hs hs') (ho : ordP n ord) (hl : hs.length = n) (hr : ∀ r ∈ rs, r.ok n) : brk (cdR ord rs) hs' = brk rs hs := by
  unfold cdR
  refine brk_map fun r hm => ?_
  obtain ⟨g1, g2, g3, g4, _⟩ := hr r hm
  unfold roomBy
  dsimp only
  rw [h.gi ho hl ⟨g1, g2⟩, h.gi ho hl ⟨g3, g4⟩]
theorem gi_map0 {hs : List Int} {f : Int → Int} (hf : f 0 = 0) {u : Int} (h0 : 0 ≤ u) (h1 : u ≤ hs.length) : gi (0 :: hs.map f) u = f (gi (0 :: hs) u) := by
  have : (0 :: hs.map f) = (0 :: hs).map f := by rw [List.map_cons, hf]
  rw [this, gi_map f h0 (by rw [List.length_cons]; omega)]
theorem brk_rv {n : Nat} {hs : List Int} {rs : List Rp} (hl : hs.length = n) (hr : ∀ r ∈ rs, r.ok n) : brk (rvR rs) (hs.map fun h => 0 - h) = brk rs hs := by
  unfold rvR
  refine brk_map fun r hm => ?_
  obtain ⟨g1, g2, g3, g4, _⟩ := hr r hm
  unfold roomBy
  dsimp only
  rw [gi_map0 (by decide) g1 (by omega), gi_map0 (by decide) g3 (by omega)]
  omega
def zpA (hs bs : List Int) : List Int := (hs.zip bs).map fun p => p.1 + p.2
theorem gi_zip0 {hs bs : List Int} (h : bs.length = hs.length) {u : Int} (h0 : 0 ≤ u) (h1 : u ≤ hs.length) : gi (0 :: zpA hs bs) u = gi (0 :: hs) u + gi (0 :: bs) u := by
  unfold zpA
  by_cases e : u = 0
  · subst e; rw [gi_zero, gi_zero, gi_zero]; rfl
  · rw [gi_cons (by omega), gi_cons (by omega), gi_cons (by omega), gi_map _ (by omega) (by rw [List.length_zip]; omega), gi_zip (by omega) (by omega) (by omega)]
theorem brk_ms {n : Nat} {hs bs : List Int} {rs : List Rp} (hl : hs.length = n) (hb : bs.length = n) (hr : ∀ r ∈ rs, r.ok n) : brk (msR bs rs) (zpA hs bs) = brk rs hs := by
  unfold msR
  refine brk_map fun r hm => ?_
  obtain ⟨g1, g2, g3, g4, _⟩ := hr r hm
  unfold roomBy
  dsimp only
  rw [gi_zip0 (by omega) g1 (by omega), gi_zip0 (by omega) g3 (by omega)]
  omega
def rgOk (n : Nat) (rs : List Rp) : Prop := 1 ≤ n ∧ n ≤ 8 ∧ (∀ r ∈ rs, r.ok n) ∧ rs.length ≤ 60
theorem rgOk.o {n : Nat} {rs : List Rp} (h : rgOk n rs) : okRs n rs := ⟨h.2.2.1, by have := h.2.1; omega, by have := h.2.2.2; omega⟩
theorem rgOk.rv {n : Nat} {rs : List Rp} (h : rgOk n rs) : rgOk n (rvR rs) := ⟨h.1, h.2.1, rvR_ok h.2.2.1, by unfold rvR; rw [List.length_map]; exact h.2.2.2⟩
theorem rgOk.cd {n : Nat} {ord : List Int} {rs : List Rp} (ho : ordP n ord) (h : rgOk n rs) : rgOk n (cdR ord rs) := ⟨h.1, h.2.1, cdR_ok ho h.2.2.1, by unfold cdR; rw [List.length_map]; exact h.2.2.2⟩
theorem rgOk.ms {n : Nat} {b : List Int} {rs : List Rp} (h : rgOk n rs) : rgOk n (msR b rs) := ⟨h.1, h.2.1, msR_ok h.2.2.1, by unfold msR; rw [List.length_map]; exact h.2.2.2⟩
def sp__law_right (a : Ad) : SpD := fun ds S k _ => ∃ (n : Nat) (rs : List Rp) (hs ord bs : List Int), ds = [rigD a n rs, encL hs, encL ord, encL bs] ∧ (rgOk n rs ∧ hs.length = n ∧ ordP n ord ∧ bs.length = n) ∧ ∀ S', KpL S S' [] → k (.bl true) S'
def t__law_right (a : Ad) : TSD := (dSeq (dSet 4 (dCall (sp_broken a) [] (dCons (dVar 0) (dCons (dVar 1) dNil)))) (dSeq (dSet 5 (dLc (iSq (dVar 1)) (gNameD 6) dYes (dBin fSub (dC (.int 0)) (dVar 6)) [6])) (dSeq (dIfS (dOr (dTest (dBin fNe (dCall (sp_broken a) [] (dCons (dMeth a.Rig ns_Rig (sp_Rig_turned a) [] (dVar 0) dNil) (dCons (dVar 5) dNil))) (dVar 4))) (dTest (dBin fNe (dCall (sp_broken a) [] (dCons (dMeth a.Rig ns_Rig (sp_Rig_called a) [] (dVar 0) (dCons (dVar 2) dNil)) (dCons (dCall (sp__law_called a) [] (dCons (dVar 1) (dCons (dVar 2) dNil))) dNil))) (dVar 4)))) (dRet (dC (.bl false))) dNext) (dRet (dBin fEq (dCall (sp_broken a) [] (dCons (dMeth a.Rig ns_Rig (sp_Rig_measured a) [] (dVar 0) (dCons (dVar 3) dNil)) (dCons (dLc (iZp (dCons (dVar 1) (dCons (dVar 3) dNil))) (gSeqD 2 (gConsD (gNameD 6) (gConsD (gNameD 7) gNilD))) dYes (dBin (fAdd false) (dVar 6) (dVar 7)) [6, 7]) dNil))) (dVar 4))))))
theorem len__law_right (a : Ad) : ∀ ds S kk ex, sp__law_right a ds S kk ex → ds.length = 4 := by
  rintro _ S kk ex ⟨_, _, _, _, _, rfl, _⟩; rfl
theorem vc__law_right (a : Ad) : ∀ ds S kk ex F H, sp__law_right a ds S kk ex → t__law_right a (wdX ex F H S) (endX kk) (startD 8 ds) S := by
  rintro _ S kk ex F H ⟨n, rs, hs, ord, bs, rfl, ⟨hg, hl, ho, hb⟩, hk⟩
  unfold t__law_right
  show dSeq _ _ _ _ [some _, some _, some _, some _, none, none, none, none] _
  have h1 := hg
  have hgo := hg.o
  obtain ⟨g1, g2, g3, g4⟩ := h1
  tm_at "z"
  refine broken_at hl hgo ?_
  tm_at "z"
  refine comp_tl (f := fun h => D.int (0 - h)) (fun r hr c1 k1 => by tm_at "z"; exact k1) ?_
  haveI : TL (hs.map fun h => D.int (0 - h)) D.int (hs.map fun h => 0 - h) := ⟨by rw [List.map_map]; rfl⟩
  tm_at "z"
  refine broken_at (hs := hs.map fun h => 0 - h) (by rw [List.length_map]; exact hl) hg.rv.o ?_
  rw [brk_rv hl g3]
  tm_at "z"
  refine ⟨⟨by omega, by rw [hl]; exact ho⟩, ?_⟩
  intro hs' S1 hc hK1
  have hl1 : hs'.length = n := by rw [hc.1]; exact hl
  tm_at "z"
  refine broken_at hl1 (hg.cd ho).o ?_
  rw [brk_cd hc ho hl g3]
  tm_at "z"
  refine comp_tl (xs := hs.zip bs) (f := fun p => D.int (p.1 + p.2)) (fun r hr c1 k1 => by obtain ⟨x, y⟩ := r; tm_at "z"; exact k1) ?_
  haveI : TL ((hs.zip bs).map fun p => D.int (p.1 + p.2)) D.int (zpA hs bs) := ⟨by unfold zpA; rw [List.map_map]; rfl⟩
  tm_at "z"
  refine broken_at (hs := zpA hs bs) (by unfold zpA; rw [List.length_map, List.length_zip]; omega) hg.ms.o ?_
  rw [brk_ms hl hb g3]
  tm_at "z"
  exact out1 (kbl (hk _ kp) (by simp))
instance {a : Ad} {n : Nat} {rs : List Rp} {hs ord bs : List Int} {S : Sto} {k : KD} {ex : XD} {e1 e2 e3 : D} [he1 : En e1 encL hs] [he2 : En e2 encL ord] [he3 : En e3 encL bs] : Stp (sp__law_right a [rigD a n rs, e1, e2, e3] S k ex) ((rgOk n rs ∧ hs.length = n ∧ ordP n ord ∧ bs.length = n) ∧ ∀ S', KpL S S' [] → k (.bl true) S') := by
  rw [he1.h, he2.h, he3.h]; exact ⟨fun q => ⟨n, rs, hs, ord, bs, rfl, q⟩⟩
/-! refused -/
theorem rng_map {l : Int} {n : Nat} : rng l n = (irange l n).map D.int := (inferInstance : TL (rng l n) D.int (irange l n)).h
theorem no_ord {n : Nat} {d : D} (h : ∀ xs, d ≠ .lst xs) : ∀ ord, d = encL ord → ¬ ordP n ord := fun ord e _ => h _ e
theorem no_len {n : Nat} {xs : List D} (h : xs.length ≠ n) : ∀ ord, D.lst xs = encL ord → ¬ ordP n ord := fun ord e ho => by
  unfold encL at e
  cases e
  rw [List.length_map, ho.len] at h
  exact h rfl
theorem no_mem {n : Nat} {xs : List D} {x : D} (hx : x ∈ xs) (h : ∀ i, x = .int i → i < 1) : ∀ ord, D.lst xs = encL ord → ¬ ordP n ord := fun ord e ho => by
  unfold encL at e
  cases e
  obtain ⟨i, hi, rfl⟩ := List.mem_map.mp hx
  have := ho.mem_iff.mp hi
  rw [irange_mem] at this
  have := h i rfl
  omega
def sp__law_refused (a : Ad) : SpD := fun ds S k _ => ∃ (p : Addr) (n : Nat) (rs : List Rp), ds = [.adr p, rigD a n rs, .int n] ∧ rgOk n rs ∧ Pq S p ∧ S (a.tb "_law_refused") = some (.tab (lamQ "_law_refused")) ∧ ∀ S', KpL S S' [p] → Pq S' p → k (.bl true) S'
def t__law_refused (a : Ad) : TSD := (dSeq (dSet 3 (dLstRg2 false (dC (.int 1)) (dBin (fAdd false) (dVar 2) (dC (.int 1))))) (dSeq (dSet 4 (dCall (sp__law_take a) [] (dCons (dVar 0) (dCons (dVar 2) dNil)))) (dSeq (dSet 5 (dLst (dCons (dC .non) (dCons (dC (.int 5)) (dCons dDic0 (dCons (dCB cTup (dCons (dVar 3) dNil)) (dCons (dSl false (dVar 3) dNoP (dP (dNeg (dC (.int 1))))) (dCons (dBin (fAdd false) (dVar 3) (dLst (dCons (dC (.int 1)) dNil))) (dCons (dBin (fAdd false) (dBin (fAdd false) (dSl false (dVar 3) dNoP (dP (dVar 4))) (dLst (dCons (dC (.int 0)) dNil))) (dSl false (dVar 3) (dP (dBin (fAdd false) (dVar 4) (dC (.int 1)))) dNoP)) (dCons (dBin (fMul false) (dLst (dCons (dC .non) dNil)) (dVar 2)) dNil)))))))))) (dSeq (dFor (iSq (dBin (fAdd false) (dVar 5) (dLst (dCons (dBin (fAdd false) (dLst (dCons (dC (.bl true)) dNil)) (dSl false (dVar 3) (dP (dC (.int 1))) dNoP)) (dCons (dBin (fAdd false) (dLst (dCons (dLst (dCons (dC (.int 1)) dNil)) dNil)) (dSl false (dVar 3) (dP (dC (.int 1))) dNoP)) (dCons (dBin (fAdd false) (dLst (dCons (dC (.str "1")) dNil)) (dSl false (dVar 3) (dP (dC (.int 1))) dNoP)) dNil)))))) (gNameD 6) (dIfS (dTest (dBin fNe (dLam (a.tb "_law_refused") (lamQ "_law_refused") (sp__law_kind a) (dMeth a.Rig ns_Rig (sp_Rig_called a) [] (dVar 1) (dCons (dVar 6) dNil))) (dLst (dCons (dC (.str "order")) (dCons (dCB cRepr (dCons (dVar 6) dNil)) dNil))))) (dRet (dC (.bl false))) dNext)) (dSeq (dFor (iSq (dLst (dCons (dC .non) (dCons (dC (.int 5)) (dCons dDic0 (dCons (dCB cTup (dCons (dVar 3) dNil)) (dCons (dSl false (dVar 3) dNoP (dP (dNeg (dC (.int 1))))) (dCons (dBin (fAdd false) (dVar 3) (dLst (dCons (dC (.int 1)) dNil))) (dCons (dBin (fAdd false) (dBin (fAdd false) (dSl false (dVar 3) dNoP (dP (dVar 4))) (dLst (dCons (dC (.bl true)) dNil))) (dSl false (dVar 3) (dP (dBin (fAdd false) (dVar 4) (dC (.int 1)))) dNoP)) (dCons (dBin (fMul false) (dLst (dCons (dC .non) dNil)) (dVar 2)) dNil)))))))))) (gNameD 6) (dIfS (dTest (dBin fNe (dLam (a.tb "_law_refused") (lamQ "_law_refused") (sp__law_kind a) (dMeth a.Rig ns_Rig (sp_Rig_measured a) [] (dVar 1) (dCons (dVar 6) dNil))) (dLst (dCons (dC (.str "heights")) (dCons (dCB cRepr (dCons (dVar 6) dNil)) dNil))))) (dRet (dC (.bl false))) dNext)) (dRet (dC (.bl true))))))))
theorem len__law_refused (a : Ad) : ∀ ds S kk ex, sp__law_refused a ds S kk ex → ds.length = 3 := by
  rintro _ S kk ex ⟨_, _, _, rfl, _⟩; rfl
theorem vc__law_refused (a : Ad) : ∀ ds S kk ex F H, sp__law_refused a ds S kk ex → t__law_refused a (wdX ex F H S) (endX kk) (startD 7 ds) S := by
  rintro _ S kk ex F H ⟨p, n, rs, rfl, hg, hP, hT, hk⟩
  haveI : Sv S (a.tb "_law_refused") (.tab (lamQ "_law_refused")) := ⟨hT⟩
  unfold t__law_refused
  show dSeq _ _ _ _ [some _, some _, some _, none, none, none, none] _
  have hg' := hg
  obtain ⟨g1, g2, g3, g4⟩ := hg'
  haveI := hP.hp
  haveI hnp : Nq (a.tb "_law_refused") p := ⟨fun e => by
    obtain ⟨c, s, h⟩ := hP.h
    rw [e, h] at hT; cases hT⟩
  tm_at "z"
  rw [show ((n : Int) + 1 - 1).toNat = n by omega, rng_map]
  intro at' S1 ha0 ha1 hK1 hP1
  haveI : Sv S1 (a.tb "_law_refused") (.tab (lamQ "_law_refused")) := inferInstance
  have C := fun lo hi => cutD_len ((irange 1 n).map D.int) lo hi
  simp only [List.length_map, irange_length] at C
  have c1 := C none (some at')
  have c2 := C (some (at' + 1)) none
  have c3 := C none (some (-1))
  have c4 := C (some 1) none
  have irl : ((irange 1 n).map D.int).length = n := by rw [List.length_map, irange_length]
  haveI : SmL ((irange 1 n).map D.int) := smL_ints fun x hx => by
    rw [irange_mem] at hx
    exact Nat.lt_of_le_of_lt (show x.natAbs ≤ 8 by omega) (by decide)
  haveI : SmL (List.replicate (n : Int).toNat [D.non]).flatten := ⟨fun x hx => by
    rw [flat_rep] at hx
    rw [List.eq_of_mem_replicate hx]
    infer_instance⟩
  have hrep : (List.replicate (n : Int).toNat [D.non]).flatten.length = n := by rw [flat_rep]; simp
  have hrm : D.non ∈ (List.replicate (n : Int).toNat [D.non]).flatten := by rw [flat_rep, List.mem_replicate]; exact ⟨by omega, rfl⟩
  have hci : (cutD ((irange 1 n).map D.int) none (some (-1))).length ≠ n := by rw [cutD_init, irl]; omega
  haveI hS1 : Sm (.str "1") := ⟨by unfold lf; decide, by decide⟩
  haveI hS5 : Sm (.int 5) := Sm.int (by decide)
  tm_at "z"
  refine forX (fun pre post ρ S' => ∃ o5 o6 : Option D, ρ = [some (.adr p), some (rigD a n rs), some (.int n), some (.lst ((irange 1 n).map D.int)), some (.int at'), o5, o6] ∧ S' = S1) ⟨_, _, rfl, rfl⟩ (fun _ _ _ _ _ => True.intro) ?_ ?_
  · rintro pre d post ρ S' cont hpre ⟨o5, o6, rfl, rfl⟩ hc hd
    have hdd : Th d ∧ ∀ ord, d = encL ord → ¬ ordP n ord := by
      simp only [List.mem_cons, List.not_mem_nil, or_false, List.cons_append, List.nil_append] at hd
      rcases hd with rfl | rfl | rfl | rfl | rfl | rfl | rfl | rfl | rfl | rfl | rfl
      · exact ⟨Th.ea (by simp), no_ord (by simp)⟩
      · exact ⟨Th.ea (by simp), no_ord (by simp)⟩
      · exact ⟨Th.dic, no_ord (by simp)⟩
      · exact ⟨Th.tup (by omega), no_ord (by simp)⟩
      · exact ⟨Th.lst (by omega), no_len hci⟩
      · exact ⟨Th.lst (by rw [List.length_append]; simp only [List.length_singleton]; omega), no_len (by rw [List.length_append, List.length_singleton]; omega)⟩
      · exact ⟨Th.lst (by simp only [List.length_append, List.length_singleton]; omega), no_mem (x := .int 0) (by simp) (fun i e => by cases e; decide)⟩
      · exact ⟨Th.lst (by omega), no_mem hrm (fun i e => by cases e)⟩
      · exact ⟨Th.lst (by simp; omega), no_mem (x := .bl true) (by simp) (fun i e => by cases e)⟩
      · exact ⟨Th.lst (by simp; omega), no_mem (x := .lst [.int 1]) (by simp) (fun i e => by cases e)⟩
      · exact ⟨Th.lst (by simp; omega), no_mem (x := .str "1") (by simp) (fun i e => by cases e)⟩
    obtain ⟨hth, hno⟩ := hdd
    clear hd
    have pH : pln 60 (.lst [.str "order", .str (shw d)]) := (inferInstance : Pd 60 (.lst [.str "order", .str (shw d)])).h
    tm_at "z"
    intro c
    refine ⟨rfl, fun k1 ex1 h1 h2 h3 => ?_⟩
    intro F1 H1
    tm_at "s"
    refine ⟨n, rs, d, rfl, hg, inferInstance, fun ord e ho => (hno ord e ho).elim, fun _ => h2 _ _ inferInstance ?_⟩
    tm_at "z"
    exact hc _ _ ⟨_, _, rfl, rfl⟩
  rintro ρ S' ⟨o5, o6, rfl, rfl⟩
  tm_at "z"
  refine forX (fun pre post ρ S1 => ∃ o5 o6 : Option D, ρ = [some (.adr p), some (rigD a n rs), some (.int n), some (.lst ((irange 1 n).map D.int)), some (.int at'), o5, o6] ∧ S1 = S') ⟨_, _, rfl, rfl⟩ (fun _ _ _ _ _ => True.intro) ?_ ?_
  · rintro pre d post ρ S' cont hpre ⟨o5, o6, rfl, rfl⟩ hc hd
    have hdd : Th d ∧ wholesB n d = false := by
      simp only [List.mem_cons, List.not_mem_nil, or_false, List.cons_append, List.nil_append] at hd
      rcases hd with rfl | rfl | rfl | rfl | rfl | rfl | rfl | rfl
      · exact ⟨Th.ea (by simp), rfl⟩
      · exact ⟨Th.ea (by simp), rfl⟩
      · exact ⟨Th.dic, rfl⟩
      · exact ⟨Th.tup (by omega), rfl⟩
      · exact ⟨Th.lst (by omega), wholesB_len hci⟩
      · exact ⟨Th.lst (by rw [List.length_append]; simp only [List.length_singleton]; omega), wholesB_len (by rw [List.length_append, List.length_singleton]; omega)⟩
      · exact ⟨Th.lst (by simp only [List.length_append, List.length_singleton]; omega), wholesB_mem (x := .bl true) (by simp) rfl⟩
      · exact ⟨Th.lst (by omega), wholesB_mem hrm rfl⟩
    obtain ⟨hth, hno⟩ := hdd
    clear hd
    have pH : pln 60 (.lst [.str "heights", .str (shw d)]) := (inferInstance : Pd 60 (.lst [.str "heights", .str (shw d)])).h
    tm_at "z"
    intro c
    refine ⟨rfl, fun k1 ex1 h1 h2 h3 => ?_⟩
    intro F1 H1
    tm_at "s"
    refine ⟨n, rs, d, rfl, hg, inferInstance, fun b e hb => (by rw [e, wholesB_L, hb, decide_eq_true rfl] at hno; cases hno), fun _ => h3 _ _ inferInstance ?_⟩
    tm_at "z"
    exact hc _ _ ⟨_, _, rfl, rfl⟩
  · rintro ρ S1 ⟨o5, o6, rfl, rfl⟩
    tm_at "z"
    exact out1 (hk _ kp hP1)
instance {a : Ad} {p : Addr} {n : Nat} {rs : List Rp} {S : Sto} {k : KD} {ex : XD} [hP : Pq S p] [hT : Sv S (a.tb "_law_refused") (.tab (lamQ "_law_refused"))] : Stp (sp__law_refused a [.adr p, rigD a n rs, .int n] S k ex) (rgOk n rs ∧ ∀ S', KpL S S' [p] → Pq S' p → k (.bl true) S') := ⟨fun q => ⟨p, n, rs, rfl, q.1, hP, hT.h, q.2⟩⟩
/-! there and back -/
theorem perm_of_sub : ∀ {l l' : List Int}, l.Nodup → (∀ x ∈ l, x ∈ l') → l'.length ≤ l.length → l.Perm l'
  | [], l', _, _, h => by
    have : l' = [] := List.eq_nil_of_length_eq_zero (by simpa using h)
    subst this; exact List.Perm.refl _
  | x :: l, l', hn, hs, hl => by
    rw [List.nodup_cons] at hn
    have hx := hs x List.mem_cons_self
    have hp := List.perm_cons_erase hx
    refine (List.Perm.cons x (perm_of_sub hn.2 (fun y hy => ?_) ?_)).trans hp.symm
    · exact (List.mem_erase_of_ne (fun e => hn.1 (by rw [← e]; exact hy))).mpr (hs y (List.mem_cons_of_mem _ hy))
    · have := hp.length_eq
      rw [List.length_cons] at this hl
      omega
theorem back_ord {n : Nat} {ord back : List Int} (ho : ordP n ord) (h : calP ord (irange 1 n) back) : ordP n back := by
  refine (perm_of_sub (irange_nodup2 _ _) (fun x hx => ?_) ?_).symm
  · rw [irange_mem] at hx
    have := h.2 (x - 1) (by omega) (by rw [irange_length]; omega)
    have e : gi (irange 1 n) (x - 1) = x := by rw [gi_irange (by omega) (by omega)]; omega
    rw [e] at this
    have hk := ho.gi_kn (k := x - 1) (by omega) (by omega)
    rw [← this]
    exact gi_mem (by omega) (by rw [h.1, irange_length]; omega)
  · rw [h.1]; exact Nat.le_refl _
theorem cdR_back {n : Nat} {ord back : List Int} {rs : List Rp} (ho : ordP n ord) (h : calP ord (irange 1 n) back) (hr : ∀ r ∈ rs, r.ok n) : cdR back (cdR ord rs) = rs := by
  unfold cdR
  rw [List.map_map]
  refine (List.map_congr_left fun r hm => ?_).trans (List.map_id rs)
  obtain ⟨g1, g2, g3, g4, _⟩ := hr r hm
  have hi : ∀ u : Int, 0 ≤ u → u ≤ n → gi (0 :: back) (gi (0 :: ord) u) = u := fun u h0 h1 => by
    rw [h.gi ho (irange_length _ _) ⟨h0, h1⟩]
    by_cases e : u = 0
    · subst e; rfl
    · rw [gi_cons (by omega), gi_irange (by omega) (by omega)]; omega
  show (⟨gi (0 :: back) (gi (0 :: ord) r.up), gi (0 :: back) (gi (0 :: ord) r.lo), r.mo⟩ : Rp) = r
  rw [hi _ g1 g2, hi _ g3 g4]
theorem ordP_id {n : Nat} : ordP n (irange 1 n) := List.Perm.refl _
theorem cdR_id {n : Nat} {rs : List Rp} (hr : ∀ r ∈ rs, r.ok n) : cdR (irange 1 n) rs = rs := by
  unfold cdR
  refine (List.map_congr_left fun r hm => ?_).trans (List.map_id rs)
  obtain ⟨g1, g2, g3, g4, _⟩ := hr r hm
  have hi : ∀ u : Int, 0 ≤ u → u ≤ n → gi (0 :: irange 1 n) u = u := fun u h0 h1 => by
    by_cases e : u = 0
    · subst e; rfl
    · rw [gi_cons (by omega), gi_irange (by omega) (by omega)]; omega
  show (⟨gi (0 :: irange 1 n) r.up, gi (0 :: irange 1 n) r.lo, r.mo⟩ : Rp) = r
  rw [hi _ g1 g2, hi _ g3 g4]
theorem msR_back {n : Nat} {bs : List Int} {rs : List Rp} (hb : bs.length = n) (hr : ∀ r ∈ rs, r.ok n) : msR (bs.map fun b => 0 - b) (msR bs rs) = rs := by
  unfold msR
  rw [List.map_map]
  refine (List.map_congr_left fun r hm => ?_).trans (List.map_id rs)
  obtain ⟨g1, g2, g3, g4, _⟩ := hr r hm
  show (⟨r.up, r.lo, r.mo + gi (0 :: bs) r.up - gi (0 :: bs) r.lo + gi (0 :: bs.map fun b => 0 - b) r.up - gi (0 :: bs.map fun b => 0 - b) r.lo⟩ : Rp) = r
  rw [gi_map0 (by decide) g1 (by omega), gi_map0 (by decide) g3 (by omega)]
  obtain ⟨u, l, m⟩ := r
  simp only [Rp.mk.injEq, true_and]
  omega
def sp_law (a : Ad) : SpD := fun ds S k _ => ∃ ns : List Int, ds = [.frl (ns.map D.int)] ∧ ns.length ≤ 63 ∧ S (a.tb "_law_refused") = some (.tab (lamQ "_law_refused")) ∧ ∀ S', k (.bl true) S'
def t_law (a : Ad) : TSD := (dSeq (dFor (iRg1 (dCons (dCB cMax2 (dCons (dC (.int 1)) (dCons (dCB cMin2 (dCons (dCB cLen (dCons (dVar 0) dNil)) (dCons (dC (.int 12)) dNil))) dNil))) dNil)) (gNameD 1) (dSeq (dSet 2 (dCall (sp__law_pool a) [] (dCons (dVar 0) (dCons (dVar 1) dNil)))) (dSeq (dSet 3 (dCall (sp__law_high a) [] (dCons (dVar 2) (dCons (dBin (fAdd false) (dC (.int 1)) (dCall (sp__law_take a) [] (dCons (dVar 2) (dCons (dC (.int 8)) dNil)))) dNil)))) (dSeq (dSet 4 (dBin fSub (dCB cLen (dCons (dVar 3) dNil)) (dC (.int 1)))) (dSeq (dSet 5 (dFrz (dCall (sp__law_letting a) [] (dCons (dVar 2) (dCons (dVar 3) (dCons (dC (.int 12)) dNil)))))) (dSeq (dSet 6 (dFrz (dMake a.Rig (sp_Rig___init__ a) [] (dCons (dVar 4) (dCons (dVar 5) dNil))))) (dSeq (dPar 10 11 (dCons (dCall (sp__law_order a) [] (dCons (dVar 2) (dCons (dVar 4) dNil))) (dCons (dLc (iRg1 (dCons (dVar 4) dNil)) (gNameD 14) dYes (dCall (sp__law_height a) [] (dCons (dVar 2) dNil)) [14]) dNil))) (dSeq (dFor (iRg1 (dCons (dC (.int 4)) dNil)) (gNameD 7) (dSeq (dSet 12 (dLc (iSq (dSl false (dVar 3) (dP (dC (.int 1))) dNoP)) (gNameD 15) dYes (dBin (fAdd false) (dVar 15) (dBin (fMul false) (dBin fSub (dCall (sp__law_take a) [] (dCons (dVar 2) (dCons (dC (.int 5)) dNil))) (dC (.int 2))) (dCB cInt (dCons (dBin fGt (dVar 7) (dC (.int 0))) dNil)))) [15])) (dIfS (dNot (dTest (dCall (sp__law_right a) [] (dCons (dVar 6) (dCons (dVar 12) (dCons (dVar 10) (dCons (dVar 11) dNil))))))) (dRet (dC (.bl false))) dNext))) (dSeq (dSet 8 (dCall (sp__law_called a) [] (dCons (dLstRg2 false (dC (.int 1)) (dBin (fAdd false) (dVar 4) (dC (.int 1)))) (dCons (dVar 10) dNil)))) (dSeq (dSet 9 (dLc (iSq (dVar 11)) (gNameD 13) dYes (dBin fSub (dC (.int 0)) (dVar 13)) [13])) (dSeq (dIfS (dOr (dTest (dBin (fNeO a.Rig ns_Rig (sp_Rig___eq__ a)) (dMeth a.Rig ns_Rig (sp_Rig_turned a) [] (dMeth a.Rig ns_Rig (sp_Rig_turned a) [] (dVar 6) dNil) dNil) (dVar 6))) (dOr (dTest (dBin (fNeO a.Rig ns_Rig (sp_Rig___eq__ a)) (dMeth a.Rig ns_Rig (sp_Rig_measured a) [] (dMeth a.Rig ns_Rig (sp_Rig_measured a) [] (dVar 6) (dCons (dVar 11) dNil)) (dCons (dVar 9) dNil)) (dVar 6))) (dTest (dBin fNe (dMeth a.Rig ns_Rig (sp_Rig_ropes a) [] (dVar 6) dNil) (dVar 5))))) (dRet (dC (.bl false))) dNext) (dSeq (dIfS (dOr (dTest (dBin (fNeO a.Rig ns_Rig (sp_Rig___eq__ a)) (dMeth a.Rig ns_Rig (sp_Rig_called a) [] (dMeth a.Rig ns_Rig (sp_Rig_called a) [] (dVar 6) (dCons (dVar 10) dNil)) (dCons (dVar 8) dNil)) (dVar 6))) (dTest (dBin (fNeO a.Rig ns_Rig (sp_Rig___eq__ a)) (dMeth a.Rig ns_Rig (sp_Rig_called a) [] (dVar 6) (dCons (dLstRg2 false (dC (.int 1)) (dBin (fAdd false) (dVar 4) (dC (.int 1)))) dNil)) (dVar 6)))) (dRet (dC (.bl false))) dNext) (dIfS (dNot (dTest (dCall (sp__law_refused a) [] (dCons (dVar 2) (dCons (dVar 6) (dCons (dVar 4) dNil)))))) (dRet (dC (.bl false))) dNext))))))))))))) (dRet (dC (.bl true))))
theorem len_law (a : Ad) : ∀ ds S kk ex, sp_law a ds S kk ex → ds.length = 1 := by
  rintro _ S kk ex ⟨ns, rfl, _⟩; rfl
theorem vc_law (a : Ad) : ∀ ds S kk ex F H, sp_law a ds S kk ex → t_law a (wdX ex F H S) (endX kk) (startD 16 ds) S := by
  rintro _ S kk ex F H ⟨ns, rfl, hl, hT, hk⟩
  haveI hT : Sv S (a.tb "_law_refused") (.tab (lamQ "_law_refused")) := ⟨hT⟩
  unfold t_law
  show dSeq _ _ _ _ [some _, none, none, none, none, none, none, none, none, none, none, none, none, none, none, none] _
  tm_at "z"
  refine forT (xs := irange 0 (max 1 (min ((List.map D.int ns).length : Int) 12)).toNat) (fun pre post ρ S' => ∃ os : List (Option D), os.length = 15 ∧ ρ = some (.frl (ns.map D.int)) :: os ∧ Sv S' (a.tb "_law_refused") (.tab (lamQ "_law_refused"))) ⟨List.replicate 15 none, rfl, rfl, hT⟩ (fun _ _ _ _ _ => True.intro) ?_ ?_
  rotate_left
  · rintro ρ S' ⟨os, ho, rfl, _⟩
    tm_at "z"
    exact out1 (hk _)
  rintro pre t post ρ S1 cont hpre ⟨os, ho, rfl, hT1⟩ hc
  obtain ⟨o1, o2, o3, o4, o5, o6, o7, o8, o9, o10, o11, o12, o13, o14, o15, rfl⟩ : ∃ o1 o2 o3 o4 o5 o6 o7 o8 o9 o10 o11 o12 o13 o14 o15, os = [o1, o2, o3, o4, o5, o6, o7, o8, o9, o10, o11, o12, o13, o14, o15] := by
    match os, ho with
    | [o1, o2, o3, o4, o5, o6, o7, o8, o9, o10, o11, o12, o13, o14, o15], _ => exact ⟨_, _, _, _, _, _, _, _, _, _, _, _, _, _, _, rfl⟩
  have ht : 0 ≤ t ∧ t < 16 := by
    have : t ∈ irange 0 (max 1 (min ((List.map D.int ns).length : Int) 12)).toNat := by rw [hpre]; simp
    rw [irange_mem] at this
    omega
  tm_at "z"
  intro p S2 hp0 hK2 hP2
  haveI := hP2.hp
  haveI : Fr S1 p := ⟨hp0⟩
  haveI hpt : Nq (a.tb "_law_refused") p := inferInstance
  haveI hT2 : Sv S2 (a.tb "_law_refused") (.tab (lamQ "_law_refused")) := inferInstance
  tm_at "z"
  intro n0 S3 hn0 hn1 hK3 hP3
  tm_at "z"
  obtain ⟨n, hn⟩ : ∃ n : Nat, 1 + n0 = (n : Int) := ⟨(1 + n0).toNat, by omega⟩
  rw [hn]
  tm_at "z"
  intro hs S4 hhl hsm hK4 hP4
  have hh1 : 1 ≤ hs.length := by omega
  have hh8 : hs.length ≤ 8 := by omega
  tm_at "z"
  intro rs q S5 hq0 hrl hgood hK5 hP5 hS5 hqp
  have hr0 : ∀ r ∈ rs, r.ok (n : Int) := fun r h => by have := (hgood r h).1; rw [hhl] at this; exact this
  have hg : rgOk n rs := ⟨by omega, by omega, hr0, by omega⟩
  haveI : Nq q p := ⟨hqp⟩
  haveI : Nq p q := ⟨fun e => hqp e.symm⟩
  haveI hT5 : Sv S5 (a.tb "_law_refused") (.tab (lamQ "_law_refused")) := inferInstance
  haveI : Nq (a.tb "_law_refused") q := by
    haveI : Fr S4 q := ⟨hq0⟩
    haveI hT4 : Sv S4 (a.tb "_law_refused") (.tab (lamQ "_law_refused")) := inferInstance
    infer_instance
  tm_at "z"
  rw [show ((0 :: hs).length : Int) - 1 = n by rw [List.length_cons]; omega]
  (refine fresh ?_; intro x fr_x)
  tm_at "z"
  have hP7 : Pq (sdel (supd (supd (sdel S5 q) x (.obj a.Rig [] [])) x (.obj a.Rig ns_Rig [.int (n : Int), .tup (List.map Rp.d rs)])) x) p := inferInstance
  have hT7 : Sv (sdel (supd (supd (sdel S5 q) x (.obj a.Rig [] [])) x (.obj a.Rig ns_Rig [.int (n : Int), .tup (List.map Rp.d rs)])) x) (a.tb "_law_refused") (.tab (lamQ "_law_refused")) := inferInstance
  generalize sdel (supd (supd (sdel S5 q) x (.obj a.Rig [] [])) x (.obj a.Rig ns_Rig [.int (n : Int), .tup (List.map Rp.d rs)])) x = S7 at hP7 hT7 ⊢
  haveI := hP7.hp
  tm_at "z"
  intro ord S8 ho hK8 hP8
  have hT8 : Sv S8 (a.tb "_law_refused") (.tab (lamQ "_law_refused")) := inferInstance
  tm_at "z"
  refine comp_st (enc2 := D.int) (fun (pre post : List Int) S' (acc : List Int) => Pq S' p ∧ Sv S' (a.tb "_law_refused") (.tab (lamQ "_law_refused")) ∧ acc.length = pre.length) ⟨hP8, hT8, rfl⟩ (fun _ _ _ _ _ => True.intro) ?_ ?_
  · rintro pre t post S9 acc cont hpre ⟨hP9, hT9, l1⟩ hc
    haveI := hP9.hp
    tm_at "z"
    intro u S10 hu hK10 hP10
    exact hc _ u ⟨hP10, inferInstance, by simp [l1]⟩
  rintro S9 bs ⟨hP9, hT9, hb⟩
  rw [irange_length, Int.toNat_natCast] at hb
  haveI := hP9.hp
  tm_at "z"
  refine forT (xs := irange 0 (Int.toNat 4)) (fun pre post ρ S' => ∃ (o7 o12 : Option D), ρ = [some (.frl (ns.map D.int)), some (.int t), some (.adr p), some (encL (0 :: hs)), some (.int n), some (.lst (rs.map Rp.d)), some (rigD a n rs), o7, o8, o9, some (encL ord), some (.lst (bs.map D.int)), o12, o13, o14, o15] ∧ Pq S' p ∧ Sv S' (a.tb "_law_refused") (.tab (lamQ "_law_refused"))) ⟨_, _, rfl, hP9, hT9⟩ (fun _ _ _ _ _ => True.intro) ?_ ?_
  · rintro pre2 i post2 ρ S10 cont2 hpre2 ⟨o7, o12, rfl, hP10, hT10⟩ hc2
    haveI := hP10.hp
    tm_at "z"
    refine comp_st (enc2 := D.int) (fun (pre post : List Int) S' (acc : List Int) => Pq S' p ∧ Sv S' (a.tb "_law_refused") (.tab (lamQ "_law_refused")) ∧ acc.length = pre.length) ⟨hP10, hT10, rfl⟩ (fun _ _ _ _ _ => True.intro) ?_ ?_
    · rintro pre t post S11 acc cont hpre ⟨hP11, hT11, l1⟩ hc
      haveI := hP11.hp
      tm_at "z"
      intro u S12 hu0 hu1 hK12 hP12
      tm_at "z"
      exact hc _ _ ⟨hP12, inferInstance, by simp [l1]⟩
    rintro S11 gs ⟨hP11, hT11, hgl⟩
    haveI := hP11.hp
    tm_at "z"
    intro S12 hK12
    have hP12 : Pq S12 p := inferInstance
    have hT12 : Sv S12 (a.tb "_law_refused") (.tab (lamQ "_law_refused")) := inferInstance
    tm_at "z"
    exact hc2 _ _ ⟨_, _, rfl, hP12, hT12⟩
  rintro ρ S10 ⟨o7, o12, rfl, hP10, hT10⟩
  haveI := hP10.hp
  tm_at "z"
  rw [show ((n : Int) + 1 - 1).toNat = n by omega, irange_length]
  refine ⟨⟨by omega, ho⟩, ?_⟩
  intro back S11 hcb hK11
  have hP11 : Pq S11 p := inferInstance
  have hT11 : Sv S11 (a.tb "_law_refused") (.tab (lamQ "_law_refused")) := inferInstance
  haveI := hP11.hp
  have hob : ordP n back := back_ord ho hcb
  tm_at "z"
  refine comp_tl (f := fun h => D.int (0 - h)) (fun r hr c1 k1 => by tm_at "z"; exact k1) ?_
  haveI : TL (bs.map fun h => D.int (0 - h)) D.int (bs.map fun h => 0 - h) := ⟨by rw [List.map_map]; rfl⟩
  obtain ⟨g1, g2, g3, g4⟩ := hg
  have rv := (show rgOk n rs from ⟨g1, g2, g3, g4⟩).rv
  have cd := (show rgOk n rs from ⟨g1, g2, g3, g4⟩).cd ho
  have ms := (show rgOk n rs from ⟨g1, g2, g3, g4⟩).ms (b := bs)
  obtain ⟨v1, v2, v3, v4⟩ := rv
  obtain ⟨d1, d2, d3, d4⟩ := cd
  obtain ⟨m1, m2, m3, m4⟩ := ms
  have hbl : (bs.map fun h => 0 - h).length = n := by rw [List.length_map]; exact hb
  have hself : (!decide ((n : Int) = n ∧ rs = rs)) = false := by simp
  tm_at "z"
  rw [rvR_rvR, hself]
  tm_at "z"
  rw [msR_back hb g3, hself]
  tm_at "z"
  rw [cdR_back ho hcb g3, hself]
  tm_at "z"
  rw [show ((n : Int) + 1 - 1).toNat = n by omega]
  refine ⟨⟨g1, g2, g3, g4, ordP_id⟩, ?_⟩
  tm_at "z"
  rw [cdR_id g3, hself]
  tm_at "z"
  intro S12 hK12 hP12
  have hT12 : Sv S12 (a.tb "_law_refused") (.tab (lamQ "_law_refused")) := inferInstance
  tm_at "z"
  exact hc _ _ ⟨_, rfl, rfl, hT12⟩
end Z

set_option Elab.async false
set_option linter.all false
set_option maxRecDepth 100000
set_option maxHeartbeats 4000000
namespace Z
open PySem PySem.Spec PyProof.Rows L2
structure Fx (K : PySem.W.Frag) (mg : Str → Option Value) (a : Ad) : Prop where
  c_Rig : Cls K a.Rig
  ci_Rig : ClsIs K a.Rig
  g_MOST_CLIMBERS : ∃ t, mg "MOST_CLIMBERS" = some (.int 8 t)
  g_MOST_ROPES : ∃ t, mg "MOST_ROPES" = some (.int 60 t)
  g_NoHeights : mg "NoHeights" = some (.ref a.NoHeights)
  g_NoOrder : mg "NoOrder" = some (.ref a.NoOrder)
  g_Rig : mg "Rig" = some (.ref a.Rig)
  m_all : mg "all" = none
  m_bool : mg "bool" = none
  m_enumerate : mg "enumerate" = none
  m_int : mg "int" = none
  m_isinstance : mg "isinstance" = none
  m_len : mg "len" = none
  m_list : mg "list" = none
  m_max : mg "max" = none
  m_min : mg "min" = none
  m_range : mg "range" = none
  m_repr : mg "repr" = none
  m_sorted : mg "sorted" = none
  m_tuple : mg "tuple" = none
  m_zip : mg "zip" = none
  na_Rig_own_many : NoAttr K a.Rig "own_many"
  na_Rig_own_ropes : NoAttr K a.Rig "own_ropes"
  ne_Rig : NeX K a.Rig
  xm__law_kind_0 : ExM K a.NoOrder [(a.NoOrder, true), (a.NoHeights, false)]
  xm__law_kind_1 : ExM K a.NoHeights [(a.NoHeights, true), (a.NoOrder, false)]
theorem sc_is_whole : FnScope N_is_whole P_is_whole (defScope s_is_whole) := ⟨rfl, rfl, rfl, by decide +kernel, rfl, by decide +kernel, by decide +kernel⟩
theorem dv_is_whole {P : Program} {w : World} {K : PySem.W.Frag} {mg : Str → Option Value} {base : Heap} {a : Ad} (fx : Fx K mg a) {f : Addr} {cdv : Value} {A : Around} {outer : List Env} {s : Shared} {H : Hp} {E : XK} {wd : WD}
    (hr : Rm 0 (CxD P w K mg base N_is_whole "is_whole" (defScope s_is_whole) f cdv A outer s H E).A) (tk : TkD (CxD P w K mg base N_is_whole "is_whole" (defScope s_is_whole) f cdv A outer s H E) wd) (hp : PassesOwn (model P w) (CxD P w K mg base N_is_whole "is_whole" (defScope s_is_whole) f cdv A outer s H E).A (CxD P w K mg base N_is_whole "is_whole" (defScope s_is_whole) f cdv A outer s H E).env (CxD P w K mg base N_is_whole "is_whole" (defScope s_is_whole) f cdv A outer s H E).xe) : PSsD (CxD P w K mg base N_is_whole "is_whole" (defScope s_is_whole) f cdv A outer s H E) wd (defBody s_is_whole) (t_is_whole a) :=
  have nd : (N_is_whole : List Str).Nodup := sc_is_whole.nd
  (pssd_one (psd_ret (pd_and (pd_callB cd_isi (pad_cons (pdv 0) (pad_cons (pd_bty fx.m_int boot_int) pad_nil)) fx.m_isinstance (hv := boot_isinstance)) (pd_one (pd_not (pd_callB cd_isi (pad_cons (pdv 0) (pad_cons (pd_bty fx.m_bool boot_bool) pad_nil)) fx.m_isinstance (hv := boot_isinstance)))))))
theorem fz_is_whole {P : Program} {w : World} {K : PySem.W.Frag} {mg : Str → Option Value} {base : Heap} {a : Ad} (fx : Fx K mg a) {dvs : List V} {kws : List (Str × V)} {f : Addr} {fd : FuncData}
    (F : FunD K "is_whole" "is_whole" (defArgs s_is_whole) (defBody s_is_whole) (defScope s_is_whole) dvs kws f fd) : FnZ P w K mg base 1 f fd P_is_whole (sp_is_whole a) :=
  fnz_of F sc_is_whole (len_is_whole a) (fun cdv A outer s H E wd hr tk hp => dv_is_whole fx  hr tk hp) (vc_is_whole a)
theorem sc_is_within : FnScope N_is_within P_is_within (defScope s_is_within) := ⟨rfl, rfl, rfl, by decide +kernel, rfl, by decide +kernel, by decide +kernel⟩
theorem dv_is_within {P : Program} {w : World} {K : PySem.W.Frag} {mg : Str → Option Value} {base : Heap} {a : Ad} (fx : Fx K mg a) (C_is_whole : CalF P w K mg base 1 "is_whole" [] (sp_is_whole a)) {f : Addr} {cdv : Value} {A : Around} {outer : List Env} {s : Shared} {H : Hp} {E : XK} {wd : WD}
    (hr : Rm 1 (CxD P w K mg base N_is_within "is_within" (defScope s_is_within) f cdv A outer s H E).A) (tk : TkD (CxD P w K mg base N_is_within "is_within" (defScope s_is_within) f cdv A outer s H E) wd) (hp : PassesOwn (model P w) (CxD P w K mg base N_is_within "is_within" (defScope s_is_within) f cdv A outer s H E).A (CxD P w K mg base N_is_within "is_within" (defScope s_is_within) f cdv A outer s H E).env (CxD P w K mg base N_is_within "is_within" (defScope s_is_within) f cdv A outer s H E).xe) : PSsD (CxD P w K mg base N_is_within "is_within" (defScope s_is_within) f cdv A outer s H E) wd (defBody s_is_within) (t_is_within a) :=
  have nd : (N_is_within : List Str).Nodup := sc_is_within.nd
  (pssd_one (psd_ret (pd_and (pd_call C_is_whole (hr.mono (by decide)) tk (pad_cons (pdv 0) pad_nil)) (pd_one (pd_chain od_le od_le (pdv 1) (pdv 0) (pdv 2))))))
theorem fz_is_within {P : Program} {w : World} {K : PySem.W.Frag} {mg : Str → Option Value} {base : Heap} {a : Ad} (fx : Fx K mg a) (C_is_whole : CalF P w K mg base 1 "is_whole" [] (sp_is_whole a)) {dvs : List V} {kws : List (Str × V)} {f : Addr} {fd : FuncData}
    (F : FunD K "is_within" "is_within" (defArgs s_is_within) (defBody s_is_within) (defScope s_is_within) dvs kws f fd) : FnZ P w K mg base 2 f fd P_is_within (sp_is_within a) :=
  fnz_of F sc_is_within (len_is_within a) (fun cdv A outer s H E wd hr tk hp => dv_is_within fx C_is_whole hr tk hp) (vc_is_within a)
theorem sc_are_wholes : FnScope N_are_wholes P_are_wholes (defScope s_are_wholes) := ⟨rfl, rfl, rfl, by decide +kernel, rfl, by decide +kernel, by decide +kernel⟩
theorem dv_are_wholes {P : Program} {w : World} {K : PySem.W.Frag} {mg : Str → Option Value} {base : Heap} {a : Ad} (fx : Fx K mg a) (C_is_whole : CalF P w K mg base 1 "is_whole" [] (sp_is_whole a)) {f : Addr} {cdv : Value} {A : Around} {outer : List Env} {s : Shared} {H : Hp} {E : XK} {wd : WD}
    (hr : Rm 1 (CxD P w K mg base N_are_wholes "are_wholes" (defScope s_are_wholes) f cdv A outer s H E).A) (tk : TkD (CxD P w K mg base N_are_wholes "are_wholes" (defScope s_are_wholes) f cdv A outer s H E) wd) (hp : PassesOwn (model P w) (CxD P w K mg base N_are_wholes "are_wholes" (defScope s_are_wholes) f cdv A outer s H E).A (CxD P w K mg base N_are_wholes "are_wholes" (defScope s_are_wholes) f cdv A outer s H E).env (CxD P w K mg base N_are_wholes "are_wholes" (defScope s_are_wholes) f cdv A outer s H E).xe) : PSsD (CxD P w K mg base N_are_wholes "are_wholes" (defScope s_are_wholes) f cdv A outer s H E) wd (defBody s_are_wholes) (t_are_wholes a) :=
  have nd : (N_are_wholes : List Str).Nodup := sc_are_wholes.nd
  (pssd_one (psd_ret (pd_and (pd_callB cd_isi (pad_cons (pdv 0) (pad_cons (pd_bty fx.m_list boot_list) pad_nil)) fx.m_isinstance (hv := boot_isinstance)) (pd_and (pd_cmp (od_eq hr) (pd_callB cd_len (pad_cons (pdv 0) pad_nil) fx.m_len (hv := boot_len)) (pdv 1)) (pd_one (pd_callB (cd_all rfl) (pad_cons (pd_lc (own := [("one", 2)]) rfl nd (blkOk_by (by kernel_rfl)) (pid_seq (pdv 0)) (fun _ _ _ _ _ => (pgd_name (i := 2) nd)) (fun _ _ _ _ _ => ptsd_nil) (fun _ _ _ _ _ => (pd_call C_is_whole (hr.mono (by decide)) tk0 (pad_cons (pdv 2) pad_nil)))) pad_nil) fx.m_all (hv := boot_all)))))))
theorem fz_are_wholes {P : Program} {w : World} {K : PySem.W.Frag} {mg : Str → Option Value} {base : Heap} {a : Ad} (fx : Fx K mg a) (C_is_whole : CalF P w K mg base 1 "is_whole" [] (sp_is_whole a)) {dvs : List V} {kws : List (Str × V)} {f : Addr} {fd : FuncData}
    (F : FunD K "are_wholes" "are_wholes" (defArgs s_are_wholes) (defBody s_are_wholes) (defScope s_are_wholes) dvs kws f fd) : FnZ P w K mg base 2 f fd P_are_wholes (sp_are_wholes a) :=
  fnz_of F sc_are_wholes (len_are_wholes a) (fun cdv A outer s H E wd hr tk hp => dv_are_wholes fx C_is_whole hr tk hp) (vc_are_wholes a)
theorem sc_is_rope : FnScope N_is_rope P_is_rope (defScope s_is_rope) := ⟨rfl, rfl, rfl, by decide +kernel, rfl, by decide +kernel, by decide +kernel⟩
theorem dv_is_rope {P : Program} {w : World} {K : PySem.W.Frag} {mg : Str → Option Value} {base : Heap} {a : Ad} (fx : Fx K mg a) (C_is_whole : CalF P w K mg base 1 "is_whole" [] (sp_is_whole a)) (C_is_within : CalF P w K mg base 2 "is_within" [] (sp_is_within a)) {f : Addr} {cdv : Value} {A : Around} {outer : List Env} {s : Shared} {H : Hp} {E : XK} {wd : WD}
    (hr : Rm 2 (CxD P w K mg base N_is_rope "is_rope" (defScope s_is_rope) f cdv A outer s H E).A) (tk : TkD (CxD P w K mg base N_is_rope "is_rope" (defScope s_is_rope) f cdv A outer s H E) wd) (hp : PassesOwn (model P w) (CxD P w K mg base N_is_rope "is_rope" (defScope s_is_rope) f cdv A outer s H E).A (CxD P w K mg base N_is_rope "is_rope" (defScope s_is_rope) f cdv A outer s H E).env (CxD P w K mg base N_is_rope "is_rope" (defScope s_is_rope) f cdv A outer s H E).xe) : PSsD (CxD P w K mg base N_is_rope "is_rope" (defScope s_is_rope) f cdv A outer s H E) wd (defBody s_is_rope) (t_is_rope a) :=
  have nd : (N_is_rope : List Str).Nodup := sc_is_rope.nd
  (pssd_cons (psd_if (PWD.pt (pwd_or (ptd_not (pt_val (pd_callB cd_isi (pad_cons (pdv 0) (pad_cons (pd_bty fx.m_tuple boot_tuple) pad_nil)) fx.m_isinstance (hv := boot_isinstance)))) (pwd_or1 (pt_cmpD (od_ne hr) (pd_callB cd_len (pad_cons (pdv 0) pad_nil) fx.m_len (hv := boot_len)) pd_int)))) (pssd_one (psd_ret pd_bl)) pssd_nil)
 (pssd_cons (psd_asg (pdv 0) (pgd_seq rfl (pgsd_cons (pgd_name (i := 2) nd) (pgsd_cons (pgd_name (i := 3) nd) (pgsd_cons (pgd_name (i := 4) nd) pgsd_nil)))))
 (pssd_cons (psd_if (PWD.pt (pwd_or (ptd_not (pt_val (pd_call C_is_within (hr.mono (by decide)) tk (pad_cons (pdv 2) (pad_cons pd_int (pad_cons (pdv 1) pad_nil)))))) (pwd_or1 (ptd_not (pt_val (pd_call C_is_within (hr.mono (by decide)) tk (pad_cons (pdv 3) (pad_cons pd_int (pad_cons (pdv 1) pad_nil))))))))) (pssd_one (psd_ret pd_bl)) pssd_nil)
 (pssd_one (psd_ret (pd_and (pd_cmp (od_ne hr) (pdv 2) (pdv 3)) (pd_one (pd_call C_is_whole (hr.mono (by decide)) tk (pad_cons (pdv 4) pad_nil)))))))))
theorem fz_is_rope {P : Program} {w : World} {K : PySem.W.Frag} {mg : Str → Option Value} {base : Heap} {a : Ad} (fx : Fx K mg a) (C_is_whole : CalF P w K mg base 1 "is_whole" [] (sp_is_whole a)) (C_is_within : CalF P w K mg base 2 "is_within" [] (sp_is_within a)) {dvs : List V} {kws : List (Str × V)} {f : Addr} {fd : FuncData}
    (F : FunD K "is_rope" "is_rope" (defArgs s_is_rope) (defBody s_is_rope) (defScope s_is_rope) dvs kws f fd) : FnZ P w K mg base 3 f fd P_is_rope (sp_is_rope a) :=
  fnz_of F sc_is_rope (len_is_rope a) (fun cdv A outer s H E wd hr tk hp => dv_is_rope fx C_is_whole C_is_within hr tk hp) (vc_is_rope a)
theorem sc_look_at_ropes : FnScope N_look_at_ropes P_look_at_ropes (defScope s_look_at_ropes) := ⟨rfl, rfl, rfl, by decide +kernel, rfl, by decide +kernel, by decide +kernel⟩
theorem dv_look_at_ropes {P : Program} {w : World} {K : PySem.W.Frag} {mg : Str → Option Value} {base : Heap} {a : Ad} (fx : Fx K mg a) (C_is_rope : CalF P w K mg base 3 "is_rope" [] (sp_is_rope a)) {f : Addr} {cdv : Value} {A : Around} {outer : List Env} {s : Shared} {H : Hp} {E : XK} {wd : WD}
    (hr : Rm 3 (CxD P w K mg base N_look_at_ropes "look_at_ropes" (defScope s_look_at_ropes) f cdv A outer s H E).A) (tk : TkD (CxD P w K mg base N_look_at_ropes "look_at_ropes" (defScope s_look_at_ropes) f cdv A outer s H E) wd) (hp : PassesOwn (model P w) (CxD P w K mg base N_look_at_ropes "look_at_ropes" (defScope s_look_at_ropes) f cdv A outer s H E).A (CxD P w K mg base N_look_at_ropes "look_at_ropes" (defScope s_look_at_ropes) f cdv A outer s H E).env (CxD P w K mg base N_look_at_ropes "look_at_ropes" (defScope s_look_at_ropes) f cdv A outer s H E).xe) : PSsD (CxD P w K mg base N_look_at_ropes "look_at_ropes" (defScope s_look_at_ropes) f cdv A outer s H E) wd (defBody s_look_at_ropes) (t_look_at_ropes a) :=
  have nd : (N_look_at_ropes : List Str).Nodup := sc_look_at_ropes.nd
  (pssd_cons (psd_if (ptd_not (pt_val (pd_callB cd_isi (pad_cons (pdv 0) (pad_cons (pd_tup (pad_cons (pd_bty fx.m_list boot_list) (pad_cons (pd_bty fx.m_tuple boot_tuple) pad_nil))) pad_nil)) fx.m_isinstance (hv := boot_isinstance)))) (pssd_one psd_never) pssd_nil)
 (pssd_cons (psd_for hp rfl (pid_seq (pdv 0)) (pgd_name (i := 3) nd) (pssd_one (psd_if (ptd_not (pt_val (pd_call C_is_rope (hr.mono (by decide)) tk (pad_cons (pdv 3) (pad_cons (pdv 1) pad_nil))))) (pssd_one psd_never) pssd_nil)))
 (pssd_one (psd_if (pt_cmpD od_gt (pd_bin (od_add false) (pdv 2) (pd_callB cd_len (pad_cons (pdv 0) pad_nil) fx.m_len (hv := boot_len))) (pd_globI fx.g_MOST_ROPES)) (pssd_one psd_never) pssd_nil))))
theorem fz_look_at_ropes {P : Program} {w : World} {K : PySem.W.Frag} {mg : Str → Option Value} {base : Heap} {a : Ad} (fx : Fx K mg a) (C_is_rope : CalF P w K mg base 3 "is_rope" [] (sp_is_rope a)) {dvs : List V} {kws : List (Str × V)} {f : Addr} {fd : FuncData}
    (F : FunD K "look_at_ropes" "look_at_ropes" (defArgs s_look_at_ropes) (defBody s_look_at_ropes) (defScope s_look_at_ropes) dvs kws f fd) : FnZ P w K mg base 4 f fd P_look_at_ropes (sp_look_at_ropes a) :=
  fnz_of F sc_look_at_ropes (len_look_at_ropes a) (fun cdv A outer s H E wd hr tk hp => dv_look_at_ropes fx C_is_rope hr tk hp) (vc_look_at_ropes a)
theorem sc_Rig___init__ : FnScope N_Rig___init__ P_Rig___init__ (defScope s_Rig___init__) := ⟨rfl, rfl, rfl, by decide +kernel, rfl, by decide +kernel, by decide +kernel⟩
theorem dv_Rig___init__ {P : Program} {w : World} {K : PySem.W.Frag} {mg : Str → Option Value} {base : Heap} {a : Ad} (fx : Fx K mg a) (C_is_within : CalF P w K mg base 2 "is_within" [] (sp_is_within a)) (C_look_at_ropes_2 : CalF P w K mg base 4 "look_at_ropes" dfl_look_at_ropes_2 (sp_look_at_ropes a)) {f : Addr} {cdv : Value} {A : Around} {outer : List Env} {s : Shared} {H : Hp} {E : XK} {wd : WD}
    (hr : Rm 4 (CxD P w K mg base N_Rig___init__ "Rig.__init__" (defScope s_Rig___init__) f cdv A outer s H E).A) (tk : TkD (CxD P w K mg base N_Rig___init__ "Rig.__init__" (defScope s_Rig___init__) f cdv A outer s H E) wd) (hp : PassesOwn (model P w) (CxD P w K mg base N_Rig___init__ "Rig.__init__" (defScope s_Rig___init__) f cdv A outer s H E).A (CxD P w K mg base N_Rig___init__ "Rig.__init__" (defScope s_Rig___init__) f cdv A outer s H E).env (CxD P w K mg base N_Rig___init__ "Rig.__init__" (defScope s_Rig___init__) f cdv A outer s H E).xe) : PSsD (CxD P w K mg base N_Rig___init__ "Rig.__init__" (defScope s_Rig___init__) f cdv A outer s H E) wd (defBody s_Rig___init__) (t_Rig___init__ a) :=
  have nd : (N_Rig___init__ : List Str).Nodup := sc_Rig___init__.nd
  (pssd_cons (psd_if (ptd_not (pt_val (pd_call C_is_within (hr.mono (by decide)) tk (pad_cons (pdv 1) (pad_cons pd_int (pad_cons (pd_globI fx.g_MOST_CLIMBERS) pad_nil)))))) (pssd_one psd_never) pssd_nil)
 (pssd_cons (psd_expr (pd_call C_look_at_ropes_2 (hr.mono (by decide)) tk (pad_cons (pdv 2) (pad_cons (pdv 1) pad_nil))))
 (pssd_cons (psd_fldN (ns := []) fx.c_Rig fx.na_Rig_own_many (pdv 0) (pdv 1))
 (pssd_one (psd_fldN (ns := ["own_many"]) fx.c_Rig fx.na_Rig_own_ropes (pdv 0) (pd_callTy cd_tup (pad_cons (pdv 2) pad_nil) fx.m_tuple (hv := boot_tuple)))))))
theorem fz_Rig___init__ {P : Program} {w : World} {K : PySem.W.Frag} {mg : Str → Option Value} {base : Heap} {a : Ad} (fx : Fx K mg a) (C_is_within : CalF P w K mg base 2 "is_within" [] (sp_is_within a)) (C_look_at_ropes_2 : CalF P w K mg base 4 "look_at_ropes" dfl_look_at_ropes_2 (sp_look_at_ropes a)) {dvs : List V} {kws : List (Str × V)} {f : Addr} {fd : FuncData}
    (F : FunD K "__init__" "Rig.__init__" (defArgs s_Rig___init__) (defBody s_Rig___init__) (defScope s_Rig___init__) dvs kws f fd) : FnZ P w K mg base 5 f fd P_Rig___init__ (sp_Rig___init__ a) :=
  fnz_of F sc_Rig___init__ (len_Rig___init__ a) (fun cdv A outer s H E wd hr tk hp => dv_Rig___init__ fx C_is_within C_look_at_ropes_2 hr tk hp) (vc_Rig___init__ a)
theorem sc_Rig_many : FnScope N_Rig_many P_Rig_many (defScope s_Rig_many) := ⟨rfl, rfl, rfl, by decide +kernel, rfl, by decide +kernel, by decide +kernel⟩
theorem dv_Rig_many {P : Program} {w : World} {K : PySem.W.Frag} {mg : Str → Option Value} {base : Heap} {a : Ad} (fx : Fx K mg a) {f : Addr} {cdv : Value} {A : Around} {outer : List Env} {s : Shared} {H : Hp} {E : XK} {wd : WD}
    (hr : Rm 0 (CxD P w K mg base N_Rig_many "Rig.many" (defScope s_Rig_many) f cdv A outer s H E).A) (tk : TkD (CxD P w K mg base N_Rig_many "Rig.many" (defScope s_Rig_many) f cdv A outer s H E) wd) (hp : PassesOwn (model P w) (CxD P w K mg base N_Rig_many "Rig.many" (defScope s_Rig_many) f cdv A outer s H E).A (CxD P w K mg base N_Rig_many "Rig.many" (defScope s_Rig_many) f cdv A outer s H E).env (CxD P w K mg base N_Rig_many "Rig.many" (defScope s_Rig_many) f cdv A outer s H E).xe) : PSsD (CxD P w K mg base N_Rig_many "Rig.many" (defScope s_Rig_many) f cdv A outer s H E) wd (defBody s_Rig_many) (t_Rig_many a) :=
  have nd : (N_Rig_many : List Str).Nodup := sc_Rig_many.nd
  (pssd_one (psd_ret (pd_fld (ns := ns_Rig) (i := 0) fx.c_Rig fx.na_Rig_own_many (pdv 0))))
theorem fz_Rig_many {P : Program} {w : World} {K : PySem.W.Frag} {mg : Str → Option Value} {base : Heap} {a : Ad} (fx : Fx K mg a) {dvs : List V} {kws : List (Str × V)} {f : Addr} {fd : FuncData}
    (F : FunD K "many" "Rig.many" (defArgs s_Rig_many) (defBody s_Rig_many) (defScope s_Rig_many) dvs kws f fd) : FnZ P w K mg base 1 f fd P_Rig_many (sp_Rig_many a) :=
  fnz_of F sc_Rig_many (len_Rig_many a) (fun cdv A outer s H E wd hr tk hp => dv_Rig_many fx  hr tk hp) (vc_Rig_many a)
theorem sc_Rig_ropes : FnScope N_Rig_ropes P_Rig_ropes (defScope s_Rig_ropes) := ⟨rfl, rfl, rfl, by decide +kernel, rfl, by decide +kernel, by decide +kernel⟩
theorem dv_Rig_ropes {P : Program} {w : World} {K : PySem.W.Frag} {mg : Str → Option Value} {base : Heap} {a : Ad} (fx : Fx K mg a) {f : Addr} {cdv : Value} {A : Around} {outer : List Env} {s : Shared} {H : Hp} {E : XK} {wd : WD}
    (hr : Rm 0 (CxD P w K mg base N_Rig_ropes "Rig.ropes" (defScope s_Rig_ropes) f cdv A outer s H E).A) (tk : TkD (CxD P w K mg base N_Rig_ropes "Rig.ropes" (defScope s_Rig_ropes) f cdv A outer s H E) wd) (hp : PassesOwn (model P w) (CxD P w K mg base N_Rig_ropes "Rig.ropes" (defScope s_Rig_ropes) f cdv A outer s H E).A (CxD P w K mg base N_Rig_ropes "Rig.ropes" (defScope s_Rig_ropes) f cdv A outer s H E).env (CxD P w K mg base N_Rig_ropes "Rig.ropes" (defScope s_Rig_ropes) f cdv A outer s H E).xe) : PSsD (CxD P w K mg base N_Rig_ropes "Rig.ropes" (defScope s_Rig_ropes) f cdv A outer s H E) wd (defBody s_Rig_ropes) (t_Rig_ropes a) :=
  have nd : (N_Rig_ropes : List Str).Nodup := sc_Rig_ropes.nd
  (pssd_one (psd_ret (pd_callTy (cd_list false) (pad_cons (pd_fld (ns := ns_Rig) (i := 1) fx.c_Rig fx.na_Rig_own_ropes (pdv 0)) pad_nil) fx.m_list (hv := boot_list))))
theorem fz_Rig_ropes {P : Program} {w : World} {K : PySem.W.Frag} {mg : Str → Option Value} {base : Heap} {a : Ad} (fx : Fx K mg a) {dvs : List V} {kws : List (Str × V)} {f : Addr} {fd : FuncData}
    (F : FunD K "ropes" "Rig.ropes" (defArgs s_Rig_ropes) (defBody s_Rig_ropes) (defScope s_Rig_ropes) dvs kws f fd) : FnZ P w K mg base 1 f fd P_Rig_ropes (sp_Rig_ropes a) :=
  fnz_of F sc_Rig_ropes (len_Rig_ropes a) (fun cdv A outer s H E wd hr tk hp => dv_Rig_ropes fx  hr tk hp) (vc_Rig_ropes a)
theorem sc_Rig___eq__ : FnScope N_Rig___eq__ P_Rig___eq__ (defScope s_Rig___eq__) := ⟨rfl, rfl, rfl, by decide +kernel, rfl, by decide +kernel, by decide +kernel⟩
theorem dv_Rig___eq__ {P : Program} {w : World} {K : PySem.W.Frag} {mg : Str → Option Value} {base : Heap} {a : Ad} (fx : Fx K mg a) {f : Addr} {cdv : Value} {A : Around} {outer : List Env} {s : Shared} {H : Hp} {E : XK} {wd : WD}
    (hr : Rm 0 (CxD P w K mg base N_Rig___eq__ "Rig.__eq__" (defScope s_Rig___eq__) f cdv A outer s H E).A) (tk : TkD (CxD P w K mg base N_Rig___eq__ "Rig.__eq__" (defScope s_Rig___eq__) f cdv A outer s H E) wd) (hp : PassesOwn (model P w) (CxD P w K mg base N_Rig___eq__ "Rig.__eq__" (defScope s_Rig___eq__) f cdv A outer s H E).A (CxD P w K mg base N_Rig___eq__ "Rig.__eq__" (defScope s_Rig___eq__) f cdv A outer s H E).env (CxD P w K mg base N_Rig___eq__ "Rig.__eq__" (defScope s_Rig___eq__) f cdv A outer s H E).xe) : PSsD (CxD P w K mg base N_Rig___eq__ "Rig.__eq__" (defScope s_Rig___eq__) f cdv A outer s H E) wd (defBody s_Rig___eq__) (t_Rig___eq__ a) :=
  have nd : (N_Rig___eq__ : List Str).Nodup := sc_Rig___eq__.nd
  (pssd_cons (psd_if (ptd_not (pt_val (pd_callB (cd_isC fx.ci_Rig fx.c_Rig) (pad_cons (pdv 1) (pad_cons (pd_glob fx.g_Rig) pad_nil)) fx.m_isinstance (hv := boot_isinstance)))) (pssd_one (psd_ret pd_bl)) pssd_nil)
 (pssd_one (psd_ret (pd_and (pd_cmp (od_eq hr) (pd_fld (ns := ns_Rig) (i := 0) fx.c_Rig fx.na_Rig_own_many (pdv 0)) (pd_fld (ns := ns_Rig) (i := 0) fx.c_Rig fx.na_Rig_own_many (pdv 1))) (pd_one (pd_cmp (od_eq hr) (pd_fld (ns := ns_Rig) (i := 1) fx.c_Rig fx.na_Rig_own_ropes (pdv 0)) (pd_fld (ns := ns_Rig) (i := 1) fx.c_Rig fx.na_Rig_own_ropes (pdv 1))))))))
theorem fz_Rig___eq__ {P : Program} {w : World} {K : PySem.W.Frag} {mg : Str → Option Value} {base : Heap} {a : Ad} (fx : Fx K mg a) {dvs : List V} {kws : List (Str × V)} {f : Addr} {fd : FuncData}
    (F : FunD K "__eq__" "Rig.__eq__" (defArgs s_Rig___eq__) (defBody s_Rig___eq__) (defScope s_Rig___eq__) dvs kws f fd) : FnZ P w K mg base 1 f fd P_Rig___eq__ (sp_Rig___eq__ a) :=
  fnz_of F sc_Rig___eq__ (len_Rig___eq__ a) (fun cdv A outer s H E wd hr tk hp => dv_Rig___eq__ fx  hr tk hp) (vc_Rig___eq__ a)
theorem sc_is_heights : FnScope N_is_heights P_is_heights (defScope s_is_heights) := ⟨rfl, rfl, rfl, by decide +kernel, rfl, by decide +kernel, by decide +kernel⟩
theorem dv_is_heights {P : Program} {w : World} {K : PySem.W.Frag} {mg : Str → Option Value} {base : Heap} {a : Ad} (fx : Fx K mg a) (C_are_wholes : CalF P w K mg base 2 "are_wholes" [] (sp_are_wholes a)) (F_Rig_many : CalM P w K mg base 1 a.Rig "many" [] (sp_Rig_many a)) {f : Addr} {cdv : Value} {A : Around} {outer : List Env} {s : Shared} {H : Hp} {E : XK} {wd : WD}
    (hr : Rm 2 (CxD P w K mg base N_is_heights "is_heights" (defScope s_is_heights) f cdv A outer s H E).A) (tk : TkD (CxD P w K mg base N_is_heights "is_heights" (defScope s_is_heights) f cdv A outer s H E) wd) (hp : PassesOwn (model P w) (CxD P w K mg base N_is_heights "is_heights" (defScope s_is_heights) f cdv A outer s H E).A (CxD P w K mg base N_is_heights "is_heights" (defScope s_is_heights) f cdv A outer s H E).env (CxD P w K mg base N_is_heights "is_heights" (defScope s_is_heights) f cdv A outer s H E).xe) : PSsD (CxD P w K mg base N_is_heights "is_heights" (defScope s_is_heights) f cdv A outer s H E) wd (defBody s_is_heights) (t_is_heights a) :=
  have nd : (N_is_heights : List Str).Nodup := sc_is_heights.nd
  (pssd_one (psd_ret (pd_call C_are_wholes (hr.mono (by decide)) tk (pad_cons (pdv 1) (pad_cons (pd_meth0 (ns := ns_Rig) F_Rig_many (hr.mono (by decide)) tk (pdv 0)) pad_nil)))))
theorem fz_is_heights {P : Program} {w : World} {K : PySem.W.Frag} {mg : Str → Option Value} {base : Heap} {a : Ad} (fx : Fx K mg a) (C_are_wholes : CalF P w K mg base 2 "are_wholes" [] (sp_are_wholes a)) (F_Rig_many : CalM P w K mg base 1 a.Rig "many" [] (sp_Rig_many a)) {dvs : List V} {kws : List (Str × V)} {f : Addr} {fd : FuncData}
    (F : FunD K "is_heights" "is_heights" (defArgs s_is_heights) (defBody s_is_heights) (defScope s_is_heights) dvs kws f fd) : FnZ P w K mg base 3 f fd P_is_heights (sp_is_heights a) :=
  fnz_of F sc_is_heights (len_is_heights a) (fun cdv A outer s H E wd hr tk hp => dv_is_heights fx C_are_wholes F_Rig_many hr tk hp) (vc_is_heights a)
theorem sc_look_at_heights : FnScope N_look_at_heights P_look_at_heights (defScope s_look_at_heights) := ⟨rfl, rfl, rfl, by decide +kernel, rfl, by decide +kernel, by decide +kernel⟩
theorem dv_look_at_heights {P : Program} {w : World} {K : PySem.W.Frag} {mg : Str → Option Value} {base : Heap} {a : Ad} (fx : Fx K mg a) (C_is_heights : CalF P w K mg base 3 "is_heights" [] (sp_is_heights a)) (X_NoHeights : CalX P w K mg base "NoHeights" a.NoHeights) {f : Addr} {cdv : Value} {A : Around} {outer : List Env} {s : Shared} {H : Hp} {E : XK} {wd : WD}
    (hr : Rm 3 (CxD P w K mg base N_look_at_heights "look_at_heights" (defScope s_look_at_heights) f cdv A outer s H E).A) (tk : TkD (CxD P w K mg base N_look_at_heights "look_at_heights" (defScope s_look_at_heights) f cdv A outer s H E) wd) (hp : PassesOwn (model P w) (CxD P w K mg base N_look_at_heights "look_at_heights" (defScope s_look_at_heights) f cdv A outer s H E).A (CxD P w K mg base N_look_at_heights "look_at_heights" (defScope s_look_at_heights) f cdv A outer s H E).env (CxD P w K mg base N_look_at_heights "look_at_heights" (defScope s_look_at_heights) f cdv A outer s H E).xe) : PSsD (CxD P w K mg base N_look_at_heights "look_at_heights" (defScope s_look_at_heights) f cdv A outer s H E) wd (defBody s_look_at_heights) (t_look_at_heights a) :=
  have nd : (N_look_at_heights : List Str).Nodup := sc_look_at_heights.nd
  (pssd_one (psd_if (ptd_not (pt_val (pd_call C_is_heights (hr.mono (by decide)) tk (pad_cons (pdv 0) (pad_cons (pdv 1) pad_nil))))) (pssd_one (psd_raise X_NoHeights rfl (hr.mono (by decide)) tk (pdv 1))) pssd_nil))
theorem fz_look_at_heights {P : Program} {w : World} {K : PySem.W.Frag} {mg : Str → Option Value} {base : Heap} {a : Ad} (fx : Fx K mg a) (C_is_heights : CalF P w K mg base 3 "is_heights" [] (sp_is_heights a)) (X_NoHeights : CalX P w K mg base "NoHeights" a.NoHeights) {dvs : List V} {kws : List (Str × V)} {f : Addr} {fd : FuncData}
    (F : FunD K "look_at_heights" "look_at_heights" (defArgs s_look_at_heights) (defBody s_look_at_heights) (defScope s_look_at_heights) dvs kws f fd) : FnZ P w K mg base 4 f fd P_look_at_heights (sp_look_at_heights a) :=
  fnz_of F sc_look_at_heights (len_look_at_heights a) (fun cdv A outer s H E wd hr tk hp => dv_look_at_heights fx C_is_heights X_NoHeights hr tk hp) (vc_look_at_heights a)
theorem sc_room_by : FnScope N_room_by P_room_by (defScope s_room_by) := ⟨rfl, rfl, rfl, by decide +kernel, rfl, by decide +kernel, by decide +kernel⟩
theorem dv_room_by {P : Program} {w : World} {K : PySem.W.Frag} {mg : Str → Option Value} {base : Heap} {a : Ad} (fx : Fx K mg a) {f : Addr} {cdv : Value} {A : Around} {outer : List Env} {s : Shared} {H : Hp} {E : XK} {wd : WD}
    (hr : Rm 0 (CxD P w K mg base N_room_by "room_by" (defScope s_room_by) f cdv A outer s H E).A) (tk : TkD (CxD P w K mg base N_room_by "room_by" (defScope s_room_by) f cdv A outer s H E) wd) (hp : PassesOwn (model P w) (CxD P w K mg base N_room_by "room_by" (defScope s_room_by) f cdv A outer s H E).A (CxD P w K mg base N_room_by "room_by" (defScope s_room_by) f cdv A outer s H E).env (CxD P w K mg base N_room_by "room_by" (defScope s_room_by) f cdv A outer s H E).xe) : PSsD (CxD P w K mg base N_room_by "room_by" (defScope s_room_by) f cdv A outer s H E) wd (defBody s_room_by) (t_room_by a) :=
  have nd : (N_room_by : List Str).Nodup := sc_room_by.nd
  (pssd_cons (psd_asg (pdv 0) (pgd_seq rfl (pgsd_cons (pgd_name (i := 3) nd) (pgsd_cons (pgd_name (i := 4) nd) (pgsd_cons (pgd_name (i := 5) nd) pgsd_nil)))))
 (pssd_cons (psd_set (i := 2) nd (pd_bin (od_add false) (pd_lst (pad_cons pd_int pad_nil)) (pdv 1)))
 (pssd_one (psd_ret (pd_bin (od_add false) (pd_bin od_sub (pdv 5) (pd_ix ixd (pdv 2) (pdv 3))) (pd_ix ixd (pdv 2) (pdv 4)))))))
theorem fz_room_by {P : Program} {w : World} {K : PySem.W.Frag} {mg : Str → Option Value} {base : Heap} {a : Ad} (fx : Fx K mg a) {dvs : List V} {kws : List (Str × V)} {f : Addr} {fd : FuncData}
    (F : FunD K "room_by" "room_by" (defArgs s_room_by) (defBody s_room_by) (defScope s_room_by) dvs kws f fd) : FnZ P w K mg base 1 f fd P_room_by (sp_room_by a) :=
  fnz_of F sc_room_by (len_room_by a) (fun cdv A outer s H E wd hr tk hp => dv_room_by fx  hr tk hp) (vc_room_by a)
theorem sc_broken : FnScope N_broken P_broken (defScope s_broken) := ⟨rfl, rfl, rfl, by decide +kernel, rfl, by decide +kernel, by decide +kernel⟩
theorem dv_broken {P : Program} {w : World} {K : PySem.W.Frag} {mg : Str → Option Value} {base : Heap} {a : Ad} (fx : Fx K mg a) (C_look_at_heights : CalF P w K mg base 4 "look_at_heights" [] (sp_look_at_heights a)) (C_room_by : CalF P w K mg base 1 "room_by" [] (sp_room_by a)) (F_Rig_ropes : CalM P w K mg base 1 a.Rig "ropes" [] (sp_Rig_ropes a)) {f : Addr} {cdv : Value} {A : Around} {outer : List Env} {s : Shared} {H : Hp} {E : XK} {wd : WD}
    (hr : Rm 4 (CxD P w K mg base N_broken "broken" (defScope s_broken) f cdv A outer s H E).A) (tk : TkD (CxD P w K mg base N_broken "broken" (defScope s_broken) f cdv A outer s H E) wd) (hp : PassesOwn (model P w) (CxD P w K mg base N_broken "broken" (defScope s_broken) f cdv A outer s H E).A (CxD P w K mg base N_broken "broken" (defScope s_broken) f cdv A outer s H E).env (CxD P w K mg base N_broken "broken" (defScope s_broken) f cdv A outer s H E).xe) : PSsD (CxD P w K mg base N_broken "broken" (defScope s_broken) f cdv A outer s H E) wd (defBody s_broken) (t_broken a) :=
  have nd : (N_broken : List Str).Nodup := sc_broken.nd
  (pssd_cons (psd_expr (pd_call C_look_at_heights (hr.mono (by decide)) tk (pad_cons (pdv 0) (pad_cons (pdv 1) pad_nil))))
 (pssd_one (psd_ret (pd_lc (own := [("number", 2), ("rope", 3)]) rfl nd (blkOk_by (by kernel_rfl)) (pid_enum fx.m_enumerate (pad_cons (pd_meth0 (ns := ns_Rig) F_Rig_ropes (hr.mono (by decide)) tk (pdv 0)) pad_nil)) (fun _ _ _ _ _ => (pgd_seq rfl (pgsd_cons (pgd_name (i := 2) nd) (pgsd_cons (pgd_name (i := 3) nd) pgsd_nil)))) (fun _ _ _ _ _ => (ptsd_one (pt_cmpD od_lt (pd_call C_room_by (hr.mono (by decide)) tk0 (pad_cons (pdv 3) (pad_cons (pdv 1) pad_nil))) pd_int))) (fun _ _ _ _ _ => (pdv 2))))))
theorem fz_broken {P : Program} {w : World} {K : PySem.W.Frag} {mg : Str → Option Value} {base : Heap} {a : Ad} (fx : Fx K mg a) (C_look_at_heights : CalF P w K mg base 4 "look_at_heights" [] (sp_look_at_heights a)) (C_room_by : CalF P w K mg base 1 "room_by" [] (sp_room_by a)) (F_Rig_ropes : CalM P w K mg base 1 a.Rig "ropes" [] (sp_Rig_ropes a)) {dvs : List V} {kws : List (Str × V)} {f : Addr} {fd : FuncData}
    (F : FunD K "broken" "broken" (defArgs s_broken) (defBody s_broken) (defScope s_broken) dvs kws f fd) : FnZ P w K mg base 5 f fd P_broken (sp_broken a) :=
  fnz_of F sc_broken (len_broken a) (fun cdv A outer s H E wd hr tk hp => dv_broken fx C_look_at_heights C_room_by F_Rig_ropes hr tk hp) (vc_broken a)
theorem sc_Rig_turned : FnScope N_Rig_turned P_Rig_turned (defScope s_Rig_turned) := ⟨rfl, rfl, rfl, by decide +kernel, rfl, by decide +kernel, by decide +kernel⟩
theorem dv_Rig_turned {P : Program} {w : World} {K : PySem.W.Frag} {mg : Str → Option Value} {base : Heap} {a : Ad} (fx : Fx K mg a) (M_Rig : CalC P w K mg base 5 "Rig" a.Rig [] (sp_Rig___init__ a)) {f : Addr} {cdv : Value} {A : Around} {outer : List Env} {s : Shared} {H : Hp} {E : XK} {wd : WD}
    (hr : Rm 6 (CxD P w K mg base N_Rig_turned "Rig.turned" (defScope s_Rig_turned) f cdv A outer s H E).A) (tk : TkD (CxD P w K mg base N_Rig_turned "Rig.turned" (defScope s_Rig_turned) f cdv A outer s H E) wd) (hp : PassesOwn (model P w) (CxD P w K mg base N_Rig_turned "Rig.turned" (defScope s_Rig_turned) f cdv A outer s H E).A (CxD P w K mg base N_Rig_turned "Rig.turned" (defScope s_Rig_turned) f cdv A outer s H E).env (CxD P w K mg base N_Rig_turned "Rig.turned" (defScope s_Rig_turned) f cdv A outer s H E).xe) : PSsD (CxD P w K mg base N_Rig_turned "Rig.turned" (defScope s_Rig_turned) f cdv A outer s H E) wd (defBody s_Rig_turned) (t_Rig_turned a) :=
  have nd : (N_Rig_turned : List Str).Nodup := sc_Rig_turned.nd
  (pssd_one (psd_ret (pd_frz (pd_make M_Rig (hr.mono (by decide)) tk (pad_cons (pd_fld (ns := ns_Rig) (i := 0) fx.c_Rig fx.na_Rig_own_many (pdv 0)) (pad_cons (pd_lc (own := [("upper", 1), ("lower", 2), ("most", 3)]) rfl nd (blkOk_by (by kernel_rfl)) (pid_seq (pd_fld (ns := ns_Rig) (i := 1) fx.c_Rig fx.na_Rig_own_ropes (pdv 0))) (fun _ _ _ _ _ => (pgd_seq rfl (pgsd_cons (pgd_name (i := 1) nd) (pgsd_cons (pgd_name (i := 2) nd) (pgsd_cons (pgd_name (i := 3) nd) pgsd_nil))))) (fun _ _ _ _ _ => ptsd_nil) (fun _ _ _ _ _ => (pd_tup (pad_cons (pdv 2) (pad_cons (pdv 1) (pad_cons (pdv 3) pad_nil)))))) pad_nil))))))
theorem fz_Rig_turned {P : Program} {w : World} {K : PySem.W.Frag} {mg : Str → Option Value} {base : Heap} {a : Ad} (fx : Fx K mg a) (M_Rig : CalC P w K mg base 5 "Rig" a.Rig [] (sp_Rig___init__ a)) {dvs : List V} {kws : List (Str × V)} {f : Addr} {fd : FuncData}
    (F : FunD K "turned" "Rig.turned" (defArgs s_Rig_turned) (defBody s_Rig_turned) (defScope s_Rig_turned) dvs kws f fd) : FnZ P w K mg base 7 f fd P_Rig_turned (sp_Rig_turned a) :=
  fnz_of F sc_Rig_turned (len_Rig_turned a) (fun cdv A outer s H E wd hr tk hp => dv_Rig_turned fx M_Rig hr tk hp) (vc_Rig_turned a)
theorem sc_Rig_called : FnScope N_Rig_called P_Rig_called (defScope s_Rig_called) := ⟨rfl, rfl, rfl, by decide +kernel, rfl, by decide +kernel, by decide +kernel⟩
theorem dv_Rig_called {P : Program} {w : World} {K : PySem.W.Frag} {mg : Str → Option Value} {base : Heap} {a : Ad} (fx : Fx K mg a) (C_are_wholes : CalF P w K mg base 2 "are_wholes" [] (sp_are_wholes a)) (M_Rig : CalC P w K mg base 5 "Rig" a.Rig [] (sp_Rig___init__ a)) (X_NoOrder : CalX P w K mg base "NoOrder" a.NoOrder) {f : Addr} {cdv : Value} {A : Around} {outer : List Env} {s : Shared} {H : Hp} {E : XK} {wd : WD}
    (hr : Rm 6 (CxD P w K mg base N_Rig_called "Rig.called" (defScope s_Rig_called) f cdv A outer s H E).A) (tk : TkD (CxD P w K mg base N_Rig_called "Rig.called" (defScope s_Rig_called) f cdv A outer s H E) wd) (hp : PassesOwn (model P w) (CxD P w K mg base N_Rig_called "Rig.called" (defScope s_Rig_called) f cdv A outer s H E).A (CxD P w K mg base N_Rig_called "Rig.called" (defScope s_Rig_called) f cdv A outer s H E).env (CxD P w K mg base N_Rig_called "Rig.called" (defScope s_Rig_called) f cdv A outer s H E).xe) : PSsD (CxD P w K mg base N_Rig_called "Rig.called" (defScope s_Rig_called) f cdv A outer s H E) wd (defBody s_Rig_called) (t_Rig_called a) :=
  have nd : (N_Rig_called : List Str).Nodup := sc_Rig_called.nd
  (pssd_cons (psd_if (PWD.pt (pwd_or (ptd_not (pt_val (pd_call C_are_wholes (hr.mono (by decide)) tk (pad_cons (pdv 1) (pad_cons (pd_fld (ns := ns_Rig) (i := 0) fx.c_Rig fx.na_Rig_own_many (pdv 0)) pad_nil))))) (pwd_or1 (pt_cmpD (od_ne hr) (pd_callB (cd_sorted false) (pad_cons (pdv 1) pad_nil) fx.m_sorted (hv := boot_sorted)) (pd_lstRg2 (m := false) rfl fx.m_list fx.m_range pd_int (pd_bin (od_add false) (pd_fld (ns := ns_Rig) (i := 0) fx.c_Rig fx.na_Rig_own_many (pdv 0)) pd_int)))))) (pssd_one (psd_raise X_NoOrder rfl (hr.mono (by decide)) tk (pdv 1))) pssd_nil)
 (pssd_cons (psd_set (i := 2) nd (pd_bin (od_add false) (pd_lst (pad_cons pd_int pad_nil)) (pdv 1)))
 (pssd_one (psd_ret (pd_frz (pd_make M_Rig (hr.mono (by decide)) tk (pad_cons (pd_fld (ns := ns_Rig) (i := 0) fx.c_Rig fx.na_Rig_own_many (pdv 0)) (pad_cons (pd_lc (own := [("upper", 3), ("lower", 4), ("most", 5)]) rfl nd (blkOk_by (by kernel_rfl)) (pid_seq (pd_fld (ns := ns_Rig) (i := 1) fx.c_Rig fx.na_Rig_own_ropes (pdv 0))) (fun _ _ _ _ _ => (pgd_seq rfl (pgsd_cons (pgd_name (i := 3) nd) (pgsd_cons (pgd_name (i := 4) nd) (pgsd_cons (pgd_name (i := 5) nd) pgsd_nil))))) (fun _ _ _ _ _ => ptsd_nil) (fun _ _ _ _ _ => (pd_tup (pad_cons (pd_ix ixd (pdv 2) (pdv 3)) (pad_cons (pd_ix ixd (pdv 2) (pdv 4)) (pad_cons (pdv 5) pad_nil)))))) pad_nil))))))))
theorem fz_Rig_called {P : Program} {w : World} {K : PySem.W.Frag} {mg : Str → Option Value} {base : Heap} {a : Ad} (fx : Fx K mg a) (C_are_wholes : CalF P w K mg base 2 "are_wholes" [] (sp_are_wholes a)) (M_Rig : CalC P w K mg base 5 "Rig" a.Rig [] (sp_Rig___init__ a)) (X_NoOrder : CalX P w K mg base "NoOrder" a.NoOrder) {dvs : List V} {kws : List (Str × V)} {f : Addr} {fd : FuncData}
    (F : FunD K "called" "Rig.called" (defArgs s_Rig_called) (defBody s_Rig_called) (defScope s_Rig_called) dvs kws f fd) : FnZ P w K mg base 7 f fd P_Rig_called (sp_Rig_called a) :=
  fnz_of F sc_Rig_called (len_Rig_called a) (fun cdv A outer s H E wd hr tk hp => dv_Rig_called fx C_are_wholes M_Rig X_NoOrder hr tk hp) (vc_Rig_called a)
theorem sc_Rig_measured : FnScope N_Rig_measured P_Rig_measured (defScope s_Rig_measured) := ⟨rfl, rfl, rfl, by decide +kernel, rfl, by decide +kernel, by decide +kernel⟩
theorem dv_Rig_measured {P : Program} {w : World} {K : PySem.W.Frag} {mg : Str → Option Value} {base : Heap} {a : Ad} (fx : Fx K mg a) (C_are_wholes : CalF P w K mg base 2 "are_wholes" [] (sp_are_wholes a)) (M_Rig : CalC P w K mg base 5 "Rig" a.Rig [] (sp_Rig___init__ a)) (X_NoHeights : CalX P w K mg base "NoHeights" a.NoHeights) {f : Addr} {cdv : Value} {A : Around} {outer : List Env} {s : Shared} {H : Hp} {E : XK} {wd : WD}
    (hr : Rm 6 (CxD P w K mg base N_Rig_measured "Rig.measured" (defScope s_Rig_measured) f cdv A outer s H E).A) (tk : TkD (CxD P w K mg base N_Rig_measured "Rig.measured" (defScope s_Rig_measured) f cdv A outer s H E) wd) (hp : PassesOwn (model P w) (CxD P w K mg base N_Rig_measured "Rig.measured" (defScope s_Rig_measured) f cdv A outer s H E).A (CxD P w K mg base N_Rig_measured "Rig.measured" (defScope s_Rig_measured) f cdv A outer s H E).env (CxD P w K mg base N_Rig_measured "Rig.measured" (defScope s_Rig_measured) f cdv A outer s H E).xe) : PSsD (CxD P w K mg base N_Rig_measured "Rig.measured" (defScope s_Rig_measured) f cdv A outer s H E) wd (defBody s_Rig_measured) (t_Rig_measured a) :=
  have nd : (N_Rig_measured : List Str).Nodup := sc_Rig_measured.nd
  (pssd_cons (psd_if (ptd_not (pt_val (pd_call C_are_wholes (hr.mono (by decide)) tk (pad_cons (pdv 1) (pad_cons (pd_fld (ns := ns_Rig) (i := 0) fx.c_Rig fx.na_Rig_own_many (pdv 0)) pad_nil))))) (pssd_one (psd_raise X_NoHeights rfl (hr.mono (by decide)) tk (pdv 1))) pssd_nil)
 (pssd_cons (psd_set (i := 2) nd (pd_bin (od_add false) (pd_lst (pad_cons pd_int pad_nil)) (pdv 1)))
 (pssd_cons (psd_setLc (i := 3) (own := [("upper", 4), ("lower", 5), ("most", 6)]) rfl nd (blkOk_by (by kernel_rfl)) (pid_seq (pd_fld (ns := ns_Rig) (i := 1) fx.c_Rig fx.na_Rig_own_ropes (pdv 0))) (fun _ _ _ _ _ => (pgd_seq rfl (pgsd_cons (pgd_name (i := 4) nd) (pgsd_cons (pgd_name (i := 5) nd) (pgsd_cons (pgd_name (i := 6) nd) pgsd_nil))))) (fun _ _ _ _ _ => ptsd_nil) (fun _ _ _ _ _ => (pd_tup (pad_cons (pdv 4) (pad_cons (pdv 5) (pad_cons (pd_bin od_sub (pd_bin (od_add false) (pdv 6) (pd_ix ixd (pdv 2) (pdv 4))) (pd_ix ixd (pdv 2) (pdv 5))) pad_nil))))))
 (pssd_one (psd_ret (pd_frz (pd_make M_Rig (hr.mono (by decide)) tk (pad_cons (pd_fld (ns := ns_Rig) (i := 0) fx.c_Rig fx.na_Rig_own_many (pdv 0)) (pad_cons (pdv 3) pad_nil)))))))))
theorem fz_Rig_measured {P : Program} {w : World} {K : PySem.W.Frag} {mg : Str → Option Value} {base : Heap} {a : Ad} (fx : Fx K mg a) (C_are_wholes : CalF P w K mg base 2 "are_wholes" [] (sp_are_wholes a)) (M_Rig : CalC P w K mg base 5 "Rig" a.Rig [] (sp_Rig___init__ a)) (X_NoHeights : CalX P w K mg base "NoHeights" a.NoHeights) {dvs : List V} {kws : List (Str × V)} {f : Addr} {fd : FuncData}
    (F : FunD K "measured" "Rig.measured" (defArgs s_Rig_measured) (defBody s_Rig_measured) (defScope s_Rig_measured) dvs kws f fd) : FnZ P w K mg base 7 f fd P_Rig_measured (sp_Rig_measured a) :=
  fnz_of F sc_Rig_measured (len_Rig_measured a) (fun cdv A outer s H E wd hr tk hp => dv_Rig_measured fx C_are_wholes M_Rig X_NoHeights hr tk hp) (vc_Rig_measured a)
theorem sc__law_pool : FnScope N__law_pool P__law_pool (defScope s__law_pool) := ⟨rfl, rfl, rfl, by decide +kernel, rfl, by decide +kernel, by decide +kernel⟩
theorem dv__law_pool {P : Program} {w : World} {K : PySem.W.Frag} {mg : Str → Option Value} {base : Heap} {a : Ad} (fx : Fx K mg a) {f : Addr} {cdv : Value} {A : Around} {outer : List Env} {s : Shared} {H : Hp} {E : XK} {wd : WD}
    (hr : Rm 0 (CxD P w K mg base N__law_pool "_law_pool" (defScope s__law_pool) f cdv A outer s H E).A) (tk : TkD (CxD P w K mg base N__law_pool "_law_pool" (defScope s__law_pool) f cdv A outer s H E) wd) (hp : PassesOwn (model P w) (CxD P w K mg base N__law_pool "_law_pool" (defScope s__law_pool) f cdv A outer s H E).A (CxD P w K mg base N__law_pool "_law_pool" (defScope s__law_pool) f cdv A outer s H E).env (CxD P w K mg base N__law_pool "_law_pool" (defScope s__law_pool) f cdv A outer s H E).xe) : PSsD (CxD P w K mg base N__law_pool "_law_pool" (defScope s__law_pool) f cdv A outer s H E) wd (defBody s__law_pool) (t__law_pool a) :=
  have nd : (N__law_pool : List Str).Nodup := sc__law_pool.nd
  (pssd_cons (psd_set (i := 2) nd pd_int)
 (pssd_cons (psd_if (pt_cmpD od_lt (pdv 1) (pd_callB cd_len (pad_cons (pdv 0) pad_nil) fx.m_len (hv := boot_len))) (pssd_one (psd_set (i := 2) nd (pd_ix ixd (pdv 0) (pdv 1)))) pssd_nil)
 (pssd_cons (psd_set (i := 3) nd (pd_bin od_mod (pd_bin (od_mul false) (pd_bin (od_add false) (pd_bin (od_add false) (pd_bin od_mod (pdv 2) pd_int) (pd_bin (od_mul false) (pd_bin (od_mul false) pd_int (pdv 1)) (pdv 1))) pd_int) pd_int) pd_int))
 (pssd_cons (psd_if (pt_cmpD od_lt (pdv 2) (pd_bin od_pow pd_int pd_int)) (pssd_one (psd_set (i := 2) nd pd_int)) pssd_nil)
 (pssd_one (psd_ret (pd_lstM (pad_cons (pdv 2) (pad_cons (pd_bin (od_add true) (pd_bin od_mod (pd_bin (od_mul false) (pdv 3) (pdv 3)) pd_int) pd_int) pad_nil)))))))))
theorem fz__law_pool {P : Program} {w : World} {K : PySem.W.Frag} {mg : Str → Option Value} {base : Heap} {a : Ad} (fx : Fx K mg a) {dvs : List V} {kws : List (Str × V)} {f : Addr} {fd : FuncData}
    (F : FunD K "_law_pool" "_law_pool" (defArgs s__law_pool) (defBody s__law_pool) (defScope s__law_pool) dvs kws f fd) : FnZ P w K mg base 1 f fd P__law_pool (sp__law_pool a) :=
  fnz_of F sc__law_pool (len__law_pool a) (fun cdv A outer s H E wd hr tk hp => dv__law_pool fx  hr tk hp) (vc__law_pool a)
theorem sc__law_take : FnScope N__law_take P__law_take (defScope s__law_take) := ⟨rfl, rfl, rfl, by decide +kernel, rfl, by decide +kernel, by decide +kernel⟩
theorem dv__law_take {P : Program} {w : World} {K : PySem.W.Frag} {mg : Str → Option Value} {base : Heap} {a : Ad} (fx : Fx K mg a) {f : Addr} {cdv : Value} {A : Around} {outer : List Env} {s : Shared} {H : Hp} {E : XK} {wd : WD}
    (hr : Rm 0 (CxD P w K mg base N__law_take "_law_take" (defScope s__law_take) f cdv A outer s H E).A) (tk : TkD (CxD P w K mg base N__law_take "_law_take" (defScope s__law_take) f cdv A outer s H E) wd) (hp : PassesOwn (model P w) (CxD P w K mg base N__law_take "_law_take" (defScope s__law_take) f cdv A outer s H E).A (CxD P w K mg base N__law_take "_law_take" (defScope s__law_take) f cdv A outer s H E).env (CxD P w K mg base N__law_take "_law_take" (defScope s__law_take) f cdv A outer s H E).xe) : PSsD (CxD P w K mg base N__law_take "_law_take" (defScope s__law_take) f cdv A outer s H E) wd (defBody s__law_take) (t__law_take a) :=
  have nd : (N__law_take : List Str).Nodup := sc__law_take.nd
  (pssd_cons (psd_if (pt_cmpD od_gt (pd_ix ixd (pdv 0) pd_int) pd_int) (pssd_cons (psd_set (i := 2) nd (pd_bin od_mod (pd_ix ixd (pdv 0) pd_int) (pdv 1)))
 (pssd_cons (psd_asgS sd_list (pd_bin od_fdv (pd_ix ixd (pdv 0) pd_int) (pdv 1)) (pdv 0) pd_int)
 (pssd_one (psd_ret (pdv 2))))) pssd_nil)
 (pssd_cons (psd_asgS sd_list (pd_bin od_mod (pd_bin (od_add false) (pd_bin (od_mul false) (pd_ix ixd (pdv 0) pd_int) pd_int) pd_int) pd_int) (pdv 0) pd_int)
 (pssd_one (psd_ret (pd_bin od_mod (pd_bin od_fdv (pd_bin od_mod (pd_bin (od_mul false) (pd_ix ixd (pdv 0) pd_int) (pd_ix ixd (pdv 0) pd_int)) pd_int) pd_int) (pdv 1))))))
theorem fz__law_take {P : Program} {w : World} {K : PySem.W.Frag} {mg : Str → Option Value} {base : Heap} {a : Ad} (fx : Fx K mg a) {dvs : List V} {kws : List (Str × V)} {f : Addr} {fd : FuncData}
    (F : FunD K "_law_take" "_law_take" (defArgs s__law_take) (defBody s__law_take) (defScope s__law_take) dvs kws f fd) : FnZ P w K mg base 1 f fd P__law_take (sp__law_take a) :=
  fnz_of F sc__law_take (len__law_take a) (fun cdv A outer s H E wd hr tk hp => dv__law_take fx  hr tk hp) (vc__law_take a)
theorem sc__law_height : FnScope N__law_height P__law_height (defScope s__law_height) := ⟨rfl, rfl, rfl, by decide +kernel, rfl, by decide +kernel, by decide +kernel⟩
theorem dv__law_height {P : Program} {w : World} {K : PySem.W.Frag} {mg : Str → Option Value} {base : Heap} {a : Ad} (fx : Fx K mg a) (C__law_take : CalF P w K mg base 1 "_law_take" [] (sp__law_take a)) {f : Addr} {cdv : Value} {A : Around} {outer : List Env} {s : Shared} {H : Hp} {E : XK} {wd : WD}
    (hr : Rm 1 (CxD P w K mg base N__law_height "_law_height" (defScope s__law_height) f cdv A outer s H E).A) (tk : TkD (CxD P w K mg base N__law_height "_law_height" (defScope s__law_height) f cdv A outer s H E) wd) (hp : PassesOwn (model P w) (CxD P w K mg base N__law_height "_law_height" (defScope s__law_height) f cdv A outer s H E).A (CxD P w K mg base N__law_height "_law_height" (defScope s__law_height) f cdv A outer s H E).env (CxD P w K mg base N__law_height "_law_height" (defScope s__law_height) f cdv A outer s H E).xe) : PSsD (CxD P w K mg base N__law_height "_law_height" (defScope s__law_height) f cdv A outer s H E) wd (defBody s__law_height) (t__law_height a) :=
  have nd : (N__law_height : List Str).Nodup := sc__law_height.nd
  (pssd_cons (psd_set (i := 1) nd (pd_lst (pad_cons (pd_bin od_sub (pd_call C__law_take (hr.mono (by decide)) tk (pad_cons (pdv 0) (pad_cons pd_int pad_nil))) pd_int) (pad_cons (pd_bin od_sub (pd_call C__law_take (hr.mono (by decide)) tk (pad_cons (pdv 0) (pad_cons pd_int pad_nil))) pd_int) (pad_cons pd_int (pad_cons (pd_bin od_sub (pd_call C__law_take (hr.mono (by decide)) tk (pad_cons (pdv 0) (pad_cons (pd_bin od_pow pd_int pd_int) pad_nil))) (pd_bin (od_mul false) pd_int (pd_bin od_pow pd_int pd_int))) pad_nil))))))
 (pssd_one (psd_ret (pd_ix ixd (pdv 1) (pd_call C__law_take (hr.mono (by decide)) tk (pad_cons (pdv 0) (pad_cons pd_int pad_nil)))))))
theorem fz__law_height {P : Program} {w : World} {K : PySem.W.Frag} {mg : Str → Option Value} {base : Heap} {a : Ad} (fx : Fx K mg a) (C__law_take : CalF P w K mg base 1 "_law_take" [] (sp__law_take a)) {dvs : List V} {kws : List (Str × V)} {f : Addr} {fd : FuncData}
    (F : FunD K "_law_height" "_law_height" (defArgs s__law_height) (defBody s__law_height) (defScope s__law_height) dvs kws f fd) : FnZ P w K mg base 2 f fd P__law_height (sp__law_height a) :=
  fnz_of F sc__law_height (len__law_height a) (fun cdv A outer s H E wd hr tk hp => dv__law_height fx C__law_take hr tk hp) (vc__law_height a)
theorem sc__law_high : FnScope N__law_high P__law_high (defScope s__law_high) := ⟨rfl, rfl, rfl, by decide +kernel, rfl, by decide +kernel, by decide +kernel⟩
theorem dv__law_high {P : Program} {w : World} {K : PySem.W.Frag} {mg : Str → Option Value} {base : Heap} {a : Ad} (fx : Fx K mg a) (C__law_height : CalF P w K mg base 2 "_law_height" [] (sp__law_height a)) {f : Addr} {cdv : Value} {A : Around} {outer : List Env} {s : Shared} {H : Hp} {E : XK} {wd : WD}
    (hr : Rm 2 (CxD P w K mg base N__law_high "_law_high" (defScope s__law_high) f cdv A outer s H E).A) (tk : TkD (CxD P w K mg base N__law_high "_law_high" (defScope s__law_high) f cdv A outer s H E) wd) (hp : PassesOwn (model P w) (CxD P w K mg base N__law_high "_law_high" (defScope s__law_high) f cdv A outer s H E).A (CxD P w K mg base N__law_high "_law_high" (defScope s__law_high) f cdv A outer s H E).env (CxD P w K mg base N__law_high "_law_high" (defScope s__law_high) f cdv A outer s H E).xe) : PSsD (CxD P w K mg base N__law_high "_law_high" (defScope s__law_high) f cdv A outer s H E) wd (defBody s__law_high) (t__law_high a) :=
  have nd : (N__law_high : List Str).Nodup := sc__law_high.nd
  (pssd_one (psd_ret (pd_bin (od_add false) (pd_lst (pad_cons pd_int pad_nil)) (pd_lc (own := [("_law_climber", 2)]) rfl nd (blkOk_by (by kernel_rfl)) (pid_range1 fx.m_range (pad_cons (pdv 1) pad_nil)) (fun _ _ _ _ _ => (pgd_name (i := 2) nd)) (fun _ _ _ _ _ => ptsd_nil) (fun _ _ _ _ _ => (pd_call C__law_height (hr.mono (by decide)) tk0 (pad_cons (pdv 0) pad_nil)))))))
theorem fz__law_high {P : Program} {w : World} {K : PySem.W.Frag} {mg : Str → Option Value} {base : Heap} {a : Ad} (fx : Fx K mg a) (C__law_height : CalF P w K mg base 2 "_law_height" [] (sp__law_height a)) {dvs : List V} {kws : List (Str × V)} {f : Addr} {fd : FuncData}
    (F : FunD K "_law_high" "_law_high" (defArgs s__law_high) (defBody s__law_high) (defScope s__law_high) dvs kws f fd) : FnZ P w K mg base 3 f fd P__law_high (sp__law_high a) :=
  fnz_of F sc__law_high (len__law_high a) (fun cdv A outer s H E wd hr tk hp => dv__law_high fx C__law_height hr tk hp) (vc__law_high a)
theorem sc__law_letting : FnScope N__law_letting P__law_letting (defScope s__law_letting) := ⟨rfl, rfl, rfl, by decide +kernel, rfl, by decide +kernel, by decide +kernel⟩
theorem dv__law_letting {P : Program} {w : World} {K : PySem.W.Frag} {mg : Str → Option Value} {base : Heap} {a : Ad} (fx : Fx K mg a) (C__law_take : CalF P w K mg base 1 "_law_take" [] (sp__law_take a)) {f : Addr} {cdv : Value} {A : Around} {outer : List Env} {s : Shared} {H : Hp} {E : XK} {wd : WD}
    (hr : Rm 1 (CxD P w K mg base N__law_letting "_law_letting" (defScope s__law_letting) f cdv A outer s H E).A) (tk : TkD (CxD P w K mg base N__law_letting "_law_letting" (defScope s__law_letting) f cdv A outer s H E) wd) (hp : PassesOwn (model P w) (CxD P w K mg base N__law_letting "_law_letting" (defScope s__law_letting) f cdv A outer s H E).A (CxD P w K mg base N__law_letting "_law_letting" (defScope s__law_letting) f cdv A outer s H E).env (CxD P w K mg base N__law_letting "_law_letting" (defScope s__law_letting) f cdv A outer s H E).xe) : PSsD (CxD P w K mg base N__law_letting "_law_letting" (defScope s__law_letting) f cdv A outer s H E) wd (defBody s__law_letting) (t__law_letting a) :=
  have nd : (N__law_letting : List Str).Nodup := sc__law_letting.nd
  (pssd_cons (psd_set (i := 3) nd (pd_bin od_sub (pd_callB cd_len (pad_cons (pdv 1) pad_nil) fx.m_len (hv := boot_len)) pd_int))
 (pssd_cons (psd_set (i := 4) nd (pd_lstM pad_nil))
 (pssd_cons (psd_for hp rfl (pid_range1 fx.m_range (pad_cons (pd_call C__law_take (hr.mono (by decide)) tk (pad_cons (pdv 0) (pad_cons (pd_bin (od_add false) (pdv 2) pd_int) pad_nil))) pad_nil)) (pgd_name (i := 5) nd) (pssd_cons (psd_set (i := 6) nd (pd_call C__law_take (hr.mono (by decide)) tk (pad_cons (pdv 0) (pad_cons (pd_bin (od_add false) (pdv 3) pd_int) pad_nil))))
 (pssd_cons (psd_set (i := 7) nd (pd_bin od_mod (pd_bin (od_add false) (pd_bin (od_add false) (pdv 6) pd_int) (pd_call C__law_take (hr.mono (by decide)) tk (pad_cons (pdv 0) (pad_cons (pdv 3) pad_nil)))) (pd_bin (od_add false) (pdv 3) pd_int)))
 (pssd_cons (psd_set (i := 8) nd (pd_ix ixd (pd_lst (pad_cons pd_int (pad_cons pd_int (pad_cons pd_int (pad_cons pd_int (pad_cons pd_int (pad_cons pd_int (pad_cons (pd_bin od_pow pd_int pd_int) pad_nil)))))))) (pd_call C__law_take (hr.mono (by decide)) tk (pad_cons (pdv 0) (pad_cons pd_int pad_nil)))))
 (pssd_cons (psd_expr (pd_append (pdv 4) (pad_cons (pd_tup (pad_cons (pdv 6) (pad_cons (pdv 7) (pad_cons (pd_bin (od_add false) (pd_bin od_sub (pd_ix ixd (pdv 1) (pdv 6)) (pd_ix ixd (pdv 1) (pdv 7))) (pdv 8)) pad_nil)))) pad_nil)))
 (pssd_one (psd_if (pt_cmpD (od_eq hr) (pd_call C__law_take (hr.mono (by decide)) tk (pad_cons (pdv 0) (pad_cons pd_int pad_nil))) pd_int) (pssd_one (psd_expr (pd_append (pdv 4) (pad_cons (pd_tup (pad_cons (pdv 7) (pad_cons (pdv 6) (pad_cons (pd_bin od_sub (pd_ix ixd (pdv 1) (pdv 7)) (pd_ix ixd (pdv 1) (pdv 6))) pad_nil)))) pad_nil)))) pssd_nil)))))))
 (pssd_one (psd_ret (pdv 4))))))
theorem fz__law_letting {P : Program} {w : World} {K : PySem.W.Frag} {mg : Str → Option Value} {base : Heap} {a : Ad} (fx : Fx K mg a) (C__law_take : CalF P w K mg base 1 "_law_take" [] (sp__law_take a)) {dvs : List V} {kws : List (Str × V)} {f : Addr} {fd : FuncData}
    (F : FunD K "_law_letting" "_law_letting" (defArgs s__law_letting) (defBody s__law_letting) (defScope s__law_letting) dvs kws f fd) : FnZ P w K mg base 2 f fd P__law_letting (sp__law_letting a) :=
  fnz_of F sc__law_letting (len__law_letting a) (fun cdv A outer s H E wd hr tk hp => dv__law_letting fx C__law_take hr tk hp) (vc__law_letting a)
theorem sc__law_order : FnScope N__law_order P__law_order (defScope s__law_order) := ⟨rfl, rfl, rfl, by decide +kernel, rfl, by decide +kernel, by decide +kernel⟩
theorem dv__law_order {P : Program} {w : World} {K : PySem.W.Frag} {mg : Str → Option Value} {base : Heap} {a : Ad} (fx : Fx K mg a) (C__law_take : CalF P w K mg base 1 "_law_take" [] (sp__law_take a)) {f : Addr} {cdv : Value} {A : Around} {outer : List Env} {s : Shared} {H : Hp} {E : XK} {wd : WD}
    (hr : Rm 1 (CxD P w K mg base N__law_order "_law_order" (defScope s__law_order) f cdv A outer s H E).A) (tk : TkD (CxD P w K mg base N__law_order "_law_order" (defScope s__law_order) f cdv A outer s H E) wd) (hp : PassesOwn (model P w) (CxD P w K mg base N__law_order "_law_order" (defScope s__law_order) f cdv A outer s H E).A (CxD P w K mg base N__law_order "_law_order" (defScope s__law_order) f cdv A outer s H E).env (CxD P w K mg base N__law_order "_law_order" (defScope s__law_order) f cdv A outer s H E).xe) : PSsD (CxD P w K mg base N__law_order "_law_order" (defScope s__law_order) f cdv A outer s H E) wd (defBody s__law_order) (t__law_order a) :=
  have nd : (N__law_order : List Str).Nodup := sc__law_order.nd
  (pssd_cons (psd_set (i := 2) nd (pd_lstRg2 (m := true) rfl fx.m_list fx.m_range pd_int (pd_bin (od_add false) (pdv 1) pd_int)))
 (pssd_cons (psd_set (i := 3) nd (pd_lstM pad_nil))
 (pssd_cons (psd_for hp rfl (pid_range1 fx.m_range (pad_cons (pdv 1) pad_nil)) (pgd_name (i := 4) nd) (pssd_one (psd_expr (pd_append (pdv 3) (pad_cons (pd_popAt (pdv 2) (pad_cons (pd_call C__law_take (hr.mono (by decide)) tk (pad_cons (pdv 0) (pad_cons (pd_callB cd_len (pad_cons (pdv 2) pad_nil) fx.m_len (hv := boot_len)) pad_nil))) pad_nil)) pad_nil)))))
 (pssd_one (psd_ret (pd_frz (pdv 3)))))))
theorem fz__law_order {P : Program} {w : World} {K : PySem.W.Frag} {mg : Str → Option Value} {base : Heap} {a : Ad} (fx : Fx K mg a) (C__law_take : CalF P w K mg base 1 "_law_take" [] (sp__law_take a)) {dvs : List V} {kws : List (Str × V)} {f : Addr} {fd : FuncData}
    (F : FunD K "_law_order" "_law_order" (defArgs s__law_order) (defBody s__law_order) (defScope s__law_order) dvs kws f fd) : FnZ P w K mg base 2 f fd P__law_order (sp__law_order a) :=
  fnz_of F sc__law_order (len__law_order a) (fun cdv A outer s H E wd hr tk hp => dv__law_order fx C__law_take hr tk hp) (vc__law_order a)
theorem sc__law_called : FnScope N__law_called P__law_called (defScope s__law_called) := ⟨rfl, rfl, rfl, by decide +kernel, rfl, by decide +kernel, by decide +kernel⟩
theorem dv__law_called {P : Program} {w : World} {K : PySem.W.Frag} {mg : Str → Option Value} {base : Heap} {a : Ad} (fx : Fx K mg a) {f : Addr} {cdv : Value} {A : Around} {outer : List Env} {s : Shared} {H : Hp} {E : XK} {wd : WD}
    (hr : Rm 0 (CxD P w K mg base N__law_called "_law_called" (defScope s__law_called) f cdv A outer s H E).A) (tk : TkD (CxD P w K mg base N__law_called "_law_called" (defScope s__law_called) f cdv A outer s H E) wd) (hp : PassesOwn (model P w) (CxD P w K mg base N__law_called "_law_called" (defScope s__law_called) f cdv A outer s H E).A (CxD P w K mg base N__law_called "_law_called" (defScope s__law_called) f cdv A outer s H E).env (CxD P w K mg base N__law_called "_law_called" (defScope s__law_called) f cdv A outer s H E).xe) : PSsD (CxD P w K mg base N__law_called "_law_called" (defScope s__law_called) f cdv A outer s H E) wd (defBody s__law_called) (t__law_called a) :=
  have nd : (N__law_called : List Str).Nodup := sc__law_called.nd
  (pssd_cons (psd_set (i := 2) nd (pd_bin (od_mul true) (pd_lst (pad_cons pd_int pad_nil)) (pd_callB cd_len (pad_cons (pdv 0) pad_nil) fx.m_len (hv := boot_len))))
 (pssd_cons (psd_for hp rfl (pid_enum fx.m_enumerate (pad_cons (pdv 1) pad_nil)) (pgd_seq rfl (pgsd_cons (pgd_name (i := 3) nd) (pgsd_cons (pgd_name (i := 4) nd) pgsd_nil))) (pssd_one (psd_asgS sd_list (pd_ix ixd (pdv 0) (pdv 3)) (pdv 2) (pd_bin od_sub (pdv 4) pd_int))))
 (pssd_one (psd_ret (pd_frz (pdv 2))))))
theorem fz__law_called {P : Program} {w : World} {K : PySem.W.Frag} {mg : Str → Option Value} {base : Heap} {a : Ad} (fx : Fx K mg a) {dvs : List V} {kws : List (Str × V)} {f : Addr} {fd : FuncData}
    (F : FunD K "_law_called" "_law_called" (defArgs s__law_called) (defBody s__law_called) (defScope s__law_called) dvs kws f fd) : FnZ P w K mg base 1 f fd P__law_called (sp__law_called a) :=
  fnz_of F sc__law_called (len__law_called a) (fun cdv A outer s H E wd hr tk hp => dv__law_called fx  hr tk hp) (vc__law_called a)
theorem sc__law_kind : FnScope N__law_kind P__law_kind (defScope s__law_kind) := ⟨rfl, rfl, rfl, by decide +kernel, rfl, by decide +kernel, by decide +kernel⟩
theorem dv__law_kind {P : Program} {w : World} {K : PySem.W.Frag} {mg : Str → Option Value} {base : Heap} {a : Ad} (fx : Fx K mg a) {f : Addr} {cdv : Value} {A : Around} {outer : List Env} {s : Shared} {H : Hp} {E : XK} {wd : WD} {c : D} {act : ActD}
    (hr : Rm 0 (CxD P w K mg base N__law_kind "_law_kind" (defScope s__law_kind) f cdv A outer s H E).A) (tk : TkD (CxD P w K mg base N__law_kind "_law_kind" (defScope s__law_kind) f cdv A outer s H E) wd) (hp : PassesOwn (model P w) (CxD P w K mg base N__law_kind "_law_kind" (defScope s__law_kind) f cdv A outer s H E).A (CxD P w K mg base N__law_kind "_law_kind" (defScope s__law_kind) f cdv A outer s H E).env (CxD P w K mg base N__law_kind "_law_kind" (defScope s__law_kind) f cdv A outer s H E).xe) (hact : ∀ (wd : WD) (pn : List (Addr × Obj)) (xe : Value → Shared → Prop) (p1 p2 : Pos), TkD ((CxD P w K mg base N__law_kind "_law_kind" (defScope s__law_kind) f cdv A outer s H E).tr pn xe) wd → PD ((CxD P w K mg base N__law_kind "_law_kind" (defScope s__law_kind) f cdv A outer s H E).tr pn xe) wd (.Call (.Name "_law_door" p1) [] [] p2) (dAct 0 c act)) : PSsD (CxD P w K mg base N__law_kind "_law_kind" (defScope s__law_kind) f cdv A outer s H E) wd (defBody s__law_kind) (t__law_kind a c act) :=
  have nd : (N__law_kind : List Str).Nodup := sc__law_kind.nd
  (pssd_cons (psd_set (i := 1) nd pd_non)
 (pssd_cons (psd_try_many rfl rfl nd tk (fun wd pn xe tk hp => (pssd_one (psd_expr (hact _ _ _ _ _ tk)))) (.consA (i := 2) ⟨rfl, by decide, .inl fx.g_NoOrder⟩ fx.xm__law_kind_0 rfl rfl (fun xa oe C d pn wd xx hz hf su => (pssd_one (psd_set (i := 1) nd (pd_lst (pad_cons pd_str (pad_cons (pd_callB (cd_reprU (hr.u.mark _)) (pad_cons (pd_exw (i := 2) hz hf su) pad_nil) fx.m_repr (hv := boot_repr)) pad_nil)))))) (.consA (i := 2) ⟨rfl, by decide, .inl fx.g_NoHeights⟩ fx.xm__law_kind_1 rfl rfl (fun xa oe C d pn wd xx hz hf su => (pssd_one (psd_set (i := 1) nd (pd_lst (pad_cons pd_str (pad_cons (pd_callB (cd_reprU (hr.u.mark _)) (pad_cons (pd_exw (i := 2) hz hf su) pad_nil) fx.m_repr (hv := boot_repr)) pad_nil)))))) .nil)))
 (pssd_one (psd_ret (pdv 1)))))
theorem cl__law_kind {P : Program} {w : World} {K : PySem.W.Frag} {mg : Str → Option Value} {base : Heap} {a : Ad} (fx : Fx K mg a) {f : Addr} {fd : FuncData} (F : FunD K "_law_kind" "_law_kind" (defArgs s__law_kind) (defBody s__law_kind) (defScope s__law_kind) [] [] f fd) (hm : mg "_law_kind" = some (.ref f)) (hb : L2.Binds K fd ["_law_door"] []) : CalL P w K mg base 0 "_law_kind" (sp__law_kind a) :=
  ⟨⟨"_law_door", f, fd, _, _, _, N__law_kind, t__law_kind a, hm, F, sc__law_kind, rfl, .inl rfl, by decide, by decide, hb, len__law_kind a, fun cdv A outer s H E wd c act hr tk hp hact => dv__law_kind fx  hr tk hp hact, vc__law_kind a⟩⟩
theorem sc__law_refused : FnScope N__law_refused P__law_refused (defScope s__law_refused) := ⟨rfl, rfl, rfl, by decide +kernel, rfl, by decide +kernel, by decide +kernel⟩
theorem dv__law_refused {P : Program} {w : World} {K : PySem.W.Frag} {mg : Str → Option Value} {base : Heap} {a : Ad} (fx : Fx K mg a) (C__law_take : CalF P w K mg base 1 "_law_take" [] (sp__law_take a)) (D__law_kind : CalL P w K mg base 0 "_law_kind" (sp__law_kind a)) (F_Rig_called : CalM P w K mg base 7 a.Rig "called" [] (sp_Rig_called a)) (F_Rig_measured : CalM P w K mg base 7 a.Rig "measured" [] (sp_Rig_measured a)) {f : Addr} {cdv : Value} {A : Around} {outer : List Env} {s : Shared} {H : Hp} {E : XK} {wd : WD} {tc : Addr} (TB : LamX.TabB base mg tc (a.tb "_law_refused"))
    (hr : Rm 9 (CxD P w K mg base N__law_refused "_law_refused" (defScope s__law_refused) f (.ref tc) A outer s H E).A) (tk : TkD (CxD P w K mg base N__law_refused "_law_refused" (defScope s__law_refused) f (.ref tc) A outer s H E) wd) (hp : PassesOwn (model P w) (CxD P w K mg base N__law_refused "_law_refused" (defScope s__law_refused) f (.ref tc) A outer s H E).A (CxD P w K mg base N__law_refused "_law_refused" (defScope s__law_refused) f (.ref tc) A outer s H E).env (CxD P w K mg base N__law_refused "_law_refused" (defScope s__law_refused) f (.ref tc) A outer s H E).xe) : PSsD (CxD P w K mg base N__law_refused "_law_refused" (defScope s__law_refused) f (.ref tc) A outer s H E) wd (defBody s__law_refused) (t__law_refused a) :=
  have nd : (N__law_refused : List Str).Nodup := sc__law_refused.nd
  (pssd_cons (psd_set (i := 3) nd (pd_lstRg2 (m := false) rfl fx.m_list fx.m_range pd_int (pd_bin (od_add false) (pdv 2) pd_int)))
 (pssd_cons (psd_set (i := 4) nd (pd_call C__law_take (hr.mono (by decide)) tk (pad_cons (pdv 0) (pad_cons (pdv 2) pad_nil))))
 (pssd_cons (psd_set (i := 5) nd (pd_lst (pad_cons pd_non (pad_cons pd_int (pad_cons pd_dic0 (pad_cons (pd_callTy cd_tup (pad_cons (pdv 3) pad_nil) fx.m_tuple (hv := boot_tuple)) (pad_cons (pd_sl false (pdv 3) pod_none (pod_some (pd_neg pd_int))) (pad_cons (pd_bin (od_add false) (pdv 3) (pd_lst (pad_cons pd_int pad_nil))) (pad_cons (pd_bin (od_add false) (pd_bin (od_add false) (pd_sl false (pdv 3) pod_none (pod_some (pdv 4))) (pd_lst (pad_cons pd_int pad_nil))) (pd_sl false (pdv 3) (pod_some (pd_bin (od_add false) (pdv 4) pd_int)) pod_none)) (pad_cons (pd_bin (od_mul false) (pd_lst (pad_cons pd_non pad_nil)) (pdv 2)) pad_nil))))))))))
 (pssd_cons (psd_for hp rfl (pid_seq (pd_bin (od_add false) (pdv 5) (pd_lst (pad_cons (pd_bin (od_add false) (pd_lst (pad_cons pd_bl pad_nil)) (pd_sl false (pdv 3) (pod_some pd_int) pod_none)) (pad_cons (pd_bin (od_add false) (pd_lst (pad_cons (pd_lst (pad_cons pd_int pad_nil)) pad_nil)) (pd_sl false (pdv 3) (pod_some pd_int) pod_none)) (pad_cons (pd_bin (od_add false) (pd_lst (pad_cons pd_str pad_nil)) (pd_sl false (pdv 3) (pod_some pd_int) pod_none)) pad_nil)))))) (pgd_name (i := 6) nd) (pssd_one (psd_if (pt_cmpD (od_ne hr) (pd_lam (k := 7) (P := a.tb "_law_refused") (CalL.mono D__law_kind (by decide)) TB rfl (hr.mono (by decide)) tk (LamX.lamS_by (by kernel_rfl)) rfl (fun _ _ _ _ _ => rfl) (fun A outer s H E f c' wl hr tk => (pd_meth (ns := ns_Rig) F_Rig_called (hr.mono (by decide)) tk (pdv 1) (pad_cons (pdv 6) pad_nil)))) (pd_lst (pad_cons pd_str (pad_cons (pd_callB (cd_repr hr) (pad_cons (pdv 6) pad_nil) fx.m_repr (hv := boot_repr)) pad_nil)))) (pssd_one (psd_ret pd_bl)) pssd_nil)))
 (pssd_cons (psd_for hp rfl (pid_seq (pd_lst (pad_cons pd_non (pad_cons pd_int (pad_cons pd_dic0 (pad_cons (pd_callTy cd_tup (pad_cons (pdv 3) pad_nil) fx.m_tuple (hv := boot_tuple)) (pad_cons (pd_sl false (pdv 3) pod_none (pod_some (pd_neg pd_int))) (pad_cons (pd_bin (od_add false) (pdv 3) (pd_lst (pad_cons pd_int pad_nil))) (pad_cons (pd_bin (od_add false) (pd_bin (od_add false) (pd_sl false (pdv 3) pod_none (pod_some (pdv 4))) (pd_lst (pad_cons pd_bl pad_nil))) (pd_sl false (pdv 3) (pod_some (pd_bin (od_add false) (pdv 4) pd_int)) pod_none)) (pad_cons (pd_bin (od_mul false) (pd_lst (pad_cons pd_non pad_nil)) (pdv 2)) pad_nil)))))))))) (pgd_name (i := 6) nd) (pssd_one (psd_if (pt_cmpD (od_ne hr) (pd_lam (k := 7) (P := a.tb "_law_refused") (CalL.mono D__law_kind (by decide)) TB rfl (hr.mono (by decide)) tk (LamX.lamS_by (by kernel_rfl)) rfl (fun _ _ _ _ _ => rfl) (fun A outer s H E f c' wl hr tk => (pd_meth (ns := ns_Rig) F_Rig_measured (hr.mono (by decide)) tk (pdv 1) (pad_cons (pdv 6) pad_nil)))) (pd_lst (pad_cons pd_str (pad_cons (pd_callB (cd_repr hr) (pad_cons (pdv 6) pad_nil) fx.m_repr (hv := boot_repr)) pad_nil)))) (pssd_one (psd_ret pd_bl)) pssd_nil)))
 (pssd_one (psd_ret pd_bl)))))))
theorem fz__law_refused {P : Program} {w : World} {K : PySem.W.Frag} {mg : Str → Option Value} {base : Heap} {a : Ad} (fx : Fx K mg a) (C__law_take : CalF P w K mg base 1 "_law_take" [] (sp__law_take a)) (D__law_kind : CalL P w K mg base 0 "_law_kind" (sp__law_kind a)) (F_Rig_called : CalM P w K mg base 7 a.Rig "called" [] (sp_Rig_called a)) (F_Rig_measured : CalM P w K mg base 7 a.Rig "measured" [] (sp_Rig_measured a)) {tc : Addr} (TB : LamX.TabB base mg tc (a.tb "_law_refused")) {dvs : List V} {kws : List (Str × V)} {f : Addr} {fd : FuncData} (hcv : fd.code = .ref tc)
    (F : FunD K "_law_refused" "_law_refused" (defArgs s__law_refused) (defBody s__law_refused) (defScope s__law_refused) dvs kws f fd) : FnZ P w K mg base 10 f fd P__law_refused (sp__law_refused a) :=
  fnz_ofT F hcv sc__law_refused (len__law_refused a) (fun A outer s H E wd hr tk hp => dv__law_refused (cdv := .none) fx C__law_take D__law_kind F_Rig_called F_Rig_measured TB hr tk hp) (vc__law_refused a)
theorem sc__law_right : FnScope N__law_right P__law_right (defScope s__law_right) := ⟨rfl, rfl, rfl, by decide +kernel, rfl, by decide +kernel, by decide +kernel⟩
theorem dv__law_right {P : Program} {w : World} {K : PySem.W.Frag} {mg : Str → Option Value} {base : Heap} {a : Ad} (fx : Fx K mg a) (C__law_called : CalF P w K mg base 1 "_law_called" [] (sp__law_called a)) (C_broken : CalF P w K mg base 5 "broken" [] (sp_broken a)) (F_Rig_called : CalM P w K mg base 7 a.Rig "called" [] (sp_Rig_called a)) (F_Rig_measured : CalM P w K mg base 7 a.Rig "measured" [] (sp_Rig_measured a)) (F_Rig_turned : CalM P w K mg base 7 a.Rig "turned" [] (sp_Rig_turned a)) {f : Addr} {cdv : Value} {A : Around} {outer : List Env} {s : Shared} {H : Hp} {E : XK} {wd : WD}
    (hr : Rm 7 (CxD P w K mg base N__law_right "_law_right" (defScope s__law_right) f cdv A outer s H E).A) (tk : TkD (CxD P w K mg base N__law_right "_law_right" (defScope s__law_right) f cdv A outer s H E) wd) (hp : PassesOwn (model P w) (CxD P w K mg base N__law_right "_law_right" (defScope s__law_right) f cdv A outer s H E).A (CxD P w K mg base N__law_right "_law_right" (defScope s__law_right) f cdv A outer s H E).env (CxD P w K mg base N__law_right "_law_right" (defScope s__law_right) f cdv A outer s H E).xe) : PSsD (CxD P w K mg base N__law_right "_law_right" (defScope s__law_right) f cdv A outer s H E) wd (defBody s__law_right) (t__law_right a) :=
  have nd : (N__law_right : List Str).Nodup := sc__law_right.nd
  (pssd_cons (psd_set (i := 4) nd (pd_call C_broken (hr.mono (by decide)) tk (pad_cons (pdv 0) (pad_cons (pdv 1) pad_nil))))
 (pssd_cons (psd_setLc (i := 5) (own := [("_law_height_here", 6)]) rfl nd (blkOk_by (by kernel_rfl)) (pid_seq (pdv 1)) (fun _ _ _ _ _ => (pgd_name (i := 6) nd)) (fun _ _ _ _ _ => ptsd_nil) (fun _ _ _ _ _ => (pd_bin od_sub pd_int (pdv 6))))
 (pssd_cons (psd_if (PWD.pt (pwd_or (pt_cmpD (od_ne hr) (pd_call C_broken (hr.mono (by decide)) tk (pad_cons (pd_meth0 (ns := ns_Rig) F_Rig_turned (hr.mono (by decide)) tk (pdv 0)) (pad_cons (pdv 5) pad_nil))) (pdv 4)) (pwd_or1 (pt_cmpD (od_ne hr) (pd_call C_broken (hr.mono (by decide)) tk (pad_cons (pd_meth (ns := ns_Rig) F_Rig_called (hr.mono (by decide)) tk (pdv 0) (pad_cons (pdv 2) pad_nil)) (pad_cons (pd_call C__law_called (hr.mono (by decide)) tk (pad_cons (pdv 1) (pad_cons (pdv 2) pad_nil))) pad_nil))) (pdv 4))))) (pssd_one (psd_ret pd_bl)) pssd_nil)
 (pssd_one (psd_ret (pd_cmp (od_eq hr) (pd_call C_broken (hr.mono (by decide)) tk (pad_cons (pd_meth (ns := ns_Rig) F_Rig_measured (hr.mono (by decide)) tk (pdv 0) (pad_cons (pdv 3) pad_nil)) (pad_cons (pd_lc (own := [("_law_height_here", 6), ("_law_mark", 7)]) rfl nd (blkOk_by (by kernel_rfl)) (pid_zip fx.m_zip (pad_cons (pdv 1) (pad_cons (pdv 3) pad_nil))) (fun _ _ _ _ _ => (pgd_seq rfl (pgsd_cons (pgd_name (i := 6) nd) (pgsd_cons (pgd_name (i := 7) nd) pgsd_nil)))) (fun _ _ _ _ _ => ptsd_nil) (fun _ _ _ _ _ => (pd_bin (od_add false) (pdv 6) (pdv 7)))) pad_nil))) (pdv 4)))))))
theorem fz__law_right {P : Program} {w : World} {K : PySem.W.Frag} {mg : Str → Option Value} {base : Heap} {a : Ad} (fx : Fx K mg a) (C__law_called : CalF P w K mg base 1 "_law_called" [] (sp__law_called a)) (C_broken : CalF P w K mg base 5 "broken" [] (sp_broken a)) (F_Rig_called : CalM P w K mg base 7 a.Rig "called" [] (sp_Rig_called a)) (F_Rig_measured : CalM P w K mg base 7 a.Rig "measured" [] (sp_Rig_measured a)) (F_Rig_turned : CalM P w K mg base 7 a.Rig "turned" [] (sp_Rig_turned a)) {dvs : List V} {kws : List (Str × V)} {f : Addr} {fd : FuncData}
    (F : FunD K "_law_right" "_law_right" (defArgs s__law_right) (defBody s__law_right) (defScope s__law_right) dvs kws f fd) : FnZ P w K mg base 8 f fd P__law_right (sp__law_right a) :=
  fnz_of F sc__law_right (len__law_right a) (fun cdv A outer s H E wd hr tk hp => dv__law_right fx C__law_called C_broken F_Rig_called F_Rig_measured F_Rig_turned hr tk hp) (vc__law_right a)
theorem sc_law : FnScope N_law P_law (defScope s_law) := ⟨rfl, rfl, rfl, by decide +kernel, rfl, by decide +kernel, by decide +kernel⟩
theorem dv_law {P : Program} {w : World} {K : PySem.W.Frag} {mg : Str → Option Value} {base : Heap} {a : Ad} (fx : Fx K mg a) (C__law_called : CalF P w K mg base 1 "_law_called" [] (sp__law_called a)) (C__law_height : CalF P w K mg base 2 "_law_height" [] (sp__law_height a)) (C__law_high : CalF P w K mg base 3 "_law_high" [] (sp__law_high a)) (C__law_letting : CalF P w K mg base 2 "_law_letting" [] (sp__law_letting a)) (C__law_order : CalF P w K mg base 2 "_law_order" [] (sp__law_order a)) (C__law_pool : CalF P w K mg base 1 "_law_pool" [] (sp__law_pool a)) (C__law_refused : CalF P w K mg base 10 "_law_refused" [] (sp__law_refused a)) (C__law_right : CalF P w K mg base 8 "_law_right" [] (sp__law_right a)) (C__law_take : CalF P w K mg base 1 "_law_take" [] (sp__law_take a)) (F_Rig_called : CalM P w K mg base 7 a.Rig "called" [] (sp_Rig_called a)) (F_Rig_measured : CalM P w K mg base 7 a.Rig "measured" [] (sp_Rig_measured a)) (F_Rig_ropes : CalM P w K mg base 1 a.Rig "ropes" [] (sp_Rig_ropes a)) (F_Rig_turned : CalM P w K mg base 7 a.Rig "turned" [] (sp_Rig_turned a)) (M_Rig : CalC P w K mg base 5 "Rig" a.Rig [] (sp_Rig___init__ a)) (Q_Rig : EqO P w K mg base 1 a.Rig (sp_Rig___eq__ a)) {f : Addr} {cdv : Value} {A : Around} {outer : List Env} {s : Shared} {H : Hp} {E : XK} {wd : WD}
    (hr : Rm 10 (CxD P w K mg base N_law "law" (defScope s_law) f cdv A outer s H E).A) (tk : TkD (CxD P w K mg base N_law "law" (defScope s_law) f cdv A outer s H E) wd) (hp : PassesOwn (model P w) (CxD P w K mg base N_law "law" (defScope s_law) f cdv A outer s H E).A (CxD P w K mg base N_law "law" (defScope s_law) f cdv A outer s H E).env (CxD P w K mg base N_law "law" (defScope s_law) f cdv A outer s H E).xe) : PSsD (CxD P w K mg base N_law "law" (defScope s_law) f cdv A outer s H E) wd (defBody s_law) (t_law a) :=
  have nd : (N_law : List Str).Nodup := sc_law.nd
  (pssd_cons (psd_for hp rfl (pid_range1 fx.m_range (pad_cons (pd_callB (cd_max2 rfl) (pad_cons pd_int (pad_cons (pd_callB (cd_min2 rfl) (pad_cons (pd_callB cd_len (pad_cons (pdv 0) pad_nil) fx.m_len (hv := boot_len)) (pad_cons pd_int pad_nil)) fx.m_min (hv := boot_min)) pad_nil)) fx.m_max (hv := boot_max)) pad_nil)) (pgd_name (i := 1) nd) (pssd_cons (psd_set (i := 2) nd (pd_call C__law_pool (hr.mono (by decide)) tk (pad_cons (pdv 0) (pad_cons (pdv 1) pad_nil))))
 (pssd_cons (psd_set (i := 3) nd (pd_call C__law_high (hr.mono (by decide)) tk (pad_cons (pdv 2) (pad_cons (pd_bin (od_add false) pd_int (pd_call C__law_take (hr.mono (by decide)) tk (pad_cons (pdv 2) (pad_cons pd_int pad_nil)))) pad_nil))))
 (pssd_cons (psd_set (i := 4) nd (pd_bin od_sub (pd_callB cd_len (pad_cons (pdv 3) pad_nil) fx.m_len (hv := boot_len)) pd_int))
 (pssd_cons (psd_set (i := 5) nd (pd_frz (pd_call C__law_letting (hr.mono (by decide)) tk (pad_cons (pdv 2) (pad_cons (pdv 3) (pad_cons pd_int pad_nil))))))
 (pssd_cons (psd_set (i := 6) nd (pd_frz (pd_make M_Rig (hr.mono (by decide)) tk (pad_cons (pdv 4) (pad_cons (pdv 5) pad_nil)))))
 (pssd_cons (psd_par (i := 10) (j := 11) rfl nd (pad_cons (pd_call C__law_order (hr.mono (by decide)) tk (pad_cons (pdv 2) (pad_cons (pdv 4) pad_nil))) (pad_cons (pd_lc (own := [("_law_climber", 14)]) rfl nd (blkOk_by (by kernel_rfl)) (pid_range1 fx.m_range (pad_cons (pdv 4) pad_nil)) (fun _ _ _ _ _ => (pgd_name (i := 14) nd)) (fun _ _ _ _ _ => ptsd_nil) (fun _ _ _ _ _ => (pd_call C__law_height (hr.mono (by decide)) tk0 (pad_cons (pdv 2) pad_nil)))) pad_nil)))
 (pssd_cons (psd_for hp rfl (pid_range1 fx.m_range (pad_cons pd_int pad_nil)) (pgd_name (i := 7) nd) (pssd_cons (psd_setLc (i := 12) (own := [("_law_height_here", 15)]) rfl nd (blkOk_by (by kernel_rfl)) (pid_seq (pd_sl false (pdv 3) (pod_some pd_int) pod_none)) (fun _ _ _ _ _ => (pgd_name (i := 15) nd)) (fun _ _ _ _ _ => ptsd_nil) (fun _ _ _ _ _ => (pd_bin (od_add false) (pdv 15) (pd_bin (od_mul false) (pd_bin od_sub (pd_call C__law_take (hr.mono (by decide)) tk0 (pad_cons (pdv 2) (pad_cons pd_int pad_nil))) pd_int) (pd_callTy cd_int (pad_cons (pd_cmp od_gt (pdv 7) pd_int) pad_nil) fx.m_int (hv := boot_int))))))
 (pssd_one (psd_if (ptd_not (pt_val (pd_call C__law_right (hr.mono (by decide)) tk (pad_cons (pdv 6) (pad_cons (pdv 12) (pad_cons (pdv 10) (pad_cons (pdv 11) pad_nil))))))) (pssd_one (psd_ret pd_bl)) pssd_nil))))
 (pssd_cons (psd_set (i := 8) nd (pd_call C__law_called (hr.mono (by decide)) tk (pad_cons (pd_lstRg2 (m := false) rfl fx.m_list fx.m_range pd_int (pd_bin (od_add false) (pdv 4) pd_int)) (pad_cons (pdv 10) pad_nil))))
 (pssd_cons (psd_setLc (i := 9) (own := [("_law_mark", 13)]) rfl nd (blkOk_by (by kernel_rfl)) (pid_seq (pdv 11)) (fun _ _ _ _ _ => (pgd_name (i := 13) nd)) (fun _ _ _ _ _ => ptsd_nil) (fun _ _ _ _ _ => (pd_bin od_sub pd_int (pdv 13))))
 (pssd_cons (psd_if (PWD.pt (pwd_or (pt_cmpD (od_neO Q_Rig fx.ne_Rig (hr.mono (by decide))) (pd_meth0 (ns := ns_Rig) F_Rig_turned (hr.mono (by decide)) tk (pd_meth0 (ns := ns_Rig) F_Rig_turned (hr.mono (by decide)) tk (pdv 6))) (pdv 6)) (pwd_or (pt_cmpD (od_neO Q_Rig fx.ne_Rig (hr.mono (by decide))) (pd_meth (ns := ns_Rig) F_Rig_measured (hr.mono (by decide)) tk (pd_meth (ns := ns_Rig) F_Rig_measured (hr.mono (by decide)) tk (pdv 6) (pad_cons (pdv 11) pad_nil)) (pad_cons (pdv 9) pad_nil)) (pdv 6)) (pwd_or1 (pt_cmpD (od_ne hr) (pd_meth0 (ns := ns_Rig) F_Rig_ropes (hr.mono (by decide)) tk (pdv 6)) (pdv 5)))))) (pssd_one (psd_ret pd_bl)) pssd_nil)
 (pssd_cons (psd_if (PWD.pt (pwd_or (pt_cmpD (od_neO Q_Rig fx.ne_Rig (hr.mono (by decide))) (pd_meth (ns := ns_Rig) F_Rig_called (hr.mono (by decide)) tk (pd_meth (ns := ns_Rig) F_Rig_called (hr.mono (by decide)) tk (pdv 6) (pad_cons (pdv 10) pad_nil)) (pad_cons (pdv 8) pad_nil)) (pdv 6)) (pwd_or1 (pt_cmpD (od_neO Q_Rig fx.ne_Rig (hr.mono (by decide))) (pd_meth (ns := ns_Rig) F_Rig_called (hr.mono (by decide)) tk (pdv 6) (pad_cons (pd_lstRg2 (m := false) rfl fx.m_list fx.m_range pd_int (pd_bin (od_add false) (pdv 4) pd_int)) pad_nil)) (pdv 6))))) (pssd_one (psd_ret pd_bl)) pssd_nil)
 (pssd_one (psd_if (ptd_not (pt_val (pd_call C__law_refused (hr.mono (by decide)) tk (pad_cons (pdv 2) (pad_cons (pdv 6) (pad_cons (pdv 4) pad_nil)))))) (pssd_one (psd_ret pd_bl)) pssd_nil))))))))))))))
 (pssd_one (psd_ret pd_bl)))
theorem fz_law {P : Program} {w : World} {K : PySem.W.Frag} {mg : Str → Option Value} {base : Heap} {a : Ad} (fx : Fx K mg a) (C__law_called : CalF P w K mg base 1 "_law_called" [] (sp__law_called a)) (C__law_height : CalF P w K mg base 2 "_law_height" [] (sp__law_height a)) (C__law_high : CalF P w K mg base 3 "_law_high" [] (sp__law_high a)) (C__law_letting : CalF P w K mg base 2 "_law_letting" [] (sp__law_letting a)) (C__law_order : CalF P w K mg base 2 "_law_order" [] (sp__law_order a)) (C__law_pool : CalF P w K mg base 1 "_law_pool" [] (sp__law_pool a)) (C__law_refused : CalF P w K mg base 10 "_law_refused" [] (sp__law_refused a)) (C__law_right : CalF P w K mg base 8 "_law_right" [] (sp__law_right a)) (C__law_take : CalF P w K mg base 1 "_law_take" [] (sp__law_take a)) (F_Rig_called : CalM P w K mg base 7 a.Rig "called" [] (sp_Rig_called a)) (F_Rig_measured : CalM P w K mg base 7 a.Rig "measured" [] (sp_Rig_measured a)) (F_Rig_ropes : CalM P w K mg base 1 a.Rig "ropes" [] (sp_Rig_ropes a)) (F_Rig_turned : CalM P w K mg base 7 a.Rig "turned" [] (sp_Rig_turned a)) (M_Rig : CalC P w K mg base 5 "Rig" a.Rig [] (sp_Rig___init__ a)) (Q_Rig : EqO P w K mg base 1 a.Rig (sp_Rig___eq__ a)) {dvs : List V} {kws : List (Str × V)} {f : Addr} {fd : FuncData}
    (F : FunD K "law" "law" (defArgs s_law) (defBody s_law) (defScope s_law) dvs kws f fd) : FnZ P w K mg base 11 f fd P_law (sp_law a) :=
  fnz_of F sc_law (len_law a) (fun cdv A outer s H E wd hr tk hp => dv_law fx C__law_called C__law_height C__law_high C__law_letting C__law_order C__law_pool C__law_refused C__law_right C__law_take F_Rig_called F_Rig_measured F_Rig_ropes F_Rig_turned M_Rig Q_Rig hr tk hp) (vc_law a)
theorem sc_NoHeights___init__ : FnScope ["self", "what"] ["self", "what"] (defScope s_NoHeights___init__) := ⟨rfl, rfl, rfl, by decide +kernel, rfl, by decide +kernel, by decide +kernel⟩
theorem oe_NoHeights {P : Program} {w : World} {K : PySem.W.Frag} {mg : Str → Option Value} {base : Heap} (hi : InitBy K mg "RopeError" "ValueError.__init__") {f : Addr} {fd : FuncData} (F : FunD K "__init__" "NoHeights.__init__" (defArgs s_NoHeights___init__) (defBody s_NoHeights___init__) (defScope s_NoHeights___init__) [] [] f fd) :
    FnOk P w K mg base (L2.CX P w) 1 f fd ["self", "what"] (spOex K "ValueError" "ValueError.__new__" "ValueError.__init__" bmVE) :=
  fn_oex F sc_NoHeights___init__ fun cdv A outer s H E => oe_body (pe_var rfl (.inl rfl)) (pe_var rfl (.inl rfl)) (pe_var rfl (.inl rfl)) (pe_var rfl (.inl rfl)) (pe_binit rfl hi (by decide) (by decide) (by decide) (pa_cons (pe_var rfl (.inl rfl)) (pa_cons (pe_var rfl (.inl rfl)) pa_nil)))
theorem sc_NoOrder___init__ : FnScope ["self", "what"] ["self", "what"] (defScope s_NoOrder___init__) := ⟨rfl, rfl, rfl, by decide +kernel, rfl, by decide +kernel, by decide +kernel⟩
theorem oe_NoOrder {P : Program} {w : World} {K : PySem.W.Frag} {mg : Str → Option Value} {base : Heap} (hi : InitBy K mg "RopeError" "ValueError.__init__") {f : Addr} {fd : FuncData} (F : FunD K "__init__" "NoOrder.__init__" (defArgs s_NoOrder___init__) (defBody s_NoOrder___init__) (defScope s_NoOrder___init__) [] [] f fd) :
    FnOk P w K mg base (L2.CX P w) 1 f fd ["self", "what"] (spOex K "ValueError" "ValueError.__new__" "ValueError.__init__" bmVE) :=
  fn_oex F sc_NoOrder___init__ fun cdv A outer s H E => oe_body (pe_var rfl (.inl rfl)) (pe_var rfl (.inl rfl)) (pe_var rfl (.inl rfl)) (pe_var rfl (.inl rfl)) (pe_binit rfl hi (by decide) (by decide) (by decide) (pa_cons (pe_var rfl (.inl rfl)) (pa_cons (pe_var rfl (.inl rfl)) pa_nil)))

def adr (K : PySem.W.Frag) : Ad := { RopeError := He.ga K "RopeError", NoMany := He.ga K "NoMany", NoRope := He.ga K "NoRope", NoNumber := He.ga K "NoNumber", TooMany := He.ga K "TooMany", Rig := He.ga K "Rig", NoOrder := He.ga K "NoOrder", NoHeights := He.ga K "NoHeights", NoKnot := He.ga K "NoKnot", NoClimber := He.ga K "NoClimber", NoChain := He.ga K "NoChain", NoSlips := He.ga K "NoSlips", NoLeads := He.ga K "NoLeads", NoDeeds := He.ga K "NoDeeds", NoMost := He.ga K "NoMost", NoHow := He.ga K "NoHow", Unlike := He.ga K "Unlike", NoText := He.ga K "NoText", NoRow := He.ga K "NoRow", NoName := He.ga K "NoName", NoDeed := He.ga K "NoDeed", NotLet := He.ga K "NotLet", NoStand := He.ga K "NoStand", Held := He.ga K "Held", Taut := He.ga K "Taut", NoGoing := He.ga K "NoGoing", Barred := He.ga K "Barred", Walk := He.ga K "Walk", Table := He.ga K "Table", Climb := He.ga K "Climb", Hands := He.ga K "Hands", Wall := He.ga K "Wall", Desk := He.ga K "Desk", tb := tabA K }
theorem facts {P : Program} {w : World} {K : PySem.W.Frag} {h : Heap} {mg : Str → Option Value} {f : Addr} (X : K.In h) (G : h.Ns mainGlobals mg) (hfa : mg ("law" : Str) = some (.ref f)) (c : He.SaysD fa fn K) (cx : (xs.all fun f => f K) = true) (hms : tabsB (["_law_refused"] : List PySem.Str) K = true) :
    ∃ fd : FuncData, (∀ (s : Shared) (v : Value), BindsTo s fd ⟨[v], []⟩ [("_law_script", v)]) ∧ ∀ base : Heap, K.In base → base.Ns mainGlobals mg → (∀ x ∈ (["_law_refused"] : List PySem.Str), LamX.TabB base mg (tabC K x) (tabA K x)) → FnZ P w K mg base 11 f fd ["_law_script"] (sp_law (adr K)) := by
  have fx : Fx K mg (adr K) := { c_Rig := He.cls_ok (c.fact 0 (f := .cls "Rig") rfl), ci_Rig := clsIs_of (xs_at cx 0 rfl), g_MOST_CLIMBERS := He.int_ok X G (c.fact 1 (f := .int "MOST_CLIMBERS" 8) rfl), g_MOST_ROPES := He.int_ok X G (c.fact 2 (f := .int "MOST_ROPES" 60) rfl), g_NoHeights := He.glo_ok X G (c.fact 3 (f := .glo "NoHeights") rfl), g_NoOrder := He.glo_ok X G (c.fact 4 (f := .glo "NoOrder") rfl), g_Rig := He.glo_ok X G (c.fact 5 (f := .glo "Rig") rfl), m_all := He.free_ok X G (c.fact 6 (f := .free "all") rfl), m_bool := He.free_ok X G (c.fact 7 (f := .free "bool") rfl), m_enumerate := He.free_ok X G (c.fact 8 (f := .free "enumerate") rfl), m_int := He.free_ok X G (c.fact 9 (f := .free "int") rfl), m_isinstance := He.free_ok X G (c.fact 10 (f := .free "isinstance") rfl), m_len := He.free_ok X G (c.fact 11 (f := .free "len") rfl), m_list := He.free_ok X G (c.fact 12 (f := .free "list") rfl), m_max := He.free_ok X G (c.fact 13 (f := .free "max") rfl), m_min := He.free_ok X G (c.fact 14 (f := .free "min") rfl), m_range := He.free_ok X G (c.fact 15 (f := .free "range") rfl), m_repr := He.free_ok X G (c.fact 16 (f := .free "repr") rfl), m_sorted := He.free_ok X G (c.fact 17 (f := .free "sorted") rfl), m_tuple := He.free_ok X G (c.fact 18 (f := .free "tuple") rfl), m_zip := He.free_ok X G (c.fact 19 (f := .free "zip") rfl), na_Rig_own_many := He.noat_ok (c.fact 20 (f := .noat "Rig" "own_many") rfl), na_Rig_own_ropes := He.noat_ok (c.fact 21 (f := .noat "Rig" "own_ropes") rfl), ne_Rig := nex_of (xs_at cx 1 rfl), xm__law_kind_0 := exm_of (xs_at cx 2 rfl), xm__law_kind_1 := exm_of (xs_at cx 3 rfl) }
  obtain ⟨fd0, F0⟩ := c.def_ 0 (d := d_is_whole) rfl
  have F0 : FunD K "is_whole" "is_whole" (defArgs s_is_whole) (defBody s_is_whole) (defScope s_is_whole) [] [] (He.ga K "is_whole") fd0 := F0
  obtain ⟨fd1, F1⟩ := c.def_ 1 (d := d_is_within) rfl
  have F1 : FunD K "is_within" "is_within" (defArgs s_is_within) (defBody s_is_within) (defScope s_is_within) [] [] (He.ga K "is_within") fd1 := F1
  obtain ⟨fd2, F2⟩ := c.def_ 2 (d := d_are_wholes) rfl
  have F2 : FunD K "are_wholes" "are_wholes" (defArgs s_are_wholes) (defBody s_are_wholes) (defScope s_are_wholes) [] [] (He.ga K "are_wholes") fd2 := F2
  obtain ⟨fd3, F3⟩ := c.def_ 3 (d := d_is_rope) rfl
  have F3 : FunD K "is_rope" "is_rope" (defArgs s_is_rope) (defBody s_is_rope) (defScope s_is_rope) [] [] (He.ga K "is_rope") fd3 := F3
  obtain ⟨fd4, F4⟩ := c.def_ 4 (d := d_look_at_ropes) rfl
  have F4 : FunD K "look_at_ropes" "look_at_ropes" (defArgs s_look_at_ropes) (defBody s_look_at_ropes) (defScope s_look_at_ropes) [.int 0] [] (He.ga K "look_at_ropes") fd4 := F4
  obtain ⟨fd5, F5⟩ := c.def_ 5 (d := d_Rig___init__) rfl
  have F5 : FunD K "__init__" "Rig.__init__" (defArgs s_Rig___init__) (defBody s_Rig___init__) (defScope s_Rig___init__) [.ref (He.dflAt ("Rig", some "__init__") 0 K)] [] (He.ma K (He.ga K "Rig") "__init__") fd5 := F5
  obtain ⟨fd6, F6⟩ := c.def_ 6 (d := d_Rig_many) rfl
  have F6 : FunD K "many" "Rig.many" (defArgs s_Rig_many) (defBody s_Rig_many) (defScope s_Rig_many) [] [] (He.ma K (He.ga K "Rig") "many") fd6 := F6
  obtain ⟨fd7, F7⟩ := c.def_ 7 (d := d_Rig_ropes) rfl
  have F7 : FunD K "ropes" "Rig.ropes" (defArgs s_Rig_ropes) (defBody s_Rig_ropes) (defScope s_Rig_ropes) [] [] (He.ma K (He.ga K "Rig") "ropes") fd7 := F7
  obtain ⟨fd8, F8⟩ := c.def_ 8 (d := d_Rig___eq__) rfl
  have F8 : FunD K "__eq__" "Rig.__eq__" (defArgs s_Rig___eq__) (defBody s_Rig___eq__) (defScope s_Rig___eq__) [] [] (He.ma K (He.ga K "Rig") "__eq__") fd8 := F8
  obtain ⟨fd9, F9⟩ := c.def_ 9 (d := d_is_heights) rfl
  have F9 : FunD K "is_heights" "is_heights" (defArgs s_is_heights) (defBody s_is_heights) (defScope s_is_heights) [] [] (He.ga K "is_heights") fd9 := F9
  obtain ⟨fd10, F10⟩ := c.def_ 10 (d := d_look_at_heights) rfl
  have F10 : FunD K "look_at_heights" "look_at_heights" (defArgs s_look_at_heights) (defBody s_look_at_heights) (defScope s_look_at_heights) [] [] (He.ga K "look_at_heights") fd10 := F10
  obtain ⟨fd11, F11⟩ := c.def_ 11 (d := d_room_by) rfl
  have F11 : FunD K "room_by" "room_by" (defArgs s_room_by) (defBody s_room_by) (defScope s_room_by) [] [] (He.ga K "room_by") fd11 := F11
  obtain ⟨fd12, F12⟩ := c.def_ 12 (d := d_broken) rfl
  have F12 : FunD K "broken" "broken" (defArgs s_broken) (defBody s_broken) (defScope s_broken) [] [] (He.ga K "broken") fd12 := F12
  obtain ⟨fd13, F13⟩ := c.def_ 13 (d := d_Rig_turned) rfl
  have F13 : FunD K "turned" "Rig.turned" (defArgs s_Rig_turned) (defBody s_Rig_turned) (defScope s_Rig_turned) [] [] (He.ma K (He.ga K "Rig") "turned") fd13 := F13
  obtain ⟨fd14, F14⟩ := c.def_ 14 (d := d_Rig_called) rfl
  have F14 : FunD K "called" "Rig.called" (defArgs s_Rig_called) (defBody s_Rig_called) (defScope s_Rig_called) [] [] (He.ma K (He.ga K "Rig") "called") fd14 := F14
  obtain ⟨fd15, F15⟩ := c.def_ 15 (d := d_Rig_measured) rfl
  have F15 : FunD K "measured" "Rig.measured" (defArgs s_Rig_measured) (defBody s_Rig_measured) (defScope s_Rig_measured) [] [] (He.ma K (He.ga K "Rig") "measured") fd15 := F15
  obtain ⟨fd16, F16⟩ := c.def_ 16 (d := d__law_pool) rfl
  have F16 : FunD K "_law_pool" "_law_pool" (defArgs s__law_pool) (defBody s__law_pool) (defScope s__law_pool) [] [] (He.ga K "_law_pool") fd16 := F16
  obtain ⟨fd17, F17⟩ := c.def_ 17 (d := d__law_take) rfl
  have F17 : FunD K "_law_take" "_law_take" (defArgs s__law_take) (defBody s__law_take) (defScope s__law_take) [] [] (He.ga K "_law_take") fd17 := F17
  obtain ⟨fd18, F18⟩ := c.def_ 18 (d := d__law_height) rfl
  have F18 : FunD K "_law_height" "_law_height" (defArgs s__law_height) (defBody s__law_height) (defScope s__law_height) [] [] (He.ga K "_law_height") fd18 := F18
  obtain ⟨fd19, F19⟩ := c.def_ 19 (d := d__law_high) rfl
  have F19 : FunD K "_law_high" "_law_high" (defArgs s__law_high) (defBody s__law_high) (defScope s__law_high) [] [] (He.ga K "_law_high") fd19 := F19
  obtain ⟨fd20, F20⟩ := c.def_ 20 (d := d__law_letting) rfl
  have F20 : FunD K "_law_letting" "_law_letting" (defArgs s__law_letting) (defBody s__law_letting) (defScope s__law_letting) [] [] (He.ga K "_law_letting") fd20 := F20
  obtain ⟨fd21, F21⟩ := c.def_ 21 (d := d__law_order) rfl
  have F21 : FunD K "_law_order" "_law_order" (defArgs s__law_order) (defBody s__law_order) (defScope s__law_order) [] [] (He.ga K "_law_order") fd21 := F21
  obtain ⟨fd22, F22⟩ := c.def_ 22 (d := d__law_called) rfl
  have F22 : FunD K "_law_called" "_law_called" (defArgs s__law_called) (defBody s__law_called) (defScope s__law_called) [] [] (He.ga K "_law_called") fd22 := F22
  obtain ⟨fd23, F23⟩ := c.def_ 23 (d := d__law_kind) rfl
  have F23 : FunD K "_law_kind" "_law_kind" (defArgs s__law_kind) (defBody s__law_kind) (defScope s__law_kind) [] [] (He.ga K "_law_kind") fd23 := F23
  obtain ⟨fd24, F24⟩ := c.def_ 24 (d := d__law_refused) rfl
  have F24 : FunD K "_law_refused" "_law_refused" (defArgs s__law_refused) (defBody s__law_refused) (defScope s__law_refused) [] [] (He.ga K "_law_refused") fd24 := F24
  obtain ⟨fd25, F25⟩ := c.def_ 25 (d := d__law_right) rfl
  have F25 : FunD K "_law_right" "_law_right" (defArgs s__law_right) (defBody s__law_right) (defScope s__law_right) [] [] (He.ga K "_law_right") fd25 := F25
  obtain ⟨fd26, F26⟩ := c.def_ 26 (d := d_law) rfl
  have F26 : FunD K "law" "law" (defArgs s_law) (defBody s_law) (defScope s_law) [] [] (He.ga K "law") fd26 := F26
  obtain ⟨fd27, F27⟩ := c.def_ 27 (d := d_NoHeights___init__) rfl
  have F27 : FunD K "__init__" "NoHeights.__init__" (defArgs s_NoHeights___init__) (defBody s_NoHeights___init__) (defScope s_NoHeights___init__) [] [] (He.ma K (He.ga K "NoHeights") "__init__") fd27 := F27
  have B_X_NoHeights : ∀ base, (∀ x ∈ (["_law_refused"] : List PySem.Str), LamX.TabB base mg (tabC K x) (tabA K x)) → CalX P w K mg base "NoHeights" (adr K).NoHeights := fun base hT => calX_of (He.glo_ok X G (c.fact 3 (f := .glo "NoHeights") rfl)) (oexVE (xs_at cx 5 rfl)) (He.meth_ok (c.fact 49 (f := .meth "NoHeights" "__init__") rfl)) (oe_NoHeights (initC_ok (xs_at cx 4 rfl) (He.glo_ok X G (c.fact 48 (f := .glo "RopeError") rfl))) F27) (F27.bindsN fun _ _ _ _ _ _ us hl => match us, hl with | [_, _], _ => rfl)
  obtain ⟨fd28, F28⟩ := c.def_ 28 (d := d_NoOrder___init__) rfl
  have F28 : FunD K "__init__" "NoOrder.__init__" (defArgs s_NoOrder___init__) (defBody s_NoOrder___init__) (defScope s_NoOrder___init__) [] [] (He.ma K (He.ga K "NoOrder") "__init__") fd28 := F28
  have B_X_NoOrder : ∀ base, (∀ x ∈ (["_law_refused"] : List PySem.Str), LamX.TabB base mg (tabC K x) (tabA K x)) → CalX P w K mg base "NoOrder" (adr K).NoOrder := fun base hT => calX_of (He.glo_ok X G (c.fact 4 (f := .glo "NoOrder") rfl)) (oexVE (xs_at cx 7 rfl)) (He.meth_ok (c.fact 50 (f := .meth "NoOrder" "__init__") rfl)) (oe_NoOrder (initC_ok (xs_at cx 6 rfl) (He.glo_ok X G (c.fact 48 (f := .glo "RopeError") rfl))) F28) (F28.bindsN fun _ _ _ _ _ _ us hl => match us, hl with | [_, _], _ => rfl)
  have Z0 := fun base (hT : ∀ x ∈ (["_law_refused"] : List PySem.Str), LamX.TabB base mg (tabC K x) (tabA K x)) => fz_is_whole (P := P) (w := w) (base := base) fx  F0
  have B_C_is_whole : ∀ base, (∀ x ∈ (["_law_refused"] : List PySem.Str), LamX.TabB base mg (tabC K x) (tabA K x)) → CalF P w K mg base 1 "is_whole" [] (sp_is_whole (adr K)) := fun base hT => by
    exact ⟨_, _, _, [], [], Z0 base hT, He.glo_ok X G (c.fact 22 (f := .glo "is_whole") rfl), F0.kp, (F0.bindsN fun _ _ _ _ _ _ us hl => match us, hl with | [_], _ => rfl), .nil, fun _ => Rs.nil⟩
  have Z1 := fun base (hT : ∀ x ∈ (["_law_refused"] : List PySem.Str), LamX.TabB base mg (tabC K x) (tabA K x)) => fz_is_within (P := P) (w := w) (base := base) fx (B_C_is_whole base hT) F1
  have B_C_is_within : ∀ base, (∀ x ∈ (["_law_refused"] : List PySem.Str), LamX.TabB base mg (tabC K x) (tabA K x)) → CalF P w K mg base 2 "is_within" [] (sp_is_within (adr K)) := fun base hT => by
    exact ⟨_, _, _, [], [], Z1 base hT, He.glo_ok X G (c.fact 23 (f := .glo "is_within") rfl), F1.kp, (F1.bindsN fun _ _ _ _ _ _ us hl => match us, hl with | [_, _, _], _ => rfl), .nil, fun _ => Rs.nil⟩
  have Z2 := fun base (hT : ∀ x ∈ (["_law_refused"] : List PySem.Str), LamX.TabB base mg (tabC K x) (tabA K x)) => fz_are_wholes (P := P) (w := w) (base := base) fx (B_C_is_whole base hT) F2
  have B_C_are_wholes : ∀ base, (∀ x ∈ (["_law_refused"] : List PySem.Str), LamX.TabB base mg (tabC K x) (tabA K x)) → CalF P w K mg base 2 "are_wholes" [] (sp_are_wholes (adr K)) := fun base hT => by
    exact ⟨_, _, _, [], [], Z2 base hT, He.glo_ok X G (c.fact 24 (f := .glo "are_wholes") rfl), F2.kp, (F2.bindsN fun _ _ _ _ _ _ us hl => match us, hl with | [_, _], _ => rfl), .nil, fun _ => Rs.nil⟩
  have Z3 := fun base (hT : ∀ x ∈ (["_law_refused"] : List PySem.Str), LamX.TabB base mg (tabC K x) (tabA K x)) => fz_is_rope (P := P) (w := w) (base := base) fx (B_C_is_whole base hT) (B_C_is_within base hT) F3
  have B_C_is_rope : ∀ base, (∀ x ∈ (["_law_refused"] : List PySem.Str), LamX.TabB base mg (tabC K x) (tabA K x)) → CalF P w K mg base 3 "is_rope" [] (sp_is_rope (adr K)) := fun base hT => by
    exact ⟨_, _, _, [], [], Z3 base hT, He.glo_ok X G (c.fact 25 (f := .glo "is_rope") rfl), F3.kp, (F3.bindsN fun _ _ _ _ _ _ us hl => match us, hl with | [_, _], _ => rfl), .nil, fun _ => Rs.nil⟩
  have Z4 := fun base (hT : ∀ x ∈ (["_law_refused"] : List PySem.Str), LamX.TabB base mg (tabC K x) (tabA K x)) => fz_look_at_ropes (P := P) (w := w) (base := base) fx (B_C_is_rope base hT) F4
  have B_C_look_at_ropes_2 : ∀ base, (∀ x ∈ (["_law_refused"] : List PySem.Str), LamX.TabB base mg (tabC K x) (tabA K x)) → CalF P w K mg base 4 "look_at_ropes" dfl_look_at_ropes_2 (sp_look_at_ropes (adr K)) := fun base hT => by
    obtain ⟨dsv, hv, hb⟩ := (F4.binds1 (ps := P_look_at_ropes) 2 0 (by simp) rfl fun T kV doc pm an cdv ct us its hu hi => match us, its, hu, hi with | [_, _], [_], _, _ => ⟨_, rfl, by kernel_rfl⟩)
    exact ⟨_, _, _, dsv, _, Z4 base hT, He.glo_ok X G (c.fact 26 (f := .glo "look_at_ropes") rfl), F4.kp, hb, hv, fun _ => Rs.cons (by unfold R; rfl) (Rs.nil)⟩
  have Z5 := fun base (hT : ∀ x ∈ (["_law_refused"] : List PySem.Str), LamX.TabB base mg (tabC K x) (tabA K x)) => fz_Rig___init__ (P := P) (w := w) (base := base) fx (B_C_is_within base hT) (B_C_look_at_ropes_2 base hT) F5
  have B_M_Rig : ∀ base, (∀ x ∈ (["_law_refused"] : List PySem.Str), LamX.TabB base mg (tabC K x) (tabA K x)) → CalC P w K mg base 5 "Rig" (adr K).Rig [] (sp_Rig___init__ (adr K)) := fun base hT => by
    obtain ⟨dsv, hv, hb⟩ := (F5.binds1 (ps := P_Rig___init__) 3 1 (by simp) rfl fun T kV doc pm an cdv ct us its hu hi => match us, its, hu, hi with | [_, _, _], [_], _, _ => ⟨_, rfl, by kernel_rfl⟩)
    exact ⟨He.glo_ok X G (c.fact 5 (f := .glo "Rig") rfl), _, _, _, dsv, _, He.mkr_ok (c.fact 27 (f := .mkr "Rig") rfl), Z5 base hT, hb, hv, fun _ => Rs.nil⟩
  have Z6 := fun base (hT : ∀ x ∈ (["_law_refused"] : List PySem.Str), LamX.TabB base mg (tabC K x) (tabA K x)) => fz_Rig_many (P := P) (w := w) (base := base) fx  F6
  have B_F_Rig_many : ∀ base, (∀ x ∈ (["_law_refused"] : List PySem.Str), LamX.TabB base mg (tabC K x) (tabA K x)) → CalM P w K mg base 1 (adr K).Rig "many" [] (sp_Rig_many (adr K)) := fun base hT => by
    exact ⟨He.cls_ok (c.fact 0 (f := .cls "Rig") rfl), _, _, _, [], [], He.meth_ok (c.fact 28 (f := .meth "Rig" "many") rfl), Z6 base hT, (F6.bindsN fun _ _ _ _ _ _ us hl => match us, hl with | [_], _ => rfl), .nil, fun _ => Rs.nil⟩
  have Z7 := fun base (hT : ∀ x ∈ (["_law_refused"] : List PySem.Str), LamX.TabB base mg (tabC K x) (tabA K x)) => fz_Rig_ropes (P := P) (w := w) (base := base) fx  F7
  have B_F_Rig_ropes : ∀ base, (∀ x ∈ (["_law_refused"] : List PySem.Str), LamX.TabB base mg (tabC K x) (tabA K x)) → CalM P w K mg base 1 (adr K).Rig "ropes" [] (sp_Rig_ropes (adr K)) := fun base hT => by
    exact ⟨He.cls_ok (c.fact 0 (f := .cls "Rig") rfl), _, _, _, [], [], He.meth_ok (c.fact 29 (f := .meth "Rig" "ropes") rfl), Z7 base hT, (F7.bindsN fun _ _ _ _ _ _ us hl => match us, hl with | [_], _ => rfl), .nil, fun _ => Rs.nil⟩
  have Z8 := fun base (hT : ∀ x ∈ (["_law_refused"] : List PySem.Str), LamX.TabB base mg (tabC K x) (tabA K x)) => fz_Rig___eq__ (P := P) (w := w) (base := base) fx  F8
  have B_Q_Rig : ∀ base, (∀ x ∈ (["_law_refused"] : List PySem.Str), LamX.TabB base mg (tabC K x) (tabA K x)) → EqO P w K mg base 1 (adr K).Rig (sp_Rig___eq__ (adr K)) := fun base hT => by
    exact ⟨_, _, _, Z8 base hT, (He.meth_ok (c.fact 30 (f := .meth "Rig" "__eq__") rfl)).at_, (He.meth_ok (c.fact 30 (f := .meth "Rig" "__eq__") rfl)).fn, (F8.bindsN fun _ _ _ _ _ _ us hl => match us, hl with | [_, _], _ => rfl)⟩
  have Z9 := fun base (hT : ∀ x ∈ (["_law_refused"] : List PySem.Str), LamX.TabB base mg (tabC K x) (tabA K x)) => fz_is_heights (P := P) (w := w) (base := base) fx (B_C_are_wholes base hT) (B_F_Rig_many base hT) F9
  have B_C_is_heights : ∀ base, (∀ x ∈ (["_law_refused"] : List PySem.Str), LamX.TabB base mg (tabC K x) (tabA K x)) → CalF P w K mg base 3 "is_heights" [] (sp_is_heights (adr K)) := fun base hT => by
    exact ⟨_, _, _, [], [], Z9 base hT, He.glo_ok X G (c.fact 31 (f := .glo "is_heights") rfl), F9.kp, (F9.bindsN fun _ _ _ _ _ _ us hl => match us, hl with | [_, _], _ => rfl), .nil, fun _ => Rs.nil⟩
  have Z10 := fun base (hT : ∀ x ∈ (["_law_refused"] : List PySem.Str), LamX.TabB base mg (tabC K x) (tabA K x)) => fz_look_at_heights (P := P) (w := w) (base := base) fx (B_C_is_heights base hT) (B_X_NoHeights base hT) F10
  have B_C_look_at_heights : ∀ base, (∀ x ∈ (["_law_refused"] : List PySem.Str), LamX.TabB base mg (tabC K x) (tabA K x)) → CalF P w K mg base 4 "look_at_heights" [] (sp_look_at_heights (adr K)) := fun base hT => by
    exact ⟨_, _, _, [], [], Z10 base hT, He.glo_ok X G (c.fact 32 (f := .glo "look_at_heights") rfl), F10.kp, (F10.bindsN fun _ _ _ _ _ _ us hl => match us, hl with | [_, _], _ => rfl), .nil, fun _ => Rs.nil⟩
  have Z11 := fun base (hT : ∀ x ∈ (["_law_refused"] : List PySem.Str), LamX.TabB base mg (tabC K x) (tabA K x)) => fz_room_by (P := P) (w := w) (base := base) fx  F11
  have B_C_room_by : ∀ base, (∀ x ∈ (["_law_refused"] : List PySem.Str), LamX.TabB base mg (tabC K x) (tabA K x)) → CalF P w K mg base 1 "room_by" [] (sp_room_by (adr K)) := fun base hT => by
    exact ⟨_, _, _, [], [], Z11 base hT, He.glo_ok X G (c.fact 33 (f := .glo "room_by") rfl), F11.kp, (F11.bindsN fun _ _ _ _ _ _ us hl => match us, hl with | [_, _], _ => rfl), .nil, fun _ => Rs.nil⟩
  have Z12 := fun base (hT : ∀ x ∈ (["_law_refused"] : List PySem.Str), LamX.TabB base mg (tabC K x) (tabA K x)) => fz_broken (P := P) (w := w) (base := base) fx (B_C_look_at_heights base hT) (B_C_room_by base hT) (B_F_Rig_ropes base hT) F12
  have B_C_broken : ∀ base, (∀ x ∈ (["_law_refused"] : List PySem.Str), LamX.TabB base mg (tabC K x) (tabA K x)) → CalF P w K mg base 5 "broken" [] (sp_broken (adr K)) := fun base hT => by
    exact ⟨_, _, _, [], [], Z12 base hT, He.glo_ok X G (c.fact 34 (f := .glo "broken") rfl), F12.kp, (F12.bindsN fun _ _ _ _ _ _ us hl => match us, hl with | [_, _], _ => rfl), .nil, fun _ => Rs.nil⟩
  have Z13 := fun base (hT : ∀ x ∈ (["_law_refused"] : List PySem.Str), LamX.TabB base mg (tabC K x) (tabA K x)) => fz_Rig_turned (P := P) (w := w) (base := base) fx (B_M_Rig base hT) F13
  have B_F_Rig_turned : ∀ base, (∀ x ∈ (["_law_refused"] : List PySem.Str), LamX.TabB base mg (tabC K x) (tabA K x)) → CalM P w K mg base 7 (adr K).Rig "turned" [] (sp_Rig_turned (adr K)) := fun base hT => by
    exact ⟨He.cls_ok (c.fact 0 (f := .cls "Rig") rfl), _, _, _, [], [], He.meth_ok (c.fact 35 (f := .meth "Rig" "turned") rfl), Z13 base hT, (F13.bindsN fun _ _ _ _ _ _ us hl => match us, hl with | [_], _ => rfl), .nil, fun _ => Rs.nil⟩
  have Z14 := fun base (hT : ∀ x ∈ (["_law_refused"] : List PySem.Str), LamX.TabB base mg (tabC K x) (tabA K x)) => fz_Rig_called (P := P) (w := w) (base := base) fx (B_C_are_wholes base hT) (B_M_Rig base hT) (B_X_NoOrder base hT) F14
  have B_F_Rig_called : ∀ base, (∀ x ∈ (["_law_refused"] : List PySem.Str), LamX.TabB base mg (tabC K x) (tabA K x)) → CalM P w K mg base 7 (adr K).Rig "called" [] (sp_Rig_called (adr K)) := fun base hT => by
    exact ⟨He.cls_ok (c.fact 0 (f := .cls "Rig") rfl), _, _, _, [], [], He.meth_ok (c.fact 36 (f := .meth "Rig" "called") rfl), Z14 base hT, (F14.bindsN fun _ _ _ _ _ _ us hl => match us, hl with | [_, _], _ => rfl), .nil, fun _ => Rs.nil⟩
  have Z15 := fun base (hT : ∀ x ∈ (["_law_refused"] : List PySem.Str), LamX.TabB base mg (tabC K x) (tabA K x)) => fz_Rig_measured (P := P) (w := w) (base := base) fx (B_C_are_wholes base hT) (B_M_Rig base hT) (B_X_NoHeights base hT) F15
  have B_F_Rig_measured : ∀ base, (∀ x ∈ (["_law_refused"] : List PySem.Str), LamX.TabB base mg (tabC K x) (tabA K x)) → CalM P w K mg base 7 (adr K).Rig "measured" [] (sp_Rig_measured (adr K)) := fun base hT => by
    exact ⟨He.cls_ok (c.fact 0 (f := .cls "Rig") rfl), _, _, _, [], [], He.meth_ok (c.fact 37 (f := .meth "Rig" "measured") rfl), Z15 base hT, (F15.bindsN fun _ _ _ _ _ _ us hl => match us, hl with | [_, _], _ => rfl), .nil, fun _ => Rs.nil⟩
  have Z16 := fun base (hT : ∀ x ∈ (["_law_refused"] : List PySem.Str), LamX.TabB base mg (tabC K x) (tabA K x)) => fz__law_pool (P := P) (w := w) (base := base) fx  F16
  have B_C__law_pool : ∀ base, (∀ x ∈ (["_law_refused"] : List PySem.Str), LamX.TabB base mg (tabC K x) (tabA K x)) → CalF P w K mg base 1 "_law_pool" [] (sp__law_pool (adr K)) := fun base hT => by
    exact ⟨_, _, _, [], [], Z16 base hT, He.glo_ok X G (c.fact 38 (f := .glo "_law_pool") rfl), F16.kp, (F16.bindsN fun _ _ _ _ _ _ us hl => match us, hl with | [_, _], _ => rfl), .nil, fun _ => Rs.nil⟩
  have Z17 := fun base (hT : ∀ x ∈ (["_law_refused"] : List PySem.Str), LamX.TabB base mg (tabC K x) (tabA K x)) => fz__law_take (P := P) (w := w) (base := base) fx  F17
  have B_C__law_take : ∀ base, (∀ x ∈ (["_law_refused"] : List PySem.Str), LamX.TabB base mg (tabC K x) (tabA K x)) → CalF P w K mg base 1 "_law_take" [] (sp__law_take (adr K)) := fun base hT => by
    exact ⟨_, _, _, [], [], Z17 base hT, He.glo_ok X G (c.fact 39 (f := .glo "_law_take") rfl), F17.kp, (F17.bindsN fun _ _ _ _ _ _ us hl => match us, hl with | [_, _], _ => rfl), .nil, fun _ => Rs.nil⟩
  have Z18 := fun base (hT : ∀ x ∈ (["_law_refused"] : List PySem.Str), LamX.TabB base mg (tabC K x) (tabA K x)) => fz__law_height (P := P) (w := w) (base := base) fx (B_C__law_take base hT) F18
  have B_C__law_height : ∀ base, (∀ x ∈ (["_law_refused"] : List PySem.Str), LamX.TabB base mg (tabC K x) (tabA K x)) → CalF P w K mg base 2 "_law_height" [] (sp__law_height (adr K)) := fun base hT => by
    exact ⟨_, _, _, [], [], Z18 base hT, He.glo_ok X G (c.fact 40 (f := .glo "_law_height") rfl), F18.kp, (F18.bindsN fun _ _ _ _ _ _ us hl => match us, hl with | [_], _ => rfl), .nil, fun _ => Rs.nil⟩
  have Z19 := fun base (hT : ∀ x ∈ (["_law_refused"] : List PySem.Str), LamX.TabB base mg (tabC K x) (tabA K x)) => fz__law_high (P := P) (w := w) (base := base) fx (B_C__law_height base hT) F19
  have B_C__law_high : ∀ base, (∀ x ∈ (["_law_refused"] : List PySem.Str), LamX.TabB base mg (tabC K x) (tabA K x)) → CalF P w K mg base 3 "_law_high" [] (sp__law_high (adr K)) := fun base hT => by
    exact ⟨_, _, _, [], [], Z19 base hT, He.glo_ok X G (c.fact 41 (f := .glo "_law_high") rfl), F19.kp, (F19.bindsN fun _ _ _ _ _ _ us hl => match us, hl with | [_, _], _ => rfl), .nil, fun _ => Rs.nil⟩
  have Z20 := fun base (hT : ∀ x ∈ (["_law_refused"] : List PySem.Str), LamX.TabB base mg (tabC K x) (tabA K x)) => fz__law_letting (P := P) (w := w) (base := base) fx (B_C__law_take base hT) F20
  have B_C__law_letting : ∀ base, (∀ x ∈ (["_law_refused"] : List PySem.Str), LamX.TabB base mg (tabC K x) (tabA K x)) → CalF P w K mg base 2 "_law_letting" [] (sp__law_letting (adr K)) := fun base hT => by
    exact ⟨_, _, _, [], [], Z20 base hT, He.glo_ok X G (c.fact 42 (f := .glo "_law_letting") rfl), F20.kp, (F20.bindsN fun _ _ _ _ _ _ us hl => match us, hl with | [_, _, _], _ => rfl), .nil, fun _ => Rs.nil⟩
  have Z21 := fun base (hT : ∀ x ∈ (["_law_refused"] : List PySem.Str), LamX.TabB base mg (tabC K x) (tabA K x)) => fz__law_order (P := P) (w := w) (base := base) fx (B_C__law_take base hT) F21
  have B_C__law_order : ∀ base, (∀ x ∈ (["_law_refused"] : List PySem.Str), LamX.TabB base mg (tabC K x) (tabA K x)) → CalF P w K mg base 2 "_law_order" [] (sp__law_order (adr K)) := fun base hT => by
    exact ⟨_, _, _, [], [], Z21 base hT, He.glo_ok X G (c.fact 43 (f := .glo "_law_order") rfl), F21.kp, (F21.bindsN fun _ _ _ _ _ _ us hl => match us, hl with | [_, _], _ => rfl), .nil, fun _ => Rs.nil⟩
  have Z22 := fun base (hT : ∀ x ∈ (["_law_refused"] : List PySem.Str), LamX.TabB base mg (tabC K x) (tabA K x)) => fz__law_called (P := P) (w := w) (base := base) fx  F22
  have B_C__law_called : ∀ base, (∀ x ∈ (["_law_refused"] : List PySem.Str), LamX.TabB base mg (tabC K x) (tabA K x)) → CalF P w K mg base 1 "_law_called" [] (sp__law_called (adr K)) := fun base hT => by
    exact ⟨_, _, _, [], [], Z22 base hT, He.glo_ok X G (c.fact 44 (f := .glo "_law_called") rfl), F22.kp, (F22.bindsN fun _ _ _ _ _ _ us hl => match us, hl with | [_, _], _ => rfl), .nil, fun _ => Rs.nil⟩
  have B_D__law_kind : ∀ base, (∀ x ∈ (["_law_refused"] : List PySem.Str), LamX.TabB base mg (tabC K x) (tabA K x)) → CalL P w K mg base 0 "_law_kind" (sp__law_kind (adr K)) := fun base hT => cl__law_kind (P := P) (w := w) (base := base) fx  F23 (He.glo_ok X G (c.fact 45 (f := .glo "_law_kind") rfl)) (F23.bindsN fun _ _ _ _ _ _ us hl => match us, hl with | [_], _ => rfl)
  have Z24 := fun base (hT : ∀ x ∈ (["_law_refused"] : List PySem.Str), LamX.TabB base mg (tabC K x) (tabA K x)) => fz__law_refused (P := P) (w := w) (base := base) (a := adr K) fx (B_C__law_take base hT) (B_D__law_kind base hT) (B_F_Rig_called base hT) (B_F_Rig_measured base hT) (hT "_law_refused" (by decide +kernel)) (codeT F24 X G (He.glo_ok X G (c.fact 46 (f := .glo "_law_refused") rfl)) (tabsB_in hms (x := "_law_refused") (by decide +kernel)).1) F24
  have B_C__law_refused : ∀ base, (∀ x ∈ (["_law_refused"] : List PySem.Str), LamX.TabB base mg (tabC K x) (tabA K x)) → CalF P w K mg base 10 "_law_refused" [] (sp__law_refused (adr K)) := fun base hT => by
    exact ⟨_, _, _, [], [], Z24 base hT, He.glo_ok X G (c.fact 46 (f := .glo "_law_refused") rfl), F24.kp, (F24.bindsN fun _ _ _ _ _ _ us hl => match us, hl with | [_, _, _], _ => rfl), .nil, fun _ => Rs.nil⟩
  have Z25 := fun base (hT : ∀ x ∈ (["_law_refused"] : List PySem.Str), LamX.TabB base mg (tabC K x) (tabA K x)) => fz__law_right (P := P) (w := w) (base := base) fx (B_C__law_called base hT) (B_C_broken base hT) (B_F_Rig_called base hT) (B_F_Rig_measured base hT) (B_F_Rig_turned base hT) F25
  have B_C__law_right : ∀ base, (∀ x ∈ (["_law_refused"] : List PySem.Str), LamX.TabB base mg (tabC K x) (tabA K x)) → CalF P w K mg base 8 "_law_right" [] (sp__law_right (adr K)) := fun base hT => by
    exact ⟨_, _, _, [], [], Z25 base hT, He.glo_ok X G (c.fact 47 (f := .glo "_law_right") rfl), F25.kp, (F25.bindsN fun _ _ _ _ _ _ us hl => match us, hl with | [_, _, _, _], _ => rfl), .nil, fun _ => Rs.nil⟩
  have Z26 := fun base (hT : ∀ x ∈ (["_law_refused"] : List PySem.Str), LamX.TabB base mg (tabC K x) (tabA K x)) => fz_law (P := P) (w := w) (base := base) fx (B_C__law_called base hT) (B_C__law_height base hT) (B_C__law_high base hT) (B_C__law_letting base hT) (B_C__law_order base hT) (B_C__law_pool base hT) (B_C__law_refused base hT) (B_C__law_right base hT) (B_C__law_take base hT) (B_F_Rig_called base hT) (B_F_Rig_measured base hT) (B_F_Rig_ropes base hT) (B_F_Rig_turned base hT) (B_M_Rig base hT) (B_Q_Rig base hT) F26
  have e := hfa.symm.trans (He.glo_ok X G (c.fact 51 (f := .glo "law") rfl))
  cases e
  have b := FunD.bindsA (ps := ["_law_script"]) F26 fun _ _ _ _ _ _ us hl => match us, hl with | [_], _ => rfl
  exact ⟨fd26, fun s v => b s [v] rfl, fun base _ _ hT => Z26 base hT⟩
end Z
open PySem PySem.W PySem.Calls PyProof.Rows
set_option maxHeartbeats 0 in
theorem PySem.Challenge.cw_ropedclimbers_k14_whole_rigs_led_over_holds : PySem.Challenge.rw_ropedclimbers_k14_whole_rigs_led_over.Holds := by
  w_on; o_law
  refine HandSHeadRun.head_any (r := OpenLaw.row PySem.Challenge.rw_ropedclimbers_k14_whole_rigs_led_over) (q := view (OpenLaw.row PySem.Challenge.rw_ropedclimbers_k14_whole_rigs_led_over).prog [31, 34]) (H := Z.hk) (ob := Z.ob) (M := 12000) (loose := Z.loose) (d := HandSHeadRun.topDef (OpenLaw.row PySem.Challenge.rw_ropedclimbers_k14_whole_rigs_led_over).prog 34) (kwd := []) Z.ob_eq
    (by kernel_rfl) (fun s => by kernel_rfl) Z.run (by kernel_rfl) (by kernel_rfl) (by kernel_rfl) (by rfl) (by first | assumption | decide +kernel) (by decide +kernel) ⟨rfl, rfl, rfl, rfl, rfl, by decide +kernel⟩ ?hw ?hc
  case hw => w_witness2
  case hc =>
    refine Z.walk_ofZT (ms := (["_law_refused"] : List PySem.Str)) (Z.hq_of (by kernel_rfl)) (l := PySem.Challenge.rw_ropedclimbers_k14_whole_rigs_led_over) (n := 63) (k := 11) (x := "_law_script") rfl (by decide) (by kernel_rfl) ⟨rfl, by decide, by decide⟩ ?F
    intro w mg fa h Y G hmg0
    obtain ⟨K, KX, c, cx⟩ := Y
    have hmg : mg ("law" : PySem.Str) = some (.ref fa) := by
      have e : (HandSHeadRun.topDef (OpenLaw.row PySem.Challenge.rw_ropedclimbers_k14_whole_rigs_led_over).prog 34).name = ("law" : PySem.Str) := by kernel_rfl
      rw [← e]
      exact hmg0
    have hms : Z.tabsB (["_law_refused"] : List PySem.Str) K = true := (Z.xs_at cx 8 rfl)
    obtain ⟨fd, hb, hF⟩ := Z.facts (P := (PySem.Challenge.rw_ropedclimbers_k14_whole_rigs_led_over).prog) (w := w) KX G hmg c cx hms
    exact ⟨K, fd, Z.sp_law (Z.adr K), KX, hms, hb, fun ns hl => ⟨ns, rfl, hl, Z.tabS_at hms (x := "_law_refused") (by decide +kernel), fun _ => rfl⟩, hF⟩

